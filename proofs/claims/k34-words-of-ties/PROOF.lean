import PyProof.Rows.All
import HandS.ForMost
import HandS.ForExc
import HandS.CallSlots
import HandS.TryMany
import HandS.ExcInit
import HandS.HeadHook4
import KE.KDictKeyed
import HandS.Style
import HandS.Defaults
import HandS.TupAny
import HandS.Deep
import HandS.Wide
import KE.DataCmp
import KE.SortData
import HandS.Conv
import HandS.IsInst
import HandS.More
import HandS.Text
import KE.DataMinMax
import KE.SortCalls
import HandS.Strs
import HandS.Replace
import KE.KIntText
import HandS.HeadEnd
import PySem.Challenge.RW_kinlines_k34_words_of_ties
import Wide.All
import OpenK.AllK
import Wide.FinOn
import KE.KStateDown
import Lean
import HandS.Base
import HandS.Call
import HandS.Ends
import HandS.Words
import HandS.WordsExc
import HandS.Head0
import HandS.Head1
import HandS.Head2
import HandS.HeadHook1
import HandS.HeadHook2
import HandS.HeadHook3
set_option Elab.async false
set_option linter.all false
set_option maxRecDepth 100000
set_option maxHeartbeats 4000000
/-! TLa: values as trees over the hand layer's heap: what a tree is, how it lies in the heap, how it stays. -/
namespace TL
open PySem PySem.Spec PyProof.Rows L2

/-- a sign: texts are of these alone -/
abbrev Sg := Fin 128
def txt (x : List Sg) : Str := ⟨(x.map (·.val)).toArray⟩
theorem txt_list (x : List Sg) : (txt x).cps.toList = x.map (·.val) := rfl
theorem map_val_inj : ∀ {x y : List Sg}, x.map (·.val) = y.map (·.val) → x = y
  | [], [], _ => rfl
  | [], _ :: _, h => by cases h
  | _ :: _, [], h => by cases h
  | a :: x, b :: y, h => by
    rw [List.map_cons, List.map_cons] at h
    injection h with h1 h2
    rw [Fin.ext h1, map_val_inj h2]
theorem txt_inj {x y : List Sg} (h : txt x = txt y) : x = y := map_val_inj (by rw [← txt_list, h, txt_list])
theorem txt_len (x : List Sg) : (txt x).length = x.length := by
  show (x.map (·.val)).toArray.size = x.length
  simp
theorem txt_app (x y : List Sg) : txt (x ++ y) = txt x ++ txt y := by
  show (⟨((x ++ y).map (·.val)).toArray⟩ : Str) = ⟨(x.map (·.val)).toArray ++ (y.map (·.val)).toArray⟩
  simp
/-- a value as a tree; ref: a thing that may change, told by the store -/
inductive T where
  | non
  | bl (b : Bool)
  | int (i : Int)
  | str (x : List Sg)
  | tup (xs : List T)
  | lst (xs : List T)
  | ref (a : Addr)
  | exc (c : Str) (ns : List Str) (vs : List T)
  | dct (nst : Bool) (ks vs : List T)
  | obj (c : Str) (ns : List Str) (vs : List T)
  | fn (x : Str)
  | scr (ns : List Int)
  deriving Inhabited

/-- what may change -/
inductive Cell where
  | lst (xs : List T)
  | dct (nst : Bool) (ks vs : List T)
  | ins (c : Str) (ns : List Str) (vs : List T)

abbrev Sto := Addr → Option Cell
abbrev TEnv := List (Option T)
def ups (S : Sto) (a : Addr) (c : Cell) : Sto := fun b => if b = a then some c else S b
theorem ups_same {S : Sto} {a : Addr} {c : Cell} : ups S a c a = some c := if_pos rfl
theorem ups_ne {S : Sto} {a b : Addr} {c : Cell} (h : b ≠ a) : ups S a c b = S b := if_neg h
def offs (S : Sto) (a : Addr) : Sto := fun b => if b = a then none else S b
theorem offs_same {S : Sto} {a : Addr} : offs S a a = none := if_pos rfl
theorem offs_ne {S : Sto} {a b : Addr} (h : b ≠ a) : offs S a b = S b := if_neg h

mutual
/-- a key, up to == -/
def keyOf : T → Option NestedKey
  | .non => some .none
  | .bl b => some (.num (if b = true then 1 else 0))
  | .int i => some (.num i)
  | .str x => some (.text (txt x))
  | .tup ts => (keysOf ts).map .tup
  | _ => none
def keysOf : List T → Option (List NestedKey)
  | [] => some []
  | t :: ts => match keyOf t, keysOf ts with
    | some k, some ks => some (k :: ks)
    | _, _ => none
end

def isFrz : HO → Bool
  | .frz _ _ => true
  | _ => false
/-- the written part and the world -/
structure Gd where
  P : Program
  K : PySem.W.Frag
  w : World
  /-- what is not looked at -/
  M : Addr → Prop
/-- an object of the written part -/
def StT (K : PySem.W.Frag) (a : Addr) (xs : List V) : Prop :=
  ∃ (o : Obj) (its : Array Value) (n : Nat), K.lookup a = some o ∧ o.cls = .type "tuple" ∧ o.data = .seq its n ∧ its.size ≤ sizeLine ∧ Vals xs its.toList
def StL (K : PySem.W.Frag) (a : Addr) (xs : List V) : Prop :=
  ∃ (o : Obj) (its : Array Value) (n : Nat), K.lookup a = some o ∧ o.cls = .type "list" ∧ o.dict = none ∧ o.data = .seq its n ∧ its.size ≤ sizeLine ∧ Vals xs its.toList
/-- tracked as u, and no cell -/
def At (M : Addr → Prop) (H : Hp) (S : Sto) (a : Addr) (u : HO) : Prop := Rd H a u ∧ S a = none ∧ ¬ M a
def TupAt (G : Gd) (H : Hp) (S : Sto) (a : Addr) (xs : List V) : Prop := At G.M H S a (.tup xs) ∨ StT G.K a xs
def LstAt (G : Gd) (H : Hp) (S : Sto) (a : Addr) (xs : List V) : Prop := H a = some (.lst xs) ∧ S a = none ∧ ¬ G.M a
/-- the law's script -/
def ScrAt (G : Gd) (H : Hp) (S : Sto) (a : Addr) (xs : List V) : Prop := (∃ o, H a = some (.frz o (.lst xs)) ∧ S a = none ∧ ¬ G.M a) ∨ StL G.K a xs
theorem ScrAt.sq {G : Gd} {H : Hp} {S : Sto} {a : Addr} {xs : List V} (h : ScrAt G H S a xs) : SqL G.K H a xs := h.elim (fun ⟨o, z, _⟩ => .inl (.inr ⟨o, z⟩)) .inr
theorem TupAt.sq {G : Gd} {H : Hp} {S : Sto} {a : Addr} {xs : List V} (h : TupAt G H S a xs) : SqT G.K H a xs := h.elim (fun z => .inl z.1) .inr
theorem LstAt.sq {G : Gd} {H : Hp} {S : Sto} {a : Addr} {xs : List V} (h : LstAt G H S a xs) : SqL G.K H a xs := SqL.of h.1
/-- the entries of a dict by tuples, as its object holds them -/
def rawN (w : World) (a : Addr) (es : List (NestedKey × Addr × V)) (h : Heap) : Prop :=
  es.length ≤ sizeLine ∧ (a == sysModules) = false ∧ (∀ e ∈ es, e.1.depth ≤ 8) ∧ (es.map (·.1)).Nodup ∧
    ∃ us : List Value, Vals (es.map (·.2.2)) us ∧ ∃ o en ep, h.get? a = some o ∧ o.ExactDict ∧ o.data = .dict en ep ∧
      en.toList = (es.zip us).map fun q => (⟨q.1.1.hash w, .ref q.1.2.1, q.2⟩ : DictEntry)
def dN (w : World) (a : Addr) (es : List (NestedKey × Addr × V)) : HO := .ext (rawN w a es)

mutual
/-- the tree t lies as v -/
inductive Rep (G : Gd) (H : Hp) (S : Sto) : T → V → Prop
  | non : Rep G H S .non .non
  | bl (b : Bool) : Rep G H S (.bl b) (.bl b)
  | int (i : Int) : Rep G H S (.int i) (.int i)
  | str (x : List Sg) : Rep G H S (.str x) (.str (txt x))
  | ref (a : Addr) : Rep G H S (.ref a) (.ref a)
  | fn (x : Str) : Rep G H S (.fn x) (.ref (He.ga G.K x))
  | scr {a : Addr} {ns : List Int} : ScrAt G H S a (ns.map V.int) → Rep G H S (.scr ns) (.ref a)
  | tup {a : Addr} {xs : List V} {ts : List T} : TupAt G H S a xs → Reps G H S ts xs → Rep G H S (.tup ts) (.ref a)
  | lst {a : Addr} {xs : List V} {ts : List T} : LstAt G H S a xs → Reps G H S ts xs → Rep G H S (.lst ts) (.ref a)
  | exc0 {a : Addr} {c : Str} : At G.M H S a (exo a (He.ga G.K c) none) → Rep G H S (.exc c [] []) (.ref a)
  | exc1 {a d : Addr} {c : Str} {ns : List Str} {ts : List T} {xs : List V} : At G.M H S a (exo a (He.ga G.K c) (some d)) → At G.M H S d (exd d (ns.zip xs)) → ns.length = xs.length → Reps G H S ts xs → Rep G H S (.exc c ns ts) (.ref a)
  | dK {a : Addr} {kvs : List (Key × V)} {ks vs : List T} : At G.M H S a (.dK kvs) → Reps G H S ks (kvs.map fun p => kV p.1) → Reps G H S vs (kvs.map (·.2)) → Rep G H S (.dct false ks vs) (.ref a)
  | dN {a : Addr} {es : List (NestedKey × Addr × V)} {ks vs : List T} : At G.M H S a (dN G.w a es) → keysOf ks = some (es.map (·.1)) → Reps G H S ks (es.map fun e => V.ref e.2.1) → Reps G H S vs (es.map (·.2.2)) → Rep G H S (.dct true ks vs) (.ref a)
  | obj {a d : Addr} {c : Str} {ns : List Str} {ts : List T} {xs : List V} : At G.M H S a (.ins (He.ga G.K c) d (ns.zip xs)) → ns.length = xs.length → Reps G H S ts xs → Rep G H S (.obj c ns ts) (.ref a)
inductive Reps (G : Gd) (H : Hp) (S : Sto) : List T → List V → Prop
  | nil : Reps G H S [] []
  | cons {t : T} {ts : List T} {v : V} {vs : List V} : Rep G H S t v → Reps G H S ts vs → Reps G H S (t :: ts) (v :: vs)
end

/-- a thing that may change, as it lies -/
def CellOk (G : Gd) (H : Hp) (S : Sto) (a : Addr) : Cell → Prop
  | .lst ts => ∃ xs, H a = some (.lst xs) ∧ Reps G H S ts xs
  | .dct false ks vs => ∃ kvs : List (Key × V), H a = some (.dK kvs) ∧ Reps G H S ks (kvs.map fun p => kV p.1) ∧ Reps G H S vs (kvs.map (·.2))
  | .dct true ks vs => ∃ es : List (NestedKey × Addr × V), H a = some (dN G.w a es) ∧ keysOf ks = some (es.map (·.1)) ∧ Reps G H S ks (es.map fun e => V.ref e.2.1) ∧ Reps G H S vs (es.map (·.2.2))
  | .ins c ns ts => ∃ d xs, H a = some (.ins (He.ga G.K c) d (ns.zip xs)) ∧ ns.length = xs.length ∧ Reps G H S ts xs
structure StoOk (G : Gd) (H : Hp) (S : Sto) : Prop where
  at_ : ∀ a c, S a = some c → CellOk G H S a c
  msk : ∀ a, G.M a → H a ≠ none
  sep : ∀ a, G.M a → S a = none

/-- what a loop may lock -/
def isD : HO → Bool
  | .dK _ => true
  | .dT _ => true
  | .ext _ => true
  | _ => false
def lkd : HO → Bool
  | .frz _ u => isD u
  | u => isD u
/-- what lay still lies still, but for what is not looked at -/
def ExtM (M : Addr → Prop) (S : Sto) (H : Hp) (S' : Sto) (H' : Hp) : Prop := ∀ b u, ¬ M b → S b = none → (H b = some u → lkd u = false → H' b = some u ∧ S' b = none) ∧ (Rd H b u → isD u = true → Rd H' b u ∧ S' b = none)
/-- what lay still lies still -/
def Ext (S : Sto) (H : Hp) (S' : Sto) (H' : Hp) : Prop := ∀ b u, S b = none → (H b = some u → lkd u = false → H' b = some u ∧ S' b = none) ∧ (Rd H b u → isD u = true → Rd H' b u ∧ S' b = none)
section
variable {G : Gd} {H H' H2 : Hp} {S S' S2 : Sto} {M : Addr → Prop}
theorem Ext.m (x : Ext S H S' H') : ExtM M S H S' H' := fun b u _ => x b u
theorem Ext.refl : Ext S H S H := fun _ _ n => ⟨fun h _ => ⟨h, n⟩, fun h _ => ⟨h, n⟩⟩
theorem Ext.trans (x : Ext S H S' H') (y : Ext S' H' S2 H2) : Ext S H S2 H2 := fun b u n =>
  ⟨fun h f => let z := (x b u n).1 h f; (y b u z.2).1 z.1 f, fun h f => let z := (x b u n).2 h f; (y b u z.2).2 z.1 f⟩
theorem At.extM {a : Addr} {u : HO} (h : At M H S a u) (x : ExtM M S H S' H') (f : isFrz u = false := by rfl) : At M H' S' a u := by
  obtain ⟨h1, h2, h3⟩ := h
  cases hd : isD u with
  | true =>
    have w := (x a u h3 h2).2 h1 hd
    exact ⟨w.1, w.2, h3⟩
  | false =>
    rcases h1 with z | ⟨o, z⟩
    · have k : lkd u = false := by
        cases u <;> first | exact hd | cases f
      have w := (x a u h3 h2).1 z k
      exact ⟨.inl w.1, w.2, h3⟩
    · have w := (x a (.frz o u) h3 h2).1 z hd
      exact ⟨.inr ⟨o, w.1⟩, w.2, h3⟩
theorem TupAt.extM {a : Addr} {xs : List V} (h : TupAt G H S a xs) (x : ExtM G.M S H S' H') : TupAt G H' S' a xs := h.elim (fun z => .inl (z.extM x)) .inr
theorem LstAt.extM {a : Addr} {xs : List V} (h : LstAt G H S a xs) (x : ExtM G.M S H S' H') : LstAt G H' S' a xs := let w := (x a _ h.2.2 h.2.1).1 h.1 rfl; ⟨w.1, w.2, h.2.2⟩
theorem At.ext {a : Addr} {u : HO} (h : At M H S a u) (x : Ext S H S' H') (f : isFrz u = false := by rfl) : At M H' S' a u := h.extM x.m f
theorem TupAt.ext {a : Addr} {xs : List V} (h : TupAt G H S a xs) (x : Ext S H S' H') : TupAt G H' S' a xs := h.extM x.m
theorem LstAt.ext {a : Addr} {xs : List V} (h : LstAt G H S a xs) (x : Ext S H S' H') : LstAt G H' S' a xs := h.extM x.m
theorem Ext.exact {a : Addr} {u : HO} (x : Ext S H S' H') (h : H a = some u) (n : S a = none) (k : lkd u = false := by rfl) : H' a = some u ∧ S' a = none := (x a u n).1 h k
mutual
theorem Rep.extM (x : ExtM G.M S H S' H') : ∀ (t : T) (v : V), Rep G H S t v → Rep G H' S' t v
  | .non, _, h => by cases h; exact .non
  | .bl _, _, h => by cases h; exact .bl _
  | .int _, _, h => by cases h; exact .int _
  | .str _, _, h => by cases h; exact .str _
  | .ref _, _, h => by cases h; exact .ref _
  | .fn _, _, h => by cases h; exact .fn _
  | .scr _, _, h => by
    cases h with
    | scr h1 => exact .scr (h1.imp (fun ⟨o, z1, z2, z3⟩ => ⟨o, ((x _ _ z3 z2).1 z1 rfl).1, ((x _ _ z3 z2).1 z1 rfl).2, z3⟩) id)
  | .tup ts, _, h => by
    cases h with
    | tup h1 h2 => exact .tup (h1.extM x) (Reps.extM x ts _ h2)
  | .lst ts, _, h => by
    cases h with
    | lst h1 h2 => exact .lst (h1.extM x) (Reps.extM x ts _ h2)
  | .exc c ns ts, _, h => by
    cases h with
    | exc0 h1 => exact .exc0 (h1.extM x)
    | exc1 h1 h2 h3 h4 => exact .exc1 (h1.extM x) (h2.extM x) h3 (Reps.extM x ts _ h4)
  | .dct b ks vs, _, h => by
    cases h with
    | dK h1 h2 h3 => exact .dK (h1.extM x) (Reps.extM x ks _ h2) (Reps.extM x vs _ h3)
    | dN h1 h2 h3 h4 => exact .dN (h1.extM x) h2 (Reps.extM x ks _ h3) (Reps.extM x vs _ h4)
  | .obj c ns ts, _, h => by
    cases h with
    | obj h1 h2 h3 => exact .obj (h1.extM x) h2 (Reps.extM x ts _ h3)
theorem Reps.extM (x : ExtM G.M S H S' H') : ∀ (ts : List T) (vs : List V), Reps G H S ts vs → Reps G H' S' ts vs
  | [], _, h => by cases h; exact .nil
  | t :: ts, _, h => by
    cases h with
    | cons h1 h2 => exact .cons (Rep.extM x t _ h1) (Reps.extM x ts _ h2)
end
theorem Rep.ext (x : Ext S H S' H') (t : T) (v : V) (h : Rep G H S t v) : Rep G H' S' t v := Rep.extM x.m t v h
theorem Reps.ext (x : Ext S H S' H') (t : List T) (v : List V) (h : Reps G H S t v) : Reps G H' S' t v := Reps.extM x.m t v h
theorem CellOk.extM {a : Addr} {c : Cell} (h : CellOk G H S a c) (x : ExtM G.M S H S' H') (e : H' a = H a) : CellOk G H' S' a c := by
  cases c with
  | lst ts =>
    obtain ⟨xs, h1, h2⟩ := h
    exact ⟨xs, e.trans h1, Reps.extM x _ _ h2⟩
  | dct b ks vs =>
    cases b with
    | false =>
      obtain ⟨kvs, h1, h2, h3⟩ := h
      exact ⟨kvs, e.trans h1, Reps.extM x _ _ h2, Reps.extM x _ _ h3⟩
    | true =>
      obtain ⟨es, h1, h2, h3, h4⟩ := h
      exact ⟨es, e.trans h1, h2, Reps.extM x _ _ h3, Reps.extM x _ _ h4⟩
  | ins c ns ts =>
    obtain ⟨d, xs, h1, h2, h3⟩ := h
    exact ⟨d, xs, e.trans h1, h2, Reps.extM x _ _ h3⟩
theorem CellOk.ext {a : Addr} {c : Cell} (h : CellOk G H S a c) (x : Ext S H S' H') (e : H' a = H a) : CellOk G H' S' a c := h.extM x.m e
theorem CellOk.there {a : Addr} {c : Cell} (h : CellOk G H S a c) : ∃ o, H a = some o := by
  cases c with
  | lst ts => obtain ⟨xs, h1, _⟩ := h; exact ⟨_, h1⟩
  | dct b ks vs =>
    cases b with
    | false => obtain ⟨kvs, h1, _⟩ := h; exact ⟨_, h1⟩
    | true => obtain ⟨es, h1, _⟩ := h; exact ⟨_, h1⟩
  | ins c ns ts => obtain ⟨d, xs, h1, _⟩ := h; exact ⟨_, h1⟩
theorem StoOk.free (h : StoOk G H S) {a : Addr} (n : H a = none) : S a = none := by
  cases e : S a with
  | none => rfl
  | some c =>
    obtain ⟨o, q⟩ := (h.at_ a c e).there
    rw [n] at q
    cases q
theorem StoOk.nom (h : StoOk G H S) {a : Addr} (n : H a = none) : ¬ G.M a := fun m => h.msk a m n
theorem upd_some {p a : Addr} {o : HO} (h : H a ≠ none) : upd H p o a ≠ none := fun z => by
  by_cases e : a = p
  · subst e
    rw [upd_same] at z
    cases z
  · rw [upd_ne e] at z
    exact h z
theorem Rd.ne {p b : Addr} {u : HO} (n : H p = none) (h : Rd H b u) : b ≠ p := fun e => by
  subst e
  rcases h with h | ⟨_, h⟩ <;> rw [n] at h <;> cases h
theorem Rd.upd {p b : Addr} {u o : HO} (ne : b ≠ p) (h : Rd H b u) : Rd (upd H p o) b u := by
  rcases h with h | ⟨q, h⟩
  · exact .inl ((upd_ne ne).trans h)
  · exact .inr ⟨q, (upd_ne ne).trans h⟩
/-- a new object that no cell is -/
theorem Ext.new {p : Addr} {o : HO} (n : H p = none) : Ext S H S (upd H p o) := fun b u k =>
  ⟨fun h _ => ⟨(upd_ne (ne_of_none h n)).trans h, k⟩, fun h _ => ⟨Rd.upd (Rd.ne n h) h, k⟩⟩
theorem StoOk.new {p : Addr} {o : HO} (h : StoOk G H S) (n : H p = none) : StoOk G (upd H p o) S := ⟨fun a c e =>
  (h.at_ a c e).ext (Ext.new n) (upd_ne fun z => by
    subst z
    obtain ⟨o, q⟩ := (h.at_ _ c e).there
    rw [n] at q
    cases q), fun a m => upd_some (h.msk a m), h.sep⟩
/-- a cell written, or a new one -/
theorem Ext.cell {p : Addr} {o : HO} {c : Cell} (n : H p = none ∨ ∃ c, S p = some c) : Ext S H (ups S p c) (upd H p o) := fun b u k => by
  have ne : ∀ {u}, Rd H b u → b ≠ p := fun h e => by
    subst e
    rcases n with n | ⟨c, n⟩
    · exact Rd.ne n h rfl
    · rw [n] at k; cases k
  exact ⟨fun h _ => ⟨(upd_ne (ne (.inl h))).trans h, (ups_ne (ne (.inl h))).trans k⟩, fun h _ => ⟨Rd.upd (ne h) h, (ups_ne (ne h)).trans k⟩⟩
theorem StoOk.cell {p : Addr} {o : HO} {c : Cell} (h : StoOk G H S) (n : H p = none ∨ ∃ c, S p = some c) (k : CellOk G (upd H p o) (ups S p c) p c) : StoOk G (upd H p o) (ups S p c) := ⟨fun a d e => by
  by_cases q : a = p
  · subst q
    rw [ups_same] at e
    cases e
    exact k
  · rw [ups_ne q] at e
    exact (h.at_ a d e).ext (Ext.cell n) (upd_ne q), fun a m => upd_some (h.msk a m), fun a m => by
  have q : a ≠ p := fun e => by
    subst e
    rcases n with n | ⟨c, n⟩
    · exact h.nom n m
    · rw [h.sep _ m] at n
      cases n
  rw [ups_ne q]
  exact h.sep a m⟩
/-- a cell given up: it stands from now on -/
theorem Ext.drop (h : ∀ a, S a = none → S' a = none) : Ext S H S' H := fun b _ n => ⟨fun r _ => ⟨r, h b n⟩, fun r _ => ⟨r, h b n⟩⟩
theorem StoOk.drop (h : StoOk G H S) (k : ∀ a c, S' a = some c → S a = some c) : StoOk G H S' := ⟨fun a c e =>
  (h.at_ a c (k a c e)).ext (Ext.drop fun b n => by
    cases q : S' b with
    | none => rfl
    | some d => rw [k b d q] at n; cases n) rfl, h.msk, fun a m => by
  cases q : S' a with
  | none => rfl
  | some d =>
    have z := k a d q
    rw [h.sep a m] at z
    cases z⟩
/-- a thing that is not looked at is written -/
theorem ExtM.at {p : Addr} {o : HO} (h : M p) : ExtM M S H S (upd H p o) := fun b u nb k => by
  have ne : b ≠ p := fun e => nb (e ▸ h)
  exact ⟨fun h _ => ⟨(upd_ne ne).trans h, k⟩, fun h _ => ⟨Rd.upd ne h, k⟩⟩
theorem Reps.length : ∀ {ts : List T} {vs : List V}, Reps G H S ts vs → ts.length = vs.length
  | [], _, h => by cases h; rfl
  | _ :: _, _, h => by
    cases h with
    | cons _ h2 => rw [List.length_cons, List.length_cons, Reps.length h2]
theorem Reps.append : ∀ {ts us : List T} {vs ws : List V}, Reps G H S ts vs → Reps G H S us ws → Reps G H S (ts ++ us) (vs ++ ws)
  | [], _, _, _, h, h2 => by cases h; exact h2
  | _ :: _, _, _, _, h, h2 => by
    cases h with
    | cons q1 q2 => exact .cons q1 (Reps.append q2 h2)
theorem Reps.get : ∀ {ts : List T} {vs : List V} {i : Nat} {t : T}, Reps G H S ts vs → ts[i]? = some t → ∃ v, vs[i]? = some v ∧ Rep G H S t v
  | [], _, _, _, _, e => by simp at e
  | _ :: _, _, 0, _, h, e => by
    cases h with
    | cons q1 _ =>
      simp at e
      subst e
      exact ⟨_, rfl, q1⟩
  | _ :: _, _, i + 1, _, h, e => by
    cases h with
    | cons _ q2 =>
      obtain ⟨v, h1, h2⟩ := Reps.get (i := i) q2 (by simpa using e)
      exact ⟨v, by simpa using h1, h2⟩
theorem Reps.set {t : T} {v : V} (r : Rep G H S t v) : ∀ {ts : List T} {vs : List V} (i : Nat), Reps G H S ts vs → Reps G H S (ts.set i t) (vs.set i v)
  | [], _, _, h => by cases h; exact .nil
  | _ :: _, _, 0, h => by
    cases h with
    | cons _ q2 => exact .cons r q2
  | _ :: _, _, i + 1, h => by
    cases h with
    | cons q1 q2 => exact .cons q1 (Reps.set r i q2)
theorem Reps.take : ∀ {ts : List T} {vs : List V} (n : Nat), Reps G H S ts vs → Reps G H S (ts.take n) (vs.take n)
  | _, _, 0, _ => .nil
  | [], _, _ + 1, h => by cases h; exact .nil
  | _ :: _, _, n + 1, h => by
    cases h with
    | cons q1 q2 => exact .cons q1 (Reps.take n q2)
theorem Reps.drop : ∀ {ts : List T} {vs : List V} (n : Nat), Reps G H S ts vs → Reps G H S (ts.drop n) (vs.drop n)
  | _, _, 0, h => h
  | [], _, _ + 1, h => by cases h; exact .nil
  | _ :: _, _, n + 1, h => by
    cases h with
    | cons _ q2 => exact Reps.drop n q2
end
abbrev Gd.mask (G : Gd) (M : Addr → Prop) : Gd := { G with M := M }
section
variable {G : Gd} {H : Hp} {S : Sto} {M : Addr → Prop}
theorem At.mask {a : Addr} {u : HO} (k : ∀ a u, Rd H a u → ¬ G.M a → ¬ M a) (h : At G.M H S a u) : At (G.mask M).M H S a u := ⟨h.1, h.2.1, k a u h.1 h.2.2⟩
mutual
theorem Rep.mask (k : ∀ a u, Rd H a u → ¬ G.M a → ¬ M a) : ∀ (t : T) (v : V), Rep G H S t v → Rep (G.mask M) H S t v
  | .non, _, h => by cases h; exact .non
  | .bl _, _, h => by cases h; exact .bl _
  | .int _, _, h => by cases h; exact .int _
  | .str _, _, h => by cases h; exact .str _
  | .ref _, _, h => by cases h; exact .ref _
  | .fn _, _, h => by cases h; exact .fn _
  | .scr _, _, h => by
    cases h with
    | scr h1 => exact .scr (h1.imp (fun ⟨o, z1, z2, z3⟩ => ⟨o, z1, z2, k _ _ (.inl z1) z3⟩) id)
  | .tup ts, _, h => by
    cases h with
    | tup h1 h2 => exact .tup (h1.elim (fun z => .inl (z.mask k)) .inr) (Reps.mask k ts _ h2)
  | .lst ts, _, h => by
    cases h with
    | lst h1 h2 => exact .lst ⟨h1.1, h1.2.1, k _ _ (.inl h1.1) h1.2.2⟩ (Reps.mask k ts _ h2)
  | .exc c ns ts, _, h => by
    cases h with
    | exc0 h1 => exact .exc0 (h1.mask k)
    | exc1 h1 h2 h3 h4 => exact .exc1 (h1.mask k) (h2.mask k) h3 (Reps.mask k ts _ h4)
  | .dct b ks vs, _, h => by
    cases h with
    | dK h1 h2 h3 => exact .dK (h1.mask k) (Reps.mask k ks _ h2) (Reps.mask k vs _ h3)
    | dN h1 h2 h3 h4 => exact .dN (h1.mask k) h2 (Reps.mask k ks _ h3) (Reps.mask k vs _ h4)
  | .obj c ns ts, _, h => by
    cases h with
    | obj h1 h2 h3 => exact .obj (h1.mask k) h2 (Reps.mask k ts _ h3)
theorem Reps.mask (k : ∀ a u, Rd H a u → ¬ G.M a → ¬ M a) : ∀ (ts : List T) (vs : List V), Reps G H S ts vs → Reps (G.mask M) H S ts vs
  | [], _, h => by cases h; exact .nil
  | t :: ts, _, h => by
    cases h with
    | cons h1 h2 => exact .cons (Rep.mask k t _ h1) (Reps.mask k ts _ h2)
end
theorem CellOk.mask (k : ∀ a u, Rd H a u → ¬ G.M a → ¬ M a) {a : Addr} {c : Cell} (q : CellOk G H S a c) : CellOk (G.mask M) H S a c := by
  cases c with
  | lst ts =>
    obtain ⟨xs, h1, h2⟩ := q
    exact ⟨xs, h1, Reps.mask k _ _ h2⟩
  | dct b ks vs =>
    cases b with
    | false =>
      obtain ⟨kvs, h1, h2, h3⟩ := q
      exact ⟨kvs, h1, Reps.mask k _ _ h2, Reps.mask k _ _ h3⟩
    | true =>
      obtain ⟨es, h1, h2, h3, h4⟩ := q
      exact ⟨es, h1, h2, Reps.mask k _ _ h3, Reps.mask k _ _ h4⟩
  | ins c ns ts =>
    obtain ⟨d, xs, h1, h2, h3⟩ := q
    exact ⟨d, xs, h1, h2, Reps.mask k _ _ h3⟩
/-- the mask put on a new object, and taken off -/
theorem StoOk.putOn {D : Addr} {o : HO} (h : StoOk G H S) (n : H D = none) : StoOk (G.mask fun a => G.M a ∨ a = D) (upd H D o) S := by
  have k : ∀ a u, Rd H a u → ¬ G.M a → ¬ (G.M a ∨ a = D) := fun a u r m z => z.elim m fun e => Rd.ne n r e
  refine ⟨fun a c e => ((h.at_ a c e).mask k).ext (Ext.new n) (upd_ne fun z => ?_), fun a m => ?_, fun a m => ?_⟩
  · subst z
    rw [h.free n] at e
    cases e
  · rcases m with m | m
    · exact upd_some (h.msk a m)
    · rw [m, upd_same]
      exact fun z => nomatch z
  · rcases m with m | m
    · exact h.sep a m
    · rw [m]
      exact h.free n
theorem StoOk.takeOff {M' : Addr → Prop} (h : StoOk (G.mask M') H S) (k : ∀ a, G.M a → M' a) : StoOk G H S :=
  ⟨fun a c e => (h.at_ a c e).mask (M := G.M) fun a _ _ n m => n (k a m), fun a m => h.msk a (k a m), fun a m => h.sep a (k a m)⟩
theorem Reps.takeOff {M' : Addr → Prop} {ts : List T} {vs : List V} (h : Reps (G.mask M') H S ts vs) (k : ∀ a, G.M a → M' a) : Reps G H S ts vs := Reps.mask (G := G.mask M') (M := G.M) (fun a _ _ n m => n (k a m)) _ _ h
theorem Rep.takeOff {M' : Addr → Prop} {t : T} {v : V} (h : Rep (G.mask M') H S t v) (k : ∀ a, G.M a → M' a) : Rep G H S t v := Rep.mask (G := G.mask M') (M := G.M) (fun a _ _ n m => n (k a m)) _ _ h
/-- a masked object is written -/
theorem StoOk.at {p : Addr} {o : HO} (h : StoOk G H S) (m : G.M p) (n : S p = none) : StoOk G (upd H p o) S := ⟨fun a c e =>
  (h.at_ a c e).extM (ExtM.at m) (upd_ne fun z => by subst z; rw [n] at e; cases e), fun a m => upd_some (h.msk a m), h.sep⟩
end
end TL

/-! TLb: readings over trees; expressions, tests, arguments, small statements. -/
namespace TL
open PySem PySem.Spec PyProof.Rows L2

abbrev TTE := TEnv → Sto → (T → Sto → Prop) → (T → Sto → Prop) → Prop
abbrev TTA := TEnv → Sto → (List T → Sto → Prop) → (T → Sto → Prop) → Prop
abbrev TTB := TEnv → Sto → (Bool → Sto → Prop) → (T → Sto → Prop) → Prop
structure TD where
  nx : TEnv → Sto → Prop
  rt : T → Sto → Prop
  bk : TEnv → Sto → Prop := fun _ _ => False
  ct : TEnv → Sto → Prop := fun _ _ => False
abbrev TTS := TD → TEnv → Sto → (T → TEnv → Sto → Prop) → Prop

abbrev gdOf (X : Cx) (M : Addr → Prop) : Gd := ⟨X.prog, X.K, X.w, M⟩
def EnvR (G : Gd) (H : Hp) (S : Sto) (σ : L2.St) (τ : TEnv) : Prop := σ.length = τ.length ∧ ∀ (i : Nat) (t : T), τ[i]? = some (some t) → ∃ v, σ[i]? = some (some v) ∧ Rep G H S t v
/-- a state and its trees; S0, H0: at the def's entry -/
structure Rel (G : Gd) (S0 : Sto) (H0 : Hp) (σ : L2.St) (H : Hp) (τ : TEnv) (S : Sto) : Prop where
  env : EnvR G H S σ τ
  sto : StoOk G H S
  ext : Ext S0 H0 S H
/-- an exception that flies -/
def ExcIs (G : Gd) (H : Hp) (S : Sto) (x : T) (cls : Value) (d : Option Addr) : Prop :=
  ∃ c ns ts, x = .exc c ns ts ∧ cls = .ref (He.ga G.K c) ∧ ((ns = [] ∧ ts = [] ∧ d = none) ∨ ∃ da xs, d = some da ∧ At G.M H S da (exd da (ns.zip xs)) ∧ ns.length = xs.length ∧ Reps G H S ts xs)
def wOf (X : Cx) (M : Addr → Prop) (S0 : Sto) (H0 : Hp) (E : T → TEnv → Sto → Prop) : WX := fun cls d σ H => ∃ τ S x, Rel (gdOf X M) S0 H0 σ H τ S ∧ ExcIs (gdOf X M) H S x cls d ∧ E x τ S

section
variable {G : Gd} {S0 S S' : Sto} {H0 H H' : Hp} {σ : L2.St} {τ : TEnv}
theorem EnvR.ext (h : EnvR G H S σ τ) (x : Ext S H S' H') : EnvR G H' S' σ τ := ⟨h.1, fun i t e => let ⟨v, h1, h2⟩ := h.2 i t e; ⟨v, h1, Rep.ext x t v h2⟩⟩
theorem Rel.step (r : Rel G S0 H0 σ H τ S) (h : StoOk G H' S') (x : Ext S H S' H') : Rel G S0 H0 σ H' τ S' := ⟨r.env.ext x, h, r.ext.trans x⟩
theorem Rel.set {i : Nat} {t : T} {v : V} (r : Rel G S0 H0 σ H τ S) (h : Rep G H S t v) : Rel G S0 H0 (σ.set i (some v)) H (τ.set i (some t)) S := by
  refine ⟨⟨by rw [List.length_set, List.length_set]; exact r.env.1, fun j u e => ?_⟩, r.sto, r.ext⟩
  have l := r.env.1
  by_cases hj : i = j
  · subst hj
    have hi : i < τ.length := by
      have z := (List.getElem?_eq_some_iff.mp e).1
      rwa [List.length_set] at z
    rw [List.getElem?_set_self hi] at e
    cases e
    exact ⟨v, List.getElem?_set_self (by omega), h⟩
  · rw [List.getElem?_set_ne hj] at e
    obtain ⟨w, h1, h2⟩ := r.env.2 j u e
    exact ⟨w, by rw [List.getElem?_set_ne hj]; exact h1, h2⟩
end

/-! ### lifted readings -/
def LE (X : Cx) (M : Addr → Prop) (S0 : Sto) (H0 : Hp) (t : TTE) (E : T → TEnv → Sto → Prop) : L2.TE := fun σ H Q => ∃ τ S Qt, Rel (gdOf X M) S0 H0 σ H τ S ∧ t τ S Qt (fun x S' => E x τ S') ∧
  ∀ z S' v H', Qt z S' → StoOk (gdOf X M) H' S' → Ext S H S' H' → Rep (gdOf X M) H' S' z v → Q v H'
def LB (X : Cx) (M : Addr → Prop) (S0 : Sto) (H0 : Hp) (t : TTB) (E : T → TEnv → Sto → Prop) : L2.TT := fun σ H Q => ∃ τ S Qt, Rel (gdOf X M) S0 H0 σ H τ S ∧ t τ S Qt (fun x S' => E x τ S') ∧
  ∀ b S' H', Qt b S' → StoOk (gdOf X M) H' S' → Ext S H S' H' → Q b H'
def LA (X : Cx) (M : Addr → Prop) (S0 : Sto) (H0 : Hp) (t : TTA) (E : T → TEnv → Sto → Prop) : L2.TA := fun σ H Q => ∃ τ S Qt, Rel (gdOf X M) S0 H0 σ H τ S ∧ t τ S Qt (fun x S' => E x τ S') ∧
  ∀ zs S' vs H', Qt zs S' → StoOk (gdOf X M) H' S' → Ext S H S' H' → Reps (gdOf X M) H' S' zs vs → Q vs H'
def LS (X : Cx) (M : Addr → Prop) (S0 : Sto) (H0 : Hp) (t : TTS) (E : T → TEnv → Sto → Prop) : L2.TS := fun D σ H => ∃ τ S B, Rel (gdOf X M) S0 H0 σ H τ S ∧ t B τ S E ∧
  (∀ σ' H' τ' S', Rel (gdOf X M) S0 H0 σ' H' τ' S' → Ext S H S' H' → B.nx τ' S' → D.nx σ' H') ∧ (∀ z S' v H', StoOk (gdOf X M) H' S' → Ext S H S' H' → Rep (gdOf X M) H' S' z v → B.rt z S' → D.rt v H') ∧
  (∀ σ' H' τ' S', Rel (gdOf X M) S0 H0 σ' H' τ' S' → Ext S H S' H' → B.bk τ' S' → D.bk σ' H') ∧ (∀ σ' H' τ' S', Rel (gdOf X M) S0 H0 σ' H' τ' S' → Ext S H S' H' → B.ct τ' S' → D.ct σ' H')

/-- e reads as t -/
def TE (X : Cx) (e : Expr) (t : TTE) : Prop := ∀ M S0 H0 E, Takes X (wOf X M S0 H0 E) → PE X e (LE X M S0 H0 t E)
def TB (X : Cx) (e : Expr) (t : TTB) : Prop := ∀ M S0 H0 E, Takes X (wOf X M S0 H0 E) → PT X e (LB X M S0 H0 t E)
def TW (X : Cx) (e : Expr) (t : TTB) : Prop := ∀ M S0 H0 E, Takes X (wOf X M S0 H0 E) → PW X e (LB X M S0 H0 t E)
def TA (X : Cx) (es : List Expr) (t : TTA) : Prop := ∀ M S0 H0 E, Takes X (wOf X M S0 H0 E) → PA X es (LA X M S0 H0 t E)
def TS (X : Cx) (s : Stmt) (t : TTS) : Prop := ∀ M S0 H0 E, Takes X (wOf X M S0 H0 E) → PS X s (LS X M S0 H0 t E)
def TSs (X : Cx) (s : List Stmt) (t : TTS) : Prop := ∀ M S0 H0 E, Takes X (wOf X M S0 H0 E) → PSs X s (LS X M S0 H0 t E)

theorem _root_.L2.PE.weak {X : Cx} {e : Expr} {t u : L2.TE} (h : PE X e t) (k : ∀ σ H Q, u σ H Q → t σ H Q) : PE X e u := ⟨fun pins s σ H Q I q => h.run pins s σ H Q I (k _ _ _ q)⟩
theorem _root_.L2.PT.weak {X : Cx} {e : Expr} {t u : L2.TT} (h : PT X e t) (k : ∀ σ H Q, u σ H Q → t σ H Q) : PT X e u := ⟨fun pins s σ H Q I q => h.run pins s σ H Q I (k _ _ _ q)⟩
theorem _root_.L2.PW.weak {X : Cx} {e : Expr} {t u : L2.TT} (h : PW X e t) (k : ∀ σ H Q, u σ H Q → t σ H Q) : PW X e u := ⟨fun wh pins s σ H Q I q => h.run wh pins s σ H Q I (k _ _ _ q)⟩
theorem _root_.L2.PA.weak {X : Cx} {es : List Expr} {t u : L2.TA} (h : PA X es t) (k : ∀ σ H Q, u σ H Q → t σ H Q) : PA X es u := ⟨fun pos pins s σ H Q I q => h.run pos pins s σ H Q I (k _ _ _ q)⟩
theorem _root_.L2.PS.weak {X : Cx} {s : Stmt} {t u : L2.TS} (h : PS X s t) (k : ∀ D σ H, u D σ H → t D σ H) : PS X s u := ⟨fun pins s σ H D I q => h.run pins s σ H D I (k _ _ _ q)⟩
theorem _root_.L2.PSs.weak {X : Cx} {s : List Stmt} {t u : L2.TS} (h : PSs X s t) (k : ∀ D σ H, u D σ H → t D σ H) : PSs X s u := ⟨fun pins s σ H D I q => h.run pins s σ H D I (k _ _ _ q)⟩

/-! ### combinators -/
def cVar (i : Nat) : TTE := fun τ S Q _ => ∃ t, τ[i]? = some (some t) ∧ Q t S
def cC (t : T) : TTE := fun _ S Q _ => Q t S
def cOp (op : Sto → T → T → Option T) (a b : TTE) : TTE := fun τ S Q E => a τ S (fun x S1 => b τ S1 (fun y S2 => ∃ z, op S2 x y = some z ∧ Q z S2) E) E
def cUn (op : Sto → T → Option T) (a : TTE) : TTE := fun τ S Q E => a τ S (fun x S1 => ∃ z, op S1 x = some z ∧ Q z S1) E
def cIf (c : TTB) (a b : TTE) : TTE := fun τ S Q E => c τ S (fun k S1 => if k = true then a τ S1 Q E else b τ S1 Q E) E
def cNil : TTA := fun _ S Q _ => Q [] S
def cCons (a : TTE) (r : TTA) : TTA := fun τ S Q E => a τ S (fun x S1 => r τ S1 (fun xs S2 => Q (x :: xs) S2) E) E
def cTup (a : TTA) : TTE := fun τ S Q E => a τ S (fun xs S1 => xs.length ≤ sizeLine ∧ Q (.tup xs) S1) E
def cLst (a : TTA) : TTE := fun τ S Q E => a τ S (fun xs S1 => xs.length ≤ sizeLine ∧ Q (.lst xs) S1) E
def cLstM (a : TTA) : TTE := fun τ S Q E => a τ S (fun xs S1 => xs.length ≤ sizeLine ∧ ∀ p, S1 p = none → Q (.ref p) (ups S1 p (.lst xs))) E
def bVal (a : TTE) : TTB := fun τ S Q E => a τ S (fun x S1 => ∃ b, x = .bl b ∧ Q b S1) E
def bAnd (a b : TTB) : TTB := fun τ S Q E => a τ S (fun k S1 => if k = true then b τ S1 Q E else Q false S1) E
def bOr (a b : TTB) : TTB := fun τ S Q E => a τ S (fun k S1 => if k = true then Q true S1 else b τ S1 Q E) E
def bNot (a : TTB) : TTB := fun τ S Q E => a τ S (fun k S1 => Q (!k) S1) E
/-- and, or, not of truths as values -/
def cAnd (a b : TTE) : TTE := fun τ S Q E => a τ S (fun x S1 => ∃ k, x = .bl k ∧ if k = true then b τ S1 Q E else Q (.bl false) S1) E
def cOr (a b : TTE) : TTE := fun τ S Q E => a τ S (fun x S1 => ∃ k, x = .bl k ∧ if k = true then Q (.bl true) S1 else b τ S1 Q E) E
def cNot (a : TTE) : TTE := fun τ S Q E => a τ S (fun x S1 => ∃ k, x = .bl k ∧ Q (.bl (!k)) S1) E

section
variable {X : Cx} {S0 : Sto} {H0 : Hp} {e a b : Expr} {es : List Expr} {ta tb : TTE} {tA tB : TTB} {tr : TTA} {pos : Pos}

theorem te_var {i : Nat} {x : Str} (hN : X.N[i]? = some x) (hv : Vis X.env.scope x) (hd : (x == ("__debug__" : Str)) = false := by decide) (hcd : (x == ("__classdict__" : Str)) = false := by decide) : TE X (.Name x pos) (cVar i) := fun M S0 H0 E tk =>
  (pe_var hN hv hd hcd).weak fun σ H Q ⟨τ, S, Qt, r, ⟨t, e, h⟩, k⟩ => let ⟨v, h1, h2⟩ := r.env.2 i t e; ⟨v, h1, k t S v H h r.sto Ext.refl h2⟩
theorem te_const {t : T} {v : V} (h : PE X e (tC v)) (hr : ∀ M H S, Rep (gdOf X M) H S t v) : TE X e (cC t) := fun M S0 H0 E tk =>
  h.weak fun σ H Q ⟨τ, S, Qt, r, h, k⟩ => k t S v H h r.sto Ext.refl (hr M H S)
theorem te_int {i j} : TE X (.Constant (.int i) j pos) (cC (.int i)) := te_const pe_int fun _ _ _ => .int i
theorem te_bl {i j} : TE X (.Constant (.bool i) j pos) (cC (.bl i)) := te_const pe_bl fun _ _ _ => .bl i
theorem te_non {j} : TE X (.Constant .none j pos) (cC .non) := te_const pe_non fun _ _ _ => .non
/-- a written text's signs -/
def q (s : Str) : List Sg := s.cps.toList.map fun c => ⟨c % 128, Nat.mod_lt _ (by decide)⟩
theorem te_str {x : Str} {j} (h : txt (q x) = x := by decide +kernel) : TE X (.Constant (.str x) j pos) (cC (.str (q x))) := te_const pe_str fun M H S => by
  have r := Rep.str (G := gdOf X M) (H := H) (S := S) (q x)
  rw [h] at r
  exact r

/-- an operation on trees -/
def OpT (X : Cx) (f : Value → Value → Sem Value) (op : Sto → T → T → Option T) : Prop :=
  OpR X f fun x y H Q => ∃ M S tx ty t, StoOk (gdOf X M) H S ∧ Rep (gdOf X M) H S tx x ∧ Rep (gdOf X M) H S ty y ∧ op S tx ty = some t ∧ ∀ v H', StoOk (gdOf X M) H' S → Ext S H S H' → Rep (gdOf X M) H' S t v → Q v H'
def UnT (X : Cx) (f : Value → Sem Value) (op : Sto → T → Option T) : Prop :=
  UnR X f fun x H Q => ∃ M S tx t, StoOk (gdOf X M) H S ∧ Rep (gdOf X M) H S tx x ∧ op S tx = some t ∧ ∀ v H', StoOk (gdOf X M) H' S → Ext S H S H' → Rep (gdOf X M) H' S t v → Q v H'
/-- two expressions in a row -/
theorem two {r : R2} {M : Addr → Prop} {op : Sto → T → T → Option T} {E : T → TEnv → Sto → Prop} {σ : L2.St} {H : Hp} {Q : VK}
    (hr : ∀ x y H Q, (∃ M S tx ty t, StoOk (gdOf X M) H S ∧ Rep (gdOf X M) H S tx x ∧ Rep (gdOf X M) H S ty y ∧ op S tx ty = some t ∧ ∀ v H', StoOk (gdOf X M) H' S → Ext S H S H' → Rep (gdOf X M) H' S t v → Q v H') → r x y H Q)
    (h : LE X M S0 H0 (cOp op ta tb) E σ H Q) : tOp r (LE X M S0 H0 ta E) (LE X M S0 H0 tb E) σ H Q := by
  obtain ⟨τ, S, Qt, rel, h, k⟩ := h
  refine ⟨τ, S, _, rel, h, fun zx S1 x H1 hb o1 x1 r1 => ⟨τ, S1, _, rel.step o1 x1, hb, fun zy S2 y H2 hz o2 x2 r2 => hr _ _ _ _ ?_⟩⟩
  obtain ⟨z, e, hq⟩ := hz
  exact ⟨M, S2, zx, zy, z, o2, Rep.ext x2 _ _ r1, r2, e, fun v H' o3 x3 r3 => k z S2 v H' hq o3 ((x1.trans x2).trans x3) r3⟩
theorem te_bin {op : Operator} {f : Sto → T → T → Option T} (ho : OpT X (binaryOp op) f) (ha : TE X a ta) (hb : TE X b tb) : TE X (.BinOp a op b pos) (cOp f ta tb) := fun M S0 H0 E tk =>
  (pe_op ho (ha M S0 H0 E tk) (hb M S0 H0 E tk)).weak fun _ _ _ h => two (fun _ _ _ _ z => z) h
theorem te_cmp {op : CmpOp} {f : Sto → T → T → Option T} (ho : OpT X (compareOp op) f) (ha : TE X a ta) (hb : TE X b tb) (hm : behindInMarks op b = false) : TE X (.Compare a [op] [b] pos) (cOp f ta tb) := fun M S0 H0 E tk =>
  (pe_cmpR ho (ha M S0 H0 E tk) (hb M S0 H0 E tk) hm).weak fun _ _ _ h => two (fun _ _ _ _ z => z) h
theorem te_un {op : UnaryOp} {f : Sto → T → Option T} (ho : UnT X (unaryOp op) f) (ha : TE X a ta) : TE X (.UnaryOp op a pos) (cUn f ta) := fun M S0 H0 E tk =>
  (pe_un ho (ha M S0 H0 E tk)).weak fun σ H Q ⟨τ, S, Qt, rel, h, k⟩ => ⟨τ, S, _, rel, h, fun zx S1 x H1 ⟨z, e, hq⟩ o1 x1 r1 => ⟨M, S1, zx, z, o1, r1, e, fun v H' o3 x3 r3 => k z S1 v H' hq o3 (x1.trans x3) r3⟩⟩
/-- a truth as a test -/
theorem tb_val (ha : TE X a ta) (he : ∀ whole, isTrue a X.env whole = (do let v ← whole; standAt a.pos; holding [v] (truthy v)) := by intro _; rfl) : TB X a (bVal ta) := fun M S0 H0 E tk =>
  (pt_val (ha M S0 H0 E tk) he).weak fun σ H Q ⟨τ, S, Qt, rel, h, k⟩ => ⟨τ, S, _, rel, h, fun zx S1 x H1 ⟨b, e, hq⟩ o1 x1 r1 => by
    subst e
    cases r1
    exact ⟨b, rfl, k b S1 H1 hq o1 x1⟩⟩
theorem tb_cmp {op : CmpOp} {f : Sto → T → T → Option T} (ho : OpT X (compareOp op) f) (ha : TE X a ta) (hb : TE X b tb) (hm : behindInMarks op b = false) : TB X (.Compare a [op] [b] pos) (bVal (cOp f ta tb)) := fun M S0 H0 E tk =>
  (pt_cmpR ho (ha M S0 H0 E tk) (hb M S0 H0 E tk) hm).weak fun σ H Q ⟨τ, S, Qt, rel, h, k⟩ => two (S0 := S0) (H0 := H0) (fun _ _ _ _ z => z) ⟨τ, S, _, rel, h, fun zx S1 x H1 ⟨b, e, hq⟩ o1 x1 r1 => by
    subst e
    cases r1
    exact ⟨b, rfl, k b S1 H1 hq o1 x1⟩⟩
theorem TW.toB (h : TW X a tA) : TB X a tA := fun M S0 H0 E tk => (h M S0 H0 E tk).pt
theorem tw_and1 (ha : TB X a tA) : TW X (.BoolOp .And [a] pos) tA := fun M S0 H0 E tk => pw_and1 (ha M S0 H0 E tk)
theorem tw_or1 (ha : TB X a tA) : TW X (.BoolOp .Or [a] pos) tA := fun M S0 H0 E tk => pw_or1 (ha M S0 H0 E tk)
theorem tw_and {rest : List Expr} (ha : TB X a tA) (hb : TW X (.BoolOp .And (b :: rest) pos) tB) : TW X (.BoolOp .And (a :: b :: rest) pos) (bAnd tA tB) := fun M S0 H0 E tk =>
  (pw_and (ha M S0 H0 E tk) (hb M S0 H0 E tk)).weak fun σ H Q ⟨τ, S, Qt, rel, h, k⟩ => ⟨τ, S, _, rel, h, fun c S1 H1 hq o1 x1 => by
    cases c with
    | true => exact ⟨τ, S1, _, rel.step o1 x1, hq, fun d S2 H2 hq2 o2 x2 => k d S2 H2 hq2 o2 (x1.trans x2)⟩
    | false => exact k false S1 H1 hq o1 x1⟩
theorem tw_or {rest : List Expr} (ha : TB X a tA) (hb : TW X (.BoolOp .Or (b :: rest) pos) tB) : TW X (.BoolOp .Or (a :: b :: rest) pos) (bOr tA tB) := fun M S0 H0 E tk =>
  (pw_or (ha M S0 H0 E tk) (hb M S0 H0 E tk)).weak fun σ H Q ⟨τ, S, Qt, rel, h, k⟩ => ⟨τ, S, _, rel, h, fun c S1 H1 hq o1 x1 => by
    cases c with
    | false => exact ⟨τ, S1, _, rel.step o1 x1, hq, fun d S2 H2 hq2 o2 x2 => k d S2 H2 hq2 o2 (x1.trans x2)⟩
    | true => exact k true S1 H1 hq o1 x1⟩
theorem tb_not (ha : TB X a tA) : TB X (.UnaryOp .Not a pos) (bNot tA) := fun M S0 H0 E tk =>
  (pt_not (ha M S0 H0 E tk)).weak fun σ H Q ⟨τ, S, Qt, rel, h, k⟩ => ⟨τ, S, _, rel, h, fun c S1 H1 hq o1 x1 => k (!c) S1 H1 hq o1 x1⟩
theorem te_one {op} (ha : TE X a ta) : TE X (.BoolOp op [a] pos) ta := fun M S0 H0 E tk => pe_one (ha M S0 H0 E tk)
theorem te_and {rest : List Expr} (ha : TE X a ta) (hb : TE X (.BoolOp .And (b :: rest) pos) tb) : TE X (.BoolOp .And (a :: b :: rest) pos) (cAnd ta tb) := fun M S0 H0 E tk =>
  (pe_and (ha M S0 H0 E tk) (hb M S0 H0 E tk)).weak fun σ H Q ⟨τ, S, Qt, rel, h, k⟩ => ⟨τ, S, _, rel, h, fun z S1 v H1 ⟨c, e, hq⟩ o1 x1 r1 => by
    subst e
    cases r1
    cases c with
    | true => exact ⟨true, rfl, τ, S1, _, rel.step o1 x1, hq, fun d S2 v H2 hq2 o2 x2 r2 => k d S2 v H2 hq2 o2 (x1.trans x2) r2⟩
    | false => exact ⟨false, rfl, k (.bl false) S1 _ H1 hq o1 x1 (.bl _)⟩⟩
theorem te_or {rest : List Expr} (ha : TE X a ta) (hb : TE X (.BoolOp .Or (b :: rest) pos) tb) : TE X (.BoolOp .Or (a :: b :: rest) pos) (cOr ta tb) := fun M S0 H0 E tk =>
  (pe_or (ha M S0 H0 E tk) (hb M S0 H0 E tk)).weak fun σ H Q ⟨τ, S, Qt, rel, h, k⟩ => ⟨τ, S, _, rel, h, fun z S1 v H1 ⟨c, e, hq⟩ o1 x1 r1 => by
    subst e
    cases r1
    cases c with
    | false => exact ⟨false, rfl, τ, S1, _, rel.step o1 x1, hq, fun d S2 v H2 hq2 o2 x2 r2 => k d S2 v H2 hq2 o2 (x1.trans x2) r2⟩
    | true => exact ⟨true, rfl, k (.bl true) S1 _ H1 hq o1 x1 (.bl _)⟩⟩
theorem te_not (ha : TE X a ta) : TE X (.UnaryOp .Not a pos) (cNot ta) := fun M S0 H0 E tk =>
  (pe_not (ha M S0 H0 E tk)).weak fun σ H Q ⟨τ, S, Qt, rel, h, k⟩ => ⟨τ, S, _, rel, h, fun z S1 v H1 ⟨c, e, hq⟩ o1 x1 r1 => by
    subst e
    cases r1
    exact ⟨c, rfl, k _ S1 _ H1 hq o1 x1 (.bl _)⟩⟩
theorem te_if {c : Expr} (hc : TB X c tA) (ha : TE X a ta) (hb : TE X b tb) : TE X (.IfExp c a b pos) (cIf tA ta tb) := fun M S0 H0 E tk =>
  (pe_ifExp (hc M S0 H0 E tk) (ha M S0 H0 E tk) (hb M S0 H0 E tk)).weak fun σ H Q ⟨τ, S, Qt, rel, h, k⟩ => ⟨τ, S, _, rel, h, fun c S1 H1 hq o1 x1 => by
    cases c with
    | true => exact ⟨τ, S1, _, rel.step o1 x1, hq, fun d S2 v H2 hq2 o2 x2 r2 => k d S2 v H2 hq2 o2 (x1.trans x2) r2⟩
    | false => exact ⟨τ, S1, _, rel.step o1 x1, hq, fun d S2 v H2 hq2 o2 x2 r2 => k d S2 v H2 hq2 o2 (x1.trans x2) r2⟩⟩
/-! arguments, displays -/
theorem ta_nil : TA X [] cNil := fun M S0 H0 E tk => pa_nil.weak fun σ H Q ⟨τ, S, Qt, rel, h, k⟩ => k [] S [] H h rel.sto Ext.refl .nil
theorem ta_cons (ha : TE X e ta) (hr : TA X es tr) (hs : starEach (e :: es) X.env = (false, eval e X.env) :: starEach es X.env := by rfl) : TA X (e :: es) (cCons ta tr) := fun M S0 H0 E tk =>
  (pa_cons (ha M S0 H0 E tk) (hr M S0 H0 E tk) hs).weak fun σ H Q ⟨τ, S, Qt, rel, h, k⟩ => ⟨τ, S, _, rel, h, fun z S1 v H1 hq o1 x1 r1 =>
    ⟨τ, S1, _, rel.step o1 x1, hq, fun zs S2 vs H2 hq2 o2 x2 r2 => k (z :: zs) S2 (v :: vs) H2 hq2 o2 (x1.trans x2) (.cons (Rep.ext x2 _ _ r1) r2)⟩⟩
theorem te_tup {k} (h : TA X es tr) : TE X (.Tuple es k pos) (cTup tr) := fun M S0 H0 E tk =>
  (pe_tup (h M S0 H0 E tk)).weak fun σ H Q ⟨τ, S, Qt, rel, h, k⟩ => ⟨τ, S, _, rel, h, fun zs S1 vs H1 ⟨hl, hq⟩ o1 x1 r1 =>
    ⟨by rw [← r1.length]; exact hl, fun p n => k (.tup zs) S1 (.ref p) _ hq (o1.new n) (x1.trans (Ext.new n)) (.tup (.inl ⟨.inl upd_same, o1.free n, o1.nom n⟩) (Reps.ext (Ext.new n) _ _ r1))⟩⟩
theorem te_lst (h : TA X es tr) : TE X (.List es pos) (cLst tr) := fun M S0 H0 E tk =>
  (pe_lst (h M S0 H0 E tk)).weak fun σ H Q ⟨τ, S, Qt, rel, h, k⟩ => ⟨τ, S, _, rel, h, fun zs S1 vs H1 ⟨hl, hq⟩ o1 x1 r1 =>
    ⟨by rw [← r1.length]; exact hl, fun p n => k (.lst zs) S1 (.ref p) _ hq (o1.new n) (x1.trans (Ext.new n)) (.lst ⟨upd_same, o1.free n, o1.nom n⟩ (Reps.ext (Ext.new n) _ _ r1))⟩⟩
theorem te_lstM (h : TA X es tr) : TE X (.List es pos) (cLstM tr) := fun M S0 H0 E tk =>
  (pe_lst (h M S0 H0 E tk)).weak fun σ H Q ⟨τ, S, Qt, rel, h, k⟩ => ⟨τ, S, _, rel, h, fun zs S1 vs H1 ⟨hl, hq⟩ o1 x1 r1 =>
    ⟨by rw [← r1.length]; exact hl, fun p n => k (.ref p) (ups S1 p (.lst zs)) (.ref p) _ (hq p (o1.free n)) (o1.cell (.inl n) ⟨vs, upd_same, Reps.ext (Ext.cell (.inl n)) _ _ r1⟩) (x1.trans (Ext.cell (.inl n))) (.ref p)⟩⟩
end
end TL

/-! TLc: statements, targets, loops, comprehensions over trees. -/
namespace TL
open PySem PySem.Spec PyProof.Rows L2

abbrev TTG := T → TEnv → Sto → (TEnv → Sto → Prop) → Prop
abbrev TTGs := List T → TEnv → Sto → (TEnv → Sto → Prop) → Prop
def LG (X : Cx) (M : Addr → Prop) (vs : List Nat) (S0 : Sto) (H0 : Hp) (g : TTG) : L2.TG := fun v σ H Q => ∃ τ S z Qt, Rel (gdOf X M) S0 H0 σ H τ S ∧ Rep (gdOf X M) H S z v ∧ g z τ S Qt ∧
  ∀ σ' H' τ' S', Rel (gdOf X M) S0 H0 σ' H' τ' S' → Ext S H S' H' → wipe σ' vs = wipe σ vs → Qt τ' S' → Q σ' H'
def LGs (X : Cx) (M : Addr → Prop) (vs : List Nat) (S0 : Sto) (H0 : Hp) (g : TTGs) : L2.TGs := fun xs σ H Q => ∃ τ S zs Qt, Rel (gdOf X M) S0 H0 σ H τ S ∧ Reps (gdOf X M) H S zs xs ∧ g zs τ S Qt ∧
  ∀ σ' H' τ' S', Rel (gdOf X M) S0 H0 σ' H' τ' S' → Ext S H S' H' → wipe σ' vs = wipe σ vs → Qt τ' S' → Q σ' H'
/-- a target; vs: the names that it may store -/
def TGt (X : Cx) (vs : List Nat) (e : Expr) (g : TTG) : Prop := ∀ M S0 H0 E, Takes X (wOf X M S0 H0 E) → PG X e (LG X M vs S0 H0 g)
def TGts (X : Cx) (vs : List Nat) (es : List Expr) (g : TTGs) : Prop := ∀ M S0 H0 E, Takes X (wOf X M S0 H0 E) → PGs X es (LGs X M vs S0 H0 g)
theorem _root_.L2.PG.weak {X : Cx} {e : Expr} {t u : L2.TG} (h : PG X e t) (k : ∀ v σ H Q, u v σ H Q → t v σ H Q) : PG X e u := ⟨fun pins s σ H v w Q I r q => h.run pins s σ H v w Q I r (k _ _ _ _ q)⟩
theorem _root_.L2.PGs.weak {X : Cx} {es : List Expr} {t u : L2.TGs} (h : PGs X es t) (k : ∀ v σ H Q, u v σ H Q → t v σ H Q) : PGs X es u := ⟨fun pins s σ H v w Q I r q => h.run pins s σ H v w Q I r (k _ _ _ _ q)⟩
theorem wipe_at {σ : L2.St} {i : Nat} : ∀ (vs : List Nat), (wipe σ vs)[i]? = if i ∈ vs then (σ[i]?).map (fun _ => none) else σ[i]?
  | [] => by simp [wipe]
  | v :: vs => by
    unfold wipe
    by_cases h : v = i
    · subst h
      rw [List.getElem?_set_self', wipe_at vs]
      by_cases hm : v ∈ vs
      · simp [hm]
        cases σ[v]? <;> rfl
      · simp [hm]
        rfl
    · rw [List.getElem?_set_ne h, wipe_at vs]
      have h' : ¬ i = v := fun e => h e.symm
      simp [h']
theorem wipe_set {σ : L2.St} {i : Nat} {x : Option V} (vs : List Nat) (h : i ∈ vs) : wipe (σ.set i x) vs = wipe σ vs := by
  apply List.ext_getElem?
  intro j
  rw [wipe_at, wipe_at]
  by_cases e : i = j
  · subst e
    rw [if_pos h, if_pos h, List.getElem?_set_self']
    cases σ[i]? <;> rfl
  · rw [List.getElem?_set_ne e]
/-! ### targets -/
def gN (i : Nat) : TTG := fun z τ S Q => Q (τ.set i (some z)) S
def gT (g : TTGs) : TTG := fun z τ S Q => ∃ zs, z = .tup zs ∧ g zs τ S Q
def gL (g : TTGs) : TTG := fun z τ S Q => ∃ zs, z = .lst zs ∧ g zs τ S Q
def gZ : TTGs := fun zs τ S Q => zs = [] ∧ Q τ S
def gC (g : TTG) (r : TTGs) : TTGs := fun zs τ S Q => ∃ z ys, zs = z :: ys ∧ g z τ S fun τ' S' => r ys τ' S' Q
section
variable {X : Cx} {vs : List Nat} {e : Expr} {es : List Expr} {g : TTG} {r : TTGs} {pos : Pos}
theorem tg_name {i : Nat} {x : Str} (hi : i ∈ vs) (hN : X.N.Nodup) (hx : X.N[i]? = some x) (hl : Loc X.env.scope x) (hf : X.fn x = true ∨ X.env.scope.names.lookup x = some .local := by first | exact .inl rfl | exact .inr rfl | assumption) : TGt X vs (.Name x pos) (gN i) := fun M S0 H0 E tk =>
  (pg_name hN hx hl hf).weak fun v σ H Q ⟨τ, S, z, Qt, rel, hz, h, k⟩ => k _ _ _ _ (rel.set hz) Ext.refl (wipe_set vs hi) h
theorem tgs_nil : TGts X vs [] gZ := fun M S0 H0 E tk => pgs_nil.weak fun v σ H Q ⟨τ, S, z, Qt, rel, hz, ⟨h0, h⟩, k⟩ => by
  subst h0
  cases hz
  exact ⟨rfl, k _ _ _ _ rel Ext.refl rfl h⟩
theorem tgs_cons (h1 : TGt X vs e g) (h2 : TGts X vs es r) (hs : (assignEach (e :: es) X.env).map (·.2) = assign e X.env :: (assignEach es X.env).map (·.2) := by rfl) : TGts X vs (e :: es) (gC g r) := fun M S0 H0 E tk =>
  (pgs_cons (h1 M S0 H0 E tk) (h2 M S0 H0 E tk) hs).weak fun v σ H Q ⟨τ, S, z, Qt, rel, hz, ⟨y, ys, h0, h⟩, k⟩ => by
    subst h0
    cases hz with
    | cons a b =>
      exact ⟨_, _, rfl, τ, S, y, _, rel, a, h, fun σ1 H1 τ1 S1 rel1 x1 w1 q1 => ⟨τ1, S1, ys, _, rel1, Reps.ext x1 _ _ b, q1, fun σ2 H2 τ2 S2 rel2 x2 w2 q2 => k _ _ _ _ rel2 (x1.trans x2) (w2.trans w1) q2⟩⟩
theorem tg_tup {k : Nat} {n : Nat} (hc : X.calm = true) (h : TGts X vs es r) (hn : (assignEach es X.env).length = n := by rfl) (hst : (assignEach es X.env).findIdx? (·.1) = none := by rfl)
    (hr : ∀ zs τ S Q, r zs τ S Q → zs.length = n := by intro zs τ S Q z; obtain ⟨_, _, rfl, z⟩ := z; first | (obtain ⟨rfl, _⟩ := z; rfl) | skip) : TGt X vs (.Tuple es k pos) (gT r) := fun M S0 H0 E tk =>
  (pg_tup hc (h M S0 H0 E tk) hn hst).weak fun v σ H Q ⟨τ, S, z, Qt, rel, hz, ⟨zs, h0, h⟩, k⟩ => by
    subst h0
    cases hz with
    | tup a b => exact ⟨_, _, rfl, a.sq, by rw [← b.length]; exact hr _ _ _ _ h, τ, S, zs, _, rel, b, h, k⟩
theorem tg_lst {k : Nat} {n : Nat} (hc : X.calm = true) (h : TGts X vs es r) (hn : (assignEach es X.env).length = n := by rfl) (hst : (assignEach es X.env).findIdx? (·.1) = none := by rfl)
    (hr : ∀ zs τ S Q, r zs τ S Q → zs.length = n) : TGt X vs (.Tuple es k pos) (gL r) := fun M S0 H0 E tk =>
  (pg_lst hc (h M S0 H0 E tk) hn hst).weak fun v σ H Q ⟨τ, S, z, Qt, rel, hz, ⟨zs, h0, h⟩, k⟩ => by
    subst h0
    cases hz with
    | lst a b => exact ⟨_, _, rfl, a.sq, by rw [← b.length]; exact hr _ _ _ _ h, τ, S, zs, _, rel, b, h, k⟩
/-- how many things a row of targets takes -/
def takes (r : TTGs) (n : Nat) : Prop := ∀ zs τ S Q, r zs τ S Q → zs.length = n
theorem takes_z : takes gZ 0 := fun zs τ S Q h => by rw [h.1]; rfl
theorem takes_c {n : Nat} (h : ∀ zs τ S Q, r zs τ S Q → zs.length = n) : takes (gC (gN i) r) (n + 1) := fun zs τ S Q ⟨z, ys, e, q⟩ => by rw [e, List.length_cons, h _ _ _ _ q]
end

/-! ### statements -/
def cSkip : TTS := fun D τ S _ => D.nx τ S
def cSeq (t u : TTS) : TTS := fun D τ S E => t { D with nx := fun τ' S' => u D τ' S' E } τ S E
def cAsg (e : TTE) (g : TTG) : TTS := fun D τ S E => e τ S (fun z S' => g z τ S' D.nx) (fun x S' => E x τ S')
def cSet (i : Nat) (e : TTE) : TTS := fun D τ S E => e τ S (fun z S' => D.nx (τ.set i (some z)) S') (fun x S' => E x τ S')
def cRet (e : TTE) : TTS := fun D τ S E => e τ S D.rt (fun x S' => E x τ S')
def cRetN : TTS := fun D _ S _ => D.rt .non S
def cDo (e : TTE) : TTS := fun D τ S E => e τ S (fun _ S' => D.nx τ S') (fun x S' => E x τ S')
def cIfS (c : TTB) (a b : TTS) : TTS := fun D τ S E => c τ S (fun k S' => if k = true then a D τ S' E else b D τ S' E) (fun x S' => E x τ S')
def cPar2 (i j : Nat) (a b : TTE) : TTS := fun D τ S E => a τ S (fun x S1 => b τ S1 (fun y S2 => D.nx ((τ.set i (some x)).set j (some y)) S2) (fun x S' => E x τ S')) (fun x S' => E x τ S')
def cPar3 (i j l : Nat) (a b c : TTE) : TTS := fun D τ S E => a τ S (fun x S1 => b τ S1 (fun y S2 => c τ S2 (fun z S3 => D.nx (((τ.set i (some x)).set j (some y)).set l (some z)) S3) (fun x S' => E x τ S')) (fun x S' => E x τ S')) (fun x S' => E x τ S')
def cBrk : TTS := fun D τ S _ => D.bk τ S
def cCont : TTS := fun D τ S _ => D.ct τ S
/-- code that is not come to -/
def cNever : TTS := fun _ _ _ _ => False
def cWhile (c : TTB) (b : TTS) : TTS := fun D τ S E => ∃ W : Nat → TEnv → Sto → Prop, (∃ m, W m τ S) ∧ ∀ m τ S, W m τ S →
  c τ S (fun k S' => if k = true then b { D with nx := fun τ' S' => ∃ m', m' < m ∧ W m' τ' S', ct := fun τ' S' => ∃ m', m' < m ∧ W m' τ' S', bk := D.nx } τ S' E else D.nx τ S') (fun x S' => E x τ S')
section
variable {X : Cx} {st : Stmt} {rest body orelse : List Stmt} {t u : TTS} {e tg : Expr} {te ta tb tc : TTE} {tB : TTB} {g : TTG} {vs : List Nat} {pos : Pos}
theorem tss_nil : TSs X [] cSkip := fun M S0 H0 E tk => pss_nil.weak fun D σ H ⟨τ, S, B, rel, h, k, _⟩ => k _ _ _ _ rel Ext.refl h
theorem tss_one (h : TS X st t) : TSs X [st] t := fun M S0 H0 E tk => pss_one (h M S0 H0 E tk)
theorem tss_cons (h : TS X st t) (hr : TSs X rest u) : TSs X (st :: rest) (cSeq t u) := fun M S0 H0 E tk =>
  (pss_cons (h M S0 H0 E tk) (hr M S0 H0 E tk)).weak fun D σ H ⟨τ, S, B, rel, h, k1, k2, k3, k4⟩ => ⟨τ, S, _, rel, h,
    fun σ1 H1 τ1 S1 rel1 x1 q => ⟨τ1, S1, B, rel1, q, fun σ2 H2 τ2 S2 rel2 x2 q2 => k1 _ _ _ _ rel2 (x1.trans x2) q2, fun z S2 v H2 o2 x2 r2 q2 => k2 z S2 v H2 o2 (x1.trans x2) r2 q2,
      fun σ2 H2 τ2 S2 rel2 x2 q2 => k3 _ _ _ _ rel2 (x1.trans x2) q2, fun σ2 H2 τ2 S2 rel2 x2 q2 => k4 _ _ _ _ rel2 (x1.trans x2) q2⟩, k2, k3, k4⟩
theorem tss_weak {t' : TTS} (h : TSs X rest t) (k : ∀ D τ S E, t' D τ S E → t D τ S E) : TSs X rest t' := fun M S0 H0 E tk =>
  (h M S0 H0 E tk).weak fun D σ H ⟨τ, S, B, rel, q, k1⟩ => ⟨τ, S, B, rel, k _ _ _ _ q, k1⟩
theorem ts_pass : TS X (.Pass pos) cSkip := fun M S0 H0 E tk => ps_pass.weak fun D σ H ⟨τ, S, B, rel, h, k, _⟩ => k _ _ _ _ rel Ext.refl h
theorem ts_break : TS X (.Break pos) cBrk := fun M S0 H0 E tk => ps_break.weak fun D σ H ⟨τ, S, B, rel, h, _, _, k, _⟩ => k _ _ _ _ rel Ext.refl h
theorem ts_continue : TS X (.Continue pos) cCont := fun M S0 H0 E tk => ps_continue.weak fun D σ H ⟨τ, S, B, rel, h, _, _, _, k⟩ => k _ _ _ _ rel Ext.refl h
theorem ts_ret (h : TE X e te) : TS X (.Return (some e) pos) (cRet te) := fun M S0 H0 E tk => (ps_ret (h M S0 H0 E tk)).weak fun D σ H ⟨τ, S, B, rel, q, _, k, _⟩ =>
  ⟨τ, S, _, rel, q, fun z S1 v H1 hq o1 x1 r1 => k z S1 v H1 o1 x1 r1 hq⟩
theorem ts_retN : TS X (.Return none pos) cRetN := fun M S0 H0 E tk => ps_retN.weak fun D σ H ⟨τ, S, B, rel, q, _, k, _⟩ => k .non S .non H rel.sto Ext.refl .non q
theorem ts_do (h : TE X e te) (hs : swapsWith e none pos.line X.env = pure false := by rfl) : TS X (.Expr e pos) (cDo te) := fun M S0 H0 E tk => (ps_expr (h M S0 H0 E tk) hs).weak fun D σ H ⟨τ, S, B, rel, q, k, _⟩ =>
  ⟨τ, S, _, rel, q, fun z S1 v H1 hq o1 x1 r1 => k _ _ _ _ (rel.step o1 x1) x1 hq⟩
theorem ts_if {c : Expr} {a b : List Stmt} (hc : TB X c tB) (ha : TSs X a t) (hb : TSs X b u) : TS X (.If c a b pos) (cIfS tB t u) := fun M S0 H0 E tk => (ps_if (hc M S0 H0 E tk) (ha M S0 H0 E tk) (hb M S0 H0 E tk)).weak fun D σ H ⟨τ, S, B, rel, q, k1, k2, k3, k4⟩ =>
  ⟨τ, S, _, rel, q, fun c S1 H1 hq o1 x1 => by
    have fin : ∀ t : TTS, t B τ S1 E → LS X M S0 H0 t E D σ H1 := fun t h => ⟨τ, S1, B, rel.step o1 x1, h, fun σ2 H2 τ2 S2 rel2 x2 q2 => k1 _ _ _ _ rel2 (x1.trans x2) q2, fun z S2 v H2 o2 x2 r2 q2 => k2 z S2 v H2 o2 (x1.trans x2) r2 q2,
      fun σ2 H2 τ2 S2 rel2 x2 q2 => k3 _ _ _ _ rel2 (x1.trans x2) q2, fun σ2 H2 τ2 S2 rel2 x2 q2 => k4 _ _ _ _ rel2 (x1.trans x2) q2⟩
    cases c with
    | true => exact fin t hq
    | false => exact fin u hq⟩
theorem ts_set {i : Nat} {x : Str} {pos' : Pos} (hN : X.N.Nodup) (hi : X.N[i]? = some x) (hx : Loc X.env.scope x) (he : TE X e te) (hs : swapsWith e (some (.Name x pos')) pos.line X.env = pure false := by rfl) (hf : X.fn x = true ∨ X.env.scope.names.lookup x = some .local := by first | exact .inl rfl | exact .inr rfl | assumption) :
    TS X (.Assign [.Name x pos'] e pos) (cSet i te) := fun M S0 H0 E tk => (ps_set hN hi hx (he M S0 H0 E tk) hs hf).weak fun D σ H ⟨τ, S, B, rel, q, k, _⟩ =>
  ⟨τ, S, _, rel, q, fun z S1 v H1 hq o1 x1 r1 => k _ _ _ _ ((rel.step o1 x1).set r1) x1 hq⟩
theorem ts_asg (he : TE X e te) (hg : TGt X vs tg g) (hs : swapsWithSole [tg] e pos.line X.env = pure false := by rfl) (hw : swappedStores [tg] e X.env = pure none := by rfl)
    (h1 : (assignEach [tg] X.env).map (·.2) = [assign tg X.env] := by rfl) : TS X (.Assign [tg] e pos) (cAsg te g) := fun M S0 H0 E tk => (ps_asg (he M S0 H0 E tk) (hg M S0 H0 E tk) hs hw h1).weak fun D σ H ⟨τ, S, B, rel, q, k, _⟩ =>
  ⟨τ, S, _, rel, q, fun z S1 v H1 hq o1 x1 r1 => ⟨τ, S1, z, _, rel.step o1 x1, r1, hq, fun σ2 H2 τ2 S2 rel2 x2 _ q2 => k _ _ _ _ rel2 (x1.trans x2) q2⟩⟩
theorem ts_par2 {i j : Nat} {x y : Str} {a b : Expr} {px py pt : Pos} {kt k2 pt2} (hc : X.calm = true) (hN : X.N.Nodup) (hi : X.N[i]? = some x) (hj : X.N[j]? = some y) (hij : i ≠ j)
    (hx : X.env.scope.names.lookup x = some .local) (hy : X.env.scope.names.lookup y = some .local) (ha : TA X [a, b] (cCons ta (cCons tb cNil)))
    (hw : swappedStores [.Tuple [.Name x px, .Name y py] kt pt] (.Tuple [a, b] k2 pt2) X.env = pure (some [x, y]))
    (hs : swapsWithSole [.Tuple [.Name x px, .Name y py] kt pt] (.Tuple [a, b] k2 pt2) pos.line X.env = pure false := by rfl) :
    TS X (.Assign [.Tuple [.Name x px, .Name y py] kt pt] (.Tuple [a, b] k2 pt2) pos) (cPar2 i j ta tb) := fun M S0 H0 E tk => (ps_par hc hN hi hj hij hx hy (ha M S0 H0 E tk) hw hs).weak fun D σ H ⟨τ, S, B, rel, q, k, _⟩ =>
  ⟨τ, S, fun zs S2 => ∃ z1 z2, zs = [z1, z2] ∧ B.nx ((τ.set i (some z1)).set j (some z2)) S2, rel, by
      refine (show ta τ S (fun x S1 => tb τ S1 (fun y S2 => ∃ z1 z2, [x, y] = [z1, z2] ∧ B.nx ((τ.set i (some z1)).set j (some z2)) S2) fun x S' => E x τ S') fun x S' => E x τ S' from ?_)
      have e : (fun (x : T) (S1 : Sto) => tb τ S1 (fun y S2 => ∃ z1 z2, [x, y] = [z1, z2] ∧ B.nx ((τ.set i (some z1)).set j (some z2)) S2) fun x S' => E x τ S') = fun (x : T) (S1 : Sto) => tb τ S1 (fun y S2 => B.nx ((τ.set i (some x)).set j (some y)) S2) fun x S' => E x τ S' := by
        funext x S1
        congr 1
        funext y S2
        apply propext
        constructor
        · rintro ⟨z1, z2, e, h⟩
          injection e with e1 e2
          injection e2 with e2 _
          subst e1 e2
          exact h
        · exact fun h => ⟨x, y, rfl, h⟩
      rw [e]
      exact q, fun zs S1 ws H1 hq o1 x1 r1 => by
    obtain ⟨z1, z2, e, h⟩ := hq
    subst e
    cases r1 with
    | cons r1 r2 =>
      cases r2 with
      | cons r2 r3 =>
        cases r3
        exact ⟨_, _, rfl, k _ _ _ _ (((rel.step o1 x1).set r1).set r2) x1 h⟩⟩
theorem ts_par3 {i j l : Nat} {x y z : Str} {a b c : Expr} {px py pz pt : Pos} {kt k2 pt2} (hc : X.calm = true) (hN : X.N.Nodup) (hi : X.N[i]? = some x) (hj : X.N[j]? = some y) (hl : X.N[l]? = some z) (hij : i ≠ j) (hil : i ≠ l) (hjl : j ≠ l)
    (hx : X.env.scope.names.lookup x = some .local) (hy : X.env.scope.names.lookup y = some .local) (hz : X.env.scope.names.lookup z = some .local) (ha : TA X [a, b, c] (cCons ta (cCons tb (cCons tc cNil))))
    (hw : swappedStores [.Tuple [.Name x px, .Name y py, .Name z pz] kt pt] (.Tuple [a, b, c] k2 pt2) X.env = pure (some [x, y, z]))
    (hs : swapsWithSole [.Tuple [.Name x px, .Name y py, .Name z pz] kt pt] (.Tuple [a, b, c] k2 pt2) pos.line X.env = pure false := by rfl) :
    TS X (.Assign [.Tuple [.Name x px, .Name y py, .Name z pz] kt pt] (.Tuple [a, b, c] k2 pt2) pos) (cPar3 i j l ta tb tc) := fun M S0 H0 E tk => (ps_par3 hc hN hi hj hl hij hil hjl hx hy hz (ha M S0 H0 E tk) hw hs).weak fun D σ H ⟨τ, S, B, rel, q, k, _⟩ =>
  ⟨τ, S, fun zs S2 => ∃ z1 z2 z3, zs = [z1, z2, z3] ∧ B.nx (((τ.set i (some z1)).set j (some z2)).set l (some z3)) S2, rel, by
      have e : ∀ (x y z : T) (S3 : Sto), (∃ z1 z2 z3, [x, y, z] = [z1, z2, z3] ∧ B.nx (((τ.set i (some z1)).set j (some z2)).set l (some z3)) S3) = B.nx (((τ.set i (some x)).set j (some y)).set l (some z)) S3 := fun x y z S3 => propext ⟨by
          rintro ⟨z1, z2, z3, e, h⟩
          injection e with e1 e2
          injection e2 with e2 e3
          injection e3 with e3 _
          subst e1 e2 e3
          exact h, fun h => ⟨x, y, z, rfl, h⟩⟩
      show ta τ S (fun x S1 => tb τ S1 (fun y S2 => tc τ S2 (fun z S3 => ∃ z1 z2 z3, [x, y, z] = [z1, z2, z3] ∧ B.nx (((τ.set i (some z1)).set j (some z2)).set l (some z3)) S3) fun x S' => E x τ S') fun x S' => E x τ S') fun x S' => E x τ S'
      simp only [e]
      exact q, fun zs S1 ws H1 hq o1 x1 r1 => by
    obtain ⟨z1, z2, z3, e, h⟩ := hq
    subst e
    cases r1 with
    | cons r1 r2 =>
      cases r2 with
      | cons r2 r3 =>
        cases r3 with
        | cons r3 r4 =>
          cases r4
          exact ⟨_, _, _, rfl, k _ _ _ _ ((((rel.step o1 x1).set r1).set r2).set r3) x1 h⟩⟩
theorem ts_while {c : Expr} (hp : PassesOwn (model X.prog X.w) X.A X.env X.xe) (hc : TB X c tB) (hb : TSs X body t) : TS X (.While c body [] pos) (cWhile tB t) := fun M S0 H0 E tk => (ps_while hp (hc M S0 H0 E tk) (hb M S0 H0 E tk)).weak fun D σ H ⟨τ, S, B, rel, ⟨W, ⟨m0, w0⟩, turn⟩, k1, k2, k3, k4⟩ => by
  let W' : Nat → L2.St → Hp → Prop := fun m σ' H' => ∃ τ' S', Rel (gdOf X M) S0 H0 σ' H' τ' S' ∧ Ext S H S' H' ∧ W m τ' S'
  refine ⟨W', ⟨m0, τ, S, rel, Ext.refl, w0⟩, ?_⟩
  rintro m σ1 H1 ⟨τ1, S1, rel1, x1, w1⟩
  refine ⟨τ1, S1, _, rel1, turn m τ1 S1 w1, fun k S2 H2 hq o2 x2 => ?_⟩
  cases k with
  | true =>
    refine ⟨fun σ' H' => ∃ m', m' < m ∧ W' m' σ' H', fun _ _ z => z, τ1, S2, _, rel1.step o2 x2, hq, ?_, fun z S3 v H3 o3 x3 r3 q3 => k2 z S3 v H3 o3 ((x1.trans x2).trans x3) r3 q3, fun σ3 H3 τ3 S3 rel3 x3 q3 => k1 _ _ _ _ rel3 ((x1.trans x2).trans x3) q3, ?_⟩
    · rintro σ3 H3 τ3 S3 rel3 x3 ⟨m', hm, q3⟩
      exact ⟨m', hm, τ3, S3, rel3, (x1.trans x2).trans x3, q3⟩
    · rintro σ3 H3 τ3 S3 rel3 x3 ⟨m', hm, q3⟩
      exact ⟨m', hm, τ3, S3, rel3, (x1.trans x2).trans x3, q3⟩
  | false => exact k1 _ _ _ _ (rel1.step o2 x2) (x1.trans x2) hq
end
end TL

/-! TLd: what is walked, for, list comprehensions, over trees. -/
namespace TL
open PySem PySem.Spec PyProof.Rows L2

/-- the iterator J hands out the trees xs while gd holds of the store -/
structure Wks (G : Gd) (J : It) (xs : List T) (gd : Sto → Prop) (S1 : Sto) (H1 : Hp) : Prop where
  go : ∀ (M' : Addr → Prop) S H i z, (∀ a, M' a → ¬ G.M a → H1 a = none) → StoOk (G.mask M') H S → Ext S1 H1 S H → gd S → xs[i]? = some z → J.go i H ∧ ∀ x H', J.yld i H x H' → StoOk (G.mask M') H' S ∧ Ext S H S H' ∧ Rep (G.mask M') H' S z x
  stop : ∀ (M' : Addr → Prop) S H, StoOk (G.mask M') H S → Ext S1 H1 S H → gd S → J.stop xs.length H
abbrev TTI := TEnv → Sto → (List T → (Sto → Prop) → Sto → Prop) → (T → Sto → Prop) → Prop
def LI (X : Cx) (M : Addr → Prop) (S0 : Sto) (H0 : Hp) (t : TTI) (E : T → TEnv → Sto → Prop) : L2.TI := fun σ H R => ∃ τ S Qt, Rel (gdOf X M) S0 H0 σ H τ S ∧ t τ S Qt (fun x S' => E x τ S') ∧
  ∀ xs gd S' J H', Qt xs gd S' → StoOk (gdOf X M) H' S' → Ext S H S' H' → Wks (gdOf X M) J xs gd S' H' → R J H'
def TI (X : Cx) (tg e : Expr) (t : TTI) : Prop := ∀ M S0 H0 E, Takes X (wOf X M S0 H0 E) → PI X tg e (LI X M S0 H0 t E)

/-! ### a list, a tuple, a text -/
def yes : Sto → Prop := fun _ => True
def items (S : Sto) : T → Option (List T × (Sto → Prop))
  | .tup xs => some (xs, yes)
  | .lst xs => some (xs, yes)
  | .str x => some (x.map (fun c => .str [c]), yes)
  | .ref a => match S a with
    | some (.lst xs) => some (xs, fun S' => S' a = some (.lst xs))
    | _ => none
  | _ => none
section
variable {X : Cx} {tg e : Expr}
def iAny (K : PySem.W.Frag) (tl : L2.TE) : L2.TI := fun σ H R => tl σ H fun x H1 => (∃ a xs, x = .ref a ∧ SqL K H1 a xs ∧ R (Itl K a) H1) ∨ (∃ a xs, x = .ref a ∧ SqT K H1 a xs ∧ R (Itt K a) H1) ∨ ∃ y, x = .str y ∧ R (Its y) H1
theorem pi_any {tl : L2.TE} (hl : PE X e tl) : PI X tg e (iAny X.K tl) := by
  constructor
  intro pins s σ H R I h
  refine thn (hl.run pins s σ H _ I h) fun v s1 q1 => ?_
  obtain ⟨x, H1, I1, r1, q1⟩ := q1
  rcases q1 with ⟨a, xs, rfl, hq, q⟩ | ⟨a, xs, rfl, hq, q⟩ | ⟨y, rfl, q⟩
  · obtain rfl : v = .ref a := r1
    obtain ⟨its, _, p, _⟩ := I1.list hq
    exact wpAny_pyIter_list p.isList (pi_one (tk := s1.toks) I1 _ (turn_list a _) ⟨_, Heap.get?_push_size _ rfl, rfl, rfl⟩ q)
  · obtain rfl : v = .ref a := r1
    obtain ⟨its, _, p, _⟩ := I1.tuple hq
    exact wpAny_pyIter_tuple p (pi_one (tk := s1.toks) I1 _ (turn_tuple a _) ⟨_, Heap.get?_push_size _ rfl, rfl, rfl⟩ q)
  · obtain ⟨t, rfl⟩ := r1
    cases ha : y.cps.all (· < 128) with
    | false => exact wpAny_pyIter_wide ha (pi_one (tk := s1.toks) I1 _ (turn_str _ y t "str_iterator" (Or.inr rfl)) ⟨_, Heap.get?_push_size _ rfl, rfl, rfl⟩ q)
    | true => exact wpAny_pyIter_ascii ha (pi_one (tk := s1.toks) I1 _ (turn_str _ y t "str_ascii_iterator" (Or.inl rfl)) ⟨_, Heap.get?_push_size _ rfl, rfl, rfl⟩ q)
end
section
variable {G : Gd} {S1 : Sto} {H1 : Hp}
theorem newK {M' : Addr → Prop} (k : ∀ a, M' a → ¬ G.M a → H1 a = none) : ∀ a u, Rd H1 a u → ¬ G.M a → ¬ M' a := fun a u r m z => by
  have n := k a z m
  rcases r with r | ⟨_, r⟩ <;> rw [n] at r <;> cases r
theorem wks_list {a : Addr} {ws : List V} {ts : List T} (h : LstAt G H1 S1 a ws) (r : Reps G H1 S1 ts ws) : Wks G (Itl G.K a) ts yes S1 H1 where
  go := fun M' S H i z nk o x _ hz => by
    have q := (h.ext x).sq
    obtain ⟨v, h1, h2⟩ := (Reps.ext x _ _ (Reps.mask (newK nk) _ _ r)).get hz
    refine ⟨⟨ws, v, q, h1⟩, ?_⟩
    rintro y H' ⟨rfl, hy⟩
    obtain rfl : v = y := Option.some.inj (h1.symm.trans (hy ws q))
    exact ⟨o, Ext.refl, h2⟩
  stop := fun M' S H o x _ => ⟨ws, (h.ext x).sq, by rw [r.length]; exact Nat.le_refl _⟩
theorem wks_tup {a : Addr} {ws : List V} {ts : List T} (h : TupAt G H1 S1 a ws) (r : Reps G H1 S1 ts ws) : Wks G (Itt G.K a) ts yes S1 H1 where
  go := fun M' S H i z nk o x _ hz => by
    have q := (h.ext x).sq
    obtain ⟨v, h1, h2⟩ := (Reps.ext x _ _ (Reps.mask (newK nk) _ _ r)).get hz
    refine ⟨⟨ws, v, q, h1⟩, ?_⟩
    rintro y H' ⟨rfl, hy⟩
    obtain rfl : v = y := Option.some.inj (h1.symm.trans (hy ws q))
    exact ⟨o, Ext.refl, h2⟩
  stop := fun M' S H o x _ => ⟨ws, (h.ext x).sq, by rw [r.length]; exact Nat.le_refl _⟩
theorem wks_cell {a : Addr} {ts : List T} : Wks G (Itl G.K a) ts (fun S' => S' a = some (.lst ts)) S1 H1 where
  go := fun M' S H i z nk o x hg hz => by
    obtain ⟨ws, hw, r⟩ := o.at_ a _ hg
    obtain ⟨v, h1, h2⟩ := r.get hz
    have q : SqL G.K H a ws := SqL.of hw
    refine ⟨⟨ws, v, q, h1⟩, ?_⟩
    rintro y H' ⟨rfl, hy⟩
    obtain rfl : v = y := Option.some.inj (h1.symm.trans (hy ws q))
    exact ⟨o, Ext.refl, h2⟩
  stop := fun M' S H o x hg => by
    obtain ⟨ws, hw, r⟩ := o.at_ a _ hg
    exact ⟨ws, SqL.of hw, by rw [r.length]; exact Nat.le_refl _⟩
theorem wks_str {x : List Sg} : Wks G (Its (txt x)) (x.map fun c => T.str [c]) yes S1 H1 where
  go := fun M' S H i z nk o _ _ hz => by
    rw [List.getElem?_map] at hz
    cases hc : x[i]? with
    | none => rw [hc] at hz; cases hz
    | some c =>
      rw [hc] at hz
      obtain rfl : T.str [c] = z := Option.some.inj hz
      refine ⟨?_, ?_⟩
      · show i < (x.map (·.val)).toArray.size
        have := (List.getElem?_eq_some_iff.mp hc).1
        simpa using this
      rintro y H' ⟨rfl, d, hd, rfl⟩
      obtain rfl : c.val = d := by
        have hd' : ((x.map (·.val)).toArray)[i]? = some d := hd
        rw [List.getElem?_toArray, List.getElem?_map, hc] at hd'
        exact Option.some.inj hd'
      exact ⟨o, Ext.refl, .str [c]⟩
  stop := fun M' S H o _ _ => by
    show ((x.map (·.val)).toArray).size ≤ (x.map fun c => T.str [c]).length
    simp
theorem wks_range {lo : Int} {n : Nat} : Wks G (Itr lo n) ((List.range n).map fun i => T.int (lo + (i : Nat))) yes S1 H1 where
  go := fun M' S H i z nk o _ _ hz => by
    rw [List.getElem?_map] at hz
    cases hc : (List.range n)[i]? with
    | none => rw [hc] at hz; cases hz
    | some c =>
      rw [hc] at hz
      have hi : i < n := by
        have := (List.getElem?_eq_some_iff.mp hc).1
        simpa using this
      have hci : i = c := by
        rw [List.getElem?_range hi] at hc
        exact Option.some.inj hc
      subst hci
      obtain rfl : T.int (lo + (i : Nat)) = z := Option.some.inj hz
      refine ⟨hi, ?_⟩
      rintro y H' ⟨rfl, rfl⟩
      exact ⟨o, Ext.refl, .int _⟩
  stop := fun M' S H o _ _ => by
    show n ≤ ((List.range n).map fun i => T.int (lo + (i : Nat))).length
    simp
end
/-- what is walked of a value -/
def iSeq (e : TTE) : TTI := fun τ S Q E => e τ S (fun x S1 => ∃ p, items S1 x = some p ∧ Q p.1 p.2 S1) E
def iRange1 (a : TTE) : TTI := fun τ S Q E => a τ S (fun x S1 => ∃ j : Int, x = .int j ∧ -(2 ^ 62) ≤ j ∧ j < 2 ^ 62 ∧ Q ((List.range j.toNat).map fun i => T.int (0 + (i : Nat))) yes S1) E
def iRange2 (a b : TTE) : TTI := fun τ S Q E => a τ S (fun x S1 => b τ S1 (fun y S2 => ∃ i j : Int, x = .int i ∧ y = .int j ∧ (-(2 ^ 62) ≤ i ∧ i < 2 ^ 62 ∧ -(2 ^ 62) ≤ j ∧ j < 2 ^ 62) ∧ Q ((List.range (j - i).toNat).map fun k => T.int (i + (k : Nat))) yes S2) E) E
theorem _root_.L2.PI.weak {X : Cx} {tg e : Expr} {t u : L2.TI} (h : PI X tg e t) (k : ∀ σ H R, u σ H R → t σ H R) : PI X tg e u := ⟨fun pins s σ H R I q => h.run pins s σ H R I (k _ _ _ q)⟩
section
variable {X : Cx} {tg e a b : Expr} {te ta tb : TTE} {p pos : Pos}
theorem ti_seq (h : TE X e te) : TI X tg e (iSeq te) := fun M S0 H0 E tk => (pi_any (h M S0 H0 E tk)).weak fun σ H R ⟨τ, S, Qt, rel, q, k⟩ => ⟨τ, S, _, rel, q, fun z S1 v H1 ⟨pr, hp, hq⟩ o1 x1 r1 => by
  cases r1 with
  | tup h1 h2 =>
    obtain rfl := Option.some.inj hp
    exact .inr (.inl ⟨_, _, rfl, h1.sq, k _ _ S1 _ H1 hq o1 x1 (wks_tup h1 h2)⟩)
  | lst h1 h2 =>
    obtain rfl := Option.some.inj hp
    exact .inl ⟨_, _, rfl, h1.sq, k _ _ S1 _ H1 hq o1 x1 (wks_list h1 h2)⟩
  | str y =>
    obtain rfl := Option.some.inj hp
    exact .inr (.inr ⟨_, rfl, k _ _ S1 _ H1 hq o1 x1 wks_str⟩)
  | ref a =>
    cases hs : S1 a with
    | none => simp [items, hs] at hp
    | some c =>
      cases c with
      | lst ts =>
        simp only [items, hs] at hp
        obtain rfl := Option.some.inj hp
        obtain ⟨ws, hw, r⟩ := o1.at_ a _ hs
        exact .inl ⟨a, ws, rfl, SqL.of hw, k _ _ S1 _ H1 hq o1 x1 wks_cell⟩
      | dct _ _ _ => simp [items, hs] at hp
      | ins _ _ _ => simp [items, hs] at hp
  | _ => cases hp⟩
theorem ti_range1 (hg : Gl X "range") (hm : X.mg "range" = none) (ha : TE X a ta) (hs : starEach [a] X.env = [(false, eval a X.env)] := by rfl) : TI X tg (.Call (.Name "range" p) [a] [] pos) (iRange1 ta) := fun M S0 H0 E tk =>
  (pi_range1 hg hm (ta_cons ha ta_nil hs M S0 H0 E tk) hs).weak fun σ H R ⟨τ, S, Qt, rel, q, k⟩ => ⟨τ, S, fun zs S1 => ∃ j : Int, zs = [.int j] ∧ -(2 ^ 62) ≤ j ∧ j < 2 ^ 62 ∧ Qt ((List.range j.toNat).map fun i => T.int (0 + (i : Nat))) yes S1, rel, by
    have e : (fun (x : T) (S1 : Sto) => ∃ j : Int, [x] = [T.int j] ∧ -(2 ^ 62) ≤ j ∧ j < 2 ^ 62 ∧ Qt ((List.range j.toNat).map fun i => T.int (0 + (i : Nat))) yes S1) = fun (x : T) (S1 : Sto) => ∃ j : Int, x = .int j ∧ -(2 ^ 62) ≤ j ∧ j < 2 ^ 62 ∧ Qt ((List.range j.toNat).map fun i => T.int (0 + (i : Nat))) yes S1 := by
      funext x S1
      simp only [List.cons.injEq, and_true]
    show ta τ S (fun (x : T) (S1 : Sto) => ∃ j : Int, [x] = [T.int j] ∧ -(2 ^ 62) ≤ j ∧ j < 2 ^ 62 ∧ Qt ((List.range j.toNat).map fun i => T.int (0 + (i : Nat))) yes S1) fun x S' => E x τ S'
    rw [e]
    exact q, fun zs S1 vs H1 hq o1 x1 r1 => by
    obtain ⟨j, rfl, h1, h2, hq⟩ := hq
    cases r1 with
    | cons r1 r2 =>
      cases r2
      cases r1
      exact ⟨j, rfl, h1, h2, k _ _ S1 _ H1 hq o1 x1 wks_range⟩⟩
theorem ti_range2 (hg : Gl X "range") (hm : X.mg "range" = none) (ha : TE X a ta) (hb : TE X b tb) (hs : starEach [a, b] X.env = [(false, eval a X.env), (false, eval b X.env)] := by rfl) (hs2 : starEach [b] X.env = [(false, eval b X.env)] := by rfl) : TI X tg (.Call (.Name "range" p) [a, b] [] pos) (iRange2 ta tb) := fun M S0 H0 E tk =>
  (pi_range2 hg hm (ta_cons ha (ta_cons hb ta_nil hs2) (by rw [hs, hs2]) M S0 H0 E tk) hs hs2).weak fun σ H R ⟨τ, S, Qt, rel, q, k⟩ => ⟨τ, S, fun zs S1 => ∃ i j : Int, zs = [.int i, .int j] ∧ (-(2 ^ 62) ≤ i ∧ i < 2 ^ 62 ∧ -(2 ^ 62) ≤ j ∧ j < 2 ^ 62) ∧ Qt ((List.range (j - i).toNat).map fun k => T.int (i + (k : Nat))) yes S1, rel, by
    have e : ∀ (x y : T) (S2 : Sto), (∃ i j : Int, [x, y] = [T.int i, T.int j] ∧ (-(2 ^ 62) ≤ i ∧ i < 2 ^ 62 ∧ -(2 ^ 62) ≤ j ∧ j < 2 ^ 62) ∧ Qt ((List.range (j - i).toNat).map fun k => T.int (i + (k : Nat))) yes S2) = ∃ i j : Int, x = .int i ∧ y = .int j ∧ (-(2 ^ 62) ≤ i ∧ i < 2 ^ 62 ∧ -(2 ^ 62) ≤ j ∧ j < 2 ^ 62) ∧ Qt ((List.range (j - i).toNat).map fun k => T.int (i + (k : Nat))) yes S2 := fun x y S2 => by
      simp only [List.cons.injEq, and_true, and_assoc]
    show ta τ S (fun x S1 => tb τ S1 (fun y S2 => ∃ i j : Int, [x, y] = [T.int i, T.int j] ∧ (-(2 ^ 62) ≤ i ∧ i < 2 ^ 62 ∧ -(2 ^ 62) ≤ j ∧ j < 2 ^ 62) ∧ Qt ((List.range (j - i).toNat).map fun k => T.int (i + (k : Nat))) yes S2) fun x S' => E x τ S') fun x S' => E x τ S'
    simp only [e]
    exact q, fun zs S1 vs H1 hq o1 x1 r1 => by
    obtain ⟨i, j, rfl, h1, hq⟩ := hq
    cases r1 with
    | cons r1 r2 =>
      cases r2 with
      | cons r2 r3 =>
        cases r3
        cases r1
        cases r2
        exact ⟨i, j, rfl, h1, k _ _ S1 _ H1 hq o1 x1 wks_range⟩⟩
end

/-! ### for -/
def forT (g : TTG) (b : TTS) (gd : Sto → Prop) (D : TD) (E : T → TEnv → Sto → Prop) : List T → TEnv → Sto → Prop
  | [], τ, S => gd S ∧ D.nx τ S
  | x :: xs, τ, S => gd S ∧ g x τ S fun τ1 S1 => b { D with nx := forT g b gd D E xs, ct := forT g b gd D E xs, bk := D.nx } τ1 S1 E
def cFor (it : TTI) (g : TTG) (b : TTS) : TTS := fun D τ S E => it τ S (fun xs gd S1 => forT g b gd D E xs τ S1) (fun x S' => E x τ S')
section
variable {X : Cx} {tg iter : Expr} {body : List Stmt} {ti : TTI} {g : TTG} {t : TTS} {vs : List Nat} {pos : Pos}
theorem ts_for (hp : PassesOwn (model X.prog X.w) X.A X.env X.xe) (hc : X.calm = true) (hi : TI X tg iter ti) (hg : TGt X vs tg g) (hb : TSs X body t) (hs : ∀ x, foldedSetIterable iter X.env x = pure x := by intro _; rfl) :
    TS X (.For tg iter body [] pos) (cFor ti g t) := fun M S0 H0 E tk => (ps_for hp hc (hi M S0 H0 E tk) (hg M S0 H0 E tk) (hb M S0 H0 E tk) hs).weak fun D σ H ⟨τ, S, B, rel, q, k1, k2, k3, k4⟩ => by
  refine ⟨τ, S, _, rel, q, fun xs gd S1 J H1 hq o1 x1 wk => ?_⟩
  let W : Nat → Nat → L2.St → Hp → Prop := fun i m σ' H' => m = xs.length - i ∧ i ≤ xs.length ∧ ∃ τ' S', Rel (gdOf X M) S0 H0 σ' H' τ' S' ∧ Ext S1 H1 S' H' ∧ forT g t gd B E (xs.drop i) τ' S'
  refine ⟨W, ⟨xs.length, by simp, Nat.zero_le _, τ, S1, rel.step o1 x1, Ext.refl, hq⟩, ?_⟩
  rintro i m σ2 H2 ⟨rfl, hi, τ2, S2, rel2, x2, q2⟩
  by_cases hlt : i < xs.length
  · rw [List.drop_eq_getElem_cons hlt] at q2
    obtain ⟨hgd, q2⟩ := q2
    obtain ⟨hgo, hy⟩ := wk.go M S2 H2 i xs[i] (fun a h n => absurd h n) rel2.sto x2 hgd (List.getElem?_eq_getElem hlt)
    refine .inr ⟨hgo, W (i + 1) (xs.length - (i + 1)), fun σ' H' w => ⟨_, by omega, w⟩, fun x H' y => ?_⟩
    obtain ⟨o3, x3, r3⟩ := hy x H' y
    refine ⟨τ2, S2, xs[i], _, rel2.step o3 x3, r3, q2, fun σ4 H4 τ4 S4 rel4 x4 _ q4 => ?_⟩
    have xx : Ext S1 H1 S4 H4 := (x2.trans x3).trans x4
    refine ⟨τ4, S4, _, rel4, q4, fun σ5 H5 τ5 S5 rel5 x5 q5 => ⟨rfl, hlt, τ5, S5, rel5, xx.trans x5, q5⟩, fun z S5 v H5 o5 x5 r5 q5 => k2 z S5 v H5 o5 (x1.trans (xx.trans x5)) r5 q5,
      fun σ5 H5 τ5 S5 rel5 x5 q5 => k1 _ _ _ _ rel5 (x1.trans (xx.trans x5)) q5, fun σ5 H5 τ5 S5 rel5 x5 q5 => ⟨rfl, hlt, τ5, S5, rel5, xx.trans x5, q5⟩⟩
  · have e : i = xs.length := by omega
    subst e
    rw [List.drop_length] at q2
    exact .inl ⟨wk.stop M S2 H2 rel2.sto x2 q2.1, k1 _ _ _ _ rel2 (x1.trans x2) q2.2⟩
end

/-! ### list comprehensions -/
def wipeT (τ : TEnv) : List Nat → TEnv
  | [] => τ
  | v :: vs => (wipeT τ vs).set v none
def compT (g : TTG) (c : TTB) (e : TTE) (own : List Nat) (gd : Sto → Prop) (τ : TEnv) (K : List T → Sto → Prop) : List T → List T → Sto → Prop
  | [], acc, S => gd S ∧ K acc S
  | x :: xs, acc, S => gd S ∧ g x (wipeT τ own) S fun τ1 S1 => c τ1 S1 (fun k S2 => if k = true then e τ1 S2 (fun y S3 => acc.length < sizeLine ∧ compT g c e own gd τ K xs (acc ++ [y]) S3) (fun _ _ => False)
    else compT g c e own gd τ K xs acc S2) (fun _ _ => False)
def cComp (it : TTI) (g : TTG) (c : TTB) (e : TTE) (own : List Nat) : TTE := fun τ S Q E => it τ S (fun xs gd S1 => compT g c e own gd τ (fun zs S2 => Q (.lst zs) S2) xs [] S1) E
def cCompM (it : TTI) (g : TTG) (c : TTB) (e : TTE) (own : List Nat) : TTE := fun τ S Q E => it τ S (fun xs gd S1 => compT g c e own gd τ (fun zs S2 => ∀ p, S2 p = none → Q (.ref p) (ups S2 p (.lst zs))) xs [] S1) E
def bYes : TTB := fun _ S Q _ => Q true S
section
variable {G : Gd} {H : Hp} {S : Sto}
theorem EnvR.wipe {σ : L2.St} {τ : TEnv} (h : EnvR G H S σ τ) (vs : List Nat) : EnvR G H S (wipe σ vs) (wipeT τ vs) := by
  induction vs with
  | nil => exact h
  | cons v vs ih =>
    refine ⟨?_, fun i t e => ?_⟩
    · show ((L2.wipe σ vs).set v none).length = ((wipeT τ vs).set v none).length
      rw [List.length_set, List.length_set]
      exact ih.1
    · have e' : ((wipeT τ vs).set v none)[i]? = some (some t) := e
      by_cases hv : v = i
      · subst hv
        rw [List.getElem?_set_self'] at e'
        cases q : (wipeT τ vs)[v]? with
        | none => rw [q] at e'; cases e'
        | some z => rw [q] at e'; cases e'
      · rw [List.getElem?_set_ne hv] at e'
        obtain ⟨w, h1, h2⟩ := ih.2 i t e'
        refine ⟨w, ?_, h2⟩
        show ((L2.wipe σ vs).set v none)[i]? = some (some w)
        rw [List.getElem?_set_ne hv]
        exact h1
end
def TBs (X : Cx) (ifs : List Expr) (t : TTB) : Prop := ∀ M S0 H0 E, Takes X (wOf X M S0 H0 E) → PTs X ifs (LB X M S0 H0 t E)
theorem tbs_nil {X : Cx} : TBs X [] bYes := fun M S0 H0 E tk => ⟨fun pins s σ H Q I ⟨τ, S, Qt, rel, h, k⟩ => pts_nil.run pins s σ H Q I (k true S H h rel.sto Ext.refl)⟩
theorem tbs_one {X : Cx} {c : Expr} {t : TTB} (h : TB X c t) : TBs X [c] t := fun M S0 H0 E tk => pts_one (h M S0 H0 E tk)
theorem takes_blk {X : Cx} {s : Shared} {H : Hp} {scope : Scope} {env : Env} {fp : List Addr} {M : Addr → Prop} {S0 : Sto} {H0 : Hp} : Takes (X.blk s H scope env fp) (wOf (X.blk s H scope env fp) M S0 H0 fun _ _ _ => False) := takes0.imp fun c d σ H ⟨_, _, _, _, _, z⟩ => z.elim
/-- E is never: within a block nothing is let out -/
abbrev EN : T → TEnv → Sto → Prop := fun _ _ _ => False
/-- the mask with one more -/
def also (M : Addr → Prop) (D : Addr) : Addr → Prop := fun a => M a ∨ a = D
/-- readings whose mask is chosen where they begin -/
def XG (X : Cx) (vs : List Nat) (S0 : Sto) (H0 : Hp) (g : TTG) : L2.TG := fun v σ H Q => ∃ M, LG X M vs S0 H0 g v σ H Q
def XB (X : Cx) (S0 : Sto) (H0 : Hp) (t : TTB) : L2.TT := fun σ H Q => ∃ M, LB X M S0 H0 t EN σ H Q
def XE' (X : Cx) (S0 : Sto) (H0 : Hp) (t : TTE) : L2.TE := fun σ H Q => ∃ M, LE X M S0 H0 t EN σ H Q
section
variable {X : Cx} {elt tg iter : Expr} {ifs : List Expr} {scope : Scope} {own : List Nat} {ti : TTI} {g : TTG} {tc : TTB} {te : TTE} {pos spos py : Pos}
/-- the comprehension's reading from its tree -/
theorem comp_read {M : Addr → Prop} {S0 : Sto} {H0 : Hp} {E : T → TEnv → Sto → Prop} {σ : L2.St} {H : Hp} {Q : VK} {τ : TEnv} {S : Sto} (Kt : List T → Sto → Prop) (rel : Rel (gdOf X M) S0 H0 σ H τ S)
    (h : ti τ S (fun xs gd S1 => compT g tc te own gd τ Kt xs [] S1) (fun x S' => E x τ S'))
    (fin : ∀ zs S2 D H2 vs, Kt zs S2 → StoOk (gdOf X (also M D)) H2 S2 → Ext S H S2 H2 → H2 D = some (.lst vs) → S2 D = none → ¬ M D → (∀ c, Ext S H (ups S2 D c) H2) → Reps (gdOf X (also M D)) H2 S2 zs vs → Q (.ref D) H2) :
    tLc (LI X M S0 H0 ti E) (XG X own S0 H0 g) (XB X S0 H0 tc) (XE' X S0 H0 te) own σ H Q := by
  refine ⟨τ, S, _, rel, h, fun xs gd S1 J H1 hq o1 x1 wk D hD => ?_⟩
  have xD : Ext S1 H1 S1 (upd H1 D (.lst [])) := Ext.new hD
  let W : Nat → Nat → Hp → Prop := fun i m H' => m = xs.length - i ∧ i ≤ xs.length ∧ ∃ S' acc vs, StoOk (gdOf X (also M D)) H' S' ∧ Ext S1 H1 S' H' ∧ H' D = some (.lst vs) ∧ S' D = none ∧ Reps (gdOf X (also M D)) H' S' acc vs ∧ compT g tc te own gd τ Kt (xs.drop i) acc S'
  have oD : StoOk (gdOf X (also M D)) (upd H1 D (.lst [])) S1 := o1.putOn hD
  refine ⟨W, ⟨xs.length, by simp, Nat.zero_le _, S1, [], [], oD, xD, upd_same, o1.free hD, .nil, hq⟩, ?_⟩
  rintro i m H2 ⟨rfl, hi, S2, acc, vs, o2, x2, hD2, nD2, ra, q2⟩
  by_cases hlt : i < xs.length
  · rw [List.drop_eq_getElem_cons hlt] at q2
    obtain ⟨hgd, q2⟩ := q2
    obtain ⟨hgo, hy⟩ := wk.go (also M D) S2 H2 i xs[i] (fun a h n => h.elim (fun h => absurd h n) fun e => e ▸ hD) o2 x2 hgd (List.getElem?_eq_getElem hlt)
    refine .inr ⟨hgo, W (i + 1) (xs.length - (i + 1)), fun H' w => ⟨_, by omega, w⟩, fun x H' y => ?_⟩
    obtain ⟨o3, x3, r3⟩ := hy x H' y
    have d3 := x3.exact hD2 nD2
    have a3 := Reps.ext x3 _ _ ra
    have x13 := x2.trans x3
    have envD : EnvR (gdOf X (also M D)) H1 S1 σ τ := ⟨rel.env.1, fun j t e => by
      obtain ⟨v, h1, h2⟩ := (rel.env.ext x1).2 j t e
      exact ⟨v, h1, Rep.mask (M := also M D) (fun a u r m z => z.elim m fun e => Rd.ne hD r e) _ _ h2⟩⟩
    have relW : Rel (gdOf X (also M D)) S0 H0 (wipe σ own) H' (wipeT τ own) S2 := ⟨(envD.ext x13).wipe _, o3, rel.ext.trans (x1.trans x13)⟩
    refine ⟨also M D, _, S2, xs[i], _, relW, r3, q2, fun σ4 H4 τ4 S4 rel4 x4 w4 q4 => ⟨?_, ?_⟩⟩
    · rw [w4]
      apply List.ext_getElem?
      intro j
      rw [wipe_at, wipe_at]
      by_cases hj : j ∈ own
      · rw [if_pos hj, if_pos hj]
        cases σ[j]? <;> rfl
      · rw [if_neg hj, if_neg hj]
    · refine ⟨also M D, τ4, S4, _, rel4, q4, fun b S5 H5 q5 o5 x5 => ?_⟩
      have x35 := x4.trans x5
      have d5 := x35.exact d3.1 d3.2
      have a5 := Reps.ext x35 _ _ a3
      cases b with
      | false => exact ⟨rfl, hlt, S5, acc, vs, o5, x13.trans x35, d5.1, d5.2, a5, q5⟩
      | true =>
        refine ⟨also M D, τ4, S5, _, rel4.step o5 x5, q5, fun z S6 v H6 q6 o6 x6 r6 => ?_⟩
        obtain ⟨hz, q6⟩ := q6
        have d6 := x6.exact d5.1 d5.2
        have a6 := Reps.ext x6 _ _ a5
        have mD : (gdOf X (also M D)).M D := .inr rfl
        refine ⟨vs, d6.1, by rw [← a6.length]; exact hz, rfl, hlt, S6, acc ++ [z], vs ++ [v], o6.at mD d6.2, ?_, upd_same, d6.2, (Reps.extM (ExtM.at mD) _ _ a6).append (.cons (Rep.extM (ExtM.at mD) _ _ r6) .nil), q6⟩
        have x16 := (x13.trans x35).trans x6
        exact fun b u n => ⟨fun h f => let w := (x16 b u n).1 h f; ⟨(upd_ne fun e => ne_of_none h hD e).trans w.1, w.2⟩, fun h f => let w := (x16 b u n).2 h f; ⟨Rd.upd (Rd.ne hD h) w.1, w.2⟩⟩
  · have e : i = xs.length := by omega
    subst e
    rw [List.drop_length] at q2
    exact .inl ⟨wk.stop (also M D) S2 H2 o2 x2 q2.1, fin _ _ _ _ _ q2.2 o2 (x1.trans x2) hD2 nD2 (o1.nom hD) (fun c b u n => ⟨fun h f => let w := (x1 b u n).1 h f; let z := (x2 b u w.2).1 w.1 f; ⟨z.1, (ups_ne (ne_of_none w.1 hD)).trans z.2⟩, fun h f => let w := (x1 b u n).2 h f; let z := (x2 b u w.2).2 w.1 f; ⟨z.1, (ups_ne (Rd.ne hD w.1)).trans z.2⟩⟩) ra⟩
/-- the block's parts, as judged within -/
theorem blk_g {vs : List Nat} {S0 : Sto} {H0 : Hp} {Y : Cx} (h : TGt Y vs tg g) (tk : ∀ M, Takes Y (wOf Y M S0 H0 EN)) : PG Y tg (XG Y vs S0 H0 g) :=
  ⟨fun pins s σ H v u Q I r ⟨M, q⟩ => (h M S0 H0 EN (tk M)).run pins s σ H v u Q I r q⟩
theorem blk_t {S0 : Sto} {H0 : Hp} {Y : Cx} (h : TBs Y ifs tc) (tk : ∀ M, Takes Y (wOf Y M S0 H0 EN)) : PTs Y ifs (XB Y S0 H0 tc) :=
  ⟨fun pins s σ H Q I ⟨M, q⟩ => (h M S0 H0 EN (tk M)).run pins s σ H Q I q⟩
theorem blk_e {S0 : Sto} {H0 : Hp} {Y : Cx} (h : TE Y elt te) (tk : ∀ M, Takes Y (wOf Y M S0 H0 EN)) : PE Y elt (XE' Y S0 H0 te) :=
  ⟨fun pins s σ H Q I ⟨M, q⟩ => (h M S0 H0 EN (tk M)).run pins s σ H Q I q⟩
abbrev Blk (X : Cx) (scope : Scope) (F : Cx → Prop) : Prop := ∀ (s : Shared) (H : Hp) (C : Addr) (cl : List (Str × Addr)) (fp : List Addr), F (X.blk s H scope (compEnvC scope cl C X.env) fp)
variable {ow : List (Str × Nat)}
theorem te_comp (hc : X.calm = true) (hN : X.N.Nodup) (hi : TI X tg iter ti) (ok : BlkOk X.N X.env.scope scope ow) (hg : Blk X scope fun Y => TGt Y (ow.map (·.2)) tg g) (ht : Blk X scope fun Y => TBs Y ifs tc) (he : Blk X scope fun Y => TE Y elt te)
    (hs : ∀ x, foldedSetIterable iter X.env x = pure x := by intro _; rfl) : TE X (.ListComp elt [⟨tg, iter, ifs, 0⟩] scope pos) (cComp ti g tc te (ow.map (·.2))) := fun M S0 H0 E tk =>
  (pe_lc hc hN (hi M S0 H0 E tk) ok (fun s H C cl fp => blk_g (hg s H C cl fp) fun _ => takes_blk) (fun s H C cl fp => blk_t (ht s H C cl fp) fun _ => takes_blk) (fun s H C cl fp => blk_e (he s H C cl fp) fun _ => takes_blk) hs).weak
    fun σ H Q ⟨τ, S, Qt, rel, h, k⟩ => comp_read _ rel h fun zs S2 D H2 vs q o2 x2 hD nD nM xD r => k (.lst zs) S2 (.ref D) H2 q (o2.takeOff fun _ m => .inl m) x2 (.lst ⟨hD, nD, nM⟩ (r.takeOff fun _ m => .inl m))
theorem te_compM (hc : X.calm = true) (hN : X.N.Nodup) (hi : TI X tg iter ti) (ok : BlkOk X.N X.env.scope scope ow) (hg : Blk X scope fun Y => TGt Y (ow.map (·.2)) tg g) (ht : Blk X scope fun Y => TBs Y ifs tc) (he : Blk X scope fun Y => TE Y elt te)
    (hs : ∀ x, foldedSetIterable iter X.env x = pure x := by intro _; rfl) : TE X (.ListComp elt [⟨tg, iter, ifs, 0⟩] scope pos) (cCompM ti g tc te (ow.map (·.2))) := fun M S0 H0 E tk =>
  (pe_lc hc hN (hi M S0 H0 E tk) ok (fun s H C cl fp => blk_g (hg s H C cl fp) fun _ => takes_blk) (fun s H C cl fp => blk_t (ht s H C cl fp) fun _ => takes_blk) (fun s H C cl fp => blk_e (he s H C cl fp) fun _ => takes_blk) hs).weak
    fun σ H Q ⟨τ, S, Qt, rel, h, k⟩ => by
      refine comp_read (fun zs S2 => ∀ p, S2 p = none → Qt (.ref p) (ups S2 p (.lst zs))) rel h fun zs S2 D H2 vs q o2 x2 hD nD nM xD r => ?_
      have um : ∀ {c : Cell}, ExtM (also M D) S2 H2 (ups S2 D c) H2 := fun {c} b u nb n => by
        have ne : b ≠ D := fun e => nb (.inr e)
        exact ⟨fun h _ => ⟨h, (ups_ne ne).trans n⟩, fun h _ => ⟨h, (ups_ne ne).trans n⟩⟩
      have r' : Reps (gdOf X (also M D)) H2 (ups S2 D (.lst zs)) zs vs := Reps.extM um _ _ r
      have o3 : StoOk (gdOf X M) H2 (ups S2 D (.lst zs)) := ⟨fun a c e => by
        by_cases z : a = D
        · subst z
          rw [ups_same] at e
          cases e
          exact ⟨vs, hD, r'.takeOff fun _ m => .inl m⟩
        · rw [ups_ne z] at e
          exact CellOk.mask (G := gdOf X (also M D)) (M := M) (fun _ _ _ n m => n (Or.inl m)) ((o2.at_ a c e).extM um rfl), fun a m => o2.msk a (.inl m), fun a m => by
        have ne : a ≠ D := fun e => nM (e ▸ m)
        rw [ups_ne ne]
        exact o2.sep a (.inl m)⟩
      exact k (.ref D) _ (.ref D) H2 (q D nD) o3 (xD _) (.ref D)
/-- name = [..], the name a local -/
theorem ts_setComp {i : Nat} {y : Str} (hc : X.calm = true) (hN : X.N.Nodup) (hy : X.N[i]? = some y) (hyl : X.env.scope.names.lookup y = some .local) (hsw : swapsWith (.ListComp elt [⟨tg, iter, ifs, 0⟩] scope pos) (some (.Name y py)) spos.line X.env = pure true)
    (hi : TI X tg iter ti) (ok : BlkOk X.N X.env.scope scope ow) (hg : Blk X scope fun Y => TGt Y (ow.map (·.2)) tg g) (ht : Blk X scope fun Y => TBs Y ifs tc) (he : Blk X scope fun Y => TE Y elt te) (hs : ∀ x, foldedSetIterable iter X.env x = pure x := by intro _; rfl) :
    TS X (.Assign [.Name y py] (.ListComp elt [⟨tg, iter, ifs, 0⟩] scope pos) spos) (cSet i (cComp ti g tc te (ow.map (·.2)))) := fun M S0 H0 E tk =>
  (ps_setLc hc hN hy hyl hsw (hi M S0 H0 E tk) ok (fun s H C cl fp => blk_g (hg s H C cl fp) fun _ => takes_blk) (fun s H C cl fp => blk_t (ht s H C cl fp) fun _ => takes_blk) (fun s H C cl fp => blk_e (he s H C cl fp) fun _ => takes_blk) hs).weak
    fun D σ H ⟨τ, S, B, rel, h, k, _⟩ => comp_read (fun zs S2 => B.nx (τ.set i (some (.lst zs))) S2) rel h fun zs S2 L H2 vs q o2 x2 hD nD nM xD r =>
      k _ _ _ _ ((rel.step (o2.takeOff fun _ m => .inl m) x2).set (.lst ⟨hD, nD, nM⟩ (r.takeOff fun _ m => .inl m))) x2 q
theorem ts_setCompM {i : Nat} {y : Str} (hc : X.calm = true) (hN : X.N.Nodup) (hy : X.N[i]? = some y) (hyl : X.env.scope.names.lookup y = some .local) (hsw : swapsWith (.ListComp elt [⟨tg, iter, ifs, 0⟩] scope pos) (some (.Name y py)) spos.line X.env = pure true)
    (hi : TI X tg iter ti) (ok : BlkOk X.N X.env.scope scope ow) (hg : Blk X scope fun Y => TGt Y (ow.map (·.2)) tg g) (ht : Blk X scope fun Y => TBs Y ifs tc) (he : Blk X scope fun Y => TE Y elt te) (hs : ∀ x, foldedSetIterable iter X.env x = pure x := by intro _; rfl) :
    TS X (.Assign [.Name y py] (.ListComp elt [⟨tg, iter, ifs, 0⟩] scope pos) spos) (cSet i (cCompM ti g tc te (ow.map (·.2)))) := fun M S0 H0 E tk =>
  (ps_setLc hc hN hy hyl hsw (hi M S0 H0 E tk) ok (fun s H C cl fp => blk_g (hg s H C cl fp) fun _ => takes_blk) (fun s H C cl fp => blk_t (ht s H C cl fp) fun _ => takes_blk) (fun s H C cl fp => blk_e (he s H C cl fp) fun _ => takes_blk) hs).weak
    fun D σ H ⟨τ, S, B, rel, h, k, _⟩ => by
      refine comp_read (fun zs S2 => ∀ p, S2 p = none → B.nx (τ.set i (some (.ref p))) (ups S2 p (.lst zs))) rel h fun zs S2 L H2 vs q o2 x2 hD nD nM xD r => ?_
      have um : ∀ {c : Cell}, ExtM (also M L) S2 H2 (ups S2 L c) H2 := fun {c} b u nb n => by
        have ne : b ≠ L := fun e => nb (.inr e)
        exact ⟨fun h _ => ⟨h, (ups_ne ne).trans n⟩, fun h _ => ⟨h, (ups_ne ne).trans n⟩⟩
      have r' : Reps (gdOf X (also M L)) H2 (ups S2 L (.lst zs)) zs vs := Reps.extM um _ _ r
      have o3 : StoOk (gdOf X M) H2 (ups S2 L (.lst zs)) := ⟨fun a c e => by
        by_cases z : a = L
        · subst z
          rw [ups_same] at e
          cases e
          exact ⟨vs, hD, r'.takeOff fun _ m => .inl m⟩
        · rw [ups_ne z] at e
          exact CellOk.mask (G := gdOf X (also M L)) (M := M) (fun _ _ _ n m => n (Or.inl m)) ((o2.at_ a c e).extM um rfl), fun a m => o2.msk a (.inl m), fun a m => by
        have ne : a ≠ L := fun e => nM (e ▸ m)
        rw [ups_ne ne]
        exact o2.sep a (.inl m)⟩
      exact k _ _ _ _ ((rel.step o3 (xD _)).set (.ref L)) (xD _) (q L nD)
end
end TL

/-! TLe: defs and their calls over trees. -/
namespace TL
open PySem PySem.Spec PyProof.Rows L2

/-- what a def promises: the arguments' trees, the store, what follows, what is raised -/
abbrev SpT := List T → Sto → (T → Sto → Prop) → (T → Sto → Prop) → Prop
def liftSp (P : Program) (K : PySem.W.Frag) (w : World) (sp : SpT) : Sp := fun vs H Q E => ∃ M ts S Qt Et, Reps ⟨P, K, w, M⟩ H S ts vs ∧ StoOk ⟨P, K, w, M⟩ H S ∧ sp ts S Qt Et ∧
  (∀ z S' v H', Qt z S' → StoOk ⟨P, K, w, M⟩ H' S' → Ext S H S' H' → Rep ⟨P, K, w, M⟩ H' S' z v → Q v H') ∧
  (∀ x S' cls d H', Et x S' → StoOk ⟨P, K, w, M⟩ H' S' → Ext S H S' H' → ExcIs ⟨P, K, w, M⟩ H' S' x cls d → E cls d H')
def cCall (sp : SpT) (a : TTA) : TTE := fun τ S Q E => a τ S (fun ts S1 => sp ts S1 Q E) E

/-! ### giving up cells -/
mutual
/-- u is t with some cells of S, none of S2, taken for what they hold -/
inductive Fz (S S2 : Sto) : T → T → Prop
  | same (t : T) : Fz S S2 t t
  | lstc {a : Addr} {ts us : List T} : S a = some (.lst ts) → S2 a = none → Fzs S S2 ts us → Fz S S2 (.ref a) (.lst us)
  | dctc {a : Addr} {b : Bool} {ks vs us : List T} : S a = some (.dct b ks vs) → S2 a = none → Fzs S S2 vs us → Fz S S2 (.ref a) (.dct b ks us)
  | insc {a : Addr} {c : Str} {ns : List Str} {vs us : List T} : S a = some (.ins c ns vs) → S2 a = none → Fzs S S2 vs us → Fz S S2 (.ref a) (.obj c ns us)
  | tup {ts us : List T} : Fzs S S2 ts us → Fz S S2 (.tup ts) (.tup us)
  | lst {ts us : List T} : Fzs S S2 ts us → Fz S S2 (.lst ts) (.lst us)
inductive Fzs (S S2 : Sto) : List T → List T → Prop
  | nil : Fzs S S2 [] []
  | cons {t u : T} {ts us : List T} : Fz S S2 t u → Fzs S S2 ts us → Fzs S S2 (t :: ts) (u :: us)
end
/-- some cells are given up -/
def Sub (S2 S : Sto) : Prop := ∀ a c, S2 a = some c → S a = some c
section
variable {G : Gd} {H : Hp} {S S2 : Sto}
theorem Sub.ext (k : Sub S2 S) : Ext S H S2 H := Ext.drop fun b n => by
  cases q : S2 b with
  | none => rfl
  | some d => rw [k b d q] at n; cases n
mutual
theorem Fz.rep (o : StoOk G H S) (k : Sub S2 S) : ∀ {t u : T}, Fz S S2 t u → ∀ {v : V}, Rep G H S t v → Rep G H S2 u v
  | _, _, .same _, _, r => Rep.ext k.ext _ _ r
  | _, _, .lstc h1 h2 h3, _, r => by
    cases r
    obtain ⟨xs, e, q⟩ := o.at_ _ _ h1
    exact .lst ⟨e, h2, fun m => by rw [o.sep _ m] at h1; cases h1⟩ (Fzs.reps o k h3 q)
  | _, _, .dctc (b := false) h1 h2 h3, _, r => by
    cases r
    obtain ⟨kvs, e, q1, q2⟩ := o.at_ _ _ h1
    exact .dK ⟨.inl e, h2, fun m => by rw [o.sep _ m] at h1; cases h1⟩ (Reps.ext k.ext _ _ q1) (Fzs.reps o k h3 q2)
  | _, _, .dctc (b := true) h1 h2 h3, _, r => by
    cases r
    obtain ⟨es, e, q0, q1, q2⟩ := o.at_ _ _ h1
    exact .dN ⟨.inl e, h2, fun m => by rw [o.sep _ m] at h1; cases h1⟩ q0 (Reps.ext k.ext _ _ q1) (Fzs.reps o k h3 q2)
  | _, _, .insc h1 h2 h3, _, r => by
    cases r
    obtain ⟨d, xs, e, q0, q1⟩ := o.at_ _ _ h1
    exact .obj ⟨.inl e, h2, fun m => by rw [o.sep _ m] at h1; cases h1⟩ q0 (Fzs.reps o k h3 q1)
  | _, _, .tup h, _, r => by
    cases r with
    | tup h1 h2 => exact .tup (h1.ext k.ext) (Fzs.reps o k h h2)
  | _, _, .lst h, _, r => by
    cases r with
    | lst h1 h2 => exact .lst (h1.ext k.ext) (Fzs.reps o k h h2)
theorem Fzs.reps (o : StoOk G H S) (k : Sub S2 S) : ∀ {ts us : List T}, Fzs S S2 ts us → ∀ {vs : List V}, Reps G H S ts vs → Reps G H S2 us vs
  | _, _, .nil, _, r => by cases r; exact .nil
  | _, _, .cons h1 h2, _, r => by
    cases r with
    | cons r1 r2 => exact .cons (Fz.rep o k h1 r1) (Fzs.reps o k h2 r2)
end
end
/-- what follows, some cells given up -/
def Fin (Q : T → Sto → Prop) (z : T) (S : Sto) : Prop := ∃ S2 u, Sub S2 S ∧ Fz S S2 z u ∧ Q u S2
theorem Fin.of {Q : T → Sto → Prop} {z : T} {S : Sto} (h : Q z S) : Fin Q z S := ⟨S, z, fun _ _ e => e, .same z, h⟩
/-- an exception's fields are not frozen; cells are given up all the same -/
def FinX (Q : T → Sto → Prop) (z : T) (S : Sto) : Prop := ∃ S2, Sub S2 S ∧ Q z S2
theorem ExcIs.ext {G : Gd} {H H' : Hp} {S S' : Sto} {x : T} {cls : Value} {d : Option Addr} (h : ExcIs G H S x cls d) (e : Ext S H S' H') : ExcIs G H' S' x cls d := by
  obtain ⟨c, ns, ts, h1, h2, h3⟩ := h
  refine ⟨c, ns, ts, h1, h2, h3.imp id ?_⟩
  rintro ⟨da, xs, q1, q2, q3, q4⟩
  exact ⟨da, xs, q1, q2.ext e, q3, Reps.ext e _ _ q4⟩

/-! ### the slots at the entry -/
def startT (N : List Str) (ts : List T) : TEnv := ts.map some ++ List.replicate (N.length - ts.length) none
theorem start_env {G : Gd} {H : Hp} {S : Sto} {N : List Str} {ts : List T} {vs : List V} (r : Reps G H S ts vs) : EnvR G H S (start N vs) (startT N ts) := by
  have l := r.length
  refine ⟨by simp [L2.start, startT, l], fun i t e => ?_⟩
  unfold startT at e
  by_cases hi : i < ts.length
  · rw [List.getElem?_append_left (by simpa using hi), List.getElem?_map] at e
    cases q : ts[i]? with
    | none => rw [q] at e; cases e
    | some z =>
      rw [q] at e
      cases e
      obtain ⟨v, h1, h2⟩ := r.get q
      refine ⟨v, ?_, h2⟩
      unfold L2.start
      rw [List.getElem?_append_left (by simp; omega), List.getElem?_map, h1]
      rfl
  · rw [List.getElem?_append_right (by simpa using hi), List.getElem?_replicate] at e
    split at e <;> cases e

section
variable {P : Program} {w : World} {K : PySem.W.Frag} {mg : Str → Option Value} {base : Heap} {x qual : Str} {params : Arguments} {body : List Stmt} {scope : Scope} {f : Addr} {fd : FuncData} {N ps : List Str} {k : Nat} {sp : SpT} {c : TTS}
/-- THE RULE for a def: its body as a tree's reading, and the reading -/
theorem fn_t (F : FunD K x qual params body scope [] [] f fd) (Sc : FnScope N ps scope) (len : ∀ ts S Q E, sp ts S Q E → ts.length = ps.length)
    (hb : ∀ (cdv : Value) (A : Around) (outer : List Env) (s : Shared) (H : Hp) (E : XK), Room k (A.deeper (envOfC qual scope s.heap.objs.size f cdv)) → TSs (cxOf (L2.CX P w) P w K mg base N qual scope f cdv A outer s H E) body c)
    (vc : ∀ ts S Q E, sp ts S Q E → c { nx := fun _ S' => Fin Q .non S', rt := Fin Q } (startT N ts) S (fun x _ S' => FinX E x S')) :
    FnOk P w K mg base (L2.CX P w) (k + 1) f fd ps (liftSp P K w sp) := by
  refine F.ok Sc (fun vs H Q E h => ?_) (fun cdv A outer s H vs Q E hr h => ?_)
  · obtain ⟨M, ts, S, Qt, Et, r, _, q, _⟩ := h
    rw [← r.length]
    exact len _ _ _ _ q
  · obtain ⟨M, ts, S, Qt, Et, r, o, q, hQ, hE⟩ := h
    have vc' := vc ts S Qt Et q
    have tk : Takes (cxOf (L2.CX P w) P w K mg base N qual scope f cdv A outer s H E) (wOf (cxOf (L2.CX P w) P w K mg base N qual scope f cdv A outer s H E) M S H fun x _ S' => FinX Et x S') := by
      refine takes_of rfl rfl rfl rfl |>.imp fun cls d σ H' z => ?_
      obtain ⟨τ, S', x, rel, hx, S2, k2, h2⟩ := z
      exact hE x S2 cls d H' h2 (rel.sto.drop k2) (rel.ext.trans k2.ext) (hx.ext k2.ext)
    refine ⟨_, hb cdv A outer s H E hr M S H _ tk, startT N ts, S, _, ⟨start_env r, o, Ext.refl⟩, vc', ?_, ?_, fun _ _ _ _ _ _ z => z.elim, fun _ _ _ _ _ _ z => z.elim⟩
    · rintro σ' H' τ' S' rel x ⟨S2, u, k2, fz, q2⟩
      exact hQ u S2 .non H' q2 (rel.sto.drop k2) (x.trans k2.ext) (Fz.rep rel.sto k2 fz .non)
    · rintro z S' v H' o2 x r2 ⟨S2, u, k2, fz, q2⟩
      exact hQ u S2 v H' q2 (o2.drop k2) (x.trans k2.ext) (Fz.rep o2 k2 fz r2)
end

section
variable {X : Cx} {k : Nat} {f : Addr} {fd : FuncData} {ps : List Str} {sp : SpT} {x : Str} {p pos : Pos} {e : Expr} {es : List Expr} {ta : TTA}
theorem te_call (F : FnOk X.prog X.w X.K X.mg X.base (L2.CX X.prog X.w) k f fd ps (liftSp X.prog X.K X.w sp)) (hr : Room k X.A) (hg : Gl X x) (hm : X.mg x = some (.ref f)) (hk : PySem.W.keepIn X.K (.ref f) = true) (hb : Binds X.K fd ps [])
    (ha : TA X (e :: es) ta) (hdb : (x == ("__debug__" : Str)) = false := by decide) (he : starEach (e :: es) X.env = (false, eval e X.env) :: starEach es X.env := by rfl) (hpl : (backTo pos (starEach es X.env)).any (·.1) = false := by rfl) :
    TE X (.Call (.Name x p) (e :: es) [] pos) (cCall sp ta) := fun M S0 H0 E tk =>
  (pe_callS (E := WE (wOf X M S0 H0 E)) F hr hg hm hk hb (fun σ => passAt tk σ) (ha M S0 H0 E tk) hdb he hpl).weak fun σ H Q ⟨τ, S, Qt, rel, h, fin⟩ => ⟨τ, S, _, rel, h, fun zs S1 vs H1 q o1 x1 r1 =>
    ⟨M, zs, S1, Qt, fun x S' => E x τ S', r1, o1, q, fun z S' v H' qz o2 x2 r2 => fin z S' v H' qz o2 (x1.trans x2) r2, fun x S' cls d H' qx o2 x2 hx => ⟨τ, S', x, rel.step o2 (x1.trans x2), hx, qx⟩⟩⟩
end
end TL

/-! TLf: trees as data; ==, <, in; numbers, texts, tuples joined. -/
namespace TL
open PySem PySem.Spec PyProof.Rows L2

/-! ### plain trees as data -/
mutual
def dat : T → PyData
  | .bl b => .bool b
  | .int i => .int i
  | .str x => .str (txt x)
  | .tup ts => .tuple (dats ts)
  | .lst ts => .list (dats ts)
  | _ => .none
def dats : List T → List PyData
  | [] => []
  | t :: ts => dat t :: dats ts
end
mutual
def plain : T → Bool
  | .non => true
  | .bl _ => true
  | .int _ => true
  | .str _ => true
  | .tup ts => plains ts
  | .lst ts => plains ts
  | _ => false
def plains : List T → Bool
  | [] => true
  | t :: ts => plain t && plains ts
end
mutual
def dep : T → Nat
  | .tup ts => deps ts + 1
  | .lst ts => deps ts + 1
  | _ => 0
def deps : List T → Nat
  | [] => 0
  | t :: ts => max (dep t) (deps ts)
end
/-! as Python's == tells -/
mutual
def eqt : T → T → Bool
  | .non, .non => true
  | .bl a, .bl b => a == b
  | .bl a, .int j => (if a then 1 else 0) == j
  | .int i, .bl b => i == (if b then 1 else 0)
  | .int i, .int j => i == j
  | .str x, .str y => decide (x = y)
  | .tup xs, .tup ys => eqts xs ys
  | .lst xs, .lst ys => eqts xs ys
  | _, _ => false
def eqts : List T → List T → Bool
  | [], [] => true
  | x :: xs, y :: ys => eqt x y && eqts xs ys
  | _, _ => false
end
def strLt (x y : List Sg) : Bool := decide (x.map (·.val) < y.map (·.val))
/-! as Python's < tells of things alike -/
mutual
def ltt : T → T → Bool
  | .bl a, .bl b => !a && b
  | .int i, .int j => decide (i < j)
  | .str x, .str y => strLt x y
  | .tup xs, .tup ys => ltts xs ys
  | .lst xs, .lst ys => ltts xs ys
  | _, _ => false
def ltts : List T → List T → Bool
  | [], [] => false
  | [], _ :: _ => true
  | _ :: _, [] => false
  | x :: xs, y :: ys => if eqt x y = true then ltts xs ys else ltt x y
end
mutual
def alk : T → T → Bool
  | .non, .non => true
  | .bl _, .bl _ => true
  | .int _, .int _ => true
  | .str _, .str _ => true
  | .lst xs, .lst ys => alks xs ys
  | .tup xs, .tup ys => alks xs ys
  | _, _ => false
def alks : List T → List T → Bool
  | x :: xs, y :: ys => alk x y && alks xs ys
  | [], _ => true
  | _ :: _, [] => true
end
theorem txt_eq (x y : List Sg) : (txt x == txt y) = decide (x = y) := by
  by_cases h : x = y
  · subst h
    simp
  · have : txt x ≠ txt y := fun e => h (txt_inj e)
    simp [h, this]
mutual
theorem eqt_dat : ∀ x y : T, plain x = true → plain y = true → PyData.eqv (dat x) (dat y) = eqt x y
  | .non, y, _, hy => by cases y <;> first | rfl | cases hy
  | .bl _, y, _, hy => by cases y <;> first | rfl | cases hy
  | .int _, y, _, hy => by cases y <;> first | rfl | cases hy
  | .str a, y, _, hy => by
    cases y with
    | str b => simp only [dat, PyData.eqv, eqt]; exact txt_eq a b
    | _ => first | rfl | cases hy
  | .tup xs, y, hx, hy => by
    cases y with
    | tup ys =>
      simp only [dat, PyData.eqv, eqt]
      exact eqts_dat xs ys hx hy
    | _ => first | rfl | cases hy
  | .lst xs, y, hx, hy => by
    cases y with
    | lst ys =>
      simp only [dat, PyData.eqv, eqt]
      exact eqts_dat xs ys hx hy
    | _ => first | rfl | cases hy
  | .ref _, _, hx, _ => by cases hx
  | .exc _ _ _, _, hx, _ => by cases hx
  | .dct _ _ _, _, hx, _ => by cases hx
  | .obj _ _ _, _, hx, _ => by cases hx
  | .fn _, _, hx, _ => by cases hx
  | .scr _, _, hx, _ => by cases hx
theorem eqts_dat : ∀ xs ys : List T, plains xs = true → plains ys = true → PyData.eqvAll (dats xs) (dats ys) = eqts xs ys
  | [], [], _, _ => rfl
  | [], _ :: _, _, _ => rfl
  | _ :: _, [], _, _ => rfl
  | x :: xs, y :: ys, hx, hy => by
    simp only [plains, Bool.and_eq_true] at hx hy
    simp only [dats, PyData.eqvAll, eqts]
    rw [eqt_dat x y hx.1 hy.1, eqts_dat xs ys hx.2 hy.2]
end
mutual
theorem alk_dat : ∀ x y : T, plain x = true → plain y = true → PySem.W.alike (dat x) (dat y) = alk x y
  | .non, y, _, hy => by cases y <;> first | (simp only [dat, PySem.W.alike, alk]; done) | cases hy
  | .bl _, y, _, hy => by cases y <;> first | (simp only [dat, PySem.W.alike, alk]; done) | cases hy
  | .int _, y, _, hy => by cases y <;> first | (simp only [dat, PySem.W.alike, alk]; done) | cases hy
  | .str a, y, _, hy => by cases y <;> first | (simp only [dat, PySem.W.alike, alk]; done) | cases hy
  | .tup xs, y, hx, hy => by
    cases y with
    | tup ys =>
      simp only [dat, PySem.W.alike, alk]
      exact alks_dat xs ys hx hy
    | _ => first | (simp only [dat, PySem.W.alike, alk]; done) | cases hy
  | .lst xs, y, hx, hy => by
    cases y with
    | lst ys =>
      simp only [dat, PySem.W.alike, alk]
      exact alks_dat xs ys hx hy
    | _ => first | (simp only [dat, PySem.W.alike, alk]; done) | cases hy
  | .ref _, _, hx, _ => by cases hx
  | .exc _ _ _, _, hx, _ => by cases hx
  | .dct _ _ _, _, hx, _ => by cases hx
  | .obj _ _ _, _, hx, _ => by cases hx
  | .fn _, _, hx, _ => by cases hx
  | .scr _, _, hx, _ => by cases hx
theorem alks_dat : ∀ xs ys : List T, plains xs = true → plains ys = true → PySem.W.alikeAll (dats xs) (dats ys) = alks xs ys
  | [], [], _, _ => by simp only [dats, PySem.W.alikeAll, alks]
  | [], _ :: _, _, _ => by simp only [dats, PySem.W.alikeAll, alks]
  | _ :: _, [], _, _ => by simp only [dats, PySem.W.alikeAll, alks]
  | x :: xs, y :: ys, hx, hy => by
    simp only [plains, Bool.and_eq_true] at hx hy
    simp only [dats, PySem.W.alikeAll, alks]
    rw [alk_dat x y hx.1 hy.1, alks_dat xs ys hx.2 hy.2]
end
theorem ltts_eq (x y : T) (xs ys : List T) : ltts (x :: xs) (y :: ys) = if eqt x y = true then ltts xs ys else ltt x y := by simp only [ltts]
mutual
theorem ltt_dat : ∀ x y : T, plain x = true → plain y = true → alk x y = true → x ≠ .non → PySem.W.dataLt (dat x) (dat y) = ltt x y
  | .non, _, _, _, _, h => absurd rfl h
  | .bl a, y, _, hy, h, _ => by
    cases y with
    | bl b =>
      simp only [dat, ltt]
      refine (PySem.W.dataLt_bool a b).trans ?_
      cases a <;> cases b <;> rfl
    | _ => simp [alk] at h
  | .int i, y, _, hy, h, _ => by
    cases y with
    | int j => exact PySem.W.dataLt_int i j
    | _ => simp [alk] at h
  | .str a, y, _, hy, h, _ => by
    cases y with
    | str b => exact PySem.W.dataLt_str (txt a) (txt b)
    | _ => simp [alk] at h
  | .tup xs, y, hx, hy, h, _ => by
    cases y with
    | tup ys =>
      simp only [dat, ltt]
      rw [PySem.W.dataLt_tuple]
      exact ltts_dat xs ys hx hy (by simpa [alk] using h)
    | _ => simp [alk] at h
  | .lst xs, y, hx, hy, h, _ => by
    cases y with
    | lst ys =>
      simp only [dat, ltt]
      rw [PySem.W.dataLt_list]
      exact ltts_dat xs ys hx hy (by simpa [alk] using h)
    | _ => simp [alk] at h
  | .ref _, _, hx, _, _, _ => by cases hx
  | .exc _ _ _, _, hx, _, _, _ => by cases hx
  | .dct _ _ _, _, hx, _, _, _ => by cases hx
  | .obj _ _ _, _, hx, _, _, _ => by cases hx
  | .fn _, _, hx, _, _, _ => by cases hx
  | .scr _, _, hx, _, _, _ => by cases hx
theorem ltts_dat : ∀ xs ys : List T, plains xs = true → plains ys = true → alks xs ys = true → PyProof.Rows.lexLt PyProof.Rows.itemOrd (PySem.W.keyToksAll (dats xs)) (PySem.W.keyToksAll (dats ys)) = ltts xs ys
  | [], [], _, _, _ => by simp only [dats, PySem.W.keyToksAll, ltts]; rfl
  | [], y :: ys, _, _, _ => by
    simp only [dats, PySem.W.keyToksAll, ltts]
    rw [PySem.W.lex_atom (by simp), PySem.W.lex_one]
    rfl
  | x :: xs, [], _, _, _ => by
    simp only [dats, PySem.W.keyToksAll, ltts]
    rw [PySem.W.lex_atom (by simp), PySem.W.lex_one]
    rfl
  | x :: xs, y :: ys, hx, hy, h => by
    simp only [plains, Bool.and_eq_true] at hx hy
    simp only [alks, Bool.and_eq_true] at h
    have ha : PySem.W.alike (dat x) (dat y) = true := by rw [alk_dat x y hx.1 hy.1]; exact h.1
    rw [ltts_eq]
    show PyProof.Rows.lexLt PyProof.Rows.itemOrd (PySem.W.keyToksAll (dat x :: dats xs)) (PySem.W.keyToksAll (dat y :: dats ys)) = _
    rw [PySem.W.dataLt_cons ha, eqt_dat x y hx.1 hy.1, ltts_dat xs ys hx.2 hy.2 h.2]
    by_cases e : eqt x y = true
    · rw [if_pos e, if_pos e]
    · rw [if_neg e, if_neg e]
      refine ltt_dat x y hx.1 hy.1 h.1 fun z => ?_
      subst z
      cases y <;> simp [alk, eqt] at h e
end
mutual
theorem dep_dat : ∀ x : T, plain x = true → (dat x).depth = dep x
  | .non, _ => rfl
  | .bl _, _ => rfl
  | .int _, _ => rfl
  | .str _, _ => rfl
  | .tup xs, h => by simp only [dat, PyData.depth, dep]; rw [deps_dat xs h]
  | .lst xs, h => by simp only [dat, PyData.depth, dep]; rw [deps_dat xs h]
  | .ref _, hx => by cases hx
  | .exc _ _ _, hx => by cases hx
  | .dct _ _ _, hx => by cases hx
  | .obj _ _ _, hx => by cases hx
  | .fn _, hx => by cases hx
  | .scr _, hx => by cases hx
theorem deps_dat : ∀ xs : List T, plains xs = true → PyData.depthAll (dats xs) = deps xs
  | [], _ => rfl
  | x :: xs, h => by
    simp only [plains, Bool.and_eq_true] at h
    simp only [dats, PyData.depthAll, deps]
    rw [dep_dat x h.1, deps_dat xs h.2]
end
mutual
theorem lay_dat : ∀ x : T, plain x = true → (dat x).canLay0 = true
  | .non, _ => rfl
  | .bl _, _ => rfl
  | .int _, _ => rfl
  | .str a, _ => by
    simp only [dat, PyData.canLay0, PyData.strOk]
    rw [Array.all_eq_true']
    intro c hc
    have hc' : c ∈ (a.map (·.val)).toArray := hc
    rw [List.mem_toArray] at hc'
    obtain ⟨s, _, rfl⟩ := List.mem_map.mp hc'
    have := s.isLt
    exact decide_eq_true (by omega)
  | .tup xs, h => by simp only [dat, PyData.canLay0]; exact lays_dat xs h
  | .lst xs, h => by simp only [dat, PyData.canLay0]; exact lays_dat xs h
  | .ref _, hx => by cases hx
  | .exc _ _ _, hx => by cases hx
  | .dct _ _ _, hx => by cases hx
  | .obj _ _ _, hx => by cases hx
  | .fn _, hx => by cases hx
  | .scr _, hx => by cases hx
theorem lays_dat : ∀ xs : List T, plains xs = true → PyData.canLayAll0 (dats xs) = true
  | [], _ => rfl
  | x :: xs, h => by
    simp only [plains, Bool.and_eq_true] at h
    simp only [dats, PyData.canLayAll0, Bool.and_eq_true]
    exact ⟨lay_dat x h.1, lays_dat xs h.2⟩
end
section
variable {G : Gd} {H : Hp} {S : Sto}
mutual
theorem Rep.dp : ∀ (t : T) (v : V), Rep G H S t v → plain t = true → Dp G.K H v (dat t)
  | .non, _, r, _ => by cases r; exact .non
  | .bl _, _, r, _ => by cases r; exact .bl _
  | .int _, _, r, _ => by cases r; exact .int _
  | .str _, _, r, _ => by cases r; exact .str _
  | .tup ts, _, r, h => by
    cases r with
    | tup h1 h2 => exact .tup h1.sq (Reps.dp ts _ h2 h)
  | .lst ts, _, r, h => by
    cases r with
    | lst h1 h2 => exact .lst h1.sq (Reps.dp ts _ h2 h)
  | .ref _, _, _, hx => by cases hx
  | .exc _ _ _, _, _, hx => by cases hx
  | .dct _ _ _, _, _, hx => by cases hx
  | .obj _ _ _, _, _, hx => by cases hx
  | .fn _, _, _, hx => by cases hx
  | .scr _, _, _, hx => by cases hx
theorem Reps.dp : ∀ (ts : List T) (vs : List V), Reps G H S ts vs → plains ts = true → DpAll G.K H vs (dats ts)
  | [], _, r, _ => by cases r; exact .nil
  | t :: ts, _, r, h => by
    simp only [plains, Bool.and_eq_true] at h
    cases r with
    | cons h1 h2 => exact .cons (Rep.dp t _ h1 h.1) (Reps.dp ts _ h2 h.2)
end
/-- a cell that holds a list, as a list -/
def res (S : Sto) : T → T
  | .ref a => match S a with
    | some (.lst ts) => .lst ts
    | _ => .ref a
  | t => t
theorem res_dp (o : StoOk G H S) {t : T} {v : V} (r : Rep G H S t v) (h : plain (res S t) = true) : Dp G.K H v (dat (res S t)) := by
  cases t with
  | ref a =>
    cases r
    cases e : S a with
    | none => simp [res, e, plain] at h
    | some c =>
      cases c with
      | lst ts =>
        simp only [res, e] at h ⊢
        obtain ⟨ws, hw, q⟩ := o.at_ a _ e
        exact .lst (SqL.of hw) (Reps.dp ts ws q h)
      | dct _ _ _ => simp [res, e, plain] at h
      | ins _ _ _ => simp [res, e, plain] at h
  | _ => exact Rep.dp _ v r h
end
/-- plain, and not too deep -/
def okd (t : T) : Bool := plain t && decide (dep t ≤ 64)
theorem okd_shaped {t : T} (h : okd t = true) : SeqAt.shaped (dat t) = true := by
  obtain ⟨h1, h2⟩ := Bool.and_eq_true_iff.mp h
  have h2' := of_decide_eq_true h2
  refine Bool.and_eq_true_iff.mpr ⟨lay_dat t h1, decide_eq_true ?_⟩
  rw [dep_dat t h1]
  exact h2'
theorem okd_plain {t : T} (h : okd t = true) : plain t = true := (Bool.and_eq_true_iff.mp h).1

/-! ### == and != -/
def eqT (S : Sto) (x y : T) : Option T := if (okd (res S x) && okd (res S y)) = true then some (.bl (eqt (res S x) (res S y))) else none
def neT (S : Sto) (x y : T) : Option T := if (okd (res S x) && okd (res S y)) = true then some (.bl (!eqt (res S x) (res S y))) else none
section
variable {X : Cx}
theorem op_eqT (hu : X.A.units + 64 < cLine) : OpT X (compareOp .Eq) eqT := by
  intro pins s σ H x y v u Q I rx ry h
  obtain ⟨M, S, tx, ty, t, o, hx, hy, e, fin⟩ := h
  unfold eqT at e
  split at e
  · rename_i c
    obtain ⟨c1, c2⟩ := Bool.and_eq_true_iff.mp c
    obtain rfl := Option.some.inj e
    refine op_eqD hu pins s σ H x y v u Q I rx ry ⟨_, _, res_dp o hx (okd_plain c1), res_dp o hy (okd_plain c2), okd_shaped c1, okd_shaped c2, ?_⟩
    rw [eqt_dat _ _ (okd_plain c1) (okd_plain c2)]
    exact fin _ H o Ext.refl (.bl _)
  · cases e
theorem op_neT (hu : X.A.units + 64 < cLine) : OpT X (compareOp .NotEq) neT := by
  intro pins s σ H x y v u Q I rx ry h
  obtain ⟨M, S, tx, ty, t, o, hx, hy, e, fin⟩ := h
  unfold neT at e
  split at e
  · rename_i c
    obtain ⟨c1, c2⟩ := Bool.and_eq_true_iff.mp c
    obtain rfl := Option.some.inj e
    refine op_neD hu pins s σ H x y v u Q I rx ry ⟨_, _, res_dp o hx (okd_plain c1), res_dp o hy (okd_plain c2), okd_shaped c1, okd_shaped c2, ?_⟩
    rw [eqt_dat _ _ (okd_plain c1) (okd_plain c2)]
    exact fin _ H o Ext.refl (.bl _)
  · cases e
/-! ### <, >, <=, >= -/
def cmpOk (x y : T) : Bool := okd x && (okd y && (alk x y && (match x with | .non => false | _ => true)))
theorem cmpOk_of {x y : T} (h : cmpOk x y = true) : okd x = true ∧ okd y = true ∧ alk x y = true ∧ x ≠ .non := by
  simp only [cmpOk, Bool.and_eq_true] at h
  obtain ⟨h1, h2, h3, h4⟩ := h
  refine ⟨h1, h2, h3, fun e => ?_⟩
  subst e
  cases h4
def ltT (_ : Sto) (x y : T) : Option T := if cmpOk x y = true then some (.bl (ltt x y)) else none
def gtT (_ : Sto) (x y : T) : Option T := if cmpOk x y = true then some (.bl (ltt y x)) else none
def leT (_ : Sto) (x y : T) : Option T := if cmpOk x y = true then some (.bl (!ltt y x)) else none
def geT (_ : Sto) (x y : T) : Option T := if cmpOk x y = true then some (.bl (!ltt x y)) else none
mutual
theorem alk_symm : ∀ x y : T, alk x y = alk y x
  | .non, y => by cases y <;> simp [alk]
  | .bl _, y => by cases y <;> simp [alk]
  | .int _, y => by cases y <;> simp [alk]
  | .str _, y => by cases y <;> simp [alk]
  | .tup xs, y => by
    cases y with
    | tup ys => simp only [alk]; exact alks_symm xs ys
    | _ => simp [alk]
  | .lst xs, y => by
    cases y with
    | lst ys => simp only [alk]; exact alks_symm xs ys
    | _ => simp [alk]
  | .ref _, y => by cases y <;> simp [alk]
  | .exc _ _ _, y => by cases y <;> simp [alk]
  | .dct _ _ _, y => by cases y <;> simp [alk]
  | .obj _ _ _, y => by cases y <;> simp [alk]
  | .fn _, y => by cases y <;> simp [alk]
  | .scr _, y => by cases y <;> simp [alk]
theorem alks_symm : ∀ xs ys : List T, alks xs ys = alks ys xs
  | [], [] => rfl
  | [], _ :: _ => by simp [alks]
  | _ :: _, [] => by simp [alks]
  | x :: xs, y :: ys => by
    simp only [alks]
    rw [alk_symm x y, alks_symm xs ys]
end
theorem cmp_facts {x y : T} (h : cmpOk x y = true) : PySem.W.alike (dat x) (dat y) = true ∧ dat x ≠ .none ∧ PySem.W.dataLt (dat x) (dat y) = ltt x y ∧ PySem.W.dataLt (dat y) (dat x) = ltt y x := by
  obtain ⟨h1, h2, h3, h4⟩ := cmpOk_of h
  have p1 := okd_plain h1
  have p2 := okd_plain h2
  refine ⟨by rw [alk_dat x y p1 p2]; exact h3, ?_, ltt_dat x y p1 p2 h3 h4, ltt_dat y x p2 p1 (by rw [alk_symm]; exact h3) fun e => ?_⟩
  · cases x <;> first | exact absurd rfl h4 | (cases p1; done) | (intro z; cases z)
  · subst e
    cases x <;> first | exact absurd rfl h4 | simp [alk] at h3
theorem room_cmp {A : Around} {x y : T} (h : cmpOk x y = true) (hu : A.units + 64 < cLine) : A.units + min (dat x).depth (dat y).depth < cLine := SeqAt.room_of_shaped (okd_shaped (cmpOk_of h).1) hu
theorem op_ltT (hu : X.A.units + 64 < cLine) : OpT X (compareOp .Lt) ltT := by
  intro pins s σ H x y v u Q I rx ry h
  obtain ⟨M, S, tx, ty, t, o, hx, hy, e, fin⟩ := h
  unfold ltT at e
  split at e
  · rename_i c
    obtain rfl := Option.some.inj e
    obtain ⟨c1, c2, c3, c4⟩ := cmp_facts c
    obtain ⟨as, r1⟩ := Dp.reads I _ _ _ (Rep.dp _ _ hx (okd_plain (cmpOk_of c).1)) rx
    obtain ⟨bs, r2⟩ := Dp.reads I _ _ _ (Rep.dp _ _ hy (okd_plain (cmpOk_of c).2.1)) ry
    exact PySem.W.lt_data r1 r2 c1 c2 (room_cmp c hu) ⟨.bl _, H, I, rfl, by rw [c3]; exact fin _ H o Ext.refl (.bl _)⟩
  · cases e
theorem op_gtT (hu : X.A.units + 64 < cLine) : OpT X (compareOp .Gt) gtT := by
  intro pins s σ H x y v u Q I rx ry h
  obtain ⟨M, S, tx, ty, t, o, hx, hy, e, fin⟩ := h
  unfold gtT at e
  split at e
  · rename_i c
    obtain rfl := Option.some.inj e
    obtain ⟨c1, c2, c3, c4⟩ := cmp_facts c
    obtain ⟨as, r1⟩ := Dp.reads I _ _ _ (Rep.dp _ _ hx (okd_plain (cmpOk_of c).1)) rx
    obtain ⟨bs, r2⟩ := Dp.reads I _ _ _ (Rep.dp _ _ hy (okd_plain (cmpOk_of c).2.1)) ry
    exact PySem.W.gt_data r1 r2 c1 c2 (room_cmp c hu) ⟨.bl _, H, I, rfl, by rw [c4]; exact fin _ H o Ext.refl (.bl _)⟩
  · cases e
theorem op_leT (hu : X.A.units + 64 < cLine) : OpT X (compareOp .LtE) leT := by
  intro pins s σ H x y v u Q I rx ry h
  obtain ⟨M, S, tx, ty, t, o, hx, hy, e, fin⟩ := h
  unfold leT at e
  split at e
  · rename_i c
    obtain rfl := Option.some.inj e
    obtain ⟨c1, c2, c3, c4⟩ := cmp_facts c
    obtain ⟨as, r1⟩ := Dp.reads I _ _ _ (Rep.dp _ _ hx (okd_plain (cmpOk_of c).1)) rx
    obtain ⟨bs, r2⟩ := Dp.reads I _ _ _ (Rep.dp _ _ hy (okd_plain (cmpOk_of c).2.1)) ry
    exact PySem.W.le_data r1 r2 c1 c2 (room_cmp c hu) ⟨.bl _, H, I, rfl, by rw [c4]; exact fin _ H o Ext.refl (.bl _)⟩
  · cases e
theorem op_geT (hu : X.A.units + 64 < cLine) : OpT X (compareOp .GtE) geT := by
  intro pins s σ H x y v u Q I rx ry h
  obtain ⟨M, S, tx, ty, t, o, hx, hy, e, fin⟩ := h
  unfold geT at e
  split at e
  · rename_i c
    obtain rfl := Option.some.inj e
    obtain ⟨c1, c2, c3, c4⟩ := cmp_facts c
    obtain ⟨as, r1⟩ := Dp.reads I _ _ _ (Rep.dp _ _ hx (okd_plain (cmpOk_of c).1)) rx
    obtain ⟨bs, r2⟩ := Dp.reads I _ _ _ (Rep.dp _ _ hy (okd_plain (cmpOk_of c).2.1)) ry
    exact PySem.W.ge_data r1 r2 c1 c2 (room_cmp c hu) ⟨.bl _, H, I, rfl, by rw [c3]; exact fin _ H o Ext.refl (.bl _)⟩
  · cases e
/-! ### in, not in -/
def inQ (S : Sto) (x y : T) : Option Bool := match res S y with
  | .lst ts => if (okd x && okd (.lst ts)) = true then some (ts.any fun z => eqt z x) else none
  | .tup ts => if (okd x && okd (.tup ts)) = true then some (ts.any fun z => eqt z x) else none
  | .str z => match x with
    | .str [c] => some (decide (c ∈ z))
    | _ => none
  | _ => none
def inT (S : Sto) (x y : T) : Option T := (inQ S x y).map .bl
def ninT (S : Sto) (x y : T) : Option T := (inQ S x y).map fun b => .bl (!b)
theorem any_dats (x : T) : ∀ ts : List T, plains ts = true → plain x = true → ((dats ts).any fun y => PyData.eqv y (dat x)) = ts.any fun z => eqt z x
  | [], _, _ => rfl
  | t :: ts, h, hx => by
    simp only [plains, Bool.and_eq_true] at h
    simp only [dats, List.any_cons]
    rw [eqt_dat t x h.1 hx, any_dats x ts h.2 hx]
theorem in_listQ (hu : X.A.units + 65 < cLine) {pins : List (Addr × Obj)} {s : Shared} {σ : L2.St} {H : Hp} {x y : V} {v u : Value} {dx : PyData} {ds : List PyData} {b : Bool} (I : Inv X pins σ H s) (rx : RelV x v) (ry : RelV y u) (hx : Dp X.K H x dx) (hy : Dp X.K H y (.list ds) ∨ Dp X.K H y (.tuple ds))
    (h1 : PyData.canLayAll0 ds = true) (h2 : SeqAt.shaped dx = true) (e : (ds.any fun y => PyData.eqv y dx) = b) {E : Value → Shared → Prop} {Q : Value → Shared → Prop} :
    (Q (.bool b) s → wpAny (model X.prog X.w) X.A (compareOp .In v u) Q E s) ∧ (Q (.bool (!b)) s → wpAny (model X.prog X.w) X.A (compareOp .NotIn v u) Q E s) := by
  obtain ⟨as, r1⟩ := Dp.reads I _ _ _ hx rx
  have rm : X.A.units + 1 + min (PyData.depthAll ds) dx.depth < cLine := PyProof.Rows.room_in_shaped h2 hu
  have l2 := SeqAt.canLay_of_shaped h2
  rcases hy with hy | hy
  · obtain ⟨bs, r2⟩ := Dp.reads I _ _ _ hy ry
    exact ⟨fun q => SeqAt.in_list_reads r2 r1 h1 l2 rm (by rw [e]; exact q), fun q => SeqAt.notIn_list_reads r2 r1 h1 l2 rm (by rw [e]; exact q)⟩
  · obtain ⟨bs, r2⟩ := Dp.reads I _ _ _ hy ry
    exact ⟨fun q => SeqAt.in_tuple_reads r2 r1 h1 l2 rm (by rw [e]; exact q), fun q => SeqAt.notIn_tuple_reads r2 r1 h1 l2 rm (by rw [e]; exact q)⟩
theorem sg_mem (c : Sg) (z : List Sg) : decide (c.val ∈ (txt z).cps.toList) = decide (c ∈ z) := by
  apply decide_eq_decide.mpr
  rw [txt_list]
  constructor
  · intro h
    obtain ⟨d, hd, e⟩ := List.mem_map.mp h
    rw [← Fin.ext e]
    exact hd
  · exact fun h => List.mem_map.mpr ⟨c, h, rfl⟩
theorem inQ_run (hu : X.A.units + 65 < cLine) {pins : List (Addr × Obj)} {s : Shared} {σ : L2.St} {H : Hp} {S : Sto} {M : Addr → Prop} {x y : V} {tx ty : T} {v u : Value} {b : Bool} (I : Inv X pins σ H s) (rx : RelV x v) (ry : RelV y u) (o : StoOk (gdOf X M) H S)
    (hx : Rep (gdOf X M) H S tx x) (hy : Rep (gdOf X M) H S ty y) (e : inQ S tx ty = some b) {Q : VK} :
    (Q (.bl b) H → wpAny (model X.prog X.w) X.A (compareOp .In v u) (EP X pins σ Q) X.xe s) ∧ (Q (.bl (!b)) H → wpAny (model X.prog X.w) X.A (compareOp .NotIn v u) (EP X pins σ Q) X.xe s) := by
  have ep : ∀ {b : Bool}, Q (.bl b) H → EP X pins σ Q (.bool b) s := fun q => ⟨.bl _, H, I, rfl, q⟩
  have hr := res_dp o hy
  unfold inQ at e
  split at e
  · rename_i ts hts
    rw [hts] at hr
    split at e
    · rename_i c
      obtain ⟨c1, c2⟩ := Bool.and_eq_true_iff.mp c
      obtain rfl := Option.some.inj e
      have k := in_listQ (Q := EP X pins σ Q) (E := X.xe) hu I rx ry (Rep.dp _ _ hx (okd_plain c1)) (.inl (hr (okd_plain c2))) (lays_dat ts (okd_plain c2)) (okd_shaped c1) (any_dats tx ts (okd_plain c2) (okd_plain c1))
      exact ⟨fun q => k.1 (ep q), fun q => k.2 (ep q)⟩
    · cases e
  · rename_i ts hts
    rw [hts] at hr
    split at e
    · rename_i c
      obtain ⟨c1, c2⟩ := Bool.and_eq_true_iff.mp c
      obtain rfl := Option.some.inj e
      have k := in_listQ (Q := EP X pins σ Q) (E := X.xe) hu I rx ry (Rep.dp _ _ hx (okd_plain c1)) (.inr (hr (okd_plain c2))) (lays_dat ts (okd_plain c2)) (okd_shaped c1) (any_dats tx ts (okd_plain c2) (okd_plain c1))
      exact ⟨fun q => k.1 (ep q), fun q => k.2 (ep q)⟩
    · cases e
  · rename_i z hz
    split at e
    · rename_i c
      obtain rfl := Option.some.inj e
      cases hx
      have hty : ty = .str z := by
        cases ty with
        | ref a =>
          cases q : S a with
          | none => simp [res, q] at hz
          | some c => cases c <;> simp [res, q] at hz
        | _ => exact hz
      subst hty
      cases hy
      rw [← sg_mem]
      exact ⟨fun q => op_in_sign pins s σ H _ _ v u Q I rx ry ⟨c.val, txt z, rfl, rfl, q⟩, fun q => op_notIn_sign pins s σ H _ _ v u Q I rx ry ⟨c.val, txt z, rfl, rfl, q⟩⟩
    · cases e
  · cases e
theorem op_inT (hu : X.A.units + 65 < cLine) : OpT X (compareOp .In) inT := by
  intro pins s σ H x y v u Q I rx ry h
  obtain ⟨M, S, tx, ty, t, o, hx, hy, e, fin⟩ := h
  obtain ⟨b, hb, rfl⟩ := Option.map_eq_some_iff.mp e
  exact (inQ_run hu I rx ry o hx hy hb).1 (fin _ H o Ext.refl (.bl _))
theorem op_ninT (hu : X.A.units + 65 < cLine) : OpT X (compareOp .NotIn) ninT := by
  intro pins s σ H x y v u Q I rx ry h
  obtain ⟨M, S, tx, ty, t, o, hx, hy, e, fin⟩ := h
  obtain ⟨b, hb, rfl⟩ := Option.map_eq_some_iff.mp e
  exact (inQ_run hu I rx ry o hx hy hb).2 (fin _ H o Ext.refl (.bl _))
end
end TL

/-! TLg: numbers, texts, sequences: joined, by places, cut; lists that change. -/
namespace TL
open PySem PySem.Spec PyProof.Rows L2

section
variable {X : Cx}
/-! ### numbers and joins -/
def addT (S : Sto) (x y : T) : Option T := match res S x, res S y with
  | .int i, .int j => some (.int (i + j))
  | .str a, .str b => if a.length + b.length ≤ sizeLine then some (.str (a ++ b)) else none
  | .tup a, .tup b => if a.length + b.length ≤ sizeLine then some (.tup (a ++ b)) else none
  | .lst a, .lst b => if a.length + b.length ≤ sizeLine then some (.lst (a ++ b)) else none
  | _, _ => none
/-- a value that is a list, frozen or a cell -/
theorem res_lst {G : Gd} {H : Hp} {S : Sto} {t : T} {v : V} {ts : List T} (o : StoOk G H S) (r : Rep G H S t v) (e : res S t = .lst ts) : ∃ a xs, v = .ref a ∧ H a = some (.lst xs) ∧ Reps G H S ts xs := by
  cases t with
  | ref a =>
    cases r
    cases q : S a with
    | none => simp [res, q] at e
    | some c =>
      cases c with
      | lst us =>
        simp only [res, q] at e
        cases e
        obtain ⟨xs, h1, h2⟩ := o.at_ a _ q
        exact ⟨a, xs, rfl, h1, h2⟩
      | dct _ _ _ => simp [res, q] at e
      | ins _ _ _ => simp [res, q] at e
  | lst us =>
    cases e
    cases r with
    | lst h1 h2 => exact ⟨_, _, rfl, h1.1, h2⟩
  | _ => cases e
theorem res_id {S : Sto} {t u : T} (e : res S t = u) (h : ∀ ts, u ≠ .lst ts) : t = u := by
  cases t with
  | ref a =>
    cases q : S a with
    | none => simpa [res, q] using e
    | some c =>
      cases c with
      | lst us => simp only [res, q] at e; exact absurd e.symm (h us)
      | dct _ _ _ => simpa [res, q] using e
      | ins _ _ _ => simpa [res, q] using e
  | _ => exact e
theorem op_addT : OpT X (binaryOp .Add) addT := by
  intro pins s σ H x y v u Q I rx ry h
  obtain ⟨M, S, tx, ty, t, o, hx, hy, e, fin⟩ := h
  unfold addT at e
  split at e
  · rename_i i j h1 h2
    obtain rfl := res_id h1 fun _ z => nomatch z
    obtain rfl := res_id h2 fun _ z => nomatch z
    obtain rfl := Option.some.inj e
    cases hx
    cases hy
    exact op_add pins s σ H _ _ v u Q I rx ry ⟨i, j, rfl, rfl, fin _ H o Ext.refl (.int _)⟩
  · rename_i a b h1 h2
    obtain rfl := res_id h1 fun _ z => nomatch z
    obtain rfl := res_id h2 fun _ z => nomatch z
    split at e
    · rename_i hz
      obtain rfl := Option.some.inj e
      cases hx
      cases hy
      refine op_add_str pins s σ H _ _ v u Q I rx ry ⟨txt a, txt b, rfl, rfl, by rw [txt_len, txt_len]; exact hz, ?_⟩
      rw [← txt_app]
      exact fin _ H o Ext.refl (.str _)
    · cases e
  · rename_i a b h1 h2
    obtain rfl := res_id h1 fun _ z => nomatch z
    obtain rfl := res_id h2 fun _ z => nomatch z
    split at e
    · rename_i hz
      obtain rfl := Option.some.inj e
      cases hx with
      | tup a1 a2 =>
        cases hy with
        | tup b1 b2 =>
          have l1 := a2.length
          have l2 := b2.length
          refine op_catA pins s σ H _ _ v u Q I rx ry ⟨_, _, _, _, rfl, rfl, a1.sq, b1.sq, by omega, fun z => ?_, fun _ z => ?_, fun _ _ p n => ?_⟩
          · subst z
            cases a2
            exact fin _ H o Ext.refl (.tup b1 b2)
          · subst z
            cases b2
            refine fin _ H o Ext.refl ?_
            rw [List.append_nil]
            exact .tup a1 a2
          · exact fin _ _ (o.new n) (Ext.new n) (.tup (.inl ⟨.inl upd_same, o.free n, o.nom n⟩) (Reps.ext (Ext.new n) _ _ (a2.append b2)))
    · cases e
  · rename_i a b h1 h2
    split at e
    · rename_i hz
      obtain rfl := Option.some.inj e
      obtain ⟨p1, xs, rfl, q1, r1⟩ := res_lst o hx h1
      obtain ⟨p2, ys, rfl, q2, r2⟩ := res_lst o hy h2
      have l1 := r1.length
      have l2 := r2.length
      refine op_cat pins s σ H _ _ v u Q I rx ry ⟨p1, p2, xs, ys, rfl, rfl, q1, q2, by omega, fun p n => ?_⟩
      exact fin _ _ (o.new n) (Ext.new n) (.lst ⟨upd_same, o.free n, o.nom n⟩ (Reps.ext (Ext.new n) _ _ (r1.append r2)))
    · cases e
  · cases e
def i2 (c : Int → Int → Bool) (f : Int → Int → T) (_ : Sto) (x y : T) : Option T := match x, y with
  | .int i, .int j => if c i j = true then some (f i j) else none
  | _, _ => none
theorem op_i2 {f : Value → Value → Sem Value} {c : Int → Int → Bool} {C : Int → Int → Prop} {g : Int → Int → V} {gt : Int → Int → T} (h : OpR X f (rI C g)) (hc : ∀ i j, c i j = true → C i j) (hg : ∀ G H S i j, Rep G H S (gt i j) (g i j)) : OpT X f (i2 c gt) := by
  intro pins s σ H x y v u Q I rx ry h'
  obtain ⟨M, S, tx, ty, t, o, hx, hy, e, fin⟩ := h'
  unfold i2 at e
  split at e
  · rename_i i j
    split at e
    · rename_i hij
      obtain rfl := Option.some.inj e
      cases hx
      cases hy
      exact h pins s σ H _ _ v u Q I rx ry ⟨i, j, rfl, rfl, hc _ _ hij, fin _ H o Ext.refl (hg _ _ _ _ _)⟩
    · cases e
  · cases e
theorem rI_of {f : Value → Value → Sem Value} {g : Int → Int → V} (h : OpR X f (rI0 g)) : OpR X f (rI (fun _ _ => True) g) := fun pins s σ H x y v u Q I rx ry ⟨i, j, e1, e2, _, q⟩ => h pins s σ H x y v u Q I rx ry ⟨i, j, e1, e2, q⟩
def tt2 (_ _ : Int) : Bool := true
def subT := i2 tt2 fun i j => .int (i - j)
def mulI (i j : Int) : Bool := decide (i.natAbs.log2 + j.natAbs.log2 < 1000000)
def mulT := i2 mulI fun i j => .int (i * j)
def divI (_ j : Int) : Bool := decide (j ≠ 0) && decide (j.natAbs < 1073741824)
def fdivT := i2 divI fun i j => .int (i.fdiv j)
def modI (_ j : Int) : Bool := decide (j ≠ 0)
def modT := i2 modI fun i j => .int (i.fmod j)
def powI (i j : Int) : Bool := decide (0 ≤ j) && (decide (j ≤ 1000000) && decide (i.natAbs < 2 ^ 64))
def powT := i2 powI fun i j => .int (i ^ j.toNat)
theorem op_subT : OpT X (binaryOp .Sub) subT := op_i2 (rI_of op_sub) (fun _ _ _ => trivial) fun _ _ _ _ _ => .int _
theorem op_mulT : OpT X (binaryOp .Mult) mulT := op_i2 op_mulW (fun _ _ h => by unfold CMulW; exact of_decide_eq_true h) fun _ _ _ _ _ => .int _
theorem op_fdivT : OpT X (binaryOp .FloorDiv) fdivT := op_i2 op_fdivN (fun _ _ h => by simp only [divI, Bool.and_eq_true, decide_eq_true_eq] at h; exact h) fun _ _ _ _ _ => .int _
theorem op_modT : OpT X (binaryOp .Mod) modT := op_i2 op_modN (fun _ _ h => of_decide_eq_true h) fun _ _ _ _ _ => .int _
theorem op_powT : OpT X (binaryOp .Pow) powT := op_i2 op_pow (fun _ _ h => by simp only [powI, Bool.and_eq_true, decide_eq_true_eq] at h; exact ⟨h.1, h.2.1, h.2.2⟩) fun _ _ _ _ _ => .int _
def negT (_ : Sto) : T → Option T
  | .int i => some (.int (-i))
  | _ => none
theorem op_negT : UnT X (unaryOp .USub) negT := by
  intro pins s σ H x v Q I rx h
  obtain ⟨M, S, tx, t, o, hx, e, fin⟩ := h
  cases tx <;> first | cases e; done | skip
  rename_i i
  obtain rfl := Option.some.inj e
  cases hx
  exact un_neg pins s σ H _ v Q I rx ⟨i, rfl, fin _ H o Ext.refl (.int _)⟩
/-! ### is None, is True -/
def isT (_ : Sto) (x y : T) : Option T := match y, x with
  | .non, .ref _ => some (.bl false)
  | .non, .non => some (.bl true)
  | .non, _ => some (.bl false)
  | _, _ => none
theorem rep_non {G : Gd} {H : Hp} {S : Sto} {t : T} {v : V} (r : Rep G H S t v) : decide (v = .non) = (match t with | .non => true | _ => false) := by
  cases r <;> first | rfl | exact decide_eq_false (fun z => nomatch z)
theorem op_isT : OpT X (compareOp .Is) isT := by
  intro pins s σ H x y v u Q I rx ry h
  obtain ⟨M, S, tx, ty, t, o, hx, hy, e, fin⟩ := h
  cases ty <;> first | (simp [isT] at e; done) | skip
  cases hy
  refine op_isN pins s σ H _ _ v u Q I rx ry ⟨rfl, ?_⟩
  rw [rep_non hx]
  cases tx <;> (obtain rfl := Option.some.inj e; exact fin _ H o Ext.refl (.bl _))
def isnT (S : Sto) (x y : T) : Option T := match isT S x y with
  | some (.bl b) => some (.bl (!b))
  | _ => none
theorem op_isnT : OpT X (compareOp .IsNot) isnT := by
  intro pins s σ H x y v u Q I rx ry h
  obtain ⟨M, S, tx, ty, t, o, hx, hy, e, fin⟩ := h
  cases ty <;> first | (simp [isnT, isT] at e; done) | skip
  cases hy
  refine op_notN pins s σ H _ _ v u Q I rx ry ⟨rfl, ?_⟩
  rw [rep_non hx]
  cases tx <;> (obtain rfl := Option.some.inj e; exact fin _ H o Ext.refl (.bl _))

/-! ### by places -/
theorem Reps.atI {G : Gd} {H : Hp} {S : Sto} {ts : List T} {vs : List V} {i : Int} {t : T} (r : Reps G H S ts vs) (e : L2.atI ts i = some t) : ∃ v, L2.atI vs i = some v ∧ Rep G H S t v := by
  unfold L2.atI at e ⊢
  rw [← r.length]
  cases q : ixN ts.length i with
  | none => rw [q] at e; cases e
  | some j =>
    rw [q] at e
    exact r.get e
def ixT (S : Sto) (x y : T) : Option T := match res S x, y with
  | .lst ts, .int i => L2.atI ts i
  | .tup ts, .int i => L2.atI ts i
  | .str z, .int i => if z.length ≤ sizeLine then (L2.atI z i).map fun c => .str [c] else none
  | _, _ => none
theorem atI_map {α β : Type} (f : α → β) (xs : List α) (i : Int) : L2.atI (xs.map f) i = (L2.atI xs i).map f := by
  unfold L2.atI
  rw [List.length_map]
  cases ixN xs.length i with
  | none => rfl
  | some j => simp
variable {a b : Expr} {ta tb : TTE} {pos : Pos}
theorem te_ix (ha : TE X a ta) (hb : TE X b tb) (hs : PlainIx b := by intro _ _; rfl) : TE X (.Subscript a b pos) (cOp ixT ta tb) := fun M S0 H0 E tk =>
  (pe_ix ix_seq (ha M S0 H0 E tk) (hb M S0 H0 E tk) hs).weak fun σ H Q h => two (fun x y H Q ⟨M, S, tx, ty, t, o, hx, hy, e, fin⟩ => by
    unfold ixT at e
    split at e
    · rename_i ts i h1
      obtain ⟨p, xs, rfl, q1, r1⟩ := res_lst o hx h1
      cases hy
      obtain ⟨w, hw, rw_⟩ := r1.atI e
      exact .inl ⟨p, xs, i, w, rfl, rfl, SqL.of q1, hw, fin _ H o Ext.refl rw_⟩
    · rename_i ts i h1
      obtain rfl := res_id h1 fun _ z => nomatch z
      cases hx with
      | tup a1 a2 =>
        cases hy
        obtain ⟨w, hw, rw_⟩ := a2.atI e
        exact .inr (.inl ⟨_, _, i, w, rfl, rfl, a1.sq, hw, fin _ H o Ext.refl rw_⟩)
    · rename_i z i h1
      obtain rfl := res_id h1 fun _ z => nomatch z
      cases hx
      cases hy
      split at e
      · rename_i hz
        obtain ⟨c, hc, rfl⟩ := Option.map_eq_some_iff.mp e
        exact .inr (.inr ⟨txt z, i, c.val, rfl, rfl, by rw [txt_len]; exact hz, by rw [txt_list, atI_map, hc]; rfl, fin (.str (txt [c])) H o Ext.refl (.str [c])⟩)
      · cases e
    · cases e) h
/-! ### cut -/
def cutT {α : Type} (xs : List α) (lo hi : Option Int) : List α := (xs.drop (HT.sIx xs.length 0 lo)).take (HT.sIx xs.length xs.length hi - HT.sIx xs.length 0 lo)
theorem Reps.cut {G : Gd} {H : Hp} {S : Sto} {ts : List T} {vs : List V} (r : Reps G H S ts vs) (lo hi : Option Int) : Reps G H S (cutT ts lo hi) (cutV vs lo hi) := by
  unfold cutT cutV
  rw [r.length]
  exact (r.drop _).take _
theorem reps_ints {G : Gd} {H : Hp} {S : Sto} : ∀ ms : List Int, Reps G H S (ms.map T.int) (ms.map V.int)
  | [] => .nil
  | m :: ms => .cons (.int m) (reps_ints ms)
def slT (S : Sto) (x : T) (lo hi : Option Int) : Option T := match res S x with
  | .lst ts => some (.lst (cutT ts lo hi))
  | .tup ts => some (.tup (cutT ts lo hi))
  | .str z => if z.length ≤ sizeLine then some (.str (cutT z lo hi)) else none
  | .scr ns => some (.lst ((cutT ns lo hi).map T.int))
  | _ => none
abbrev TTO := TEnv → Sto → (Option Int → Sto → Prop) → (T → Sto → Prop) → Prop
def oNo : TTO := fun _ S Q _ => Q none S
def oSome (e : TTE) : TTO := fun τ S Q E => e τ S (fun x S1 => ∃ i, x = .int i ∧ Q (some i) S1) E
def cSl (e : TTE) (lo hi : TTO) : TTE := fun τ S Q E => e τ S (fun x S1 => lo τ S1 (fun l S2 => hi τ S2 (fun u S3 => ∃ z, slT S3 x l u = some z ∧ Q z S3) E) E) E
def LO (X : Cx) (M : Addr → Prop) (S0 : Sto) (H0 : Hp) (t : TTO) (E : T → TEnv → Sto → Prop) : TO := fun σ H Q => ∃ τ S Qt, Rel (gdOf X M) S0 H0 σ H τ S ∧ t τ S Qt (fun x S' => E x τ S') ∧
  ∀ i S' H', Qt i S' → StoOk (gdOf X M) H' S' → Ext S H S' H' → Q i H'
def TOp (X : Cx) (e : Option Expr) (t : TTO) : Prop := ∀ M S0 H0 E, Takes X (wOf X M S0 H0 E) → PO X e (LO X M S0 H0 t E)
theorem to_no : TOp X none oNo := fun M S0 H0 E tk => ⟨fun pins s σ H Q I ⟨τ, S, Qt, rel, h, k⟩ => po_none.run pins s σ H Q I (k none S H h rel.sto Ext.refl)⟩
theorem to_some {e : Expr} {te : TTE} (h : TE X e te) : TOp X (some e) (oSome te) := fun M S0 H0 E tk => ⟨fun pins s σ H Q I ⟨τ, S, Qt, rel, q, k⟩ => (po_some (h M S0 H0 E tk)).run pins s σ H Q I
  ⟨τ, S, _, rel, q, fun z S1 v H1 ⟨i, e, hq⟩ o1 x1 r1 => by
    subst e
    cases r1
    exact ⟨i, rfl, k _ S1 H1 hq o1 x1⟩⟩⟩
theorem txt_cut (z : List Sg) (lo hi : Option Int) : cutS (txt z) lo hi = txt (cutT z lo hi) := by
  unfold cutS cutT txt
  show (⟨_⟩ : Str) = _
  congr 1
  have l : (Str.mk (z.map (·.val)).toArray).length = z.length := txt_len z
  rw [l]
  simp [List.map_drop, List.map_take]
theorem te_slice {e : Expr} {lo hi : Option Expr} {te : TTE} {tl th : TTO} {p2 : Pos} (he : TE X e te) (hl : TOp X lo tl) (hh : TOp X hi th) : TE X (.Subscript e (.Slice lo hi none p2) pos) (cSl te tl th) := fun M S0 H0 E tk =>
  (pe_slice (sl_list.or (sl_tupA.or sl_str)) (he M S0 H0 E tk) (hl M S0 H0 E tk) (hh M S0 H0 E tk)).weak fun σ H Q ⟨τ, S, Qt, rel, h, k⟩ => ⟨τ, S, _, rel, h, fun z S1 v H1 h1 o1 x1 r1 =>
    ⟨τ, S1, _, rel.step o1 x1, h1, fun l S2 H2 h2 o2 x2 => ⟨τ, S2, _, (rel.step o1 x1).step o2 x2, h2, fun u S3 H3 h3 o3 x3 => by
      obtain ⟨w, e, hq⟩ := h3
      have r3 := Rep.ext (x2.trans x3) _ _ r1
      have fin := fun v H' o4 x4 r4 => k w S3 v H' hq o4 (((x1.trans x2).trans x3).trans x4) r4
      unfold slT at e
      split at e
      · rename_i ts h1
        obtain rfl := Option.some.inj e
        obtain ⟨p, xs, rfl, q1, r1⟩ := res_lst o3 r3 h1
        exact .inl ⟨p, xs, rfl, SqL.of q1, fun p n => fin _ _ (o3.new n) (Ext.new n) (.lst ⟨upd_same, o3.free n, o3.nom n⟩ (Reps.ext (Ext.new n) _ _ (r1.cut l u)))⟩
      · rename_i ts h1
        obtain rfl := Option.some.inj e
        obtain rfl := res_id h1 fun _ z => nomatch z
        cases r3 with
        | tup a1 a2 =>
          refine .inr (.inl ⟨_, _, rfl, a1.sq, fun hw => ?_, fun _ p n => ?_⟩)
          · refine fin _ _ o3 Ext.refl ?_
            have e2 : cutT ts l u = ts := by
              unfold cutT
              rw [a2.length, hw.1, hw.2]
              simp [← a2.length]
            rw [e2]
            exact .tup a1 a2
          · exact fin _ _ (o3.new n) (Ext.new n) (.tup (.inl ⟨.inl upd_same, o3.free n, o3.nom n⟩) (Reps.ext (Ext.new n) _ _ (a2.cut l u)))
      · rename_i y h1
        obtain rfl := res_id h1 fun _ z => nomatch z
        split at e
        · rename_i hz
          obtain rfl := Option.some.inj e
          cases r3
          exact .inr (.inr ⟨txt y, rfl, by rw [txt_len]; exact hz, by rw [txt_cut]; exact fin _ _ o3 Ext.refl (.str _)⟩)
        · cases e
      · rename_i ns h1
        obtain rfl := res_id h1 fun _ z => nomatch z
        obtain rfl := Option.some.inj e
        cases r3 with
        | scr a1 =>
          refine .inl ⟨_, _, rfl, a1.sq, fun p n => fin _ _ (o3.new n) (Ext.new n) (.lst ⟨upd_same, o3.free n, o3.nom n⟩ ?_)⟩
          have : cutV (ns.map V.int) l u = (cutT ns l u).map V.int := by
            unfold cutV cutT
            rw [List.length_map]
            simp [List.map_drop, List.map_take]
          rw [this]
          exact reps_ints _
      · cases e⟩⟩⟩
end
end TL

/-! TLh: built-in functions, methods of lists and texts, over trees. -/
namespace TL
open PySem PySem.Spec PyProof.Rows L2

section
variable {X : Cx} {x : Str} {p pos : Pos} {e : Expr} {es : List Expr} {ta : TTA} {bid Ty : String}
/-! ### built-in functions -/
def CallT (X : Cx) (f : Value) (g : Sto → List T → Option T) : Prop := CallR X f fun xs H Q => ∃ M S ts t, StoOk (gdOf X M) H S ∧ Reps (gdOf X M) H S ts xs ∧ g S ts = some t ∧ ∀ v H', StoOk (gdOf X M) H' S → Ext S H S H' → Rep (gdOf X M) H' S t v → Q v H'
def cFn (g : Sto → List T → Option T) (a : TTA) : TTE := fun τ S Q E => a τ S (fun ts S1 => ∃ t, g S1 ts = some t ∧ Q t S1) E
theorem te_fnB {g : Sto → List T → Option T} (hc : CallT X (.builtin bid) g) (hg : Gl X x) (hm : X.mg x = none) (hv : bootBuiltins x = some (.builtin bid)) (ha : TA X (e :: es) ta) (hn : x ≠ "__name__" := by decide) (hdb : (x == ("__debug__" : Str)) = false := by decide)
    (he : starEach (e :: es) X.env = (false, eval e X.env) :: starEach es X.env := by rfl) (hpl : (backTo pos (starEach es X.env)).any (·.1) = false := by rfl) : TE X (.Call (.Name x p) (e :: es) [] pos) (cFn g ta) := fun M S0 H0 E tk =>
  (pe_callB hc hg hm hv (ha M S0 H0 E tk) hn hdb he hpl).weak fun σ H Q ⟨τ, S, Qt, rel, q, k⟩ => ⟨τ, S, _, rel, q, fun ts S1 vs H1 ⟨t, e, hq⟩ o1 x1 r1 => ⟨M, S1, ts, t, o1, r1, e, fun v H' o2 x2 r2 => k t S1 v H' hq o2 (x1.trans x2) r2⟩⟩
theorem te_fnT {g : Sto → List T → Option T} (hc : CallT X (.type Ty) g) (hg : Gl X x) (hm : X.mg x = none) (hv : bootBuiltins x = some (.type Ty)) (ha : TA X (e :: es) ta) (hn : x ≠ "__name__" := by decide) (hdb : (x == ("__debug__" : Str)) = false := by decide)
    (he : starEach (e :: es) X.env = (false, eval e X.env) :: starEach es X.env := by rfl) (hpl : (backTo pos (starEach es X.env)).any (·.1) = false := by rfl) : TE X (.Call (.Name x p) (e :: es) [] pos) (cFn g ta) := fun M S0 H0 E tk =>
  (pe_callTy hc hg hm hv (ha M S0 H0 E tk) hn hdb he hpl).weak fun σ H Q ⟨τ, S, Qt, rel, q, k⟩ => ⟨τ, S, _, rel, q, fun ts S1 vs H1 ⟨t, e, hq⟩ o1 x1 r1 => ⟨M, S1, ts, t, o1, r1, e, fun v H' o2 x2 r2 => k t S1 v H' hq o2 (x1.trans x2) r2⟩⟩
theorem Reps.one {G : Gd} {H : Hp} {S : Sto} {t : T} {vs : List V} (r : Reps G H S [t] vs) : ∃ v, vs = [v] ∧ Rep G H S t v := by
  cases r with
  | cons a b => cases b; exact ⟨_, rfl, a⟩
theorem Reps.twos {G : Gd} {H : Hp} {S : Sto} {t u : T} {vs : List V} (r : Reps G H S [t, u] vs) : ∃ v w, vs = [v, w] ∧ Rep G H S t v ∧ Rep G H S u w := by
  cases r with
  | cons a b => cases b with
    | cons b c => cases c; exact ⟨_, _, rfl, a, b⟩
def lenF (S : Sto) : List T → Option T
  | [t] => match res S t with
    | .lst ts => some (.int ts.length)
    | .tup ts => some (.int ts.length)
    | .str z => if z.length ≤ sizeLine then some (.int z.length) else none
    | _ => none
  | _ => none
theorem fn_len : CallT X (.builtin "len") lenF := by
  intro pins s σ H xs us Q I r h
  obtain ⟨M, S, ts, t, o, rs, e, fin⟩ := h
  unfold lenF at e
  split at e
  · rename_i y
    obtain ⟨v, rfl, ry⟩ := rs.one
    split at e
    · rename_i zs hz
      obtain rfl := Option.some.inj e
      obtain ⟨a, ws, rfl, h1, h2⟩ := res_lst o ry hz
      exact call_len pins s σ H _ us Q I r ⟨_, _, rfl, .inl ⟨ws, SqL.of h1, rfl⟩, by rw [← h2.length]; exact fin _ H o Ext.refl (.int _)⟩
    · rename_i zs hz
      obtain rfl := Option.some.inj e
      obtain rfl := res_id hz fun _ z => nomatch z
      cases ry with
      | tup h1 h2 => exact call_len pins s σ H _ us Q I r ⟨_, _, rfl, .inr ⟨_, h1.sq, rfl⟩, by rw [← h2.length]; exact fin _ H o Ext.refl (.int _)⟩
    · rename_i z hz
      obtain rfl := res_id hz fun _ z => nomatch z
      split at e
      · rename_i hl
        obtain rfl := Option.some.inj e
        cases ry
        exact call_len pins s σ H _ us Q I r ⟨_, _, rfl, ⟨by rw [txt_len]; exact hl, rfl⟩, by rw [txt_len]; exact fin _ H o Ext.refl (.int _)⟩
      · cases e
    · cases e
  · cases e
def absF (_ : Sto) : List T → Option T
  | [.int i] => some (.int (if i < 0 then -i else i))
  | _ => none
theorem fn_abs : CallT X (.builtin "abs") absF := by
  intro pins s σ H xs us Q I r h
  obtain ⟨M, S, ts, t, o, rs, e, fin⟩ := h
  unfold absF at e
  split at e
  · rename_i i
    obtain rfl := Option.some.inj e
    obtain ⟨v, rfl, ry⟩ := rs.one
    cases ry
    exact call_abs pins s σ H _ us Q I r ⟨i, rfl, fin _ H o Ext.refl (.int _)⟩
  · cases e
def intF (_ : Sto) : List T → Option T
  | [.int i] => some (.int i)
  | [.bl b] => some (.int (if b then 1 else 0))
  | _ => none
theorem fn_int : CallT X (.type "int") intF := by
  intro pins s σ H xs us Q I r h
  obtain ⟨M, S, ts, t, o, rs, e, fin⟩ := h
  unfold intF at e
  split at e
  · rename_i i
    obtain rfl := Option.some.inj e
    obtain ⟨v, rfl, ry⟩ := rs.one
    cases ry
    exact call_int1 pins s σ H _ us Q I r (.inl ⟨i, rfl, fin _ H o Ext.refl (.int _)⟩)
  · rename_i i
    obtain rfl := Option.some.inj e
    obtain ⟨v, rfl, ry⟩ := rs.one
    cases ry
    exact call_int1 pins s σ H _ us Q I r (.inr ⟨i, rfl, fin _ H o Ext.refl (.int _)⟩)
  · cases e
def tupleF (S : Sto) : List T → Option T
  | [t] => match res S t with
    | .lst ts => some (.tup ts)
    | .tup ts => some (.tup ts)
    | _ => none
  | _ => none
theorem fn_tuple : CallT X (.type "tuple") tupleF := by
  intro pins s σ H xs us Q I r h
  obtain ⟨M, S, ts, t, o, rs, e, fin⟩ := h
  unfold tupleF at e
  split at e
  · obtain ⟨v, rfl, ry⟩ := rs.one
    split at e
    · rename_i zs hz
      obtain rfl := Option.some.inj e
      obtain ⟨a, ws, rfl, h1, h2⟩ := res_lst o ry hz
      exact call_tuple_of pins s σ H _ us Q I r ⟨a, ws, rfl, .inl ⟨SqL.of h1, fun l n => fin _ _ (o.new n) (Ext.new n) (.tup (.inl ⟨.inl upd_same, o.free n, o.nom n⟩) (Reps.ext (Ext.new n) _ _ h2))⟩⟩
    · rename_i zs hz
      obtain rfl := Option.some.inj e
      obtain rfl := res_id hz fun _ z => nomatch z
      cases ry with
      | tup h1 h2 => exact call_tuple_of pins s σ H _ us Q I r ⟨_, _, rfl, .inr ⟨h1.sq, fin _ _ o Ext.refl (.tup h1 h2)⟩⟩
    · cases e
  · cases e
def listF (S : Sto) : List T → Option T
  | [t] => match res S t with
    | .lst ts => some (.lst ts)
    | .tup ts => some (.lst ts)
    | _ => none
  | _ => none
theorem fn_list : CallT X (.type "list") listF := by
  intro pins s σ H xs us Q I r h
  obtain ⟨M, S, ts, t, o, rs, e, fin⟩ := h
  unfold listF at e
  split at e
  · obtain ⟨v, rfl, ry⟩ := rs.one
    split at e
    · rename_i zs hz
      obtain rfl := Option.some.inj e
      obtain ⟨a, ws, rfl, h1, h2⟩ := res_lst o ry hz
      exact call_list_of pins s σ H _ us Q I r ⟨a, ws, rfl, .inl (SqL.of h1), fun l n => fin _ _ (o.new n) (Ext.new n) (.lst ⟨upd_same, o.free n, o.nom n⟩ (Reps.ext (Ext.new n) _ _ h2))⟩
    · rename_i zs hz
      obtain rfl := Option.some.inj e
      obtain rfl := res_id hz fun _ z => nomatch z
      cases ry with
      | tup h1 h2 => exact call_list_of pins s σ H _ us Q I r ⟨_, _, rfl, .inr h1.sq, fun l n => fin _ _ (o.new n) (Ext.new n) (.lst ⟨upd_same, o.free n, o.nom n⟩ (Reps.ext (Ext.new n) _ _ h2))⟩
    · cases e
  · cases e
/-- a row of truths -/
def blsOf : List T → Option (List Bool)
  | [] => some []
  | .bl b :: ts => (blsOf ts).map (b :: ·)
  | _ :: _ => none
theorem blsOf_reps {G : Gd} {H : Hp} {S : Sto} : ∀ {ts : List T} {bs : List Bool} {vs : List V}, blsOf ts = some bs → Reps G H S ts vs → vs = bs.map V.bl
  | [], bs, vs, e, r => by
    cases r
    obtain rfl := Option.some.inj e
    rfl
  | t :: ts, bs, vs, e, r => by
    cases r with
    | cons a b =>
      cases t with
      | bl c =>
        obtain ⟨cs, h1, rfl⟩ := Option.map_eq_some_iff.mp (show (blsOf ts).map (c :: ·) = some bs from e)
        cases a
        rw [blsOf_reps h1 b]
        rfl
      | _ => cases e
def allF (S : Sto) : List T → Option T
  | [t] => match res S t with
    | .lst ts => (blsOf ts).map fun bs => .bl (bs.all id)
    | _ => none
  | _ => none
theorem fn_all (hc : X.calm = true) : CallT X (.builtin "all") allF := by
  intro pins s σ H xs us Q I r h
  obtain ⟨M, S, ts, t, o, rs, e, fin⟩ := h
  unfold allF at e
  split at e
  · obtain ⟨v, rfl, ry⟩ := rs.one
    split at e
    · rename_i zs hz
      obtain ⟨bs, hb, rfl⟩ := Option.map_eq_some_iff.mp e
      obtain ⟨a, ws, rfl, h1, h2⟩ := res_lst o ry hz
      have hw := blsOf_reps hb h2
      subst hw
      exact cr_all hc pins s σ H _ us Q I r ⟨a, bs, rfl, SqL.of h1, fin _ _ o Ext.refl (.bl _)⟩
    · cases e
  · cases e
def max2F (_ : Sto) : List T → Option T
  | [.int i, .int j] => some (.int (if j > i then j else i))
  | _ => none
def min2F (_ : Sto) : List T → Option T
  | [.int i, .int j] => some (.int (if j < i then j else i))
  | _ => none
theorem fn_max2 (hc : X.calm = true) : CallT X (.builtin "max") max2F := by
  intro pins s σ H xs us Q I r h
  obtain ⟨M, S, ts, t, o, rs, e, fin⟩ := h
  unfold max2F at e
  split at e
  · rename_i i j
    obtain rfl := Option.some.inj e
    obtain ⟨v, w, rfl, r1, r2⟩ := rs.twos
    cases r1
    cases r2
    exact call_max2 hc pins s σ H _ us Q I r ⟨i, j, rfl, fin _ _ o Ext.refl (.int _)⟩
  · cases e
theorem fn_min2 (hc : X.calm = true) : CallT X (.builtin "min") min2F := by
  intro pins s σ H xs us Q I r h
  obtain ⟨M, S, ts, t, o, rs, e, fin⟩ := h
  unfold min2F at e
  split at e
  · rename_i i j
    obtain rfl := Option.some.inj e
    obtain ⟨v, w, rfl, r1, r2⟩ := rs.twos
    cases r1
    cases r2
    exact call_min2 hc pins s σ H _ us Q I r ⟨i, j, rfl, fin _ _ o Ext.refl (.int _)⟩
  · cases e

/-! ### sorted -/
def leT' (x y : T) : Bool := !ltt y x
/-- all alike, and of tuples with something in them, or of none -/
def sortOk (ts : List T) : Bool := ts.all (fun x => okd x && ts.all fun y => alk x y) && (ts.all (fun x => match x with | .tup (_ :: _) => true | _ => false) || ts.all fun x => match x with | .tup _ => false | .non => false | _ => true)
theorem dats_map : ∀ ts : List T, dats ts = ts.map dat
  | [] => rfl
  | t :: ts => by rw [dats, dats_map ts]; rfl
theorem sortOk_of {ts : List T} (h : sortOk ts = true) : (∀ x ∈ ts, okd x = true) ∧ PySem.W.AllAlike (ts.map dat) ∧ PySem.W.Sortable (ts.map dat) ∧ ∀ x ∈ ts, ∀ y ∈ ts, PySem.W.dataLt (dat x) (dat y) = ltt x y := by
  simp only [sortOk, Bool.and_eq_true, Bool.or_eq_true, List.all_eq_true] at h
  obtain ⟨h1, h2⟩ := h
  have ok : ∀ x ∈ ts, okd x = true := fun x hx => (h1 x hx).1
  have al : ∀ x ∈ ts, ∀ y ∈ ts, alk x y = true := fun x hx y hy => (h1 x hx).2 y hy
  refine ⟨ok, fun d hd d' hd' => ?_, ?_, fun x hx y hy => ?_⟩
  · obtain ⟨x, hx, rfl⟩ := List.mem_map.mp hd
    obtain ⟨y, hy, rfl⟩ := List.mem_map.mp hd'
    rw [alk_dat x y (okd_plain (ok x hx)) (okd_plain (ok y hy))]
    exact al x hx y hy
  · rcases h2 with h2 | h2
    · refine .inl fun d hd => ?_
      obtain ⟨x, hx, rfl⟩ := List.mem_map.mp hd
      have := h2 x hx
      cases x with
      | tup l =>
        cases l with
        | nil => cases this
        | cons a b => exact ⟨_, _, rfl⟩
      | _ => cases this
    · refine .inr fun d hd => ?_
      obtain ⟨x, hx, rfl⟩ := List.mem_map.mp hd
      have := h2 x hx
      have pl := okd_plain (ok x hx)
      cases x <;> first | (cases this; done) | (cases pl; done) | exact ⟨(fun z => nomatch z), fun _ z => nomatch z⟩
  · by_cases hn : x = .non
    · subst hn
      have hyn := al _ hx y hy
      have hxx := h2
      cases y <;> first | (simp [alk] at hyn; done) | skip
      rcases h2 with h2 | h2
      · exact absurd (h2 _ hx) (by simp)
      · exact absurd (h2 _ hx) (by simp)
    · exact ltt_dat x y (okd_plain (ok x hx)) (okd_plain (ok y hy)) (al x hx y hy) hn
def sortedF (S : Sto) : List T → Option T
  | [t] => match res S t with
    | .lst ts => if (sortOk ts && decide (ts.length ≤ sizeLine)) = true then some (.lst (ts.mergeSort leT')) else none
    | .tup ts => if (sortOk ts && decide (ts.length ≤ sizeLine)) = true then some (.lst (ts.mergeSort leT')) else none
    | _ => none
  | _ => none
end
end TL

/-! TLi: sorted over trees, of whatever is collected; lists and tuples. -/
namespace TL
open PySem PySem.Spec PyProof.Rows L2

/-- values that lie as trees -/
abbrev VT (G : Gd) (H : Hp) (S : Sto) (u : Value) (t : T) : Prop := ∃ v, RelV v u ∧ Rep G H S t v
theorem eachVT {G : Gd} {H : Hp} {S : Sto} : ∀ {ts : List T} {vs : List V} {us : List Value}, Reps G H S ts vs → Vals vs us → PySem.W.EachIs (VT G H S) us ts
  | [], _, _, r, q => by cases r; cases q; exact .nil
  | _ :: _, _, _, r, q => by
    cases r with
    | cons a b => cases q with
      | cons c d => exact .cons ⟨_, c, a⟩ (eachVT b d)
theorem ofVT {G : Gd} {H : Hp} {S : Sto} : ∀ {ts : List T} {us : List Value}, PySem.W.EachIs (VT G H S) us ts → ∃ vs, Reps G H S ts vs ∧ Vals vs us
  | [], _, r => by cases r; exact ⟨[], .nil, .nil⟩
  | _ :: _, _, r => by
    cases r with
    | cons a b =>
      obtain ⟨v, h1, h2⟩ := a
      obtain ⟨vs, h3, h4⟩ := ofVT b
      exact ⟨v :: vs, .cons h2 h3, .cons h1 h4⟩
theorem mergeSort_leT (ts : List T) (h : ∀ x ∈ ts, ∀ y ∈ ts, PySem.W.dataLt (dat x) (dat y) = ltt x y) : ts.mergeSort (PySem.W.dataLe false dat) = ts.mergeSort leT' :=
  PySem.W.sort_congr fun a ha b hb => by
    rw [PySem.W.dataLe_eq]
    show (!PySem.W.dataLt (dat b) (dat a)) = !ltt b a
    rw [h b hb a ha]
section
variable {X : Cx} {pins : List (Addr × Obj)} {s : Shared} {σ : L2.St} {H : Hp} {S : Sto} {M : Addr → Prop} {Q : VK}
/-- sorted(src), src anything that is collected into trees -/
theorem sorted_via (hu : X.A.units + 70 < cLine) {src : Value} {Pt : List T → Prop} (o : StoOk (gdOf X M) H S)
    (hcol : ∀ (A : Around) (E : Value → Shared → Prop) (R : List Value → Shared → Prop), A.handled = X.A.handled → (∀ out s1 ts, Inv X pins σ H s1 → PySem.W.EachIs (VT (gdOf X M) H S) out ts → Pt ts → R out s1) → wpAny (model X.prog X.w) A (collect src) R E s)
    (ok : ∀ ts, Pt ts → sortOk ts = true ∧ ts.length ≤ sizeLine)
    (fin : ∀ ts v H', Pt ts → StoOk (gdOf X M) H' S → Ext S H S H' → Rep (gdOf X M) H' S (.lst (ts.mergeSort leT')) v → (∀ p, v = .ref p → H p = none ∧ ∃ xs, H' = upd H p (.lst xs)) → Q v H') :
    wpAny (model X.prog X.w) X.A (call (.builtin "sorted") [src]) (EP X pins σ Q) X.xe s := by
  refine call_function_entry_kw kind_sorted plain_sorted entry_sorted (args_sorted1 _) ?_
  unfold Builtin.«sorted»
  refine wpAny_bind (m := checkCount "sorted" 1 1 _) (wpAny_pure ?_)
  refine wpAny_bind (hcol _ _ _ rfl fun out s1 ts I1 each pt => ?_)
  obtain ⟨so, hl⟩ := ok ts pt
  obtain ⟨k1, k2, k3, k4⟩ := sortOk_of so
  have lo := each.length
  refine wpAny_bind (wpAny_newList ?_ (by rw [lo]; exact hl))
  have hat : (s1.heap.push (seqObj "list" out.toArray 0)).get? s1.heap.objs.size = some (seqObj "list" out.toArray 0) := Heap.get?_push_size _ rfl
  have rd : PySem.W.EachIs (fun v b => ∃ as, Reads (PySem.W.sortingHeap (s1.heap.push (seqObj "list" out.toArray 0)) s1.heap.objs.size out) v (dat b) as) out ts := by
    refine PySem.W.EachIs.mono (fun u t z => ?_) (PySem.W.each_mem each)
    obtain ⟨⟨v, r1, r2⟩, hm⟩ := z
    obtain ⟨as, q⟩ := Dp.reads I1 _ _ _ (Rep.dp _ _ r2 (okd_plain (k1 t hm))) r1
    exact ⟨as, Reads.keeps (fun b ob e => PySem.W.sortingHeap_old (Nat.ne_of_lt (Heap.lt_size e)) (Heap.get?_push_of_some _ e)) q⟩
  have dp : ∀ d, d ∈ ts.map dat → X.A.in1.in1.units + d.depth < cLine := fun d hd => by
    obtain ⟨t, ht, rfl⟩ := List.mem_map.mp hd
    have z := SeqAt.depth_of_shaped (okd_shaped (k1 t ht))
    show X.A.units + 1 + 1 + _ < _
    omega
  have srt := PySem.W.SortsAt.data (prog := X.prog) (w := X.w) (A := X.A.in1.in1) (s := { s1 with heap := PySem.W.sortingHeap (s1.heap.push (seqObj "list" out.toArray 0)) s1.heap.objs.size out }) (PySem.W.each_map dat (R := fun v d => ∃ as, Reads (PySem.W.sortingHeap (s1.heap.push (seqObj "list" out.toArray 0)) s1.heap.objs.size out) v d as) rd) k2 k3 dp
  have val := PySem.W.sortVals_data false each rd k2
  rw [mergeSort_leT ts k4] at val
  refine wpAny_bind (wpAny_holding (wpAny_call_entry_kw slot_list_sort ⟨_, hat, rfl⟩ entry_list_sort (PySem.W.list_sort_vals (s := { s1 with heap := s1.heap.push (seqObj "list" out.toArray 0) }) hat srt (by rw [lo]; exact hl) ⟨.none, rfl, ?_⟩) (args_list_sort _)))
  obtain ⟨ep, hnew⟩ := sortedHeap_at (vs := out) (out := (PySem.W.sortVals (PySem.W.dataKind (PySem.W.sortingHeap (s1.heap.push (seqObj "list" out.toArray 0)) s1.heap.objs.size out) (ts.map dat)) false out out).toArray) hat
  obtain ⟨ws, rw1, rw2⟩ := ofVT val
  have nH : H s1.heap.objs.size = none := I1.hok.fresh (Nat.le_refl _)
  have lw : ws.length ≤ sizeLine := by rw [← rw1.length, List.length_mergeSort]; exact hl
  have I2 : Inv X pins σ (upd H s1.heap.objs.size (.lst ws)) { s1 with heap := sortedHeap (s1.heap.push (seqObj "list" out.toArray 0)) s1.heap.objs.size out (PySem.W.sortVals (PySem.W.dataKind (PySem.W.sortingHeap (s1.heap.push (seqObj "list" out.toArray 0)) s1.heap.objs.size out) (ts.map dat)) false out out).toArray } :=
    I1.laid (t' := s1.toks) (fun b ob e => by
      rw [sortedHeap_old (Nat.ne_of_lt (Heap.lt_size e)) (by rw [size_push']; exact Nat.lt_succ_of_lt (Heap.lt_size e))]
      exact Heap.get?_push_of_some _ e) (Nat.le_refl _) ⟨lw, _, ep, rw2, hnew⟩
  exact wpAny_pure ⟨_, rfl, .ref s1.heap.objs.size, _, I2, rfl, fin ts _ _ pt (o.new nH) (Ext.new nH) (.lst ⟨upd_same, o.free nH, o.nom nH⟩ (Reps.ext (Ext.new nH) _ _ rw1)) fun p e => by
    injection e with e
    subst e
    exact ⟨nH, ws, rfl⟩⟩
/-- what a tuple or a list collects -/
theorem collect_seqT (I : Inv X pins σ H s) {a : Addr} {vs : List V} {ts : List T} (h : SqL X.K H a vs ∨ SqT X.K H a vs) (r : Reps (gdOf X M) H S ts vs) {A : Around} {E : Value → Shared → Prop} {R : List Value → Shared → Prop}
    (k : ∀ out s1, Inv X pins σ H s1 → PySem.W.EachIs (VT (gdOf X M) H S) out ts → R out s1) : wpAny (model X.prog X.w) A (collect (.ref a)) R E s := by
  have main : ∀ (Ty : String) (ob : Obj) (its : List Value) (n : Nat), (Ty = "list" ∨ Ty = "tuple") → s.heap.get? a = some ob → ob.cls = .type Ty → ob.data = .seq its.toArray n → Vals vs its → its.length ≤ sizeLine → wpAny (model X.prog X.w) A (collect (.ref a)) R E s := by
    intro Ty ob its n hT ho hc hd hv hz
    unfold collect
    refine wpAny_bind (wpAny_runValue (codeAny_builtin entry_proto_collect' ?_))
    show wpAny _ _ (do again (.builtin "list.__iadd__" ⟨[← newList [], .ref a], []⟩)) _ _ s
    have nw : (s.heap.push (seqObj "list" #[] 0)).get? s.heap.objs.size = some { cls := .type "list", data := .seq #[] 0 } := Heap.get?_push_size _ rfl
    refine wpAny_bind (wpAny_newList (wpAny_pure ⟨Code.quiet_builtin _ (by decide +kernel), codeAny_builtin entry_list_iadd' ?_⟩))
    have ho' : (s.heap.push (seqObj "list" #[] 0)).get? a = some ob := Heap.get?_push_of_some _ ho
    show wpAny _ _ (Builtin.List.listExtendWith (Value.ref s.heap.objs.size) (Value.ref a) (Value.ref s.heap.objs.size)) _ _ { s with heap := s.heap.push (seqObj "list" #[] 0) }
    unfold Builtin.List.listExtendWith
    refine wpAny_bind (wpAny_typeOf (T := Ty) ⟨ob, ho', hc⟩ ?_)
    have yes1 : (Builtin.List.listSameRef (Value.ref s.heap.objs.size) (Value.ref a) || Value.type Ty == Value.type "list" || Value.type Ty == Value.type "tuple") = true := by
      rcases hT with z | z <;> (subst z; simp)
    rw [if_pos yes1]
    refine wpAny_bind (listItems_at ho' hd ?_)
    refine wpAny_bind (listItems_at (xs := #[]) (n := 0) nw rfl ?_)
    have no1 : ¬(!(#[] : Array Value).isEmpty && Builtin.List.listTooLong ((#[] : Array Value).size + its.toArray.size)) = true := by simp
    rw [if_neg no1]
    have fits1 : ((#[] : Array Value) ++ its.toArray).size ≤ sizeLine + 1 := by
      simp
      omega
    refine wpAny_bind (listUpdate_at (xs := #[]) (n := 0) nw rfl ?_ (Nat.zero_le _) fits1)
    refine wpAny_pure ?_
    show wpAny (model X.prog X.w) A (do
      let o ← load s.heap.objs.size
      match o.data with
      | .seq xs _ => pure xs.toList
      | _ => unsupported "internal:collect") R E { s with heap := (s.heap.push (seqObj "list" #[] 0)).update s.heap.objs.size (Obj.mapSeq (· ++ its.toArray)) }
    refine wpAny_bind (wpAny_load (get?_update_seq (Heap.get?_push_size _ rfl) _) ?_)
    show wpAny _ _ (pure ((#[] : Array Value) ++ its.toArray).toList) R E _
    rw [show ((#[] : Array Value) ++ its.toArray).toList = its by simp]
    refine wpAny_pure (k its _ (I.kept (t' := s.toks) fun b u e => ?_) (eachVT r hv))
    rw [Heap.get?_update_ne _ _ _ _ (Nat.ne_of_lt (Heap.lt_size e))]
    exact Heap.get?_push_of_some _ e
  rcases h with h | h
  · obtain ⟨its, hv, ⟨ob, n, h1, h2, _, h4⟩, hz⟩ := I.list h
    exact main "list" ob its n (.inl rfl) h1 h2 h4 hv (by rw [← hv.length]; exact hz)
  · obtain ⟨its, hv, ⟨ob, h1, h2, n, h4⟩, hz⟩ := I.tuple h
    exact main "tuple" ob its n (.inr rfl) h1 h2 h4 hv (by rw [← hv.length]; exact hz)
theorem fn_sorted (hu : X.A.units + 70 < cLine) : CallT X (.builtin "sorted") sortedF := by
  intro pins s σ H xs us Q I r h
  obtain ⟨M, S, ts, t, o, rs, e, fin⟩ := h
  unfold sortedF at e
  split at e
  · rename_i y
    obtain ⟨v, rfl, ry⟩ := rs.one
    obtain ⟨u, rfl, ru⟩ := vals1 r
    have go : ∀ (a : Addr) (ws : List V) (zs : List T), v = .ref a → (SqL X.K H a ws ∨ SqT X.K H a ws) → Reps (gdOf X M) H S zs ws → (if (sortOk zs && decide (zs.length ≤ sizeLine)) = true then some (T.lst (zs.mergeSort leT')) else none) = some t →
        wpAny (model X.prog X.w) X.A (call (.builtin "sorted") [u]) (EP X pins σ Q) X.xe s := by
      intro a ws zs ev hs rz e
      subst ev
      obtain rfl : u = .ref a := ru
      split at e
      · rename_i c
        obtain ⟨c1, c2⟩ := Bool.and_eq_true_iff.mp c
        obtain rfl := Option.some.inj e
        exact sorted_via (Pt := fun x => x = zs) hu o (fun A E R _ k => collect_seqT I hs rz fun out s1 I1 ee => k out s1 zs I1 ee rfl) (fun x hx => by rw [hx]; exact ⟨c1, of_decide_eq_true c2⟩) fun x w H' hx o2 x2 r2 _ => by
          subst hx
          exact fin w H' o2 x2 r2
      · cases e
    split at e
    · rename_i zs hz
      obtain ⟨a, ws, rfl, h1, h2⟩ := res_lst o ry hz
      exact go a ws zs rfl (.inl (SqL.of h1)) h2 e
    · rename_i zs hz
      obtain rfl := res_id hz fun _ z => nomatch z
      cases ry with
      | tup h1 h2 => exact go _ _ zs rfl (.inr h1.sq) h2 e
    · cases e
  · cases e
end
end TL

/-! TLj: methods and stores over trees: lists, texts; kinds. -/
namespace TL
open PySem PySem.Spec PyProof.Rows L2

abbrev NoE : T → Sto → Prop := fun _ _ => False
theorem takesN {X : Cx} {M : Addr → Prop} {S0 : Sto} {H0 : Hp} : Takes X (wOf X M S0 H0 EN) := takes0.imp fun c d σ H ⟨_, _, _, _, _, z⟩ => z.elim
/-! ### lists that change -/
def cApp (o e : TTE) : TTE := fun τ S Q E => o τ S (fun x S1 => ∃ a us, x = .ref a ∧ S1 a = some (.lst us) ∧ e τ S1 (fun y S2 => ∃ ts, S2 a = some (.lst ts) ∧ ts.length < sizeLine ∧ Q .non (ups S2 a (.lst (ts ++ [y])))) E) E
def cExt (o e : TTE) : TTE := fun τ S Q E => o τ S (fun x S1 => ∃ a us, x = .ref a ∧ S1 a = some (.lst us) ∧ e τ S1 (fun y S2 => ∃ ts zs, S2 a = some (.lst ts) ∧ res S2 y = .lst zs ∧ ts.length + zs.length ≤ sizeLine ∧ Q .non (ups S2 a (.lst (ts ++ zs)))) E) E
def cPop (o : TTE) : TTE := fun τ S Q E => o τ S (fun x S1 => ∃ a ts y, x = .ref a ∧ S1 a = some (.lst ts) ∧ ts.getLast? = some y ∧ Q y (ups S1 a (.lst ts.dropLast))) E
def cIns (o i e : TTE) : TTE := fun τ S Q E => o τ S (fun x S1 => ∃ a us, x = .ref a ∧ S1 a = some (.lst us) ∧ i τ S1 (fun k S2 => e τ S2 (fun y S3 => ∃ ts n, S3 a = some (.lst ts) ∧ k = .int n ∧ ts.length < sizeLine ∧ 0 ≤ n ∧ n < 2 ^ 63 ∧ Q .non (ups S3 a (.lst (ts.take n.toNat ++ [y] ++ ts.drop n.toNat)))) E) E) E
def cClr (o : TTE) : TTE := fun τ S Q E => o τ S (fun x S1 => ∃ a ts, x = .ref a ∧ S1 a = some (.lst ts) ∧ Q .non (ups S1 a (.lst []))) E
def gIx (o i : TTE) : TTG := fun z τ S Q => o τ S (fun x S1 => i τ S1 (fun k S2 => ∃ a ts n j, x = .ref a ∧ S2 a = some (.lst ts) ∧ k = .int n ∧ ixN ts.length n = some j ∧ Q τ (ups S2 a (.lst (ts.set j z)))) NoE) NoE
section
variable {X : Cx} {o e i : Expr} {to te ti : TTE} {apos cpos pos : Pos}
theorem ty_list {M : Addr → Prop} {S : Sto} {H : Hp} {a : Addr} {us : List T} (ok : StoOk (gdOf X M) H S) (h : S a = some (.lst us)) : tyV X.K "list" (.ref a) H := by
  obtain ⟨xs, h1, _⟩ := ok.at_ a _ h
  exact .inl ⟨rfl, xs, SqL.of h1⟩
/-- a cell of a list is written -/
theorem cell_set {M : Addr → Prop} {S : Sto} {H : Hp} {a : Addr} {ts us : List T} {ys : List V} (ok : StoOk (gdOf X M) H S) (h : S a = some (.lst ts)) (r : Reps (gdOf X M) H S us ys) :
    StoOk (gdOf X M) (upd H a (.lst ys)) (ups S a (.lst us)) ∧ Ext S H (ups S a (.lst us)) (upd H a (.lst ys)) :=
  have x : Ext S H (ups S a (.lst us)) (upd H a (.lst ys)) := Ext.cell (.inr ⟨_, h⟩)
  ⟨ok.cell (.inr ⟨_, h⟩) ⟨ys, upd_same, Reps.ext x _ _ r⟩, x⟩
theorem te_app (ho : TE X o to) (he : TE X e te) (hbase : attributeBase o "append" X.env (eval o X.env) = eval o X.env := by rfl)
    (hfew : ((backTo cpos (starEach [e] X.env)).all (fun x => !x.1) && (backToKw cpos (keywordEach [] X.env)).all (fun x => x.1.isSome) && decide (([e] : List Expr).length + ([] : List Keyword).length + (if ([] : List Keyword).isEmpty then 0 else 1) < 30)) = true := by rfl)
    (hline : (apos.endLine == cpos.line) = true := by rfl) (hs : starEach [e] X.env = (false, eval e X.env) :: starEach [] X.env := by rfl) (hplain : (backTo cpos (starEach [] X.env)).any (·.1) = false := by rfl) :
    TE X (.Call (.Attribute o "append" apos) [e] [] cpos) (cApp to te) := fun M S0 H0 E tk =>
  (pe_bm PySem.F.plainAttrs_list PySem.F.slot_list_append PySem.F.type_list_append mt_append (ho M S0 H0 E tk) (ta_cons he ta_nil hs M S0 H0 E tk) hbase hfew hline hs hplain).weak fun σ H Q ⟨τ, S, Qt, rel, h, k⟩ =>
    ⟨τ, S, _, rel, h, fun z S1 v H1 ⟨a, us, ez, hs1, h1⟩ o1 x1 r1 => by
      subst ez
      cases r1
      refine ⟨ty_list o1 hs1, τ, S1, fun zs S2 => ∃ y, zs = [y] ∧ ∃ ts, S2 a = some (.lst ts) ∧ ts.length < sizeLine ∧ Qt .non (ups S2 a (.lst (ts ++ [y]))), rel.step o1 x1, ?_, fun zs S2 vs H2 h2 o2 x2 r2 => ?_⟩
      · show te τ S1 (fun y S2 => ∃ y', [y] = [y'] ∧ ∃ ts, S2 a = some (.lst ts) ∧ ts.length < sizeLine ∧ Qt .non (ups S2 a (.lst (ts ++ [y'])))) fun x S' => E x τ S'
        have e : ∀ (y : T) (S2 : Sto), (∃ y', [y] = [y'] ∧ ∃ ts, S2 a = some (.lst ts) ∧ ts.length < sizeLine ∧ Qt .non (ups S2 a (.lst (ts ++ [y'])))) = ∃ ts, S2 a = some (.lst ts) ∧ ts.length < sizeLine ∧ Qt .non (ups S2 a (.lst (ts ++ [y]))) := fun y S2 => by
          simp only [List.cons.injEq, and_true, exists_eq_left']
        simp only [e]
        exact h1
      · obtain ⟨y, rfl, ts, q1, q2, q3⟩ := h2
        obtain ⟨w, rfl, rw1⟩ := r2.one
        obtain ⟨xs, p1, p2⟩ := o2.at_ a _ q1
        have l := p2.length
        obtain ⟨o3, x3⟩ := cell_set (us := ts ++ [y]) (ys := xs ++ [w]) o2 q1 (p2.append (.cons rw1 .nil))
        exact ⟨a, xs, w, rfl, rfl, p1, by omega, k _ _ _ _ q3 o3 ((x1.trans x2).trans x3) .non⟩⟩
theorem te_ext (ho : TE X o to) (he : TE X e te) (hbase : attributeBase o "extend" X.env (eval o X.env) = eval o X.env := by rfl)
    (hfew : ((backTo cpos (starEach [e] X.env)).all (fun x => !x.1) && (backToKw cpos (keywordEach [] X.env)).all (fun x => x.1.isSome) && decide (([e] : List Expr).length + ([] : List Keyword).length + (if ([] : List Keyword).isEmpty then 0 else 1) < 30)) = true := by rfl)
    (hline : (apos.endLine == cpos.line) = true := by rfl) (hs : starEach [e] X.env = (false, eval e X.env) :: starEach [] X.env := by rfl) (hplain : (backTo cpos (starEach [] X.env)).any (·.1) = false := by rfl) :
    TE X (.Call (.Attribute o "extend" apos) [e] [] cpos) (cExt to te) := fun M S0 H0 E tk =>
  (pe_bm PySem.F.plainAttrs_list PySem.F.slot_list_extend PySem.F.type_list_extend mt_extend (ho M S0 H0 E tk) (ta_cons he ta_nil hs M S0 H0 E tk) hbase hfew hline hs hplain).weak fun σ H Q ⟨τ, S, Qt, rel, h, k⟩ =>
    ⟨τ, S, _, rel, h, fun z S1 v H1 ⟨a, us, ez, hs1, h1⟩ o1 x1 r1 => by
      subst ez
      cases r1
      refine ⟨ty_list o1 hs1, τ, S1, fun ys S2 => ∃ y, ys = [y] ∧ ∃ ts zs, S2 a = some (.lst ts) ∧ res S2 y = .lst zs ∧ ts.length + zs.length ≤ sizeLine ∧ Qt .non (ups S2 a (.lst (ts ++ zs))), rel.step o1 x1, ?_, fun zs S2 vs H2 h2 o2 x2 r2 => ?_⟩
      · show te τ S1 (fun y S2 => ∃ y', [y] = [y'] ∧ ∃ ts zs, S2 a = some (.lst ts) ∧ res S2 y' = .lst zs ∧ ts.length + zs.length ≤ sizeLine ∧ Qt .non (ups S2 a (.lst (ts ++ zs)))) fun x S' => E x τ S'
        have e : ∀ (y : T) (S2 : Sto), (∃ y', [y] = [y'] ∧ ∃ ts zs, S2 a = some (.lst ts) ∧ res S2 y' = .lst zs ∧ ts.length + zs.length ≤ sizeLine ∧ Qt .non (ups S2 a (.lst (ts ++ zs)))) = ∃ ts zs, S2 a = some (.lst ts) ∧ res S2 y = .lst zs ∧ ts.length + zs.length ≤ sizeLine ∧ Qt .non (ups S2 a (.lst (ts ++ zs))) := fun y S2 => by
          simp only [List.cons.injEq, and_true, exists_eq_left']
        simp only [e]
        exact h1
      · obtain ⟨y, rfl, ts, zs, q1, qz, q2, q3⟩ := h2
        obtain ⟨w, rfl, rw1⟩ := r2.one
        obtain ⟨xs, p1, p2⟩ := o2.at_ a _ q1
        obtain ⟨b, ws, rfl, b1, b2⟩ := res_lst o2 rw1 qz
        have l := p2.length
        have l2 := b2.length
        obtain ⟨o3, x3⟩ := cell_set (us := ts ++ zs) (ys := xs ++ ws) o2 q1 (p2.append b2)
        exact ⟨a, b, xs, ws, rfl, rfl, p1, b1, by omega, k _ _ _ _ q3 o3 ((x1.trans x2).trans x3) .non⟩⟩
theorem te_pop (ho : TE X o to) (hbase : attributeBase o "pop" X.env (eval o X.env) = eval o X.env := by rfl) (hline : (apos.endLine == cpos.line) = true := by rfl) :
    TE X (.Call (.Attribute o "pop" apos) [] [] cpos) (cPop to) := fun M S0 H0 E tk =>
  (pe_bm0 PySem.F.plainAttrs_list PySem.F.slot_list_pop PySem.F.type_list_pop mt_pop (ho M S0 H0 E tk) hbase hline).weak fun σ H Q ⟨τ, S, Qt, rel, h, k⟩ =>
    ⟨τ, S, _, rel, h, fun z S1 v H1 ⟨a, ts, y, ez, hs1, hy, h1⟩ o1 x1 r1 => by
      subst ez
      cases r1
      obtain ⟨xs, p1, p2⟩ := o1.at_ a _ hs1
      have l := p2.length
      have hy' : ts[ts.length - 1]? = some y := by rw [← List.getLast?_eq_getElem?]; exact hy
      obtain ⟨w, hw, rw1⟩ := p2.get hy'
      obtain ⟨o3, x3⟩ := cell_set (us := ts.dropLast) (ys := xs.dropLast) o1 hs1 (by rw [List.dropLast_eq_take, List.dropLast_eq_take, ← l]; exact p2.take _)
      exact ⟨ty_list o1 hs1, a, xs, w, rfl, rfl, p1, by rw [← l]; exact hw, k _ _ _ _ h1 o3 (x1.trans x3) (Rep.ext x3 _ _ rw1)⟩⟩
theorem te_clr (ho : TE X o to) (hbase : attributeBase o "clear" X.env (eval o X.env) = eval o X.env := by rfl) (hline : (apos.endLine == cpos.line) = true := by rfl) :
    TE X (.Call (.Attribute o "clear" apos) [] [] cpos) (cClr to) := fun M S0 H0 E tk =>
  (pe_bm0 PySem.F.plainAttrs_list PySem.F.slot_list_clear PySem.F.type_list_clear mt_clear (ho M S0 H0 E tk) hbase hline).weak fun σ H Q ⟨τ, S, Qt, rel, h, k⟩ =>
    ⟨τ, S, _, rel, h, fun z S1 v H1 ⟨a, ts, ez, hs1, h1⟩ o1 x1 r1 => by
      subst ez
      cases r1
      obtain ⟨xs, p1, p2⟩ := o1.at_ a _ hs1
      obtain ⟨o3, x3⟩ := cell_set (us := []) (ys := []) o1 hs1 .nil
      exact ⟨ty_list o1 hs1, a, xs, rfl, rfl, p1, k _ _ _ _ h1 o3 (x1.trans x3) .non⟩⟩
/-- xs[i] = v, xs a list -/
theorem tg_ix {vs : List Nat} (ho : TE X o to) (hi : TE X i ti) (ha : ∀ v, assign (.Subscript o i pos) X.env v = (do
      let ov ← holding [v] (eval o X.env)
      let iv ← holding [v, ov] (eval i X.env)
      standAt pos
      holding [v, ov, iv] (setItem ov iv v)
      release [v, ov, iv] []) := by intro _; rfl) : TGt X vs (.Subscript o i pos) (gIx to ti) := fun M S0 H0 E tk =>
  (pg_sub (ho M S0 H0 EN takesN) (hi M S0 H0 EN takesN) set_list ha).weak fun v σ H Q ⟨τ, S, z, Qt, rel, hz, h, k⟩ => ⟨τ, S, _, rel, h, fun x S1 xv H1 h1 o1 x1 r1 =>
    ⟨τ, S1, _, rel.step o1 x1, h1, fun y S2 yv H2 ⟨a, ts, n, j, ex, hs2, ey, hj, h2⟩ o2 x2 r2 => by
      subst ex ey
      cases r1
      cases r2
      obtain ⟨xs, p1, p2⟩ := o2.at_ a _ hs2
      have x12 := x1.trans x2
      obtain ⟨o3, x3⟩ := cell_set (us := ts.set j z) (ys := xs.set j v) o2 hs2 (p2.set (Rep.ext x12 _ _ hz) j)
      exact ⟨a, xs, n, j, rfl, rfl, p1, by rw [← p2.length]; exact hj, k _ _ _ _ ((rel.step o2 x12).step o3 x3) (x12.trans x3) rfl h2⟩⟩⟩
end

/-! ### kinds -/
inductive Kd where
  | non | bool | int | str | tup | lst | dct
  deriving DecidableEq
def Kd.nm : Kd → String
  | .non => "NoneType"
  | .bool => "bool"
  | .int => "int"
  | .str => "str"
  | .tup => "tuple"
  | .lst => "list"
  | .dct => "dict"
def Kd.is : Kd → Kd → Bool
  | .bool, .int => true
  | a, b => decide (a = b)
theorem Kd.kit (a b : Kd) : kitB a.nm b.nm = some (a.is b) := by cases a <;> cases b <;> decide +kernel
def kdOf (S : Sto) : T → Option Kd
  | .non => some .non
  | .bl _ => some .bool
  | .int _ => some .int
  | .str _ => some .str
  | .tup _ => some .tup
  | .lst _ => some .lst
  | .dct false _ _ => some .dct
  | .ref a => match S a with
    | some (.lst _) => some .lst
    | some (.dct false _ _) => some .dct
    | _ => none
  | _ => none
theorem kd_ty {X : Cx} {M : Addr → Prop} {S : Sto} {H : Hp} {t : T} {v : V} {k : Kd} (o : StoOk (gdOf X M) H S) (r : Rep (gdOf X M) H S t v) (e : kdOf S t = some k) : TyX X.K H v (.type k.nm) := by
  cases r with
  | non => obtain rfl := Option.some.inj e; exact .base .non
  | bl b => obtain rfl := Option.some.inj e; exact .base (.bl b)
  | int i => obtain rfl := Option.some.inj e; exact .base (.int i)
  | str x => obtain rfl := Option.some.inj e; exact .base (.str _)
  | tup h1 h2 =>
    obtain rfl := Option.some.inj e
    rcases h1 with ⟨h1 | ⟨ob, h1⟩, _⟩ | ⟨ob, its, n, h1, h2, _⟩
    · exact .base (.tup h1)
    · exact .fTuple h1
    · exact .kTuple h1 h2
  | lst h1 h2 => obtain rfl := Option.some.inj e; exact .base (.lst h1.1)
  | dK h1 h2 h3 =>
    obtain rfl := Option.some.inj e
    rcases h1.1 with h1 | ⟨ob, h1⟩
    · exact .base (.dK h1)
    · exact .fDict h1
  | ref a =>
    cases q : S a with
    | none => simp [kdOf, q] at e
    | some c =>
      have w := o.at_ a _ q
      cases c with
      | lst ts =>
        simp only [kdOf, q] at e
        obtain rfl := Option.some.inj e
        obtain ⟨xs, h1, _⟩ := w
        exact .base (.lst h1)
      | dct b ks vs =>
        cases b with
        | true => simp [kdOf, q] at e
        | false =>
          simp only [kdOf, q] at e
          obtain rfl := Option.some.inj e
          obtain ⟨kvs, h1, _⟩ := w
          exact .base (.dK h1)
      | ins _ _ _ => simp [kdOf, q] at e
  | _ => cases e
def isiT (ks : List Kd) (S : Sto) (x : T) : Option T := (kdOf S x).map fun k => .bl (ks.any fun c => k.is c)
section
variable {X : Cx} {a : Expr} {ta : TTE} {p p2 pos tpos : Pos} {c : Str}
theorem boot_kd (k : Kd) (h : k ≠ .non) : bootBuiltins k.nm = some (.type k.nm) := by
  cases k <;> first | exact absurd rfl h | decide +kernel
/-- isinstance(e, C), C a built-in class -/
theorem te_isi (k : Kd) (ha : TE X a ta) (hg : Gl X "isinstance") (hm : X.mg "isinstance" = none) (hg2 : Gl X k.nm) (hm2 : X.mg k.nm = none) (hk : k ≠ .non := by decide)
    (hdb : ((k.nm : Str) == ("__debug__" : Str)) = false := by decide) (hnn : (k.nm : Str) ≠ "__name__" := by decide)
    (he : starEach [a, .Name k.nm p2] X.env = (false, eval a X.env) :: starEach [.Name k.nm p2] X.env := by rfl) (he2 : starEach [.Name k.nm p2] X.env = (false, eval (.Name k.nm p2) X.env) :: starEach [] X.env := by rfl) (hpl : (backTo pos (starEach [.Name k.nm p2] X.env)).any (·.1) = false := by rfl) :
    TE X (.Call (.Name "isinstance" p) [a, .Name k.nm p2] [] pos) (cUn (isiT [k]) ta) := fun M S0 H0 E tk =>
  (pe_callB call_isi hg hm boot_isinstance (pa_cons (ha M S0 H0 E tk) (pa_cons (pe_bltn hg2 hm2 (boot_kd k hk) (show RelV (.ty k.nm) (.type k.nm) from rfl) hnn hdb) pa_nil he2) he) (by decide) (by decide) he hpl).weak fun σ H Q ⟨τ, S, Qt, rel, h, fin⟩ =>
    ⟨τ, S, _, rel, h, fun z S1 v H1 ⟨w, e, hq⟩ o1 x1 r1 => by
      obtain ⟨kd, hkd, rfl⟩ := Option.map_eq_some_iff.mp e
      refine ⟨v, .ty k.nm, .type kd.nm, .type k.nm, kd.is k, rfl, .ty _, kd_ty o1 r1 hkd, kit_ty (kd.kit k), ?_⟩
      have := fin _ S1 (.bl (kd.is k)) H1 hq o1 x1 (by simp only [List.any_cons, List.any_nil, Bool.or_false]; exact .bl _)
      exact this⟩
/-- isinstance(e, (C, D)) -/
theorem te_isi2 (k l : Kd) {kk : Nat} {p3 : Pos} (ha : TE X a ta) (hg : Gl X "isinstance") (hm : X.mg "isinstance" = none) (hg2 : Gl X k.nm) (hm2 : X.mg k.nm = none) (hg3 : Gl X l.nm) (hm3 : X.mg l.nm = none) (hk : k ≠ .non := by decide) (hl : l ≠ .non := by decide)
    (hdb : ((k.nm : Str) == ("__debug__" : Str)) = false := by decide) (hnn : (k.nm : Str) ≠ "__name__" := by decide) (hdb3 : ((l.nm : Str) == ("__debug__" : Str)) = false := by decide) (hnn3 : (l.nm : Str) ≠ "__name__" := by decide)
    (he : starEach [a, .Tuple [.Name k.nm p2, .Name l.nm p3] kk tpos] X.env = (false, eval a X.env) :: starEach [.Tuple [.Name k.nm p2, .Name l.nm p3] kk tpos] X.env := by rfl)
    (he2 : starEach [.Tuple [.Name k.nm p2, .Name l.nm p3] kk tpos] X.env = (false, eval (.Tuple [.Name k.nm p2, .Name l.nm p3] kk tpos) X.env) :: starEach [] X.env := by rfl)
    (he3 : starEach [.Name k.nm p2, .Name l.nm p3] X.env = (false, eval (.Name k.nm p2) X.env) :: starEach [.Name l.nm p3] X.env := by rfl) (he4 : starEach [.Name l.nm p3] X.env = (false, eval (.Name l.nm p3) X.env) :: starEach [] X.env := by rfl)
    (hpl : (backTo pos (starEach [.Tuple [.Name k.nm p2, .Name l.nm p3] kk tpos] X.env)).any (·.1) = false := by rfl) :
    TE X (.Call (.Name "isinstance" p) [a, .Tuple [.Name k.nm p2, .Name l.nm p3] kk tpos] [] pos) (cUn (isiT [k, l]) ta) := fun M S0 H0 E tk =>
  (pe_callB call_isiT hg hm boot_isinstance (pa_cons (ha M S0 H0 E tk) (pa_cons (pe_tup (pa_cons (pe_bltn hg2 hm2 (boot_kd k hk) (show RelV (.ty k.nm) (.type k.nm) from rfl) hnn hdb) (pa_cons (pe_bltn hg3 hm3 (boot_kd l hl) (show RelV (.ty l.nm) (.type l.nm) from rfl) hnn3 hdb3) pa_nil he4) he3)) pa_nil he2) he) (by decide) (by decide) he hpl).weak fun σ H Q ⟨τ, S, Qt, rel, h, fin⟩ =>
    ⟨τ, S, _, rel, h, fun z S1 v H1 ⟨w, e, hq⟩ o1 x1 r1 => by
      obtain ⟨kd, hkd, rfl⟩ := Option.map_eq_some_iff.mp e
      refine ⟨by show 2 ≤ sizeLine; rw [sizeLine_eq]; omega, fun q n => ?_⟩
      have xn : Ext S1 H1 S1 (upd H1 q (.tup [.ty k.nm, .ty l.nm])) := Ext.new n
      refine ⟨v, q, [.ty k.nm, .ty l.nm], .type kd.nm, [.type k.nm, .type l.nm], kd.is k || kd.is l, rfl, upd_same, .cons (.ty _) (.cons (.ty _) .nil), kd_ty (o1.new n) (Rep.ext xn _ _ r1) hkd, ?_, ?_⟩
      · refine kitAny_cons (kit_ty (kd.kit k)) (fun e1 => ?_) fun e1 => ?_
        · refine kitAny_cons (kit_ty (kd.kit l)) (fun e2 => ?_) fun e2 => ?_
          · rw [e1, e2]; exact kitAny_nil
          · rw [e2, Bool.or_true]
        · rw [e1, Bool.true_or]
      · have := fin _ S1 (.bl (kd.is k || kd.is l)) _ hq (o1.new n) (x1.trans xn) (by simp only [List.any_cons, List.any_nil, Bool.or_false]; exact .bl _)
        exact this⟩
end
end TL

/-! TLk: texts: times, numbers written, joined, looked into; chained comparisons; the module's names. -/
namespace TL
open PySem PySem.Spec PyProof.Rows L2

/-! ### times -/
def repS (n : Nat) (x : List Sg) : List Sg := (List.replicate n x).flatten
theorem repS_zero (x : List Sg) : repS 0 x = [] := rfl
theorem repS_succ (n : Nat) (x : List Sg) : repS (n + 1) x = x ++ repS n x := by simp [repS, List.replicate_succ]
theorem repS_nil (n : Nat) : repS n [] = [] := by
  induction n with
  | zero => rfl
  | succ n ih => rw [repS_succ, ih]; rfl
theorem repS_one (x : List Sg) : repS 1 x = x := by simp [repS]
theorem repS_len (n : Nat) (x : List Sg) : (repS n x).length = n * x.length := by
  induction n with
  | zero => simp [repS]
  | succ n ih => rw [repS_succ, List.length_append, ih, Nat.succ_mul, Nat.add_comm]
theorem txt_repS (n : Nat) (x : List Sg) : (⟨(List.replicate n (txt x).cps).foldl (· ++ ·) #[]⟩ : Str) = txt (repS n x) := by
  have h : ∀ (n : Nat) (acc : Array Nat), (List.replicate n (txt x).cps).foldl (· ++ ·) acc = acc ++ (txt (repS n x)).cps := by
    intro n
    induction n with
    | zero => intro acc; simp [repS, txt]
    | succ n ih =>
      intro acc
      rw [List.replicate_succ, List.foldl_cons, ih, repS_succ]
      simp [txt]
  rw [h n #[]]
  simp [txt]
theorem txt_mul (x : List Sg) (n : Int) : Txt.mul (txt x) n = txt (repS n.toNat x) := by
  unfold Txt.mul
  split
  · rename_i h
    have : n.toNat = 0 := by omega
    rw [this]
    rfl
  · split
    · rename_i h h2
      simp only [Bool.or_eq_true, beq_iff_eq] at h2
      rcases h2 with h2 | h2
      · subst h2
        show txt x = txt (repS 1 x)
        rw [repS_one]
      · rw [txt_len] at h2
        have : x = [] := List.eq_nil_of_length_eq_zero h2
        subst this
        rw [repS_nil]
    · exact txt_repS _ _
def mulS (x : List Sg) (n : Int) : Bool := decide (x.length * n.toNat ≤ 1000000) && (decide (n < 1000000) && decide (-1000000 < n))
theorem mulS_ok {x : List Sg} {n : Int} (h : mulS x n = true) : MulOk (txt x) n := by
  simp only [mulS, Bool.and_eq_true, decide_eq_true_eq] at h
  obtain ⟨h1, h2, h3⟩ := h
  refine ⟨by rw [decide_eq_false (by omega), decide_eq_false (by omega)]; rfl, fun h4 _ => ?_, fun h4 _ => ?_⟩
  · rw [txt_len]
    have hn : 0 < n := by omega
    have h5 : (x.length : Int) * n ≤ 1000000 := by
      have : ((x.length * n.toNat : Nat) : Int) ≤ ((1000000 : Nat) : Int) := Int.ofNat_le.mpr h1
      rw [Int.natCast_mul, Int.toNat_of_nonneg (by omega)] at this
      exact this
    have : (x.length : Int) ≤ (2 ^ 63 - 1) / n := by
      apply Int.le_ediv_of_mul_le hn
      omega
    omega
  · rw [txt_len]
    unfold Builtin.Str.tooLong
    rw [sizeLine_eq]
    exact decide_eq_false (by omega)
def mulT2 (_ : Sto) (x y : T) : Option T := match x, y with
  | .int i, .int j => if mulI i j = true then some (.int (i * j)) else none
  | .str a, .int n => if mulS a n = true then some (.str (repS n.toNat a)) else none
  | _, _ => none
section
variable {X : Cx}
theorem op_mulT2 : OpT X (binaryOp .Mult) mulT2 := by
  intro pins s σ H x y v u Q I rx ry h
  obtain ⟨M, S, tx, ty, t, o, hx, hy, e, fin⟩ := h
  unfold mulT2 at e
  split at e
  · rename_i i j
    split at e
    · rename_i hz
      obtain rfl := Option.some.inj e
      cases hx
      cases hy
      exact op_mulW pins s σ H _ _ v u Q I rx ry ⟨i, j, rfl, rfl, by unfold CMulW; exact of_decide_eq_true hz, fin _ H o Ext.refl (.int _)⟩
    · cases e
  · rename_i a n
    split at e
    · rename_i hz
      obtain rfl := Option.some.inj e
      cases hx
      cases hy
      obtain ⟨t1, rfl⟩ := rx
      obtain ⟨t2, rfl⟩ := ry
      refine SB.mul (mulS_ok hz) fun t' k => ⟨.str _, H, I.tok k, ⟨t', rfl⟩, ?_⟩
      rw [txt_mul]
      exact fin _ H o Ext.refl (.str _)
    · cases e
  · cases e

/-! ### numbers written -/
def strI (i : Int) : List Sg := q (Str.ofString (toString i))
theorem strI_signs (i : Int) : ∀ c ∈ (Str.ofString (toString i)).cps.toList, c < 128 := by
  intro c hc
  rw [signs_ofString] at hc
  obtain ⟨ch, h1, rfl⟩ := List.mem_map.mp hc
  have dig : ∀ n : Nat, ∀ ch ∈ (Nat.repr n).toList, ch.toNat < 128 := fun n ch h => by
    rw [Nat.toList_repr] at h
    have r := digit_range (Nat.isDigit_of_mem_toDigits (by decide) (by decide) h)
    omega
  cases i with
  | ofNat m => exact dig m ch h1
  | negSucc m =>
    have e : toString (Int.negSucc m) = "-" ++ Nat.repr (m + 1) := rfl
    rw [e, String.toList_append, List.mem_append] at h1
    rcases h1 with h1 | h1
    · have : ch = '-' := by simpa using h1
      subst this
      decide
    · exact dig _ ch h1
theorem q_txt {s : Str} (h : ∀ c ∈ s.cps.toList, c < 128) : txt (q s) = s := by
  have : (q s).map (·.val) = s.cps.toList := by
    unfold q
    rw [List.map_map]
    conv => rhs; rw [← List.map_id s.cps.toList]
    apply List.map_congr_left
    intro c hc
    show c % 128 = c
    exact Nat.mod_eq_of_lt (h c hc)
  show (⟨((q s).map (·.val)).toArray⟩ : Str) = s
  rw [this]
theorem txt_strI (i : Int) : txt (strI i) = Str.ofString (toString i) := q_txt (strI_signs i)
def strF (_ : Sto) : List T → Option T
  | [.int i] => if i.natAbs.log2 < 1000 then some (.str (strI i)) else none
  | _ => none
theorem fn_str : CallT X (.type "str") strF := by
  intro pins s σ H xs us Q I r h
  obtain ⟨M, S, ts, t, o, rs, e, fin⟩ := h
  unfold strF at e
  split at e
  · rename_i i
    split at e
    · obtain rfl := Option.some.inj e
      obtain ⟨v, rfl, ry⟩ := rs.one
      cases ry
      refine call_str_int pins s σ H _ us Q I r ⟨i, rfl, by omega, ?_⟩
      have := fin (.str (txt (strI i))) H o Ext.refl (.str _)
      rw [txt_strI] at this
      exact this
    · cases e
  · cases e

/-! ### text methods -/
/-- a method of a thing of the kind k, with its arguments -/
def MetT (X : Cx) (id : String) (f : Sto → T → List T → Option T) : Prop := MtR X id fun x xs H Q => ∃ M S tx ts t, StoOk (gdOf X M) H S ∧ Rep (gdOf X M) H S tx x ∧ Reps (gdOf X M) H S ts xs ∧ f S tx ts = some t ∧ ∀ v H', StoOk (gdOf X M) H' S → Ext S H S H' → Rep (gdOf X M) H' S t v → Q v H'
def cM (k : T → Bool) (f : Sto → T → List T → Option T) (o : TTE) (a : TTA) : TTE := fun τ S Q E => o τ S (fun x S1 => k x = true ∧ a τ S1 (fun ys S2 => ∃ t, f S2 x ys = some t ∧ Q t S2) E) E
def isStr : T → Bool
  | .str _ => true
  | _ => false
def isTup : T → Bool
  | .tup _ => true
  | _ => false
theorem isStr_is {t : T} (h : isStr t = true) : ∃ x, t = .str x := by cases t <;> first | exact ⟨_, rfl⟩ | cases h
theorem isTup_is {t : T} (h : isTup t = true) : ∃ x, t = .tup x := by cases t <;> first | exact ⟨_, rfl⟩ | cases h
variable {o e : Expr} {es : List Expr} {to te : TTE} {ta : TTA} {id : String} {name : Str} {apos cpos : Pos} {f : Sto → T → List T → Option T}
theorem te_sm0 (slot : Slot "str" name id) (ty : typeOf (.builtin id) = pure (.type "method_descriptor")) (hm : MetT X id f) (ho : TE X o to)
    (hbase : attributeBase o name X.env (eval o X.env) = eval o X.env := by rfl) (hline : (apos.endLine == cpos.line) = true := by rfl) : TE X (.Call (.Attribute o name apos) [] [] cpos) (cM isStr f to cNil) := fun M S0 H0 E tk =>
  (pe_m0 slot ty hm (ho M S0 H0 E tk) hbase hline).weak fun σ H Q ⟨τ, S, Qt, rel, h, k⟩ => ⟨τ, S, _, rel, h, fun zx S1 x H1 ⟨hk, t, e, hq⟩ o1 x1 r1 => by
    obtain ⟨y, rfl⟩ := isStr_is hk
    cases r1
    exact ⟨⟨_, rfl⟩, M, S1, _, [], t, o1, .str y, .nil, e, fun v H' o2 x2 r2 => k t S1 v H' hq o2 (x1.trans x2) r2⟩⟩
theorem te_sm1 (slot : Slot "str" name id) (ty : typeOf (.builtin id) = pure (.type "method_descriptor")) (hm : MetT X id f) (ho : TE X o to) (he : TE X e te)
    (hs : starEach [e] X.env = [(false, eval e X.env)] := by rfl) (hbase : attributeBase o name X.env (eval o X.env) = eval o X.env := by rfl) (hline : (apos.endLine == cpos.line) = true := by rfl) :
    TE X (.Call (.Attribute o name apos) [e] [] cpos) (cM isStr f to (cCons te cNil)) := fun M S0 H0 E tk =>
  (pe_m1 slot ty hm (ho M S0 H0 E tk) (he M S0 H0 E tk) hs hbase hline).weak fun σ H Q ⟨τ, S, Qt, rel, h, k⟩ => ⟨τ, S, _, rel, h, fun zx S1 x H1 ⟨hk, h1⟩ o1 x1 r1 => by
    obtain ⟨y, rfl⟩ := isStr_is hk
    cases r1
    refine ⟨⟨_, rfl⟩, τ, S1, _, rel.step o1 x1, h1, fun zy S2 w H2 ⟨t, e, hq⟩ o2 x2 r2 => ⟨M, S2, _, [zy], t, o2, .str y, .cons r2 .nil, e, fun v H' o3 x3 r3 => k t S2 v H' hq o3 ((x1.trans x2).trans x3) r3⟩⟩⟩
/-- a method of a written tuple, called by its name -/
theorem te_tm {x : Str} {p : Addr} {npos : Pos} {ts : List T} (slot : Slot "tuple" name id) (ty : typeOf (.builtin id) = pure (.type "method_descriptor")) (hm : MetT X id f) (hg : Gl X x) (hmx : X.mg x = some (.ref p)) (hst : ∃ ob, X.K.lookup p = some ob ∧ ob.cls = .type "tuple" ∧ ob.dict = none)
    (hr : ∀ M H S, Rep (gdOf X M) H S (.tup ts) (.ref p)) (ha : TA X (e :: es) ta) (hd : (x == ("__debug__" : Str)) = false := by decide)
    (hbase : attributeBase (.Name x npos) name X.env (eval (.Name x npos) X.env) = eval (.Name x npos) X.env := by rfl)
    (hfew : ((backTo cpos (starEach (e :: es) X.env)).all (fun x => !x.1) && (backToKw cpos (keywordEach [] X.env)).all (fun x => x.1.isSome) && decide ((e :: es).length + ([] : List Keyword).length + (if ([] : List Keyword).isEmpty then 0 else 1) < 30)) = true := by rfl)
    (hline : (apos.endLine == cpos.line) = true := by rfl) (hs : starEach (e :: es) X.env = (false, eval e X.env) :: starEach es X.env := by rfl) (hplain : (backTo cpos (starEach es X.env)).any (·.1) = false := by rfl) :
    TE X (.Call (.Attribute (.Name x npos) name apos) (e :: es) [] cpos) (cM isTup f (cC (.tup ts)) ta) := fun M S0 H0 E tk =>
  (pe_bm PySem.F.plainAttrs_tuple slot ty hm (pe_glob hg hmx (show RelV (.ref p) (.ref p) from rfl) hd) (ha M S0 H0 E tk) hbase hfew hline hs hplain).weak fun σ H Q ⟨τ, S, Qt, rel, ⟨_, h⟩, k⟩ => by
    refine ⟨.inr (.inl ⟨rfl, hst⟩), τ, S, _, rel, h, fun zs S2 vs H2 ⟨t, e, hq⟩ o2 x2 r2 => ⟨M, S2, _, zs, t, o2, hr _ _ _, r2, e, fun v H' o3 x3 r3 => k t S2 v H' hq o3 (x2.trans x3) r3⟩⟩
def strsOf : List T → Option (List (List Sg))
  | [] => some []
  | .str x :: ts => (strsOf ts).map (x :: ·)
  | _ :: _ => none
theorem strsOf_is : ∀ {ts : List T} {xs : List (List Sg)}, strsOf ts = some xs → ts = xs.map T.str
  | [], xs, e => by
    obtain rfl := Option.some.inj e
    rfl
  | t :: ts, xs, e => by
    cases t with
    | str x =>
      obtain ⟨ys, h1, rfl⟩ := Option.map_eq_some_iff.mp (show (strsOf ts).map (x :: ·) = some xs from e)
      rw [strsOf_is h1]
      rfl
    | _ => cases e
theorem strsOf_map (xs : List (List Sg)) : strsOf (xs.map T.str) = some xs := by
  induction xs with
  | nil => rfl
  | cons x xs ih =>
    show (strsOf (xs.map T.str)).map (x :: ·) = _
    rw [ih]
    rfl
theorem reps_strs {G : Gd} {H : Hp} {S : Sto} : ∀ {xs : List (List Sg)} {vs : List V}, Reps G H S (xs.map T.str) vs → vs = (xs.map txt).map V.str
  | [], _, r => by cases r; rfl
  | x :: xs, _, r => by
    cases r with
    | cons a b =>
      cases a
      rw [reps_strs b]
      rfl
/-- joined -/
def jnL (a : List Sg) : List (List Sg) → List Sg
  | [] => []
  | x :: xs => x ++ (xs.map (a ++ ·)).flatten
theorem txt_join (a : List Sg) (xs : List (List Sg)) : Txt.join (txt a) (xs.map txt) = txt (jnL a xs) := by
  unfold Txt.join Builtin.Str.glued
  cases xs with
  | nil => rfl
  | cons x xs =>
    have h : ∀ (xs : List (List Sg)) (acc : Array Nat), (xs.map txt).foldl (fun acc p => acc ++ (txt a).cps ++ p.cps) acc = acc ++ (txt (xs.map (a ++ ·)).flatten).cps := by
      intro xs
      induction xs with
      | nil => intro acc; simp [txt]
      | cons y ys ih =>
        intro acc
        rw [List.map_cons, List.foldl_cons, ih]
        simp [txt]
    show (⟨(xs.map txt).foldl (fun acc p => acc ++ (txt a).cps ++ p.cps) (txt x).cps⟩ : Str) = _
    rw [h]
    simp [txt, jnL]
def joinSz (a : List Sg) (xs : List (List Sg)) : Bool := decide ((xs.map (·.length)).sum + xs.length * a.length ≤ 1000000)
def joinF (S : Sto) (o : T) (ys : List T) : Option T := match o, ys with
  | .str a, [y] => match res S y with
    | .lst ts => match strsOf ts with
      | some xs => if joinSz a xs = true then some (.str (jnL a xs)) else none
      | none => none
    | .tup ts => match strsOf ts with
      | some xs => if joinSz a xs = true then some (.str (jnL a xs)) else none
      | none => none
    | _ => none
  | _, _ => none
theorem mt_joinT : MetT X "str.join" joinF := by
  intro pins s σ H x xs v us Q I rx rs h
  obtain ⟨M, S, tx, ts, t, o, hx, hs, e, fin⟩ := h
  unfold joinF at e
  split at e
  · rename_i a y
    cases hx
    obtain ⟨w, rfl, ry⟩ := hs.one
    have key : ∀ {xs : List (List Sg)} {p : Addr}, joinSz a xs = true → (SqL X.K H p ((xs.map txt).map V.str) ∨ SqT X.K H p ((xs.map txt).map V.str)) → w = .ref p → t = .str (jnL a xs) → wpAny (model X.prog X.w) X.A (call (.builtin "str.join") (v :: us)) (EP X pins σ Q) X.xe s := by
      intro xs p hz hp hw ht
      subst hw ht
      refine mt_join pins s σ H _ _ v us Q I rx rs ⟨txt a, p, xs.map txt, rfl, rfl, hp, ?_, ?_⟩
      · have h1 := of_decide_eq_true hz
        have e1 : ((xs.map txt).map (·.length)).sum = (xs.map (·.length)).sum := by
          rw [List.map_map]
          congr 1
          apply List.map_congr_left
          intro x _
          exact txt_len x
        rw [e1, List.length_map, txt_len]
        omega
      · rw [txt_join]
        exact fin _ H o Ext.refl (.str _)
    split at e
    · rename_i zs hz
      split at e
      · rename_i xs hx
        split at e
        · rename_i hj
          obtain rfl := Option.some.inj e
          obtain ⟨p, ws, rfl, h1, h2⟩ := res_lst o ry hz
          have := strsOf_is hx
          subst this
          have := reps_strs h2
          subst this
          exact key hj (.inl (SqL.of h1)) rfl rfl
        · cases e
      · cases e
    · rename_i zs hz
      split at e
      · rename_i xs hx
        split at e
        · rename_i hj
          obtain rfl := Option.some.inj e
          obtain rfl := res_id hz fun _ z => nomatch z
          cases ry with
          | tup h1 h2 =>
            have := strsOf_is hx
            subst this
            have := reps_strs h2
            subst this
            exact key hj (.inr h1.sq) rfl rfl
        · cases e
      · cases e
    · cases e
  · cases e
def sixF (_ : Sto) (o : T) (ys : List T) : Option T := match o, ys with
  | .str a, [.str b] => match Builtin.Str.occurrences (txt a) (txt b) 0 (txt a).length 1 with
    | i :: _ => some (.int (i : Nat))
    | [] => none
  | _, _ => none
theorem mt_sixT : MetT X "str.index" sixF := by
  intro pins s σ H x xs v us Q I rx rs h
  obtain ⟨M, S, tx, ts, t, o, hx, hs, e, fin⟩ := h
  unfold sixF at e
  split at e
  · rename_i a b
    cases hx
    obtain ⟨w, rfl, ry⟩ := hs.one
    cases ry
    split at e
    · rename_i i rest hi
      obtain rfl := Option.some.inj e
      exact mt_sindex pins s σ H _ _ v us Q I rx rs ⟨_, _, i, rest, rfl, rfl, hi, fin _ H o Ext.refl (.int _)⟩
    · cases e
  · cases e
/-- the first place of z -/
def plc (z : List Sg) : List (List Sg) → Option Nat
  | [] => none
  | x :: xs => if x = z then some 0 else (plc z xs).map (· + 1)
theorem plc_at {z : List Sg} : ∀ {xs : List (List Sg)} {j : Nat}, plc z xs = some j → xs[j]? = some z ∧ ∀ m, m < j → xs[m]? ≠ some z
  | [], _, e => by cases e
  | x :: xs, j, e => by
    unfold plc at e
    split at e
    · rename_i h
      obtain rfl := Option.some.inj e
      subst h
      exact ⟨rfl, fun m h => by omega⟩
    · rename_i h
      obtain ⟨i, h1, rfl⟩ := Option.map_eq_some_iff.mp e
      obtain ⟨a, b⟩ := plc_at h1
      refine ⟨by simpa using a, fun m hm => ?_⟩
      cases m with
      | zero => simp; exact h
      | succ m => simpa using b m (by omega)
def tixF (_ : Sto) (o : T) (ys : List T) : Option T := match o, ys with
  | .tup ts, [.str z] => match strsOf ts with
    | some xs => (plc z xs).map fun j => .int (j : Nat)
    | none => none
  | _, _ => none
theorem mt_tixT : MetT X "tuple.index" tixF := by
  intro pins s σ H x xs v us Q I rx rs h
  obtain ⟨M, S, tx, ts, t, o, hx, hs, e, fin⟩ := h
  unfold tixF at e
  split at e
  · rename_i zs z
    obtain ⟨w, rfl, ry⟩ := hs.one
    cases ry
    split at e
    · rename_i ys hy
      obtain ⟨j, hj, rfl⟩ := Option.map_eq_some_iff.mp e
      have := strsOf_is hy
      subst this
      cases hx with
      | tup a b =>
        have := reps_strs b
        subst this
        obtain ⟨p1, p2⟩ := plc_at hj
        refine mt_tup_index pins s σ H _ _ v us Q I rx rs ⟨_, ys.map txt, txt z, j, rfl, rfl, a.sq, by rw [List.getElem?_map, p1]; rfl, fun m hm e => ?_, fin _ H o Ext.refl (.int _)⟩
        rw [List.getElem?_map] at e
        cases q : ys[m]? with
        | none => rw [q] at e; cases e
        | some y =>
          rw [q] at e
          have := txt_inj (Option.some.inj e)
          subst this
          exact p2 m hm q
    · cases e
  · cases e

/-! ### chained comparisons -/
def cChain (f g : Sto → T → T → Option T) (a b c : TTE) : TTE := fun τ S Q E => a τ S (fun x S1 => b τ S1 (fun y S2 => ∃ k, f S2 x y = some (.bl k) ∧ if k = true then c τ S2 (fun z S3 => ∃ w, g S3 y z = some w ∧ Q w S3) E else Q (.bl false) S2) E) E
variable {a b c : Expr} {tb tc : TTE} {pos : Pos}
theorem chain_read {M : Addr → Prop} {S0 : Sto} {H0 : Hp} {E : T → TEnv → Sto → Prop} {f g : Sto → T → T → Option T} {σ : L2.St} {H : Hp} {Q : VK} {ta : TTE} (h : LE X M S0 H0 (cChain f g ta tb tc) E σ H Q) :
    tChain (fun x y H Q => ∃ M S tx ty t, StoOk (gdOf X M) H S ∧ Rep (gdOf X M) H S tx x ∧ Rep (gdOf X M) H S ty y ∧ f S tx ty = some t ∧ ∀ v H', StoOk (gdOf X M) H' S → Ext S H S H' → Rep (gdOf X M) H' S t v → Q v H')
      (fun x y H Q => ∃ M S tx ty t, StoOk (gdOf X M) H S ∧ Rep (gdOf X M) H S tx x ∧ Rep (gdOf X M) H S ty y ∧ g S tx ty = some t ∧ ∀ v H', StoOk (gdOf X M) H' S → Ext S H S H' → Rep (gdOf X M) H' S t v → Q v H')
      (LE X M S0 H0 ta E) (LE X M S0 H0 tb E) (LE X M S0 H0 tc E) σ H Q := by
  obtain ⟨τ, S, Qt, rel, h, k⟩ := h
  refine ⟨τ, S, _, rel, h, fun zx S1 x H1 hb o1 x1 r1 => ⟨τ, S1, _, rel.step o1 x1, hb, fun zy S2 y H2 ⟨bb, e, hz⟩ o2 x2 r2 => ⟨M, S2, zx, zy, _, o2, Rep.ext x2 _ _ r1, r2, e, fun v H' o3 x3 r3 => ?_⟩⟩⟩
  cases r3
  refine ⟨bb, rfl, ?_⟩
  cases bb with
  | false => exact k _ S2 _ H' hz o3 ((x1.trans x2).trans x3) (.bl _)
  | true =>
    rw [if_pos rfl] at hz ⊢
    exact ⟨τ, S2, _, ((rel.step o1 x1).step o2 x2).step o3 x3, hz, fun zz S4 w H4 ⟨wt, e4, hq⟩ o4 x4 r4 => ⟨M, S4, zy, zz, wt, o4, Rep.ext (x3.trans x4) _ _ r2, r4, e4, fun v H' o5 x5 r5 => k wt S4 v H' hq o5 ((((x1.trans x2).trans x3).trans x4).trans x5) r5⟩⟩
theorem te_chain {op op' : CmpOp} {f g : Sto → T → T → Option T} {ta : TTE} (ho : OpT X (compareOp op) f) (ho' : OpT X (compareOp op') g) (ha : TE X a ta) (hb : TE X b tb) (hc : TE X c tc) (hm : lastMarks [op, op'] [b, c] = false := by with_unfolding_all rfl) :
    TE X (.Compare a [op, op'] [b, c] pos) (cChain f g ta tb tc) := fun M S0 H0 E tk =>
  (pe_chain ho ho' (ha M S0 H0 E tk) (hb M S0 H0 E tk) (hc M S0 H0 E tk) hm).weak fun σ H Q h => chain_read h
theorem tb_chain {op op' : CmpOp} {f g : Sto → T → T → Option T} {ta : TTE} (ho : OpT X (compareOp op) f) (ho' : OpT X (compareOp op') g) (ha : TE X a ta) (hb : TE X b tb) (hc : TE X c tc) (hm : lastMarks [op, op'] [b, c] = false := by with_unfolding_all rfl) :
    TB X (.Compare a [op, op'] [b, c] pos) (bVal (cChain f g ta tb tc)) := fun M S0 H0 E tk =>
  (pt_chain ho ho' (ha M S0 H0 E tk) (hb M S0 H0 E tk) (hc M S0 H0 E tk) hm).weak fun σ H Q ⟨τ, S, Qt, rel, h, k⟩ => chain_read (S0 := S0) (H0 := H0) ⟨τ, S, _, rel, h, fun zx S1 x H1 ⟨b, e, hq⟩ o1 x1 r1 => by
    subst e
    cases r1
    exact ⟨b, rfl, k b S1 H1 hq o1 x1⟩⟩

/-! ### the module's names -/
theorem te_glob {x : Str} {t : T} {v : V} {u : Value} (hg : Gl X x) (hm : X.mg x = some u) (r : RelV v u) (ht : ∀ M H S, Rep (gdOf X M) H S t v) (hd : (x == ("__debug__" : Str)) = false := by decide) : TE X (.Name x pos) (cC t) := te_const (pe_glob hg hm r hd) ht
end
end TL

/-! TLl: defs by their names, the module's constants, specs. -/
namespace TL
open PySem PySem.Spec PyProof.Rows L2

/-- a def of the module by its name keeps its promise -/
def Okf (P : Program) (w : World) (K : PySem.W.Frag) (mg : Str → Option Value) (base : Heap) (k : Nat) (x : Str) (ps : List Str) (sp : SpT) : Prop :=
  ∃ fd, FnOk P w K mg base (L2.CX P w) k (He.ga K x) fd ps (liftSp P K w sp) ∧ mg x = some (.ref (He.ga K x)) ∧ PySem.W.keepIn K (.ref (He.ga K x)) = true ∧ Binds K fd ps []
section
variable {X : Cx} {j k : Nat} {ps : List Str} {sp : SpT} {x : Str} {p pos : Pos} {e : Expr} {es : List Expr} {ta : TTA}
theorem te_callO (F : Okf X.prog X.w X.K X.mg X.base k x ps sp) (hr : Room j X.A) (hkj : k ≤ j) (hg : Gl X x) (ha : TA X (e :: es) ta) (hdb : (x == ("__debug__" : Str)) = false := by decide)
    (he : starEach (e :: es) X.env = (false, eval e X.env) :: starEach es X.env := by rfl) (hpl : (backTo pos (starEach es X.env)).any (·.1) = false := by rfl) : TE X (.Call (.Name x p) (e :: es) [] pos) (cCall sp ta) := by
  obtain ⟨fd, h1, h2, h3, h4⟩ := F
  exact te_call h1 (hr.mono hkj) hg h2 h3 h4 ha hdb he hpl
end
theorem u64 {k : Nat} {A : Around} (r : Room k A) : A.units + 64 < cLine := r.units
theorem u65 {k : Nat} {A : Around} (r : Room k A) : A.units + 65 < cLine := by have := r.un; omega
theorem u70 {k : Nat} {A : Around} (r : Room k A) : A.units + 70 < cLine := by have := r.un; omega

/-! ### the module's constants -/
theorem stT_of {K : PySem.W.Frag} {x : Str} {vs : List He.Dv} (h : He.tupB K x vs = true) : StT K (He.ga K x) (vs.map (He.Dv.v K)) :=
  (He.tupB_ok h (fun _ => none)).resolve_left (by rintro (h | ⟨_, h⟩) <;> cases h)
def noDic (K : PySem.W.Frag) (x : Str) : Bool := match K.lookup (He.ga K x) with
  | some ⟨.type c, none, _, _⟩ => decide (c = "tuple")
  | _ => false
theorem noDic_ok {K : PySem.W.Frag} {x : Str} (h : noDic K x = true) : ∃ ob, K.lookup (He.ga K x) = some ob ∧ ob.cls = .type "tuple" ∧ ob.dict = none := by
  unfold noDic at h
  split at h
  · rename_i q
    exact ⟨_, q, congrArg Value.type (of_decide_eq_true h), rfl⟩
  · cases h
def lits (xs : List Str) : Bool := xs.all fun x => x.cps.toList.all fun c => decide (c < 128)
theorem reps_lits {G : Gd} {H : Hp} {S : Sto} : ∀ {xs : List Str}, lits xs = true → Reps G H S (xs.map fun x => .str (q x)) ((xs.map He.Dv.str).map (He.Dv.v G.K))
  | [], _ => .nil
  | x :: xs, h => by
    simp only [lits, List.all_cons, Bool.and_eq_true] at h
    refine .cons ?_ (reps_lits (xs := xs) (by simpa only [lits] using h.2))
    have e : txt (q x) = x := q_txt fun c hc => of_decide_eq_true (List.all_eq_true.mp h.1 c hc)
    show Rep G H S (.str (q x)) (.str x)
    have := Rep.str (G := G) (H := H) (S := S) (q x)
    rw [e] at this
    exact this
theorem rep_texts {K : PySem.W.Frag} {x : Str} {xs : List Str} (h : He.tupB K x (xs.map He.Dv.str) = true) (hl : lits xs = true) : ∀ (G : Gd) (H : Hp) (S : Sto), G.K = K → Rep G H S (.tup (xs.map fun x => .str (q x))) (.ref (He.ga K x)) := fun G H S e => by
  subst e
  exact .tup (.inr (stT_of h)) (reps_lits hl)

/-! ### specs -/
def sp1 (p : T → Sto → (T → Sto → Prop) → (T → Sto → Prop) → Prop) : SpT := fun ts S Q E => ∃ a, ts = [a] ∧ p a S Q E
def sp2 (p : T → T → Sto → (T → Sto → Prop) → (T → Sto → Prop) → Prop) : SpT := fun ts S Q E => ∃ a b, ts = [a, b] ∧ p a b S Q E
def sp3 (p : T → T → T → Sto → (T → Sto → Prop) → (T → Sto → Prop) → Prop) : SpT := fun ts S Q E => ∃ a b c, ts = [a, b, c] ∧ p a b c S Q E
def sp4 (p : T → T → T → T → Sto → (T → Sto → Prop) → (T → Sto → Prop) → Prop) : SpT := fun ts S Q E => ∃ a b c d, ts = [a, b, c, d] ∧ p a b c d S Q E
def sp5 (p : T → T → T → T → T → Sto → (T → Sto → Prop) → (T → Sto → Prop) → Prop) : SpT := fun ts S Q E => ∃ a b c d e, ts = [a, b, c, d, e] ∧ p a b c d e S Q E
theorem te_globR {X : Cx} {x : Str} {t : T} {p : Addr} {pos : Pos} (hg : Gl X x) (hm : X.mg x = some (.ref p)) (ht : ∀ M H S, Rep (gdOf X M) H S t (.ref p)) (hd : (x == ("__debug__" : Str)) = false := by decide) : TE X (.Name x pos) (cC t) :=
  te_glob hg hm (show RelV (.ref p) (.ref p) from rfl) ht hd
/-- what is to be shown of a def's tree -/
def VC (N : List Str) (sp : SpT) (c : TTS) : Prop := ∀ ts S Q E, sp ts S Q E → c { nx := fun _ S' => Fin Q .non S', rt := Fin Q } (startT N ts) S (fun x _ S' => FinX E x S')
end TL

/-! TLm: what the operations give, as rows to rewrite by; pens and draws. -/
namespace TL
open PySem PySem.Spec PyProof.Rows L2

section
variable {S : Sto} {i j : Int} {x y : List Sg} {xs ys ts : List T} {a b : T} {p : Addr}
theorem ex_ite {α : Type} {c : Prop} [Decidable c] {v : α} {P : α → Prop} : (∃ z, (if c then some v else none) = some z ∧ P z) ↔ c ∧ P v := by
  constructor
  · rintro ⟨z, e, h⟩
    split at e
    · cases e; exact ⟨by assumption, h⟩
    · cases e
  · rintro ⟨h1, h2⟩
    exact ⟨v, if_pos h1, h2⟩
theorem addT_int : addT S (.int i) (.int j) = some (.int (i + j)) := rfl
theorem addT_str : addT S (.str x) (.str y) = if x.length + y.length ≤ sizeLine then some (.str (x ++ y)) else none := rfl
theorem addT_lst : addT S (.lst xs) (.lst ys) = if xs.length + ys.length ≤ sizeLine then some (.lst (xs ++ ys)) else none := rfl
theorem addT_tup : addT S (.tup xs) (.tup ys) = if xs.length + ys.length ≤ sizeLine then some (.tup (xs ++ ys)) else none := rfl
theorem subT_int : subT S (.int i) (.int j) = some (.int (i - j)) := rfl
theorem mulT2_int : mulT2 S (.int i) (.int j) = if mulI i j = true then some (.int (i * j)) else none := rfl
theorem mulT2_str : mulT2 S (.str x) (.int j) = if mulS x j = true then some (.str (repS j.toNat x)) else none := rfl
theorem fdivT_int : fdivT S (.int i) (.int j) = if divI i j = true then some (.int (i.fdiv j)) else none := rfl
theorem modT_int : modT S (.int i) (.int j) = if modI i j = true then some (.int (i.fmod j)) else none := rfl
theorem powT_int : powT S (.int i) (.int j) = if powI i j = true then some (.int (i ^ j.toNat)) else none := rfl
theorem negT_int : negT S (.int i) = some (.int (-i)) := rfl
theorem okd_int : okd (.int i) = true := rfl
theorem okd_str : okd (.str x) = true := rfl
theorem okd_bl {k : Bool} : okd (.bl k) = true := rfl
theorem okd_non : okd .non = true := rfl
theorem eqT_int : eqT S (.int i) (.int j) = some (.bl (decide (i = j))) := rfl
theorem neT_int : neT S (.int i) (.int j) = some (.bl (!decide (i = j))) := rfl
theorem eqT_str : eqT S (.str x) (.str y) = some (.bl (decide (x = y))) := rfl
theorem neT_str : neT S (.str x) (.str y) = some (.bl (!decide (x = y))) := rfl
theorem eqT_bl {k l : Bool} : eqT S (.bl k) (.bl l) = some (.bl (k == l)) := rfl
theorem neT_bl {k l : Bool} : neT S (.bl k) (.bl l) = some (.bl (!(k == l))) := rfl
theorem ltT_int : ltT S (.int i) (.int j) = some (.bl (decide (i < j))) := by simp [ltT, cmpOk, okd, plain, dep, alk, ltt]
theorem gtT_int : gtT S (.int i) (.int j) = some (.bl (decide (j < i))) := by simp [gtT, cmpOk, okd, plain, dep, alk, ltt]
theorem leT_int : leT S (.int i) (.int j) = some (.bl (decide (i ≤ j))) := by
  simp only [leT, cmpOk, okd, plain, dep, alk, ltt, Bool.and_true, Nat.zero_le, decide_true, if_true, Option.some.injEq, T.bl.injEq]
  by_cases h : i ≤ j
  · rw [decide_eq_true h, decide_eq_false (by omega)]; rfl
  · rw [decide_eq_false h, decide_eq_true (by omega)]; rfl
theorem geT_int : geT S (.int i) (.int j) = some (.bl (decide (j ≤ i))) := by
  simp only [geT, cmpOk, okd, plain, dep, alk, ltt, Bool.and_true, Nat.zero_le, decide_true, if_true, Option.some.injEq, T.bl.injEq]
  by_cases h : j ≤ i
  · rw [decide_eq_true h, decide_eq_false (by omega)]; rfl
  · rw [decide_eq_false h, decide_eq_true (by omega)]; rfl
theorem ixT_lst : ixT S (.lst xs) (.int i) = L2.atI xs i := rfl
theorem ixT_tup : ixT S (.tup xs) (.int i) = L2.atI xs i := rfl
theorem ixT_str : ixT S (.str x) (.int i) = if x.length ≤ sizeLine then (L2.atI x i).map fun c => .str [c] else none := rfl
theorem res_ref {ts : List T} (h : S p = some (.lst ts)) : res S (.ref p) = .lst ts := by simp only [res, h]
theorem ixT_ref (h : S p = some (.lst xs)) : ixT S (.ref p) (.int i) = L2.atI xs i := by simp only [ixT, res_ref h]
theorem atI_natE {α : Type} {xs : List α} {n : Nat} : L2.atI xs (n : Int) = xs[n]? := by
  unfold L2.atI ixN
  by_cases h : n < xs.length
  · have : ((n : Int) < (xs.length : Int)) := by omega
    simp [h, this]
  · have h2 : ¬ ((n : Int) < (xs.length : Int)) := by omega
    simp [h, h2]
theorem atI_0 {α : Type} {u : α} {xs : List α} : L2.atI (u :: xs) 0 = some u := atI_natE (n := 0)
theorem atI_1 {α : Type} {u v : α} {xs : List α} : L2.atI (u :: v :: xs) 1 = some v := atI_natE (n := 1)
theorem atI_2 {α : Type} {u v w : α} {xs : List α} : L2.atI (u :: v :: w :: xs) 2 = some w := atI_natE (n := 2)
theorem atI_3 {α : Type} {u v w z : α} {xs : List α} : L2.atI (u :: v :: w :: z :: xs) 3 = some z := atI_natE (n := 3)
theorem ixN_nat {m n : Nat} (h : n < m) : ixN m (n : Int) = some n := by
  unfold ixN
  have : ((n : Int) < (m : Int)) := by omega
  simp [this, h]
theorem ixT_ups {i : Int} : ixT (ups S p (.lst xs)) (.ref p) (.int i) = L2.atI xs i := ixT_ref ups_same
theorem atI_ok {α : Type} {us : List α} {i : Int} (h0 : 0 ≤ i) (h1 : i < us.length) : ∃ y, y ∈ us ∧ L2.atI us i = some y := by
  obtain ⟨n, rfl⟩ := Int.eq_ofNat_of_zero_le h0
  have : n < us.length := by omega
  exact ⟨us[n], List.getElem_mem _, by rw [atI_natE, List.getElem?_eq_getElem this]⟩
theorem atI_strs {us : List (List Sg)} {i : Int} (h0 : 0 ≤ i) (h1 : i < us.length) : L2.atI (us.map T.str) i = some (.str (us.getD i.toNat [])) := by
  obtain ⟨n, rfl⟩ := Int.eq_ofNat_of_zero_le h0
  have h : n < us.length := by omega
  rw [atI_natE, List.getElem?_map, Int.toNat_natCast, List.getElem?_eq_getElem h, List.getD_eq_getElem?_getD, List.getElem?_eq_getElem h]
  rfl
theorem ixN_30 : ixN 3 0 = some 0 := rfl
theorem ixN_31 : ixN 3 1 = some 1 := rfl
theorem ixN_32 : ixN 3 2 = some 2 := rfl
theorem lenF_lst : lenF S [.lst xs] = some (.int xs.length) := rfl
theorem lenF_tup : lenF S [.tup xs] = some (.int xs.length) := rfl
theorem lenF_str : lenF S [.str x] = if x.length ≤ sizeLine then some (.int x.length) else none := rfl
theorem lenF_ref (h : S p = some (.lst xs)) : lenF S [.ref p] = some (.int xs.length) := by simp only [lenF, res_ref h]
theorem lenF_ups : lenF (ups S p (.lst xs)) [.ref p] = some (.int xs.length) := lenF_ref ups_same
theorem absF_int : absF S [.int i] = some (.int (if i < 0 then -i else i)) := rfl
theorem intF_int : intF S [.int i] = some (.int i) := rfl
theorem intF_bl {k : Bool} : intF S [.bl k] = some (.int (if k = true then 1 else 0)) := rfl
theorem max2F_int : max2F S [.int i, .int j] = some (.int (if j > i then j else i)) := rfl
theorem min2F_int : min2F S [.int i, .int j] = some (.int (if j < i then j else i)) := rfl
theorem strF_int : strF S [.int i] = if i.natAbs.log2 < 1000 then some (.str (strI i)) else none := rfl
theorem isi_str {ks : List Kd} : isiT ks S (.str x) = some (.bl (ks.any fun c => Kd.is .str c)) := rfl
theorem isi_int {ks : List Kd} : isiT ks S (.int i) = some (.bl (ks.any fun c => Kd.is .int c)) := rfl
theorem isi_tup {ks : List Kd} : isiT ks S (.tup xs) = some (.bl (ks.any fun c => Kd.is .tup c)) := rfl
theorem isi_lst {ks : List Kd} : isiT ks S (.lst xs) = some (.bl (ks.any fun c => Kd.is .lst c)) := rfl
theorem slT_lst {lo hi : Option Int} : slT S (.lst xs) lo hi = some (.lst (cutT xs lo hi)) := rfl
theorem slT_tup {lo hi : Option Int} : slT S (.tup xs) lo hi = some (.tup (cutT xs lo hi)) := rfl
theorem slT_str {lo hi : Option Int} : slT S (.str x) lo hi = if x.length ≤ sizeLine then some (.str (cutT x lo hi)) else none := rfl
theorem slT_scr {ns : List Int} {lo hi : Option Int} : slT S (.scr ns) lo hi = some (.lst ((cutT ns lo hi).map T.int)) := rfl
theorem ups_ups {c d : Cell} : ups (ups S p c) p d = ups S p d := by
  funext b
  unfold ups
  split <;> rfl
theorem ups_eq {c : Cell} (h : S p = some c) : ups S p c = S := by
  funext b
  unfold ups
  split
  · rename_i e; subst e; exact h.symm
  · rfl
end

/-! ### specs at their arguments -/
theorem sp1_at {p : T → Sto → (T → Sto → Prop) → (T → Sto → Prop) → Prop} {a : T} {S : Sto} {Q E : T → Sto → Prop} : sp1 p [a] S Q E = p a S Q E := by
  apply propext
  exact ⟨fun ⟨x, e, h⟩ => by cases e; exact h, fun h => ⟨_, rfl, h⟩⟩
theorem sp2_at {p : T → T → Sto → (T → Sto → Prop) → (T → Sto → Prop) → Prop} {a b : T} {S : Sto} {Q E : T → Sto → Prop} : sp2 p [a, b] S Q E = p a b S Q E := by
  apply propext
  exact ⟨fun ⟨x, y, e, h⟩ => by cases e; exact h, fun h => ⟨_, _, rfl, h⟩⟩
theorem sp3_at {p : T → T → T → Sto → (T → Sto → Prop) → (T → Sto → Prop) → Prop} {a b c : T} {S : Sto} {Q E : T → Sto → Prop} : sp3 p [a, b, c] S Q E = p a b c S Q E := by
  apply propext
  exact ⟨fun ⟨x, y, z, e, h⟩ => by cases e; exact h, fun h => ⟨_, _, _, rfl, h⟩⟩
theorem sp4_at {p : T → T → T → T → Sto → (T → Sto → Prop) → (T → Sto → Prop) → Prop} {a b c d : T} {S : Sto} {Q E : T → Sto → Prop} : sp4 p [a, b, c, d] S Q E = p a b c d S Q E := by
  apply propext
  exact ⟨fun ⟨x, y, z, w, e, h⟩ => by cases e; exact h, fun h => ⟨_, _, _, _, rfl, h⟩⟩
theorem sp5_at {p : T → T → T → T → T → Sto → (T → Sto → Prop) → (T → Sto → Prop) → Prop} {a b c d e : T} {S : Sto} {Q E : T → Sto → Prop} : sp5 p [a, b, c, d, e] S Q E = p a b c d e S Q E := by
  apply propext
  exact ⟨fun ⟨x, y, z, w, u, e, h⟩ => by cases e; exact h, fun h => ⟨_, _, _, _, _, rfl, h⟩⟩

/-! ### lengths -/
theorem log2_lt {n k : Nat} (h : n < 2 ^ k) (hk : 0 < k) : n.log2 < k := by
  by_cases h0 : n = 0
  · subst h0; simpa using hk
  · exact (Nat.log2_lt h0).mpr h
theorem strI_len {i : Int} {k : Nat} (h0 : 0 ≤ i) (hk : 1 ≤ k) (h : i < ((10 ^ k : Nat) : Int)) : (strI i).length ≤ k := by
  obtain ⟨n, rfl⟩ := Int.eq_ofNat_of_zero_le h0
  have e := txt_strI (n : Int)
  have l := txt_len (strI (n : Int))
  rw [e] at l
  rw [← l]
  have e2 : Str.ofString (toString (Int.ofNat n)) = ⟨((Nat.toDigits 10 n).map Char.toNat).toArray⟩ := text_ofNat n
  show (Str.ofString (toString (Int.ofNat n))).length ≤ k
  rw [e2]
  show ((Nat.toDigits 10 n).map Char.toNat).toArray.size ≤ k
  rw [List.size_toArray, List.length_map]
  exact digits10_le hk (by omega)
theorem lg_small {i : Int} (h0 : 0 ≤ i) (h : i < 1000000000) : i.natAbs.log2 < 1000 := by
  have := log2_lt (n := i.natAbs) (k := 40) (by omega) (by decide)
  omega
/-! ### slices -/
theorem cut_nn {α : Type} (xs : List α) : cutT xs none none = xs := by
  unfold cutT
  simp [HT.sIx_none]
theorem cut_to {α : Type} (xs : List α) (k : Nat) : cutT xs none (some (k : Int)) = xs.take k := by
  unfold cutT
  rw [HT.sIx_none, HT.sIx_nat, List.drop_zero, Nat.sub_zero]
  by_cases h : k ≤ xs.length
  · rw [Nat.min_eq_left h]
  · rw [Nat.min_eq_right (by omega), List.take_of_length_le (by omega), List.take_of_length_le (by omega)]
theorem cut_from {α : Type} (xs : List α) (k : Nat) : cutT xs (some (k : Int)) none = xs.drop k := by
  unfold cutT
  rw [HT.sIx_none, HT.sIx_nat]
  by_cases h : k ≤ xs.length
  · rw [Nat.min_eq_left h, List.take_of_length_le (by simp)]
  · rw [Nat.min_eq_right (by omega), Nat.sub_self, List.take_zero, List.drop_of_length_le (by omega)]
theorem cut_mid {α : Type} (xs : List α) (j k : Nat) : cutT xs (some (j : Int)) (some (k : Int)) = (xs.drop j).take (k - j) := by
  unfold cutT
  rw [HT.sIx_nat, HT.sIx_nat]
  by_cases h : j ≤ xs.length
  · rw [Nat.min_eq_left h]
    by_cases h2 : k ≤ xs.length
    · rw [Nat.min_eq_left h2]
    · rw [Nat.min_eq_right (by omega), List.take_of_length_le (by simp), List.take_of_length_le (by simp; omega)]
  · have e : min j xs.length = xs.length := by omega
    rw [e, List.drop_of_length_le (Nat.le_refl _), List.drop_of_length_le (by omega)]
    simp
theorem cut_le {α : Type} (xs : List α) (lo : Option Int) (k : Int) (hk : 0 ≤ k) : (cutT xs lo (some k)).length ≤ k.toNat := by
  obtain ⟨n, rfl⟩ := Int.eq_ofNat_of_zero_le hk
  unfold cutT
  rw [HT.sIx_nat, List.length_take, Int.toNat_natCast]
  omega
/-! ### statements in a row -/
theorem seq_assoc {a b u : TTS} : cSeq a (cSeq b u) = cSeq (cSeq a b) u := rfl
theorem seq_cut {t u : TTS} {D : TD} {τ : TEnv} {S : Sto} {E : T → TEnv → Sto → Prop} (P : TEnv → Sto → Prop) (h1 : ∀ N : TEnv → Sto → Prop, (∀ τ' S', P τ' S' → N τ' S') → t { D with nx := N } τ S E) (h2 : ∀ τ' S', P τ' S' → u D τ' S' E) : cSeq t u D τ S E := h1 _ h2
/-! ### loops by an invariant -/
theorem forT_inv {g : TTG} {b : TTS} {gd : Sto → Prop} {D : TD} {E : T → TEnv → Sto → Prop} (I : List T → TEnv → Sto → Prop) (hgd : ∀ xs τ S, I xs τ S → gd S) (hfin : ∀ τ S, I [] τ S → D.nx τ S)
    (hstep : ∀ x xs τ S, I (x :: xs) τ S → ∀ N : TEnv → Sto → Prop, (∀ τ' S', I xs τ' S' → N τ' S') → g x τ S fun τ1 S1 => b { D with nx := N, ct := N, bk := D.nx } τ1 S1 E) : ∀ xs τ S, I xs τ S → forT g b gd D E xs τ S
  | [], τ, S, h => ⟨hgd _ _ _ h, hfin _ _ h⟩
  | x :: xs, τ, S, h => ⟨hgd _ _ _ h, hstep x xs τ S h _ fun τ' S' h' => forT_inv I hgd hfin hstep xs τ' S' h'⟩
theorem compT_inv {g : TTG} {c : TTB} {e : TTE} {own : List Nat} {gd : Sto → Prop} {τ : TEnv} {K : List T → Sto → Prop} (I : List T → List T → Sto → Prop) (hgd : ∀ xs acc S, I xs acc S → gd S) (hz : ∀ x xs acc S, I (x :: xs) acc S → acc.length < sizeLine) (hfin : ∀ acc S, I [] acc S → K acc S)
    (hstep : ∀ x xs acc S, I (x :: xs) acc S → ∀ (R : T → Sto → Prop) (N : Sto → Prop), (∀ y S', I xs (acc ++ [y]) S' → R y S') → (∀ S', I xs acc S' → N S') →
      g x (wipeT τ own) S fun τ1 S1 => c τ1 S1 (fun k S2 => if k = true then e τ1 S2 R (fun _ _ => False) else N S2) (fun _ _ => False)) : ∀ xs acc S, I xs acc S → compT g c e own gd τ K xs acc S
  | [], acc, S, h => ⟨hgd _ _ _ h, hfin _ _ h⟩
  | x :: xs, acc, S, h => ⟨hgd _ _ _ h, hstep x xs acc S h _ _ (fun y S' h' => ⟨hz _ _ _ _ h, compT_inv I hgd hz hfin hstep xs (acc ++ [y]) S' h'⟩) fun S' h' => compT_inv I hgd hz hfin hstep xs acc S' h'⟩
/-- nothing is changed: a filter and a map -/
theorem compT_pure {g : TTG} {c : TTB} {e : TTE} {own : List Nat} {gd : Sto → Prop} {τ : TEnv} {K : List T → Sto → Prop} (p : T → Bool) (f : T → T) {S : Sto} (hgd : gd S) : ∀ (xs acc : List T), acc.length + xs.length ≤ sizeLine → K (acc ++ (xs.filter p).map f) S →
    (∀ x ∈ xs, ∀ (R : T → Sto → Prop) (N : Sto → Prop), (p x = true → R (f x) S) → (p x = false → N S) → g x (wipeT τ own) S fun τ1 S1 => c τ1 S1 (fun k S2 => if k = true then e τ1 S2 R (fun _ _ => False) else N S2) (fun _ _ => False)) →
    compT g c e own gd τ K xs acc S
  | [], acc, _, h, _ => ⟨hgd, by simpa using h⟩
  | x :: xs, acc, hl, h, hs => by
    rw [List.length_cons] at hl
    refine ⟨hgd, hs x List.mem_cons_self _ _ (fun hp => ⟨by omega, ?_⟩) fun hp => ?_⟩
    · refine compT_pure p f hgd xs _ (by rw [List.length_append]; simp; omega) ?_ fun y hy => hs y (List.mem_cons_of_mem _ hy)
      rw [List.filter_cons_of_pos hp] at h
      simpa using h
    · refine compT_pure p f hgd xs _ (by omega) ?_ fun y hy => hs y (List.mem_cons_of_mem _ hy)
      rwa [List.filter_cons_of_neg (by simp [hp])] at h
/-- nothing is changed: a map -/
theorem compT_map {g : TTG} {c : TTB} {e : TTE} {own : List Nat} {gd : Sto → Prop} {τ : TEnv} {K : List T → Sto → Prop} (f : T → T) {S : Sto} {xs : List T} (hgd : gd S) (hl : xs.length ≤ sizeLine) (hk : K (xs.map f) S)
    (hs : ∀ x ∈ xs, ∀ (R : T → Sto → Prop) (N : Sto → Prop), R (f x) S → g x (wipeT τ own) S fun τ1 S1 => c τ1 S1 (fun k S2 => if k = true then e τ1 S2 R (fun _ _ => False) else N S2) (fun _ _ => False)) : compT g c e own gd τ K xs [] S :=
  compT_pure (fun _ => true) f hgd xs [] (by simpa using hl) (by rw [List.filter_eq_self.mpr (fun _ _ => rfl)]; simpa using hk) fun x hx R N h _ => hs x hx R N (h rfl)

/-! ### pens -/
/-- more than enough -/
abbrev big : Nat := 1000000000000000000000000000000
/-- a pen that was drawn from n times at most -/
def PenC (n : Nat) (c : Cell) : Prop := ∃ (ns : List Int) (at_ rest : Int), c = .lst [.lst (ns.map T.int), .int at_, .int rest] ∧ 0 ≤ at_ ∧ at_ ≤ n ∧ 0 ≤ rest ∧ ns.length ≤ 63
theorem PenC.mono {m n : Nat} {c : Cell} (h : PenC m c) (k : m ≤ n) : PenC n c := by
  obtain ⟨ns, at_, rest, e, h1, h2, h3, h4⟩ := h
  exact ⟨ns, at_, rest, e, h1, by omega, h3, h4⟩
theorem mulI_b {i j : Int} (h1 : i.natAbs < 2 ^ 250) (h2 : j.natAbs < 2 ^ 250) : mulI i j = true := by
  unfold mulI
  have a := log2_lt h1 (by decide)
  have b := log2_lt h2 (by decide)
  exact decide_eq_true (by omega)
theorem divI_b {i j : Int} (h1 : 0 < j) (h2 : j < 1073741824) : divI i j = true := by
  unfold divI
  rw [decide_eq_true (by omega), decide_eq_true (by omega)]
  rfl
theorem modI_b {i j : Int} (h1 : 0 < j) : modI i j = true := by
  unfold modI
  exact decide_eq_true (by omega)
theorem fmod_lo {i j : Int} (h : 0 < j) : 0 ≤ i.fmod j := Int.fmod_nonneg_of_pos i h
theorem fmod_hi {i j : Int} (h : 0 < j) : i.fmod j < j := Int.fmod_lt_of_pos i h
theorem fdiv_lo {i j : Int} (h0 : 0 ≤ i) (h : 0 < j) : 0 ≤ i.fdiv j := Int.fdiv_nonneg h0 (by omega)
end TL

/-! TLn: the law's end over a head by facts, its def told over trees. -/
namespace TL
open PySem PySem.Spec PyProof.Rows L2

theorem law_start {P : Program} {K : PySem.W.Frag} {w : World} {sp : SpT} {H : Hp} {a : Addr} {ns : List Int} (h : sp [.scr ns] (fun _ => none) (fun z _ => z = .bl true) fun _ _ => False) (hO : Only H) (hS : SqL K H a (ns.map V.int)) :
    liftSp P K w sp [.ref a] H (fun v _ => v = .bl true) fun _ _ _ => False := by
  refine ⟨fun _ => False, [T.scr ns], fun _ => none, fun z _ => z = T.bl true, fun _ _ => False, .cons (.scr ?_) .nil, ⟨fun a c e => (nomatch e), fun _ m => False.elim m, fun _ m => False.elim m⟩, h, fun z S' v H' e _ _ r => ?_, fun x S' cls d H' q => False.elim q⟩
  · rcases hS with (hS | ⟨o, hS⟩) | hS
    · rcases hO a with z | ⟨o, xs, z⟩ <;> rw [z] at hS <;> cases hS
    · exact .inl ⟨o, hS, rfl, fun z => z⟩
    · exact .inr hS
  · subst e
    cases r
    rfl
theorem cx_none {P : Program} {w : World} {H : Hp} {s : Shared} {e : Value} {s' : Shared} (h : L2.CX P w [] H s (fun _ _ _ => False) e s') : False := by
  obtain ⟨_, _, _, _, _, _, _, _, _, _, _, _, z⟩ := h
  exact z
/-- the law's def keeps its promise: the law holds -/
theorem walk_tl {l : PySem.W.OpenLaw} {k : Nat} {q : Program} {loose : List Str} {XP : (Str → Option Value) → Heap → Prop} {YP : World → Heap → Prop} {d : DefRec} {x y : Str} {sp : SpT}
    (hn : l.most = some 63) (hdf : d.params.defaults = []) (hr : Room k callerA) (hd : d.name = y) (hs : ∀ ns : List Int, ns.length ≤ 63 → sp [.scr ns] (fun _ => none) (fun z _ => z = .bl true) fun _ _ => False)
    (F : ∀ (w : World) (mg : Str → Option Value) (h : Heap), YP w h → h.Ns mainGlobals mg → ∃ K : PySem.W.Frag, K.In h ∧ mg y = some (.ref (He.ga K y)) ∧
      ∃ fd : FuncData, (∀ (s : Shared) (u : Value), BindsTo s fd ⟨[u], []⟩ [(x, u)]) ∧ ∀ base : Heap, K.In base → base.Ns mainGlobals mg → FnOk l.prog w K mg base (L2.CX l.prog w) k (He.ga K y) fd [x] (liftSp l.prog K w sp)) :
    PySem.W.WalkO q loose XP YP l.row.toRowW d [] (fun f vs => PySem.call f vs) := by
  subst hd
  refine Att.attach_call hn hdf fun w s₀ s₁ mg mb fa o pm cd doc a vs ns G Y ho hd hcd hmg hobj hints hlen hg => ?_
  obtain ⟨K, KX, hm, fd, hb, hF⟩ := F w mg _ Y G.T.g
  cases hmg.symm.trans hm
  exact law_call KX G.T.g G.T.b G.T.builtins G.T.nolimit hg hobj hints (Nat.le_trans hlen (by decide)) hr hF hb (fun H hO hS => law_start (hs ns hlen) hO hS) fun H e s' => cx_none
/-- a row of facts, one by its place -/
theorem all_at {bs : List Bool} (h : bs.all id = true) (i : Nat) {b : Bool} (e : bs[i]? = some b := by rfl) : b = true := List.all_eq_true.mp h b (List.mem_of_getElem? e)
/-- a def's promise, its binding for a law's call -/
theorem law_def {K : PySem.W.Frag} {x y : Str} {qual : Str} {params : Arguments} {body : List Stmt} {scope : Scope} {fd : FuncData} (F : FunD K y qual params body scope [] [] (He.ga K y) fd)
    (h : ∀ (kV doc pm : Value) (an : Option Addr) (cdv ct : Value) (us : List Value), us.length = 1 → bindArgs (PySem.W.fnOf y qual params body scope .none kV doc pm an cdv ct) ⟨us, []⟩ = pure (([x] : List Str).zip us)) (s : Shared) (u : Value) : BindsTo s fd ⟨[u], []⟩ [(x, u)] :=
  (FunD.bindsA (ps := [x]) F h) s [u] rfl
end TL

namespace K34
open PySem PySem.Spec PyProof.Rows L2 TL
def k_ABOVE : T := .tup ((["aunt", "uncle", "pibling"] : List Str).map fun x => .str (q x))
def k_BELOW : T := .tup ((["niece", "nephew", "nibling"] : List Str).map fun x => .str (q x))
def k_BESIDE : T := .tup ((["sister", "brother", "sibling"] : List Str).map fun x => .str (q x))
def k_DEGREES : T := .tup ((["first", "second", "third", "fourth"] : List Str).map fun x => .str (q x))
def k_DOWN : T := .tup ((["daughter", "son", "child"] : List Str).map fun x => .str (q x))
def k_MARKS : T := .tup ((["w", "m", "o"] : List Str).map fun x => .str (q x))
def k_TIMES : T := .tup ((["", " once removed", " twice removed"] : List Str).map fun x => .str (q x))
def k_UP : T := .tup ((["mother", "father", "parent"] : List Str).map fun x => .str (q x))
/-! greats -/
def grt (n : Int) : List Sg := repS n.toNat (q "great-")
theorem len_great : (q "great-").length = 6 := by decide +kernel
theorem grt_len {n : Int} (h : n ≤ 1000) : (grt n).length ≤ 6000 := by
  unfold grt
  rw [repS_len, len_great]
  omega
theorem mul_great {n : Int} (h1 : n ≤ 1000) (h2 : -1000 ≤ n) : mulS (q "great-") n = true := by
  simp only [mulS, len_great, Bool.and_eq_true, decide_eq_true_eq]
  omega
def sp_greats : SpT := sp1 fun a S Q E => ∃ n : Int, a = .int n ∧ n ≤ 1000 ∧ -1000 ≤ n ∧ Q (.str (grt n)) S
def N_greats : List Str := ["many"]
def c_greats : TTS :=
  (cRet (cOp mulT2 (cC (.str (q "great-"))) (cVar 0)))
theorem vc_greats : VC N_greats sp_greats c_greats := by
  rintro ts S Q E ⟨a, rfl, n, rfl, h1, h2, hq⟩
  simp only [c_greats, N_greats, cSeq, cSkip, cRet, cRetN, cSet, cAsg, cDo, cIfS, cPar2, cPar3, cBrk, cCont, cVar, cC, cOp, cUn, cIf, cNil, cCons, cTup, cLst, cLstM, bVal, bAnd, bOr, bNot, bYes, cAnd, cOr, cNot, cCall, cFn, cM, cSl, oNo, oSome, cChain, gN, gT, gL, gZ, gC, gIx, TL.startT, List.map_cons, List.map_nil, List.cons_append, List.nil_append, List.length_cons, List.length_nil, List.replicate_succ, List.replicate_zero, List.set_cons_zero, List.set_cons_succ, List.getElem?_cons_zero, List.getElem?_cons_succ, Option.some.injEq, Option.map_some, exists_eq_left', exists_eq_left, T.bl.injEq, T.int.injEq, T.str.injEq, T.tup.injEq, T.lst.injEq, T.ref.injEq, List.cons.injEq, and_true, true_and, res, wipeT, sp1_at, sp2_at, sp3_at, sp4_at, sp5_at, Nat.reduceAdd, Nat.reduceSub, if_true, if_false, Bool.false_eq_true, Bool.true_eq_false, ex_ite, addT_int, addT_str, addT_lst, addT_tup, subT_int, mulT2_int, mulT2_str, fdivT_int, modT_int, powT_int, negT_int, eqT_int, neT_int, eqT_str, neT_str, eqT_bl, neT_bl, ltT_int, gtT_int, leT_int, geT_int, ixT_lst, ixT_tup, ixT_str, atI_0, atI_1, atI_2, atI_3, ixT_ups, lenF_ups, ixN_30, ixN_31, ixN_32, lenF_lst, lenF_tup, lenF_str, absF_int, intF_int, intF_bl, max2F_int, min2F_int, strF_int, isi_str, isi_int, isi_tup, isi_lst, slT_lst, slT_tup, slT_str, slT_scr, ups_ups, ups_same, decide_eq_true_eq, Cell.lst.injEq, Option.map_eq_some_iff, exists_and_left, exists_const, Bool.not_eq_true']
  exact ⟨mul_great h1 h2, Fin.of hq⟩
/-! line_word -/
def lineW (w : List Sg) (n : Int) : List Sg := if n = 1 then w else grt (n - 2) ++ q "grand" ++ w
theorem len_grand : (q "grand").length = 5 := by decide +kernel
def sp_line_word : SpT := sp3 fun a b c S Q E => ∃ (xs : List (List Sg)) (i : Nat) (n : Int) (w : List Sg), a = .tup (xs.map T.str) ∧ b = .int i ∧ c = .int n ∧ xs[i]? = some w ∧ w.length ≤ 1000 ∧ n ≤ 1000 ∧ -900 ≤ n ∧ Q (.str (lineW w n)) S
def N_line_word : List Str := ["words", "at", "steps"]
def c_line_word : TTS :=
  (cSeq (cIfS (bVal (cOp eqT (cVar 2) (cC (.int 1)))) (cRet (cOp ixT (cVar 0) (cVar 1))) cSkip)
    (cRet (cOp addT (cOp addT (cCall sp_greats (cCons (cOp subT (cVar 2) (cC (.int 2))) cNil)) (cC (.str (q "grand")))) (cOp ixT (cVar 0) (cVar 1)))))
theorem vc_line_word : VC N_line_word sp_line_word c_line_word := by
  rintro ts S Q E ⟨a, b, c, rfl, xs, i, n, w, rfl, rfl, rfl, h1, h2, h3, h4, hq⟩
  have ha : L2.atI (xs.map T.str) (i : Int) = some (.str w) := by rw [atI_natE, List.getElem?_map, h1]; rfl
  simp only [c_line_word, N_line_word, cSeq, cSkip, cRet, cRetN, cSet, cAsg, cDo, cIfS, cPar2, cPar3, cBrk, cCont, cVar, cC, cOp, cUn, cIf, cNil, cCons, cTup, cLst, cLstM, bVal, bAnd, bOr, bNot, bYes, cAnd, cOr, cNot, cCall, cFn, cM, cSl, oNo, oSome, cChain, gN, gT, gL, gZ, gC, gIx, TL.startT, List.map_cons, List.map_nil, List.cons_append, List.nil_append, List.length_cons, List.length_nil, List.replicate_succ, List.replicate_zero, List.set_cons_zero, List.set_cons_succ, List.getElem?_cons_zero, List.getElem?_cons_succ, Option.some.injEq, Option.map_some, exists_eq_left', exists_eq_left, T.bl.injEq, T.int.injEq, T.str.injEq, T.tup.injEq, T.lst.injEq, T.ref.injEq, List.cons.injEq, and_true, true_and, res, wipeT, sp1_at, sp2_at, sp3_at, sp4_at, sp5_at, Nat.reduceAdd, Nat.reduceSub, if_true, if_false, Bool.false_eq_true, Bool.true_eq_false, ex_ite, addT_int, addT_str, addT_lst, addT_tup, subT_int, mulT2_int, mulT2_str, fdivT_int, modT_int, powT_int, negT_int, eqT_int, neT_int, eqT_str, neT_str, eqT_bl, neT_bl, ltT_int, gtT_int, leT_int, geT_int, ixT_lst, ixT_tup, ixT_str, atI_0, atI_1, atI_2, atI_3, ixT_ups, lenF_ups, ixN_30, ixN_31, ixN_32, lenF_lst, lenF_tup, lenF_str, absF_int, intF_int, intF_bl, max2F_int, min2F_int, strF_int, isi_str, isi_int, isi_tup, isi_lst, slT_lst, slT_tup, slT_str, slT_scr, ups_ups, ups_same, decide_eq_true_eq, Cell.lst.injEq, Option.map_eq_some_iff, exists_and_left, exists_const, Bool.not_eq_true', ha, sp_greats]
  have hs := sizeLine_eq
  have hg := grt_len (n := n - 2) (by omega)
  have hl := len_grand
  by_cases e : n = 1
  · rw [if_pos e]
    unfold lineW at hq
    rw [if_pos e] at hq
    exact Fin.of hq
  · rw [if_neg e]
    unfold lineW at hq
    rw [if_neg e] at hq
    refine ⟨by omega, by omega, by omega, ?_, Fin.of hq⟩
    rw [List.length_append]
    omega
/-! cousin_word -/
def DEG : List (List Sg) := (["first", "second", "third", "fourth"] : List Str).map q
def TMS : List (List Sg) := (["", " once removed", " twice removed"] : List Str).map q
def aheadW (d : Int) : List Sg := if d ≤ 4 then DEG.getD (d - 1).toNat [] else strI d ++ q "th"
def behindW (f : Int) : List Sg := if f < 3 then TMS.getD f.toNat [] else q " " ++ strI f ++ q " times removed"
def cousinW (m n : Int) : List Sg := aheadW ((if n < m then n else m) - 1) ++ q " cousin" ++ behindW (if m - n < 0 then -(m - n) else m - n)
theorem DEG_len : ∀ w ∈ DEG, w.length ≤ 6 := by decide +kernel
theorem TMS_len : ∀ w ∈ TMS, w.length ≤ 14 := by decide +kernel
theorem getD_len {xs : List (List Sg)} {k i : Nat} (h : ∀ w ∈ xs, w.length ≤ k) : (xs.getD i []).length ≤ k := by
  rw [List.getD_eq_getElem?_getD]
  cases e : xs[i]? with
  | none => simp
  | some w => simpa using h w (List.mem_of_getElem? e)
theorem len_cw : (q "th").length = 2 ∧ (q " cousin").length = 7 ∧ (q " ").length = 1 ∧ (q " times removed").length = 14 := by decide +kernel
theorem aheadW_len {d : Int} (h0 : 0 ≤ d) (h : d < 1000) : (aheadW d).length ≤ 8 := by
  unfold aheadW
  split
  · have := getD_len (i := (d - 1).toNat) DEG_len; omega
  · have := strI_len (k := 3) h0 (by decide) (by omega)
    rw [List.length_append, len_cw.1]; omega
theorem behindW_len {f : Int} (h0 : 0 ≤ f) (h : f < 1000) : (behindW f).length ≤ 18 := by
  unfold behindW
  split
  · have := getD_len (i := f.toNat) TMS_len; omega
  · have := strI_len (k := 3) h0 (by decide) (by omega)
    rw [List.length_append, List.length_append, len_cw.2.2.1, len_cw.2.2.2]; omega
def sp_cousin_word : SpT := sp2 fun a b S Q E => ∃ m n : Int, a = .int m ∧ b = .int n ∧ 2 ≤ m ∧ m ≤ 900 ∧ 2 ≤ n ∧ n ≤ 900 ∧ Q (.str (cousinW m n)) S
def N_cousin_word : List Str := ["m", "n", "degree", "ahead", "far", "behind"]
def c_cousin_word : TTS :=
  (cSeq (cSet 2 (cOp subT (cFn min2F (cCons (cVar 0) (cCons (cVar 1) cNil))) (cC (.int 1))))
    (cSeq (cSet 3 (cOp addT (cFn strF (cCons (cVar 2) cNil)) (cC (.str (q "th")))))
    (cSeq (cIfS (bVal (cOp leT (cVar 2) (cFn lenF (cCons (cC k_DEGREES) cNil)))) (cSet 3 (cOp ixT (cC k_DEGREES) (cOp subT (cVar 2) (cC (.int 1))))) cSkip)
    (cSeq (cSet 4 (cFn absF (cCons (cOp subT (cVar 0) (cVar 1)) cNil)))
    (cSeq (cSet 5 (cOp addT (cOp addT (cC (.str (q " "))) (cFn strF (cCons (cVar 4) cNil))) (cC (.str (q " times removed")))))
    (cSeq (cIfS (bVal (cOp ltT (cVar 4) (cFn lenF (cCons (cC k_TIMES) cNil)))) (cSet 5 (cOp ixT (cC k_TIMES) (cVar 4))) cSkip)
    (cRet (cOp addT (cOp addT (cVar 3) (cC (.str (q " cousin")))) (cVar 5)))))))))
theorem vc_cousin_word : VC N_cousin_word sp_cousin_word c_cousin_word := by
  rintro ts S Q E ⟨a, b, rfl, m, n, rfl, rfl, h1, h2, h3, h4, hq⟩
  have kd : k_DEGREES = .tup (DEG.map T.str) := rfl
  have kt : k_TIMES = .tup (TMS.map T.str) := rfl
  have ld : ((DEG.map T.str).length : Int) = 4 := rfl
  have lt : ((TMS.map T.str).length : Int) = 3 := rfl
  have hs := sizeLine_eq
  obtain ⟨l1, l2, l3, l4⟩ := len_cw
  unfold cousinW at hq
  simp only [c_cousin_word, N_cousin_word, cSeq, cSkip, cRet, cRetN, cSet, cAsg, cDo, cIfS, cPar2, cPar3, cBrk, cCont, cVar, cC, cOp, cUn, cIf, cNil, cCons, cTup, cLst, cLstM, bVal, bAnd, bOr, bNot, bYes, cAnd, cOr, cNot, cCall, cFn, cM, cSl, oNo, oSome, cChain, gN, gT, gL, gZ, gC, gIx, TL.startT, List.map_cons, List.map_nil, List.cons_append, List.nil_append, List.length_cons, List.length_nil, List.replicate_succ, List.replicate_zero, List.set_cons_zero, List.set_cons_succ, List.getElem?_cons_zero, List.getElem?_cons_succ, Option.some.injEq, Option.map_some, exists_eq_left', exists_eq_left, T.bl.injEq, T.int.injEq, T.str.injEq, T.tup.injEq, T.lst.injEq, T.ref.injEq, List.cons.injEq, and_true, true_and, res, wipeT, sp1_at, sp2_at, sp3_at, sp4_at, sp5_at, Nat.reduceAdd, Nat.reduceSub, if_true, if_false, Bool.false_eq_true, Bool.true_eq_false, ex_ite, addT_int, addT_str, addT_lst, addT_tup, subT_int, mulT2_int, mulT2_str, fdivT_int, modT_int, powT_int, negT_int, eqT_int, neT_int, eqT_str, neT_str, eqT_bl, neT_bl, ltT_int, gtT_int, leT_int, geT_int, ixT_lst, ixT_tup, ixT_str, atI_0, atI_1, atI_2, atI_3, ixT_ups, lenF_ups, ixN_30, ixN_31, ixN_32, lenF_lst, lenF_tup, lenF_str, absF_int, intF_int, intF_bl, max2F_int, min2F_int, strF_int, isi_str, isi_int, isi_tup, isi_lst, slT_lst, slT_tup, slT_str, slT_scr, ups_ups, ups_same, decide_eq_true_eq, Cell.lst.injEq, Option.map_eq_some_iff, exists_and_left, exists_const, Bool.not_eq_true', kd, kt, ld, lt]
  have hd0 : 1 ≤ (if n < m then n else m) - 1 := by split <;> omega
  have hd1 : (if n < m then n else m) - 1 < 1000 := by split <;> omega
  have hf0 : 0 ≤ (if m - n < 0 then -(m - n) else m - n) := by split <;> omega
  have hf1 : (if m - n < 0 then -(m - n) else m - n) < 1000 := by split <;> omega
  generalize (if n < m then n else m) - 1 = d at *
  generalize (if m - n < 0 then -(m - n) else m - n) = f at *
  have sd := strI_len (i := d) (k := 3) (by omega) (by decide) (by omega)
  have sf := strI_len (i := f) (k := 3) (by omega) (by decide) (by omega)
  have gd := lg_small (i := d) (by omega) (by omega)
  have gf := lg_small (i := f) (by omega) (by omega)
  have ad : d ≤ 4 → L2.atI (DEG.map T.str) (d - 1) = some (.str (DEG.getD (d - 1).toNat [])) := fun h => atI_strs (by omega) (by show d - 1 < 4; omega)
  have af : f < 3 → L2.atI (TMS.map T.str) f = some (.str (TMS.getD f.toNat [])) := fun h => atI_strs (by omega) (by show f < 3; omega)
  have la := getD_len (i := (d - 1).toNat) DEG_len
  have lb := getD_len (i := f.toNat) TMS_len
  unfold aheadW behindW at hq
  by_cases c1 : d ≤ 4
  · by_cases c2 : f < 3
    · simp only [c1, c2, if_true] at hq
      simp only [c1, c2, if_true, ad c1, af c2, cSeq, cSkip, cRet, cRetN, cSet, cAsg, cDo, cIfS, cPar2, cPar3, cBrk, cCont, cVar, cC, cOp, cUn, cIf, cNil, cCons, cTup, cLst, cLstM, bVal, bAnd, bOr, bNot, bYes, cAnd, cOr, cNot, cCall, cFn, cM, cSl, oNo, oSome, cChain, gN, gT, gL, gZ, gC, gIx, TL.startT, List.map_cons, List.map_nil, List.cons_append, List.nil_append, List.length_cons, List.length_nil, List.replicate_succ, List.replicate_zero, List.set_cons_zero, List.set_cons_succ, List.getElem?_cons_zero, List.getElem?_cons_succ, Option.some.injEq, Option.map_some, exists_eq_left', exists_eq_left, T.bl.injEq, T.int.injEq, T.str.injEq, T.tup.injEq, T.lst.injEq, T.ref.injEq, List.cons.injEq, and_true, true_and, res, wipeT, sp1_at, sp2_at, sp3_at, sp4_at, sp5_at, Nat.reduceAdd, Nat.reduceSub, if_true, if_false, Bool.false_eq_true, Bool.true_eq_false, ex_ite, addT_int, addT_str, addT_lst, addT_tup, subT_int, mulT2_int, mulT2_str, fdivT_int, modT_int, powT_int, negT_int, eqT_int, neT_int, eqT_str, neT_str, eqT_bl, neT_bl, ltT_int, gtT_int, leT_int, geT_int, ixT_lst, ixT_tup, ixT_str, atI_0, atI_1, atI_2, atI_3, ixT_ups, lenF_ups, ixN_30, ixN_31, ixN_32, lenF_lst, lenF_tup, lenF_str, absF_int, intF_int, intF_bl, max2F_int, min2F_int, strF_int, isi_str, isi_int, isi_tup, isi_lst, slT_lst, slT_tup, slT_str, slT_scr, ups_ups, ups_same, decide_eq_true_eq, Cell.lst.injEq, Option.map_eq_some_iff, exists_and_left, exists_const, Bool.not_eq_true', List.length_append, l1, l2, l3, l4]
      exact ⟨gd, by omega, gf, by omega, by omega, by omega, by omega, Fin.of hq⟩
    · simp only [c1, c2, if_true, if_false] at hq
      simp only [c1, c2, if_true, if_false, ad c1, cSeq, cSkip, cRet, cRetN, cSet, cAsg, cDo, cIfS, cPar2, cPar3, cBrk, cCont, cVar, cC, cOp, cUn, cIf, cNil, cCons, cTup, cLst, cLstM, bVal, bAnd, bOr, bNot, bYes, cAnd, cOr, cNot, cCall, cFn, cM, cSl, oNo, oSome, cChain, gN, gT, gL, gZ, gC, gIx, TL.startT, List.map_cons, List.map_nil, List.cons_append, List.nil_append, List.length_cons, List.length_nil, List.replicate_succ, List.replicate_zero, List.set_cons_zero, List.set_cons_succ, List.getElem?_cons_zero, List.getElem?_cons_succ, Option.some.injEq, Option.map_some, exists_eq_left', exists_eq_left, T.bl.injEq, T.int.injEq, T.str.injEq, T.tup.injEq, T.lst.injEq, T.ref.injEq, List.cons.injEq, and_true, true_and, res, wipeT, sp1_at, sp2_at, sp3_at, sp4_at, sp5_at, Nat.reduceAdd, Nat.reduceSub, if_true, if_false, Bool.false_eq_true, Bool.true_eq_false, ex_ite, addT_int, addT_str, addT_lst, addT_tup, subT_int, mulT2_int, mulT2_str, fdivT_int, modT_int, powT_int, negT_int, eqT_int, neT_int, eqT_str, neT_str, eqT_bl, neT_bl, ltT_int, gtT_int, leT_int, geT_int, ixT_lst, ixT_tup, ixT_str, atI_0, atI_1, atI_2, atI_3, ixT_ups, lenF_ups, ixN_30, ixN_31, ixN_32, lenF_lst, lenF_tup, lenF_str, absF_int, intF_int, intF_bl, max2F_int, min2F_int, strF_int, isi_str, isi_int, isi_tup, isi_lst, slT_lst, slT_tup, slT_str, slT_scr, ups_ups, ups_same, decide_eq_true_eq, Cell.lst.injEq, Option.map_eq_some_iff, exists_and_left, exists_const, Bool.not_eq_true', List.length_append, l1, l2, l3, l4]
      exact ⟨gd, by omega, gf, by omega, by omega, by omega, by omega, Fin.of hq⟩
  · by_cases c2 : f < 3
    · simp only [c1, c2, if_true, if_false] at hq
      simp only [c1, c2, if_true, if_false, af c2, cSeq, cSkip, cRet, cRetN, cSet, cAsg, cDo, cIfS, cPar2, cPar3, cBrk, cCont, cVar, cC, cOp, cUn, cIf, cNil, cCons, cTup, cLst, cLstM, bVal, bAnd, bOr, bNot, bYes, cAnd, cOr, cNot, cCall, cFn, cM, cSl, oNo, oSome, cChain, gN, gT, gL, gZ, gC, gIx, TL.startT, List.map_cons, List.map_nil, List.cons_append, List.nil_append, List.length_cons, List.length_nil, List.replicate_succ, List.replicate_zero, List.set_cons_zero, List.set_cons_succ, List.getElem?_cons_zero, List.getElem?_cons_succ, Option.some.injEq, Option.map_some, exists_eq_left', exists_eq_left, T.bl.injEq, T.int.injEq, T.str.injEq, T.tup.injEq, T.lst.injEq, T.ref.injEq, List.cons.injEq, and_true, true_and, res, wipeT, sp1_at, sp2_at, sp3_at, sp4_at, sp5_at, Nat.reduceAdd, Nat.reduceSub, if_true, if_false, Bool.false_eq_true, Bool.true_eq_false, ex_ite, addT_int, addT_str, addT_lst, addT_tup, subT_int, mulT2_int, mulT2_str, fdivT_int, modT_int, powT_int, negT_int, eqT_int, neT_int, eqT_str, neT_str, eqT_bl, neT_bl, ltT_int, gtT_int, leT_int, geT_int, ixT_lst, ixT_tup, ixT_str, atI_0, atI_1, atI_2, atI_3, ixT_ups, lenF_ups, ixN_30, ixN_31, ixN_32, lenF_lst, lenF_tup, lenF_str, absF_int, intF_int, intF_bl, max2F_int, min2F_int, strF_int, isi_str, isi_int, isi_tup, isi_lst, slT_lst, slT_tup, slT_str, slT_scr, ups_ups, ups_same, decide_eq_true_eq, Cell.lst.injEq, Option.map_eq_some_iff, exists_and_left, exists_const, Bool.not_eq_true', List.length_append, l1, l2, l3, l4]
      exact ⟨gd, by omega, gf, by omega, by omega, by omega, by omega, Fin.of hq⟩
    · simp only [c1, c2, if_false] at hq
      simp only [c1, c2, if_false, cSeq, cSkip, cRet, cRetN, cSet, cAsg, cDo, cIfS, cPar2, cPar3, cBrk, cCont, cVar, cC, cOp, cUn, cIf, cNil, cCons, cTup, cLst, cLstM, bVal, bAnd, bOr, bNot, bYes, cAnd, cOr, cNot, cCall, cFn, cM, cSl, oNo, oSome, cChain, gN, gT, gL, gZ, gC, gIx, TL.startT, List.map_cons, List.map_nil, List.cons_append, List.nil_append, List.length_cons, List.length_nil, List.replicate_succ, List.replicate_zero, List.set_cons_zero, List.set_cons_succ, List.getElem?_cons_zero, List.getElem?_cons_succ, Option.some.injEq, Option.map_some, exists_eq_left', exists_eq_left, T.bl.injEq, T.int.injEq, T.str.injEq, T.tup.injEq, T.lst.injEq, T.ref.injEq, List.cons.injEq, and_true, true_and, res, wipeT, sp1_at, sp2_at, sp3_at, sp4_at, sp5_at, Nat.reduceAdd, Nat.reduceSub, if_true, if_false, Bool.false_eq_true, Bool.true_eq_false, ex_ite, addT_int, addT_str, addT_lst, addT_tup, subT_int, mulT2_int, mulT2_str, fdivT_int, modT_int, powT_int, negT_int, eqT_int, neT_int, eqT_str, neT_str, eqT_bl, neT_bl, ltT_int, gtT_int, leT_int, geT_int, ixT_lst, ixT_tup, ixT_str, atI_0, atI_1, atI_2, atI_3, ixT_ups, lenF_ups, ixN_30, ixN_31, ixN_32, lenF_lst, lenF_tup, lenF_str, absF_int, intF_int, intF_bl, max2F_int, min2F_int, strF_int, isi_str, isi_int, isi_tup, isi_lst, slT_lst, slT_tup, slT_str, slT_scr, ups_ups, ups_same, decide_eq_true_eq, Cell.lst.injEq, Option.map_eq_some_iff, exists_and_left, exists_const, Bool.not_eq_true', List.length_append, l1, l2, l3, l4]
      exact ⟨gd, by omega, gf, by omega, by omega, by omega, by omega, Fin.of hq⟩
/-! plain_word -/
def MKS : List (List Sg) := (["w", "m", "o"] : List Str).map q
def UPS : List (List Sg) := (["mother", "father", "parent"] : List Str).map q
def DWN : List (List Sg) := (["daughter", "son", "child"] : List Str).map q
def BSD : List (List Sg) := (["sister", "brother", "sibling"] : List Str).map q
def ABV : List (List Sg) := (["aunt", "uncle", "pibling"] : List Str).map q
def BLW : List (List Sg) := (["niece", "nephew", "nibling"] : List Str).map q
theorem W3_len : ∀ w ∈ UPS ++ DWN ++ BSD ++ ABV ++ BLW, w.length ≤ 8 := by decide +kernel
def plainW (m n : Int) (i : Nat) : List Sg :=
  if m = 0 then lineW (UPS.getD i []) n else if n = 0 then lineW (DWN.getD i []) m else if m = 1 ∧ n = 1 then BSD.getD i []
  else if m = 1 then grt (n - 2) ++ ABV.getD i [] else if n = 1 then grt (m - 2) ++ BLW.getD i [] else cousinW m n
theorem lineW_len {w : List Sg} {n : Int} (hw : w.length ≤ 8) (h : n ≤ 900) : (lineW w n).length ≤ 7000 := by
  unfold lineW
  split
  · omega
  · have := grt_len (n := n - 2) (by omega)
    rw [List.length_append, List.length_append, len_grand]; omega
theorem cousinW_len {m n : Int} (h1 : 2 ≤ m) (h2 : m ≤ 900) (h3 : 2 ≤ n) (h4 : n ≤ 900) : (cousinW m n).length ≤ 40 := by
  unfold cousinW
  have a := aheadW_len (d := (if n < m then n else m) - 1) (by split <;> omega) (by split <;> omega)
  have b := behindW_len (f := (if m - n < 0 then -(m - n) else m - n)) (by split <;> omega) (by split <;> omega)
  rw [List.length_append, List.length_append, len_cw.2.1]; omega
theorem plainW_len {m n : Int} {i : Nat} (h1 : 0 ≤ m) (h2 : m ≤ 900) (h3 : 0 ≤ n) (h4 : n ≤ 900) : (plainW m n i).length ≤ 8000 := by
  have up := getD_len (i := i) (xs := UPS) (k := 8) fun w h => W3_len w (by simp [h])
  have dn := getD_len (i := i) (xs := DWN) (k := 8) fun w h => W3_len w (by simp [h])
  have bs := getD_len (i := i) (xs := BSD) (k := 8) fun w h => W3_len w (by simp [h])
  have ab := getD_len (i := i) (xs := ABV) (k := 8) fun w h => W3_len w (by simp [h])
  have bl := getD_len (i := i) (xs := BLW) (k := 8) fun w h => W3_len w (by simp [h])
  have g1 := grt_len (n := n - 2) (by omega)
  have g2 := grt_len (n := m - 2) (by omega)
  unfold plainW
  split
  · have := lineW_len up h4; omega
  split
  · have := lineW_len dn h2; omega
  split
  · omega
  split
  · rw [List.length_append]; omega
  split
  · rw [List.length_append]; omega
  have := cousinW_len (m := m) (n := n) (by omega) h2 (by omega) h4; omega
def sp_plain_word : SpT := sp3 fun a b c S Q E => ∃ (m n : Int) (i : Nat), a = .int m ∧ b = .int n ∧ c = .str (MKS.getD i []) ∧ i < 3 ∧ 0 ≤ m ∧ m ≤ 900 ∧ 0 ≤ n ∧ n ≤ 900 ∧ Q (.str (plainW m n i)) S
theorem tix_mk {S : Sto} {i : Nat} (h : i < 3) : tixF S (.tup (MKS.map T.str)) [.str (MKS.getD i [])] = some (.int (i : Nat)) := by
  unfold tixF
  simp only [strsOf_map]
  have : plc (MKS.getD i []) MKS = some i := by
    match i, h with
    | 0, _ => decide +kernel
    | 1, _ => decide +kernel
    | 2, _ => decide +kernel
  rw [this]
  rfl
def N_plain_word : List Str := ["m", "n", "mark", "at"]
def c_plain_word : TTS :=
  (cSeq (cSet 3 (cM isTup tixF (cC k_MARKS) (cCons (cVar 2) cNil)))
    (cSeq (cIfS (bVal (cOp eqT (cVar 0) (cC (.int 0)))) (cRet (cCall sp_line_word (cCons (cC k_UP) (cCons (cVar 3) (cCons (cVar 1) cNil))))) cSkip)
    (cSeq (cIfS (bVal (cOp eqT (cVar 1) (cC (.int 0)))) (cRet (cCall sp_line_word (cCons (cC k_DOWN) (cCons (cVar 3) (cCons (cVar 0) cNil))))) cSkip)
    (cSeq (cIfS (bAnd (bVal (cOp eqT (cVar 0) (cC (.int 1)))) (bVal (cOp eqT (cVar 1) (cC (.int 1))))) (cRet (cOp ixT (cC k_BESIDE) (cVar 3))) cSkip)
    (cSeq (cIfS (bVal (cOp eqT (cVar 0) (cC (.int 1)))) (cRet (cOp addT (cCall sp_greats (cCons (cOp subT (cVar 1) (cC (.int 2))) cNil)) (cOp ixT (cC k_ABOVE) (cVar 3)))) cSkip)
    (cSeq (cIfS (bVal (cOp eqT (cVar 1) (cC (.int 1)))) (cRet (cOp addT (cCall sp_greats (cCons (cOp subT (cVar 0) (cC (.int 2))) cNil)) (cOp ixT (cC k_BELOW) (cVar 3)))) cSkip)
    (cRet (cCall sp_cousin_word (cCons (cVar 0) (cCons (cVar 1) cNil))))))))))
theorem vc_plain_word : VC N_plain_word sp_plain_word c_plain_word := by
  rintro ts S Q E ⟨a, b, c, rfl, m, n, i, rfl, rfl, rfl, hi, h1, h2, h3, h4, hq⟩
  have km : k_MARKS = .tup (MKS.map T.str) := rfl
  have k1 : k_UP = .tup (UPS.map T.str) := rfl
  have k2 : k_DOWN = .tup (DWN.map T.str) := rfl
  have k3 : k_BESIDE = .tup (BSD.map T.str) := rfl
  have k4 : k_ABOVE = .tup (ABV.map T.str) := rfl
  have k5 : k_BELOW = .tup (BLW.map T.str) := rfl
  have ix : ∀ xs : List (List Sg), xs.length = 3 → L2.atI (xs.map T.str) (i : Int) = some (.str (xs.getD i [])) := fun xs h => by
    have := atI_strs (us := xs) (i := (i : Int)) (by omega) (by omega)
    rw [Int.toNat_natCast] at this
    exact this
  have gx : ∀ xs : List (List Sg), xs.length = 3 → xs[i]? = some (xs.getD i []) := fun xs h => by
    rw [List.getD_eq_getElem?_getD, List.getElem?_eq_getElem (by omega)]; rfl
  have up := getD_len (i := i) (xs := UPS) (k := 8) fun w h => W3_len w (by simp [h])
  have dn := getD_len (i := i) (xs := DWN) (k := 8) fun w h => W3_len w (by simp [h])
  have ab := getD_len (i := i) (xs := ABV) (k := 8) fun w h => W3_len w (by simp [h])
  have bl := getD_len (i := i) (xs := BLW) (k := 8) fun w h => W3_len w (by simp [h])
  have g1 := grt_len (n := n - 2) (by omega)
  have g2 := grt_len (n := m - 2) (by omega)
  have hs := sizeLine_eq
  have it : isTup (.tup (MKS.map T.str)) = true := rfl
  simp only [c_plain_word, N_plain_word, cSeq, cSkip, cRet, cRetN, cSet, cAsg, cDo, cIfS, cPar2, cPar3, cBrk, cCont, cVar, cC, cOp, cUn, cIf, cNil, cCons, cTup, cLst, cLstM, bVal, bAnd, bOr, bNot, bYes, cAnd, cOr, cNot, cCall, cFn, cM, cSl, oNo, oSome, cChain, gN, gT, gL, gZ, gC, gIx, TL.startT, List.map_cons, List.map_nil, List.cons_append, List.nil_append, List.length_cons, List.length_nil, List.replicate_succ, List.replicate_zero, List.set_cons_zero, List.set_cons_succ, List.getElem?_cons_zero, List.getElem?_cons_succ, Option.some.injEq, Option.map_some, exists_eq_left', exists_eq_left, T.bl.injEq, T.int.injEq, T.str.injEq, T.tup.injEq, T.lst.injEq, T.ref.injEq, List.cons.injEq, and_true, true_and, res, wipeT, sp1_at, sp2_at, sp3_at, sp4_at, sp5_at, Nat.reduceAdd, Nat.reduceSub, if_true, if_false, Bool.false_eq_true, Bool.true_eq_false, ex_ite, addT_int, addT_str, addT_lst, addT_tup, subT_int, mulT2_int, mulT2_str, fdivT_int, modT_int, powT_int, negT_int, eqT_int, neT_int, eqT_str, neT_str, eqT_bl, neT_bl, ltT_int, gtT_int, leT_int, geT_int, ixT_lst, ixT_tup, ixT_str, atI_0, atI_1, atI_2, atI_3, ixT_ups, lenF_ups, ixN_30, ixN_31, ixN_32, lenF_lst, lenF_tup, lenF_str, absF_int, intF_int, intF_bl, max2F_int, min2F_int, strF_int, isi_str, isi_int, isi_tup, isi_lst, slT_lst, slT_tup, slT_str, slT_scr, ups_ups, ups_same, decide_eq_true_eq, Cell.lst.injEq, Option.map_eq_some_iff, exists_and_left, exists_const, Bool.not_eq_true', km, k1, k2, k3, k4, k5, it, tix_mk hi, ix UPS rfl, ix DWN rfl, ix BSD rfl, ix ABV rfl, ix BLW rfl, sp_line_word, sp_greats, sp_cousin_word]
  unfold plainW at hq
  by_cases c1 : m = 0
  · rw [if_pos c1] at hq ⊢
    exact ⟨UPS, rfl, i, rfl, _, gx UPS rfl, by omega, by omega, by omega, Fin.of hq⟩
  rw [if_neg c1] at hq ⊢
  by_cases c2 : n = 0
  · rw [if_pos c2] at hq ⊢
    exact ⟨DWN, rfl, i, rfl, _, gx DWN rfl, by omega, by omega, by omega, Fin.of hq⟩
  rw [if_neg c2] at hq ⊢
  by_cases c3 : m = 1
  · by_cases c4 : n = 1
    · rw [if_pos c3, if_pos c4]
      rw [if_pos ⟨c3, c4⟩] at hq
      exact Fin.of hq
    · rw [if_pos c3, if_neg c4, if_pos c3]
      rw [if_neg (fun z => c4 z.2), if_pos c3] at hq
      exact ⟨by omega, by omega, by omega, Fin.of hq⟩
  · rw [if_neg c3, if_neg c3]
    rw [if_neg (fun z => c3 z.1), if_neg c3] at hq
    by_cases c4 : n = 1
    · rw [if_pos c4] at hq ⊢
      exact ⟨by omega, by omega, by omega, Fin.of hq⟩
    · rw [if_neg c4] at hq ⊢
      exact ⟨by omega, by omega, by omega, by omega, Fin.of hq⟩
/-! word_ahead -/
def aheadBy (bi : Bool) : List Sg := if bi = true then [] else q "adoptive "
theorem aheadBy_len (bi : Bool) : (aheadBy bi).length ≤ 9 := by cases bi <;> decide +kernel
/-- by: birth | adoption -/
def byT (bi : Bool) : List Sg := if bi = true then q "birth" else q "adoption"
theorem byT_eq (bi : Bool) : decide (byT bi = q "birth") = bi := by cases bi <;> decide +kernel
theorem byT_ad (bi : Bool) : decide (byT bi = q "adoption") = !bi := by cases bi <;> decide +kernel
/-- a tie as it is told -/
def tieT (m n h : Int) (bi : Bool) : T := .tup [.int m, .int n, .int h, .str (byT bi)]
def sp_word_ahead : SpT := sp1 fun a S Q E => ∃ m n h bi, a = tieT m n h bi ∧ Q (.str (aheadBy bi)) S
def N_word_ahead : List Str := ["tie"]
def c_word_ahead : TTS :=
  (cRet (cOp ixT (cLst (cCons (cC (.str (q "adoptive "))) (cCons (cC (.str (q ""))) cNil))) (cFn intF (cCons (cOp eqT (cOp ixT (cVar 0) (cC (.int 3))) (cC (.str (q "birth")))) cNil))))
theorem vc_word_ahead : VC N_word_ahead sp_word_ahead c_word_ahead := by
  rintro ts S Q E ⟨a, rfl, m, n, h, bi, rfl, hq⟩
  have e0 : q "" = [] := by decide +kernel
  have hs := sizeLine_eq
  simp only [c_word_ahead, N_word_ahead, cSeq, cSkip, cRet, cRetN, cSet, cAsg, cDo, cIfS, cPar2, cPar3, cBrk, cCont, cVar, cC, cOp, cUn, cIf, cNil, cCons, cTup, cLst, cLstM, bVal, bAnd, bOr, bNot, bYes, cAnd, cOr, cNot, cCall, cFn, cM, cSl, oNo, oSome, cChain, gN, gT, gL, gZ, gC, gIx, TL.startT, List.map_cons, List.map_nil, List.cons_append, List.nil_append, List.length_cons, List.length_nil, List.replicate_succ, List.replicate_zero, List.set_cons_zero, List.set_cons_succ, List.getElem?_cons_zero, List.getElem?_cons_succ, Option.some.injEq, Option.map_some, exists_eq_left', exists_eq_left, T.bl.injEq, T.int.injEq, T.str.injEq, T.tup.injEq, T.lst.injEq, T.ref.injEq, List.cons.injEq, and_true, true_and, res, wipeT, sp1_at, sp2_at, sp3_at, sp4_at, sp5_at, Nat.reduceAdd, Nat.reduceSub, if_true, if_false, Bool.false_eq_true, Bool.true_eq_false, ex_ite, addT_int, addT_str, addT_lst, addT_tup, subT_int, mulT2_int, mulT2_str, fdivT_int, modT_int, powT_int, negT_int, eqT_int, neT_int, eqT_str, neT_str, eqT_bl, neT_bl, ltT_int, gtT_int, leT_int, geT_int, ixT_lst, ixT_tup, ixT_str, atI_0, atI_1, atI_2, atI_3, ixT_ups, lenF_ups, ixN_30, ixN_31, ixN_32, lenF_lst, lenF_tup, lenF_str, absF_int, intF_int, intF_bl, max2F_int, min2F_int, strF_int, isi_str, isi_int, isi_tup, isi_lst, slT_lst, slT_tup, slT_str, slT_scr, ups_ups, ups_same, decide_eq_true_eq, Cell.lst.injEq, Option.map_eq_some_iff, exists_and_left, exists_const, Bool.not_eq_true', tieT, byT_eq]
  cases bi with
  | true => simp only [cSeq, cSkip, cRet, cRetN, cSet, cAsg, cDo, cIfS, cPar2, cPar3, cBrk, cCont, cVar, cC, cOp, cUn, cIf, cNil, cCons, cTup, cLst, cLstM, bVal, bAnd, bOr, bNot, bYes, cAnd, cOr, cNot, cCall, cFn, cM, cSl, oNo, oSome, cChain, gN, gT, gL, gZ, gC, gIx, TL.startT, List.map_cons, List.map_nil, List.cons_append, List.nil_append, List.length_cons, List.length_nil, List.replicate_succ, List.replicate_zero, List.set_cons_zero, List.set_cons_succ, List.getElem?_cons_zero, List.getElem?_cons_succ, Option.some.injEq, Option.map_some, exists_eq_left', exists_eq_left, T.bl.injEq, T.int.injEq, T.str.injEq, T.tup.injEq, T.lst.injEq, T.ref.injEq, List.cons.injEq, and_true, true_and, res, wipeT, sp1_at, sp2_at, sp3_at, sp4_at, sp5_at, Nat.reduceAdd, Nat.reduceSub, if_true, if_false, Bool.false_eq_true, Bool.true_eq_false, ex_ite, addT_int, addT_str, addT_lst, addT_tup, subT_int, mulT2_int, mulT2_str, fdivT_int, modT_int, powT_int, negT_int, eqT_int, neT_int, eqT_str, neT_str, eqT_bl, neT_bl, ltT_int, gtT_int, leT_int, geT_int, ixT_lst, ixT_tup, ixT_str, atI_0, atI_1, atI_2, atI_3, ixT_ups, lenF_ups, ixN_30, ixN_31, ixN_32, lenF_lst, lenF_tup, lenF_str, absF_int, intF_int, intF_bl, max2F_int, min2F_int, strF_int, isi_str, isi_int, isi_tup, isi_lst, slT_lst, slT_tup, slT_str, slT_scr, ups_ups, ups_same, decide_eq_true_eq, Cell.lst.injEq, Option.map_eq_some_iff, exists_and_left, exists_const, Bool.not_eq_true', e0]; exact ⟨by omega, Fin.of hq⟩
  | false => simp only [cSeq, cSkip, cRet, cRetN, cSet, cAsg, cDo, cIfS, cPar2, cPar3, cBrk, cCont, cVar, cC, cOp, cUn, cIf, cNil, cCons, cTup, cLst, cLstM, bVal, bAnd, bOr, bNot, bYes, cAnd, cOr, cNot, cCall, cFn, cM, cSl, oNo, oSome, cChain, gN, gT, gL, gZ, gC, gIx, TL.startT, List.map_cons, List.map_nil, List.cons_append, List.nil_append, List.length_cons, List.length_nil, List.replicate_succ, List.replicate_zero, List.set_cons_zero, List.set_cons_succ, List.getElem?_cons_zero, List.getElem?_cons_succ, Option.some.injEq, Option.map_some, exists_eq_left', exists_eq_left, T.bl.injEq, T.int.injEq, T.str.injEq, T.tup.injEq, T.lst.injEq, T.ref.injEq, List.cons.injEq, and_true, true_and, res, wipeT, sp1_at, sp2_at, sp3_at, sp4_at, sp5_at, Nat.reduceAdd, Nat.reduceSub, if_true, if_false, Bool.false_eq_true, Bool.true_eq_false, ex_ite, addT_int, addT_str, addT_lst, addT_tup, subT_int, mulT2_int, mulT2_str, fdivT_int, modT_int, powT_int, negT_int, eqT_int, neT_int, eqT_str, neT_str, eqT_bl, neT_bl, ltT_int, gtT_int, leT_int, geT_int, ixT_lst, ixT_tup, ixT_str, atI_0, atI_1, atI_2, atI_3, ixT_ups, lenF_ups, ixN_30, ixN_31, ixN_32, lenF_lst, lenF_tup, lenF_str, absF_int, intF_int, intF_bl, max2F_int, min2F_int, strF_int, isi_str, isi_int, isi_tup, isi_lst, slT_lst, slT_tup, slT_str, slT_scr, ups_ups, ups_same, decide_eq_true_eq, Cell.lst.injEq, Option.map_eq_some_iff, exists_and_left, exists_const, Bool.not_eq_true', e0]; exact ⟨by omega, Fin.of hq⟩
/-! half_word -/
def halfBy (h : Int) : List Sg := if h = 0 then [] else q "half-"
theorem halfBy_len (h : Int) : (halfBy h).length ≤ 5 := by unfold halfBy; split <;> decide +kernel
def sp_half_word : SpT := sp2 fun a b S Q E => ∃ m n h bi i, a = tieT m n h bi ∧ b = .str (MKS.getD i []) ∧ i < 3 ∧ 0 ≤ m ∧ m ≤ 900 ∧ 0 ≤ n ∧ n ≤ 900 ∧ 0 ≤ h ∧ h < 2 ∧ Q (.str (halfBy h ++ plainW m n i)) S
def N_half_word : List Str := ["tie", "mark"]
def c_half_word : TTS :=
  (cRet (cOp addT (cOp ixT (cLst (cCons (cC (.str (q ""))) (cCons (cC (.str (q "half-"))) cNil))) (cOp ixT (cVar 0) (cC (.int 2)))) (cCall sp_plain_word (cCons (cOp ixT (cVar 0) (cC (.int 0))) (cCons (cOp ixT (cVar 0) (cC (.int 1))) (cCons (cVar 1) cNil))))))
theorem vc_half_word : VC N_half_word sp_half_word c_half_word := by
  rintro ts S Q E ⟨a, b, rfl, m, n, h, bi, i, rfl, rfl, hi, h1, h2, h3, h4, h5, h6, hq⟩
  have e0 : q "" = [] := by decide +kernel
  have hs := sizeLine_eq
  have hp := plainW_len (i := i) h1 h2 h3 h4
  have l5 : (q "half-").length = 5 := by decide +kernel
  unfold halfBy at hq
  simp only [c_half_word, N_half_word, cSeq, cSkip, cRet, cRetN, cSet, cAsg, cDo, cIfS, cPar2, cPar3, cBrk, cCont, cVar, cC, cOp, cUn, cIf, cNil, cCons, cTup, cLst, cLstM, bVal, bAnd, bOr, bNot, bYes, cAnd, cOr, cNot, cCall, cFn, cM, cSl, oNo, oSome, cChain, gN, gT, gL, gZ, gC, gIx, TL.startT, List.map_cons, List.map_nil, List.cons_append, List.nil_append, List.length_cons, List.length_nil, List.replicate_succ, List.replicate_zero, List.set_cons_zero, List.set_cons_succ, List.getElem?_cons_zero, List.getElem?_cons_succ, Option.some.injEq, Option.map_some, exists_eq_left', exists_eq_left, T.bl.injEq, T.int.injEq, T.str.injEq, T.tup.injEq, T.lst.injEq, T.ref.injEq, List.cons.injEq, and_true, true_and, res, wipeT, sp1_at, sp2_at, sp3_at, sp4_at, sp5_at, Nat.reduceAdd, Nat.reduceSub, if_true, if_false, Bool.false_eq_true, Bool.true_eq_false, ex_ite, addT_int, addT_str, addT_lst, addT_tup, subT_int, mulT2_int, mulT2_str, fdivT_int, modT_int, powT_int, negT_int, eqT_int, neT_int, eqT_str, neT_str, eqT_bl, neT_bl, ltT_int, gtT_int, leT_int, geT_int, ixT_lst, ixT_tup, ixT_str, atI_0, atI_1, atI_2, atI_3, ixT_ups, lenF_ups, ixN_30, ixN_31, ixN_32, lenF_lst, lenF_tup, lenF_str, absF_int, intF_int, intF_bl, max2F_int, min2F_int, strF_int, isi_str, isi_int, isi_tup, isi_lst, slT_lst, slT_tup, slT_str, slT_scr, ups_ups, ups_same, decide_eq_true_eq, Cell.lst.injEq, Option.map_eq_some_iff, exists_and_left, exists_const, Bool.not_eq_true', tieT, e0, sp_plain_word]
  by_cases c : h = 0
  · subst c
    simp only [cSeq, cSkip, cRet, cRetN, cSet, cAsg, cDo, cIfS, cPar2, cPar3, cBrk, cCont, cVar, cC, cOp, cUn, cIf, cNil, cCons, cTup, cLst, cLstM, bVal, bAnd, bOr, bNot, bYes, cAnd, cOr, cNot, cCall, cFn, cM, cSl, oNo, oSome, cChain, gN, gT, gL, gZ, gC, gIx, TL.startT, List.map_cons, List.map_nil, List.cons_append, List.nil_append, List.length_cons, List.length_nil, List.replicate_succ, List.replicate_zero, List.set_cons_zero, List.set_cons_succ, List.getElem?_cons_zero, List.getElem?_cons_succ, Option.some.injEq, Option.map_some, exists_eq_left', exists_eq_left, T.bl.injEq, T.int.injEq, T.str.injEq, T.tup.injEq, T.lst.injEq, T.ref.injEq, List.cons.injEq, and_true, true_and, res, wipeT, sp1_at, sp2_at, sp3_at, sp4_at, sp5_at, Nat.reduceAdd, Nat.reduceSub, if_true, if_false, Bool.false_eq_true, Bool.true_eq_false, ex_ite, addT_int, addT_str, addT_lst, addT_tup, subT_int, mulT2_int, mulT2_str, fdivT_int, modT_int, powT_int, negT_int, eqT_int, neT_int, eqT_str, neT_str, eqT_bl, neT_bl, ltT_int, gtT_int, leT_int, geT_int, ixT_lst, ixT_tup, ixT_str, atI_0, atI_1, atI_2, atI_3, ixT_ups, lenF_ups, ixN_30, ixN_31, ixN_32, lenF_lst, lenF_tup, lenF_str, absF_int, intF_int, intF_bl, max2F_int, min2F_int, strF_int, isi_str, isi_int, isi_tup, isi_lst, slT_lst, slT_tup, slT_str, slT_scr, ups_ups, ups_same, decide_eq_true_eq, Cell.lst.injEq, Option.map_eq_some_iff, exists_and_left, exists_const, Bool.not_eq_true'] at hq ⊢
    exact ⟨by omega, i, rfl, hi, h1, h2, h3, h4, by omega, Fin.of hq⟩
  · have c : h = 1 := by omega
    subst c
    simp only [cSeq, cSkip, cRet, cRetN, cSet, cAsg, cDo, cIfS, cPar2, cPar3, cBrk, cCont, cVar, cC, cOp, cUn, cIf, cNil, cCons, cTup, cLst, cLstM, bVal, bAnd, bOr, bNot, bYes, cAnd, cOr, cNot, cCall, cFn, cM, cSl, oNo, oSome, cChain, gN, gT, gL, gZ, gC, gIx, TL.startT, List.map_cons, List.map_nil, List.cons_append, List.nil_append, List.length_cons, List.length_nil, List.replicate_succ, List.replicate_zero, List.set_cons_zero, List.set_cons_succ, List.getElem?_cons_zero, List.getElem?_cons_succ, Option.some.injEq, Option.map_some, exists_eq_left', exists_eq_left, T.bl.injEq, T.int.injEq, T.str.injEq, T.tup.injEq, T.lst.injEq, T.ref.injEq, List.cons.injEq, and_true, true_and, res, wipeT, sp1_at, sp2_at, sp3_at, sp4_at, sp5_at, Nat.reduceAdd, Nat.reduceSub, if_true, if_false, Bool.false_eq_true, Bool.true_eq_false, ex_ite, addT_int, addT_str, addT_lst, addT_tup, subT_int, mulT2_int, mulT2_str, fdivT_int, modT_int, powT_int, negT_int, eqT_int, neT_int, eqT_str, neT_str, eqT_bl, neT_bl, ltT_int, gtT_int, leT_int, geT_int, ixT_lst, ixT_tup, ixT_str, atI_0, atI_1, atI_2, atI_3, ixT_ups, lenF_ups, ixN_30, ixN_31, ixN_32, lenF_lst, lenF_tup, lenF_str, absF_int, intF_int, intF_bl, max2F_int, min2F_int, strF_int, isi_str, isi_int, isi_tup, isi_lst, slT_lst, slT_tup, slT_str, slT_scr, ups_ups, ups_same, decide_eq_true_eq, Cell.lst.injEq, Option.map_eq_some_iff, exists_and_left, exists_const, Bool.not_eq_true'] at hq ⊢
    exact ⟨by omega, i, rfl, hi, h1, h2, h3, h4, by omega, Fin.of hq⟩
/-! word_of -/
def wordW (m n h : Int) (bi : Bool) (i : Nat) : List Sg := aheadBy bi ++ (halfBy h ++ plainW m n i)
def sp_word_of : SpT := sp2 fun a b S Q E => ∃ m n h bi i, a = tieT m n h bi ∧ b = .str (MKS.getD i []) ∧ i < 3 ∧ 0 ≤ m ∧ m ≤ 900 ∧ 0 ≤ n ∧ n ≤ 900 ∧ 0 ≤ h ∧ h < 2 ∧ Q (.str (wordW m n h bi i)) S
def N_word_of : List Str := ["tie", "mark"]
def c_word_of : TTS :=
  (cRet (cOp addT (cCall sp_word_ahead (cCons (cVar 0) cNil)) (cCall sp_half_word (cCons (cVar 0) (cCons (cVar 1) cNil)))))
theorem vc_word_of : VC N_word_of sp_word_of c_word_of := by
  rintro ts S Q E ⟨a, b, rfl, m, n, h, bi, i, rfl, rfl, hi, h1, h2, h3, h4, h5, h6, hq⟩
  have hs := sizeLine_eq
  have hp := plainW_len (i := i) h1 h2 h3 h4
  have l1 := aheadBy_len bi
  have l2 := halfBy_len h
  simp only [c_word_of, N_word_of, cSeq, cSkip, cRet, cRetN, cSet, cAsg, cDo, cIfS, cPar2, cPar3, cBrk, cCont, cVar, cC, cOp, cUn, cIf, cNil, cCons, cTup, cLst, cLstM, bVal, bAnd, bOr, bNot, bYes, cAnd, cOr, cNot, cCall, cFn, cM, cSl, oNo, oSome, cChain, gN, gT, gL, gZ, gC, gIx, TL.startT, List.map_cons, List.map_nil, List.cons_append, List.nil_append, List.length_cons, List.length_nil, List.replicate_succ, List.replicate_zero, List.set_cons_zero, List.set_cons_succ, List.getElem?_cons_zero, List.getElem?_cons_succ, Option.some.injEq, Option.map_some, exists_eq_left', exists_eq_left, T.bl.injEq, T.int.injEq, T.str.injEq, T.tup.injEq, T.lst.injEq, T.ref.injEq, List.cons.injEq, and_true, true_and, res, wipeT, sp1_at, sp2_at, sp3_at, sp4_at, sp5_at, Nat.reduceAdd, Nat.reduceSub, if_true, if_false, Bool.false_eq_true, Bool.true_eq_false, ex_ite, addT_int, addT_str, addT_lst, addT_tup, subT_int, mulT2_int, mulT2_str, fdivT_int, modT_int, powT_int, negT_int, eqT_int, neT_int, eqT_str, neT_str, eqT_bl, neT_bl, ltT_int, gtT_int, leT_int, geT_int, ixT_lst, ixT_tup, ixT_str, atI_0, atI_1, atI_2, atI_3, ixT_ups, lenF_ups, ixN_30, ixN_31, ixN_32, lenF_lst, lenF_tup, lenF_str, absF_int, intF_int, intF_bl, max2F_int, min2F_int, strF_int, isi_str, isi_int, isi_tup, isi_lst, slT_lst, slT_tup, slT_str, slT_scr, ups_ups, ups_same, decide_eq_true_eq, Cell.lst.injEq, Option.map_eq_some_iff, exists_and_left, exists_const, Bool.not_eq_true', sp_word_ahead, sp_half_word]
  exact ⟨m, n, h, bi, rfl, m, n, h, bi, rfl, i, rfl, hi, h1, h2, h3, h4, h5, h6, by rw [List.length_append]; omega, Fin.of hq⟩
/-! law_pen_of -/
def sp_law_pen_of : SpT := sp1 fun a S Q _ => ∃ ns : List Int, a = .scr ns ∧ ∀ p c, S p = none → PenC 0 c → Q (.ref p) (ups S p c)
def N_law_pen_of : List Str := ["_law_script", "_law_cell"]
def c_law_pen_of : TTS :=
  (cRet (cLstM (cCons (cComp (iSeq (cSl (cVar 0) oNo (oSome (cC (.int 63))))) (gN 1) bYes (cVar 1) [1]) (cCons (cC (.int 0)) (cCons (cC (.int 0)) cNil)))))
theorem vc_law_pen_of : VC N_law_pen_of sp_law_pen_of c_law_pen_of := by
  rintro ts S Q E ⟨a, rfl, ns, rfl, hq⟩
  simp only [c_law_pen_of, N_law_pen_of, cSeq, cSkip, cRet, cRetN, cSet, cAsg, cDo, cIfS, cPar2, cPar3, cBrk, cCont, cVar, cC, cOp, cUn, cIf, cNil, cCons, cTup, cLst, cLstM, bVal, bAnd, bOr, bNot, bYes, cAnd, cOr, cNot, cCall, cFn, cM, cSl, oNo, oSome, cChain, gN, gT, gL, gZ, gC, gIx, TL.startT, List.map_cons, List.map_nil, List.cons_append, List.nil_append, List.length_cons, List.length_nil, List.replicate_succ, List.replicate_zero, List.set_cons_zero, List.set_cons_succ, List.getElem?_cons_zero, List.getElem?_cons_succ, Option.some.injEq, Option.map_some, exists_eq_left', exists_eq_left, T.bl.injEq, T.int.injEq, T.str.injEq, T.tup.injEq, T.lst.injEq, T.ref.injEq, List.cons.injEq, and_true, true_and, res, wipeT, sp1_at, sp2_at, sp3_at, sp4_at, sp5_at, Nat.reduceAdd, Nat.reduceSub, if_true, if_false, Bool.false_eq_true, Bool.true_eq_false, cComp, iSeq, slT_scr, items]
  have hl : (cutT ns none (some 63)).length ≤ 63 := by
    have h1 := cut_le ns none 63 (by omega)
    omega
  have hs := sizeLine_eq
  refine compT_map id trivial (by rw [List.length_map]; omega) ?_ ?_
  · rw [List.map_id]
    refine ⟨by omega, fun p hp => Fin.of (hq p _ hp ⟨_, 0, 0, rfl, by omega, by omega, by omega, hl⟩)⟩
  · intro x hx R N h
    simpa only [cSeq, cSkip, cRet, cRetN, cSet, cAsg, cDo, cIfS, cPar2, cPar3, cBrk, cCont, cVar, cC, cOp, cUn, cIf, cNil, cCons, cTup, cLst, cLstM, bVal, bAnd, bOr, bNot, bYes, cAnd, cOr, cNot, cCall, cFn, cM, cSl, oNo, oSome, cChain, gN, gT, gL, gZ, gC, gIx, TL.startT, List.map_cons, List.map_nil, List.cons_append, List.nil_append, List.length_cons, List.length_nil, List.replicate_succ, List.replicate_zero, List.set_cons_zero, List.set_cons_succ, List.getElem?_cons_zero, List.getElem?_cons_succ, Option.some.injEq, Option.map_some, exists_eq_left', exists_eq_left, T.bl.injEq, T.int.injEq, T.str.injEq, T.tup.injEq, T.lst.injEq, T.ref.injEq, List.cons.injEq, and_true, true_and, res, wipeT, sp1_at, sp2_at, sp3_at, sp4_at, sp5_at, Nat.reduceAdd, Nat.reduceSub, if_true, if_false, Bool.false_eq_true, Bool.true_eq_false, wipeT, id] using h
/-! law_draw -/
def sp_law_draw : SpT := sp2 fun a b S Q _ => ∃ p n many c, a = .ref p ∧ b = .int many ∧ 0 < many ∧ many < 1000000000 ∧ n ≤ big ∧ S p = some c ∧ PenC n c ∧ ∀ d c', 0 ≤ d → d < many → PenC (n + 1) c' → Q (.int d) (ups S p c')
theorem draw_at {p : Addr} {S : Sto} {c : Cell} {n : Nat} {many : Int} {Q E : T → Sto → Prop} (h1 : S p = some c) (h2 : PenC n c) (h3 : n ≤ 1000000000000000000000000000000) (h4 : 0 < many) (h5 : many < 1000000000) (h : ∀ d c', 0 ≤ d → d < many → PenC (n + 1) c' → Q (.int d) (ups S p c')) : sp_law_draw [.ref p, .int many] S Q E :=
  ⟨_, _, rfl, p, n, many, c, rfl, rfl, h4, h5, h3, h1, h2, h⟩
def N_law_draw : List Str := ["_law_pen", "_law_many", "_law_digit", "_law_at", "_law_cell", "_law_number"]
def c_law_draw : TTS :=
  (cSeq (cIfS (bVal (cOp gtT (cOp ixT (cVar 0) (cC (.int 2))) (cC (.int 0)))) (cSeq (cSet 2 (cOp modT (cOp ixT (cVar 0) (cC (.int 2))) (cVar 1)))
    (cSeq (cAsg (cOp fdivT (cOp ixT (cVar 0) (cC (.int 2))) (cVar 1)) (gIx (cVar 0) (cC (.int 2))))
    (cRet (cVar 2)))) cSkip)
    (cSeq (cSet 3 (cOp ixT (cVar 0) (cC (.int 1))))
    (cSeq (cAsg (cOp addT (cVar 3) (cC (.int 1))) (gIx (cVar 0) (cC (.int 1))))
    (cSeq (cSet 4 (cC (.int 11)))
    (cSeq (cIfS (bVal (cOp gtT (cFn lenF (cCons (cOp ixT (cVar 0) (cC (.int 0))) cNil)) (cC (.int 0)))) (cSet 4 (cOp ixT (cOp ixT (cVar 0) (cC (.int 0))) (cOp modT (cVar 3) (cFn lenF (cCons (cOp ixT (cVar 0) (cC (.int 0))) cNil))))) cSkip)
    (cSeq (cIfS (bAnd (bVal (cOp ltT (cVar 3) (cFn lenF (cCons (cOp ixT (cVar 0) (cC (.int 0))) cNil)))) (bVal (cOp geT (cFn absF (cCons (cVar 4) cNil)) (cOp powT (cC (.int 10)) (cC (.int 18)))))) (cSeq (cAsg (cOp fdivT (cFn absF (cCons (cVar 4) cNil)) (cVar 1)) (gIx (cVar 0) (cC (.int 2))))
    (cRet (cOp modT (cFn absF (cCons (cVar 4) cNil)) (cVar 1)))) cSkip)
    (cSeq (cSet 5 (cOp modT (cOp mulT2 (cOp addT (cOp addT (cOp modT (cVar 4) (cC (.int 2147483647))) (cOp mulT2 (cC (.int 69621)) (cVar 3))) (cC (.int 13))) (cC (.int 48271))) (cC (.int 2147483629))))
    (cSeq (cSet 5 (cOp modT (cOp mulT2 (cOp modT (cOp mulT2 (cVar 5) (cVar 5)) (cC (.int 2147483587))) (cOp addT (cOp addT (cOp modT (cVar 5) (cC (.int 65521))) (cOp mulT2 (cC (.int 7)) (cVar 3))) (cC (.int 1)))) (cC (.int 2147483563))))
    (cRet (cOp modT (cOp fdivT (cVar 5) (cC (.int 32))) (cVar 1)))))))))))
theorem vc_law_draw : VC N_law_draw sp_law_draw c_law_draw := by
  rintro ts S Q E ⟨a, b, rfl, p, n, many, c, rfl, rfl, h1, h2, h3, h4, ⟨ns, at_, rest, rfl, a1, a2, a3, a4⟩, hq⟩
  have h3 : n ≤ 1000000000000000000000000000000 := h3
  simp only [c_law_draw, N_law_draw, cSeq, cSkip, cRet, cRetN, cSet, cAsg, cDo, cIfS, cPar2, cPar3, cBrk, cCont, cVar, cC, cOp, cUn, cIf, cNil, cCons, cTup, cLst, cLstM, bVal, bAnd, bOr, bNot, bYes, cAnd, cOr, cNot, cCall, cFn, cM, cSl, oNo, oSome, cChain, gN, gT, gL, gZ, gC, gIx, TL.startT, List.map_cons, List.map_nil, List.cons_append, List.nil_append, List.length_cons, List.length_nil, List.replicate_succ, List.replicate_zero, List.set_cons_zero, List.set_cons_succ, List.getElem?_cons_zero, List.getElem?_cons_succ, Option.some.injEq, Option.map_some, exists_eq_left', exists_eq_left, T.bl.injEq, T.int.injEq, T.str.injEq, T.tup.injEq, T.lst.injEq, T.ref.injEq, List.cons.injEq, and_true, true_and, res, wipeT, sp1_at, sp2_at, sp3_at, sp4_at, sp5_at, Nat.reduceAdd, Nat.reduceSub, if_true, if_false, Bool.false_eq_true, Bool.true_eq_false, ex_ite, addT_int, addT_str, addT_lst, addT_tup, subT_int, mulT2_int, mulT2_str, fdivT_int, modT_int, powT_int, negT_int, eqT_int, neT_int, eqT_str, neT_str, eqT_bl, neT_bl, ltT_int, gtT_int, leT_int, geT_int, ixT_lst, ixT_tup, ixT_str, atI_0, atI_1, atI_2, atI_3, ixT_ups, lenF_ups, ixN_30, ixN_31, ixN_32, lenF_lst, lenF_tup, lenF_str, absF_int, intF_int, intF_bl, max2F_int, min2F_int, strF_int, isi_str, isi_int, isi_tup, isi_lst, slT_lst, slT_tup, slT_str, slT_scr, ups_ups, ups_same, decide_eq_true_eq, Cell.lst.injEq, Option.map_eq_some_iff, exists_and_left, exists_const, Bool.not_eq_true', ixT_ref h4, h4]
  have hfin : ∀ (d : Int) (rest' : Int), 0 ≤ d → d < many → 0 ≤ rest' → TL.Fin Q (.int d) (ups S p (.lst [.lst (ns.map T.int), .int (at_ + 1), .int rest'])) := fun d r d1 d2 r1 =>
    Fin.of (hq d _ d1 d2 ⟨ns, at_ + 1, r, rfl, by omega, by omega, r1, a4⟩)
  by_cases r : 0 < rest
  · rw [if_pos r]
    exact ⟨modI_b h1, divI_b h1 (by omega), Fin.of (hq _ _ (fmod_lo h1) (fmod_hi h1) ⟨ns, at_, _, rfl, a1, by omega, fdiv_lo a3 h1, a4⟩)⟩
  rw [if_neg r]
  have m1 : mulI 69621 at_ = true := mulI_b (by omega) (by omega)
  have m2 : mulI 7 at_ = true := mulI_b (by omega) (by omega)
  have m3 : ∀ z : Int, mulI (z.fmod 2147483647 + 69621 * at_ + 13) 48271 = true := fun z => by
    have := fmod_lo (i := z) (j := 2147483647) (by omega)
    have := fmod_hi (i := z) (j := 2147483647) (by omega)
    exact mulI_b (by omega) (by omega)
  have m4 : ∀ z : Int, mulI (z.fmod 2147483629) (z.fmod 2147483629) = true := fun z => by
    have := fmod_lo (i := z) (j := 2147483629) (by omega)
    have := fmod_hi (i := z) (j := 2147483629) (by omega)
    exact mulI_b (by omega) (by omega)
  have m5 : ∀ z y : Int, mulI (z.fmod 2147483587) (y.fmod 65521 + 7 * at_ + 1) = true := fun z y => by
    have := fmod_lo (i := z) (j := 2147483587) (by omega)
    have := fmod_hi (i := z) (j := 2147483587) (by omega)
    have := fmod_lo (i := y) (j := 65521) (by omega)
    have := fmod_hi (i := y) (j := 65521) (by omega)
    exact mulI_b (by omega) (by omega)
  have hp : powI 10 18 = true := by decide
  have md : ∀ z j : Int, 0 < j → modI z j = true := fun z j => modI_b
  have e1 : ∀ z : Int, modI z 2147483647 = true := fun z => modI_b (by omega)
  have e2 : ∀ z : Int, modI z 2147483629 = true := fun z => modI_b (by omega)
  have e3 : ∀ z : Int, modI z 2147483587 = true := fun z => modI_b (by omega)
  have e4 : ∀ z : Int, modI z 65521 = true := fun z => modI_b (by omega)
  have e5 : ∀ z : Int, modI z 2147483563 = true := fun z => modI_b (by omega)
  have e6 : ∀ z : Int, modI z many = true := fun z => modI_b h1
  have e7 : ∀ z : Int, divI z many = true := fun z => divI_b h1 (by omega)
  have e8 : ∀ z : Int, divI z 32 = true := fun z => divI_b (by omega) (by omega)
  have ft : (false = true) = False := by simp
  have key : ∀ z : Int, (if at_ < ((ns.map T.int).length : Int) then if 10 ^ Int.toNat 18 ≤ (if z < 0 then -z else z) then TL.Fin Q (T.int ((if z < 0 then -z else z).fmod many)) (ups S p (Cell.lst [T.lst (List.map T.int ns), T.int (at_ + 1), T.int ((if z < 0 then -z else z).fdiv many)]))
      else TL.Fin Q (T.int (((((((z.fmod 2147483647 + 69621 * at_ + 13) * 48271).fmod 2147483629 * ((z.fmod 2147483647 + 69621 * at_ + 13) * 48271).fmod 2147483629).fmod 2147483587 * ((((z.fmod 2147483647 + 69621 * at_ + 13) * 48271).fmod 2147483629).fmod 65521 + 7 * at_ + 1)).fmod 2147483563).fdiv 32).fmod many)) (ups S p (Cell.lst [T.lst (List.map T.int ns), T.int (at_ + 1), T.int rest]))
      else TL.Fin Q (T.int (((((((z.fmod 2147483647 + 69621 * at_ + 13) * 48271).fmod 2147483629 * ((z.fmod 2147483647 + 69621 * at_ + 13) * 48271).fmod 2147483629).fmod 2147483587 * ((((z.fmod 2147483647 + 69621 * at_ + 13) * 48271).fmod 2147483629).fmod 65521 + 7 * at_ + 1)).fmod 2147483563).fdiv 32).fmod many)) (ups S p (Cell.lst [T.lst (List.map T.int ns), T.int (at_ + 1), T.int rest]))) := fun z => by
    have hw : 0 ≤ (if z < 0 then -z else z) := by split <;> omega
    generalize (if z < 0 then -z else z) = w at hw
    split
    · split
      · exact hfin _ _ (fmod_lo h1) (fmod_hi h1) (fdiv_lo hw h1)
      · exact hfin _ _ (fmod_lo h1) (fmod_hi h1) a3
    · exact hfin _ _ (fmod_lo h1) (fmod_hi h1) a3
  by_cases l : 0 < ((ns.map T.int).length : Int)
  · rw [if_pos l]
    refine ⟨modI_b l, ?_⟩
    obtain ⟨y, hy, ey⟩ := atI_ok (us := ns.map T.int) (i := at_.fmod ((ns.map T.int).length : Int)) (fmod_lo l) (fmod_hi l)
    obtain ⟨z, _, rfl⟩ := List.mem_map.mp hy
    refine ⟨_, ey, ?_⟩
    simp only [cSeq, cSkip, cRet, cRetN, cSet, cAsg, cDo, cIfS, cPar2, cPar3, cBrk, cCont, cVar, cC, cOp, cUn, cIf, cNil, cCons, cTup, cLst, cLstM, bVal, bAnd, bOr, bNot, bYes, cAnd, cOr, cNot, cCall, cFn, cM, cSl, oNo, oSome, cChain, gN, gT, gL, gZ, gC, gIx, TL.startT, List.map_cons, List.map_nil, List.cons_append, List.nil_append, List.length_cons, List.length_nil, List.replicate_succ, List.replicate_zero, List.set_cons_zero, List.set_cons_succ, List.getElem?_cons_zero, List.getElem?_cons_succ, Option.some.injEq, Option.map_some, exists_eq_left', exists_eq_left, T.bl.injEq, T.int.injEq, T.str.injEq, T.tup.injEq, T.lst.injEq, T.ref.injEq, List.cons.injEq, and_true, true_and, res, wipeT, sp1_at, sp2_at, sp3_at, sp4_at, sp5_at, Nat.reduceAdd, Nat.reduceSub, if_true, if_false, Bool.false_eq_true, Bool.true_eq_false, ex_ite, addT_int, addT_str, addT_lst, addT_tup, subT_int, mulT2_int, mulT2_str, fdivT_int, modT_int, powT_int, negT_int, eqT_int, neT_int, eqT_str, neT_str, eqT_bl, neT_bl, ltT_int, gtT_int, leT_int, geT_int, ixT_lst, ixT_tup, ixT_str, atI_0, atI_1, atI_2, atI_3, ixT_ups, lenF_ups, ixN_30, ixN_31, ixN_32, lenF_lst, lenF_tup, lenF_str, absF_int, intF_int, intF_bl, max2F_int, min2F_int, strF_int, isi_str, isi_int, isi_tup, isi_lst, slT_lst, slT_tup, slT_str, slT_scr, ups_ups, ups_same, decide_eq_true_eq, Cell.lst.injEq, Option.map_eq_some_iff, exists_and_left, exists_const, Bool.not_eq_true', m1, m2, m3, m4, m5, hp, e1, e2, e3, e4, e5, e6, e7, e8, ft, if_false]
    exact key z
  · rw [if_neg l]
    simp only [cSeq, cSkip, cRet, cRetN, cSet, cAsg, cDo, cIfS, cPar2, cPar3, cBrk, cCont, cVar, cC, cOp, cUn, cIf, cNil, cCons, cTup, cLst, cLstM, bVal, bAnd, bOr, bNot, bYes, cAnd, cOr, cNot, cCall, cFn, cM, cSl, oNo, oSome, cChain, gN, gT, gL, gZ, gC, gIx, TL.startT, List.map_cons, List.map_nil, List.cons_append, List.nil_append, List.length_cons, List.length_nil, List.replicate_succ, List.replicate_zero, List.set_cons_zero, List.set_cons_succ, List.getElem?_cons_zero, List.getElem?_cons_succ, Option.some.injEq, Option.map_some, exists_eq_left', exists_eq_left, T.bl.injEq, T.int.injEq, T.str.injEq, T.tup.injEq, T.lst.injEq, T.ref.injEq, List.cons.injEq, and_true, true_and, res, wipeT, sp1_at, sp2_at, sp3_at, sp4_at, sp5_at, Nat.reduceAdd, Nat.reduceSub, if_true, if_false, Bool.false_eq_true, Bool.true_eq_false, ex_ite, addT_int, addT_str, addT_lst, addT_tup, subT_int, mulT2_int, mulT2_str, fdivT_int, modT_int, powT_int, negT_int, eqT_int, neT_int, eqT_str, neT_str, eqT_bl, neT_bl, ltT_int, gtT_int, leT_int, geT_int, ixT_lst, ixT_tup, ixT_str, atI_0, atI_1, atI_2, atI_3, ixT_ups, lenF_ups, ixN_30, ixN_31, ixN_32, lenF_lst, lenF_tup, lenF_str, absF_int, intF_int, intF_bl, max2F_int, min2F_int, strF_int, isi_str, isi_int, isi_tup, isi_lst, slT_lst, slT_tup, slT_str, slT_scr, ups_ups, ups_same, decide_eq_true_eq, Cell.lst.injEq, Option.map_eq_some_iff, exists_and_left, exists_const, Bool.not_eq_true', m1, m2, m3, m4, m5, hp, e1, e2, e3, e4, e5, e6, e7, e8, ft, if_false]
    exact key 11
/-! law_line_of -/
theorem jn_rep (n : Nat) (x : List Sg) : jnL [] (List.replicate n x) = repS n x := by
  cases n with
  | zero => rfl
  | succ n =>
    rw [List.replicate_succ, repS_succ]
    show x ++ ((List.replicate n x).map ([] ++ ·)).flatten = _
    have : (List.replicate n x).map (([] : List Sg) ++ ·) = List.replicate n x := by simp
    rw [this]
    rfl
theorem map_const_rep {n : Nat} {lo : Int} {x : List Sg} : (((List.range n).map fun i => T.int (lo + (i : Nat))).map fun _ => T.str x) = (List.replicate n x).map T.str := by
  apply List.ext_getElem <;> simp
def sp_law_line_of : SpT := sp3 fun a b c S Q E => ∃ (xs : List (List Sg)) (i : Nat) (n : Int) (w : List Sg), a = .lst (xs.map T.str) ∧ b = .int i ∧ c = .int n ∧ xs[i]? = some w ∧ w.length ≤ 1000 ∧ n ≤ 1000 ∧ -900 ≤ n ∧ Q (.str (lineW w n)) S
def N_law_line_of : List Str := ["_law_words", "_law_at", "_law_steps", "_law_k"]
def c_law_line_of : TTS :=
  (cSeq (cIfS (bVal (cOp eqT (cVar 2) (cC (.int 1)))) (cRet (cOp ixT (cVar 0) (cVar 1))) cSkip)
    (cRet (cOp addT (cOp addT (cM isStr joinF (cC (.str (q ""))) (cCons (cComp (iRange1 (cOp subT (cVar 2) (cC (.int 2)))) (gN 3) bYes (cC (.str (q "great-"))) [3]) cNil)) (cC (.str (q "grand")))) (cOp ixT (cVar 0) (cVar 1)))))
theorem vc_law_line_of : VC N_law_line_of sp_law_line_of c_law_line_of := by
  rintro ts S Q E ⟨a, b, c, rfl, xs, i, n, w, rfl, rfl, rfl, h1, h2, h3, h4, hq⟩
  have ha : L2.atI (xs.map T.str) (i : Int) = some (.str w) := by rw [atI_natE, List.getElem?_map, h1]; rfl
  have e0 : q "" = [] := by decide +kernel
  simp only [c_law_line_of, N_law_line_of, cSeq, cSkip, cRet, cRetN, cSet, cAsg, cDo, cIfS, cPar2, cPar3, cBrk, cCont, cVar, cC, cOp, cUn, cIf, cNil, cCons, cTup, cLst, cLstM, bVal, bAnd, bOr, bNot, bYes, cAnd, cOr, cNot, cCall, cFn, cM, cSl, oNo, oSome, cChain, gN, gT, gL, gZ, gC, gIx, TL.startT, List.map_cons, List.map_nil, List.cons_append, List.nil_append, List.length_cons, List.length_nil, List.replicate_succ, List.replicate_zero, List.set_cons_zero, List.set_cons_succ, List.getElem?_cons_zero, List.getElem?_cons_succ, Option.some.injEq, Option.map_some, exists_eq_left', exists_eq_left, T.bl.injEq, T.int.injEq, T.str.injEq, T.tup.injEq, T.lst.injEq, T.ref.injEq, List.cons.injEq, and_true, true_and, res, wipeT, sp1_at, sp2_at, sp3_at, sp4_at, sp5_at, Nat.reduceAdd, Nat.reduceSub, if_true, if_false, Bool.false_eq_true, Bool.true_eq_false, ex_ite, addT_int, addT_str, addT_lst, addT_tup, subT_int, mulT2_int, mulT2_str, fdivT_int, modT_int, powT_int, negT_int, eqT_int, neT_int, eqT_str, neT_str, eqT_bl, neT_bl, ltT_int, gtT_int, leT_int, geT_int, ixT_lst, ixT_tup, ixT_str, atI_0, atI_1, atI_2, atI_3, ixT_ups, lenF_ups, ixN_30, ixN_31, ixN_32, lenF_lst, lenF_tup, lenF_str, absF_int, intF_int, intF_bl, max2F_int, min2F_int, strF_int, isi_str, isi_int, isi_tup, isi_lst, slT_lst, slT_tup, slT_str, slT_scr, ups_ups, ups_same, decide_eq_true_eq, Cell.lst.injEq, Option.map_eq_some_iff, exists_and_left, exists_const, Bool.not_eq_true', cComp, iRange1, ha, e0, isStr]
  have hs := sizeLine_eq
  have hg := grt_len (n := n - 2) (by omega)
  have hl := len_grand
  unfold lineW at hq
  by_cases e : n = 1
  · rw [if_pos e] at hq ⊢
    exact Fin.of hq
  · rw [if_neg e] at hq ⊢
    refine ⟨by omega, by omega, compT_map (fun _ => .str (q "great-")) trivial (by simp; omega) ?_ fun x _ R N h => by simpa only [cSeq, cSkip, cRet, cRetN, cSet, cAsg, cDo, cIfS, cPar2, cPar3, cBrk, cCont, cVar, cC, cOp, cUn, cIf, cNil, cCons, cTup, cLst, cLstM, bVal, bAnd, bOr, bNot, bYes, cAnd, cOr, cNot, cCall, cFn, cM, cSl, oNo, oSome, cChain, gN, gT, gL, gZ, gC, gIx, TL.startT, List.map_cons, List.map_nil, List.cons_append, List.nil_append, List.length_cons, List.length_nil, List.replicate_succ, List.replicate_zero, List.set_cons_zero, List.set_cons_succ, List.getElem?_cons_zero, List.getElem?_cons_succ, Option.some.injEq, Option.map_some, exists_eq_left', exists_eq_left, T.bl.injEq, T.int.injEq, T.str.injEq, T.tup.injEq, T.lst.injEq, T.ref.injEq, List.cons.injEq, and_true, true_and, res, wipeT, sp1_at, sp2_at, sp3_at, sp4_at, sp5_at, Nat.reduceAdd, Nat.reduceSub, if_true, if_false, Bool.false_eq_true, Bool.true_eq_false] using h⟩
    rw [map_const_rep]
    have hz : joinSz [] (List.replicate (n - 2).toNat (q "great-")) = true := by
      simp only [joinSz, List.map_replicate, List.sum_replicate_nat, len_great, decide_eq_true_eq]
      simp
      omega
    simp only [cSeq, cSkip, cRet, cRetN, cSet, cAsg, cDo, cIfS, cPar2, cPar3, cBrk, cCont, cVar, cC, cOp, cUn, cIf, cNil, cCons, cTup, cLst, cLstM, bVal, bAnd, bOr, bNot, bYes, cAnd, cOr, cNot, cCall, cFn, cM, cSl, oNo, oSome, cChain, gN, gT, gL, gZ, gC, gIx, TL.startT, List.map_cons, List.map_nil, List.cons_append, List.nil_append, List.length_cons, List.length_nil, List.replicate_succ, List.replicate_zero, List.set_cons_zero, List.set_cons_succ, List.getElem?_cons_zero, List.getElem?_cons_succ, Option.some.injEq, Option.map_some, exists_eq_left', exists_eq_left, T.bl.injEq, T.int.injEq, T.str.injEq, T.tup.injEq, T.lst.injEq, T.ref.injEq, List.cons.injEq, and_true, true_and, res, wipeT, sp1_at, sp2_at, sp3_at, sp4_at, sp5_at, Nat.reduceAdd, Nat.reduceSub, if_true, if_false, Bool.false_eq_true, Bool.true_eq_false, ex_ite, addT_int, addT_str, addT_lst, addT_tup, subT_int, mulT2_int, mulT2_str, fdivT_int, modT_int, powT_int, negT_int, eqT_int, neT_int, eqT_str, neT_str, eqT_bl, neT_bl, ltT_int, gtT_int, leT_int, geT_int, ixT_lst, ixT_tup, ixT_str, atI_0, atI_1, atI_2, atI_3, ixT_ups, lenF_ups, ixN_30, ixN_31, ixN_32, lenF_lst, lenF_tup, lenF_str, absF_int, intF_int, intF_bl, max2F_int, min2F_int, strF_int, isi_str, isi_int, isi_tup, isi_lst, slT_lst, slT_tup, slT_str, slT_scr, ups_ups, ups_same, decide_eq_true_eq, Cell.lst.injEq, Option.map_eq_some_iff, exists_and_left, exists_const, Bool.not_eq_true', joinF, strsOf_map, hz, jn_rep, ha, List.length_append]
    unfold grt at hq hg
    exact ⟨by omega, by omega, Fin.of hq⟩
/-! law_word_due -/
def sp_law_word_due : SpT := sp5 fun a b c d e S Q E => ∃ m n h bi i, a = .int m ∧ b = .int n ∧ c = .int h ∧ d = .str (byT bi) ∧ e = .str (MKS.getD i []) ∧ i < 3 ∧ 0 ≤ m ∧ m ≤ 40 ∧ 0 ≤ n ∧ n ≤ 40 ∧ 0 ≤ h ∧ h < 2 ∧ Q (.str (wordW m n h bi i)) S
theorem occ_mk : Builtin.Str.occurrences (txt (q "wmo")) (txt (MKS.getD 0 [])) 0 (txt (q "wmo")).length 1 = [0] ∧ Builtin.Str.occurrences (txt (q "wmo")) (txt (MKS.getD 1 [])) 0 (txt (q "wmo")).length 1 = [1] ∧ Builtin.Str.occurrences (txt (q "wmo")) (txt (MKS.getD 2 [])) 0 (txt (q "wmo")).length 1 = [2] := by decide +kernel
theorem six_mk {S : Sto} {i : Nat} (h : i < 3) : sixF S (.str (q "wmo")) [.str (MKS.getD i [])] = some (.int (i : Nat)) := by
  obtain ⟨a, b, c⟩ := occ_mk
  match i, h with
  | 0, _ => simp only [sixF, a]
  | 1, _ => simp only [sixF, b]
  | 2, _ => simp only [sixF, c]
def AHD : List (List Sg) := DEG ++ (List.range 36).map fun k : Nat => strI (5 + (k : Int)) ++ q "th"
theorem AHD_len : AHD.length = 40 := by simp [AHD, DEG]
theorem AHD_at {d : Int} (h0 : 1 ≤ d) (h1 : d ≤ 40) : L2.atI (AHD.map T.str) (d - 1) = some (.str (aheadW d)) := by
  rw [atI_strs (by omega) (by rw [AHD_len]; omega)]
  congr 2
  unfold aheadW AHD
  rw [List.getD_eq_getElem?_getD]
  split
  · rw [List.getElem?_append_left (by show (d - 1).toNat < 4; omega), List.getD_eq_getElem?_getD]
  · rw [List.getElem?_append_right (by show 4 ≤ (d - 1).toNat; omega), List.getElem?_map]
    have e : DEG.length = 4 := rfl
    rw [e, List.getElem?_range (by omega)]
    show strI (5 + (((d - 1).toNat - 4 : Nat) : Int)) ++ q "th" = _
    congr 2
    omega
theorem map_AHD : [T.str (q "first"), .str (q "second"), .str (q "third"), .str (q "fourth")] ++ (((List.range (41 - 5 : Int).toNat).map fun k => T.int (5 + (k : Nat))).map fun t => match t with | .int i => T.str (strI i ++ q "th") | _ => .non) = AHD.map T.str := by
  unfold AHD
  rw [List.map_append, List.map_map, List.map_map]
  rfl
theorem TMS_at {f : Int} (h0 : 0 ≤ f) {w : T} (hw : ¬ f < 3 → w = .str (behindW f)) : L2.atI [T.str [], T.str (q " once removed"), T.str (q " twice removed"), w] (if 3 < f then 3 else f) = some (if f < 3 then .str (behindW f) else w) := by
  have e0 : q "" = [] := by decide +kernel
  have e1 : TMS.getD 0 [] = [] := e0
  rcases (by omega : f = 0 ∨ f = 1 ∨ f = 2 ∨ 3 ≤ f) with z | z | z | z
  · subst z; rw [if_neg (by omega), if_pos (by omega), atI_0]; unfold behindW; rw [if_pos (by omega)]; rw [show TMS.getD (Int.toNat 0) [] = [] from e1]
  · subst z; rw [if_neg (by omega), if_pos (by omega), atI_1]; rfl
  · subst z; rw [if_neg (by omega), if_pos (by omega), atI_2]; rfl
  · rw [if_neg (by omega : ¬ f < 3)]
    split
    · exact atI_3
    · have : f = 3 := by omega
      subst this
      exact atI_3
def N_law_word_due : List Str := ["_law_m", "_law_n", "_law_half", "_law_by", "_law_mark", "_law_at", "_law_word", "_law_degree", "_law_ahead", "_law_far", "_law_k"]
def c_law_word_due : TTS :=
  (cSeq (cSet 5 (cM isStr sixF (cC (.str (q "wmo"))) (cCons (cVar 4) cNil)))
    (cSeq (cSet 6 (cC (.str (q ""))))
    (cSeq (cIfS (bVal (cOp eqT (cVar 0) (cC (.int 0)))) (cSet 6 (cCall sp_law_line_of (cCons (cLst (cCons (cC (.str (q "mother"))) (cCons (cC (.str (q "father"))) (cCons (cC (.str (q "parent"))) cNil)))) (cCons (cVar 5) (cCons (cVar 1) cNil))))) (cIfS (bVal (cOp eqT (cVar 1) (cC (.int 0)))) (cSet 6 (cCall sp_law_line_of (cCons (cLst (cCons (cC (.str (q "daughter"))) (cCons (cC (.str (q "son"))) (cCons (cC (.str (q "child"))) cNil)))) (cCons (cVar 5) (cCons (cVar 0) cNil))))) (cIfS (bAnd (bVal (cOp eqT (cVar 0) (cC (.int 1)))) (bVal (cOp eqT (cVar 1) (cC (.int 1))))) (cSet 6 (cOp ixT (cLst (cCons (cC (.str (q "sister"))) (cCons (cC (.str (q "brother"))) (cCons (cC (.str (q "sibling"))) cNil)))) (cVar 5))) (cIfS (bVal (cOp eqT (cVar 0) (cC (.int 1)))) (cSet 6 (cOp addT (cOp mulT2 (cC (.str (q "great-"))) (cOp subT (cVar 1) (cC (.int 2)))) (cOp ixT (cLst (cCons (cC (.str (q "aunt"))) (cCons (cC (.str (q "uncle"))) (cCons (cC (.str (q "pibling"))) cNil)))) (cVar 5)))) (cIfS (bVal (cOp eqT (cVar 1) (cC (.int 1)))) (cSet 6 (cOp addT (cOp mulT2 (cC (.str (q "great-"))) (cOp subT (cVar 0) (cC (.int 2)))) (cOp ixT (cLst (cCons (cC (.str (q "niece"))) (cCons (cC (.str (q "nephew"))) (cCons (cC (.str (q "nibling"))) cNil)))) (cVar 5)))) (cSeq (cSet 7 (cOp subT (cFn min2F (cCons (cVar 0) (cCons (cVar 1) cNil))) (cC (.int 1))))
    (cSeq (cSet 8 (cOp addT (cLst (cCons (cC (.str (q "first"))) (cCons (cC (.str (q "second"))) (cCons (cC (.str (q "third"))) (cCons (cC (.str (q "fourth"))) cNil))))) (cComp (iRange2 (cC (.int 5)) (cC (.int 41))) (gN 10) bYes (cOp addT (cFn strF (cCons (cVar 10) cNil)) (cC (.str (q "th")))) [10])))
    (cSeq (cSet 6 (cOp addT (cOp ixT (cVar 8) (cOp subT (cVar 7) (cC (.int 1)))) (cC (.str (q " cousin")))))
    (cSeq (cSet 9 (cOp subT (cFn max2F (cCons (cVar 0) (cCons (cVar 1) cNil))) (cFn min2F (cCons (cVar 0) (cCons (cVar 1) cNil)))))
    (cSet 6 (cOp addT (cVar 6) (cOp ixT (cLst (cCons (cC (.str (q ""))) (cCons (cC (.str (q " once removed"))) (cCons (cC (.str (q " twice removed"))) (cCons (cOp addT (cOp addT (cC (.str (q " "))) (cFn strF (cCons (cVar 9) cNil))) (cC (.str (q " times removed")))) cNil))))) (cFn min2F (cCons (cVar 9) (cCons (cC (.int 3)) cNil)))))))))))))))
    (cRet (cOp addT (cOp addT (cOp mulT2 (cC (.str (q "adoptive "))) (cFn intF (cCons (cOp eqT (cVar 3) (cC (.str (q "adoption")))) cNil))) (cOp mulT2 (cC (.str (q "half-"))) (cVar 2))) (cVar 6))))))
theorem vc_law_word_due : VC N_law_word_due sp_law_word_due c_law_word_due := by
  rintro ts S Q E ⟨a, b, c, d, e, rfl, m, n, h, bi, i, rfl, rfl, rfl, rfl, rfl, hi, h1, h2, h3, h4, h5, h6, hq⟩
  have hs := sizeLine_eq
  have hp := plainW_len (m := m) (n := n) (i := i) h1 (by omega) h3 (by omega)
  have i1 : isStr (.str (q "wmo")) = true := rfl
  have e0 : q "" = [] := by decide +kernel
  have la := aheadBy_len bi
  have lh := halfBy_len h
  have l9 : (q "adoptive ").length = 9 ∧ (q "half-").length = 5 := by decide +kernel
  have ma : mulS (q "adoptive ") (if bi = false then 1 else 0) = true := by cases bi <;> decide +kernel
  have mh : mulS (q "half-") h = true := by
    simp only [mulS, l9.2, Bool.and_eq_true, decide_eq_true_eq]
    omega
  have ea : repS (if bi = false then (1 : Int) else 0).toNat (q "adoptive ") = aheadBy bi := by cases bi <;> decide +kernel
  have eh : repS h.toNat (q "half-") = halfBy h := by
    rcases (by omega : h = 0 ∨ h = 1) with z | z <;> subst z <;> decide +kernel
  have b1 : [T.str (q "mother"), .str (q "father"), .str (q "parent")] = UPS.map T.str := rfl
  have b2 : [T.str (q "daughter"), .str (q "son"), .str (q "child")] = DWN.map T.str := rfl
  have b3 : [T.str (q "sister"), .str (q "brother"), .str (q "sibling")] = BSD.map T.str := rfl
  have b4 : [T.str (q "aunt"), .str (q "uncle"), .str (q "pibling")] = ABV.map T.str := rfl
  have b5 : [T.str (q "niece"), .str (q "nephew"), .str (q "nibling")] = BLW.map T.str := rfl
  have ix : ∀ xs : List (List Sg), xs.length = 3 → L2.atI (xs.map T.str) (i : Int) = some (.str (xs.getD i [])) := fun xs h => by
    have := atI_strs (us := xs) (i := (i : Int)) (by omega) (by omega)
    rw [Int.toNat_natCast] at this
    exact this
  have gx : ∀ xs : List (List Sg), xs.length = 3 → xs[i]? = some (xs.getD i []) := fun xs h => by
    rw [List.getD_eq_getElem?_getD, List.getElem?_eq_getElem (by omega)]; rfl
  have up := getD_len (i := i) (xs := UPS) (k := 8) fun w h => W3_len w (by simp [h])
  have dn := getD_len (i := i) (xs := DWN) (k := 8) fun w h => W3_len w (by simp [h])
  have ab := getD_len (i := i) (xs := ABV) (k := 8) fun w h => W3_len w (by simp [h])
  have bl := getD_len (i := i) (xs := BLW) (k := 8) fun w h => W3_len w (by simp [h])
  have g1 := grt_len (n := n - 2) (by omega)
  have g2 := grt_len (n := m - 2) (by omega)
  have n1 := mul_great (n := n - 2) (by omega) (by omega)
  have n2 := mul_great (n := m - 2) (by omega) (by omega)
  have r1 : ∀ k : Int, repS k.toNat (q "great-") = grt k := fun _ => rfl
  have tail : ∀ w, plainW m n i = w → w.length ≤ 8000 ∧ (aheadBy bi).length + (halfBy h).length ≤ sizeLine ∧ (aheadBy bi ++ halfBy h).length + w.length ≤ sizeLine ∧ TL.Fin Q (.str (aheadBy bi ++ halfBy h ++ w)) S := fun w hw => by
    subst hw
    refine ⟨hp, by omega, by rw [List.length_append]; omega, ?_⟩
    rw [List.append_assoc]
    exact Fin.of hq
  have k1 : (UPS.map T.str).length = 3 := rfl
  have k2 : (DWN.map T.str).length = 3 := rfl
  have k3 : (BSD.map T.str).length = 3 := rfl
  have k4 : (ABV.map T.str).length = 3 := rfl
  have k5 : (BLW.map T.str).length = 3 := rfl
  simp only [c_law_word_due, N_law_word_due, cSeq, cSkip, cRet, cRetN, cSet, cAsg, cDo, cIfS, cPar2, cPar3, cBrk, cCont, cVar, cC, cOp, cUn, cIf, cNil, cCons, cTup, cLst, cLstM, bVal, bAnd, bOr, bNot, bYes, cAnd, cOr, cNot, cCall, cFn, cM, cSl, oNo, oSome, cChain, gN, gT, gL, gZ, gC, gIx, TL.startT, List.map_cons, List.map_nil, List.cons_append, List.nil_append, List.length_cons, List.length_nil, List.replicate_succ, List.replicate_zero, List.set_cons_zero, List.set_cons_succ, List.getElem?_cons_zero, List.getElem?_cons_succ, Option.some.injEq, Option.map_some, exists_eq_left', exists_eq_left, T.bl.injEq, T.int.injEq, T.str.injEq, T.tup.injEq, T.lst.injEq, T.ref.injEq, List.cons.injEq, and_true, true_and, res, wipeT, sp1_at, sp2_at, sp3_at, sp4_at, sp5_at, Nat.reduceAdd, Nat.reduceSub, if_true, if_false, Bool.false_eq_true, Bool.true_eq_false, ex_ite, addT_int, addT_str, addT_lst, addT_tup, subT_int, mulT2_int, mulT2_str, fdivT_int, modT_int, powT_int, negT_int, eqT_int, neT_int, eqT_str, neT_str, eqT_bl, neT_bl, ltT_int, gtT_int, leT_int, geT_int, ixT_lst, ixT_tup, ixT_str, atI_0, atI_1, atI_2, atI_3, ixT_ups, lenF_ups, ixN_30, ixN_31, ixN_32, lenF_lst, lenF_tup, lenF_str, absF_int, intF_int, intF_bl, max2F_int, min2F_int, strF_int, isi_str, isi_int, isi_tup, isi_lst, slT_lst, slT_tup, slT_str, slT_scr, ups_ups, ups_same, decide_eq_true_eq, Cell.lst.injEq, Option.map_eq_some_iff, exists_and_left, exists_const, Bool.not_eq_true', cComp, iRange2, i1, six_mk hi, byT_ad, sp_law_line_of, b1, b2, b3, b4, b5, ix UPS rfl, ix DWN rfl, ix BSD rfl, ix ABV rfl, ix BLW rfl, ma, mh, ea, eh, n1, n2, r1, e0]
  unfold plainW at tail
  by_cases c1 : m = 0
  · rw [if_pos c1]
    simp only [if_pos c1] at tail
    obtain ⟨t1, t2, t3, t4⟩ := tail _ rfl
    exact ⟨by omega, UPS, rfl, i, rfl, _, gx UPS rfl, by omega, by omega, by omega, t2, t3, t4⟩
  rw [if_neg c1]
  simp only [if_neg c1] at tail
  by_cases c2 : n = 0
  · rw [if_pos c2]
    simp only [if_pos c2] at tail
    obtain ⟨t1, t2, t3, t4⟩ := tail _ rfl
    exact ⟨by omega, DWN, rfl, i, rfl, _, gx DWN rfl, by omega, by omega, by omega, t2, t3, t4⟩
  rw [if_neg c2]
  simp only [if_neg c2] at tail
  have big : ¬ m = 1 → ¬ n = 1 → True := fun _ _ => trivial
  by_cases c3 : m = 1
  · by_cases c4 : n = 1
    · rw [if_pos c3, if_pos c4]
      simp only [if_pos (And.intro c3 c4)] at tail
      obtain ⟨t1, t2, t3, t4⟩ := tail _ rfl
      exact ⟨by omega, t2, t3, t4⟩
    · rw [if_pos c3, if_neg c4, if_pos c3]
      simp only [if_neg (fun z : m = 1 ∧ n = 1 => c4 z.2), if_pos c3] at tail
      obtain ⟨t1, t2, t3, t4⟩ := tail _ rfl
      exact ⟨by omega, by omega, t2, t3, t4⟩
  rw [if_neg c3, if_neg c3]
  simp only [if_neg (fun z : m = 1 ∧ n = 1 => c3 z.1), if_neg c3] at tail
  by_cases c4 : n = 1
  · rw [if_pos c4]
    simp only [if_pos c4] at tail
    obtain ⟨t1, t2, t3, t4⟩ := tail _ rfl
    exact ⟨by omega, by omega, t2, t3, t4⟩
  rw [if_neg c4]
  simp only [if_neg c4] at tail
  refine ⟨by omega, by omega, compT_map (fun t => match t with | .int i => T.str (strI i ++ q "th") | _ => .non) trivial (by simp; omega) ?_ ?_⟩
  · have fi : (if n > m then n else m) - (if n < m then n else m) = (if m - n < 0 then -(m - n) else m - n) := by
      repeat' split
      all_goals omega
    have hd0 : 1 ≤ (if n < m then n else m) - 1 := by split <;> omega
    have hd1 : (if n < m then n else m) - 1 ≤ 40 := by split <;> omega
    have hf0 : 0 ≤ (if m - n < 0 then -(m - n) else m - n) := by split <;> omega
    have hf1 : (if m - n < 0 then -(m - n) else m - n) < 1000 := by split <;> omega
    unfold cousinW at tail
    rw [fi]
    have ma2 := map_AHD
    simp only [List.cons_append, List.nil_append] at ma2
    rw [ma2, AHD_at hd0 hd1]
    generalize (if n < m then n else m) - 1 = d at *
    generalize (if m - n < 0 then -(m - n) else m - n) = f at *
    obtain ⟨t1, t2, t3, t4⟩ := tail _ rfl
    obtain ⟨l1, l2, l3, l4⟩ := len_cw
    have sf := strI_len (i := f) (k := 3) (by omega) (by decide) (by omega)
    have gf := lg_small (i := f) (by omega) (by omega)
    have ad := aheadW_len (d := d) (by omega) (by omega)
    have bf := behindW_len (f := f) (by omega) (by omega)
    have lz : (List.map (fun t => match t with | T.int i => T.str (strI i ++ q "th") | x => T.non) (List.map (fun k : Nat => T.int (5 + (k : Int))) (List.range (41 - 5 : Int).toNat))).length = 36 := by simp
    have ta := TMS_at (f := f) hf0 (w := T.str (q " " ++ strI f ++ q " times removed")) fun h => by unfold behindW; rw [if_neg h]
    have tb : (if f < 3 then T.str (behindW f) else T.str (q " " ++ strI f ++ q " times removed")) = T.str (behindW f) := by
      split
      · rfl
      · rename_i h; unfold behindW; rw [if_neg h]
    rw [tb] at ta
    refine ⟨by omega, _, rfl, ?_⟩
    simp only [cSeq, cSkip, cRet, cRetN, cSet, cAsg, cDo, cIfS, cPar2, cPar3, cBrk, cCont, cVar, cC, cOp, cUn, cIf, cNil, cCons, cTup, cLst, cLstM, bVal, bAnd, bOr, bNot, bYes, cAnd, cOr, cNot, cCall, cFn, cM, cSl, oNo, oSome, cChain, gN, gT, gL, gZ, gC, gIx, TL.startT, List.map_cons, List.map_nil, List.cons_append, List.nil_append, List.length_cons, List.length_nil, List.replicate_succ, List.replicate_zero, List.set_cons_zero, List.set_cons_succ, List.getElem?_cons_zero, List.getElem?_cons_succ, Option.some.injEq, Option.map_some, exists_eq_left', exists_eq_left, T.bl.injEq, T.int.injEq, T.str.injEq, T.tup.injEq, T.lst.injEq, T.ref.injEq, List.cons.injEq, and_true, true_and, res, wipeT, sp1_at, sp2_at, sp3_at, sp4_at, sp5_at, Nat.reduceAdd, Nat.reduceSub, if_true, if_false, Bool.false_eq_true, Bool.true_eq_false, ex_ite, addT_int, addT_str, addT_lst, addT_tup, subT_int, mulT2_int, mulT2_str, fdivT_int, modT_int, powT_int, negT_int, eqT_int, neT_int, eqT_str, neT_str, eqT_bl, neT_bl, ltT_int, gtT_int, leT_int, geT_int, ixT_lst, ixT_tup, ixT_str, atI_0, atI_1, atI_2, atI_3, ixT_ups, lenF_ups, ixN_30, ixN_31, ixN_32, lenF_lst, lenF_tup, lenF_str, absF_int, intF_int, intF_bl, max2F_int, min2F_int, strF_int, isi_str, isi_int, isi_tup, isi_lst, slT_lst, slT_tup, slT_str, slT_scr, ups_ups, ups_same, decide_eq_true_eq, Cell.lst.injEq, Option.map_eq_some_iff, exists_and_left, exists_const, Bool.not_eq_true', ta, List.length_append, l1, l2, l3, l4]
    simp only [List.length_append, l2] at t3
    exact ⟨by omega, gf, by omega, by omega, by omega, by omega, t2, by omega, t4⟩
  · intro x hx R N hr
    obtain ⟨k, hk, rfl⟩ := List.mem_map.mp hx
    have hk : k < 36 := by simpa using hk
    have sk := strI_len (i := 5 + (k : Int)) (k := 3) (by omega) (by decide) (by omega)
    simp only [cSeq, cSkip, cRet, cRetN, cSet, cAsg, cDo, cIfS, cPar2, cPar3, cBrk, cCont, cVar, cC, cOp, cUn, cIf, cNil, cCons, cTup, cLst, cLstM, bVal, bAnd, bOr, bNot, bYes, cAnd, cOr, cNot, cCall, cFn, cM, cSl, oNo, oSome, cChain, gN, gT, gL, gZ, gC, gIx, TL.startT, List.map_cons, List.map_nil, List.cons_append, List.nil_append, List.length_cons, List.length_nil, List.replicate_succ, List.replicate_zero, List.set_cons_zero, List.set_cons_succ, List.getElem?_cons_zero, List.getElem?_cons_succ, Option.some.injEq, Option.map_some, exists_eq_left', exists_eq_left, T.bl.injEq, T.int.injEq, T.str.injEq, T.tup.injEq, T.lst.injEq, T.ref.injEq, List.cons.injEq, and_true, true_and, res, wipeT, sp1_at, sp2_at, sp3_at, sp4_at, sp5_at, Nat.reduceAdd, Nat.reduceSub, if_true, if_false, Bool.false_eq_true, Bool.true_eq_false, ex_ite, addT_int, addT_str, addT_lst, addT_tup, subT_int, mulT2_int, mulT2_str, fdivT_int, modT_int, powT_int, negT_int, eqT_int, neT_int, eqT_str, neT_str, eqT_bl, neT_bl, ltT_int, gtT_int, leT_int, geT_int, ixT_lst, ixT_tup, ixT_str, atI_0, atI_1, atI_2, atI_3, ixT_ups, lenF_ups, ixN_30, ixN_31, ixN_32, lenF_lst, lenF_tup, lenF_str, absF_int, intF_int, intF_bl, max2F_int, min2F_int, strF_int, isi_str, isi_int, isi_tup, isi_lst, slT_lst, slT_tup, slT_str, slT_scr, ups_ups, ups_same, decide_eq_true_eq, Cell.lst.injEq, Option.map_eq_some_iff, exists_and_left, exists_const, Bool.not_eq_true', len_cw.1]
    exact ⟨lg_small (by omega) (by omega), by omega, hr⟩
/-! the_law -/
def sp_the_law : SpT := sp1 fun a S Q _ => ∃ ns, a = .scr ns ∧ ∀ S', Q (.bl true) S'
theorem law_sp (ns : List Int) (_ : ns.length ≤ 63) : sp_the_law [.scr ns] (fun _ => none) (fun z _ => z = .bl true) fun _ _ => False := ⟨_, rfl, ns, rfl, fun _ => rfl⟩
theorem isi1 {S : Sto} {x : List Sg} : isiT [.str] S (.str x) = some (.bl true) := rfl
def N_the_law : List Str := ["_law_script", "_law_pen", "_law_k", "_law_most", "_law_m", "_law_n", "_law_half", "_law_by", "_law_mark", "_law_found"]
def c_the_law_b1 : TTS :=
  (cSeq (cSet 9 (cCall sp_word_of (cCons (cTup (cCons (cVar 4) (cCons (cVar 5) (cCons (cVar 6) (cCons (cVar 7) cNil))))) (cCons (cVar 8) cNil))))
    (cSeq (cIfS (bOr (bNot (bVal (cUn (isiT [.str]) (cVar 9)))) (bVal (cOp neT (cVar 9) (cCall sp_law_word_due (cCons (cVar 4) (cCons (cVar 5) (cCons (cVar 6) (cCons (cVar 7) (cCons (cVar 8) cNil))))))))) (cRet (cC (.bl false))) cSkip)
    (cIfS (bVal (cOp neT (cCall sp_word_of (cCons (cTup (cCons (cVar 4) (cCons (cVar 5) (cCons (cVar 6) (cCons (cVar 7) cNil))))) (cCons (cVar 8) cNil))) (cVar 9))) (cRet (cC (.bl false))) cSkip)))
def c_the_law_b2 : TTS :=
  (cSeq (cSet 3 (cOp ixT (cLst (cCons (cC (.int 41)) (cCons (cC (.int 7)) (cCons (cC (.int 4)) cNil)))) (cCall sp_law_draw (cCons (cVar 1) (cCons (cC (.int 3)) cNil)))))
    (cSeq (cPar2 4 5 (cCall sp_law_draw (cCons (cVar 1) (cCons (cVar 3) cNil))) (cCall sp_law_draw (cCons (cVar 1) (cCons (cVar 3) cNil))))
    (cSeq (cIfS (bVal (cOp eqT (cCall sp_law_draw (cCons (cVar 1) (cCons (cC (.int 5)) cNil))) (cC (.int 0)))) (cSet 5 (cFn max2F (cCons (cC (.int 0)) (cCons (cOp subT (cVar 4) (cCall sp_law_draw (cCons (cVar 1) (cCons (cC (.int 4)) cNil)))) cNil)))) cSkip)
    (cSeq (cIfS (bVal (cOp eqT (cOp addT (cVar 4) (cVar 5)) (cC (.int 0)))) (cSet 5 (cOp addT (cC (.int 1)) (cCall sp_law_draw (cCons (cVar 1) (cCons (cC (.int 40)) cNil))))) cSkip)
    (cSeq (cSet 6 (cOp mulT2 (cCall sp_law_draw (cCons (cVar 1) (cCons (cC (.int 2)) cNil))) (cFn intF (cCons (cAnd (cOp gtT (cVar 4) (cC (.int 0))) (cOp gtT (cVar 5) (cC (.int 0)))) cNil))))
    (cSeq (cSet 7 (cOp ixT (cLst (cCons (cC (.str (q "birth"))) (cCons (cC (.str (q "adoption"))) cNil))) (cCall sp_law_draw (cCons (cVar 1) (cCons (cC (.int 2)) cNil)))))
    (cFor (iSeq (cC (.str (q "wmo")))) (gN 8) c_the_law_b1)))))))
def c_the_law : TTS :=
  (cSeq (cSet 1 (cCall sp_law_pen_of (cCons (cVar 0) cNil)))
    (cSeq (cFor (iRange1 (cOp addT (cC (.int 1)) (cCall sp_law_draw (cCons (cVar 1) (cCons (cC (.int 40)) cNil))))) (gN 2) c_the_law_b2)
    (cRet (cC (.bl true)))))
theorem vc_the_law : VC N_the_law sp_the_law c_the_law := by
  rintro ts S Q E ⟨a, rfl, ns, rfl, hq⟩
  have hs := sizeLine_eq
  simp only [c_the_law, N_the_law, cSeq, cSkip, cRet, cRetN, cSet, cAsg, cDo, cIfS, cPar2, cPar3, cBrk, cCont, cVar, cC, cOp, cUn, cIf, cNil, cCons, cTup, cLst, cLstM, bVal, bAnd, bOr, bNot, bYes, cAnd, cOr, cNot, cCall, cFn, cM, cSl, oNo, oSome, cChain, gN, gT, gL, gZ, gC, gIx, TL.startT, List.map_cons, List.map_nil, List.cons_append, List.nil_append, List.length_cons, List.length_nil, List.replicate_succ, List.replicate_zero, List.set_cons_zero, List.set_cons_succ, List.getElem?_cons_zero, List.getElem?_cons_succ, Option.some.injEq, Option.map_some, exists_eq_left', exists_eq_left, T.bl.injEq, T.int.injEq, T.str.injEq, T.tup.injEq, T.lst.injEq, T.ref.injEq, List.cons.injEq, and_true, true_and, res, wipeT, sp1_at, sp2_at, sp3_at, sp4_at, sp5_at, Nat.reduceAdd, Nat.reduceSub, if_true, if_false, Bool.false_eq_true, Bool.true_eq_false, ex_ite, addT_int, addT_str, addT_lst, addT_tup, subT_int, mulT2_int, mulT2_str, fdivT_int, modT_int, powT_int, negT_int, eqT_int, neT_int, eqT_str, neT_str, eqT_bl, neT_bl, ltT_int, gtT_int, leT_int, geT_int, ixT_lst, ixT_tup, ixT_str, atI_0, atI_1, atI_2, atI_3, ixT_ups, lenF_ups, ixN_30, ixN_31, ixN_32, lenF_lst, lenF_tup, lenF_str, absF_int, intF_int, intF_bl, max2F_int, min2F_int, strF_int, isi_str, isi_int, isi_tup, isi_lst, slT_lst, slT_tup, slT_str, slT_scr, ups_ups, ups_same, decide_eq_true_eq, Cell.lst.injEq, Option.map_eq_some_iff, exists_and_left, exists_const, Bool.not_eq_true', cFor, iRange1, sp_law_pen_of]
  refine ⟨ns, rfl, fun p c hp hc => ?_⟩
  refine draw_at ups_same hc (by omega) (by omega) (by omega) fun d c1 d0 d1 hc1 => ?_
  simp only [cSeq, cSkip, cRet, cRetN, cSet, cAsg, cDo, cIfS, cPar2, cPar3, cBrk, cCont, cVar, cC, cOp, cUn, cIf, cNil, cCons, cTup, cLst, cLstM, bVal, bAnd, bOr, bNot, bYes, cAnd, cOr, cNot, cCall, cFn, cM, cSl, oNo, oSome, cChain, gN, gT, gL, gZ, gC, gIx, TL.startT, List.map_cons, List.map_nil, List.cons_append, List.nil_append, List.length_cons, List.length_nil, List.replicate_succ, List.replicate_zero, List.set_cons_zero, List.set_cons_succ, List.getElem?_cons_zero, List.getElem?_cons_succ, Option.some.injEq, Option.map_some, exists_eq_left', exists_eq_left, T.bl.injEq, T.int.injEq, T.str.injEq, T.tup.injEq, T.lst.injEq, T.ref.injEq, List.cons.injEq, and_true, true_and, res, wipeT, sp1_at, sp2_at, sp3_at, sp4_at, sp5_at, Nat.reduceAdd, Nat.reduceSub, if_true, if_false, Bool.false_eq_true, Bool.true_eq_false, ex_ite, addT_int, addT_str, addT_lst, addT_tup, subT_int, mulT2_int, mulT2_str, fdivT_int, modT_int, powT_int, negT_int, eqT_int, neT_int, eqT_str, neT_str, eqT_bl, neT_bl, ltT_int, gtT_int, leT_int, geT_int, ixT_lst, ixT_tup, ixT_str, atI_0, atI_1, atI_2, atI_3, ixT_ups, lenF_ups, ixN_30, ixN_31, ixN_32, lenF_lst, lenF_tup, lenF_str, absF_int, intF_int, intF_bl, max2F_int, min2F_int, strF_int, isi_str, isi_int, isi_tup, isi_lst, slT_lst, slT_tup, slT_str, slT_scr, ups_ups, ups_same, decide_eq_true_eq, Cell.lst.injEq, Option.map_eq_some_iff, exists_and_left, exists_const, Bool.not_eq_true']
  refine ⟨by omega, by omega, ?_⟩
  refine forT_inv (fun xs τ S' => ∃ c n x2 x3 x4 x5 x6 x7 x8 x9, S' = ups S p c ∧ PenC n c ∧ n + 20 * xs.length ≤ 2000 ∧ τ = [some (.scr ns), some (.ref p), x2, x3, x4, x5, x6, x7, x8, x9]) (fun _ _ _ _ => trivial) (fun _ _ _ => Fin.of (hq _)) ?_ _ _ _ ⟨c1, 1, none, none, none, none, none, none, none, none, rfl, hc1, by simp; omega, rfl⟩
  clear hc1 d0 d1 hc
  rintro x xs τ S' ⟨c, n, x2, x3, x4, x5, x6, x7, x8, x9, rfl, h1, h2, rfl⟩ N hN
  rw [List.length_cons] at h2
  simp only [gN, List.set_cons_zero, List.set_cons_succ]
  unfold c_the_law_b2
  rw [seq_assoc]
  refine seq_cut (fun τ S' => ∃ c n' x3 m k, S' = ups S p c ∧ PenC n' c ∧ n' ≤ n + 3 ∧ 0 ≤ m ∧ m ≤ 40 ∧ 0 ≤ k ∧ k ≤ 40 ∧ τ = [some (.scr ns), some (.ref p), some x, x3, some (.int m), some (.int k), x6, x7, x8, x9]) (fun N hN => ?_) ?_
  · simp only [cSeq, cSkip, cRet, cRetN, cSet, cAsg, cDo, cIfS, cPar2, cPar3, cBrk, cCont, cVar, cC, cOp, cUn, cIf, cNil, cCons, cTup, cLst, cLstM, bVal, bAnd, bOr, bNot, bYes, cAnd, cOr, cNot, cCall, cFn, cM, cSl, oNo, oSome, cChain, gN, gT, gL, gZ, gC, gIx, TL.startT, List.map_cons, List.map_nil, List.cons_append, List.nil_append, List.length_cons, List.length_nil, List.replicate_succ, List.replicate_zero, List.set_cons_zero, List.set_cons_succ, List.getElem?_cons_zero, List.getElem?_cons_succ, Option.some.injEq, Option.map_some, exists_eq_left', exists_eq_left, T.bl.injEq, T.int.injEq, T.str.injEq, T.tup.injEq, T.lst.injEq, T.ref.injEq, List.cons.injEq, and_true, true_and, res, wipeT, sp1_at, sp2_at, sp3_at, sp4_at, sp5_at, Nat.reduceAdd, Nat.reduceSub, if_true, if_false, Bool.false_eq_true, Bool.true_eq_false, ex_ite, addT_int, addT_str, addT_lst, addT_tup, subT_int, mulT2_int, mulT2_str, fdivT_int, modT_int, powT_int, negT_int, eqT_int, neT_int, eqT_str, neT_str, eqT_bl, neT_bl, ltT_int, gtT_int, leT_int, geT_int, ixT_lst, ixT_tup, ixT_str, atI_0, atI_1, atI_2, atI_3, ixT_ups, lenF_ups, ixN_30, ixN_31, ixN_32, lenF_lst, lenF_tup, lenF_str, absF_int, intF_int, intF_bl, max2F_int, min2F_int, strF_int, isi_str, isi_int, isi_tup, isi_lst, slT_lst, slT_tup, slT_str, slT_scr, ups_ups, ups_same, decide_eq_true_eq, Cell.lst.injEq, Option.map_eq_some_iff, exists_and_left, exists_const, Bool.not_eq_true']
    refine ⟨by omega, ?_⟩
    refine draw_at ups_same h1 (by omega) (by omega) (by omega) fun e c2 e0 e1 hc2 => ?_
    have key : ∀ most : Int, 4 ≤ most → most ≤ 41 → sp_law_draw [.ref p, .int most] (ups S p c2) (fun x_1 S1 => sp_law_draw [.ref p, .int most] S1 (fun y S2 => N [some (.scr ns), some (.ref p), some x, some (.int most), some x_1, some y, x6, x7, x8, x9] S2) fun x S' => FinX E x S') fun x S' => FinX E x S' := fun most m1 m2 => by
      refine draw_at ups_same hc2 (by omega) (by omega) (by omega) fun m c3 a0 a1 hc3 => ?_
      refine draw_at ups_same hc3 (by omega) (by omega) (by omega) fun k c4 b0 b1 hc4 => ?_
      rw [ups_ups, ups_ups]
      exact hN _ _ ⟨c4, _, _, m, k, rfl, hc4, by omega, a0, by omega, b0, by omega, rfl⟩
    rw [ups_ups]
    rcases (by omega : e = 0 ∨ e = 1 ∨ e = 2) with rfl | rfl | rfl <;> (simp only [cSeq, cSkip, cRet, cRetN, cSet, cAsg, cDo, cIfS, cPar2, cPar3, cBrk, cCont, cVar, cC, cOp, cUn, cIf, cNil, cCons, cTup, cLst, cLstM, bVal, bAnd, bOr, bNot, bYes, cAnd, cOr, cNot, cCall, cFn, cM, cSl, oNo, oSome, cChain, gN, gT, gL, gZ, gC, gIx, TL.startT, List.map_cons, List.map_nil, List.cons_append, List.nil_append, List.length_cons, List.length_nil, List.replicate_succ, List.replicate_zero, List.set_cons_zero, List.set_cons_succ, List.getElem?_cons_zero, List.getElem?_cons_succ, Option.some.injEq, Option.map_some, exists_eq_left', exists_eq_left, T.bl.injEq, T.int.injEq, T.str.injEq, T.tup.injEq, T.lst.injEq, T.ref.injEq, List.cons.injEq, and_true, true_and, res, wipeT, sp1_at, sp2_at, sp3_at, sp4_at, sp5_at, Nat.reduceAdd, Nat.reduceSub, if_true, if_false, Bool.false_eq_true, Bool.true_eq_false, ex_ite, addT_int, addT_str, addT_lst, addT_tup, subT_int, mulT2_int, mulT2_str, fdivT_int, modT_int, powT_int, negT_int, eqT_int, neT_int, eqT_str, neT_str, eqT_bl, neT_bl, ltT_int, gtT_int, leT_int, geT_int, ixT_lst, ixT_tup, ixT_str, atI_0, atI_1, atI_2, atI_3, ixT_ups, lenF_ups, ixN_30, ixN_31, ixN_32, lenF_lst, lenF_tup, lenF_str, absF_int, intF_int, intF_bl, max2F_int, min2F_int, strF_int, isi_str, isi_int, isi_tup, isi_lst, slT_lst, slT_tup, slT_str, slT_scr, ups_ups, ups_same, decide_eq_true_eq, Cell.lst.injEq, Option.map_eq_some_iff, exists_and_left, exists_const, Bool.not_eq_true']; exact key _ (by omega) (by omega))
  clear h1
  rintro τ S' ⟨c, n', x3, m, k, rfl, h1, h3, m0, m1, k0, k1, rfl⟩
  refine seq_cut (fun τ S' => ∃ c n' k, S' = ups S p c ∧ PenC n' c ∧ n' ≤ n + 5 ∧ 0 ≤ k ∧ k ≤ 40 ∧ τ = [some (.scr ns), some (.ref p), some x, x3, some (.int m), some (.int k), x6, x7, x8, x9]) (fun N hN => ?_) ?_
  · simp only [cSeq, cSkip, cRet, cRetN, cSet, cAsg, cDo, cIfS, cPar2, cPar3, cBrk, cCont, cVar, cC, cOp, cUn, cIf, cNil, cCons, cTup, cLst, cLstM, bVal, bAnd, bOr, bNot, bYes, cAnd, cOr, cNot, cCall, cFn, cM, cSl, oNo, oSome, cChain, gN, gT, gL, gZ, gC, gIx, TL.startT, List.map_cons, List.map_nil, List.cons_append, List.nil_append, List.length_cons, List.length_nil, List.replicate_succ, List.replicate_zero, List.set_cons_zero, List.set_cons_succ, List.getElem?_cons_zero, List.getElem?_cons_succ, Option.some.injEq, Option.map_some, exists_eq_left', exists_eq_left, T.bl.injEq, T.int.injEq, T.str.injEq, T.tup.injEq, T.lst.injEq, T.ref.injEq, List.cons.injEq, and_true, true_and, res, wipeT, sp1_at, sp2_at, sp3_at, sp4_at, sp5_at, Nat.reduceAdd, Nat.reduceSub, if_true, if_false, Bool.false_eq_true, Bool.true_eq_false, ex_ite, addT_int, addT_str, addT_lst, addT_tup, subT_int, mulT2_int, mulT2_str, fdivT_int, modT_int, powT_int, negT_int, eqT_int, neT_int, eqT_str, neT_str, eqT_bl, neT_bl, ltT_int, gtT_int, leT_int, geT_int, ixT_lst, ixT_tup, ixT_str, atI_0, atI_1, atI_2, atI_3, ixT_ups, lenF_ups, ixN_30, ixN_31, ixN_32, lenF_lst, lenF_tup, lenF_str, absF_int, intF_int, intF_bl, max2F_int, min2F_int, strF_int, isi_str, isi_int, isi_tup, isi_lst, slT_lst, slT_tup, slT_str, slT_scr, ups_ups, ups_same, decide_eq_true_eq, Cell.lst.injEq, Option.map_eq_some_iff, exists_and_left, exists_const, Bool.not_eq_true']
    refine draw_at ups_same h1 (by omega) (by omega) (by omega) fun e c2 e0 e1 hc2 => ?_
    simp only [cSeq, cSkip, cRet, cRetN, cSet, cAsg, cDo, cIfS, cPar2, cPar3, cBrk, cCont, cVar, cC, cOp, cUn, cIf, cNil, cCons, cTup, cLst, cLstM, bVal, bAnd, bOr, bNot, bYes, cAnd, cOr, cNot, cCall, cFn, cM, cSl, oNo, oSome, cChain, gN, gT, gL, gZ, gC, gIx, TL.startT, List.map_cons, List.map_nil, List.cons_append, List.nil_append, List.length_cons, List.length_nil, List.replicate_succ, List.replicate_zero, List.set_cons_zero, List.set_cons_succ, List.getElem?_cons_zero, List.getElem?_cons_succ, Option.some.injEq, Option.map_some, exists_eq_left', exists_eq_left, T.bl.injEq, T.int.injEq, T.str.injEq, T.tup.injEq, T.lst.injEq, T.ref.injEq, List.cons.injEq, and_true, true_and, res, wipeT, sp1_at, sp2_at, sp3_at, sp4_at, sp5_at, Nat.reduceAdd, Nat.reduceSub, if_true, if_false, Bool.false_eq_true, Bool.true_eq_false, ex_ite, addT_int, addT_str, addT_lst, addT_tup, subT_int, mulT2_int, mulT2_str, fdivT_int, modT_int, powT_int, negT_int, eqT_int, neT_int, eqT_str, neT_str, eqT_bl, neT_bl, ltT_int, gtT_int, leT_int, geT_int, ixT_lst, ixT_tup, ixT_str, atI_0, atI_1, atI_2, atI_3, ixT_ups, lenF_ups, ixN_30, ixN_31, ixN_32, lenF_lst, lenF_tup, lenF_str, absF_int, intF_int, intF_bl, max2F_int, min2F_int, strF_int, isi_str, isi_int, isi_tup, isi_lst, slT_lst, slT_tup, slT_str, slT_scr, ups_ups, ups_same, decide_eq_true_eq, Cell.lst.injEq, Option.map_eq_some_iff, exists_and_left, exists_const, Bool.not_eq_true']
    split
    · refine draw_at ups_same hc2 (by omega) (by omega) (by omega) fun e c3 e0 e1 hc3 => ?_
      simp only [cSeq, cSkip, cRet, cRetN, cSet, cAsg, cDo, cIfS, cPar2, cPar3, cBrk, cCont, cVar, cC, cOp, cUn, cIf, cNil, cCons, cTup, cLst, cLstM, bVal, bAnd, bOr, bNot, bYes, cAnd, cOr, cNot, cCall, cFn, cM, cSl, oNo, oSome, cChain, gN, gT, gL, gZ, gC, gIx, TL.startT, List.map_cons, List.map_nil, List.cons_append, List.nil_append, List.length_cons, List.length_nil, List.replicate_succ, List.replicate_zero, List.set_cons_zero, List.set_cons_succ, List.getElem?_cons_zero, List.getElem?_cons_succ, Option.some.injEq, Option.map_some, exists_eq_left', exists_eq_left, T.bl.injEq, T.int.injEq, T.str.injEq, T.tup.injEq, T.lst.injEq, T.ref.injEq, List.cons.injEq, and_true, true_and, res, wipeT, sp1_at, sp2_at, sp3_at, sp4_at, sp5_at, Nat.reduceAdd, Nat.reduceSub, if_true, if_false, Bool.false_eq_true, Bool.true_eq_false, ex_ite, addT_int, addT_str, addT_lst, addT_tup, subT_int, mulT2_int, mulT2_str, fdivT_int, modT_int, powT_int, negT_int, eqT_int, neT_int, eqT_str, neT_str, eqT_bl, neT_bl, ltT_int, gtT_int, leT_int, geT_int, ixT_lst, ixT_tup, ixT_str, atI_0, atI_1, atI_2, atI_3, ixT_ups, lenF_ups, ixN_30, ixN_31, ixN_32, lenF_lst, lenF_tup, lenF_str, absF_int, intF_int, intF_bl, max2F_int, min2F_int, strF_int, isi_str, isi_int, isi_tup, isi_lst, slT_lst, slT_tup, slT_str, slT_scr, ups_ups, ups_same, decide_eq_true_eq, Cell.lst.injEq, Option.map_eq_some_iff, exists_and_left, exists_const, Bool.not_eq_true']
      exact hN _ _ ⟨c3, _, _, rfl, hc3, by omega, by split <;> omega, by split <;> omega, rfl⟩
    · exact hN _ _ ⟨c2, _, _, rfl, hc2, by omega, k0, k1, rfl⟩
  clear h1 h3 k0 k1 k
  rintro τ S' ⟨c, n', k, rfl, h1, h3, k0, k1, rfl⟩
  refine seq_cut (fun τ S' => ∃ c n' k, S' = ups S p c ∧ PenC n' c ∧ n' ≤ n + 6 ∧ 0 ≤ k ∧ k ≤ 40 ∧ τ = [some (.scr ns), some (.ref p), some x, x3, some (.int m), some (.int k), x6, x7, x8, x9]) (fun N hN => ?_) ?_
  · simp only [cSeq, cSkip, cRet, cRetN, cSet, cAsg, cDo, cIfS, cPar2, cPar3, cBrk, cCont, cVar, cC, cOp, cUn, cIf, cNil, cCons, cTup, cLst, cLstM, bVal, bAnd, bOr, bNot, bYes, cAnd, cOr, cNot, cCall, cFn, cM, cSl, oNo, oSome, cChain, gN, gT, gL, gZ, gC, gIx, TL.startT, List.map_cons, List.map_nil, List.cons_append, List.nil_append, List.length_cons, List.length_nil, List.replicate_succ, List.replicate_zero, List.set_cons_zero, List.set_cons_succ, List.getElem?_cons_zero, List.getElem?_cons_succ, Option.some.injEq, Option.map_some, exists_eq_left', exists_eq_left, T.bl.injEq, T.int.injEq, T.str.injEq, T.tup.injEq, T.lst.injEq, T.ref.injEq, List.cons.injEq, and_true, true_and, res, wipeT, sp1_at, sp2_at, sp3_at, sp4_at, sp5_at, Nat.reduceAdd, Nat.reduceSub, if_true, if_false, Bool.false_eq_true, Bool.true_eq_false, ex_ite, addT_int, addT_str, addT_lst, addT_tup, subT_int, mulT2_int, mulT2_str, fdivT_int, modT_int, powT_int, negT_int, eqT_int, neT_int, eqT_str, neT_str, eqT_bl, neT_bl, ltT_int, gtT_int, leT_int, geT_int, ixT_lst, ixT_tup, ixT_str, atI_0, atI_1, atI_2, atI_3, ixT_ups, lenF_ups, ixN_30, ixN_31, ixN_32, lenF_lst, lenF_tup, lenF_str, absF_int, intF_int, intF_bl, max2F_int, min2F_int, strF_int, isi_str, isi_int, isi_tup, isi_lst, slT_lst, slT_tup, slT_str, slT_scr, ups_ups, ups_same, decide_eq_true_eq, Cell.lst.injEq, Option.map_eq_some_iff, exists_and_left, exists_const, Bool.not_eq_true']
    split
    · refine draw_at ups_same h1 (by omega) (by omega) (by omega) fun e c2 e0 e1 hc2 => ?_
      simp only [cSeq, cSkip, cRet, cRetN, cSet, cAsg, cDo, cIfS, cPar2, cPar3, cBrk, cCont, cVar, cC, cOp, cUn, cIf, cNil, cCons, cTup, cLst, cLstM, bVal, bAnd, bOr, bNot, bYes, cAnd, cOr, cNot, cCall, cFn, cM, cSl, oNo, oSome, cChain, gN, gT, gL, gZ, gC, gIx, TL.startT, List.map_cons, List.map_nil, List.cons_append, List.nil_append, List.length_cons, List.length_nil, List.replicate_succ, List.replicate_zero, List.set_cons_zero, List.set_cons_succ, List.getElem?_cons_zero, List.getElem?_cons_succ, Option.some.injEq, Option.map_some, exists_eq_left', exists_eq_left, T.bl.injEq, T.int.injEq, T.str.injEq, T.tup.injEq, T.lst.injEq, T.ref.injEq, List.cons.injEq, and_true, true_and, res, wipeT, sp1_at, sp2_at, sp3_at, sp4_at, sp5_at, Nat.reduceAdd, Nat.reduceSub, if_true, if_false, Bool.false_eq_true, Bool.true_eq_false, ex_ite, addT_int, addT_str, addT_lst, addT_tup, subT_int, mulT2_int, mulT2_str, fdivT_int, modT_int, powT_int, negT_int, eqT_int, neT_int, eqT_str, neT_str, eqT_bl, neT_bl, ltT_int, gtT_int, leT_int, geT_int, ixT_lst, ixT_tup, ixT_str, atI_0, atI_1, atI_2, atI_3, ixT_ups, lenF_ups, ixN_30, ixN_31, ixN_32, lenF_lst, lenF_tup, lenF_str, absF_int, intF_int, intF_bl, max2F_int, min2F_int, strF_int, isi_str, isi_int, isi_tup, isi_lst, slT_lst, slT_tup, slT_str, slT_scr, ups_ups, ups_same, decide_eq_true_eq, Cell.lst.injEq, Option.map_eq_some_iff, exists_and_left, exists_const, Bool.not_eq_true']
      exact hN _ _ ⟨c2, _, _, rfl, hc2, by omega, by omega, by omega, rfl⟩
    · exact hN _ _ ⟨c, _, _, rfl, h1, by omega, k0, k1, rfl⟩
  clear h1 h3 k0 k1 k
  rintro τ S' ⟨c, n', k, rfl, h1, h3, k0, k1, rfl⟩
  refine seq_cut (fun τ S' => ∃ c n' h, S' = ups S p c ∧ PenC n' c ∧ n' ≤ n + 7 ∧ 0 ≤ h ∧ h < 2 ∧ τ = [some (.scr ns), some (.ref p), some x, x3, some (.int m), some (.int k), some (.int h), x7, x8, x9]) (fun N hN => ?_) ?_
  · simp only [cSeq, cSkip, cRet, cRetN, cSet, cAsg, cDo, cIfS, cPar2, cPar3, cBrk, cCont, cVar, cC, cOp, cUn, cIf, cNil, cCons, cTup, cLst, cLstM, bVal, bAnd, bOr, bNot, bYes, cAnd, cOr, cNot, cCall, cFn, cM, cSl, oNo, oSome, cChain, gN, gT, gL, gZ, gC, gIx, TL.startT, List.map_cons, List.map_nil, List.cons_append, List.nil_append, List.length_cons, List.length_nil, List.replicate_succ, List.replicate_zero, List.set_cons_zero, List.set_cons_succ, List.getElem?_cons_zero, List.getElem?_cons_succ, Option.some.injEq, Option.map_some, exists_eq_left', exists_eq_left, T.bl.injEq, T.int.injEq, T.str.injEq, T.tup.injEq, T.lst.injEq, T.ref.injEq, List.cons.injEq, and_true, true_and, res, wipeT, sp1_at, sp2_at, sp3_at, sp4_at, sp5_at, Nat.reduceAdd, Nat.reduceSub, if_true, if_false, Bool.false_eq_true, Bool.true_eq_false, ex_ite, addT_int, addT_str, addT_lst, addT_tup, subT_int, mulT2_int, mulT2_str, fdivT_int, modT_int, powT_int, negT_int, eqT_int, neT_int, eqT_str, neT_str, eqT_bl, neT_bl, ltT_int, gtT_int, leT_int, geT_int, ixT_lst, ixT_tup, ixT_str, atI_0, atI_1, atI_2, atI_3, ixT_ups, lenF_ups, ixN_30, ixN_31, ixN_32, lenF_lst, lenF_tup, lenF_str, absF_int, intF_int, intF_bl, max2F_int, min2F_int, strF_int, isi_str, isi_int, isi_tup, isi_lst, slT_lst, slT_tup, slT_str, slT_scr, ups_ups, ups_same, decide_eq_true_eq, Cell.lst.injEq, Option.map_eq_some_iff, exists_and_left, exists_const, Bool.not_eq_true']
    refine draw_at ups_same h1 (by omega) (by omega) (by omega) fun e c2 e0 e1 hc2 => ?_
    simp only [cSeq, cSkip, cRet, cRetN, cSet, cAsg, cDo, cIfS, cPar2, cPar3, cBrk, cCont, cVar, cC, cOp, cUn, cIf, cNil, cCons, cTup, cLst, cLstM, bVal, bAnd, bOr, bNot, bYes, cAnd, cOr, cNot, cCall, cFn, cM, cSl, oNo, oSome, cChain, gN, gT, gL, gZ, gC, gIx, TL.startT, List.map_cons, List.map_nil, List.cons_append, List.nil_append, List.length_cons, List.length_nil, List.replicate_succ, List.replicate_zero, List.set_cons_zero, List.set_cons_succ, List.getElem?_cons_zero, List.getElem?_cons_succ, Option.some.injEq, Option.map_some, exists_eq_left', exists_eq_left, T.bl.injEq, T.int.injEq, T.str.injEq, T.tup.injEq, T.lst.injEq, T.ref.injEq, List.cons.injEq, and_true, true_and, res, wipeT, sp1_at, sp2_at, sp3_at, sp4_at, sp5_at, Nat.reduceAdd, Nat.reduceSub, if_true, if_false, Bool.false_eq_true, Bool.true_eq_false, ex_ite, addT_int, addT_str, addT_lst, addT_tup, subT_int, mulT2_int, mulT2_str, fdivT_int, modT_int, powT_int, negT_int, eqT_int, neT_int, eqT_str, neT_str, eqT_bl, neT_bl, ltT_int, gtT_int, leT_int, geT_int, ixT_lst, ixT_tup, ixT_str, atI_0, atI_1, atI_2, atI_3, ixT_ups, lenF_ups, ixN_30, ixN_31, ixN_32, lenF_lst, lenF_tup, lenF_str, absF_int, intF_int, intF_bl, max2F_int, min2F_int, strF_int, isi_str, isi_int, isi_tup, isi_lst, slT_lst, slT_tup, slT_str, slT_scr, ups_ups, ups_same, decide_eq_true_eq, Cell.lst.injEq, Option.map_eq_some_iff, exists_and_left, exists_const, Bool.not_eq_true']
    split
    · refine ⟨mulI_b (by omega) (by split <;> omega), hN _ _ ⟨c2, _, _, rfl, hc2, by omega, ?_, ?_, rfl⟩⟩
      · split <;> omega
      · split <;> omega
    · exact ⟨mulI_b (by omega) (by omega), hN _ _ ⟨c2, _, _, rfl, hc2, by omega, by omega, by omega, rfl⟩⟩
  clear h1 h3
  rintro τ S' ⟨c, n', h, rfl, h1, h3, e0, e1, rfl⟩
  refine seq_cut (fun τ S' => ∃ c n' bi, S' = ups S p c ∧ PenC n' c ∧ n' ≤ n + 8 ∧ τ = [some (.scr ns), some (.ref p), some x, x3, some (.int m), some (.int k), some (.int h), some (.str (byT bi)), x8, x9]) (fun N hN => ?_) ?_
  · simp only [cSeq, cSkip, cRet, cRetN, cSet, cAsg, cDo, cIfS, cPar2, cPar3, cBrk, cCont, cVar, cC, cOp, cUn, cIf, cNil, cCons, cTup, cLst, cLstM, bVal, bAnd, bOr, bNot, bYes, cAnd, cOr, cNot, cCall, cFn, cM, cSl, oNo, oSome, cChain, gN, gT, gL, gZ, gC, gIx, TL.startT, List.map_cons, List.map_nil, List.cons_append, List.nil_append, List.length_cons, List.length_nil, List.replicate_succ, List.replicate_zero, List.set_cons_zero, List.set_cons_succ, List.getElem?_cons_zero, List.getElem?_cons_succ, Option.some.injEq, Option.map_some, exists_eq_left', exists_eq_left, T.bl.injEq, T.int.injEq, T.str.injEq, T.tup.injEq, T.lst.injEq, T.ref.injEq, List.cons.injEq, and_true, true_and, res, wipeT, sp1_at, sp2_at, sp3_at, sp4_at, sp5_at, Nat.reduceAdd, Nat.reduceSub, if_true, if_false, Bool.false_eq_true, Bool.true_eq_false, ex_ite, addT_int, addT_str, addT_lst, addT_tup, subT_int, mulT2_int, mulT2_str, fdivT_int, modT_int, powT_int, negT_int, eqT_int, neT_int, eqT_str, neT_str, eqT_bl, neT_bl, ltT_int, gtT_int, leT_int, geT_int, ixT_lst, ixT_tup, ixT_str, atI_0, atI_1, atI_2, atI_3, ixT_ups, lenF_ups, ixN_30, ixN_31, ixN_32, lenF_lst, lenF_tup, lenF_str, absF_int, intF_int, intF_bl, max2F_int, min2F_int, strF_int, isi_str, isi_int, isi_tup, isi_lst, slT_lst, slT_tup, slT_str, slT_scr, ups_ups, ups_same, decide_eq_true_eq, Cell.lst.injEq, Option.map_eq_some_iff, exists_and_left, exists_const, Bool.not_eq_true']
    refine ⟨by omega, ?_⟩
    refine draw_at ups_same h1 (by omega) (by omega) (by omega) fun e c2 e0 e1 hc2 => ?_
    rcases (by omega : e = 0 ∨ e = 1) with rfl | rfl
    · simp only [cSeq, cSkip, cRet, cRetN, cSet, cAsg, cDo, cIfS, cPar2, cPar3, cBrk, cCont, cVar, cC, cOp, cUn, cIf, cNil, cCons, cTup, cLst, cLstM, bVal, bAnd, bOr, bNot, bYes, cAnd, cOr, cNot, cCall, cFn, cM, cSl, oNo, oSome, cChain, gN, gT, gL, gZ, gC, gIx, TL.startT, List.map_cons, List.map_nil, List.cons_append, List.nil_append, List.length_cons, List.length_nil, List.replicate_succ, List.replicate_zero, List.set_cons_zero, List.set_cons_succ, List.getElem?_cons_zero, List.getElem?_cons_succ, Option.some.injEq, Option.map_some, exists_eq_left', exists_eq_left, T.bl.injEq, T.int.injEq, T.str.injEq, T.tup.injEq, T.lst.injEq, T.ref.injEq, List.cons.injEq, and_true, true_and, res, wipeT, sp1_at, sp2_at, sp3_at, sp4_at, sp5_at, Nat.reduceAdd, Nat.reduceSub, if_true, if_false, Bool.false_eq_true, Bool.true_eq_false, ex_ite, addT_int, addT_str, addT_lst, addT_tup, subT_int, mulT2_int, mulT2_str, fdivT_int, modT_int, powT_int, negT_int, eqT_int, neT_int, eqT_str, neT_str, eqT_bl, neT_bl, ltT_int, gtT_int, leT_int, geT_int, ixT_lst, ixT_tup, ixT_str, atI_0, atI_1, atI_2, atI_3, ixT_ups, lenF_ups, ixN_30, ixN_31, ixN_32, lenF_lst, lenF_tup, lenF_str, absF_int, intF_int, intF_bl, max2F_int, min2F_int, strF_int, isi_str, isi_int, isi_tup, isi_lst, slT_lst, slT_tup, slT_str, slT_scr, ups_ups, ups_same, decide_eq_true_eq, Cell.lst.injEq, Option.map_eq_some_iff, exists_and_left, exists_const, Bool.not_eq_true']
      exact hN _ _ ⟨c2, _, true, rfl, hc2, by omega, rfl⟩
    · simp only [cSeq, cSkip, cRet, cRetN, cSet, cAsg, cDo, cIfS, cPar2, cPar3, cBrk, cCont, cVar, cC, cOp, cUn, cIf, cNil, cCons, cTup, cLst, cLstM, bVal, bAnd, bOr, bNot, bYes, cAnd, cOr, cNot, cCall, cFn, cM, cSl, oNo, oSome, cChain, gN, gT, gL, gZ, gC, gIx, TL.startT, List.map_cons, List.map_nil, List.cons_append, List.nil_append, List.length_cons, List.length_nil, List.replicate_succ, List.replicate_zero, List.set_cons_zero, List.set_cons_succ, List.getElem?_cons_zero, List.getElem?_cons_succ, Option.some.injEq, Option.map_some, exists_eq_left', exists_eq_left, T.bl.injEq, T.int.injEq, T.str.injEq, T.tup.injEq, T.lst.injEq, T.ref.injEq, List.cons.injEq, and_true, true_and, res, wipeT, sp1_at, sp2_at, sp3_at, sp4_at, sp5_at, Nat.reduceAdd, Nat.reduceSub, if_true, if_false, Bool.false_eq_true, Bool.true_eq_false, ex_ite, addT_int, addT_str, addT_lst, addT_tup, subT_int, mulT2_int, mulT2_str, fdivT_int, modT_int, powT_int, negT_int, eqT_int, neT_int, eqT_str, neT_str, eqT_bl, neT_bl, ltT_int, gtT_int, leT_int, geT_int, ixT_lst, ixT_tup, ixT_str, atI_0, atI_1, atI_2, atI_3, ixT_ups, lenF_ups, ixN_30, ixN_31, ixN_32, lenF_lst, lenF_tup, lenF_str, absF_int, intF_int, intF_bl, max2F_int, min2F_int, strF_int, isi_str, isi_int, isi_tup, isi_lst, slT_lst, slT_tup, slT_str, slT_scr, ups_ups, ups_same, decide_eq_true_eq, Cell.lst.injEq, Option.map_eq_some_iff, exists_and_left, exists_const, Bool.not_eq_true']
      exact hN _ _ ⟨c2, _, false, rfl, hc2, by omega, rfl⟩
  clear h1 h3
  rintro τ S' ⟨c, n', bi, rfl, h1, h3, rfl⟩
  simp only [cSeq, cSkip, cRet, cRetN, cSet, cAsg, cDo, cIfS, cPar2, cPar3, cBrk, cCont, cVar, cC, cOp, cUn, cIf, cNil, cCons, cTup, cLst, cLstM, bVal, bAnd, bOr, bNot, bYes, cAnd, cOr, cNot, cCall, cFn, cM, cSl, oNo, oSome, cChain, gN, gT, gL, gZ, gC, gIx, TL.startT, List.map_cons, List.map_nil, List.cons_append, List.nil_append, List.length_cons, List.length_nil, List.replicate_succ, List.replicate_zero, List.set_cons_zero, List.set_cons_succ, List.getElem?_cons_zero, List.getElem?_cons_succ, Option.some.injEq, Option.map_some, exists_eq_left', exists_eq_left, T.bl.injEq, T.int.injEq, T.str.injEq, T.tup.injEq, T.lst.injEq, T.ref.injEq, List.cons.injEq, and_true, true_and, res, wipeT, sp1_at, sp2_at, sp3_at, sp4_at, sp5_at, Nat.reduceAdd, Nat.reduceSub, if_true, if_false, Bool.false_eq_true, Bool.true_eq_false, ex_ite, addT_int, addT_str, addT_lst, addT_tup, subT_int, mulT2_int, mulT2_str, fdivT_int, modT_int, powT_int, negT_int, eqT_int, neT_int, eqT_str, neT_str, eqT_bl, neT_bl, ltT_int, gtT_int, leT_int, geT_int, ixT_lst, ixT_tup, ixT_str, atI_0, atI_1, atI_2, atI_3, ixT_ups, lenF_ups, ixN_30, ixN_31, ixN_32, lenF_lst, lenF_tup, lenF_str, absF_int, intF_int, intF_bl, max2F_int, min2F_int, strF_int, isi_str, isi_int, isi_tup, isi_lst, slT_lst, slT_tup, slT_str, slT_scr, ups_ups, ups_same, decide_eq_true_eq, Cell.lst.injEq, Option.map_eq_some_iff, exists_and_left, exists_const, Bool.not_eq_true', cFor, iSeq, items]
  refine forT_inv (fun xs τ S' => S' = ups S p c ∧ (∀ z ∈ xs, ∃ i, i < 3 ∧ z = .str (MKS.getD i [])) ∧ ∃ x8 x9, τ = [some (.scr ns), some (.ref p), some x, x3, some (.int m), some (.int k), some (.int h), some (.str (byT bi)), x8, x9]) (fun _ _ _ _ => trivial) ?_ ?_ _ _ _ ⟨rfl, ?_, x8, x9, rfl⟩
  · rintro τ S' ⟨rfl, _, x8, x9, rfl⟩
    exact hN _ _ ⟨c, n', _, _, _, _, _, _, _, _, rfl, h1, by omega, rfl⟩
  · rintro z zs τ S' ⟨rfl, hz, x8, x9, rfl⟩ N hN
    obtain ⟨i, hi, rfl⟩ := hz z List.mem_cons_self
    have w1 : ∀ {Q E : T → Sto → Prop}, Q (.str (wordW m k h bi i)) (ups S p c) → sp_word_of [.tup [.int m, .int k, .int h, .str (byT bi)], .str (MKS.getD i [])] (ups S p c) Q E := fun hq => ⟨_, _, rfl, m, k, h, bi, i, rfl, rfl, hi, m0, by omega, k0, by omega, e0, e1, hq⟩
    have w2 : ∀ {Q E : T → Sto → Prop}, Q (.str (wordW m k h bi i)) (ups S p c) → sp_law_word_due [.int m, .int k, .int h, .str (byT bi), .str (MKS.getD i [])] (ups S p c) Q E := fun hq => ⟨_, _, _, _, _, rfl, m, k, h, bi, i, rfl, rfl, rfl, rfl, rfl, hi, m0, m1, k0, k1, e0, e1, hq⟩
    simp only [c_the_law_b1, cSeq, cSkip, cRet, cRetN, cSet, cAsg, cDo, cIfS, cPar2, cPar3, cBrk, cCont, cVar, cC, cOp, cUn, cIf, cNil, cCons, cTup, cLst, cLstM, bVal, bAnd, bOr, bNot, bYes, cAnd, cOr, cNot, cCall, cFn, cM, cSl, oNo, oSome, cChain, gN, gT, gL, gZ, gC, gIx, TL.startT, List.map_cons, List.map_nil, List.cons_append, List.nil_append, List.length_cons, List.length_nil, List.replicate_succ, List.replicate_zero, List.set_cons_zero, List.set_cons_succ, List.getElem?_cons_zero, List.getElem?_cons_succ, Option.some.injEq, Option.map_some, exists_eq_left', exists_eq_left, T.bl.injEq, T.int.injEq, T.str.injEq, T.tup.injEq, T.lst.injEq, T.ref.injEq, List.cons.injEq, and_true, true_and, res, wipeT, sp1_at, sp2_at, sp3_at, sp4_at, sp5_at, Nat.reduceAdd, Nat.reduceSub, if_true, if_false, Bool.false_eq_true, Bool.true_eq_false, ex_ite, addT_int, addT_str, addT_lst, addT_tup, subT_int, mulT2_int, mulT2_str, fdivT_int, modT_int, powT_int, negT_int, eqT_int, neT_int, eqT_str, neT_str, eqT_bl, neT_bl, ltT_int, gtT_int, leT_int, geT_int, ixT_lst, ixT_tup, ixT_str, atI_0, atI_1, atI_2, atI_3, ixT_ups, lenF_ups, ixN_30, ixN_31, ixN_32, lenF_lst, lenF_tup, lenF_str, absF_int, intF_int, intF_bl, max2F_int, min2F_int, strF_int, isi_str, isi_int, isi_tup, isi_lst, slT_lst, slT_tup, slT_str, slT_scr, ups_ups, ups_same, decide_eq_true_eq, Cell.lst.injEq, Option.map_eq_some_iff, exists_and_left, exists_const, Bool.not_eq_true']
    refine ⟨by omega, w1 ?_⟩
    simp only [cSeq, cSkip, cRet, cRetN, cSet, cAsg, cDo, cIfS, cPar2, cPar3, cBrk, cCont, cVar, cC, cOp, cUn, cIf, cNil, cCons, cTup, cLst, cLstM, bVal, bAnd, bOr, bNot, bYes, cAnd, cOr, cNot, cCall, cFn, cM, cSl, oNo, oSome, cChain, gN, gT, gL, gZ, gC, gIx, TL.startT, List.map_cons, List.map_nil, List.cons_append, List.nil_append, List.length_cons, List.length_nil, List.replicate_succ, List.replicate_zero, List.set_cons_zero, List.set_cons_succ, List.getElem?_cons_zero, List.getElem?_cons_succ, Option.some.injEq, Option.map_some, exists_eq_left', exists_eq_left, T.bl.injEq, T.int.injEq, T.str.injEq, T.tup.injEq, T.lst.injEq, T.ref.injEq, List.cons.injEq, and_true, true_and, res, wipeT, sp1_at, sp2_at, sp3_at, sp4_at, sp5_at, Nat.reduceAdd, Nat.reduceSub, if_true, if_false, Bool.false_eq_true, Bool.true_eq_false, ex_ite, addT_int, addT_str, addT_lst, addT_tup, subT_int, mulT2_int, mulT2_str, fdivT_int, modT_int, powT_int, negT_int, eqT_int, neT_int, eqT_str, neT_str, eqT_bl, neT_bl, ltT_int, gtT_int, leT_int, geT_int, ixT_lst, ixT_tup, ixT_str, atI_0, atI_1, atI_2, atI_3, ixT_ups, lenF_ups, ixN_30, ixN_31, ixN_32, lenF_lst, lenF_tup, lenF_str, absF_int, intF_int, intF_bl, max2F_int, min2F_int, strF_int, isi_str, isi_int, isi_tup, isi_lst, slT_lst, slT_tup, slT_str, slT_scr, ups_ups, ups_same, decide_eq_true_eq, Cell.lst.injEq, Option.map_eq_some_iff, exists_and_left, exists_const, Bool.not_eq_true', isi1, Bool.not_true]
    refine w2 ?_
    simp only [cSeq, cSkip, cRet, cRetN, cSet, cAsg, cDo, cIfS, cPar2, cPar3, cBrk, cCont, cVar, cC, cOp, cUn, cIf, cNil, cCons, cTup, cLst, cLstM, bVal, bAnd, bOr, bNot, bYes, cAnd, cOr, cNot, cCall, cFn, cM, cSl, oNo, oSome, cChain, gN, gT, gL, gZ, gC, gIx, TL.startT, List.map_cons, List.map_nil, List.cons_append, List.nil_append, List.length_cons, List.length_nil, List.replicate_succ, List.replicate_zero, List.set_cons_zero, List.set_cons_succ, List.getElem?_cons_zero, List.getElem?_cons_succ, Option.some.injEq, Option.map_some, exists_eq_left', exists_eq_left, T.bl.injEq, T.int.injEq, T.str.injEq, T.tup.injEq, T.lst.injEq, T.ref.injEq, List.cons.injEq, and_true, true_and, res, wipeT, sp1_at, sp2_at, sp3_at, sp4_at, sp5_at, Nat.reduceAdd, Nat.reduceSub, if_true, if_false, Bool.false_eq_true, Bool.true_eq_false, ex_ite, addT_int, addT_str, addT_lst, addT_tup, subT_int, mulT2_int, mulT2_str, fdivT_int, modT_int, powT_int, negT_int, eqT_int, neT_int, eqT_str, neT_str, eqT_bl, neT_bl, ltT_int, gtT_int, leT_int, geT_int, ixT_lst, ixT_tup, ixT_str, atI_0, atI_1, atI_2, atI_3, ixT_ups, lenF_ups, ixN_30, ixN_31, ixN_32, lenF_lst, lenF_tup, lenF_str, absF_int, intF_int, intF_bl, max2F_int, min2F_int, strF_int, isi_str, isi_int, isi_tup, isi_lst, slT_lst, slT_tup, slT_str, slT_scr, ups_ups, ups_same, decide_eq_true_eq, Cell.lst.injEq, Option.map_eq_some_iff, exists_and_left, exists_const, Bool.not_eq_true', decide_true, Bool.not_true]
    refine ⟨by omega, w1 ?_⟩
    simp only [cSeq, cSkip, cRet, cRetN, cSet, cAsg, cDo, cIfS, cPar2, cPar3, cBrk, cCont, cVar, cC, cOp, cUn, cIf, cNil, cCons, cTup, cLst, cLstM, bVal, bAnd, bOr, bNot, bYes, cAnd, cOr, cNot, cCall, cFn, cM, cSl, oNo, oSome, cChain, gN, gT, gL, gZ, gC, gIx, TL.startT, List.map_cons, List.map_nil, List.cons_append, List.nil_append, List.length_cons, List.length_nil, List.replicate_succ, List.replicate_zero, List.set_cons_zero, List.set_cons_succ, List.getElem?_cons_zero, List.getElem?_cons_succ, Option.some.injEq, Option.map_some, exists_eq_left', exists_eq_left, T.bl.injEq, T.int.injEq, T.str.injEq, T.tup.injEq, T.lst.injEq, T.ref.injEq, List.cons.injEq, and_true, true_and, res, wipeT, sp1_at, sp2_at, sp3_at, sp4_at, sp5_at, Nat.reduceAdd, Nat.reduceSub, if_true, if_false, Bool.false_eq_true, Bool.true_eq_false, ex_ite, addT_int, addT_str, addT_lst, addT_tup, subT_int, mulT2_int, mulT2_str, fdivT_int, modT_int, powT_int, negT_int, eqT_int, neT_int, eqT_str, neT_str, eqT_bl, neT_bl, ltT_int, gtT_int, leT_int, geT_int, ixT_lst, ixT_tup, ixT_str, atI_0, atI_1, atI_2, atI_3, ixT_ups, lenF_ups, ixN_30, ixN_31, ixN_32, lenF_lst, lenF_tup, lenF_str, absF_int, intF_int, intF_bl, max2F_int, min2F_int, strF_int, isi_str, isi_int, isi_tup, isi_lst, slT_lst, slT_tup, slT_str, slT_scr, ups_ups, ups_same, decide_eq_true_eq, Cell.lst.injEq, Option.map_eq_some_iff, exists_and_left, exists_const, Bool.not_eq_true', decide_true, Bool.not_true]
    exact hN _ _ ⟨rfl, fun z h => hz z (List.mem_cons_of_mem _ h), _, _, rfl⟩
  · have e : (q "wmo").map (fun c => T.str [c]) = [T.str (MKS.getD 0 []), T.str (MKS.getD 1 []), T.str (MKS.getD 2 [])] := by
      have : (q "wmo").map (fun c => [c]) = [MKS.getD 0 [], MKS.getD 1 [], MKS.getD 2 []] := by decide +kernel
      have e2 : (q "wmo").map (fun c => T.str [c]) = ((q "wmo").map (fun c => [c])).map T.str := by rw [List.map_map]; rfl
      rw [e2, this]
      rfl
    intro z hz
    rw [e] at hz
    simp only [List.mem_cons, List.not_mem_nil, or_false] at hz
    rcases hz with rfl | rfl | rfl
    · exact ⟨0, by omega, rfl⟩
    · exact ⟨1, by omega, rfl⟩
    · exact ⟨2, by omega, rfl⟩
end K34

namespace K34
open PySem PySem.Spec PyProof.Rows L2 TL
def top (i : Nat) : Stmt := PySem.Challenge.pw_kinlines_k34_words_of_ties.main.body.getD i (.Pass ⟨0, 0, 0, 0⟩)
abbrev s_greats : Stmt := top 9
abbrev s_line_word : Stmt := top 10
abbrev s_cousin_word : Stmt := top 11
abbrev s_plain_word : Stmt := top 12
abbrev s_word_ahead : Stmt := top 13
abbrev s_half_word : Stmt := top 14
abbrev s_word_of : Stmt := top 15
abbrev s_law_pen_of : Stmt := top 17
abbrev s_law_draw : Stmt := top 18
abbrev s_law_line_of : Stmt := top 19
abbrev s_law_word_due : Stmt := top 20
abbrev s_the_law : Stmt := top 21
/-- what the head tells -/
structure Zx (K : PySem.W.Frag) (mg : Str → Option Value) : Prop where
  b_abs : mg "abs" = none
  b_int : mg "int" = none
  b_isinstance : mg "isinstance" = none
  b_len : mg "len" = none
  b_max : mg "max" = none
  b_min : mg "min" = none
  b_range : mg "range" = none
  b_str : mg "str" = none
  m_ABOVE : mg "ABOVE" = some (.ref (He.ga K "ABOVE"))
  r_ABOVE : ∀ (G : Gd) (H : Hp) (S : Sto), G.K = K → Rep G H S k_ABOVE (.ref (He.ga K "ABOVE"))
  d_ABOVE : ∃ ob, K.lookup (He.ga K "ABOVE") = some ob ∧ ob.cls = .type "tuple" ∧ ob.dict = none
  m_BELOW : mg "BELOW" = some (.ref (He.ga K "BELOW"))
  r_BELOW : ∀ (G : Gd) (H : Hp) (S : Sto), G.K = K → Rep G H S k_BELOW (.ref (He.ga K "BELOW"))
  d_BELOW : ∃ ob, K.lookup (He.ga K "BELOW") = some ob ∧ ob.cls = .type "tuple" ∧ ob.dict = none
  m_BESIDE : mg "BESIDE" = some (.ref (He.ga K "BESIDE"))
  r_BESIDE : ∀ (G : Gd) (H : Hp) (S : Sto), G.K = K → Rep G H S k_BESIDE (.ref (He.ga K "BESIDE"))
  d_BESIDE : ∃ ob, K.lookup (He.ga K "BESIDE") = some ob ∧ ob.cls = .type "tuple" ∧ ob.dict = none
  m_DEGREES : mg "DEGREES" = some (.ref (He.ga K "DEGREES"))
  r_DEGREES : ∀ (G : Gd) (H : Hp) (S : Sto), G.K = K → Rep G H S k_DEGREES (.ref (He.ga K "DEGREES"))
  d_DEGREES : ∃ ob, K.lookup (He.ga K "DEGREES") = some ob ∧ ob.cls = .type "tuple" ∧ ob.dict = none
  m_DOWN : mg "DOWN" = some (.ref (He.ga K "DOWN"))
  r_DOWN : ∀ (G : Gd) (H : Hp) (S : Sto), G.K = K → Rep G H S k_DOWN (.ref (He.ga K "DOWN"))
  d_DOWN : ∃ ob, K.lookup (He.ga K "DOWN") = some ob ∧ ob.cls = .type "tuple" ∧ ob.dict = none
  m_MARKS : mg "MARKS" = some (.ref (He.ga K "MARKS"))
  r_MARKS : ∀ (G : Gd) (H : Hp) (S : Sto), G.K = K → Rep G H S k_MARKS (.ref (He.ga K "MARKS"))
  d_MARKS : ∃ ob, K.lookup (He.ga K "MARKS") = some ob ∧ ob.cls = .type "tuple" ∧ ob.dict = none
  m_TIMES : mg "TIMES" = some (.ref (He.ga K "TIMES"))
  r_TIMES : ∀ (G : Gd) (H : Hp) (S : Sto), G.K = K → Rep G H S k_TIMES (.ref (He.ga K "TIMES"))
  d_TIMES : ∃ ob, K.lookup (He.ga K "TIMES") = some ob ∧ ob.cls = .type "tuple" ∧ ob.dict = none
  m_UP : mg "UP" = some (.ref (He.ga K "UP"))
  r_UP : ∀ (G : Gd) (H : Hp) (S : Sto), G.K = K → Rep G H S k_UP (.ref (He.ga K "UP"))
  d_UP : ∃ ob, K.lookup (He.ga K "UP") = some ob ∧ ob.cls = .type "tuple" ∧ ob.dict = none
  f_greats : ∃ fd, FunD K "greats" "greats" (defArgs s_greats) (defBody s_greats) (defScope s_greats) [] [] (He.ga K "greats") fd
  g_greats : mg "greats" = some (.ref (He.ga K "greats"))
  f_line_word : ∃ fd, FunD K "line_word" "line_word" (defArgs s_line_word) (defBody s_line_word) (defScope s_line_word) [] [] (He.ga K "line_word") fd
  g_line_word : mg "line_word" = some (.ref (He.ga K "line_word"))
  f_cousin_word : ∃ fd, FunD K "cousin_word" "cousin_word" (defArgs s_cousin_word) (defBody s_cousin_word) (defScope s_cousin_word) [] [] (He.ga K "cousin_word") fd
  g_cousin_word : mg "cousin_word" = some (.ref (He.ga K "cousin_word"))
  f_plain_word : ∃ fd, FunD K "plain_word" "plain_word" (defArgs s_plain_word) (defBody s_plain_word) (defScope s_plain_word) [] [] (He.ga K "plain_word") fd
  g_plain_word : mg "plain_word" = some (.ref (He.ga K "plain_word"))
  f_word_ahead : ∃ fd, FunD K "word_ahead" "word_ahead" (defArgs s_word_ahead) (defBody s_word_ahead) (defScope s_word_ahead) [] [] (He.ga K "word_ahead") fd
  g_word_ahead : mg "word_ahead" = some (.ref (He.ga K "word_ahead"))
  f_half_word : ∃ fd, FunD K "half_word" "half_word" (defArgs s_half_word) (defBody s_half_word) (defScope s_half_word) [] [] (He.ga K "half_word") fd
  g_half_word : mg "half_word" = some (.ref (He.ga K "half_word"))
  f_word_of : ∃ fd, FunD K "word_of" "word_of" (defArgs s_word_of) (defBody s_word_of) (defScope s_word_of) [] [] (He.ga K "word_of") fd
  g_word_of : mg "word_of" = some (.ref (He.ga K "word_of"))
  f_law_pen_of : ∃ fd, FunD K "_law_pen_of" "_law_pen_of" (defArgs s_law_pen_of) (defBody s_law_pen_of) (defScope s_law_pen_of) [] [] (He.ga K "_law_pen_of") fd
  g_law_pen_of : mg "_law_pen_of" = some (.ref (He.ga K "_law_pen_of"))
  f_law_draw : ∃ fd, FunD K "_law_draw" "_law_draw" (defArgs s_law_draw) (defBody s_law_draw) (defScope s_law_draw) [] [] (He.ga K "_law_draw") fd
  g_law_draw : mg "_law_draw" = some (.ref (He.ga K "_law_draw"))
  f_law_line_of : ∃ fd, FunD K "_law_line_of" "_law_line_of" (defArgs s_law_line_of) (defBody s_law_line_of) (defScope s_law_line_of) [] [] (He.ga K "_law_line_of") fd
  g_law_line_of : mg "_law_line_of" = some (.ref (He.ga K "_law_line_of"))
  f_law_word_due : ∃ fd, FunD K "_law_word_due" "_law_word_due" (defArgs s_law_word_due) (defBody s_law_word_due) (defScope s_law_word_due) [] [] (He.ga K "_law_word_due") fd
  g_law_word_due : mg "_law_word_due" = some (.ref (He.ga K "_law_word_due"))
  f_the_law : ∃ fd, FunD K "law" "law" (defArgs s_the_law) (defBody s_the_law) (defScope s_the_law) [] [] (He.ga K "law") fd
  g_the_law : mg "law" = some (.ref (He.ga K "law"))
section
variable {P : Program} {w : World} {K : PySem.W.Frag} {mg : Str → Option Value} {base : Heap}
theorem sc_greats : FnScope N_greats (["many"] : List Str) (defScope s_greats) := ⟨rfl, rfl, rfl, by decide +kernel, rfl, by decide +kernel, by decide +kernel⟩
theorem ok_greats (Z : Zx K mg) : Okf P w K mg base 1 "greats" (["many"] : List Str) sp_greats := by
  obtain ⟨fd, F⟩ := Z.f_greats
  have hb : ∀ (cdv : Value) (A : Around) (outer : List Env) (s : Shared) (H : Hp) (E : XK), Room 0 (A.deeper (envOfC "greats" (defScope s_greats) s.heap.objs.size (He.ga K "greats") cdv)) → TSs (cxOf (L2.CX P w) P w K mg base N_greats "greats" (defScope s_greats) (He.ga K "greats") cdv A outer s H E) (defBody s_greats) c_greats := fun cdv A outer s H E hr =>
    (tss_one (ts_ret (te_bin op_mulT2 te_str (te_var (i := 0) rfl (.inl rfl)))))
  exact ⟨fd, fn_t F sc_greats (fun ts S Q E h => by obtain ⟨_, rfl, _⟩ := h; rfl) hb vc_greats, Z.g_greats, F.kp, F.bindsN fun _ _ _ _ _ _ us hl => match us, hl with | [_], _ => rfl⟩
theorem sc_line_word : FnScope N_line_word (["words", "at", "steps"] : List Str) (defScope s_line_word) := ⟨rfl, rfl, rfl, by decide +kernel, rfl, by decide +kernel, by decide +kernel⟩
theorem ok_line_word (Z : Zx K mg) : Okf P w K mg base 2 "line_word" (["words", "at", "steps"] : List Str) sp_line_word := by
  have O_greats : Okf P w K mg base 1 "greats" (["many"] : List Str) sp_greats := ok_greats Z
  obtain ⟨fd, F⟩ := Z.f_line_word
  have hb : ∀ (cdv : Value) (A : Around) (outer : List Env) (s : Shared) (H : Hp) (E : XK), Room 1 (A.deeper (envOfC "line_word" (defScope s_line_word) s.heap.objs.size (He.ga K "line_word") cdv)) → TSs (cxOf (L2.CX P w) P w K mg base N_line_word "line_word" (defScope s_line_word) (He.ga K "line_word") cdv A outer s H E) (defBody s_line_word) c_line_word := fun cdv A outer s H E hr =>
    (tss_cons (ts_if (tb_cmp (op_eqT (u64 hr)) (te_var (i := 2) rfl (.inl rfl)) te_int rfl) (tss_one (ts_ret (te_ix (te_var (i := 0) rfl (.inl rfl)) (te_var (i := 1) rfl (.inl rfl))))) tss_nil)
      (tss_one (ts_ret (te_bin op_addT (te_bin op_addT (te_callO O_greats hr (by decide) rfl (ta_cons (te_bin op_subT (te_var (i := 2) rfl (.inl rfl)) te_int) ta_nil)) te_str) (te_ix (te_var (i := 0) rfl (.inl rfl)) (te_var (i := 1) rfl (.inl rfl)))))))
  exact ⟨fd, fn_t F sc_line_word (fun ts S Q E h => by obtain ⟨_, _, _, rfl, _⟩ := h; rfl) hb vc_line_word, Z.g_line_word, F.kp, F.bindsN fun _ _ _ _ _ _ us hl => match us, hl with | [_, _, _], _ => rfl⟩
theorem sc_cousin_word : FnScope N_cousin_word (["m", "n"] : List Str) (defScope s_cousin_word) := ⟨rfl, rfl, rfl, by decide +kernel, rfl, by decide +kernel, by decide +kernel⟩
theorem ok_cousin_word (Z : Zx K mg) : Okf P w K mg base 1 "cousin_word" (["m", "n"] : List Str) sp_cousin_word := by
  obtain ⟨fd, F⟩ := Z.f_cousin_word
  have hb : ∀ (cdv : Value) (A : Around) (outer : List Env) (s : Shared) (H : Hp) (E : XK), Room 0 (A.deeper (envOfC "cousin_word" (defScope s_cousin_word) s.heap.objs.size (He.ga K "cousin_word") cdv)) → TSs (cxOf (L2.CX P w) P w K mg base N_cousin_word "cousin_word" (defScope s_cousin_word) (He.ga K "cousin_word") cdv A outer s H E) (defBody s_cousin_word) c_cousin_word := fun cdv A outer s H E hr =>
    (tss_cons (ts_set (i := 2) sc_cousin_word.nd rfl (.inl rfl) (te_bin op_subT (te_fnB (fn_min2 rfl) rfl Z.b_min boot_min (ta_cons (te_var (i := 0) rfl (.inl rfl)) (ta_cons (te_var (i := 1) rfl (.inl rfl)) ta_nil))) te_int))
      (tss_cons (ts_set (i := 3) sc_cousin_word.nd rfl (.inl rfl) (te_bin op_addT (te_fnT fn_str rfl Z.b_str boot_str (ta_cons (te_var (i := 2) rfl (.inl rfl)) ta_nil)) te_str))
      (tss_cons (ts_if (tb_cmp (op_leT (u64 hr)) (te_var (i := 2) rfl (.inl rfl)) (te_fnB fn_len rfl Z.b_len boot_len (ta_cons (te_globR rfl Z.m_DEGREES (fun M H S => Z.r_DEGREES _ H S rfl)) ta_nil)) rfl) (tss_one (ts_set (i := 3) sc_cousin_word.nd rfl (.inl rfl) (te_ix (te_globR rfl Z.m_DEGREES (fun M H S => Z.r_DEGREES _ H S rfl)) (te_bin op_subT (te_var (i := 2) rfl (.inl rfl)) te_int)))) tss_nil)
      (tss_cons (ts_set (i := 4) sc_cousin_word.nd rfl (.inl rfl) (te_fnB fn_abs rfl Z.b_abs boot_abs (ta_cons (te_bin op_subT (te_var (i := 0) rfl (.inl rfl)) (te_var (i := 1) rfl (.inl rfl))) ta_nil)))
      (tss_cons (ts_set (i := 5) sc_cousin_word.nd rfl (.inl rfl) (te_bin op_addT (te_bin op_addT te_str (te_fnT fn_str rfl Z.b_str boot_str (ta_cons (te_var (i := 4) rfl (.inl rfl)) ta_nil))) te_str))
      (tss_cons (ts_if (tb_cmp (op_ltT (u64 hr)) (te_var (i := 4) rfl (.inl rfl)) (te_fnB fn_len rfl Z.b_len boot_len (ta_cons (te_globR rfl Z.m_TIMES (fun M H S => Z.r_TIMES _ H S rfl)) ta_nil)) rfl) (tss_one (ts_set (i := 5) sc_cousin_word.nd rfl (.inl rfl) (te_ix (te_globR rfl Z.m_TIMES (fun M H S => Z.r_TIMES _ H S rfl)) (te_var (i := 4) rfl (.inl rfl))))) tss_nil)
      (tss_one (ts_ret (te_bin op_addT (te_bin op_addT (te_var (i := 3) rfl (.inl rfl)) te_str) (te_var (i := 5) rfl (.inl rfl)))))))))))
  exact ⟨fd, fn_t F sc_cousin_word (fun ts S Q E h => by obtain ⟨_, _, rfl, _⟩ := h; rfl) hb vc_cousin_word, Z.g_cousin_word, F.kp, F.bindsN fun _ _ _ _ _ _ us hl => match us, hl with | [_, _], _ => rfl⟩
theorem sc_plain_word : FnScope N_plain_word (["m", "n", "mark"] : List Str) (defScope s_plain_word) := ⟨rfl, rfl, rfl, by decide +kernel, rfl, by decide +kernel, by decide +kernel⟩
theorem ok_plain_word (Z : Zx K mg) : Okf P w K mg base 3 "plain_word" (["m", "n", "mark"] : List Str) sp_plain_word := by
  have O_line_word : Okf P w K mg base 2 "line_word" (["words", "at", "steps"] : List Str) sp_line_word := ok_line_word Z
  have O_greats : Okf P w K mg base 1 "greats" (["many"] : List Str) sp_greats := ok_greats Z
  have O_cousin_word : Okf P w K mg base 1 "cousin_word" (["m", "n"] : List Str) sp_cousin_word := ok_cousin_word Z
  obtain ⟨fd, F⟩ := Z.f_plain_word
  have hb : ∀ (cdv : Value) (A : Around) (outer : List Env) (s : Shared) (H : Hp) (E : XK), Room 2 (A.deeper (envOfC "plain_word" (defScope s_plain_word) s.heap.objs.size (He.ga K "plain_word") cdv)) → TSs (cxOf (L2.CX P w) P w K mg base N_plain_word "plain_word" (defScope s_plain_word) (He.ga K "plain_word") cdv A outer s H E) (defBody s_plain_word) c_plain_word := fun cdv A outer s H E hr =>
    (tss_cons (ts_set (i := 3) sc_plain_word.nd rfl (.inl rfl) (te_tm PySem.F.slot_tuple_index PySem.F.type_tuple_index mt_tixT rfl Z.m_MARKS Z.d_MARKS (fun M H S => Z.r_MARKS _ H S rfl) (ta_cons (te_var (i := 2) rfl (.inl rfl)) ta_nil)))
      (tss_cons (ts_if (tb_cmp (op_eqT (u64 hr)) (te_var (i := 0) rfl (.inl rfl)) te_int rfl) (tss_one (ts_ret (te_callO O_line_word hr (by decide) rfl (ta_cons (te_globR rfl Z.m_UP (fun M H S => Z.r_UP _ H S rfl)) (ta_cons (te_var (i := 3) rfl (.inl rfl)) (ta_cons (te_var (i := 1) rfl (.inl rfl)) ta_nil)))))) tss_nil)
      (tss_cons (ts_if (tb_cmp (op_eqT (u64 hr)) (te_var (i := 1) rfl (.inl rfl)) te_int rfl) (tss_one (ts_ret (te_callO O_line_word hr (by decide) rfl (ta_cons (te_globR rfl Z.m_DOWN (fun M H S => Z.r_DOWN _ H S rfl)) (ta_cons (te_var (i := 3) rfl (.inl rfl)) (ta_cons (te_var (i := 0) rfl (.inl rfl)) ta_nil)))))) tss_nil)
      (tss_cons (ts_if (TW.toB (tw_and (tb_cmp (op_eqT (u64 hr)) (te_var (i := 0) rfl (.inl rfl)) te_int rfl) (tw_and1 (tb_cmp (op_eqT (u64 hr)) (te_var (i := 1) rfl (.inl rfl)) te_int rfl)))) (tss_one (ts_ret (te_ix (te_globR rfl Z.m_BESIDE (fun M H S => Z.r_BESIDE _ H S rfl)) (te_var (i := 3) rfl (.inl rfl))))) tss_nil)
      (tss_cons (ts_if (tb_cmp (op_eqT (u64 hr)) (te_var (i := 0) rfl (.inl rfl)) te_int rfl) (tss_one (ts_ret (te_bin op_addT (te_callO O_greats hr (by decide) rfl (ta_cons (te_bin op_subT (te_var (i := 1) rfl (.inl rfl)) te_int) ta_nil)) (te_ix (te_globR rfl Z.m_ABOVE (fun M H S => Z.r_ABOVE _ H S rfl)) (te_var (i := 3) rfl (.inl rfl)))))) tss_nil)
      (tss_cons (ts_if (tb_cmp (op_eqT (u64 hr)) (te_var (i := 1) rfl (.inl rfl)) te_int rfl) (tss_one (ts_ret (te_bin op_addT (te_callO O_greats hr (by decide) rfl (ta_cons (te_bin op_subT (te_var (i := 0) rfl (.inl rfl)) te_int) ta_nil)) (te_ix (te_globR rfl Z.m_BELOW (fun M H S => Z.r_BELOW _ H S rfl)) (te_var (i := 3) rfl (.inl rfl)))))) tss_nil)
      (tss_one (ts_ret (te_callO O_cousin_word hr (by decide) rfl (ta_cons (te_var (i := 0) rfl (.inl rfl)) (ta_cons (te_var (i := 1) rfl (.inl rfl)) ta_nil)))))))))))
  exact ⟨fd, fn_t F sc_plain_word (fun ts S Q E h => by obtain ⟨_, _, _, rfl, _⟩ := h; rfl) hb vc_plain_word, Z.g_plain_word, F.kp, F.bindsN fun _ _ _ _ _ _ us hl => match us, hl with | [_, _, _], _ => rfl⟩
theorem sc_word_ahead : FnScope N_word_ahead (["tie"] : List Str) (defScope s_word_ahead) := ⟨rfl, rfl, rfl, by decide +kernel, rfl, by decide +kernel, by decide +kernel⟩
theorem ok_word_ahead (Z : Zx K mg) : Okf P w K mg base 1 "word_ahead" (["tie"] : List Str) sp_word_ahead := by
  obtain ⟨fd, F⟩ := Z.f_word_ahead
  have hb : ∀ (cdv : Value) (A : Around) (outer : List Env) (s : Shared) (H : Hp) (E : XK), Room 0 (A.deeper (envOfC "word_ahead" (defScope s_word_ahead) s.heap.objs.size (He.ga K "word_ahead") cdv)) → TSs (cxOf (L2.CX P w) P w K mg base N_word_ahead "word_ahead" (defScope s_word_ahead) (He.ga K "word_ahead") cdv A outer s H E) (defBody s_word_ahead) c_word_ahead := fun cdv A outer s H E hr =>
    (tss_one (ts_ret (te_ix (te_lst (ta_cons te_str (ta_cons te_str ta_nil))) (te_fnT fn_int rfl Z.b_int boot_int (ta_cons (te_cmp (op_eqT (u64 hr)) (te_ix (te_var (i := 0) rfl (.inl rfl)) te_int) te_str rfl) ta_nil)))))
  exact ⟨fd, fn_t F sc_word_ahead (fun ts S Q E h => by obtain ⟨_, rfl, _⟩ := h; rfl) hb vc_word_ahead, Z.g_word_ahead, F.kp, F.bindsN fun _ _ _ _ _ _ us hl => match us, hl with | [_], _ => rfl⟩
theorem sc_half_word : FnScope N_half_word (["tie", "mark"] : List Str) (defScope s_half_word) := ⟨rfl, rfl, rfl, by decide +kernel, rfl, by decide +kernel, by decide +kernel⟩
theorem ok_half_word (Z : Zx K mg) : Okf P w K mg base 4 "half_word" (["tie", "mark"] : List Str) sp_half_word := by
  have O_plain_word : Okf P w K mg base 3 "plain_word" (["m", "n", "mark"] : List Str) sp_plain_word := ok_plain_word Z
  obtain ⟨fd, F⟩ := Z.f_half_word
  have hb : ∀ (cdv : Value) (A : Around) (outer : List Env) (s : Shared) (H : Hp) (E : XK), Room 3 (A.deeper (envOfC "half_word" (defScope s_half_word) s.heap.objs.size (He.ga K "half_word") cdv)) → TSs (cxOf (L2.CX P w) P w K mg base N_half_word "half_word" (defScope s_half_word) (He.ga K "half_word") cdv A outer s H E) (defBody s_half_word) c_half_word := fun cdv A outer s H E hr =>
    (tss_one (ts_ret (te_bin op_addT (te_ix (te_lst (ta_cons te_str (ta_cons te_str ta_nil))) (te_ix (te_var (i := 0) rfl (.inl rfl)) te_int)) (te_callO O_plain_word hr (by decide) rfl (ta_cons (te_ix (te_var (i := 0) rfl (.inl rfl)) te_int) (ta_cons (te_ix (te_var (i := 0) rfl (.inl rfl)) te_int) (ta_cons (te_var (i := 1) rfl (.inl rfl)) ta_nil)))))))
  exact ⟨fd, fn_t F sc_half_word (fun ts S Q E h => by obtain ⟨_, _, rfl, _⟩ := h; rfl) hb vc_half_word, Z.g_half_word, F.kp, F.bindsN fun _ _ _ _ _ _ us hl => match us, hl with | [_, _], _ => rfl⟩
theorem sc_word_of : FnScope N_word_of (["tie", "mark"] : List Str) (defScope s_word_of) := ⟨rfl, rfl, rfl, by decide +kernel, rfl, by decide +kernel, by decide +kernel⟩
theorem ok_word_of (Z : Zx K mg) : Okf P w K mg base 5 "word_of" (["tie", "mark"] : List Str) sp_word_of := by
  have O_word_ahead : Okf P w K mg base 1 "word_ahead" (["tie"] : List Str) sp_word_ahead := ok_word_ahead Z
  have O_half_word : Okf P w K mg base 4 "half_word" (["tie", "mark"] : List Str) sp_half_word := ok_half_word Z
  obtain ⟨fd, F⟩ := Z.f_word_of
  have hb : ∀ (cdv : Value) (A : Around) (outer : List Env) (s : Shared) (H : Hp) (E : XK), Room 4 (A.deeper (envOfC "word_of" (defScope s_word_of) s.heap.objs.size (He.ga K "word_of") cdv)) → TSs (cxOf (L2.CX P w) P w K mg base N_word_of "word_of" (defScope s_word_of) (He.ga K "word_of") cdv A outer s H E) (defBody s_word_of) c_word_of := fun cdv A outer s H E hr =>
    (tss_one (ts_ret (te_bin op_addT (te_callO O_word_ahead hr (by decide) rfl (ta_cons (te_var (i := 0) rfl (.inl rfl)) ta_nil)) (te_callO O_half_word hr (by decide) rfl (ta_cons (te_var (i := 0) rfl (.inl rfl)) (ta_cons (te_var (i := 1) rfl (.inl rfl)) ta_nil))))))
  exact ⟨fd, fn_t F sc_word_of (fun ts S Q E h => by obtain ⟨_, _, rfl, _⟩ := h; rfl) hb vc_word_of, Z.g_word_of, F.kp, F.bindsN fun _ _ _ _ _ _ us hl => match us, hl with | [_, _], _ => rfl⟩
theorem sc_law_pen_of : FnScope N_law_pen_of (["_law_script"] : List Str) (defScope s_law_pen_of) := ⟨rfl, rfl, rfl, by decide +kernel, rfl, by decide +kernel, by decide +kernel⟩
theorem ok_law_pen_of (Z : Zx K mg) : Okf P w K mg base 1 "_law_pen_of" (["_law_script"] : List Str) sp_law_pen_of := by
  obtain ⟨fd, F⟩ := Z.f_law_pen_of
  have hb : ∀ (cdv : Value) (A : Around) (outer : List Env) (s : Shared) (H : Hp) (E : XK), Room 0 (A.deeper (envOfC "_law_pen_of" (defScope s_law_pen_of) s.heap.objs.size (He.ga K "_law_pen_of") cdv)) → TSs (cxOf (L2.CX P w) P w K mg base N_law_pen_of "_law_pen_of" (defScope s_law_pen_of) (He.ga K "_law_pen_of") cdv A outer s H E) (defBody s_law_pen_of) c_law_pen_of := fun cdv A outer s H E hr =>
    (tss_one (ts_ret (te_lstM (ta_cons (te_comp rfl sc_law_pen_of.nd (ti_seq (te_slice (te_var (i := 0) rfl (.inl rfl)) to_no (to_some te_int))) (ow := [("_law_cell", 1)]) (blkOk_by (by kernel_rfl)) (fun _ _ _ _ _ => (tg_name (i := 1) (by decide) sc_law_pen_of.nd rfl (.inl rfl))) (fun _ _ _ _ _ => tbs_nil) (fun _ _ _ _ _ => (te_var (i := 1) rfl (.inl rfl)))) (ta_cons te_int (ta_cons te_int ta_nil))))))
  exact ⟨fd, fn_t F sc_law_pen_of (fun ts S Q E h => by obtain ⟨_, rfl, _⟩ := h; rfl) hb vc_law_pen_of, Z.g_law_pen_of, F.kp, F.bindsN fun _ _ _ _ _ _ us hl => match us, hl with | [_], _ => rfl⟩
theorem sc_law_draw : FnScope N_law_draw (["_law_pen", "_law_many"] : List Str) (defScope s_law_draw) := ⟨rfl, rfl, rfl, by decide +kernel, rfl, by decide +kernel, by decide +kernel⟩
theorem ok_law_draw (Z : Zx K mg) : Okf P w K mg base 1 "_law_draw" (["_law_pen", "_law_many"] : List Str) sp_law_draw := by
  obtain ⟨fd, F⟩ := Z.f_law_draw
  have hb : ∀ (cdv : Value) (A : Around) (outer : List Env) (s : Shared) (H : Hp) (E : XK), Room 0 (A.deeper (envOfC "_law_draw" (defScope s_law_draw) s.heap.objs.size (He.ga K "_law_draw") cdv)) → TSs (cxOf (L2.CX P w) P w K mg base N_law_draw "_law_draw" (defScope s_law_draw) (He.ga K "_law_draw") cdv A outer s H E) (defBody s_law_draw) c_law_draw := fun cdv A outer s H E hr =>
    (tss_cons (ts_if (tb_cmp (op_gtT (u64 hr)) (te_ix (te_var (i := 0) rfl (.inl rfl)) te_int) te_int rfl) (tss_cons (ts_set (i := 2) sc_law_draw.nd rfl (.inl rfl) (te_bin op_modT (te_ix (te_var (i := 0) rfl (.inl rfl)) te_int) (te_var (i := 1) rfl (.inl rfl))))
      (tss_cons (ts_asg (vs := []) (te_bin op_fdivT (te_ix (te_var (i := 0) rfl (.inl rfl)) te_int) (te_var (i := 1) rfl (.inl rfl))) (tg_ix (te_var (i := 0) rfl (.inl rfl)) te_int))
      (tss_one (ts_ret (te_var (i := 2) rfl (.inl rfl)))))) tss_nil)
      (tss_cons (ts_set (i := 3) sc_law_draw.nd rfl (.inl rfl) (te_ix (te_var (i := 0) rfl (.inl rfl)) te_int))
      (tss_cons (ts_asg (vs := []) (te_bin op_addT (te_var (i := 3) rfl (.inl rfl)) te_int) (tg_ix (te_var (i := 0) rfl (.inl rfl)) te_int))
      (tss_cons (ts_set (i := 4) sc_law_draw.nd rfl (.inl rfl) te_int)
      (tss_cons (ts_if (tb_cmp (op_gtT (u64 hr)) (te_fnB fn_len rfl Z.b_len boot_len (ta_cons (te_ix (te_var (i := 0) rfl (.inl rfl)) te_int) ta_nil)) te_int rfl) (tss_one (ts_set (i := 4) sc_law_draw.nd rfl (.inl rfl) (te_ix (te_ix (te_var (i := 0) rfl (.inl rfl)) te_int) (te_bin op_modT (te_var (i := 3) rfl (.inl rfl)) (te_fnB fn_len rfl Z.b_len boot_len (ta_cons (te_ix (te_var (i := 0) rfl (.inl rfl)) te_int) ta_nil)))))) tss_nil)
      (tss_cons (ts_if (TW.toB (tw_and (tb_cmp (op_ltT (u64 hr)) (te_var (i := 3) rfl (.inl rfl)) (te_fnB fn_len rfl Z.b_len boot_len (ta_cons (te_ix (te_var (i := 0) rfl (.inl rfl)) te_int) ta_nil)) rfl) (tw_and1 (tb_cmp (op_geT (u64 hr)) (te_fnB fn_abs rfl Z.b_abs boot_abs (ta_cons (te_var (i := 4) rfl (.inl rfl)) ta_nil)) (te_bin op_powT te_int te_int) rfl)))) (tss_cons (ts_asg (vs := []) (te_bin op_fdivT (te_fnB fn_abs rfl Z.b_abs boot_abs (ta_cons (te_var (i := 4) rfl (.inl rfl)) ta_nil)) (te_var (i := 1) rfl (.inl rfl))) (tg_ix (te_var (i := 0) rfl (.inl rfl)) te_int))
      (tss_one (ts_ret (te_bin op_modT (te_fnB fn_abs rfl Z.b_abs boot_abs (ta_cons (te_var (i := 4) rfl (.inl rfl)) ta_nil)) (te_var (i := 1) rfl (.inl rfl)))))) tss_nil)
      (tss_cons (ts_set (i := 5) sc_law_draw.nd rfl (.inl rfl) (te_bin op_modT (te_bin op_mulT2 (te_bin op_addT (te_bin op_addT (te_bin op_modT (te_var (i := 4) rfl (.inl rfl)) te_int) (te_bin op_mulT2 te_int (te_var (i := 3) rfl (.inl rfl)))) te_int) te_int) te_int))
      (tss_cons (ts_set (i := 5) sc_law_draw.nd rfl (.inl rfl) (te_bin op_modT (te_bin op_mulT2 (te_bin op_modT (te_bin op_mulT2 (te_var (i := 5) rfl (.inl rfl)) (te_var (i := 5) rfl (.inl rfl))) te_int) (te_bin op_addT (te_bin op_addT (te_bin op_modT (te_var (i := 5) rfl (.inl rfl)) te_int) (te_bin op_mulT2 te_int (te_var (i := 3) rfl (.inl rfl)))) te_int)) te_int))
      (tss_one (ts_ret (te_bin op_modT (te_bin op_fdivT (te_var (i := 5) rfl (.inl rfl)) te_int) (te_var (i := 1) rfl (.inl rfl)))))))))))))
  exact ⟨fd, fn_t F sc_law_draw (fun ts S Q E h => by obtain ⟨_, _, rfl, _⟩ := h; rfl) hb vc_law_draw, Z.g_law_draw, F.kp, F.bindsN fun _ _ _ _ _ _ us hl => match us, hl with | [_, _], _ => rfl⟩
theorem sc_law_line_of : FnScope N_law_line_of (["_law_words", "_law_at", "_law_steps"] : List Str) (defScope s_law_line_of) := ⟨rfl, rfl, rfl, by decide +kernel, rfl, by decide +kernel, by decide +kernel⟩
theorem ok_law_line_of (Z : Zx K mg) : Okf P w K mg base 1 "_law_line_of" (["_law_words", "_law_at", "_law_steps"] : List Str) sp_law_line_of := by
  obtain ⟨fd, F⟩ := Z.f_law_line_of
  have hb : ∀ (cdv : Value) (A : Around) (outer : List Env) (s : Shared) (H : Hp) (E : XK), Room 0 (A.deeper (envOfC "_law_line_of" (defScope s_law_line_of) s.heap.objs.size (He.ga K "_law_line_of") cdv)) → TSs (cxOf (L2.CX P w) P w K mg base N_law_line_of "_law_line_of" (defScope s_law_line_of) (He.ga K "_law_line_of") cdv A outer s H E) (defBody s_law_line_of) c_law_line_of := fun cdv A outer s H E hr =>
    (tss_cons (ts_if (tb_cmp (op_eqT (u64 hr)) (te_var (i := 2) rfl (.inl rfl)) te_int rfl) (tss_one (ts_ret (te_ix (te_var (i := 0) rfl (.inl rfl)) (te_var (i := 1) rfl (.inl rfl))))) tss_nil)
      (tss_one (ts_ret (te_bin op_addT (te_bin op_addT (te_sm1 PySem.F.slot_str_join PySem.F.type_str_join mt_joinT te_str (te_comp rfl sc_law_line_of.nd (ti_range1 rfl Z.b_range (te_bin op_subT (te_var (i := 2) rfl (.inl rfl)) te_int)) (ow := [("_law_k", 3)]) (blkOk_by (by kernel_rfl)) (fun _ _ _ _ _ => (tg_name (i := 3) (by decide) sc_law_line_of.nd rfl (.inl rfl))) (fun _ _ _ _ _ => tbs_nil) (fun _ _ _ _ _ => te_str))) te_str) (te_ix (te_var (i := 0) rfl (.inl rfl)) (te_var (i := 1) rfl (.inl rfl)))))))
  exact ⟨fd, fn_t F sc_law_line_of (fun ts S Q E h => by obtain ⟨_, _, _, rfl, _⟩ := h; rfl) hb vc_law_line_of, Z.g_law_line_of, F.kp, F.bindsN fun _ _ _ _ _ _ us hl => match us, hl with | [_, _, _], _ => rfl⟩
theorem sc_law_word_due : FnScope N_law_word_due (["_law_m", "_law_n", "_law_half", "_law_by", "_law_mark"] : List Str) (defScope s_law_word_due) := ⟨rfl, rfl, rfl, by decide +kernel, rfl, by decide +kernel, by decide +kernel⟩
theorem ok_law_word_due (Z : Zx K mg) : Okf P w K mg base 2 "_law_word_due" (["_law_m", "_law_n", "_law_half", "_law_by", "_law_mark"] : List Str) sp_law_word_due := by
  have O_law_line_of : Okf P w K mg base 1 "_law_line_of" (["_law_words", "_law_at", "_law_steps"] : List Str) sp_law_line_of := ok_law_line_of Z
  obtain ⟨fd, F⟩ := Z.f_law_word_due
  have hb : ∀ (cdv : Value) (A : Around) (outer : List Env) (s : Shared) (H : Hp) (E : XK), Room 1 (A.deeper (envOfC "_law_word_due" (defScope s_law_word_due) s.heap.objs.size (He.ga K "_law_word_due") cdv)) → TSs (cxOf (L2.CX P w) P w K mg base N_law_word_due "_law_word_due" (defScope s_law_word_due) (He.ga K "_law_word_due") cdv A outer s H E) (defBody s_law_word_due) c_law_word_due := fun cdv A outer s H E hr =>
    (tss_cons (ts_set (i := 5) sc_law_word_due.nd rfl (.inl rfl) (te_sm1 PySem.F.slot_str_index PySem.F.type_str_index mt_sixT te_str (te_var (i := 4) rfl (.inl rfl))))
      (tss_cons (ts_set (i := 6) sc_law_word_due.nd rfl (.inl rfl) te_str)
      (tss_cons (ts_if (tb_cmp (op_eqT (u64 hr)) (te_var (i := 0) rfl (.inl rfl)) te_int rfl) (tss_one (ts_set (i := 6) sc_law_word_due.nd rfl (.inl rfl) (te_callO O_law_line_of hr (by decide) rfl (ta_cons (te_lst (ta_cons te_str (ta_cons te_str (ta_cons te_str ta_nil)))) (ta_cons (te_var (i := 5) rfl (.inl rfl)) (ta_cons (te_var (i := 1) rfl (.inl rfl)) ta_nil)))))) (tss_one (ts_if (tb_cmp (op_eqT (u64 hr)) (te_var (i := 1) rfl (.inl rfl)) te_int rfl) (tss_one (ts_set (i := 6) sc_law_word_due.nd rfl (.inl rfl) (te_callO O_law_line_of hr (by decide) rfl (ta_cons (te_lst (ta_cons te_str (ta_cons te_str (ta_cons te_str ta_nil)))) (ta_cons (te_var (i := 5) rfl (.inl rfl)) (ta_cons (te_var (i := 0) rfl (.inl rfl)) ta_nil)))))) (tss_one (ts_if (TW.toB (tw_and (tb_cmp (op_eqT (u64 hr)) (te_var (i := 0) rfl (.inl rfl)) te_int rfl) (tw_and1 (tb_cmp (op_eqT (u64 hr)) (te_var (i := 1) rfl (.inl rfl)) te_int rfl)))) (tss_one (ts_set (i := 6) sc_law_word_due.nd rfl (.inl rfl) (te_ix (te_lst (ta_cons te_str (ta_cons te_str (ta_cons te_str ta_nil)))) (te_var (i := 5) rfl (.inl rfl))))) (tss_one (ts_if (tb_cmp (op_eqT (u64 hr)) (te_var (i := 0) rfl (.inl rfl)) te_int rfl) (tss_one (ts_set (i := 6) sc_law_word_due.nd rfl (.inl rfl) (te_bin op_addT (te_bin op_mulT2 te_str (te_bin op_subT (te_var (i := 1) rfl (.inl rfl)) te_int)) (te_ix (te_lst (ta_cons te_str (ta_cons te_str (ta_cons te_str ta_nil)))) (te_var (i := 5) rfl (.inl rfl)))))) (tss_one (ts_if (tb_cmp (op_eqT (u64 hr)) (te_var (i := 1) rfl (.inl rfl)) te_int rfl) (tss_one (ts_set (i := 6) sc_law_word_due.nd rfl (.inl rfl) (te_bin op_addT (te_bin op_mulT2 te_str (te_bin op_subT (te_var (i := 0) rfl (.inl rfl)) te_int)) (te_ix (te_lst (ta_cons te_str (ta_cons te_str (ta_cons te_str ta_nil)))) (te_var (i := 5) rfl (.inl rfl)))))) (tss_cons (ts_set (i := 7) sc_law_word_due.nd rfl (.inl rfl) (te_bin op_subT (te_fnB (fn_min2 rfl) rfl Z.b_min boot_min (ta_cons (te_var (i := 0) rfl (.inl rfl)) (ta_cons (te_var (i := 1) rfl (.inl rfl)) ta_nil))) te_int))
      (tss_cons (ts_set (i := 8) sc_law_word_due.nd rfl (.inl rfl) (te_bin op_addT (te_lst (ta_cons te_str (ta_cons te_str (ta_cons te_str (ta_cons te_str ta_nil))))) (te_comp rfl sc_law_word_due.nd (ti_range2 rfl Z.b_range te_int te_int) (ow := [("_law_k", 10)]) (blkOk_by (by kernel_rfl)) (fun _ _ _ _ _ => (tg_name (i := 10) (by decide) sc_law_word_due.nd rfl (.inl rfl))) (fun _ _ _ _ _ => tbs_nil) (fun _ _ _ _ _ => (te_bin op_addT (te_fnT fn_str rfl Z.b_str boot_str (ta_cons (te_var (i := 10) rfl (.inl rfl)) ta_nil)) te_str)))))
      (tss_cons (ts_set (i := 6) sc_law_word_due.nd rfl (.inl rfl) (te_bin op_addT (te_ix (te_var (i := 8) rfl (.inl rfl)) (te_bin op_subT (te_var (i := 7) rfl (.inl rfl)) te_int)) te_str))
      (tss_cons (ts_set (i := 9) sc_law_word_due.nd rfl (.inl rfl) (te_bin op_subT (te_fnB (fn_max2 rfl) rfl Z.b_max boot_max (ta_cons (te_var (i := 0) rfl (.inl rfl)) (ta_cons (te_var (i := 1) rfl (.inl rfl)) ta_nil))) (te_fnB (fn_min2 rfl) rfl Z.b_min boot_min (ta_cons (te_var (i := 0) rfl (.inl rfl)) (ta_cons (te_var (i := 1) rfl (.inl rfl)) ta_nil)))))
      (tss_one (ts_set (i := 6) sc_law_word_due.nd rfl (.inl rfl) (te_bin op_addT (te_var (i := 6) rfl (.inl rfl)) (te_ix (te_lst (ta_cons te_str (ta_cons te_str (ta_cons te_str (ta_cons (te_bin op_addT (te_bin op_addT te_str (te_fnT fn_str rfl Z.b_str boot_str (ta_cons (te_var (i := 9) rfl (.inl rfl)) ta_nil))) te_str) ta_nil))))) (te_fnB (fn_min2 rfl) rfl Z.b_min boot_min (ta_cons (te_var (i := 9) rfl (.inl rfl)) (ta_cons te_int ta_nil))))))))))))))))))))
      (tss_one (ts_ret (te_bin op_addT (te_bin op_addT (te_bin op_mulT2 te_str (te_fnT fn_int rfl Z.b_int boot_int (ta_cons (te_cmp (op_eqT (u64 hr)) (te_var (i := 3) rfl (.inl rfl)) te_str rfl) ta_nil))) (te_bin op_mulT2 te_str (te_var (i := 2) rfl (.inl rfl)))) (te_var (i := 6) rfl (.inl rfl))))))))
  exact ⟨fd, fn_t F sc_law_word_due (fun ts S Q E h => by obtain ⟨_, _, _, _, _, rfl, _⟩ := h; rfl) hb vc_law_word_due, Z.g_law_word_due, F.kp, F.bindsN fun _ _ _ _ _ _ us hl => match us, hl with | [_, _, _, _, _], _ => rfl⟩
theorem sc_the_law : FnScope N_the_law (["_law_script"] : List Str) (defScope s_the_law) := ⟨rfl, rfl, rfl, by decide +kernel, rfl, by decide +kernel, by decide +kernel⟩
theorem ok_the_law (Z : Zx K mg) : ∃ fd : FuncData, (∀ (s : Shared) (u : Value), BindsTo s fd ⟨[u], []⟩ [("_law_script", u)]) ∧ ∀ base : Heap, FnOk P w K mg base (L2.CX P w) 6 (He.ga K "law") fd (["_law_script"] : List Str) (liftSp P K w sp_the_law) := by
  obtain ⟨fd, F⟩ := Z.f_the_law
  refine ⟨fd, law_def F fun _ _ _ _ _ _ us hl => match us, hl with | [_], _ => rfl, fun base => ?_⟩
  have O_law_pen_of : Okf P w K mg base 1 "_law_pen_of" (["_law_script"] : List Str) sp_law_pen_of := ok_law_pen_of Z
  have O_law_draw : Okf P w K mg base 1 "_law_draw" (["_law_pen", "_law_many"] : List Str) sp_law_draw := ok_law_draw Z
  have O_word_of : Okf P w K mg base 5 "word_of" (["tie", "mark"] : List Str) sp_word_of := ok_word_of Z
  have O_law_word_due : Okf P w K mg base 2 "_law_word_due" (["_law_m", "_law_n", "_law_half", "_law_by", "_law_mark"] : List Str) sp_law_word_due := ok_law_word_due Z
  have hb : ∀ (cdv : Value) (A : Around) (outer : List Env) (s : Shared) (H : Hp) (E : XK), Room 5 (A.deeper (envOfC "law" (defScope s_the_law) s.heap.objs.size (He.ga K "law") cdv)) → TSs (cxOf (L2.CX P w) P w K mg base N_the_law "law" (defScope s_the_law) (He.ga K "law") cdv A outer s H E) (defBody s_the_law) c_the_law := fun cdv A outer s H E hr =>
    (tss_cons (ts_set (i := 1) sc_the_law.nd rfl (.inl rfl) (te_callO O_law_pen_of hr (by decide) rfl (ta_cons (te_var (i := 0) rfl (.inl rfl)) ta_nil)))
      (tss_cons (ts_for (vs := [2]) (passes_of rfl) rfl (ti_range1 rfl Z.b_range (te_bin op_addT te_int (te_callO O_law_draw hr (by decide) rfl (ta_cons (te_var (i := 1) rfl (.inl rfl)) (ta_cons te_int ta_nil))))) (tg_name (i := 2) (by decide) sc_the_law.nd rfl (.inl rfl)) (tss_cons (ts_set (i := 3) sc_the_law.nd rfl (.inl rfl) (te_ix (te_lst (ta_cons te_int (ta_cons te_int (ta_cons te_int ta_nil)))) (te_callO O_law_draw hr (by decide) rfl (ta_cons (te_var (i := 1) rfl (.inl rfl)) (ta_cons te_int ta_nil)))))
      (tss_cons (ts_par2 (i := 4) (j := 5) rfl sc_the_law.nd rfl rfl (by decide) rfl rfl (ta_cons (te_callO O_law_draw hr (by decide) rfl (ta_cons (te_var (i := 1) rfl (.inl rfl)) (ta_cons (te_var (i := 3) rfl (.inl rfl)) ta_nil))) (ta_cons (te_callO O_law_draw hr (by decide) rfl (ta_cons (te_var (i := 1) rfl (.inl rfl)) (ta_cons (te_var (i := 3) rfl (.inl rfl)) ta_nil))) ta_nil)) rfl)
      (tss_cons (ts_if (tb_cmp (op_eqT (u64 hr)) (te_callO O_law_draw hr (by decide) rfl (ta_cons (te_var (i := 1) rfl (.inl rfl)) (ta_cons te_int ta_nil))) te_int rfl) (tss_one (ts_set (i := 5) sc_the_law.nd rfl (.inl rfl) (te_fnB (fn_max2 rfl) rfl Z.b_max boot_max (ta_cons te_int (ta_cons (te_bin op_subT (te_var (i := 4) rfl (.inl rfl)) (te_callO O_law_draw hr (by decide) rfl (ta_cons (te_var (i := 1) rfl (.inl rfl)) (ta_cons te_int ta_nil)))) ta_nil))))) tss_nil)
      (tss_cons (ts_if (tb_cmp (op_eqT (u64 hr)) (te_bin op_addT (te_var (i := 4) rfl (.inl rfl)) (te_var (i := 5) rfl (.inl rfl))) te_int rfl) (tss_one (ts_set (i := 5) sc_the_law.nd rfl (.inl rfl) (te_bin op_addT te_int (te_callO O_law_draw hr (by decide) rfl (ta_cons (te_var (i := 1) rfl (.inl rfl)) (ta_cons te_int ta_nil)))))) tss_nil)
      (tss_cons (ts_set (i := 6) sc_the_law.nd rfl (.inl rfl) (te_bin op_mulT2 (te_callO O_law_draw hr (by decide) rfl (ta_cons (te_var (i := 1) rfl (.inl rfl)) (ta_cons te_int ta_nil))) (te_fnT fn_int rfl Z.b_int boot_int (ta_cons (te_and (te_cmp (op_gtT (u64 hr)) (te_var (i := 4) rfl (.inl rfl)) te_int rfl) (te_one (te_cmp (op_gtT (u64 hr)) (te_var (i := 5) rfl (.inl rfl)) te_int rfl))) ta_nil))))
      (tss_cons (ts_set (i := 7) sc_the_law.nd rfl (.inl rfl) (te_ix (te_lst (ta_cons te_str (ta_cons te_str ta_nil))) (te_callO O_law_draw hr (by decide) rfl (ta_cons (te_var (i := 1) rfl (.inl rfl)) (ta_cons te_int ta_nil)))))
      (tss_one (ts_for (vs := [8]) (passes_of rfl) rfl (ti_seq te_str) (tg_name (i := 8) (by decide) sc_the_law.nd rfl (.inl rfl)) (tss_cons (ts_set (i := 9) sc_the_law.nd rfl (.inl rfl) (te_callO O_word_of hr (by decide) rfl (ta_cons (te_tup (ta_cons (te_var (i := 4) rfl (.inl rfl)) (ta_cons (te_var (i := 5) rfl (.inl rfl)) (ta_cons (te_var (i := 6) rfl (.inl rfl)) (ta_cons (te_var (i := 7) rfl (.inl rfl)) ta_nil))))) (ta_cons (te_var (i := 8) rfl (.inl rfl)) ta_nil))))
      (tss_cons (ts_if (TW.toB (tw_or (tb_not (tb_val (te_isi .str (te_var (i := 9) rfl (.inl rfl)) rfl Z.b_isinstance rfl Z.b_str))) (tw_or1 (tb_cmp (op_neT (u64 hr)) (te_var (i := 9) rfl (.inl rfl)) (te_callO O_law_word_due hr (by decide) rfl (ta_cons (te_var (i := 4) rfl (.inl rfl)) (ta_cons (te_var (i := 5) rfl (.inl rfl)) (ta_cons (te_var (i := 6) rfl (.inl rfl)) (ta_cons (te_var (i := 7) rfl (.inl rfl)) (ta_cons (te_var (i := 8) rfl (.inl rfl)) ta_nil)))))) rfl)))) (tss_one (ts_ret te_bl)) tss_nil)
      (tss_one (ts_if (tb_cmp (op_neT (u64 hr)) (te_callO O_word_of hr (by decide) rfl (ta_cons (te_tup (ta_cons (te_var (i := 4) rfl (.inl rfl)) (ta_cons (te_var (i := 5) rfl (.inl rfl)) (ta_cons (te_var (i := 6) rfl (.inl rfl)) (ta_cons (te_var (i := 7) rfl (.inl rfl)) ta_nil))))) (ta_cons (te_var (i := 8) rfl (.inl rfl)) ta_nil))) (te_var (i := 9) rfl (.inl rfl)) rfl) (tss_one (ts_ret te_bl)) tss_nil)))))))))))))
      (tss_one (ts_ret te_bl))))
  exact fn_t F sc_the_law (fun ts S Q E h => by obtain ⟨_, rfl, _⟩ := h; rfl) hb vc_the_law
end
end K34

namespace K34
open PySem PySem.Spec PyProof.Rows L2 TL
def h_greats : He.DefD := ⟨("greats", none), "greats", "greats", defArgs s_greats, defBody s_greats, defScope s_greats, [], []⟩
def h_line_word : He.DefD := ⟨("line_word", none), "line_word", "line_word", defArgs s_line_word, defBody s_line_word, defScope s_line_word, [], []⟩
def h_cousin_word : He.DefD := ⟨("cousin_word", none), "cousin_word", "cousin_word", defArgs s_cousin_word, defBody s_cousin_word, defScope s_cousin_word, [], []⟩
def h_plain_word : He.DefD := ⟨("plain_word", none), "plain_word", "plain_word", defArgs s_plain_word, defBody s_plain_word, defScope s_plain_word, [], []⟩
def h_word_ahead : He.DefD := ⟨("word_ahead", none), "word_ahead", "word_ahead", defArgs s_word_ahead, defBody s_word_ahead, defScope s_word_ahead, [], []⟩
def h_half_word : He.DefD := ⟨("half_word", none), "half_word", "half_word", defArgs s_half_word, defBody s_half_word, defScope s_half_word, [], []⟩
def h_word_of : He.DefD := ⟨("word_of", none), "word_of", "word_of", defArgs s_word_of, defBody s_word_of, defScope s_word_of, [], []⟩
def h_law_pen_of : He.DefD := ⟨("_law_pen_of", none), "_law_pen_of", "_law_pen_of", defArgs s_law_pen_of, defBody s_law_pen_of, defScope s_law_pen_of, [], []⟩
def h_law_draw : He.DefD := ⟨("_law_draw", none), "_law_draw", "_law_draw", defArgs s_law_draw, defBody s_law_draw, defScope s_law_draw, [], []⟩
def h_law_line_of : He.DefD := ⟨("_law_line_of", none), "_law_line_of", "_law_line_of", defArgs s_law_line_of, defBody s_law_line_of, defScope s_law_line_of, [], []⟩
def h_law_word_due : He.DefD := ⟨("_law_word_due", none), "_law_word_due", "_law_word_due", defArgs s_law_word_due, defBody s_law_word_due, defScope s_law_word_due, [], []⟩
def h_the_law : He.DefD := ⟨("law", none), "law", "law", defArgs s_the_law, defBody s_the_law, defScope s_the_law, [], []⟩
def fn : List He.DefD := [h_greats, h_line_word, h_cousin_word, h_plain_word, h_word_ahead, h_half_word, h_word_of, h_law_pen_of, h_law_draw, h_law_line_of, h_law_word_due, h_the_law]
def fa : List He.Fa := [.free "abs", .free "int", .free "isinstance", .free "len", .free "max", .free "min", .free "range", .free "str", .glo "ABOVE", .glo "BELOW", .glo "BESIDE", .glo "DEGREES", .glo "DOWN", .glo "MARKS", .glo "TIMES", .glo "UP", .glo "greats", .glo "line_word", .glo "cousin_word", .glo "plain_word", .glo "word_ahead", .glo "half_word", .glo "word_of", .glo "_law_pen_of", .glo "_law_draw", .glo "_law_line_of", .glo "_law_word_due", .glo "law"]
def ex (K : PySem.W.Frag) : Bool := ([He.tupB K "ABOVE" ((["aunt", "uncle", "pibling"] : List Str).map He.Dv.str), noDic K "ABOVE", He.tupB K "BELOW" ((["niece", "nephew", "nibling"] : List Str).map He.Dv.str), noDic K "BELOW", He.tupB K "BESIDE" ((["sister", "brother", "sibling"] : List Str).map He.Dv.str), noDic K "BESIDE", He.tupB K "DEGREES" ((["first", "second", "third", "fourth"] : List Str).map He.Dv.str), noDic K "DEGREES", He.tupB K "DOWN" ((["daughter", "son", "child"] : List Str).map He.Dv.str), noDic K "DOWN", He.tupB K "MARKS" ((["w", "m", "o"] : List Str).map He.Dv.str), noDic K "MARKS", He.tupB K "TIMES" ((["", " once removed", " twice removed"] : List Str).map He.Dv.str), noDic K "TIMES", He.tupB K "UP" ((["mother", "father", "parent"] : List Str).map He.Dv.str), noDic K "UP"] : List Bool).all id
def loose : List Str := (["MARKS", "UP", "DOWN", "BESIDE", "ABOVE", "BELOW", "DEGREES", "TIMES", "greats", "line_word", "cousin_word", "plain_word", "word_ahead", "half_word", "word_of", "_law_pen_of", "_law_draw", "_law_line_of", "_law_word_due"] : List Str)
abbrev R : PySem.W.OpenRow := PySem.W.OpenLaw.row PySem.Challenge.rw_kinlines_k34_words_of_ties
abbrev hk : PySem.W.Hook := He.hookX 4 fa fn [] [] ex
def ob (s : PySem.W.SharedT) : He.AlX := He.obsX 4 fa fn [] [] ex (HandSHeadRun.getT s)
theorem ob_eq (s : PySem.W.SharedT) : ob s = hk.obs s.abs := He.obsX_eq (HandSHeadRun.getT_eq s)
theorem run (w : World) : HandSHeadRun.RunEq R (PySem.W.view R.prog [21]) hk ob 6000 loose w := by
  intro os
  kernel_rfl
theorem zx {w : World} {K : PySem.W.Frag} {h : Heap} {mg : Str → Option Value} (X : K.In h) (H : h.Ns mainGlobals mg) (c : He.SaysX fa fn [] [] ex w h K) : Zx K mg where
  b_abs := He.free_ok X H (c.t.d.fact 0 (f := .free "abs") rfl)
  b_int := He.free_ok X H (c.t.d.fact 1 (f := .free "int") rfl)
  b_isinstance := He.free_ok X H (c.t.d.fact 2 (f := .free "isinstance") rfl)
  b_len := He.free_ok X H (c.t.d.fact 3 (f := .free "len") rfl)
  b_max := He.free_ok X H (c.t.d.fact 4 (f := .free "max") rfl)
  b_min := He.free_ok X H (c.t.d.fact 5 (f := .free "min") rfl)
  b_range := He.free_ok X H (c.t.d.fact 6 (f := .free "range") rfl)
  b_str := He.free_ok X H (c.t.d.fact 7 (f := .free "str") rfl)
  m_ABOVE := He.glo_ok X H (c.t.d.fact 8 (f := .glo "ABOVE") rfl)
  r_ABOVE := rep_texts (all_at c.more 0) (by decide +kernel)
  d_ABOVE := noDic_ok (all_at c.more 1)
  m_BELOW := He.glo_ok X H (c.t.d.fact 9 (f := .glo "BELOW") rfl)
  r_BELOW := rep_texts (all_at c.more 2) (by decide +kernel)
  d_BELOW := noDic_ok (all_at c.more 3)
  m_BESIDE := He.glo_ok X H (c.t.d.fact 10 (f := .glo "BESIDE") rfl)
  r_BESIDE := rep_texts (all_at c.more 4) (by decide +kernel)
  d_BESIDE := noDic_ok (all_at c.more 5)
  m_DEGREES := He.glo_ok X H (c.t.d.fact 11 (f := .glo "DEGREES") rfl)
  r_DEGREES := rep_texts (all_at c.more 6) (by decide +kernel)
  d_DEGREES := noDic_ok (all_at c.more 7)
  m_DOWN := He.glo_ok X H (c.t.d.fact 12 (f := .glo "DOWN") rfl)
  r_DOWN := rep_texts (all_at c.more 8) (by decide +kernel)
  d_DOWN := noDic_ok (all_at c.more 9)
  m_MARKS := He.glo_ok X H (c.t.d.fact 13 (f := .glo "MARKS") rfl)
  r_MARKS := rep_texts (all_at c.more 10) (by decide +kernel)
  d_MARKS := noDic_ok (all_at c.more 11)
  m_TIMES := He.glo_ok X H (c.t.d.fact 14 (f := .glo "TIMES") rfl)
  r_TIMES := rep_texts (all_at c.more 12) (by decide +kernel)
  d_TIMES := noDic_ok (all_at c.more 13)
  m_UP := He.glo_ok X H (c.t.d.fact 15 (f := .glo "UP") rfl)
  r_UP := rep_texts (all_at c.more 14) (by decide +kernel)
  d_UP := noDic_ok (all_at c.more 15)
  f_greats := c.t.d.def_ 0 (d := h_greats) rfl
  g_greats := He.glo_ok X H (c.t.d.fact 16 (f := .glo "greats") rfl)
  f_line_word := c.t.d.def_ 1 (d := h_line_word) rfl
  g_line_word := He.glo_ok X H (c.t.d.fact 17 (f := .glo "line_word") rfl)
  f_cousin_word := c.t.d.def_ 2 (d := h_cousin_word) rfl
  g_cousin_word := He.glo_ok X H (c.t.d.fact 18 (f := .glo "cousin_word") rfl)
  f_plain_word := c.t.d.def_ 3 (d := h_plain_word) rfl
  g_plain_word := He.glo_ok X H (c.t.d.fact 19 (f := .glo "plain_word") rfl)
  f_word_ahead := c.t.d.def_ 4 (d := h_word_ahead) rfl
  g_word_ahead := He.glo_ok X H (c.t.d.fact 20 (f := .glo "word_ahead") rfl)
  f_half_word := c.t.d.def_ 5 (d := h_half_word) rfl
  g_half_word := He.glo_ok X H (c.t.d.fact 21 (f := .glo "half_word") rfl)
  f_word_of := c.t.d.def_ 6 (d := h_word_of) rfl
  g_word_of := He.glo_ok X H (c.t.d.fact 22 (f := .glo "word_of") rfl)
  f_law_pen_of := c.t.d.def_ 7 (d := h_law_pen_of) rfl
  g_law_pen_of := He.glo_ok X H (c.t.d.fact 23 (f := .glo "_law_pen_of") rfl)
  f_law_draw := c.t.d.def_ 8 (d := h_law_draw) rfl
  g_law_draw := He.glo_ok X H (c.t.d.fact 24 (f := .glo "_law_draw") rfl)
  f_law_line_of := c.t.d.def_ 9 (d := h_law_line_of) rfl
  g_law_line_of := He.glo_ok X H (c.t.d.fact 25 (f := .glo "_law_line_of") rfl)
  f_law_word_due := c.t.d.def_ 10 (d := h_law_word_due) rfl
  g_law_word_due := He.glo_ok X H (c.t.d.fact 26 (f := .glo "_law_word_due") rfl)
  f_the_law := c.t.d.def_ 11 (d := h_the_law) rfl
  g_the_law := He.glo_ok X H (c.t.d.fact 27 (f := .glo "law") rfl)
end K34
open PySem PySem.W PySem.Calls PyProof.Rows
theorem PySem.Challenge.cw_kinlines_k34_words_of_ties_holds : PySem.Challenge.rw_kinlines_k34_words_of_ties.Holds := by
  w_on; o_law
  refine HandSHeadRun.head_any (r := OpenLaw.row PySem.Challenge.rw_kinlines_k34_words_of_ties) (q := view (OpenLaw.row PySem.Challenge.rw_kinlines_k34_words_of_ties).prog [21]) (H := K34.hk) (ob := K34.ob) (M := 6000) (loose := K34.loose) (d := HandSHeadRun.topDef (OpenLaw.row PySem.Challenge.rw_kinlines_k34_words_of_ties).prog 21) (kwd := []) K34.ob_eq
    (by kernel_rfl) (fun s => by kernel_rfl) K34.run (by kernel_rfl) (by kernel_rfl) (by kernel_rfl) (by rfl) (by first | assumption | decide +kernel) (by decide +kernel) ⟨rfl, rfl, rfl, rfl, rfl, by decide +kernel⟩ ?hw ?hc
  case hw => w_witness2
  case hc =>
    refine TL.walk_tl (l := PySem.Challenge.rw_kinlines_k34_words_of_ties) (k := 6) (x := "_law_script") (y := "law") (sp := K34.sp_the_law) rfl (by kernel_rfl) ⟨rfl, by decide, by decide⟩ (by kernel_rfl) K34.law_sp ?_
    intro w mg h Y G
    obtain ⟨K, KX, c⟩ := Y
    have Z := K34.zx KX G c
    obtain ⟨fd, hb, hF⟩ := K34.ok_the_law (P := (PySem.Challenge.rw_kinlines_k34_words_of_ties).prog) (w := w) Z
    exact ⟨K, KX, Z.g_the_law, fd, hb, fun base _ _ => hF base⟩
