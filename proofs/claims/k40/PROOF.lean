import PyProof.Rows.All
import HandS.ForExc
import HandS.ForMost
import HandS.Wide
import HandS.Defaults
import HandS.TupAny
import HandS.WordsExc
import HandS.IsInst
import HandS.Head0
import HandS.Head1
import HandS.Head2
import HandS.HeadEnd
import HandS.HeadHook1
import HandS.HeadHook2
import PySem.Challenge.RW_calledfirst_k40_whole_lots_by_all_days
import Wide.Once
import HandS.Deep
import HandS.Style
import HandS.Text
import HandS.Zip
import HandS.Rev
import HandS.RevRange
import KE.GoesEnum
import HandS.SortInts
import HandS.NoneIn
import PyProof.StrOps2
import HandS.StrMore
import HandS.SortKw
import HandS.DictEq
import HandS.SetFor
import PyProof.LongRange
import HandS.More
import HandS.RaiseMore
import HandS.Small
import PyProof.ExcBaseAll.ValueError
import PyProof.ReprRoads
import PyProof.StrLawsRepr
import HandS.SortRule
import HandS.SortOrd
import HandS.NamedTupSort
import KE.KSortTup
import HandS.DictTup
import HandS.Dict
import HandS.TryOnly
import HandS.ExcIs
import HandS.CallSlots
import HandS.ExcValue
import KE.GoesMore
import HandS.Iter
import HandS.List
import HandS.Sort
import KE.DataCmp
import PyProof.ListRange
import HandS.Conv
import KE.KDictZip
import HandS.ListItems
import HandS.FStr
import KE.IntBitsLaws
import HandS.TupSets
import KE.KDictCopyH
set_option Elab.async false
set_option linter.all false
set_option maxRecDepth 100000
set_option maxHeartbeats 4000000

/-! generated: the head -/
namespace K40H
open PySem PySem.Spec PyProof.Rows L2
def topS (i : Nat) : Stmt := PySem.Challenge.pw_calledfirst_k40_whole_lots_by_all_days.main.body.getD i (.Pass ⟨0, 0, 0, 0⟩)
abbrev st_place_of : Stmt := topS 5
abbrev st_turn_at : Stmt := topS 6
abbrev st_hand_at : Stmt := topS 7
abbrev st_gcd : Stmt := topS 9
abbrev st_inverse : Stmt := topS 10
abbrev st_agree : Stmt := topS 11
abbrev st_clash_of : Stmt := topS 12
abbrev st_joined : Stmt := topS 13
abbrev st_cuts_of : Stmt := topS 16
abbrev st_rests_of : Stmt := topS 17
abbrev st_longer : Stmt := topS 18
abbrev st_in_piece : Stmt := topS 19
abbrev st_cells : Stmt := topS 20
abbrev st_lots : Stmt := topS 21
abbrev st_law_hand : Stmt := topS 23
abbrev st_law_take : Stmt := topS 24
abbrev st_law_pick : Stmt := topS 25
abbrev st_law_words : Stmt := topS 26
abbrev st_law_minute : Stmt := topS 27
abbrev st_law_layer : Stmt := topS 28
abbrev st_law_layers : Stmt := topS 29
abbrev st_law_whom : Stmt := topS 30
abbrev st_law_cuts : Stmt := topS 31
abbrev st_law_common : Stmt := topS 32
abbrev st_law_tower : Stmt := topS 33
abbrev st_law_lot : Stmt := topS 34
abbrev st_law_due : Stmt := topS 35
abbrev st_law : Stmt := topS 36
def dd_place_of : He.DefD := ⟨("place_of", none), "place_of", "place_of", defArgs st_place_of, defBody st_place_of, defScope st_place_of, [], []⟩
def dd_turn_at : He.DefD := ⟨("turn_at", none), "turn_at", "turn_at", defArgs st_turn_at, defBody st_turn_at, defScope st_turn_at, [], []⟩
def dd_hand_at : He.DefD := ⟨("hand_at", none), "hand_at", "hand_at", defArgs st_hand_at, defBody st_hand_at, defScope st_hand_at, [], []⟩
def dd_gcd : He.DefD := ⟨("gcd", none), "gcd", "gcd", defArgs st_gcd, defBody st_gcd, defScope st_gcd, [], []⟩
def dd_inverse : He.DefD := ⟨("inverse", none), "inverse", "inverse", defArgs st_inverse, defBody st_inverse, defScope st_inverse, [], []⟩
def dd_agree : He.DefD := ⟨("agree", none), "agree", "agree", defArgs st_agree, defBody st_agree, defScope st_agree, [], []⟩
def dd_clash_of : He.DefD := ⟨("clash_of", none), "clash_of", "clash_of", defArgs st_clash_of, defBody st_clash_of, defScope st_clash_of, [], []⟩
def dd_joined : He.DefD := ⟨("joined", none), "joined", "joined", defArgs st_joined, defBody st_joined, defScope st_joined, [], []⟩
def dd_cuts_of : He.DefD := ⟨("cuts_of", none), "cuts_of", "cuts_of", defArgs st_cuts_of, defBody st_cuts_of, defScope st_cuts_of, [], []⟩
def dd_rests_of : He.DefD := ⟨("rests_of", none), "rests_of", "rests_of", defArgs st_rests_of, defBody st_rests_of, defScope st_rests_of, [], []⟩
def dd_longer : He.DefD := ⟨("longer", none), "longer", "longer", defArgs st_longer, defBody st_longer, defScope st_longer, [], []⟩
def dd_in_piece : He.DefD := ⟨("in_piece", none), "in_piece", "in_piece", defArgs st_in_piece, defBody st_in_piece, defScope st_in_piece, [], []⟩
def dd_cells : He.DefD := ⟨("cells", none), "cells", "cells", defArgs st_cells, defBody st_cells, defScope st_cells, [], []⟩
def dd_lots : He.DefD := ⟨("lots", none), "lots", "lots", defArgs st_lots, defBody st_lots, defScope st_lots, [], []⟩
def dd_law_hand : He.DefD := ⟨("_law_hand", none), "_law_hand", "_law_hand", defArgs st_law_hand, defBody st_law_hand, defScope st_law_hand, [], []⟩
def dd_law_take : He.DefD := ⟨("_law_take", none), "_law_take", "_law_take", defArgs st_law_take, defBody st_law_take, defScope st_law_take, [], []⟩
def dd_law_pick : He.DefD := ⟨("_law_pick", none), "_law_pick", "_law_pick", defArgs st_law_pick, defBody st_law_pick, defScope st_law_pick, [], []⟩
def dd_law_words : He.DefD := ⟨("_law_words", none), "_law_words", "_law_words", defArgs st_law_words, defBody st_law_words, defScope st_law_words, [], []⟩
def dd_law_minute : He.DefD := ⟨("_law_minute", none), "_law_minute", "_law_minute", defArgs st_law_minute, defBody st_law_minute, defScope st_law_minute, [], []⟩
def dd_law_layer : He.DefD := ⟨("_law_layer", none), "_law_layer", "_law_layer", defArgs st_law_layer, defBody st_law_layer, defScope st_law_layer, [], []⟩
def dd_law_layers : He.DefD := ⟨("_law_layers", none), "_law_layers", "_law_layers", defArgs st_law_layers, defBody st_law_layers, defScope st_law_layers, [], []⟩
def dd_law_whom : He.DefD := ⟨("_law_whom", none), "_law_whom", "_law_whom", defArgs st_law_whom, defBody st_law_whom, defScope st_law_whom, [], []⟩
def dd_law_cuts : He.DefD := ⟨("_law_cuts", none), "_law_cuts", "_law_cuts", defArgs st_law_cuts, defBody st_law_cuts, defScope st_law_cuts, [], []⟩
def dd_law_common : He.DefD := ⟨("_law_common", none), "_law_common", "_law_common", defArgs st_law_common, defBody st_law_common, defScope st_law_common, [], []⟩
def dd_law_tower : He.DefD := ⟨("_law_tower", none), "_law_tower", "_law_tower", defArgs st_law_tower, defBody st_law_tower, defScope st_law_tower, [], []⟩
def dd_law_lot : He.DefD := ⟨("_law_lot", none), "_law_lot", "_law_lot", defArgs st_law_lot, defBody st_law_lot, defScope st_law_lot, [], []⟩
def dd_law_due : He.DefD := ⟨("_law_due", none), "_law_due", "_law_due", defArgs st_law_due, defBody st_law_due, defScope st_law_due, [], []⟩
def dd_law : He.DefD := ⟨("law", none), "law", "law", defArgs st_law, defBody st_law, defScope st_law, [], []⟩
def fn : List He.DefD := [dd_place_of, dd_turn_at, dd_hand_at, dd_gcd, dd_inverse, dd_agree, dd_clash_of, dd_joined, dd_cuts_of, dd_rests_of, dd_longer, dd_in_piece, dd_cells, dd_lots, dd_law_hand, dd_law_take, dd_law_pick, dd_law_words, dd_law_minute, dd_law_layer, dd_law_layers, dd_law_whom, dd_law_cuts, dd_law_common, dd_law_tower, dd_law_lot, dd_law_due, dd_law]
def fa : List He.Fa := [.glo "place_of", .glo "turn_at", .glo "hand_at", .glo "gcd", .glo "inverse", .glo "agree", .glo "clash_of", .glo "joined", .glo "cuts_of", .glo "rests_of", .glo "longer", .glo "in_piece", .glo "cells", .glo "lots", .glo "_law_hand", .glo "_law_take", .glo "_law_pick", .glo "_law_words", .glo "_law_minute", .glo "_law_layer", .glo "_law_layers", .glo "_law_whom", .glo "_law_cuts", .glo "_law_common", .glo "_law_tower", .glo "_law_lot", .glo "_law_due", .glo "law", .free "enumerate", .free "sorted", .free "set", .free "range", .free "len", .free "zip", .free "tuple", .free "int", .free "max", .free "min", .free "repr", .int "DAY" 1440, .int "MOST_LOTS" 2000, .glo "TooMany", .exc "TooMany"]
abbrev R : PySem.W.OpenRow := PySem.W.OpenLaw.row PySem.Challenge.rw_calledfirst_k40_whole_lots_by_all_days
abbrev hk : PySem.W.Hook := He.hookD 2 fa fn
def ob (s : PySem.W.SharedT) : He.AlD := He.obsDG 2 fa fn (HandSHeadRun.getT s)
theorem ob_eq (s : PySem.W.SharedT) : ob s = hk.obs s.abs := He.obsDG_eq (HandSHeadRun.getT_eq s)
def loose : List Str := (["CallError", "TooMany", "DAY", "place_of", "turn_at", "hand_at", "gcd", "inverse", "agree", "clash_of", "joined", "MOST_LOTS", "cuts_of", "rests_of", "longer", "in_piece", "cells", "lots", "_law_hand", "_law_take", "_law_pick", "_law_words", "_law_minute", "_law_layer", "_law_layers", "_law_whom", "_law_cuts", "_law_common", "_law_tower", "_law_lot"] : List Str) ++ (["_law_due"] : List Str)
theorem run (w : World) : HandSHeadRun.RunEq R (PySem.W.view R.prog [36]) hk ob 1880 loose w := by
  intro os
  kernel_rfl
open PySem PySem.W PySem.Calls PyProof.Rows in
set_option maxHeartbeats 0 in
theorem pre (h : PySem.Challenge.rw_calledfirst_k40_whole_lots_by_all_days.row.wellSaid = true → PySem.Challenge.rw_calledfirst_k40_whole_lots_by_all_days.row.Holds) : PySem.Challenge.rw_calledfirst_k40_whole_lots_by_all_days.Holds := by
  w_on; o_law
  exact h (by assumption)
open PySem PySem.W PySem.Calls PyProof.Rows in
set_option maxHeartbeats 0 in
theorem fin (call : WalkO (view (OpenLaw.row PySem.Challenge.rw_calledfirst_k40_whole_lots_by_all_days).prog [36]) loose (XL (view (OpenLaw.row PySem.Challenge.rw_calledfirst_k40_whole_lots_by_all_days).prog [36]) []) hk.says (OpenLaw.row PySem.Challenge.rw_calledfirst_k40_whole_lots_by_all_days).toRowW (HandSHeadRun.topDef (OpenLaw.row PySem.Challenge.rw_calledfirst_k40_whole_lots_by_all_days).prog 36) [] fun f vs => PySem.call f vs) : PySem.Challenge.rw_calledfirst_k40_whole_lots_by_all_days.Holds := by
  refine pre fun said => ?_
  refine HandSHeadRun.head_any (r := OpenLaw.row PySem.Challenge.rw_calledfirst_k40_whole_lots_by_all_days) (q := view (OpenLaw.row PySem.Challenge.rw_calledfirst_k40_whole_lots_by_all_days).prog [36]) (H := hk) (ob := ob) (M := 1880) (loose := loose) (d := HandSHeadRun.topDef (OpenLaw.row PySem.Challenge.rw_calledfirst_k40_whole_lots_by_all_days).prog 36) (kwd := []) ob_eq
    (by kernel_rfl) (fun s => by kernel_rfl) run (by kernel_rfl) (by kernel_rfl) (by kernel_rfl) (by rfl) (by exact said) (by decide +kernel) ⟨rfl, rfl, rfl, rfl, rfl, by decide +kernel⟩ ?hw call
  case hw => w_witness2
end K40H

set_option Elab.async false
set_option linter.all false
set_option maxRecDepth 100000
set_option maxHeartbeats 4000000
/-! DL: a level of plain data over the hand layer. A def's slots hold data (numbers, texts, tuples, lists that nobody changes any more) or a list or dict of its own; what stands at which address is proved away once, here. -/
namespace DL
open PySem PySem.Spec PyProof.Rows L2

abbrev D := PyData
structure XD where
  cls : Str
  fs : List (Str × D)
inductive Tre where
  | dat (d : D)
  | hole (k : Addr)
  | ld (a : Addr) (ds : List D)
  | lst (a : Addr) (xs : List Tre)
  | tup (a : Addr) (xs : List Tre)
  | ins (a dx : Addr) (cls : Str) (ns : List Str) (xs : List Tre)
  | exc (a : Addr) (da : Option Addr) (x : XD)
@[reducible] def Tre.root : Tre → Option Addr
  | .ld a _ => some a
  | .lst a _ => some a
  | .tup a _ => some a
  | .ins a _ _ _ _ => some a
  | .exc a _ _ => some a
  | _ => none
mutual
def Tre.foot : Tre → List Addr
  | .dat _ => []
  | .hole _ => []
  | .ld a _ => [a]
  | .lst a xs => a :: Tre.foots xs
  | .tup a xs => a :: Tre.foots xs
  | .ins a dx _ _ xs => a :: dx :: Tre.foots xs
  | .exc a _ _ => [a]
def Tre.foots : List Tre → List Addr
  | [] => []
  | x :: xs => x.foot ++ Tre.foots xs
end
@[reducible] def Tre.kids : Tre → List Tre
  | .lst _ xs => xs
  | .tup _ xs => xs
  | .ins _ _ _ _ xs => xs
  | _ => []
@[reducible] def Tre.get : Tre → List Nat → Option Tre
  | l, [] => some l
  | l, i :: p => match l.kids[i]? with
    | some m => m.get p
    | none => none
inductive OD where
  | lst (ds : List D)
  | dct (kvs : List (Key × D))
  | dtt (kvs : List (List Int × D))
  | lck (at_ : Addr) (ob : Obj) (ks : List (Key × V)) (kvs : List (Key × D))
  | tre (l : Tre)
  | prp (x y : D)
@[reducible] def OD.fp : OD → Addr → List Addr
  | .tre l, _ => l.foot
  | .lst _, a => [a]
  | .dct _, a => [a]
  | .dtt _, a => [a]
  | .lck _ _ _ _, a => [a]
  | .prp _ _, a => [a]
inductive C where
  | no
  | v (d : D)
  | p (d : D)
  | own (t : Nat) (o : OD)
  | pk (i : Nat)
  | ln (i : Nat)
  | sub (i : Nat) (p : List Nat) (k : Addr)
abbrev Rho := List C

def hide (H : Hp) (O : List Addr) : Hp := fun a => if a ∈ O then none else H a
theorem hide_some {H : Hp} {O : List Addr} {a : Addr} {o : HO} : hide H O a = some o ↔ a ∉ O ∧ H a = some o := by
  unfold hide
  by_cases h : a ∈ O
  · simp [h]
  · simp [h]
theorem hide_congr {H : Hp} {O O' : List Addr} (h : ∀ a, a ∈ O ↔ a ∈ O') : hide H O = hide H O' := by
  funext a
  unfold hide
  by_cases q : a ∈ O
  · rw [if_pos q, if_pos ((h a).mp q)]
  · rw [if_neg q, if_neg fun z => q ((h a).mpr z)]

theorem seqT_same {K : PySem.W.Frag} {H H' : Hp} {a : Addr} {xs : List V} (e : Same H H') (h : SqT K H a xs) : SqT K H' a xs := by
  rcases h with (h | ⟨o, h⟩) | h
  · exact .inl (.inl (e _ _ h))
  · exact .inl (.inr ⟨o, e _ _ h⟩)
  · exact .inr h
/-! ### data as the heap holds it: as the kit has it, and besides empty dicts that nobody changes -/
mutual
inductive Dp (K : PySem.W.Frag) (B : Hp) : V → D → Prop
  | non : Dp K B V.non PyData.none
  | bl (t : Bool) : Dp K B (V.bl t) (PyData.bool t)
  | int (n : Int) : Dp K B (V.int n) (PyData.int n)
  | str (z : Str) : Dp K B (V.str z) (PyData.str z)
  | lst {p : Addr} {vs : List V} {es : List D} : SqL K B p vs → DpAll K B vs es → Dp K B (V.ref p) (PyData.list es)
  | tup {p : Addr} {vs : List V} {es : List D} : SqT K B p vs → DpAll K B vs es → Dp K B (V.ref p) (PyData.tuple es)
  | dic {p : Addr} : B p = some (.dK []) → Dp K B (V.ref p) (PyData.dict [])
inductive DpAll (K : PySem.W.Frag) (B : Hp) : List V → List D → Prop
  | nil : DpAll K B [] []
  | cons {x : V} {xs : List V} {e : D} {es : List D} : Dp K B x e → DpAll K B xs es → DpAll K B (x :: xs) (e :: es)
end
section
variable {X : Cx} {pins : List (Addr × Obj)} {σ : L2.St} {H : Hp} {s : Shared}
mutual
theorem Dp.reads (I : Inv X pins σ H s) : ∀ (d : D) (x : V) (u : Value), Dp X.K H x d → RelV x u → ∃ bs, Reads s.heap u d bs
  | .none, _, _, h, r => by cases h; cases r; exact ⟨_, .none⟩
  | .bool b, _, _, h, r => by cases h; cases r; exact ⟨_, .bool b⟩
  | .int i, _, _, h, r => by cases h; obtain ⟨t, rfl⟩ := r; exact ⟨_, .int i t⟩
  | .str x, _, _, h, r => by cases h; obtain ⟨t, rfl⟩ := r; exact ⟨_, .str x t⟩
  | .list es, _, _, h, r => by
    cases h with
    | lst h1 h2 =>
      cases r
      obtain ⟨us, rv, ⟨o, m, e1, e2, _, e3⟩, _⟩ := I.list h1
      obtain ⟨bs, q⟩ := Dp.readsAll I es _ us h2 rv
      exact ⟨_, .list e1 e2 e3 q⟩
  | .tuple es, _, _, h, r => by
    cases h with
    | tup h1 h2 =>
      cases r
      obtain ⟨us, rv, ⟨o, e1, e2, m, e3⟩, _⟩ := I.tuple h1
      obtain ⟨bs, q⟩ := Dp.readsAll I es _ us h2 rv
      exact ⟨_, .tuple e1 e2 e3 q⟩
  | .dict kvs, _, _, h, r => by
    cases h with
    | dic h1 =>
      cases r
      obtain ⟨_, _, us, rel, o, es, ep, e1, e2, e3, _, e4, _⟩ := dk_rd I.hok (.inl h1)
      have z : us = [] := by
        cases us with
        | nil => rfl
        | cons _ _ => cases rel
      subst z
      have z : es.toList = [] := by
        cases e : es.toList with
        | nil => rfl
        | cons _ _ => rw [e] at e4; cases e4
      refine ⟨_, Reads.dict (as := []) (bs := []) e1 e2.1 e3 ?_ ?_⟩
      · rw [z]; exact .nil
      · rw [z]; exact .nil
theorem Dp.readsAll (I : Inv X pins σ H s) : ∀ (ds : List D) (xs : List V) (us : List Value), DpAll X.K H xs ds → Vals xs us → ∃ bs, ReadsAll s.heap us ds bs
  | [], _, _, h, r => by cases h; cases r; exact ⟨_, .nil⟩
  | d :: ds, _, _, h, r => by
    cases h with
    | cons h1 h2 =>
      cases r with
      | cons r1 r2 =>
        obtain ⟨bs, q1⟩ := Dp.reads I d _ _ h1 r1
        obtain ⟨cs, q2⟩ := Dp.readsAll I ds _ _ h2 r2
        exact ⟨_, .cons q1 q2⟩
end
end
mutual
theorem Dp.l2 {K : PySem.W.Frag} {B : Hp} : ∀ (d : D) (x : V), PyData.canLay0 d = true → Dp K B x d → L2.Dp K B x d
  | .none, _, _, h => by cases h; exact .non
  | .bool b, _, _, h => by cases h; exact .bl b
  | .int i, _, _, h => by cases h; exact .int i
  | .str x, _, _, h => by cases h; exact .str x
  | .list es, _, c, h => by
    cases h with
    | lst h1 h2 => exact .lst h1 (DpAll.l2 es _ c h2)
  | .tuple es, _, c, h => by
    cases h with
    | tup h1 h2 => exact .tup h1 (DpAll.l2 es _ c h2)
  | .dict _, _, c, _ => by cases c
theorem DpAll.l2 {K : PySem.W.Frag} {B : Hp} : ∀ (ds : List D) (xs : List V), PyData.canLayAll0 ds = true → DpAll K B xs ds → L2.DpAll K B xs ds
  | [], _, _, h => by cases h; exact .nil
  | d :: ds, _, c, h => by
    have c := Bool.and_eq_true_iff.mp c
    cases h with
    | cons h1 h2 => exact .cons (Dp.l2 d _ c.1 h1) (DpAll.l2 ds _ c.2 h2)
end
def rEqD (K : PySem.W.Frag) : R2 := fun x y H Q => ∃ d1 d2, Dp K H x d1 ∧ Dp K H y d2 ∧ SeqAt.shaped d1 = true ∧ SeqAt.shaped d2 = true ∧ Q (.bl (PyData.eqv d1 d2)) H
def rNeD (K : PySem.W.Frag) : R2 := fun x y H Q => ∃ d1 d2, Dp K H x d1 ∧ Dp K H y d2 ∧ SeqAt.shaped d1 = true ∧ SeqAt.shaped d2 = true ∧ Q (.bl (!PyData.eqv d1 d2)) H
theorem op_eqD {X : Cx} (hu : X.A.units + 64 < cLine) : OpR X (compareOp .Eq) (rEqD X.K) := by
  intro pins s σ H x y v u Q I rx ry ⟨d1, d2, h1, h2, s1, s2, q⟩
  obtain ⟨_, r1⟩ := Dp.reads I d1 x v h1 rx
  obtain ⟨_, r2⟩ := Dp.reads I d2 y u h2 ry
  exact SeqAt.compareEq_shaped r1 r2 s1 s2 hu ⟨.bl _, H, I, rfl, q⟩
theorem op_neD {X : Cx} (hu : X.A.units + 64 < cLine) : OpR X (compareOp .NotEq) (rNeD X.K) := by
  intro pins s σ H x y v u Q I rx ry ⟨d1, d2, h1, h2, s1, s2, q⟩
  obtain ⟨_, r1⟩ := Dp.reads I d1 x v h1 rx
  obtain ⟨_, r2⟩ := Dp.reads I d2 y u h2 ry
  exact SeqAt.compareNe_shaped r1 r2 s1 s2 hu ⟨.bl _, H, I, rfl, q⟩
mutual
theorem dp_mono {K : PySem.W.Frag} {B B' : Hp} (e : Same B B') : ∀ (d : D) (v : V), Dp K B v d → Dp K B' v d
  | .none, _, h => by cases h; exact .non
  | .bool b, _, h => by cases h; exact .bl b
  | .int i, _, h => by cases h; exact .int i
  | .str x, _, h => by cases h; exact .str x
  | .list ds, _, h => by
    cases h with
    | lst hs ha => exact .lst (e.seq hs) (dpAll_mono e ds _ ha)
  | .tuple ds, _, h => by
    cases h with
    | tup hs ha => exact .tup (seqT_same e hs) (dpAll_mono e ds _ ha)
  | .dict _, _, h => by
    cases h with
    | dic h1 => exact .dic (e _ _ h1)
theorem dpAll_mono {K : PySem.W.Frag} {B B' : Hp} (e : Same B B') : ∀ (ds : List D) (vs : List V), DpAll K B vs ds → DpAll K B' vs ds
  | [], _, h => by cases h; exact .nil
  | d :: ds, _, h => by
    cases h with
    | cons h1 h2 => exact .cons (dp_mono e d _ h1) (dpAll_mono e ds _ h2)
end
theorem DpAll.len {K : PySem.W.Frag} {B : Hp} : ∀ {vs : List V} {ds : List D}, DpAll K B vs ds → vs.length = ds.length
  | _, [], h => by cases h; rfl
  | _, d :: ds, h => by
    cases h with
    | cons h1 h2 => rw [List.length_cons, List.length_cons, DpAll.len h2]
theorem DpAll.get {K : PySem.W.Frag} {B : Hp} : ∀ {vs : List V} {ds : List D} {i : Nat} {d : D}, DpAll K B vs ds → ds[i]? = some d → ∃ v, vs[i]? = some v ∧ Dp K B v d
  | _, [], _, _, _, e => by simp at e
  | _, d' :: ds, i, d, h, e => by
    cases h with
    | cons h1 h2 =>
      cases i with
      | zero =>
        have e' : d' = d := by simpa using e
        subst e'
        exact ⟨_, rfl, h1⟩
      | succ i =>
        obtain ⟨v, q1, q2⟩ := DpAll.get (i := i) (d := d) h2 (by simpa using e)
        exact ⟨v, by simpa using q1, q2⟩
theorem DpAll.app {K : PySem.W.Frag} {B : Hp} : ∀ {vs us : List V} {ds es : List D}, DpAll K B vs ds → DpAll K B us es → DpAll K B (vs ++ us) (ds ++ es)
  | _, _, [], _, h, h' => by cases h; exact h'
  | _, _, d :: ds, _, h, h' => by
    cases h with
    | cons h1 h2 => exact .cons h1 (DpAll.app h2 h')
theorem DpAll.setAt {K : PySem.W.Frag} {B : Hp} {x : V} {d : D} (hx : Dp K B x d) : ∀ {vs : List V} {ds : List D} (i : Nat), DpAll K B vs ds → DpAll K B (vs.set i x) (ds.set i d)
  | _, [], _, h => by cases h; exact .nil
  | _, d' :: ds, i, h => by
    cases h with
    | cons h1 h2 =>
      cases i with
      | zero => exact .cons hx h2
      | succ i => exact .cons h1 (DpAll.setAt hx i h2)
theorem DpAll.takeN {K : PySem.W.Frag} {B : Hp} : ∀ {vs : List V} {ds : List D} (n : Nat), DpAll K B vs ds → DpAll K B (vs.take n) (ds.take n)
  | _, [], n, h => by cases h; simp; exact .nil
  | _, d :: ds, n, h => by
    cases h with
    | cons h1 h2 =>
      cases n with
      | zero => exact .nil
      | succ n => exact .cons h1 (DpAll.takeN n h2)
theorem DpAll.dropN {K : PySem.W.Frag} {B : Hp} : ∀ {vs : List V} {ds : List D} (n : Nat), DpAll K B vs ds → DpAll K B (vs.drop n) (ds.drop n)
  | _, [], n, h => by cases h; simp; exact .nil
  | _, d :: ds, n, h => by
    cases h with
    | cons h1 h2 =>
      cases n with
      | zero => exact .cons h1 h2
      | succ n => exact DpAll.dropN n h2
theorem DpAll.ints {K : PySem.W.Frag} {B : Hp} : ∀ (ns : List Int), DpAll K B (ns.map V.int) (ns.map PyData.int)
  | [] => .nil
  | n :: ns => .cons (.int n) (DpAll.ints ns)
theorem DpAll.of_ints {K : PySem.W.Frag} {B : Hp} : ∀ {ns : List Int} {vs : List V}, DpAll K B vs (ns.map PyData.int) → vs = ns.map V.int
  | [], _, h => by cases h; rfl
  | n :: ns, _, h => by
    cases h with
    | cons h1 h2 =>
      cases h1
      rw [DpAll.of_ints h2]
      rfl

def DpKV (K : PySem.W.Frag) (B : Hp) : List (Key × V) → List (Key × D) → Prop
  | [], [] => True
  | p :: ps, q :: qs => p.1 = q.1 ∧ Dp K B p.2 q.2 ∧ DpKV K B ps qs
  | _, _ => False
theorem DpKV.mono {K : PySem.W.Frag} {B B' : Hp} (e : Same B B') : ∀ {ps : List (Key × V)} {qs : List (Key × D)}, DpKV K B ps qs → DpKV K B' ps qs
  | [], [], h => h
  | p :: ps, q :: qs, h => ⟨h.1, dp_mono e _ _ h.2.1, DpKV.mono e h.2.2⟩
  | [], _ :: _, h => h.elim
  | _ :: _, [], h => h.elim
def dtEnt (x : List Int × Addr × Value) : DictEntry := ⟨reduceHash (Builtin.Tuple.tupleHashOf (x.1.map hashInt)), .ref x.2.1, x.2.2⟩
def dtRel (p : List Int × Addr × V) (q : List Int × Addr × Value) : Prop := p.1 = q.1 ∧ p.2.1 = q.2.1 ∧ RelV p.2.2 q.2.2
def dtAt (h : Heap) (a : Addr) (xs : List (List Int × Addr × V)) : Prop :=
  xs.length ≤ sizeLine ∧ (a == sysModules) = false ∧ ∃ ys : List (List Int × Addr × Value), Paired dtRel xs ys ∧ ∃ o es ep, h.get? a = some o ∧ o.ExactDict ∧ o.data = .dict es ep ∧ es.toList = ys.map dtEnt ∧ (ys.map (·.1)).Nodup
def dtO (a : Addr) (xs : List (List Int × Addr × V)) : HO := .ext fun h => dtAt h a xs
theorem dtO_new {P : Program} {w : World} {H : Hp} {h : Heap} {a : Addr} {xs : List (List Int × Addr × V)} (R : dtAt h a xs) : ObjOk P w H h a (dtO a xs) := by
  have ⟨_, _, _, _, o, _, _, ho, _⟩ := R
  refine ⟨R, ⟨o, ho⟩, fun h1 h2 p k => ?_⟩
  have ⟨z, y, ys, r, o', es', ep', ho', r'⟩ := p
  exact ⟨z, y, ys, r, o', es', ep', k o' ho', r'⟩
def DpTV (K : PySem.W.Frag) (B : Hp) : List (List Int × Addr × V) → List (List Int × D) → Prop
  | [], [] => True
  | p :: ps, q :: qs => p.1 = q.1 ∧ SqT K B p.2.1 (p.1.map V.int) ∧ Dp K B p.2.2 q.2 ∧ DpTV K B ps qs
  | _, _ => False
theorem DpTV.mono {K : PySem.W.Frag} {B B' : Hp} (e : Same B B') : ∀ {ps : List (List Int × Addr × V)} {qs : List (List Int × D)}, DpTV K B ps qs → DpTV K B' ps qs
  | [], [], h => h
  | p :: ps, q :: qs, h => ⟨h.1, seqT_same e h.2.1, dp_mono e _ _ h.2.2.1, DpTV.mono e h.2.2.2⟩
  | [], _ :: _, h => h.elim
  | _ :: _, [], h => h.elim
def XFs (K : PySem.W.Frag) (B : Hp) : List (Str × V) → List (Str × D) → Prop
  | [], [] => True
  | p :: ps, q :: qs => p.1 = q.1 ∧ Dp K B p.2 q.2 ∧ XFs K B ps qs
  | _, _ => False
theorem XFs.mono {K : PySem.W.Frag} {B B' : Hp} (e : Same B B') : ∀ {fs : List (Str × V)} {gs : List (Str × D)}, XFs K B fs gs → XFs K B' fs gs
  | [], [], h => h
  | p :: ps, q :: qs, h => ⟨h.1, dp_mono e _ _ h.2.1, XFs.mono e h.2.2⟩
  | [], _ :: _, h => h.elim
  | _ :: _, [], h => h.elim
def ExcO (cls : Value) (d : Option Addr) (a : Addr) : HO := .ext fun h => ∃ (oe : Obj) (vs : Array Value), h.get? a = some oe ∧ Zc cls d oe ∧ oe.data = .fields vs
mutual
def TreAt (K : PySem.W.Frag) (B H : Hp) : Tre → V → Prop
  | .dat d, v => Dp K B v d
  | .hole k, v => v = .ref k
  | .ld a ds, v => v = .ref a ∧ ∃ vs, H a = some (.lst vs) ∧ DpAll K B vs ds
  | .lst a xs, v => v = .ref a ∧ ∃ vs, H a = some (.lst vs) ∧ TreAll K B H xs vs
  | .tup a xs, v => v = .ref a ∧ ∃ vs, H a = some (.tup vs) ∧ TreAll K B H xs vs
  | .ins a dx cls ns xs, v => v = .ref a ∧ ∃ vs, H a = some (.ins (He.ga K cls) dx (ns.zip vs)) ∧ H dx = some (.own a) ∧ ns.length = vs.length ∧ TreAll K B H xs vs
  | .exc a da x, v => v = .ref a ∧ H a = some (ExcO (.ref (He.ga K x.cls)) da a) ∧ ((da = none ∧ x.fs = []) ∨ (x.fs ≠ [] ∧ ∃ b fs, da = some b ∧ B b = some (.xd fs) ∧ XFs K B fs x.fs))
def TreAll (K : PySem.W.Frag) (B H : Hp) : List Tre → List V → Prop
  | [], vs => vs = []
  | x :: xs, vs => ∃ v ws, vs = v :: ws ∧ TreAt K B H x v ∧ TreAll K B H xs ws
end
mutual
theorem TreAt.mono {K : PySem.W.Frag} {B B' H H' : Hp} (e : Same B B') : ∀ (l : Tre) (v : V), (∀ a ∈ l.foot, ∀ u, H a = some u → H' a = some u) → TreAt K B H l v → TreAt K B' H' l v
  | .dat d, v, _, h => dp_mono e _ _ h
  | .hole k, v, _, h => h
  | .ld a ds, v, k, h => by
    obtain ⟨h1, vs, h2, h3⟩ := h
    exact ⟨h1, vs, k a (by simp [Tre.foot]) _ h2, dpAll_mono e _ _ h3⟩
  | .lst a xs, v, k, h => by
    obtain ⟨h1, vs, h2, h3⟩ := h
    exact ⟨h1, vs, k a (by simp [Tre.foot]) _ h2, TreAll.mono e xs vs (fun b hb => k b (by simp [Tre.foot, hb])) h3⟩
  | .tup a xs, v, k, h => by
    obtain ⟨h1, vs, h2, h3⟩ := h
    exact ⟨h1, vs, k a (by simp [Tre.foot]) _ h2, TreAll.mono e xs vs (fun b hb => k b (by simp [Tre.foot, hb])) h3⟩
  | .ins a dx cls ns xs, v, k, h => by
    obtain ⟨h1, vs, h2, h4, h5, h3⟩ := h
    exact ⟨h1, vs, k a (by simp [Tre.foot]) _ h2, k dx (by simp [Tre.foot]) _ h4, h5, TreAll.mono e xs vs (fun b hb => k b (by simp [Tre.foot, hb])) h3⟩
  | .exc a da x, v, k, h => by
    obtain ⟨h1, h2, h3⟩ := h
    exact ⟨h1, k a (by simp [Tre.foot]) _ h2, h3.imp id fun ⟨q1, b, fs, q2, q3, q4⟩ => ⟨q1, b, fs, q2, e _ _ q3, q4.mono e⟩⟩
theorem TreAll.mono {K : PySem.W.Frag} {B B' H H' : Hp} (e : Same B B') : ∀ (xs : List Tre) (vs : List V), (∀ a ∈ Tre.foots xs, ∀ u, H a = some u → H' a = some u) → TreAll K B H xs vs → TreAll K B' H' xs vs
  | [], vs, _, h => h
  | x :: xs, vs, k, h => by
    obtain ⟨v, ws, h1, h2, h3⟩ := h
    exact ⟨v, ws, h1, TreAt.mono e x v (fun b hb => k b (by simp [Tre.foots, hb])) h2, TreAll.mono e xs ws (fun b hb => k b (by simp [Tre.foots, hb])) h3⟩
end
mutual
theorem TreAt.there {K : PySem.W.Frag} {B H : Hp} : ∀ (l : Tre) (v : V), TreAt K B H l v → ∀ a ∈ l.foot, ∃ u, H a = some u
  | .dat d, v, h, a, ha => by simp [Tre.foot] at ha
  | .hole k, v, h, a, ha => by simp [Tre.foot] at ha
  | .ld b ds, v, h, a, ha => by
    obtain ⟨h1, vs, h2, h3⟩ := h
    rw [Tre.foot, List.mem_singleton] at ha
    exact ⟨_, by rw [ha]; exact h2⟩
  | .lst b xs, v, h, a, ha => by
    obtain ⟨h1, vs, h2, h3⟩ := h
    rw [Tre.foot, List.mem_cons] at ha
    rcases ha with rfl | ha
    · exact ⟨_, h2⟩
    · exact TreAll.there xs vs h3 a ha
  | .tup b xs, v, h, a, ha => by
    obtain ⟨h1, vs, h2, h3⟩ := h
    rw [Tre.foot, List.mem_cons] at ha
    rcases ha with rfl | ha
    · exact ⟨_, h2⟩
    · exact TreAll.there xs vs h3 a ha
  | .ins b dx cls ns xs, v, h, a, ha => by
    obtain ⟨h1, vs, h2, h4, h5, h3⟩ := h
    rw [Tre.foot, List.mem_cons, List.mem_cons] at ha
    rcases ha with rfl | rfl | ha
    · exact ⟨_, h2⟩
    · exact ⟨_, h4⟩
    · exact TreAll.there xs vs h3 a ha
  | .exc b da x, v, h, a, ha => by
    obtain ⟨h1, h2, h3⟩ := h
    rw [Tre.foot, List.mem_singleton] at ha
    rw [ha]
    exact ⟨_, h2⟩
theorem TreAll.there {K : PySem.W.Frag} {B H : Hp} : ∀ (xs : List Tre) (vs : List V), TreAll K B H xs vs → ∀ a ∈ Tre.foots xs, ∃ u, H a = some u
  | [], vs, h, a, ha => by simp [Tre.foots] at ha
  | x :: xs, vs, h, a, ha => by
    obtain ⟨v, ws, h1, h2, h3⟩ := h
    rw [Tre.foots, List.mem_append] at ha
    rcases ha with ha | ha
    · exact TreAt.there x v h2 a ha
    · exact TreAll.there xs ws h3 a ha
end
theorem TreAt.root {K : PySem.W.Frag} {B H : Hp} {l : Tre} {v : V} {a : Addr} (h : TreAt K B H l v) (e : l.root = some a) : v = .ref a ∧ a ∈ l.foot := by
  cases l with
  | dat d => cases e
  | hole k => cases e
  | ld b ds => cases e; exact ⟨h.1, by simp [Tre.foot]⟩
  | lst b xs => cases e; exact ⟨h.1, by simp [Tre.foot]⟩
  | tup b xs => cases e; exact ⟨h.1, by simp [Tre.foot]⟩
  | ins b dx cls ns xs => cases e; exact ⟨h.1, by simp [Tre.foot]⟩
  | exc b da x => cases e; exact ⟨h.1, by simp [Tre.foot]⟩
def PlainT (B : Hp) (x : V) : Prop := ∃ a o xs, x = .ref a ∧ B a = some (.frz o (.tup xs)) ∧ o.dict = none
theorem PlainT.mono {B B' : Hp} (e : Same B B') {x : V} : PlainT B x → PlainT B' x := fun ⟨a, o, xs, h1, h2, h3⟩ => ⟨a, o, xs, h1, e _ _ h2, h3⟩
def OwnF (K : PySem.W.Frag) (B H : Hp) (a : Addr) : OD → Prop
  | .lst ds => ∃ xs, H a = some (.lst xs) ∧ DpAll K B xs ds
  | .dct kvs => ∃ ks, H a = some (.dK ks) ∧ DpKV K B ks kvs
  | .dtt kvs => ∃ ks, H a = some (dtO a ks) ∧ DpTV K B ks kvs
  | .lck k ob ks kvs => a = k ∧ H a = some (.frz ob (.dK ks)) ∧ DpKV K B ks kvs
  | .prp x y => ∃ v w, H a = some (.tup [v, w]) ∧ Dp K B v x ∧ Dp K B w y ∧ PlainT B w
  | .tre _ => False
def OwnAt (K : PySem.W.Frag) (B H : Hp) (a : Addr) : OD → Prop
  | .lst ds => ∃ xs, H a = some (.lst xs) ∧ DpAll K B xs ds
  | .dct kvs => ∃ ks, H a = some (.dK ks) ∧ DpKV K B ks kvs
  | .dtt kvs => ∃ ks, H a = some (dtO a ks) ∧ DpTV K B ks kvs
  | .lck k ob ks kvs => a = k ∧ H a = some (.frz ob (.dK ks)) ∧ DpKV K B ks kvs
  | .prp x y => ∃ v w, H a = some (.tup [v, w]) ∧ Dp K B v x ∧ Dp K B w y ∧ PlainT B w
  | .tre l => l.root = some a ∧ TreAt K B H l (.ref a)
theorem OwnF.at_ {K : PySem.W.Frag} {B H : Hp} {a : Addr} {o : OD} (h : OwnF K B H a o) : OwnAt K B H a o ∧ o.fp a = [a] := by
  cases o with
  | lst ds => exact ⟨h, rfl⟩
  | dct kvs => exact ⟨h, rfl⟩
  | dtt kvs => exact ⟨h, rfl⟩
  | lck _ ob ks kvs => exact ⟨h, rfl⟩
  | prp x y => exact ⟨h, rfl⟩
  | tre l => exact h.elim
theorem OwnAt.root_mem {K : PySem.W.Frag} {B H : Hp} {a : Addr} {o : OD} (h : OwnAt K B H a o) : a ∈ o.fp a := by
  cases o with
  | lst ds => exact List.mem_singleton.mpr rfl
  | dct kvs => exact List.mem_singleton.mpr rfl
  | dtt kvs => exact List.mem_singleton.mpr rfl
  | lck _ ob ks kvs => exact List.mem_singleton.mpr rfl
  | prp x y => exact List.mem_singleton.mpr rfl
  | tre l => exact (h.2.root h.1).2
theorem OwnAt.mono {K : PySem.W.Frag} {B B' H H' : Hp} {a : Addr} {o : OD} (e : Same B B') (k : ∀ b ∈ o.fp a, ∀ u, H b = some u → H' b = some u) (h : OwnAt K B H a o) : OwnAt K B' H' a o := by
  cases o with
  | lst ds => obtain ⟨xs, h1, h2⟩ := h; exact ⟨xs, k a (List.mem_singleton.mpr rfl) _ h1, dpAll_mono e _ _ h2⟩
  | dct kvs => obtain ⟨ks, h1, h2⟩ := h; exact ⟨ks, k a (List.mem_singleton.mpr rfl) _ h1, h2.mono e⟩
  | dtt kvs => obtain ⟨ks, h1, h2⟩ := h; exact ⟨ks, k a (List.mem_singleton.mpr rfl) _ h1, h2.mono e⟩
  | lck _ ob ks kvs => obtain ⟨h0, h1, h2⟩ := h; exact ⟨h0, k a (List.mem_singleton.mpr rfl) _ h1, h2.mono e⟩
  | prp x y => obtain ⟨v, w, h1, h2, h3, h4⟩ := h; exact ⟨v, w, k a (List.mem_singleton.mpr rfl) _ h1, dp_mono e _ _ h2, dp_mono e _ _ h3, h4.mono e⟩
  | tre l => exact ⟨h.1, TreAt.mono e l _ k h.2⟩
theorem OwnAt.theres {K : PySem.W.Frag} {B H : Hp} {a : Addr} {o : OD} (h : OwnAt K B H a o) : ∀ b ∈ o.fp a, ∃ u, H b = some u := fun b hb => by
  cases o with
  | lst ds => obtain ⟨xs, h1, h2⟩ := h; rw [List.mem_singleton.mp hb]; exact ⟨_, h1⟩
  | dct kvs => obtain ⟨ks, h1, h2⟩ := h; rw [List.mem_singleton.mp hb]; exact ⟨_, h1⟩
  | dtt kvs => obtain ⟨ks, h1, h2⟩ := h; rw [List.mem_singleton.mp hb]; exact ⟨_, h1⟩
  | lck _ ob ks kvs => obtain ⟨h0, h1, h2⟩ := h; rw [List.mem_singleton.mp hb]; exact ⟨_, h1⟩
  | prp x y => obtain ⟨v, w, h1, h2⟩ := h; rw [List.mem_singleton.mp hb]; exact ⟨_, h1⟩
  | tre l => exact TreAt.there l _ h.2 b hb
theorem OwnAt.there {K : PySem.W.Frag} {B H : Hp} {a : Addr} {o : OD} (h : OwnAt K B H a o) : ∃ u, H a = some u := h.theres a h.root_mem

structure G where
  H0 : Hp
  tg : Nat → Addr
  Oa : List Addr
  P0 : List Addr
  L : Nat → Bool
  /-- from here on a tag is an address -/
  tn : Nat
  tn0 : 0 < tn
  tgA : ∀ a, tg (tn + a) = a

def RC (K : PySem.W.Frag) (g : G) (σ : L2.St) (B H : Hp) (ov : Option V) : C → Prop
  | .no => True
  | .v d => ∃ x, ov = some x ∧ Dp K B x d
  | .p d => ∃ x, ov = some x ∧ Dp K B x d ∧ PlainT B x
  | .own t o => ∃ a, ov = some (.ref a) ∧ OwnAt K B H a o ∧ (t ≠ 0 → g.tg t = a) ∧ (t = 0 → g.H0 a = none)
  | .pk i => ∃ x, ov = some x ∧ σ[i]? = some (some x)
  | .ln i => ∃ x, ov = some x ∧ σ[i]? = some (some x)
  | .sub _ _ k => ov = some (.ref k)
def RCs (K : PySem.W.Frag) (g : G) (σ : L2.St) (B H : Hp) : List (Option V) → List C → Prop
  | [], [] => True
  | v :: vs, c :: cs => RC K g σ B H v c ∧ RCs K g σ B H vs cs
  | _, _ => False
def footC : Option V → C → List Addr
  | some (.ref a), .own _ o => o.fp a
  | _, _ => []
def foot : List (Option V) → List C → List Addr
  | v :: vs, c :: cs => footC v c ++ foot vs cs
  | _, _ => []
abbrev tot (σ : L2.St) (vs : List V) (ρ : Rho) (cs : List C) : List Addr := foot (vs.map some) cs ++ foot σ ρ

structure SR (K : PySem.W.Frag) (g : G) (σ : L2.St) (vs : List V) (H : Hp) (ρ : Rho) (cs : List C) : Prop where
  fr : ∀ a o, g.H0 a = some o → a ∉ g.Oa → H a = some o
  dm : ∀ a o, g.H0 a = some o → ∃ o', H a = some o'
  pr : ∀ a ∈ g.P0, a ∉ g.Oa ∧ ∃ o, g.H0 a = some o
  nw : ∀ a ∈ tot σ vs ρ cs, a ∈ g.Oa ∨ g.H0 a = none
  nd : (tot σ vs ρ cs).Nodup
  sl : RCs K g [] (hide H (tot σ vs ρ cs ++ g.P0)) H σ ρ
  tp : RCs K g σ (hide H (tot σ vs ρ cs ++ g.P0)) H (vs.map some) cs
  pk : ∀ i, (C.pk i ∈ cs ∨ C.ln i ∈ cs) → g.L i = true

section
variable {K : PySem.W.Frag} {g : G} {σ σ' : L2.St} {B B' H H' : Hp} {v : Option V} {c : C}
theorem RC.mono (e : Same B B') (k : ∀ a ∈ footC v c, ∀ u, H a = some u → H' a = some u) (h : RC K g σ B H v c) : RC K g σ B' H' v c := by
  cases c with
  | no => trivial
  | v d => obtain ⟨x, h1, h2⟩ := h; exact ⟨x, h1, dp_mono e _ _ h2⟩
  | p d => obtain ⟨x, h1, h2, h3⟩ := h; exact ⟨x, h1, dp_mono e _ _ h2, h3.mono e⟩
  | own t o =>
    obtain ⟨a, h1, h2, h3⟩ := h
    subst h1
    exact ⟨a, rfl, h2.mono e k, h3⟩
  | pk i => exact h
  | ln i => exact h
  | sub i p k => exact h
theorem RCs.mono (e : Same B B') : ∀ {vs : List (Option V)} {cs : List C}, (∀ a ∈ foot vs cs, ∀ u, H a = some u → H' a = some u) → RCs K g σ B H vs cs → RCs K g σ B' H' vs cs
  | [], [], _, h => h
  | v :: vs, c :: cs, k, h => ⟨h.1.mono e fun a ha => k a (by simp [foot, ha]), RCs.mono e (fun a ha => k a (by simp [foot, ha])) h.2⟩
  | [], _ :: _, _, h => h.elim
  | _ :: _, [], _, h => h.elim
theorem RCs.len : ∀ {vs : List (Option V)} {cs : List C}, RCs K g σ B H vs cs → vs.length = cs.length
  | [], [], _ => rfl
  | _ :: _, _ :: _, h => by rw [List.length_cons, List.length_cons, RCs.len h.2]
  | [], _ :: _, h => h.elim
  | _ :: _, [], h => h.elim
theorem RCs.there : ∀ {vs : List (Option V)} {cs : List C}, RCs K g σ B H vs cs → ∀ a ∈ foot vs cs, ∃ u, H a = some u
  | [], [], _, a, ha => by simp [foot] at ha
  | v :: vs, c :: cs, h, a, ha => by
    rw [foot, List.mem_append] at ha
    rcases ha with ha | ha
    · cases c with
      | own t o =>
        obtain ⟨b, e, q, _⟩ := h.1
        subst e
        exact q.theres a ha
      | no => cases v with
        | none => simp [footC] at ha
        | some x => cases x <;> simp [footC] at ha
      | v d => cases v with
        | none => simp [footC] at ha
        | some x => cases x <;> simp [footC] at ha
      | p d => cases v with
        | none => simp [footC] at ha
        | some x => cases x <;> simp [footC] at ha
      | pk i => cases v with
        | none => simp [footC] at ha
        | some x => cases x <;> simp [footC] at ha
      | ln i => cases v with
        | none => simp [footC] at ha
        | some x => cases x <;> simp [footC] at ha
      | sub i p k => cases v with
        | none => simp [footC] at ha
        | some x => cases x <;> simp [footC] at ha
    · exact RCs.there h.2 a ha
  | [], _ :: _, h, _, _ => h.elim
  | _ :: _, [], h, _, _ => h.elim
theorem foot_app : ∀ {vs us : List (Option V)} {cs ds : List C}, vs.length = cs.length → foot (vs ++ us) (cs ++ ds) = foot vs cs ++ foot us ds
  | [], _, [], _, _ => rfl
  | v :: vs, us, c :: cs, ds, h => by
    show footC v c ++ foot (vs ++ us) (cs ++ ds) = (footC v c ++ foot vs cs) ++ foot us ds
    rw [foot_app (by simpa using h), List.append_assoc]
  | [], _, _ :: _, _, h => by simp at h
  | _ :: _, _, [], _, h => by simp at h
theorem RCs.app : ∀ {vs us : List (Option V)} {cs ds : List C}, RCs K g σ B H vs cs → RCs K g σ B H us ds → RCs K g σ B H (vs ++ us) (cs ++ ds)
  | [], _, [], _, _, h => h
  | _ :: _, _, _ :: _, _, h, h' => ⟨h.1, RCs.app h.2 h'⟩
  | [], _, _ :: _, _, h, _ => h.elim
  | _ :: _, _, [], _, h, _ => h.elim
theorem RCs.split : ∀ {vs us : List (Option V)} {cs ds : List C}, vs.length = cs.length → RCs K g σ B H (vs ++ us) (cs ++ ds) → RCs K g σ B H vs cs ∧ RCs K g σ B H us ds
  | [], _, [], _, _, h => ⟨trivial, h⟩
  | _ :: _, _, _ :: _, _, hl, h => ⟨⟨h.1, (RCs.split (by simpa using hl) h.2).1⟩, (RCs.split (by simpa using hl) h.2).2⟩
  | [], _, _ :: _, _, h, _ => by simp at h
  | _ :: _, _, [], _, h, _ => by simp at h
end

section
variable {K : PySem.W.Frag} {g : G} {σ σ' : L2.St} {vs vs' : List V} {H H' : Hp} {ρ ρ' : Rho} {cs cs' : List C}
theorem SR.there (h : SR K g σ vs H ρ cs) : ∀ a ∈ tot σ vs ρ cs, ∃ u, H a = some u := fun a ha => by
  rcases List.mem_append.mp ha with q | q
  · exact h.tp.there a q
  · exact h.sl.there a q
theorem SR.pdom (h : SR K g σ vs H ρ cs) : ∀ a ∈ g.P0, ∃ u, H a = some u := fun a ha => by
  obtain ⟨h1, o, h2⟩ := h.pr a ha
  exact ⟨o, h.fr a o h2 h1⟩
theorem SR.domO (h : SR K g σ vs H ρ cs) : ∀ a ∈ tot σ vs ρ cs ++ g.P0, ∃ u, H a = some u := fun a ha => (List.mem_append.mp ha).elim (h.there a) (h.pdom a)
theorem SR.pout (h : SR K g σ vs H ρ cs) : ∀ a ∈ tot σ vs ρ cs, a ∉ g.P0 := fun a ha hp => by
  obtain ⟨h1, o, h2⟩ := h.pr a hp
  rcases h.nw a ha with q | q
  · exact h1 q
  · rw [h2] at q; cases q
theorem hide_step {F F' P : List Addr} (keep : ∀ a o, a ∉ F → H a = some o → H' a = some o) (new : ∀ a ∈ F', a ∈ F ∨ H a = none) : Same (hide H (F ++ P)) (hide H' (F' ++ P)) := fun a o e => by
  obtain ⟨h1, h2⟩ := hide_some.mp e
  have hF : a ∉ F := fun z => h1 (List.mem_append_left _ z)
  have hP : a ∉ P := fun z => h1 (List.mem_append_right _ z)
  refine hide_some.mpr ⟨fun z => ?_, keep a o hF h2⟩
  rcases List.mem_append.mp z with z | z
  · rcases new a z with q | q
    · exact hF q
    · rw [h2] at q; cases q
  · exact hP z
theorem SR.gen (h : SR K g σ vs H ρ cs) (keep : ∀ a o, a ∉ tot σ vs ρ cs → H a = some o → H' a = some o) (dom : ∀ a o, H a = some o → ∃ o', H' a = some o') (new : ∀ a ∈ tot σ' vs' ρ' cs', a ∈ tot σ vs ρ cs ∨ H a = none) (nd : (tot σ' vs' ρ' cs').Nodup)
    (sl : Same (hide H (tot σ vs ρ cs ++ g.P0)) (hide H' (tot σ' vs' ρ' cs' ++ g.P0)) → RCs K g [] (hide H' (tot σ' vs' ρ' cs' ++ g.P0)) H' σ' ρ')
    (tp : Same (hide H (tot σ vs ρ cs ++ g.P0)) (hide H' (tot σ' vs' ρ' cs' ++ g.P0)) → RCs K g σ' (hide H' (tot σ' vs' ρ' cs' ++ g.P0)) H' (vs'.map some) cs')
    (pk : ∀ i, (C.pk i ∈ cs' ∨ C.ln i ∈ cs') → g.L i = true) : SR K g σ' vs' H' ρ' cs' := by
  have hB : Same (hide H (tot σ vs ρ cs ++ g.P0)) (hide H' (tot σ' vs' ρ' cs' ++ g.P0)) := hide_step keep new
  refine ⟨fun a o e n => ?_, fun a o e => ?_, h.pr, fun a ha => ?_, nd, sl hB, tp hB, pk⟩
  · refine keep a o (fun z => ?_) (h.fr a o e n)
    rcases h.nw a z with q | q
    · exact n q
    · rw [e] at q; cases q
  · obtain ⟨o', q⟩ := h.dm a o e
    exact dom a o' q
  · rcases new a ha with q | q
    · exact h.nw a q
    · cases e : g.H0 a with
      | none => exact .inr rfl
      | some o =>
        by_cases n : a ∈ g.Oa
        · exact .inl n
        · rw [h.fr a o e n] at q; cases q
def NewRes (K : PySem.W.Frag) (O : List Addr) (H H' : Hp) (v : V) : C → Prop
  | .v d => Dp K (hide H' O) v d
  | .p d => Dp K (hide H' O) v d ∧ PlainT (hide H' O) v
  | .own t o => t = 0 ∧ ∃ a, v = .ref a ∧ H a = none ∧ OwnF K (hide H' (a :: O)) H' a o
  | _ => False
theorem foot_cons_v {x : V} {d : D} : tot σ (x :: vs) ρ (.v d :: cs) = tot σ vs ρ cs := by
  show (footC (some x) (.v d) ++ foot (vs.map some) cs) ++ foot σ ρ = _
  have e : footC (some x) (.v d) = [] := by cases x <;> rfl
  rw [e]; rfl
theorem foot_cons_own {a : Addr} {t : Nat} {o : OD} : tot σ (.ref a :: vs) ρ (.own t o :: cs) = o.fp a ++ tot σ vs ρ cs := by
  show (o.fp a ++ foot (vs.map some) cs) ++ foot σ ρ = _
  rw [List.append_assoc]
theorem foot_cons_pk {x : V} {i : Nat} : tot σ (x :: vs) ρ (.pk i :: cs) = tot σ vs ρ cs := by
  show (footC (some x) (.pk i) ++ foot (vs.map some) cs) ++ foot σ ρ = _
  have e : footC (some x) (.pk i) = [] := by cases x <;> rfl
  rw [e]; rfl
theorem SR.res {v : V} {c : C} (h : SR K g σ vs H ρ cs) (e : Same H H') (r : NewRes K (tot σ vs ρ cs ++ g.P0) H H' v c) : SR K g σ (v :: vs) H' ρ (c :: cs) := by
  cases c with
  | no => exact r.elim
  | pk i => exact r.elim
  | ln i => exact r.elim
  | sub i p k => exact r.elim
  | v d =>
    have ft : tot σ (v :: vs) ρ (.v d :: cs) = tot σ vs ρ cs := foot_cons_v
    refine h.gen (fun a o _ q => e a o q) (fun a o q => ⟨o, e a o q⟩) (fun a ha => .inl (by rw [ft] at ha; exact ha)) (by rw [ft]; exact h.nd) (fun hB => h.sl.mono hB fun a _ u q => e a u q) (fun hB => ?_) (fun i hi => h.pk i (by simpa using hi))
    refine ⟨⟨v, rfl, ?_⟩, h.tp.mono hB fun a _ u q => e a u q⟩
    rw [ft]; exact r
  | p d =>
    have ft : tot σ (v :: vs) ρ (.p d :: cs) = tot σ vs ρ cs := by
      rw [show tot σ (v :: vs) ρ (.p d :: cs) = footC (some v) (.p d) ++ tot σ vs ρ cs from by
        show (footC (some v) (.p d) ++ foot (vs.map some) cs) ++ foot σ ρ = _
        rw [List.append_assoc]]
      cases v <;> rfl
    refine h.gen (fun a o _ q => e a o q) (fun a o q => ⟨o, e a o q⟩) (fun a ha => .inl (by rw [ft] at ha; exact ha)) (by rw [ft]; exact h.nd) (fun hB => h.sl.mono hB fun a _ u q => e a u q) (fun hB => ?_) (fun i hi => h.pk i (by simpa using hi))
    refine ⟨⟨v, rfl, ?_⟩, h.tp.mono hB fun a _ u q => e a u q⟩
    rw [ft]; exact r
  | own t o =>
    obtain ⟨rfl, a, rfl, na, oa⟩ := r
    obtain ⟨oa, fpa⟩ := oa.at_
    have ft : tot σ (.ref a :: vs) ρ (.own 0 o :: cs) = a :: tot σ vs ρ cs := by rw [foot_cons_own, fpa]; rfl
    refine h.gen (fun a o _ q => e a o q) (fun a o q => ⟨o, e a o q⟩) (fun b hb => ?_) ?_ (fun hB => h.sl.mono hB fun a _ u q => e a u q) (fun hB => ?_) (fun i hi => h.pk i (by simpa using hi))
    · rw [ft] at hb
      rcases List.mem_cons.mp hb with q | q
      · subst q; exact .inr na
      · exact .inl q
    · rw [ft]
      refine List.nodup_cons.mpr ⟨fun z => ?_, h.nd⟩
      obtain ⟨u, q⟩ := h.there a z
      rw [na] at q; cases q
    · refine ⟨⟨a, rfl, ?_, fun z => absurd rfl z, fun _ => ?_⟩, h.tp.mono hB fun a _ u q => e a u q⟩
      · rw [ft]; exact oa
      · cases z : g.H0 a with
        | none => rfl
        | some o =>
          obtain ⟨o', q⟩ := h.dm a o z
          rw [na] at q; cases q
theorem SR.grow (h : SR K g σ vs H ρ cs) (e : Same H H') : SR K g σ vs H' ρ cs :=
  h.gen (fun a o _ q => e a o q) (fun a o q => ⟨o, e a o q⟩) (fun a ha => .inl ha) h.nd (fun hB => h.sl.mono hB fun a _ u q => e a u q) (fun hB => h.tp.mono hB fun a _ u q => e a u q) h.pk
theorem tot_cons {x : V} {c : C} : tot σ (x :: vs) ρ (c :: cs) = footC (some x) c ++ tot σ vs ρ cs := by
  show (footC (some x) c ++ foot (vs.map some) cs) ++ foot σ ρ = _
  rw [List.append_assoc]
theorem SR.pop {x : V} {c : C} (h : SR K g σ (x :: vs) H ρ (c :: cs)) : SR K g σ vs H ρ cs := by
  have ft := tot_cons (σ := σ) (vs := vs) (ρ := ρ) (cs := cs) (x := x) (c := c)
  refine h.gen (fun _ _ _ q => q) (fun _ o q => ⟨o, q⟩) (fun a ha => .inl (by rw [ft]; exact List.mem_append_right _ ha)) ?_ (fun hB => h.sl.mono hB fun _ _ _ q => q) (fun hB => (RCs.mono hB (fun _ _ _ q => q) h.tp).2) (fun i hi => h.pk i (hi.imp (List.mem_cons_of_mem _) (List.mem_cons_of_mem _)))
  have q := h.nd
  rw [ft] at q
  exact (List.nodup_append.mp q).2.1
theorem SR.top {x : V} {d : D} (h : SR K g σ (x :: vs) H ρ (.v d :: cs)) : Dp K (hide H (tot σ vs ρ cs ++ g.P0)) x d := by
  obtain ⟨x', e, q⟩ := h.tp.1
  cases e
  rw [foot_cons_v] at q
  exact q
theorem SR.len (h : SR K g σ vs H ρ cs) : σ.length = ρ.length := h.sl.len
theorem SR.pops : ∀ {xs : List V} {ccs : List C}, xs.length = ccs.length → SR K g σ (xs ++ vs) H ρ (ccs ++ cs) → SR K g σ vs H ρ cs
  | [], [], _, h => h
  | _ :: xs, _ :: ccs, hl, h => SR.pops (xs := xs) (ccs := ccs) (by simpa using hl) h.pop
  | [], _ :: _, hl, _ => by simp at hl
  | _ :: _, [], hl, _ => by simp at hl
theorem tot_app {xs : List V} {ccs : List C} (hl : xs.length = ccs.length) : tot σ (xs ++ vs) ρ (ccs ++ cs) = foot (xs.map some) ccs ++ tot σ vs ρ cs := by
  show foot ((xs ++ vs).map some) (ccs ++ cs) ++ foot σ ρ = _
  rw [List.map_append, foot_app (by simpa using hl), List.append_assoc]
theorem SR.rot {x : V} {c : C} {xs : List V} {ccs : List C} (hl : xs.length = ccs.length) (h : SR K g σ (xs ++ x :: vs) H ρ (ccs ++ c :: cs)) : SR K g σ (x :: (xs ++ vs)) H ρ (c :: (ccs ++ cs)) := by
  have e1 : tot σ (xs ++ x :: vs) ρ (ccs ++ c :: cs) = foot (xs.map some) ccs ++ (footC (some x) c ++ tot σ vs ρ cs) := by rw [tot_app hl, tot_cons]
  have e2 : tot σ (x :: (xs ++ vs)) ρ (c :: (ccs ++ cs)) = footC (some x) c ++ (foot (xs.map some) ccs ++ tot σ vs ρ cs) := by rw [tot_cons, tot_app hl]
  have pm : (foot (xs.map some) ccs ++ (footC (some x) c ++ tot σ vs ρ cs)).Perm (footC (some x) c ++ (foot (xs.map some) ccs ++ tot σ vs ρ cs)) := by
    exact List.perm_append_comm_assoc _ _ _
  refine h.gen (fun _ _ _ q => q) (fun _ o q => ⟨o, q⟩) (fun a ha => .inl ?_) ?_ (fun hB => h.sl.mono hB fun _ _ _ q => q) (fun hB => ?_) (fun i hi => h.pk i ?_)
  · rw [e1]; rw [e2] at ha; exact pm.mem_iff.mpr ha
  · rw [e2]; have q := h.nd; rw [e1] at q; exact pm.nodup_iff.mp q
  · have q := RCs.mono hB (fun _ _ _ q => q) h.tp
    rw [List.map_append] at q
    obtain ⟨q1, q2, q3⟩ := RCs.split (by simpa using hl) q
    rw [List.map_cons, List.map_append]
    exact ⟨q2, q1.app q3⟩
  · simp only [List.mem_append, List.mem_cons] at hi ⊢
    rcases hi with (h1 | h1 | h1) | (h1 | h1 | h1) <;> simp [h1]
theorem SR.unrot {x : V} {c : C} {xs : List V} {ccs : List C} (hl : xs.length = ccs.length) (h : SR K g σ (x :: (xs ++ vs)) H ρ (c :: (ccs ++ cs))) : SR K g σ (xs ++ x :: vs) H ρ (ccs ++ c :: cs) := by
  have e1 : tot σ (xs ++ x :: vs) ρ (ccs ++ c :: cs) = foot (xs.map some) ccs ++ (footC (some x) c ++ tot σ vs ρ cs) := by rw [tot_app hl, tot_cons]
  have e2 : tot σ (x :: (xs ++ vs)) ρ (c :: (ccs ++ cs)) = footC (some x) c ++ (foot (xs.map some) ccs ++ tot σ vs ρ cs) := by rw [tot_cons, tot_app hl]
  have pm : (foot (xs.map some) ccs ++ (footC (some x) c ++ tot σ vs ρ cs)).Perm (footC (some x) c ++ (foot (xs.map some) ccs ++ tot σ vs ρ cs)) := by
    exact List.perm_append_comm_assoc _ _ _
  refine h.gen (fun _ _ _ q => q) (fun _ o q => ⟨o, q⟩) (fun a ha => .inl ?_) ?_ (fun hB => h.sl.mono hB fun _ _ _ q => q) (fun hB => ?_) (fun i hi => h.pk i ?_)
  · rw [e2]; rw [e1] at ha; exact pm.mem_iff.mp ha
  · rw [e1]; have q := h.nd; rw [e2] at q; exact pm.nodup_iff.mpr q
  · have q := RCs.mono hB (fun _ _ _ q => q) h.tp
    rw [List.map_cons, List.map_append] at q
    obtain ⟨q2, q1⟩ := q
    obtain ⟨q1, q3⟩ := RCs.split (by simpa using hl) q1
    rw [List.map_append, List.map_cons]
    exact q1.app ⟨q2, q3⟩
  · simp only [List.mem_append, List.mem_cons] at hi ⊢
    rcases hi with (h1 | h1 | h1) | (h1 | h1 | h1) <;> simp [h1]
end

/-! ### slots -/
@[reducible] def rget : Rho → Nat → C
  | [], _ => .no
  | c :: _, 0 => c
  | _ :: ρ, n + 1 => rget ρ n
@[reducible] def rset : Rho → Nat → C → Rho
  | [], _, _ => []
  | _ :: ρ, 0, c => c :: ρ
  | c' :: ρ, n + 1, c => c' :: rset ρ n c
@[simp] theorem rget_zero {c : C} {ρ : Rho} : rget (c :: ρ) 0 = c := rfl
@[simp] theorem rget_succ {c : C} {ρ : Rho} {n : Nat} : rget (c :: ρ) (n + 1) = rget ρ n := rfl
@[simp] theorem rset_zero {c c' : C} {ρ : Rho} : rset (c' :: ρ) 0 c = c :: ρ := rfl
@[simp] theorem rset_succ {c c' : C} {ρ : Rho} {n : Nat} : rset (c' :: ρ) (n + 1) c = c' :: rset ρ n c := rfl
@[reducible] def dat (ρ : Rho) : C → Option D
  | .v d => some d
  | .p d => some d
  | .own _ (.lst ds) => some (.list ds)
  | .ln i => match rget ρ i with
    | .own _ (.lst ds) => some (.list ds)
    | .v d => some d
    | .p d => some d
    | _ => none
  | _ => none
@[reducible] def lfree : D → Bool
  | .list _ => false
  | .dict _ => false
  | .tuple ds => lfreeAll ds
  | _ => true
where lfreeAll : List D → Bool
  | [] => true
  | d :: ds => lfree d && lfreeAll ds
@[reducible] def C.lf : C → Bool
  | .v d => lfree d
  | .p d => lfree d
  | .own _ (.lst ds) => lfree.lfreeAll ds
  | _ => false
section
variable {K : PySem.W.Frag} {g : G} {σ σ' : L2.St} {vs vs' : List V} {B B' H H' : Hp} {ρ ρ' : Rho} {cs cs' : List C}
theorem seqT_lf {A O : List Addr} (hA : ∀ a ∈ A, ∃ xs, H a = some (.lst xs)) {a : Addr} {xs : List V} (h : SqT K (hide H O) a xs) : SqT K (hide H (A ++ O)) a xs := by
  rcases h with (h | ⟨o, h⟩) | h
  · obtain ⟨h1, h2⟩ := hide_some.mp h
    refine .inl (.inl (hide_some.mpr ⟨fun z => ?_, h2⟩))
    rcases List.mem_append.mp z with z | z
    · obtain ⟨ys, e⟩ := hA a z
      rw [h2] at e; cases e
    · exact h1 z
  · obtain ⟨h1, h2⟩ := hide_some.mp h
    refine .inl (.inr ⟨o, hide_some.mpr ⟨fun z => ?_, h2⟩⟩)
    rcases List.mem_append.mp z with z | z
    · obtain ⟨ys, e⟩ := hA a z
      rw [h2] at e; cases e
    · exact h1 z
  · exact .inr h
mutual
theorem dp_lf {A O : List Addr} (hA : ∀ a ∈ A, ∃ xs, H a = some (.lst xs)) : ∀ (d : D) (v : V), lfree d = true → Dp K (hide H O) v d → Dp K (hide H (A ++ O)) v d
  | .none, _, _, h => by cases h; exact .non
  | .bool b, _, _, h => by cases h; exact .bl b
  | .int i, _, _, h => by cases h; exact .int i
  | .str x, _, _, h => by cases h; exact .str x
  | .list ds, _, q, _ => by simp [lfree] at q
  | .tuple ds, _, q, h => by
    cases h with
    | tup hs ha => exact .tup (seqT_lf hA hs) (dpAll_lf hA ds _ (by simpa [lfree] using q) ha)
  | .dict _, _, q, _ => by simp [lfree] at q
theorem dpAll_lf {A O : List Addr} (hA : ∀ a ∈ A, ∃ xs, H a = some (.lst xs)) : ∀ (ds : List D) (vs : List V), lfree.lfreeAll ds = true → DpAll K (hide H O) vs ds → DpAll K (hide H (A ++ O)) vs ds
  | [], _, _, h => by cases h; exact .nil
  | d :: ds, _, q, h => by
    have q' : lfree d = true ∧ lfree.lfreeAll ds = true := by simpa [lfree.lfreeAll] using q
    cases h with
    | cons h1 h2 => exact .cons (dp_lf hA d _ q'.1 h1) (dpAll_lf hA ds _ q'.2 h2)
end
theorem NewRes.lent {A O : List Addr} {v : V} {c : C} (hA : ∀ a ∈ A, ∃ xs, H a = some (.lst xs)) (e : Same H H') (hc : c.lf = true) (r : NewRes K O H H' v c) : NewRes K (A ++ O) H H' v c := by
  have hA' : ∀ a ∈ A, ∃ xs, H' a = some (.lst xs) := fun a ha => let ⟨xs, q⟩ := hA a ha; ⟨xs, e _ _ q⟩
  cases c with
  | v d => exact dp_lf hA' d v hc r
  | p d =>
    refine ⟨dp_lf hA' d v hc r.1, ?_⟩
    obtain ⟨a, o, xs, e1, e2, e3⟩ := r.2
    obtain ⟨q1, q2⟩ := hide_some.mp e2
    refine ⟨a, o, xs, e1, hide_some.mpr ⟨fun z => ?_, q2⟩, e3⟩
    rcases List.mem_append.mp z with z | z
    · obtain ⟨ys, w⟩ := hA' a z
      rw [q2] at w; cases w
    · exact q1 z
  | own t o =>
    obtain ⟨h0, a, e1, na, oa⟩ := r
    refine ⟨h0, a, e1, na, ?_⟩
    cases o with
    | dct _ => cases hc
    | dtt _ => cases hc
    | lck _ _ _ _ => cases hc
    | prp _ _ => cases hc
    | tre _ => cases hc
    | lst ds =>
      obtain ⟨xs, h1, h2⟩ := oa
      refine ⟨xs, h1, ?_⟩
      have q := dpAll_lf hA' ds xs hc h2
      have e2 : hide H' (A ++ a :: O) = hide H' (a :: (A ++ O)) := hide_congr fun b => by
        simp only [List.mem_append, List.mem_cons]
        constructor
        · rintro (z | z | z) <;> simp [z]
        · rintro (z | z | z) <;> simp [z]
      rw [e2] at q
      exact q
  | no => exact r
  | pk i => exact r
  | ln i => exact r
  | sub i p k => exact r
theorem NewRes.congr {O O' : List Addr} {v : V} {c : C} (h : ∀ a, a ∈ O ↔ a ∈ O') (r : NewRes K O H H' v c) : NewRes K O' H H' v c := by
  cases c with
  | v d =>
    show Dp K (hide H' O') v d
    rw [← hide_congr h]; exact r
  | p d =>
    show Dp K (hide H' O') v d ∧ PlainT (hide H' O') v
    rw [← hide_congr h]; exact r
  | own t o =>
    obtain ⟨h0, a, e1, na, oa⟩ := r
    refine ⟨h0, a, e1, na, ?_⟩
    rw [← hide_congr (O := a :: O) (fun b => by simp [h b])]; exact oa
  | no => exact r
  | pk i => exact r
  | ln i => exact r
  | sub i p k => exact r
theorem RCs.at_ : ∀ {σ0 : List (Option V)} {ρ : Rho} {i : Nat}, RCs K g σ B H σ0 ρ → rget ρ i ≠ .no → ∃ ov, σ0[i]? = some ov ∧ RC K g σ B H ov (rget ρ i)
  | [], [], i, _, h => absurd rfl h
  | ov :: σ0, c :: ρ, 0, h, _ => ⟨ov, rfl, h.1⟩
  | ov :: σ0, c :: ρ, i + 1, h, hn => by
    obtain ⟨ov', e, q⟩ := RCs.at_ (i := i) h.2 hn
    exact ⟨ov', by simpa using e, q⟩
  | [], _ :: _, _, h, _ => h.elim
  | _ :: _, [], _, h, _ => h.elim
theorem foot_at : ∀ {σ0 : List (Option V)} {ρ : Rho} {i : Nat} {a : Addr} {t : Nat} {o : OD}, σ0[i]? = some (some (.ref a)) → rget ρ i = .own t o → ∀ b ∈ o.fp a, b ∈ foot σ0 ρ
  | [], _, i, _, _, _, h, _ => by simp at h
  | ov :: σ0, [], i, _, _, _, _, h => by cases h
  | ov :: σ0, c :: ρ, 0, a, t, o, h1, h2 => by
    have e1 : ov = some (.ref a) := by simpa using h1
    have e2 : c = .own t o := h2
    subst e1; subst e2
    intro b hb
    exact List.mem_append_left _ hb
  | ov :: σ0, c :: ρ, i + 1, a, t, o, h1, h2 => fun b hb => by
    show b ∈ footC ov c ++ foot σ0 ρ
    exact List.mem_append_right _ (foot_at (i := i) (by simpa using h1) h2 b hb)
theorem SR.own {i t : Nat} {o : OD} (h : SR K g σ vs H ρ cs) (e : rget ρ i = .own t o) : ∃ a, σ[i]? = some (some (.ref a)) ∧ a ∈ foot σ ρ ∧ OwnAt K (hide H (tot σ vs ρ cs ++ g.P0)) H a o ∧ (t ≠ 0 → g.tg t = a) ∧ (t = 0 → g.H0 a = none) := by
  obtain ⟨ov, e1, q⟩ := h.sl.at_ (i := i) (by rw [e]; exact fun z => nomatch z)
  rw [e] at q
  obtain ⟨a, e2, q1, q2⟩ := q
  subst e2
  exact ⟨a, e1, foot_at e1 e a q1.root_mem, q1, q2⟩
theorem SR.slot {i : Nat} {d : D} (h : SR K g σ vs H ρ cs) (e : rget ρ i = .v d) : ∃ x, σ[i]? = some (some x) ∧ Dp K (hide H (tot σ vs ρ cs ++ g.P0)) x d := by
  obtain ⟨ov, e1, q⟩ := h.sl.at_ (i := i) (by rw [e]; exact fun z => nomatch z)
  rw [e] at q
  obtain ⟨x, e2, q1⟩ := q
  subst e2
  exact ⟨x, e1, q1⟩
theorem SR.slotP {i : Nat} {d : D} (h : SR K g σ vs H ρ cs) (e : rget ρ i = .p d) : ∃ x, σ[i]? = some (some x) ∧ Dp K (hide H (tot σ vs ρ cs ++ g.P0)) x d ∧ PlainT (hide H (tot σ vs ρ cs ++ g.P0)) x := by
  obtain ⟨ov, e1, q⟩ := h.sl.at_ (i := i) (by rw [e]; exact fun z => nomatch z)
  rw [e] at q
  obtain ⟨x, e2, q1⟩ := q
  subst e2
  exact ⟨x, e1, q1⟩
def lentA (σ : L2.St) (ρ : Rho) : List C → List Addr
  | [] => []
  | .ln i :: cs => (match σ[i]?, rget ρ i with
    | some (some (.ref a)), .own _ (.lst _) => [a]
    | _, _ => []) ++ lentA σ ρ cs
  | _ :: cs => lentA σ ρ cs
theorem lentA_mem : ∀ {ccs : List C} {a : Addr}, a ∈ lentA σ ρ ccs → ∃ i t ds, C.ln i ∈ ccs ∧ σ[i]? = some (some (.ref a)) ∧ rget ρ i = .own t (.lst ds)
  | [], a, h => by simp [lentA] at h
  | c :: ccs, a, h => by
    have rec_ : a ∈ lentA σ ρ ccs → ∃ i t ds, C.ln i ∈ c :: ccs ∧ σ[i]? = some (some (.ref a)) ∧ rget ρ i = .own t (.lst ds) := fun z => by
      obtain ⟨i, t, ds, h1, h2⟩ := lentA_mem z
      exact ⟨i, t, ds, List.mem_cons_of_mem _ h1, h2⟩
    cases c with
    | ln i =>
      rw [lentA, List.mem_append] at h
      rcases h with h | h
      · revert h
        split
        · rename_i b t ds e1 e2
          intro h
          have e3 : a = b := by simpa using h
          subst e3
          exact ⟨i, t, ds, List.mem_cons_self, e1, e2⟩
        · intro h; simp at h
      · exact rec_ h
    | no => exact rec_ h
    | v d => exact rec_ h
    | p d => exact rec_ h
    | own t o => exact rec_ h
    | pk i => exact rec_ h
    | sub i p k => exact rec_ h
theorem mem_lentA : ∀ {ccs : List C} {a : Addr} {i t : Nat} {ds : List D}, C.ln i ∈ ccs → σ[i]? = some (some (.ref a)) → rget ρ i = .own t (.lst ds) → a ∈ lentA σ ρ ccs
  | [], _, _, _, _, h, _, _ => by simp at h
  | c :: ccs, a, i, t, ds, h, h1, h2 => by
    rcases List.mem_cons.mp h with e | h
    · subst e
      rw [lentA, h1, h2]
      simp
    · have q := mem_lentA h h1 h2
      cases c with
      | ln j => rw [lentA]; exact List.mem_append_right _ q
      | sub j p k => exact q
      | no => exact q
      | v d => exact q
      | p d => exact q
      | own t o => exact q
      | pk i => exact q
@[reducible] def C.isLn : C → Bool
  | .ln _ => true
  | _ => false
theorem lentA_none : ∀ {ccs : List C}, ccs.any C.isLn = false → lentA σ ρ ccs = []
  | [], _ => rfl
  | c :: ccs, h => by
    have h' : c.isLn = false ∧ ccs.any C.isLn = false := by simpa using h
    have r := lentA_none h'.2
    cases c with
    | ln i => simp [C.isLn] at h'
    | sub i p k => exact r
    | no => exact r
    | v d => exact r
    | p d => exact r
    | own t o => exact r
    | pk i => exact r
def dats (ρ : Rho) : List C → Option (List D)
  | [] => some []
  | c :: cs => match dat ρ c, dats ρ cs with
    | some d, some ds => some (d :: ds)
    | _, _ => none
theorem SR.use {xs : List V} {ccs : List C} {ds : List D} (h : SR K g σ (xs ++ vs) H ρ (ccs ++ cs)) (hl : xs.length = ccs.length) (hd : dats ρ ccs = some ds) :
    ∃ O, (∀ a ∈ O, a ∈ tot σ vs ρ cs ++ g.P0) ∧ DpAll K (hide H O) xs ds ∧ ∀ H' v c, Same H H' → NewRes K O H H' v c → (ccs.any C.isLn = true → c.lf = true) → NewRes K (tot σ vs ρ cs ++ g.P0) H H' v c := by
  refine ⟨(tot σ vs ρ cs ++ g.P0).filter fun a => decide (a ∉ lentA σ ρ ccs), fun a ha => (List.mem_filter.mp ha).1, ?_, fun H' v c e r hc => ?_⟩
  · -- every operand reads as its data
    have big : ∀ a, a ∈ (tot σ vs ρ cs ++ g.P0).filter (fun a => decide (a ∉ lentA σ ρ ccs)) → a ∈ tot σ (xs ++ vs) ρ (ccs ++ cs) ++ g.P0 := fun a ha => by
      rw [tot_app hl]
      rcases List.mem_append.mp (List.mem_filter.mp ha).1 with q | q
      · exact List.mem_append_left _ (List.mem_append_right _ q)
      · exact List.mem_append_right _ q
    have up : Same (hide H (tot σ (xs ++ vs) ρ (ccs ++ cs) ++ g.P0)) (hide H ((tot σ vs ρ cs ++ g.P0).filter fun a => decide (a ∉ lentA σ ρ ccs))) := fun a o q => by
      obtain ⟨h1, h2⟩ := hide_some.mp q
      exact hide_some.mpr ⟨fun z => h1 (big a z), h2⟩
    have tp := h.tp
    rw [List.map_append] at tp
    have tp1 := (RCs.split (by simpa using hl) tp).1
    have nd := h.nd
    rw [tot_app hl] at nd
    have key : ∀ (ys : List V) (qs : List C) (es : List D), ys.length = qs.length → (∀ c ∈ qs, c ∈ ccs) → (∀ a ∈ foot (ys.map some) qs, a ∈ foot (xs.map some) ccs) → RCs K g σ (hide H (tot σ (xs ++ vs) ρ (ccs ++ cs) ++ g.P0)) H (ys.map some) qs → dats ρ qs = some es →
        DpAll K (hide H ((tot σ vs ρ cs ++ g.P0).filter fun a => decide (a ∉ lentA σ ρ ccs))) ys es := by
      intro ys
      induction ys with
      | nil =>
        intro qs es hlen _ _ _ hds
        cases qs with
        | nil => cases hds; exact .nil
        | cons _ _ => simp at hlen
      | cons y ys ih =>
        intro qs es hlen hin hft hrc hds
        cases qs with
        | nil => simp at hlen
        | cons q qs =>
          rw [dats] at hds
          cases e1 : dat ρ q with
          | none => rw [e1] at hds; cases hds
          | some d =>
            cases e2 : dats ρ qs with
            | none => rw [e1, e2] at hds; cases hds
            | some es' =>
              rw [e1, e2] at hds
              cases hds
              refine .cons ?_ (ih qs es' (by simpa using hlen) (fun c hc => hin c (List.mem_cons_of_mem _ hc)) (fun a ha => hft a (by rw [List.map_cons, foot]; exact List.mem_append_right _ ha)) hrc.2 e2)
              have hq := hrc.1
              cases q with
              | no => cases e1
              | pk i => cases e1
              | sub i p k => cases e1
              | v d' =>
                cases e1
                obtain ⟨x, e3, q1⟩ := hq
                cases e3
                exact dp_mono up _ _ q1
              | p d' =>
                cases e1
                obtain ⟨x, e3, q1, _⟩ := hq
                cases e3
                exact dp_mono up _ _ q1
              | own t o =>
                cases o with
                | dct _ => cases e1
                | dtt _ => cases e1
                | lck _ _ _ _ => cases e1
                | prp _ _ => cases e1
                | tre _ => cases e1
                | lst zs =>
                  cases e1
                  obtain ⟨a, e3, ⟨us, q1, q2⟩, _⟩ := hq
                  cases e3
                  have ha : a ∈ foot (xs.map some) ccs := hft a (by rw [List.map_cons, foot]; exact List.mem_append_left _ (by simp [footC]))
                  refine .lst (.inl (.inl (hide_some.mpr ⟨fun z => ?_, q1⟩))) (dpAll_mono up _ _ q2)
                  rcases List.mem_append.mp (List.mem_filter.mp z).1 with z | z
                  · exact (List.nodup_append.mp nd).2.2 a ha a z rfl
                  · exact h.pout a (by rw [tot_app hl]; exact List.mem_append_left _ ha) z
              | ln i =>
                obtain ⟨x, e3, q1⟩ := hq
                cases e3
                have hin' := hin (.ln i) List.mem_cons_self
                revert e1
                show (match rget ρ i with
                  | .own _ (.lst ds) => some (PyData.list ds)
                  | .v d => some d
                  | .p d => some d
                  | _ => none) = some d → _
                split
                · rename_i t zs eo
                  intro e1
                  cases e1
                  obtain ⟨a, e4, _, ⟨us, q2, q3⟩, _⟩ := h.own eo
                  rw [q1] at e4
                  cases e4
                  refine .lst (.inl (.inl (hide_some.mpr ⟨fun z => ?_, q2⟩))) (dpAll_mono up _ _ q3)
                  exact of_decide_eq_true (List.mem_filter.mp z).2 (mem_lentA hin' q1 eo)
                · rename_i d' eo
                  intro e1
                  cases e1
                  obtain ⟨x', e4, q2⟩ := h.slot eo
                  rw [q1] at e4
                  cases e4
                  exact dp_mono up _ _ q2
                · rename_i d' eo
                  intro e1
                  cases e1
                  obtain ⟨x', e4, q2, _⟩ := h.slotP eo
                  rw [q1] at e4
                  cases e4
                  exact dp_mono up _ _ q2
                · intro e1; cases e1
    exact key xs ccs ds hl (fun _ q => q) (fun _ q => q) tp1 hd
  · -- the answer
    cases hb : ccs.any C.isLn with
    | false =>
      have e0 := lentA_none (σ := σ) (ρ := ρ) hb
      refine r.congr fun a => ?_
      rw [e0]
      simp
    | true =>
      have hlst : ∀ a ∈ lentA σ ρ ccs, ∃ xs, H a = some (.lst xs) := fun a ha => by
        obtain ⟨i, t, zs, h1, h2, h3⟩ := lentA_mem ha
        obtain ⟨b, e4, _, ⟨us, q2, _⟩, _⟩ := h.own h3
        rw [h2] at e4
        cases e4
        exact ⟨us, q2⟩
      refine (NewRes.lent hlst e (hc hb) r).congr fun a => ?_
      simp only [List.mem_append, List.mem_filter, decide_not, Bool.not_eq_true', decide_eq_false_iff_not]
      constructor
      · rintro (q | ⟨q, _⟩)
        · obtain ⟨i, t, zs, h1, h2, h3⟩ := lentA_mem q
          obtain ⟨b, e4, q5, _⟩ := h.own h3
          rw [h2] at e4
          cases e4
          exact .inl (.inr q5)
        · exact q
      · intro q
        by_cases z : a ∈ lentA σ ρ ccs
        · exact .inl z
        · exact .inr ⟨q, z⟩
end
end DL

set_option Elab.async false
set_option linter.all false
set_option maxRecDepth 100000
set_option maxHeartbeats 4000000
/-! DL, expressions: each rule of the hand layer, said over data. -/
namespace DL
open PySem PySem.Spec PyProof.Rows L2

abbrev KC := C → Rho → Prop
abbrev KX := XD → Rho → Prop
abbrev WE := Rho → KC → KX → Prop
abbrev WT := Rho → (Bool → Rho → Prop) → KX → Prop
abbrev WA := Rho → (List C → Rho → Prop) → KX → Prop
def XRep (K : PySem.W.Frag) (B H : Hp) (x : XD) (cls : Value) (d : Option Addr) : Prop :=
  Value.ref (He.ga K x.cls) = cls ∧ ((d = none ∧ x.fs = []) ∨ (x.fs ≠ [] ∧ ∃ a fs, d = some a ∧ B a = some (.xd fs) ∧ XFs K B fs x.fs))
def XEnds (K : PySem.W.Frag) (g : G) (W : WX) (σ : L2.St) (ED : KX) : Prop :=
  ∀ x ρ' cls d H', SR K g σ [] H' ρ' [] → XRep K (hide H' (tot σ [] ρ' [] ++ g.P0)) H' x cls d → ED x ρ' → W cls d σ H'
def Sem (K : PySem.W.Frag) (g : G) (W : WX) (t : TE) (w : WE) : Prop :=
  ∀ (σ : L2.St) (vs : List V) (H : Hp) (ρ : Rho) (cs : List C) (QD : KC) (ED : KX) (Q : VK), SR K g σ vs H ρ cs → w ρ QD ED → XEnds K g W σ ED →
    (∀ v H' c ρ', SR K g σ (v :: vs) H' ρ' (c :: cs) → QD c ρ' → Q v H') → t σ H Q
def SemT (K : PySem.W.Frag) (g : G) (W : WX) (t : TT) (w : WT) : Prop :=
  ∀ (σ : L2.St) (vs : List V) (H : Hp) (ρ : Rho) (cs : List C) (QD : Bool → Rho → Prop) (ED : KX) (Q : Bool → Hp → Prop), SR K g σ vs H ρ cs → w ρ QD ED → XEnds K g W σ ED →
    (∀ b H' ρ', SR K g σ vs H' ρ' cs → QD b ρ' → Q b H') → t σ H Q
def SemA (K : PySem.W.Frag) (g : G) (W : WX) (t : TA) (w : WA) : Prop :=
  ∀ (σ : L2.St) (vs : List V) (H : Hp) (ρ : Rho) (cs : List C) (QD : List C → Rho → Prop) (ED : KX) (Q : List V → Hp → Prop), SR K g σ vs H ρ cs → w ρ QD ED → XEnds K g W σ ED →
    (∀ xs H' ccs ρ', xs.length = ccs.length → SR K g σ (xs ++ vs) H' ρ' (ccs ++ cs) → QD ccs ρ' → Q xs H') → t σ H Q
structure EE (X : Cx) (g : G) (W : WX) (e : Expr) (w : WE) : Prop where
  ex : ∃ t, PE X e t ∧ Sem X.K g W t w
structure ET (X : Cx) (g : G) (W : WX) (e : Expr) (w : WT) : Prop where
  ex : ∃ t, PT X e t ∧ SemT X.K g W t w
structure EW (X : Cx) (g : G) (W : WX) (e : Expr) (w : WT) : Prop where
  ex : ∃ t, PW X e t ∧ SemT X.K g W t w
structure EA (X : Cx) (g : G) (W : WX) (es : List Expr) (w : WA) : Prop where
  ex : ∃ t, PA X es t ∧ SemA X.K g W t w

@[reducible] def useK (ρ : Rho) : List C → (List D → Prop) → Prop
  | [], k => k []
  | c :: cs, k => match dat ρ c with
    | some d => useK ρ cs fun ds => k (d :: ds)
    | none => False
theorem useK_dats {ρ : Rho} : ∀ {cs : List C} {k : List D → Prop}, useK ρ cs k → ∃ ds, dats ρ cs = some ds ∧ k ds
  | [], k, h => ⟨[], rfl, h⟩
  | c :: cs, k, h => by
    unfold useK at h
    cases e : dat ρ c with
    | none => rw [e] at h; exact h.elim
    | some d =>
      rw [e] at h
      obtain ⟨ds, e2, q⟩ := useK_dats h
      refine ⟨d :: ds, ?_, q⟩
      unfold dats
      rw [e, e2]
@[reducible] def okR (cs : List C) (c : C) : Prop := cs.any C.isLn = true → c.lf = true
abbrev O2 := D → D → (C → Prop) → Prop
abbrev O1 := D → (C → Prop) → Prop
abbrev OL := List D → (C → Prop) → Prop
def Lift2 (K : PySem.W.Frag) (r : R2) (o : O2) : Prop :=
  ∀ (O : List Addr) (H : Hp) (x y : V) (dx dy : D) (QD : C → Prop) (Q : VK), (∀ a ∈ O, ∃ u, H a = some u) → Dp K (hide H O) x dx → Dp K (hide H O) y dy → o dx dy QD →
    (∀ v H' c, Same H H' → NewRes K O H H' v c → QD c → Q v H') → r x y H Q
def Lift1 (K : PySem.W.Frag) (r : V → Hp → VK → Prop) (o : O1) : Prop :=
  ∀ (O : List Addr) (H : Hp) (x : V) (dx : D) (QD : C → Prop) (Q : VK), (∀ a ∈ O, ∃ u, H a = some u) → Dp K (hide H O) x dx → o dx QD →
    (∀ v H' c, Same H H' → NewRes K O H H' v c → QD c → Q v H') → r x H Q
def LiftL (K : PySem.W.Frag) (r : List V → Hp → VK → Prop) (o : OL) : Prop :=
  ∀ (O : List Addr) (H : Hp) (xs : List V) (ds : List D) (QD : C → Prop) (Q : VK), (∀ a ∈ O, ∃ u, H a = some u) → DpAll K (hide H O) xs ds → o ds QD →
    (∀ v H' c, Same H H' → NewRes K O H H' v c → QD c → Q v H') → r xs H Q
@[reducible] def use2 (ρ : Rho) (c1 c2 : C) (o : O2) (Q : KC) : Prop := useK ρ [c2, c1] fun ds => match ds with
  | [d2, d1] => o d1 d2 fun c => okR [c2, c1] c ∧ Q c ρ
  | _ => False
@[reducible] def use1 (ρ : Rho) (c1 : C) (o : O1) (Q : KC) : Prop := useK ρ [c1] fun ds => match ds with
  | [d1] => o d1 fun c => okR [c1] c ∧ Q c ρ
  | _ => False
@[reducible] def useL (ρ : Rho) (cs : List C) (o : OL) (Q : KC) : Prop := useK ρ cs fun ds => o ds fun c => okR cs c ∧ Q c ρ

section
variable {K : PySem.W.Frag} {g : G} {W : WX} {σ : L2.St} {vs : List V} {H H' : Hp} {ρ : Rho} {cs : List C}
theorem SR.resV {v : V} {d : D} (h : SR K g σ vs H ρ cs) (e : Same H H') (r : Dp K (hide H' (tot σ vs ρ cs ++ g.P0)) v d) : SR K g σ (v :: vs) H' ρ (.v d :: cs) := SR.res (c := .v d) h e r
theorem SR.use2 {x y : V} {c1 c2 : C} {o : O2} {r : R2} {QD : KC} {Q : VK} (l : Lift2 K r o) (h : SR K g σ (y :: x :: vs) H ρ (c2 :: c1 :: cs)) (q : DL.use2 ρ c1 c2 o QD)
    (hQ : ∀ v H' c, SR K g σ (v :: vs) H' ρ (c :: cs) → QD c ρ → Q v H') : r x y H Q := by
  obtain ⟨ds, e, q⟩ := useK_dats q
  obtain ⟨O, hO, hd, fin⟩ := SR.use (xs := [y, x]) (ccs := [c2, c1]) h rfl e
  cases hd with
  | cons h2 hd =>
    cases hd with
    | cons h1 hd =>
      cases hd
      refine l O H x y _ _ _ Q (fun a ha => (SR.pops (xs := [y, x]) (ccs := [c2, c1]) rfl h).domO a (hO a ha)) h1 h2 q fun v H' c sm nr ⟨ok, qd⟩ => ?_
      exact hQ v H' c (SR.res (SR.pops (xs := [y, x]) (ccs := [c2, c1]) rfl h) sm (fin H' v c sm nr ok)) qd
theorem SR.use1 {x : V} {c1 : C} {o : O1} {r : V → Hp → VK → Prop} {QD : KC} {Q : VK} (l : Lift1 K r o) (h : SR K g σ (x :: vs) H ρ (c1 :: cs)) (q : DL.use1 ρ c1 o QD)
    (hQ : ∀ v H' c, SR K g σ (v :: vs) H' ρ (c :: cs) → QD c ρ → Q v H') : r x H Q := by
  obtain ⟨ds, e, q⟩ := useK_dats q
  obtain ⟨O, hO, hd, fin⟩ := SR.use (xs := [x]) (ccs := [c1]) h rfl e
  cases hd with
  | cons h1 hd =>
    cases hd
    refine l O H x _ _ Q (fun a ha => (SR.pops (xs := [x]) (ccs := [c1]) rfl h).domO a (hO a ha)) h1 q fun v H' c sm nr ⟨ok, qd⟩ => ?_
    exact hQ v H' c (SR.res (SR.pops (xs := [x]) (ccs := [c1]) rfl h) sm (fin H' v c sm nr ok)) qd
theorem SR.useL {xs : List V} {ccs : List C} {o : OL} {r : List V → Hp → VK → Prop} {QD : KC} {Q : VK} (l : LiftL K r o) (hl : xs.length = ccs.length) (h : SR K g σ (xs ++ vs) H ρ (ccs ++ cs)) (q : DL.useL ρ ccs o QD)
    (hQ : ∀ v H' c, SR K g σ (v :: vs) H' ρ (c :: cs) → QD c ρ → Q v H') : r xs H Q := by
  obtain ⟨ds, e, q⟩ := useK_dats q
  obtain ⟨O, hO, hd, fin⟩ := SR.use h hl e
  refine l O H xs ds _ Q (fun a ha => (SR.pops hl h).domO a (hO a ha)) hd q fun v H' c sm nr ⟨ok, qd⟩ => ?_
  exact hQ v H' c (SR.res (SR.pops hl h) sm (fin H' v c sm nr ok)) qd
end

/-! ### names, constants -/
@[reducible] def wVar (i : Nat) : WE := fun ρ Q _ => match rget ρ i with
  | .v d => Q (.v d) ρ
  | .p d => Q (.v d) ρ
  | _ => False
@[reducible] def wLn (i : Nat) : WE := fun ρ Q _ => match rget ρ i with
  | .v d => Q (.v d) ρ
  | .p d => Q (.v d) ρ
  | .own _ _ => Q (.ln i) ρ
  | _ => False
@[reducible] def wC (d : D) : WE := fun ρ Q _ => Q (.v d) ρ
section
variable {X : Cx} {g : G} {W : WX} {pos : Pos}
theorem sem_var {K : PySem.W.Frag} {i : Nat} : Sem K g W (tVar i) (wVar i) := by
  intro σ vs H ρ cs QD ED Q hS hw hX hQ
  unfold wVar at hw
  split at hw
  · rename_i d e
    obtain ⟨x, e1, q1⟩ := hS.slot e
    exact ⟨x, e1, hQ x H _ ρ (SR.resV hS (Same.refl H) q1) hw⟩
  · rename_i d e
    obtain ⟨x, e1, q1, _⟩ := hS.slotP e
    exact ⟨x, e1, hQ x H _ ρ (SR.resV hS (Same.refl H) q1) hw⟩
  · exact hw.elim
theorem ee_var {i : Nat} {x : Str} (h : PE X (.Name x pos) (tVar i)) : EE X g W (.Name x pos) (wVar i) := ⟨_, h, sem_var⟩
theorem SR.pushLn {K : PySem.W.Frag} {σ : L2.St} {vs : List V} {H : Hp} {ρ : Rho} {cs : List C} {i : Nat} {x : V} (h : SR K g σ vs H ρ cs) (e : σ[i]? = some (some x)) (hL : g.L i = true) : SR K g σ (x :: vs) H ρ (.ln i :: cs) := by
  have ft : tot σ (x :: vs) ρ (.ln i :: cs) = tot σ vs ρ cs := by
    rw [tot_cons]
    have e : footC (some x) (.ln i) = [] := by cases x <;> rfl
    rw [e]; rfl
  refine h.gen (fun _ _ _ q => q) (fun _ o q => ⟨o, q⟩) (fun a ha => .inl (by rw [ft] at ha; exact ha)) (by rw [ft]; exact h.nd) (fun hB => h.sl.mono hB fun _ _ _ q => q) (fun hB => ⟨⟨x, rfl, e⟩, h.tp.mono hB fun _ _ _ q => q⟩) (fun j hj => ?_)
  simp only [List.mem_cons] at hj
  rcases hj with (z | z) | (z | z)
  · cases z
  · exact h.pk j (.inl z)
  · cases z; exact hL
  · exact h.pk j (.inr z)
theorem SR.pushPk {K : PySem.W.Frag} {σ : L2.St} {vs : List V} {H : Hp} {ρ : Rho} {cs : List C} {i : Nat} {x : V} (h : SR K g σ vs H ρ cs) (e : σ[i]? = some (some x)) (hL : g.L i = true) : SR K g σ (x :: vs) H ρ (.pk i :: cs) := by
  have ft : tot σ (x :: vs) ρ (.pk i :: cs) = tot σ vs ρ cs := foot_cons_pk
  refine h.gen (fun _ _ _ q => q) (fun _ o q => ⟨o, q⟩) (fun a ha => .inl (by rw [ft] at ha; exact ha)) (by rw [ft]; exact h.nd) (fun hB => h.sl.mono hB fun _ _ _ q => q) (fun hB => ⟨⟨x, rfl, e⟩, h.tp.mono hB fun _ _ _ q => q⟩) (fun j hj => ?_)
  simp only [List.mem_cons] at hj
  rcases hj with (z | z) | (z | z)
  · cases z; exact hL
  · exact h.pk j (.inl z)
  · cases z
  · exact h.pk j (.inr z)
theorem sem_ln {K : PySem.W.Frag} {i : Nat} (hL : g.L i = true) : Sem K g W (tVar i) (wLn i) := by
  intro σ vs H ρ cs QD ED Q hS hw hX hQ
  unfold wLn at hw
  split at hw
  · rename_i d e
    obtain ⟨x, e1, q1⟩ := hS.slot e
    exact ⟨x, e1, hQ x H _ ρ (SR.resV hS (Same.refl H) q1) hw⟩
  · rename_i d e
    obtain ⟨x, e1, q1, _⟩ := hS.slotP e
    exact ⟨x, e1, hQ x H _ ρ (SR.resV hS (Same.refl H) q1) hw⟩
  · rename_i t o e
    obtain ⟨a, e1, _⟩ := hS.own e
    exact ⟨_, e1, hQ _ H _ ρ (hS.pushLn e1 hL) hw⟩
  · exact hw.elim
theorem ee_ln {i : Nat} {x : Str} (hL : g.L i = true) (h : PE X (.Name x pos) (tVar i)) : EE X g W (.Name x pos) (wLn i) := ⟨_, h, sem_ln hL⟩
theorem sem_C {K : PySem.W.Frag} {v : V} {d : D} (h : ∀ B, Dp K B v d) : Sem K g W (tC v) (wC d) := fun σ vs H ρ cs QD ED Q hS hw hX hQ => hQ v H _ ρ (SR.resV hS (Same.refl H) (h _)) hw
theorem ee_int {i j} : EE X g W (.Constant (.int i) j pos) (wC (.int i)) := ⟨_, pe_int, sem_C fun _ => .int i⟩
theorem ee_bl {b j} : EE X g W (.Constant (.bool b) j pos) (wC (.bool b)) := ⟨_, pe_bl, sem_C fun _ => .bl b⟩
theorem ee_non {j} : EE X g W (.Constant .none j pos) (wC .none) := ⟨_, pe_non, sem_C fun _ => .non⟩
theorem ee_str {x j} : EE X g W (.Constant (.str x) j pos) (wC (.str x)) := ⟨_, pe_str, sem_C fun _ => .str x⟩
theorem ee_gint {i : Int} {x : Str} {t : Tok} (hg : Gl X x) (hm : X.mg x = some (.int i t)) (hd : (x == ("__debug__" : Str)) = false := by decide) : EE X g W (.Name x pos) (wC (.int i)) := ⟨_, pe_glob (v := .int i) hg hm ⟨_, rfl⟩ hd, sem_C fun _ => .int i⟩
end

/-! ### operators -/
@[reducible] def wB (o : O2) (wa wb : WE) : WE := fun ρ Q E => wa ρ (fun c1 ρ1 => wb ρ1 (fun c2 ρ2 => use2 ρ2 c1 c2 o Q) E) E
@[reducible] def wU (o : O1) (wa : WE) : WE := fun ρ Q E => wa ρ (fun c1 ρ1 => use1 ρ1 c1 o Q) E
section
variable {K : PySem.W.Frag} {g : G} {W : WX} {ta tb : TE} {wa wb : WE} {r : R2} {o : O2}
theorem sem_op (l : Lift2 K r o) (ha : Sem K g W ta wa) (hb : Sem K g W tb wb) : Sem K g W (tOp r ta tb) (wB o wa wb) := by
  intro σ vs H ρ cs QD ED Q hS hw hX hQ
  refine ha σ vs H ρ cs _ ED _ hS hw hX fun x H1 c1 ρ1 S1 q1 => ?_
  refine hb σ (x :: vs) H1 ρ1 (c1 :: cs) _ ED _ S1 q1 hX fun y H2 c2 ρ2 S2 q2 => ?_
  exact S2.use2 l q2 fun v H' c S3 q3 => hQ v H' c ρ2 S3 q3
theorem sem_un {r : V → Hp → VK → Prop} {o : O1} (l : Lift1 K r o) (ha : Sem K g W ta wa) : Sem K g W (tUn r ta) (wU o wa) := by
  intro σ vs H ρ cs QD ED Q hS hw hX hQ
  refine ha σ vs H ρ cs _ ED _ hS hw hX fun x H1 c1 ρ1 S1 q1 => ?_
  exact S1.use1 l q1 fun v H' c S3 q3 => hQ v H' c ρ1 S3 q3
end
@[reducible] def oI (f : Int → Int → D) : O2 := fun d1 d2 k => match d1, d2 with
  | .int i, .int j => k (.v (f i j))
  | _, _ => False
@[reducible] def oIc (P : Int → Int → Prop) (f : Int → Int → D) : O2 := fun d1 d2 k => match d1, d2 with
  | .int i, .int j => P i j ∧ k (.v (f i j))
  | _, _ => False
@[simp] theorem oI_int {f : Int → Int → D} {i j : Int} {k : C → Prop} : oI f (.int i) (.int j) k = k (.v (f i j)) := rfl
@[simp] theorem oIc_int {P : Int → Int → Prop} {f : Int → Int → D} {i j : Int} {k : C → Prop} : oIc P f (.int i) (.int j) k = (P i j ∧ k (.v (f i j))) := rfl
theorem lift_I {K : PySem.W.Frag} {gv : Int → Int → V} {f : Int → Int → D} (h : ∀ i j B, Dp K B (gv i j) (f i j)) : Lift2 K (rI0 gv) (oI f) := by
  intro O H x y dx dy QD Q _ hx hy q fin
  cases hx <;> try exact q.elim
  cases hy <;> try exact q.elim
  exact ⟨_, _, rfl, rfl, fin _ H (.v _) (Same.refl H) (h _ _ _) q⟩
theorem lift_Ic {K : PySem.W.Frag} {P P' : Int → Int → Prop} {gv : Int → Int → V} {f : Int → Int → D} (hp : ∀ i j, P i j → P' i j) (h : ∀ i j B, Dp K B (gv i j) (f i j)) : Lift2 K (rI P' gv) (oIc P f) := by
  intro O H x y dx dy QD Q _ hx hy q fin
  cases hx <;> try exact q.elim
  cases hy <;> try exact q.elim
  exact ⟨_, _, rfl, rfl, hp _ _ q.1, fin _ H (.v _) (Same.refl H) (h _ _ _) q.2⟩
abbrev oAdd : O2 := oI fun i j => .int (i + j)
abbrev oSub : O2 := oI fun i j => .int (i - j)
def MulOk (i j : Int) : Prop := IntMulOk i j
abbrev oMul : O2 := oIc MulOk fun i j => .int (i * j)
abbrev oDiv : O2 := oIc CDivW fun i j => .int (i / j)
abbrev oMod : O2 := oIc (fun _ j => 0 < j) fun i j => .int (i % j)
abbrev oPow : O2 := oIc CPow fun i j => .int (i ^ j.toNat)
abbrev oLt : O2 := oI fun i j => .bool (decide (i < j))
abbrev oGt : O2 := oI fun i j => .bool (decide (j < i))
abbrev oGe : O2 := oI fun i j => .bool (decide (j ≤ i))
theorem op_mulX {X : Cx} : OpR X (binaryOp .Mult) (rI MulOk fun i j => .int (i * j)) := opI fun _ _ _ _ _ _ _ hc q => mul_int q hc
theorem MulOk.left {i j : Int} (h : -(2 ^ 64) < i ∧ i < 2 ^ 64) : MulOk i j := CMul.ok (.inl h)
theorem MulOk.right {i j : Int} (h : -(2 ^ 64) < j ∧ j < 2 ^ 64) : MulOk i j := CMul.ok (.inr h)
section
variable {X : Cx} {g : G} {W : WX} {a b : Expr} {wa wb : WE} {pos : Pos}
theorem ee_op {op : Operator} {r : R2} {o : O2} (ho : OpR X (binaryOp op) r) (l : Lift2 X.K r o) (ha : EE X g W a wa) (hb : EE X g W b wb) : EE X g W (.BinOp a op b pos) (wB o wa wb) := by
  obtain ⟨ta, p1, s1⟩ := ha.ex
  obtain ⟨tb, p2, s2⟩ := hb.ex
  exact ⟨_, pe_op ho p1 p2, sem_op l s1 s2⟩
theorem ee_add (ha : EE X g W a wa) (hb : EE X g W b wb) : EE X g W (.BinOp a .Add b pos) (wB oAdd wa wb) := ee_op op_add (lift_I fun i j _ => .int (i + j)) ha hb
theorem ee_sub (ha : EE X g W a wa) (hb : EE X g W b wb) : EE X g W (.BinOp a .Sub b pos) (wB oSub wa wb) := ee_op op_sub (lift_I fun i j _ => .int (i - j)) ha hb
theorem ee_mul (ha : EE X g W a wa) (hb : EE X g W b wb) : EE X g W (.BinOp a .Mult b pos) (wB oMul wa wb) := ee_op op_mulX (lift_Ic (fun _ _ h => h) fun i j _ => .int (i * j)) ha hb
theorem ee_div (ha : EE X g W a wa) (hb : EE X g W b wb) : EE X g W (.BinOp a .FloorDiv b pos) (wB oDiv wa wb) := ee_op op_fdivW (lift_Ic (fun _ _ h => h) fun i j _ => .int (i / j)) ha hb
theorem ee_mod (ha : EE X g W a wa) (hb : EE X g W b wb) : EE X g W (.BinOp a .Mod b pos) (wB oMod wa wb) := ee_op op_mod (lift_Ic (fun _ _ h => h) fun i j _ => .int (i % j)) ha hb
theorem ee_pow (ha : EE X g W a wa) (hb : EE X g W b wb) : EE X g W (.BinOp a .Pow b pos) (wB oPow wa wb) := ee_op op_pow (lift_Ic (fun _ _ h => h) fun i j _ => .int (i ^ j.toNat)) ha hb
end
/-! ### comparisons -/
@[reducible] def oEq : O2 := fun d1 d2 k => SeqAt.shaped d1 = true ∧ SeqAt.shaped d2 = true ∧ k (.v (.bool (PyData.eqv d1 d2)))
@[reducible] def oNe : O2 := fun d1 d2 k => SeqAt.shaped d1 = true ∧ SeqAt.shaped d2 = true ∧ k (.v (.bool (!PyData.eqv d1 d2)))
theorem dp_hide {K : PySem.W.Frag} {H : Hp} {O : List Addr} {v : V} {d : D} (h : Dp K (hide H O) v d) : Dp K H v d := dp_mono (fun _ _ e => (hide_some.mp e).2) _ _ h
theorem lift_eq {K : PySem.W.Frag} : Lift2 K (rEqD K) oEq := fun O H x y dx dy QD Q _ hx hy q fin =>
  ⟨dx, dy, dp_hide hx, dp_hide hy, q.1, q.2.1, fin _ H (.v _) (Same.refl H) (.bl _) q.2.2⟩
theorem lift_ne {K : PySem.W.Frag} : Lift2 K (rNeD K) oNe := fun O H x y dx dy QD Q _ hx hy q fin =>
  ⟨dx, dy, dp_hide hx, dp_hide hy, q.1, q.2.1, fin _ H (.v _) (Same.refl H) (.bl _) q.2.2⟩
@[reducible] def oIsN : O1 := fun d k => k (.v (.bool (match d with
  | .none => true
  | _ => false)))
@[reducible] def oNotN : O1 := fun d k => k (.v (.bool (match d with
  | .none => false
  | _ => true)))
section
variable {X : Cx} {g : G} {W : WX} {a b c : Expr} {wa wb wc : WE} {pos : Pos}
theorem ee_cmp {op : CmpOp} {r : R2} {o : O2} (ho : OpR X (compareOp op) r) (l : Lift2 X.K r o) (ha : EE X g W a wa) (hb : EE X g W b wb) (hm : behindInMarks op b = false) : EE X g W (.Compare a [op] [b] pos) (wB o wa wb) := by
  obtain ⟨ta, p1, s1⟩ := ha.ex
  obtain ⟨tb, p2, s2⟩ := hb.ex
  exact ⟨_, pe_cmpR ho p1 p2 hm, sem_op l s1 s2⟩
theorem ee_lt (ha : EE X g W a wa) (hb : EE X g W b wb) : EE X g W (.Compare a [.Lt] [b] pos) (wB oLt wa wb) := ee_cmp op_lt (lift_I fun i j _ => .bl _) ha hb (nomark _)
theorem ee_ge (ha : EE X g W a wa) (hb : EE X g W b wb) : EE X g W (.Compare a [.GtE] [b] pos) (wB oGe wa wb) := ee_cmp op_ge (lift_I fun i j _ => .bl _) ha hb (nomark _)
theorem ee_eq (hu : X.A.units + 64 < cLine) (ha : EE X g W a wa) (hb : EE X g W b wb) : EE X g W (.Compare a [.Eq] [b] pos) (wB oEq wa wb) := ee_cmp (op_eqD hu) lift_eq ha hb (nomark _)
@[reducible] def wCh (o o' : O2) (wa wb wc : WE) : WE := fun ρ Q E => wa ρ (fun c1 ρ1 => wb ρ1 (fun c2 ρ2 => useK ρ2 [c2, c1] fun ds => match ds with
  | [d2, d1] => [c2, c1].any C.isLn = false ∧ o d1 d2 fun cr => match cr with
    | .v (.bool k) => if k = true then wc ρ2 (fun c3 ρ3 => useK ρ3 [c3] fun es => match es with
      | [d3] => [c3].any C.isLn = false ∧ o' d2 d3 fun c => Q c ρ3
      | _ => False) E else Q (.v (.bool false)) ρ2
    | _ => False
  | _ => False) E) E
end
theorem SR.frzAt {K : PySem.W.Frag} {g : G} {σ : L2.St} {vs : List V} {H : Hp} {ρ : Rho} {cs : List C} {x : V} {c : C} {d : D} (h : SR K g σ (x :: vs) H ρ (c :: cs)) (e : dat ρ c = some d) (hn : c.isLn = false) : SR K g σ (x :: vs) H ρ (.v d :: cs) := by
  obtain ⟨O, _, hd, fin⟩ := SR.use (xs := [x]) (ccs := [c]) (ds := [d]) h rfl (by unfold dats; rw [e]; rfl)
  have e0 : lentA σ ρ [c] = [] := lentA_none (by simp [hn])
  refine SR.res h.pop (Same.refl H) ?_
  cases hd with
  | cons h1 _ =>
    exact fin H x (.v d) (Same.refl H) h1 (fun z => by simp [hn] at z)
section
variable {K : PySem.W.Frag} {g : G} {W : WX} {ta tb tc : TE} {wa wb wc : WE} {r r' : R2} {o o' : O2}
theorem sem_chain (l : Lift2 K r o) (l' : Lift2 K r' o') (hr : ∀ x y H Q Q', (∀ z H', Q z H' → Q' z H') → r x y H Q → r x y H Q') (ha : Sem K g W ta wa) (hb : Sem K g W tb wb) (hc : Sem K g W tc wc) : Sem K g W (tChain r r' ta tb tc) (wCh o o' wa wb wc) := by
  intro σ vs H ρ cs QD ED Q hS hw hX hQ
  refine ha σ vs H ρ cs _ ED _ hS hw hX fun x H1 c1 ρ1 S1 q1 => ?_
  refine hb σ (x :: vs) H1 ρ1 (c1 :: cs) _ ED _ S1 q1 hX fun y H2 c2 ρ2 S2 q2 => ?_
  obtain ⟨ds, e, q⟩ := useK_dats q2
  cases e1 : dat ρ2 c1 with
  | none => simp [dats, e1] at e
  | some d1 =>
    cases e2 : dat ρ2 c2 with
    | none => simp [dats, e2] at e
    | some d2 =>
      have e' : ds = [d2, d1] := by simpa [dats, e1, e2] using e.symm
      subst e'
      obtain ⟨nl, q⟩ := q
      have n2 : c2.isLn = false ∧ c1.isLn = false := by simpa using nl
      have S3 : SR K g σ (y :: x :: vs) H2 ρ2 (.v d2 :: c1 :: cs) := S2.frzAt e2 n2.1
      have S4 : SR K g σ (x :: y :: vs) H2 ρ2 (.v d1 :: .v d2 :: cs) := SR.frzAt (SR.rot (xs := [y]) (ccs := [.v d2]) rfl S3) e1 n2.2
      have hx : Dp K (hide H2 (tot σ (y :: vs) ρ2 (.v d2 :: cs) ++ g.P0)) x d1 := S4.top
      have hy : Dp K (hide H2 (tot σ (y :: vs) ρ2 (.v d2 :: cs) ++ g.P0)) y d2 := by
        have q := S4.pop.top
        rw [foot_cons_v]; exact q
      refine l _ H2 x y d1 d2 _ _ S4.pop.domO hx hy q fun z H3 c sm nr qd => ?_
      split at qd
      · rename_i k
        cases nr
        have S5 : SR K g σ (y :: vs) H3 ρ2 (.v d2 :: cs) := S4.pop.grow sm
        refine ⟨k, rfl, ?_⟩
        cases k with
        | false =>
          rw [if_neg Bool.false_ne_true] at qd ⊢
          exact hQ _ H3 _ ρ2 (SR.resV S5.pop (Same.refl H3) (.bl false)) qd
        | true =>
          rw [if_pos rfl] at qd ⊢
          refine hc σ (y :: vs) H3 ρ2 (.v d2 :: cs) _ ED _ S5 qd hX fun w' H4 c3 ρ3 S6 q6 => ?_
          obtain ⟨es, e3, q6⟩ := useK_dats q6
          cases e4 : dat ρ3 c3 with
          | none => simp [dats, e4] at e3
          | some d3 =>
            have e5 : es = [d3] := by simpa [dats, e4] using e3.symm
            subst e5
            obtain ⟨nl3, q6⟩ := q6
            have S7 : SR K g σ (w' :: y :: vs) H4 ρ3 (.v d3 :: .v d2 :: cs) := S6.frzAt e4 (by simpa using nl3)
            have hw' : Dp K (hide H4 (tot σ vs ρ3 cs ++ g.P0)) w' d3 := by
              have q := S7.top
              rw [foot_cons_v] at q; exact q
            refine l' _ H4 y w' d2 d3 _ _ S7.pop.pop.domO S7.pop.top hw' q6 fun z H5 c sm nr qd => ?_
            exact hQ z H5 c ρ3 (SR.res S7.pop.pop sm nr) qd
      · exact qd.elim
end
section
variable {X : Cx} {g : G} {W : WX} {a b c : Expr} {wa wb wc : WE} {pos : Pos}
theorem rI0_mono {gv : Int → Int → V} : ∀ x y H Q Q', (∀ z H', Q z H' → Q' z H') → rI0 gv x y H Q → rI0 gv x y H Q' := fun x y H Q Q' h ⟨i, j, e1, e2, q⟩ => ⟨i, j, e1, e2, h _ _ q⟩
end
/-! ### tests -/
@[reducible] def wTst (w : WE) : WT := fun ρ Q E => w ρ (fun c ρ1 => match c with
  | .v (.bool b) => Q b ρ1
  | _ => False) E
@[reducible] def wAnd (wt wu : WT) : WT := fun ρ Q E => wt ρ (fun b ρ1 => if b = true then wu ρ1 Q E else Q false ρ1) E
@[reducible] def wNot (wt : WT) : WT := fun ρ Q E => wt ρ (fun b ρ1 => Q (!b) ρ1) E
section
variable {K : PySem.W.Frag} {g : G} {W : WX}
theorem sem_tst {t : TE} {w : WE} (h : Sem K g W t w) : SemT K g W (tTest t) (wTst w) := by
  intro σ vs H ρ cs QD ED Q hS hw hX hQ
  refine h σ vs H ρ cs _ ED _ hS hw hX fun x H1 c1 ρ1 S1 q1 => ?_
  split at q1
  · rename_i b
    have e := S1.top
    cases e
    exact ⟨b, rfl, hQ b H1 ρ1 S1.pop q1⟩
  · exact q1.elim
theorem sem_and {t u : TT} {wt wu : WT} (h : SemT K g W t wt) (h' : SemT K g W u wu) : SemT K g W (tAnd t u) (wAnd wt wu) := by
  intro σ vs H ρ cs QD ED Q hS hw hX hQ
  refine h σ vs H ρ cs _ ED _ hS hw hX fun b H1 ρ1 S1 q1 => ?_
  cases b with
  | true => exact h' σ vs H1 ρ1 cs QD ED Q S1 q1 hX hQ
  | false => exact hQ false H1 ρ1 S1 q1
theorem sem_not {t : TT} {wt : WT} (h : SemT K g W t wt) : SemT K g W (tNot t) (wNot wt) := by
  intro σ vs H ρ cs QD ED Q hS hw hX hQ
  exact h σ vs H ρ cs _ ED _ hS hw hX fun b H1 ρ1 S1 q1 => hQ _ H1 ρ1 S1 q1
end
section
variable {X : Cx} {g : G} {W : WX} {a b c : Expr} {rest : List Expr} {wa wb wc : WE} {wt wu : WT} {pos : Pos}
theorem et_val (h : EE X g W a wa) (he : ∀ whole, isTrue a X.env whole = (do let v ← whole; standAt a.pos; holding [v] (truthy v)) := by intro _; rfl) : ET X g W a (wTst wa) := by
  obtain ⟨t, p, s⟩ := h.ex
  exact ⟨_, pt_val p he, sem_tst s⟩
theorem et_cmp {op : CmpOp} {r : R2} {o : O2} (ho : OpR X (compareOp op) r) (l : Lift2 X.K r o) (ha : EE X g W a wa) (hb : EE X g W b wb) (hm : behindInMarks op b = false) : ET X g W (.Compare a [op] [b] pos) (wTst (wB o wa wb)) := by
  obtain ⟨ta, p1, s1⟩ := ha.ex
  obtain ⟨tb, p2, s2⟩ := hb.ex
  exact ⟨_, pt_cmpR ho p1 p2 hm, sem_tst (sem_op l s1 s2)⟩
theorem et_lt (ha : EE X g W a wa) (hb : EE X g W b wb) : ET X g W (.Compare a [.Lt] [b] pos) (wTst (wB oLt wa wb)) := et_cmp op_lt (lift_I fun i j _ => .bl _) ha hb (nomark _)
theorem et_gt (ha : EE X g W a wa) (hb : EE X g W b wb) : ET X g W (.Compare a [.Gt] [b] pos) (wTst (wB oGt wa wb)) := et_cmp op_gt (lift_I fun i j _ => .bl _) ha hb (nomark _)
theorem et_eq (hu : X.A.units + 64 < cLine) (ha : EE X g W a wa) (hb : EE X g W b wb) : ET X g W (.Compare a [.Eq] [b] pos) (wTst (wB oEq wa wb)) := et_cmp (op_eqD hu) lift_eq ha hb (nomark _)
theorem et_ne (hu : X.A.units + 64 < cLine) (ha : EE X g W a wa) (hb : EE X g W b wb) : ET X g W (.Compare a [.NotEq] [b] pos) (wTst (wB oNe wa wb)) := et_cmp (op_neD hu) lift_ne ha hb (nomark _)
theorem et_chain {op op' : CmpOp} {f f' : Int → Int → Bool} (ho : OpR X (compareOp op) (rI0 fun i j => .bl (f i j))) (ho' : OpR X (compareOp op') (rI0 fun i j => .bl (f' i j))) (ha : EE X g W a wa) (hb : EE X g W b wb) (hc : EE X g W c wc)
    (hm : lastMarks [op, op'] [b, c] = false := by with_unfolding_all rfl) : ET X g W (.Compare a [op, op'] [b, c] pos) (wTst (wCh (oI fun i j => .bool (f i j)) (oI fun i j => .bool (f' i j)) wa wb wc)) := by
  obtain ⟨ta, p1, s1⟩ := ha.ex
  obtain ⟨tb, p2, s2⟩ := hb.ex
  obtain ⟨tc, p3, s3⟩ := hc.ex
  exact ⟨_, pt_chain ho ho' p1 p2 p3 hm, sem_tst (sem_chain (lift_I fun i j _ => .bl _) (lift_I fun i j _ => .bl _) rI0_mono s1 s2 s3)⟩
theorem et_isN {j pos'} (ha : EE X g W a wa) : ET X g W (.Compare a [.Is] [.Constant .none j pos'] pos) (wTst (wU oIsN wa)) := by
  obtain ⟨ta, p1, s1⟩ := ha.ex
  refine ⟨_, pt_cmp (pc_isN p1), ?_⟩
  refine sem_tst (t := tIsN ta) fun σ vs H ρ cs QD ED Q hS hw hX hQ => ?_
  refine s1 σ vs H ρ cs _ ED _ hS hw hX fun x H1 c1 ρ1 S1 q1 => ?_
  refine S1.use1 (r := fun x H Q => Q (.bl (decide (x = .non))) H) (fun O H x dx QD Q _ hx q fin => ?_) q1 fun v H' c S3 q3 => hQ v H' c ρ1 S3 q3
  refine fin _ H (.v _) (Same.refl H) ?_ q
  cases hx <;> exact .bl _
theorem et_notN {j pos'} (ha : EE X g W a wa) : ET X g W (.Compare a [.IsNot] [.Constant .none j pos'] pos) (wTst (wU oNotN wa)) := by
  obtain ⟨ta, p1, s1⟩ := ha.ex
  refine ⟨_, pt_cmp (pc_notN p1), ?_⟩
  refine sem_tst (t := tNotN ta) fun σ vs H ρ cs QD ED Q hS hw hX hQ => ?_
  refine s1 σ vs H ρ cs _ ED _ hS hw hX fun x H1 c1 ρ1 S1 q1 => ?_
  refine S1.use1 (r := fun x H Q => Q (.bl (!decide (x = .non))) H) (fun O H x dx QD Q _ hx q fin => ?_) q1 fun v H' c S3 q3 => hQ v H' c ρ1 S3 q3
  refine fin _ H (.v _) (Same.refl H) ?_ q
  cases hx <;> exact .bl _
theorem ew_and1 (h : ET X g W a wt) : EW X g W (.BoolOp .And [a] pos) wt := by
  obtain ⟨t, p, s⟩ := h.ex
  exact ⟨_, pw_and1 p, s⟩
theorem ew_and (h : ET X g W a wt) (h' : EW X g W (.BoolOp .And (b :: rest) pos) wu) : EW X g W (.BoolOp .And (a :: b :: rest) pos) (wAnd wt wu) := by
  obtain ⟨t, p, s⟩ := h.ex
  obtain ⟨t', p', s'⟩ := h'.ex
  exact ⟨_, pw_and p p', sem_and s s'⟩
theorem et_w (h : EW X g W a wt) : ET X g W a wt := by
  obtain ⟨t, p, s⟩ := h.ex
  exact ⟨_, p.pt, s⟩
theorem et_not (h : ET X g W a wt) : ET X g W (.UnaryOp .Not a pos) (wNot wt) := by
  obtain ⟨t, p, s⟩ := h.ex
  exact ⟨_, pt_not p, sem_not s⟩
end
end DL

set_option Elab.async false
set_option linter.all false
set_option maxRecDepth 100000
set_option maxHeartbeats 4000000
/-! DL, arguments and calls; slots emptied and filled. -/
namespace DL
open PySem PySem.Spec PyProof.Rows L2

/-! ### slots -/
theorem rget_rset : ∀ {ρ : Rho} {i : Nat} {c : C}, i < ρ.length → rget (rset ρ i c) i = c
  | [], _, _, h => by simp at h
  | _ :: _, 0, _, _ => rfl
  | _ :: ρ, i + 1, c, h => rget_rset (ρ := ρ) (i := i) (by simpa using h)
theorem rset_rset : ∀ {ρ : Rho} {i : Nat} {c c' : C}, rset (rset ρ i c) i c' = rset ρ i c'
  | [], _, _, _ => rfl
  | _ :: _, 0, _, _ => rfl
  | _ :: ρ, i + 1, c, c' => by show _ :: rset (rset ρ i c) i c' = _ :: rset ρ i c'; rw [rset_rset]
theorem rset_len : ∀ {ρ : Rho} {i : Nat} {c : C}, (rset ρ i c).length = ρ.length
  | [], _, _ => rfl
  | _ :: _, 0, _ => rfl
  | _ :: ρ, i + 1, c => by show (rset ρ i c).length + 1 = ρ.length + 1; rw [rset_len]
theorem rget_lt : ∀ {ρ : Rho} {i : Nat}, rget ρ i ≠ .no → i < ρ.length
  | [], _, h => absurd rfl h
  | _ :: _, 0, _ => by simp
  | _ :: ρ, i + 1, h => by have := rget_lt (ρ := ρ) (i := i) h; simpa using this
theorem footC_no (v : Option V) : footC v .no = [] := by
  cases v with
  | none => rfl
  | some x => cases x <;> rfl
theorem footC_v (v : Option V) (d : D) : footC v (.v d) = [] := by
  cases v with
  | none => rfl
  | some x => cases x <;> rfl
theorem foot_clear : ∀ {σ : List (Option V)} {ρ : Rho} {i : Nat}, (foot σ (rset ρ i .no)).Sublist (foot σ ρ)
  | [], ρ, _ => by
    have e : ∀ r : Rho, foot [] r = [] := fun r => by cases r <;> rfl
    rw [e, e]; exact List.Sublist.slnil
  | _ :: _, [], _ => List.Sublist.refl _
  | v :: σ, c :: ρ, 0 => by
    show (footC v .no ++ foot σ ρ).Sublist (footC v c ++ foot σ ρ)
    rw [footC_no]
    exact List.sublist_append_right _ _
  | v :: σ, c :: ρ, i + 1 => by
    show (footC v c ++ foot σ (rset ρ i .no)).Sublist (footC v c ++ foot σ ρ)
    exact (foot_clear (i := i)).append_left _
theorem foot_out : ∀ {σ : List (Option V)} {ρ : Rho} {i : Nat} {a : Addr} {t : Nat} {o : OD}, σ[i]? = some (some (.ref a)) → rget ρ i = .own t o → (foot σ ρ).Perm (o.fp a ++ foot σ (rset ρ i .no))
  | [], _, _, _, _, _, h, _ => by simp at h
  | _ :: _, [], _, _, _, _, _, h => by cases h
  | v :: σ, c :: ρ, 0, a, t, o, h, h2 => by
    have e1 : v = some (.ref a) := by simpa using h
    have e2 : c = .own t o := h2
    subst e1; subst e2
    show (o.fp a ++ foot σ ρ).Perm (o.fp a ++ (footC (some (.ref a)) .no ++ foot σ ρ))
    rw [footC_no]
    exact List.Perm.refl _
  | v :: σ, c :: ρ, i + 1, a, t, o, h, h2 => by
    show (footC v c ++ foot σ ρ).Perm (o.fp a ++ (footC v c ++ foot σ (rset ρ i .no)))
    refine (List.Perm.append_left _ (foot_out (i := i) (by simpa using h) h2)).trans ?_
    exact List.perm_append_comm_assoc _ _ _
theorem foot_in : ∀ {σ : List (Option V)} {ρ : Rho} {i : Nat} {x : V} {c : C}, σ[i]? = some (some x) → i < ρ.length → rget ρ i = .no → (foot σ (rset ρ i c)).Perm (footC (some x) c ++ foot σ ρ)
  | [], _, _, _, _, h, _, _ => by simp at h
  | _ :: _, [], _, _, _, _, h, _ => by simp at h
  | v :: σ, c' :: ρ, 0, x, c, h, _, h2 => by
    have e1 : v = some x := by simpa using h
    have e2 : c' = .no := h2
    subst e1; subst e2
    show (footC (some x) c ++ foot σ ρ).Perm (footC (some x) c ++ (footC (some x) .no ++ foot σ ρ))
    rw [footC_no]
    exact List.Perm.refl _
  | v :: σ, c' :: ρ, i + 1, x, c, h, hl, h2 => by
    show (footC v c' ++ foot σ (rset ρ i c)).Perm (footC (some x) c ++ (footC v c' ++ foot σ ρ))
    refine (List.Perm.append_left _ (foot_in (i := i) (by simpa using h) (by simpa using hl) h2)).trans ?_
    exact List.perm_append_comm_assoc _ _ _
theorem foot_setNo : ∀ {σ : List (Option V)} {ρ : Rho} {i : Nat} {v : Option V}, rget ρ i = .no → foot (σ.set i v) ρ = foot σ ρ
  | [], _, _, _, _ => by simp
  | _ :: _, [], 0, _, _ => rfl
  | _ :: _, [], _ + 1, _, _ => rfl
  | v' :: σ, c :: ρ, 0, v, h => by
    have e : c = .no := h
    subst e
    show footC v .no ++ foot σ ρ = footC v' .no ++ foot σ ρ
    rw [footC_no, footC_no]
  | v' :: σ, c :: ρ, i + 1, v, h => by
    show footC v' c ++ foot (σ.set i v) ρ = footC v' c ++ foot σ ρ
    rw [foot_setNo (i := i) h]
section
variable {K : PySem.W.Frag} {g : G} {s : L2.St} {B H : Hp}
theorem RCs.rset : ∀ {σ : List (Option V)} {ρ : Rho} {i : Nat} {c : C} {ov : Option V}, RCs K g s B H σ ρ → σ[i]? = some ov → RC K g s B H ov c → RCs K g s B H σ (DL.rset ρ i c)
  | [], [], _, _, _, _, h, _ => by simp at h
  | v :: σ, c' :: ρ, 0, c, ov, h, e, q => by
    have e1 : v = ov := by simpa using e
    subst e1
    exact ⟨q, h.2⟩
  | v :: σ, c' :: ρ, i + 1, c, ov, h, e, q => ⟨h.1, RCs.rset (i := i) h.2 (by simpa using e) q⟩
  | [], _ :: _, _, _, _, h, _, _ => h.elim
  | _ :: _, [], _, _, _, h, _, _ => h.elim
theorem RCs.rsetNo : ∀ {σ : List (Option V)} {ρ : Rho} {i : Nat}, RCs K g s B H σ ρ → RCs K g s B H σ (DL.rset ρ i .no)
  | [], [], _, h => h
  | v :: σ, c' :: ρ, 0, h => ⟨trivial, h.2⟩
  | v :: σ, c' :: ρ, i + 1, h => ⟨h.1, RCs.rsetNo (i := i) h.2⟩
  | [], _ :: _, _, h => h.elim
  | _ :: _, [], _, h => h.elim
theorem RCs.setNo : ∀ {σ : List (Option V)} {ρ : Rho} {i : Nat} {v : Option V}, RCs K g s B H σ ρ → rget ρ i = .no → RCs K g s B H (σ.set i v) ρ
  | [], [], _, _, h, _ => h
  | _ :: _, c :: ρ, 0, v, h, e => by
    have e1 : c = .no := e
    subst e1
    exact ⟨trivial, h.2⟩
  | _ :: _, c' :: ρ, i + 1, v, h, e => ⟨h.1, RCs.setNo (i := i) h.2 e⟩
  | [], _ :: _, _, _, h, _ => h.elim
  | _ :: _, [], _, _, h, _ => h.elim
theorem RCs.slots {σ σ' : L2.St} : ∀ {vs : List (Option V)} {cs : List C}, (∀ j, (C.pk j ∈ cs ∨ C.ln j ∈ cs) → σ'[j]? = σ[j]?) → RCs K g σ B H vs cs → RCs K g σ' B H vs cs
  | [], [], _, h => h
  | v :: vs, c :: cs, hj, h => by
    refine ⟨?_, RCs.slots (fun j q => hj j (q.imp (List.mem_cons_of_mem _) (List.mem_cons_of_mem _))) h.2⟩
    have q := h.1
    cases c with
    | no => trivial
    | v d => exact q
    | p d => exact q
    | own t o => exact q
    | pk i =>
      obtain ⟨x, e1, e2⟩ := q
      exact ⟨x, e1, (hj i (.inl List.mem_cons_self)).trans e2⟩
    | ln i =>
      obtain ⟨x, e1, e2⟩ := q
      exact ⟨x, e1, (hj i (.inr List.mem_cons_self)).trans e2⟩
    | sub i p k => exact q
  | [], _ :: _, _, h => h.elim
  | _ :: _, [], _, h => h.elim
end
section
variable {K : PySem.W.Frag} {g : G} {σ σ' : L2.St} {vs vs' : List V} {H H' : Hp} {ρ ρ' : Rho} {cs cs' : List C} {i : Nat}
theorem SR.clear (h : SR K g σ vs H ρ cs) (i : Nat) : SR K g σ vs H (rset ρ i .no) cs := by
  have sl : (tot σ vs (rset ρ i .no) cs).Sublist (tot σ vs ρ cs) := foot_clear.append_left _
  exact h.gen (fun _ _ _ q => q) (fun _ o q => ⟨o, q⟩) (fun a ha => .inl (sl.subset ha)) (sl.nodup h.nd) (fun hB => (h.sl.mono hB fun _ _ _ q => q).rsetNo) (fun hB => h.tp.mono hB fun _ _ _ q => q) h.pk
theorem SR.setNo (h : SR K g σ vs H ρ cs) (e : rget ρ i = .no) (hj : ∀ j, (C.pk j ∈ cs ∨ C.ln j ∈ cs) → j ≠ i) (v : Option V) : SR K g (σ.set i v) vs H ρ cs := by
  have ft : tot (σ.set i v) vs ρ cs = tot σ vs ρ cs := by
    show foot (vs.map some) cs ++ foot (σ.set i v) ρ = _
    rw [foot_setNo e]
  refine h.gen (fun _ _ _ q => q) (fun _ o q => ⟨o, q⟩) (fun a ha => .inl (by rw [ft] at ha; exact ha)) (by rw [ft]; exact h.nd) (fun hB => (h.sl.mono hB fun _ _ _ q => q).setNo e) (fun hB => ?_) h.pk
  exact (h.tp.mono hB fun _ _ _ q => q).slots fun j q => List.getElem?_set_ne (hj j q).symm
@[reducible] def C.plain : C → Bool
  | .v _ => true
  | .p _ => true
  | .own _ _ => true
  | _ => false
theorem RC.plainσ {B : Hp} {ov : Option V} {c : C} (hc : c.plain = true) (h : RC K g σ B H ov c) : RC K g σ' B H ov c := by
  cases c with
  | v d => exact h
  | p d => exact h
  | own t o => exact h
  | no => cases hc
  | pk i => cases hc
  | ln i => cases hc
  | sub i p k => cases hc
theorem SR.moveIn {x : V} {c : C} (h : SR K g σ (x :: vs) H ρ (c :: cs)) (hc : c.plain = true) (e1 : σ[i]? = some (some x)) (e2 : rget ρ i = .no) : SR K g σ vs H (rset ρ i c) cs := by
  have hl : i < ρ.length := by
    rw [← h.len]; exact (List.getElem?_eq_some_iff.mp e1).1
  have pm : (tot σ vs (rset ρ i c) cs).Perm (tot σ (x :: vs) ρ (c :: cs)) := by
    rw [tot_cons]
    exact (List.Perm.append_left _ (foot_in e1 hl e2)).trans (List.perm_append_comm_assoc _ _ _)
  refine h.gen (fun _ _ _ q => q) (fun _ o q => ⟨o, q⟩) (fun a ha => .inl (pm.mem_iff.mp ha)) (pm.nodup_iff.mpr h.nd) (fun hB => ?_) (fun hB => (RCs.mono hB (fun _ _ _ q => q) h.tp).2) fun j q => h.pk j (q.imp (List.mem_cons_of_mem _) (List.mem_cons_of_mem _))
  refine (h.sl.mono hB fun _ _ _ q => q).rset e1 ?_
  exact (RCs.mono hB (fun _ _ _ q => q) h.tp).1.plainσ hc
theorem SR.assign {x : V} {c : C} (h : SR K g σ (x :: vs) H ρ (c :: cs)) (hc : c.plain = true) (hi : i < σ.length) (hj : ∀ j, (C.pk j ∈ cs ∨ C.ln j ∈ cs) → j ≠ i) : SR K g (σ.set i (some x)) vs H (rset ρ i c) cs := by
  have hl : i < ρ.length := by rw [← h.len]; exact hi
  have h1 := h.clear i
  have h2 := h1.setNo (i := i) (rget_rset hl) (fun j q => hj j ?_) (some x)
  · have h3 := h2.moveIn (i := i) hc (List.getElem?_set_self hi) (rget_rset hl)
    rw [rset_rset] at h3
    exact h3
  · have n1 : C.pk j ≠ c := fun z => by rw [← z] at hc; cases hc
    have n2 : C.ln j ≠ c := fun z => by rw [← z] at hc; cases hc
    rcases q with q | q
    · exact .inl ((List.mem_cons.mp q).resolve_left n1)
    · exact .inr ((List.mem_cons.mp q).resolve_left n2)
theorem SR.moveOut {x : V} {t : Nat} {o : OD} (h : SR K g σ (x :: vs) H ρ (.pk i :: cs)) (e : rget ρ i = .own t o) : σ[i]? = some (some x) ∧ SR K g σ (x :: vs) H (rset ρ i .no) (.own t o :: cs) := by
  obtain ⟨x', ex, e1⟩ := h.tp.1
  cases ex
  obtain ⟨a, e2, q1, q2, q3⟩ := h.own e
  rw [e1] at e2
  cases e2
  refine ⟨e1, ?_⟩
  have pm : (tot σ (.ref a :: vs) (rset ρ i .no) (.own t o :: cs)).Perm (tot σ (.ref a :: vs) ρ (.pk i :: cs)) := by
    rw [foot_cons_pk]
    rw [foot_cons_own]
    show (o.fp a ++ (foot (vs.map some) cs ++ foot σ (rset ρ i .no))).Perm (foot (vs.map some) cs ++ foot σ ρ)
    exact (List.perm_append_comm_assoc _ _ _).trans (List.Perm.append_left _ (foot_out e1 e).symm)
  refine h.gen (fun _ _ _ q => q) (fun _ o q => ⟨o, q⟩) (fun a ha => .inl (pm.mem_iff.mp ha)) (pm.nodup_iff.mpr h.nd) (fun hB => (h.sl.mono hB fun _ _ _ q => q).rsetNo) (fun hB => ?_) fun j q => h.pk j ?_
  · exact ⟨⟨a, rfl, q2.mono hB fun _ _ _ q => q, q3.1, q3.2⟩, (RCs.mono hB (fun _ _ _ q => q) h.tp).2⟩
  · simp only [List.mem_cons] at q ⊢
    rcases q with (z | z) | (z | z)
    · cases z
    · exact .inl (.inr z)
    · cases z
    · exact .inr (.inr z)
@[reducible] def frzC : C → C
  | .own _ (.lst ds) => .v (.list ds)
  | .p d => .v d
  | c => c
@[reducible] def frzs : List C → List C
  | [] => []
  | c :: cs => frzC c :: frzs cs
theorem frzs_eq : ∀ {cs : List C}, frzs cs = cs.map frzC
  | [] => rfl
  | c :: cs => by show frzC c :: frzs cs = _; rw [frzs_eq]; rfl
theorem footC_p (v : Option V) (d : D) : footC v (.p d) = [] := by
  cases v with
  | none => rfl
  | some x => cases x <;> rfl
theorem SR.unP {x : V} {d : D} (h : SR K g σ (x :: vs) H ρ (.p d :: cs)) : SR K g σ (x :: vs) H ρ (.v d :: cs) := by
  have ft : tot σ (x :: vs) ρ (.v d :: cs) = tot σ (x :: vs) ρ (.p d :: cs) := by rw [tot_cons, tot_cons, footC_v, footC_p]
  refine h.gen (fun _ _ _ q => q) (fun _ o q => ⟨o, q⟩) (fun a ha => .inl (by rw [ft] at ha; exact ha)) (by rw [ft]; exact h.nd) (fun hB => h.sl.mono hB fun _ _ _ q => q) (fun hB => ?_) fun j q => h.pk j ?_
  · obtain ⟨q1, q2⟩ := RCs.mono hB (fun _ _ _ q => q) h.tp
    obtain ⟨y, e, z1, z2⟩ := q1
    exact ⟨⟨y, e, z1⟩, q2⟩
  · simp only [List.mem_cons] at q ⊢
    rcases q with (z | z) | (z | z)
    · cases z
    · exact .inl (.inr z)
    · cases z
    · exact .inr (.inr z)
theorem SR.frzTop {x : V} {c : C} (h : SR K g σ (x :: vs) H ρ (c :: cs)) : SR K g σ (x :: vs) H ρ (frzC c :: cs) := by
  cases c with
  | own t o =>
    cases o with
    | lst ds => exact h.frzAt rfl rfl
    | dct _ => exact h
    | dtt _ => exact h
    | lck _ _ _ _ => exact h
    | prp _ _ => exact h
    | tre _ => exact h
  | no => exact h
  | v d => exact h
  | p d => exact h.unP
  | pk i => exact h
  | ln i => exact h
  | sub i p k => exact h
theorem SR.frzArgs : ∀ {xs : List V} {ccs : List C} {vs : List V} {cs : List C}, xs.length = ccs.length → SR K g σ (xs ++ vs) H ρ (ccs ++ cs) → SR K g σ (xs ++ vs) H ρ (ccs.map frzC ++ cs)
  | [], [], _, _, _, h => h
  | x :: xs, c :: ccs, vs, cs, hl, h => by
    have hl' : xs.length = ccs.length := by simpa using hl
    have h1 : SR K g σ (xs ++ x :: vs) H ρ (ccs ++ frzC c :: cs) := SR.unrot hl' (SR.frzTop h)
    have h2 := SR.frzArgs (xs := xs) (ccs := ccs) (vs := x :: vs) (cs := frzC c :: cs) hl' h1
    exact SR.rot (by simpa using hl') h2
  | [], _ :: _, _, _, h, _ => by simp at h
  | _ :: _, [], _, _, h, _ => by simp at h
end

/-! ### arguments -/
@[reducible] def wNil : WA := fun ρ Q _ => Q [] ρ
@[reducible] def wCons (we : WE) (wr : WA) : WA := fun ρ Q E => we ρ (fun c ρ1 => wr ρ1 (fun cs ρ2 => Q (c :: cs) ρ2) E) E
@[reducible] def wPk (i : Nat) : WE := fun ρ Q _ => match rget ρ i with
  | .own _ _ => Q (.pk i) ρ
  | _ => False
section
variable {X : Cx} {g : G} {W : WX} {e : Expr} {es : List Expr} {we : WE} {wr : WA} {pos : Pos}
theorem ea_nil : EA X g W [] wNil := ⟨_, pa_nil, fun σ vs H ρ cs QD ED Q hS hw hX hQ => hQ [] H [] ρ rfl hS hw⟩
theorem ea_cons (h : EE X g W e we) (hr : EA X g W es wr) (hs : starEach (e :: es) X.env = (false, eval e X.env) :: starEach es X.env := by rfl) : EA X g W (e :: es) (wCons we wr) := by
  obtain ⟨t, p, s⟩ := h.ex
  obtain ⟨u, p', s'⟩ := hr.ex
  refine ⟨_, pa_cons p p' hs, fun σ vs H ρ cs QD ED Q hS hw hX hQ => ?_⟩
  refine s σ vs H ρ cs _ ED _ hS hw hX fun x H1 c ρ1 S1 q1 => ?_
  refine s' σ (x :: vs) H1 ρ1 (c :: cs) _ ED _ S1 q1 hX fun xs H2 ccs ρ2 hl S2 q2 => ?_
  exact hQ (x :: xs) H2 (c :: ccs) ρ2 (by simp [hl]) (SR.rot hl S2) q2
theorem ee_pk {i : Nat} {x : Str} (hL : g.L i = true) (h : PE X (.Name x pos) (tVar i)) : EE X g W (.Name x pos) (wPk i) := by
  refine ⟨_, h, fun σ vs H ρ cs QD ED Q hS hw hX hQ => ?_⟩
  unfold wPk at hw
  split at hw
  · rename_i t o e
    obtain ⟨a, e1, _⟩ := hS.own e
    exact ⟨_, e1, hQ _ H _ ρ (hS.pushPk e1 hL) hw⟩
  · exact hw.elim
end

/-! ### displays, built-ins -/
@[reducible] def oTup : OL := fun ds k => ds.length ≤ 1000 ∧ k (.v (.tuple ds))
@[reducible] def oLst : OL := fun ds k => ds.length ≤ 1000 ∧ k (.own 0 (.lst ds))
theorem le1000 {n : Nat} (h : n ≤ 1000) : n ≤ sizeLine := Nat.le_of_lt (small1000 h)
theorem same_new {H : Hp} {p : Addr} {o : HO} (n : H p = none) : Same H (upd H p o) := fun b u q => by
  rw [upd_ne (ne_of_none q n)]; exact q
theorem new_tup {K : PySem.W.Frag} {O : List Addr} {H : Hp} {p : Addr} {xs : List V} {ds : List D} (n : H p = none) (hO : p ∉ O) (h : DpAll K (hide H O) xs ds) : Dp K (hide (upd H p (.tup xs)) O) (.ref p) (.tuple ds) := by
  refine .tup (.inl (.inl (hide_some.mpr ⟨hO, upd_same⟩))) (dpAll_mono (fun a o q => ?_) _ _ h)
  obtain ⟨h1, h2⟩ := hide_some.mp q
  exact hide_some.mpr ⟨h1, same_new n a o h2⟩
theorem new_lst {K : PySem.W.Frag} {O : List Addr} {H : Hp} {p : Addr} {xs : List V} {ds : List D} (n : H p = none) (h : DpAll K (hide H O) xs ds) : NewRes K O H (upd H p (.lst xs)) (.ref p) (.own 0 (.lst ds)) := by
  refine ⟨rfl, p, rfl, n, xs, upd_same, dpAll_mono (fun a o q => ?_) _ _ h⟩
  obtain ⟨h1, h2⟩ := hide_some.mp q
  refine hide_some.mpr ⟨fun z => ?_, same_new n a o h2⟩
  rcases List.mem_cons.mp z with z | z
  · rw [z, n] at h2; cases h2
  · exact h1 z
section
variable {K : PySem.W.Frag} {g : G} {W : WX} {ta : TA} {wa : WA}
@[reducible] def wL (o : OL) (wa : WA) : WE := fun ρ Q E => wa ρ (fun cs ρ1 => useL ρ1 cs o Q) E
theorem sem_L {r : List V → Hp → VK → Prop} {o : OL} (l : LiftL K r o) (ha : SemA K g W ta wa) : Sem K g W (tCB r ta) (wL o wa) := by
  intro σ vs H ρ cs QD ED Q hS hw hX hQ
  refine ha σ vs H ρ cs _ ED _ hS hw hX fun xs H1 ccs ρ1 hl S1 q1 => ?_
  exact SR.useL l hl S1 q1 fun v H' c S3 q3 => hQ v H' c ρ1 S3 q3
theorem lift_tup : LiftL K (fun xs H Q => xs.length ≤ sizeLine ∧ ∀ p, H p = none → Q (.ref p) (upd H p (.tup xs))) oTup := by
  intro O H xs ds QD Q hO hx q fin
  refine ⟨by rw [DL.DpAll.len hx]; exact le1000 q.1, fun p n => ?_⟩
  exact fin _ _ (.v _) (same_new n) (new_tup n (fun z => by obtain ⟨u, e⟩ := hO p z; rw [n] at e; cases e) hx) q.2
theorem lift_lst : LiftL K (fun xs H Q => xs.length ≤ sizeLine ∧ ∀ p, H p = none → Q (.ref p) (upd H p (.lst xs))) oLst := by
  intro O H xs ds QD Q hO hx q fin
  refine ⟨by rw [DL.DpAll.len hx]; exact le1000 q.1, fun p n => ?_⟩
  exact fin _ _ (.own 0 (.lst ds)) (same_new n) (new_lst n hx) q.2
end
section
variable {X : Cx} {g : G} {W : WX} {e : Expr} {es : List Expr} {wa : WA} {pos : Pos}
theorem ee_tup {x1} (h : EA X g W es wa) : EE X g W (.Tuple es x1 pos) (wL oTup wa) := by
  obtain ⟨t, p, s⟩ := h.ex
  exact ⟨_, pe_tup p, sem_L lift_tup s⟩
theorem ee_lst (h : EA X g W es wa) : EE X g W (.List es pos) (wL oLst wa) := by
  obtain ⟨t, p, s⟩ := h.ex
  exact ⟨_, pe_lst p, sem_L lift_lst s⟩
theorem ee_cb {x : Str} {p : Pos} {id : String} {r : List V → Hp → VK → Prop} {o : OL} (hc : CallR X (.builtin id) r) (l : LiftL X.K r o) (hg : Gl X x) (hm : X.mg x = none) (hv : bootBuiltins x = some (.builtin id)) (ha : EA X g W (e :: es) wa) (hn : x ≠ "__name__" := by decide)
    (hdb : (x == ("__debug__" : Str)) = false := by decide) (he : starEach (e :: es) X.env = (false, eval e X.env) :: starEach es X.env := by rfl) (hpl : (backTo pos (starEach es X.env)).any (·.1) = false := by rfl) : EE X g W (.Call (.Name x p) (e :: es) [] pos) (wL o wa) := by
  obtain ⟨t, q, s⟩ := ha.ex
  exact ⟨_, pe_callB hc hg hm hv q hn hdb he hpl, sem_L l s⟩
theorem ee_ct {x : Str} {p : Pos} {T : String} {r : List V → Hp → VK → Prop} {o : OL} (hc : CallR X (.type T) r) (l : LiftL X.K r o) (hg : Gl X x) (hm : X.mg x = none) (hv : bootBuiltins x = some (.type T)) (ha : EA X g W (e :: es) wa) (hn : x ≠ "__name__" := by decide)
    (hdb : (x == ("__debug__" : Str)) = false := by decide) (he : starEach (e :: es) X.env = (false, eval e X.env) :: starEach es X.env := by rfl) (hpl : (backTo pos (starEach es X.env)).any (·.1) = false := by rfl) : EE X g W (.Call (.Name x p) (e :: es) [] pos) (wL o wa) := by
  obtain ⟨t, q, s⟩ := ha.ex
  exact ⟨_, pe_callTy hc hg hm hv q hn hdb he hpl, sem_L l s⟩
end

/-! ### a def's promise over data -/
abbrev SpD := List C → (C → List C → Prop) → (XD → List C → Prop) → Prop
def tgOf (xs : List V) (t : Nat) : Addr := if t ≤ xs.length then (match xs[t - 1]? with
  | some (.ref a) => a
  | _ => 0) else t - (xs.length + 1)
theorem tgOf_adr (xs : List V) (a : Addr) : tgOf xs (xs.length + 1 + a) = a := by
  unfold tgOf
  have h : ¬ (xs.length + 1 + a ≤ xs.length) := fun z => absurd (Nat.le_trans (Nat.le_add_right (xs.length + 1) a) z) (Nat.not_succ_le_self _)
  rw [if_neg h]
  exact Nat.add_sub_cancel_left _ _
def mkG (H : Hp) (xs : List V) (as : List C) (P : List Addr) (L : Nat → Bool) : G := ⟨H, tgOf xs, foot (xs.map some) as, P, L, xs.length + 1, Nat.succ_pos _, tgOf_adr xs⟩
@[reducible] def C.ok : C → Bool
  | .v _ => true
  | .p _ => true
  | .own 0 _ => true
  | _ => false
abbrev L0 : Nat → Bool := fun _ => false
def spOf (K : PySem.W.Frag) (S : SpD) : Sp := fun vs H Q E => ∃ (as : List C) (P : List Addr) (QD : C → List C → Prop) (ED : XD → List C → Prop), SR K (mkG H vs as P L0) (vs.map some) [] H as [] ∧ S as QD ED ∧
  (∀ c rs, c.ok = true → QD c rs → ∀ v H', SR K (mkG H vs as P L0) (vs.map some) [v] H' rs [c] → Q v H') ∧
  (∀ x rs, ED x rs → ∀ cls d H', SR K (mkG H vs as P L0) (vs.map some) [] H' rs [] → XRep K (hide H' (tot (vs.map some) [] rs [] ++ P)) H' x cls d → E cls d H')
theorem SR.setL {K : PySem.W.Frag} {g g' : G} {σ : L2.St} {vs : List V} {H : Hp} {ρ : Rho} {cs : List C} (h : SR K g σ vs H ρ cs) (e1 : g'.H0 = g.H0) (e2 : g'.tg = g.tg) (e3 : g'.Oa = g.Oa) (e4 : g'.P0 = g.P0) (hp : ∀ i, (C.pk i ∈ cs ∨ C.ln i ∈ cs) → g'.L i = true) : SR K g' σ vs H ρ cs := by
  obtain ⟨H0, tg, Oa, P0, L, tn, tn0, tgA⟩ := g
  obtain ⟨H0', tg', Oa', P0', L', tn', tn0', tgA'⟩ := g'
  cases e1; cases e2; cases e3; cases e4
  refine ⟨h.fr, h.dm, h.pr, h.nw, h.nd, ?_, ?_, hp⟩
  · have q := h.sl
    revert q
    generalize hide H _ = B
    intro q
    have go : ∀ (σ0 : List (Option V)) (ρ0 : List C), RCs K ⟨H0, tg, Oa, P0, L, tn, tn0, tgA⟩ [] B H σ0 ρ0 → RCs K ⟨H0, tg, Oa, P0, L', tn', tn0', tgA'⟩ [] B H σ0 ρ0 := by
      intro σ0
      induction σ0 with
      | nil => intro ρ0 q; cases ρ0 <;> exact q
      | cons v σ0 ih =>
        intro ρ0 q
        cases ρ0 with
        | nil => exact q
        | cons c ρ0 => exact ⟨by cases c <;> exact q.1, ih ρ0 q.2⟩
    exact go _ _ q
  · have q := h.tp
    revert q
    generalize hide H _ = B
    intro q
    have go : ∀ (σ0 : List (Option V)) (ρ0 : List C), RCs K ⟨H0, tg, Oa, P0, L, tn, tn0, tgA⟩ σ B H σ0 ρ0 → RCs K ⟨H0, tg, Oa, P0, L', tn', tn0', tgA'⟩ σ B H σ0 ρ0 := by
      intro σ0
      induction σ0 with
      | nil => intro ρ0 q; cases ρ0 <;> exact q
      | cons v σ0 ih =>
        intro ρ0 q
        cases ρ0 with
        | nil => exact q
        | cons c ρ0 => exact ⟨by cases c <;> exact q.1, ih ρ0 q.2⟩
    exact go _ _ q
def argM (ρ : Rho) : Nat → List C → Option (List C)
  | _, [] => some []
  | k, .own _ o :: cs => (argM ρ (k + 1) cs).map (C.own (k + 1) o :: ·)
  | k, .p d :: cs => (argM ρ (k + 1) cs).map (C.p d :: ·)
  | k, c :: cs => match dat ρ c, argM ρ (k + 1) cs with
    | some d, some as => some (.v d :: as)
    | _, _ => none
@[reducible] def retag : C → C → C
  | .own t _, .own _ o => .own t o
  | .own _ _, _ => .no
  | c, _ => c
@[reducible] def retags : List C → List C → List C
  | c :: cs, r :: rs => retag c r :: retags cs rs
  | cs, [] => cs
  | [], _ => []
@[reducible] def C.lfo : C → Bool
  | .own _ (.lst ds) => lfree.lfreeAll ds
  | .own _ (.dct _) => false
  | .own _ (.dtt _) => false
  | .own _ (.lck _ _ _ _) => false
  | .own _ (.prp _ _) => false
  | .own _ (.tre _) => false
  | _ => true
theorem foot_argM {ρ : Rho} : ∀ {ys : List (Option V)} {qs as : List C} {k : Nat}, argM ρ k qs = some as → foot ys as = foot ys qs
  | ys, [], as, k, h => by cases h; rfl
  | [], q :: qs, as, k, _ => by cases as <;> rfl
  | y :: ys, q :: qs, as, k, h => by
    cases q with
    | own t o =>
      unfold argM at h
      cases e : argM ρ (k + 1) qs with
      | none => rw [e] at h; cases h
      | some as' =>
        rw [e] at h
        cases h
        show footC y (.own (k + 1) o) ++ foot ys as' = footC y (.own t o) ++ foot ys qs
        rw [foot_argM e]
        have e3 : footC y (.own (k + 1) o) = footC y (.own t o) := by
          cases y with
          | none => rfl
          | some x => cases x <;> rfl
        rw [e3]
    | p d =>
      unfold argM at h
      cases e : argM ρ (k + 1) qs with
      | none => rw [e] at h; cases h
      | some as' =>
        rw [e] at h
        cases h
        show footC y (.p d) ++ foot ys as' = footC y (.p d) ++ foot ys qs
        rw [foot_argM e]
    | _ =>
      unfold argM at h
      split at h
      · rename_i d as' e1 e2
        cases h
        show footC y (.v d) ++ foot ys as' = footC y _ ++ foot ys qs
        rw [foot_argM e2, footC_v]
        cases y with
        | none => rfl
        | some x => cases x <;> rfl
      · cases h
theorem foot_retags : ∀ {ys : List (Option V)} {qs rs : List C}, ys.length = qs.length → qs.length = rs.length → (foot ys (retags qs rs)).Sublist (foot ys rs)
  | [], [], [], _, _ => List.Sublist.refl _
  | y :: ys, q :: qs, r :: rs, h1, h2 => by
    have ih := foot_retags (ys := ys) (qs := qs) (rs := rs) (by simpa using h1) (by simpa using h2)
    have key : (footC y (retag q r)).Sublist (footC y r) := by
      cases q with
      | own t o =>
        cases r with
        | own t' o' =>
          show (footC y (.own t o')).Sublist (footC y (.own t' o'))
          cases y with
          | none => exact List.Sublist.refl _
          | some x => cases x <;> exact List.Sublist.refl _
        | _ =>
          show (footC y .no).Sublist _
          rw [footC_no]
          exact List.nil_sublist _
      | _ =>
        have e : ∀ c : C, (∀ t o, c ≠ .own t o) → footC y c = [] := fun c hc => by
          cases c with
          | own t o => exact absurd rfl (hc t o)
          | _ =>
            cases y with
            | none => rfl
            | some x => cases x <;> rfl
        rw [show footC y (retag _ r) = [] from e _ (fun t o z => by cases z)]
        exact List.nil_sublist _
    exact key.append ih
  | [], _ :: _, _, h, _ => by simp at h
  | _ :: _, [], _, h, _ => by simp at h
  | _, [], _ :: _, _, h => by simp at h
  | _, _ :: _, [], _, h => by simp at h
section
variable {K : PySem.W.Frag} {g : G} {σ : L2.St} {vs : List V} {H H' : Hp} {ρ : Rho} {cs : List C}
theorem dp_more {B : Hp} {A S T : List Addr} {v : V} {d : D} (hA : ∀ a ∈ A, ∃ xs, B a = some (.lst xs)) (hT : ∀ a ∈ T, a ∈ A ∨ a ∈ S) (hl : A = [] ∨ lfree d = true) (h : Dp K (hide B S) v d) : Dp K (hide B T) v d := by
  have up : ∀ R : List Addr, (∀ a ∈ T, a ∈ R) → Dp K (hide B R) v d → Dp K (hide B T) v d := fun R hR q => dp_mono (fun a o e => by
    obtain ⟨h1, h2⟩ := hide_some.mp e
    exact hide_some.mpr ⟨fun z => h1 (hR a z), h2⟩) _ _ q
  rcases hl with e | e
  · subst e
    exact up S (fun a ha => (hT a ha).resolve_left (by simp)) h
  · exact up (A ++ S) (fun a ha => List.mem_append.mpr (hT a ha)) (dp_lf hA d v e h)
theorem dpAll_more {B : Hp} {A S T : List Addr} : ∀ {ds : List D} {v : List V}, (∀ a ∈ A, ∃ xs, B a = some (.lst xs)) → (∀ a ∈ T, a ∈ A ∨ a ∈ S) → (A = [] ∨ lfree.lfreeAll ds = true) → DpAll K (hide B S) v ds → DpAll K (hide B T) v ds
  | [], _, _, _, _, h => by cases h; exact .nil
  | d :: ds, _, hA, hT, hl, h => by
    cases h with
    | cons h1 h2 =>
      refine .cons (dp_more hA hT (hl.imp id fun z => ?_) h1) (dpAll_more hA hT (hl.imp id fun z => ?_) h2)
      · have q : lfree d = true ∧ lfree.lfreeAll ds = true := by simpa [lfree.lfreeAll] using z
        exact q.1
      · have q : lfree d = true ∧ lfree.lfreeAll ds = true := by simpa [lfree.lfreeAll] using z
        exact q.2
theorem ownAt_more {B : Hp} {A S T : List Addr} {a : Addr} {o : OD} (hA : ∀ a ∈ A, ∃ xs, B a = some (.lst xs)) (hT : ∀ a ∈ T, a ∈ A ∨ a ∈ S) (hl : A = [] ∨ C.lfo (.own 0 o) = true) (h : OwnAt K (hide B S) B a o) : OwnAt K (hide B T) B a o := by
  cases o with
  | lst ds =>
    obtain ⟨xs, h1, h2⟩ := h
    exact ⟨xs, h1, dpAll_more hA hT hl h2⟩
  | dct kvs =>
    rcases hl with e | e
    · subst e
      refine h.mono (fun a o e => ?_) fun _ _ _ q => q
      obtain ⟨h1, h2⟩ := hide_some.mp e
      exact hide_some.mpr ⟨fun z => h1 ((hT a z).resolve_left (by simp)), h2⟩
    · cases e
  | lck _ ob ks kvs =>
    rcases hl with e | e
    · subst e
      refine h.mono (fun a o e => ?_) fun _ _ _ q => q
      obtain ⟨h1, h2⟩ := hide_some.mp e
      exact hide_some.mpr ⟨fun z => h1 ((hT a z).resolve_left (by simp)), h2⟩
    · cases e
  | prp _ _ =>
    rcases hl with e | e
    · subst e
      refine h.mono (fun a o e => ?_) fun _ _ _ q => q
      obtain ⟨h1, h2⟩ := hide_some.mp e
      exact hide_some.mpr ⟨fun z => h1 ((hT a z).resolve_left (by simp)), h2⟩
    · cases e
  | dtt kvs =>
    rcases hl with e | e
    · subst e
      refine h.mono (fun a o e => ?_) fun _ _ _ q => q
      obtain ⟨h1, h2⟩ := hide_some.mp e
      exact hide_some.mpr ⟨fun z => h1 ((hT a z).resolve_left (by simp)), h2⟩
    · cases e
  | tre l =>
    rcases hl with e | e
    · subst e
      refine h.mono (fun a o e => ?_) fun _ _ _ q => q
      obtain ⟨h1, h2⟩ := hide_some.mp e
      exact hide_some.mpr ⟨fun z => h1 ((hT a z).resolve_left (by simp)), h2⟩
    · cases e
theorem plain_more {B : Hp} {A S T : List Addr} {v : V} (hA : ∀ a ∈ A, ∃ xs, B a = some (.lst xs)) (hT : ∀ a ∈ T, a ∈ A ∨ a ∈ S) (h : PlainT (hide B S) v) : PlainT (hide B T) v := by
  obtain ⟨a, o, xs, e1, e2, e3⟩ := h
  obtain ⟨q1, q2⟩ := hide_some.mp e2
  refine ⟨a, o, xs, e1, hide_some.mpr ⟨fun z => ?_, q2⟩, e3⟩
  rcases hT a z with w | w
  · obtain ⟨ys, w⟩ := hA a w
    rw [q2] at w; cases w
  · exact q1 w
theorem SR.callM {xs : List V} {ccs as : List C} (h : SR K g σ (xs ++ vs) H ρ (ccs ++ cs)) (hl : xs.length = ccs.length) (ha : argM ρ 0 ccs = some as) :
    ∃ P, SR K (mkG H xs as P L0) (xs.map some) [] H as [] ∧
      (∀ v H' c rs, c.ok = true → SR K (mkG H xs as P L0) (xs.map some) [v] H' rs [c] → (ccs.any C.isLn = true → c.lf = true ∧ ∀ r ∈ retags ccs rs, r.lfo = true) → SR K g σ (v :: (xs ++ vs)) H' ρ (c :: (retags ccs rs ++ cs))) ∧
      (∀ H' rs, SR K (mkG H xs as P L0) (xs.map some) [] H' rs [] → (ccs.any C.isLn = true → ∀ r ∈ retags ccs rs, r.lfo = true) → SR K g σ (xs ++ vs) H' ρ (retags ccs rs ++ cs) ∧ (ccs.any C.isLn = false →
        Same (hide H' (tot (xs.map some) [] rs [] ++ P)) (hide H' (tot σ (xs ++ vs) ρ (retags ccs rs ++ cs) ++ g.P0)))) := by
  have fa : foot (xs.map some) as = foot (xs.map some) ccs := foot_argM ha
  have nd := h.nd
  rw [tot_app hl] at nd
  obtain ⟨nd1, nd2, nd3⟩ := List.nodup_append.mp nd
  have tp := h.tp
  rw [List.map_append] at tp
  obtain ⟨tp1, tp2⟩ := RCs.split (by simpa using hl) tp
  have base : SR K g σ vs H ρ cs := h.pops hl
  have hdj : ∀ a ∈ foot (xs.map some) ccs, a ∉ tot σ vs ρ cs ++ g.P0 := fun a h1 h2 => by
    rcases List.mem_append.mp h2 with z | z
    · exact nd3 a h1 a z rfl
    · exact h.pout a (by rw [tot_app hl]; exact List.mem_append_left _ h1) z
  have hsub : ∀ a ∈ lentA σ ρ ccs, a ∈ foot σ ρ := fun a q => by
    obtain ⟨i, t, zs, h1, h2, h3⟩ := lentA_mem q
    obtain ⟨b, e4, q5, _⟩ := h.own h3
    rw [h2] at e4
    cases e4
    exact q5
  have hlst : ∀ a ∈ lentA σ ρ ccs, ∃ xs, H a = some (.lst xs) := fun a q => by
    obtain ⟨i, t, zs, h1, h2, h3⟩ := lentA_mem q
    obtain ⟨b, e4, _, ⟨us, q2, _⟩, _⟩ := h.own h3
    rw [h2] at e4
    cases e4
    exact ⟨us, q2⟩
  refine ⟨(tot σ vs ρ cs ++ g.P0).filter fun a => decide (a ∉ lentA σ ρ ccs), ?_, ?_⟩
  · -- the callee's entry
    refine ⟨fun a o e _ => e, fun a o e => ⟨o, e⟩, fun a q => ?_, fun a q => .inl q, ?_, ?_, trivial, fun i q => by simp at q⟩
    · have q1 := (List.mem_filter.mp q).1
      refine ⟨fun z => ?_, base.domO a q1⟩
      have z' : a ∈ foot (xs.map some) as := z
      rw [fa] at z'
      exact hdj a z' q1
    · show (foot ([].map some) [] ++ foot (xs.map some) as).Nodup
      rw [fa]; exact nd1
    · have up : Same (hide H (tot σ (xs ++ vs) ρ (ccs ++ cs) ++ g.P0)) (hide H (foot (xs.map some) as ++ (tot σ vs ρ cs ++ g.P0).filter fun a => decide (a ∉ lentA σ ρ ccs))) := fun a o q => by
        obtain ⟨h1, h2⟩ := hide_some.mp q
        refine hide_some.mpr ⟨fun z => h1 ?_, h2⟩
        rw [tot_app hl, fa] at *
        rcases List.mem_append.mp z with z | z
        · exact List.mem_append_left _ (List.mem_append_left _ z)
        · rcases List.mem_append.mp (List.mem_filter.mp z).1 with z | z
          · exact List.mem_append_left _ (List.mem_append_right _ z)
          · exact List.mem_append_right _ z
      have key : ∀ (ys : List V) (qs as' : List C) (k : Nat), ys.length = qs.length → (∀ j, ys[j]? = xs[k + j]?) → (∀ c ∈ qs, c ∈ ccs) → (∀ a ∈ foot (ys.map some) qs, a ∈ foot (xs.map some) ccs) → RCs K g σ (hide H (tot σ (xs ++ vs) ρ (ccs ++ cs) ++ g.P0)) H (ys.map some) qs → argM ρ k qs = some as' →
          RCs K (mkG H xs as ((tot σ vs ρ cs ++ g.P0).filter fun a => decide (a ∉ lentA σ ρ ccs)) L0) [] (hide H (foot (xs.map some) as ++ (tot σ vs ρ cs ++ g.P0).filter fun a => decide (a ∉ lentA σ ρ ccs))) H (ys.map some) as' := by
        intro ys
        induction ys with
        | nil =>
          intro qs as' k hlen _ _ _ _ ham
          cases qs with
          | nil => cases ham; trivial
          | cons _ _ => simp at hlen
        | cons y ys ih =>
          intro qs as' k hlen hix hin hft hrc ham
          cases qs with
          | nil => simp at hlen
          | cons q qs =>
            have hq := hrc.1
            have next : ∀ as'', argM ρ (k + 1) qs = some as'' → RCs K (mkG H xs as ((tot σ vs ρ cs ++ g.P0).filter fun a => decide (a ∉ lentA σ ρ ccs)) L0) [] (hide H (foot (xs.map some) as ++ (tot σ vs ρ cs ++ g.P0).filter fun a => decide (a ∉ lentA σ ρ ccs))) H (ys.map some) as'' := fun as'' e =>
              ih qs as'' (k + 1) (by simpa using hlen) (fun j => by have := hix (j + 1); rw [List.getElem?_cons_succ] at this; rw [this]; congr 1; omega) (fun c hc => hin c (List.mem_cons_of_mem _ hc)) (fun a z => hft a (by rw [List.map_cons, foot]; exact List.mem_append_right _ z)) hrc.2 e
            have datum : ∀ d, (∃ d0 as'', dat ρ q = some d0 ∧ argM ρ (k + 1) qs = some as'' ∧ as' = .v d0 :: as'' ∧ d = d0) → Dp K (hide H (foot (xs.map some) as ++ (tot σ vs ρ cs ++ g.P0).filter fun a => decide (a ∉ lentA σ ρ ccs))) y d → RCs K (mkG H xs as ((tot σ vs ρ cs ++ g.P0).filter fun a => decide (a ∉ lentA σ ρ ccs)) L0) [] (hide H (foot (xs.map some) as ++ (tot σ vs ρ cs ++ g.P0).filter fun a => decide (a ∉ lentA σ ρ ccs))) H ((y :: ys).map some) as' := by
              rintro d ⟨d0, as'', e1, e2, e3, rfl⟩ hd
              subst e3
              exact ⟨⟨y, rfl, hd⟩, next _ e2⟩
            have spl : ∀ {q}, (∀ t o, q ≠ C.own t o) → (∀ d, q ≠ C.p d) → argM ρ k (q :: qs) = some as' → ∃ d as'', dat ρ q = some d ∧ argM ρ (k + 1) qs = some as'' ∧ as' = .v d :: as'' := by
              intro q hno hnp e
              unfold argM at e
              split at e
              · rename_i z; cases z
              · rename_i t o _ z; cases z; exact absurd rfl (hno _ _)
              · rename_i d _ z; cases z; exact absurd rfl (hnp _)
              · rename_i c cs' _ z
                cases z
                split at e
                · rename_i d as'' e1 e2
                  cases e
                  exact ⟨d, as'', e1, e2, rfl⟩
                · cases e
            cases q with
            | no => obtain ⟨d, as'', e1, _⟩ := spl (fun t o z => by cases z) (fun d z => by cases z) ham; cases e1
            | pk i => obtain ⟨d, as'', e1, _⟩ := spl (fun t o z => by cases z) (fun d z => by cases z) ham; cases e1
            | sub i p k => obtain ⟨d, as'', e1, _⟩ := spl (fun t o z => by cases z) (fun d z => by cases z) ham; cases e1
            | v d' =>
              obtain ⟨d, as'', e1, e2, e3⟩ := spl (fun t o z => by cases z) (fun d z => by cases z) ham
              cases e1
              obtain ⟨x, e4, q1⟩ := hq
              cases e4
              exact datum _ ⟨_, _, rfl, e2, e3, rfl⟩ (dp_mono up _ _ q1)
            | p d' =>
              unfold argM at ham
              cases e : argM ρ (k + 1) qs with
              | none => rw [e] at ham; cases ham
              | some as'' =>
                rw [e] at ham
                cases ham
                obtain ⟨x, e4, q1, q2⟩ := hq
                exact ⟨⟨x, e4, dp_mono up _ _ q1, q2.mono up⟩, next _ e⟩
            | own t o =>
              unfold argM at ham
              cases e : argM ρ (k + 1) qs with
              | none => rw [e] at ham; cases ham
              | some as'' =>
                rw [e] at ham
                cases ham
                obtain ⟨a, e4, q1, _⟩ := hq
                cases e4
                refine ⟨⟨a, rfl, q1.mono up fun _ _ _ z => z, fun _ => ?_, fun z => by cases z⟩, next _ e⟩
                have e5 := hix 0
                rw [List.getElem?_cons_zero, Nat.add_zero] at e5
                have hk : k < xs.length := (List.getElem?_eq_some_iff.mp e5.symm).1
                show (if k + 1 ≤ xs.length then (match xs[k + 1 - 1]? with
                  | some (.ref a) => a
                  | _ => 0) else k + 1 - (xs.length + 1)) = a
                rw [if_pos (by omega), Nat.add_sub_cancel, ← e5]
            | ln i =>
              obtain ⟨d, as'', e1, e2, e3⟩ := spl (fun t o z => by cases z) (fun d z => by cases z) ham
              refine datum _ ⟨_, _, e1, e2, e3, rfl⟩ ?_
              obtain ⟨x, e4, q1⟩ := hq
              cases e4
              have hin' := hin (.ln i) List.mem_cons_self
              revert e1
              show (match rget ρ i with
                | .own _ (.lst ds) => some (PyData.list ds)
                | .v d => some d
                | .p d => some d
                | _ => none) = some d → _
              split
              · rename_i t zs eo
                intro e1
                cases e1
                obtain ⟨a, e6, q7, ⟨us, q2, q3⟩, _⟩ := h.own eo
                rw [q1] at e6
                cases e6
                refine .lst (.inl (.inl (hide_some.mpr ⟨fun z => ?_, q2⟩))) (dpAll_mono up _ _ q3)
                rcases List.mem_append.mp z with z | z
                · rw [fa] at z
                  exact hdj a z (List.mem_append_left _ (List.mem_append_right _ q7))
                · exact of_decide_eq_true (List.mem_filter.mp z).2 (mem_lentA hin' q1 eo)
              · rename_i d' eo
                intro e1
                cases e1
                obtain ⟨x', e6, q2⟩ := h.slot eo
                rw [q1] at e6
                cases e6
                exact dp_mono up _ _ q2
              · rename_i d' eo
                intro e1
                cases e1
                obtain ⟨x', e6, q2, _⟩ := h.slotP eo
                rw [q1] at e6
                cases e6
                exact dp_mono up _ _ q2
              · intro e1; cases e1
      exact key xs ccs as 0 hl (fun j => by rw [Nat.zero_add]) (fun _ q => q) (fun _ q => q) tp1 ha
  · -- behind the call
    have common : ∀ (ws : List V) (H' : Hp) (ds rs : List C), SR K (mkG H xs as ((tot σ vs ρ cs ++ g.P0).filter fun a => decide (a ∉ lentA σ ρ ccs)) L0) (xs.map some) ws H' rs ds → ws.length = ds.length →
        (∀ c ∈ ds, c.ok = true) → ds.length ≤ 1 → (ccs.any C.isLn = true → (∀ c ∈ ds, c.lf = true) ∧ ∀ r ∈ retags ccs rs, r.lfo = true) → SR K g σ (ws ++ (xs ++ vs)) H' ρ (ds ++ (retags ccs rs ++ cs)) := by
      intro ws H' ds rs S' hwl hok hd1 hlf
      have lr : ccs.length = rs.length := by
        have q := S'.sl.len
        rw [List.length_map] at q
        omega
      have fr2 := foot_retags (ys := xs.map some) (by simpa using hl) lr
      have frN : ∀ a ∈ foot (xs.map some) (retags ccs rs), a ∈ foot (xs.map some) ccs ∨ H a = none := fun a q => by
        rcases S'.nw a (List.mem_append_right _ (fr2.subset q)) with z | z
        · exact .inl (by rw [← fa]; exact z)
        · exact .inr z
      have keep : ∀ a o, a ∉ foot (xs.map some) ccs → H a = some o → H' a = some o := fun a o n e => S'.fr a o e (by show a ∉ foot (xs.map some) as; rw [fa]; exact n)
      have fresh : ∀ a ∈ foot (ws.map some) ds, a ∈ foot (xs.map some) ccs ∨ H a = none := fun a q => by
        rcases S'.nw a (List.mem_append_left _ q) with z | z
        · exact .inl (by rw [← fa]; exact z)
        · exact .inr z
      have e1 : tot σ (ws ++ (xs ++ vs)) ρ (ds ++ (retags ccs rs ++ cs)) = foot (ws.map some) ds ++ (foot (xs.map some) (retags ccs rs) ++ tot σ vs ρ cs) := by
        rw [tot_app hwl, tot_app]
        have : ∀ {a b : List C}, a.length = b.length → (retags a b).length = a.length := by
          intro a
          induction a with
          | nil => intro b _; cases b <;> rfl
          | cons x a ih => intro b hb; cases b with
            | nil => simp at hb
            | cons y b => simp [retags, ih (b := b) (by simpa using hb)]
        rw [this lr]; exact hl
      have nd' : (foot (ws.map some) ds ++ foot (xs.map some) (retags ccs rs)).Nodup := ((List.Sublist.refl _).append fr2).nodup S'.nd
      have hT : ∀ a ∈ tot σ (ws ++ (xs ++ vs)) ρ (ds ++ (retags ccs rs ++ cs)) ++ g.P0, a ∈ lentA σ ρ ccs ∨ a ∈ tot (xs.map some) ws rs ds ++ (tot σ vs ρ cs ++ g.P0).filter fun a => decide (a ∉ lentA σ ρ ccs) := fun a q => by
        rw [e1] at q
        by_cases z : a ∈ lentA σ ρ ccs
        · exact .inl z
        · right
          rcases List.mem_append.mp q with q | q
          · rcases List.mem_append.mp q with q | q
            · exact List.mem_append_left _ (List.mem_append_left _ q)
            · rcases List.mem_append.mp q with q | q
              · exact List.mem_append_left _ (List.mem_append_right _ (fr2.subset q))
              · exact List.mem_append_right _ (List.mem_filter.mpr ⟨List.mem_append_left _ q, decide_eq_true z⟩)
          · exact List.mem_append_right _ (List.mem_filter.mpr ⟨List.mem_append_right _ q, decide_eq_true z⟩)
      have hA' : ∀ a ∈ lentA σ ρ ccs, ∃ xs, H' a = some (.lst xs) := fun a q => by
        obtain ⟨us, e⟩ := hlst a q
        exact ⟨us, keep a _ (fun z => hdj a z (List.mem_append_left _ (List.mem_append_right _ (hsub a q)))) e⟩
      have hE : lentA σ ρ ccs = [] ∨ ((∀ c ∈ ds, c.lf = true) ∧ ∀ r ∈ retags ccs rs, r.lfo = true) := by
        cases hb : ccs.any C.isLn with
        | false => exact .inl (lentA_none hb)
        | true => exact .inr (hlf hb)
      refine h.gen (fun a o n e => keep a o (fun z => n (by rw [tot_app hl]; exact List.mem_append_left _ z)) e) S'.dm (fun a q => ?_) ?_ (fun hB => h.sl.mono hB fun a q u e => ?_) (fun hB => ?_) (fun i q => h.pk i ?_)
      · rw [e1] at q
        rcases List.mem_append.mp q with q | q
        · exact (fresh a q).imp (fun z => by rw [tot_app hl]; exact List.mem_append_left _ z) id
        · rcases List.mem_append.mp q with q | q
          · exact (frN a q).imp (fun z => by rw [tot_app hl]; exact List.mem_append_left _ z) id
          · exact .inl (by rw [tot_app hl]; exact List.mem_append_right _ q)
      · rw [e1]
        obtain ⟨n1, n2, n3⟩ := List.nodup_append.mp nd'
        have oldT : ∀ a ∈ tot σ vs ρ cs, ∃ u, H a = some u := fun a z => h.there a (by rw [tot_app hl]; exact List.mem_append_right _ z)
        refine List.nodup_append.mpr ⟨n1, List.nodup_append.mpr ⟨n2, nd2, fun a q b z e => ?_⟩, fun a q b z e => ?_⟩
        · subst e
          rcases frN a q with w | w
          · exact nd3 a w a z rfl
          · obtain ⟨u, e2⟩ := oldT a z
            rw [w] at e2; cases e2
        · subst e
          rcases List.mem_append.mp z with z | z
          · exact n3 a q a z rfl
          · rcases fresh a q with w | w
            · exact nd3 a w a z rfl
            · obtain ⟨u, e2⟩ := oldT a z
              rw [w] at e2; cases e2
      · exact keep a u (fun z => hdj a z (List.mem_append_left _ (List.mem_append_right _ q))) e
      · rw [List.map_append, List.map_append]
        refine RCs.app ?_ (RCs.app ?_ (tp2.mono hB fun a q u e => keep a u (fun z => hdj a z (List.mem_append_left _ (List.mem_append_left _ q))) e))
        · -- the answer
          have go : ∀ (us : List V) (es : List C), (∀ c ∈ es, c ∈ ds) → RCs K (mkG H xs as ((tot σ vs ρ cs ++ g.P0).filter fun a => decide (a ∉ lentA σ ρ ccs)) L0) (xs.map some) (hide H' (tot (xs.map some) ws rs ds ++ (tot σ vs ρ cs ++ g.P0).filter fun a => decide (a ∉ lentA σ ρ ccs))) H' (us.map some) es →
              RCs K g σ (hide H' (tot σ (ws ++ (xs ++ vs)) ρ (ds ++ (retags ccs rs ++ cs)) ++ g.P0)) H' (us.map some) es := by
            intro us
            induction us with
            | nil => intro es _ z; cases es <;> exact z
            | cons u us ih =>
              intro es hin hr
              cases es with
              | nil => exact hr
              | cons e es =>
                refine ⟨?_, ih es (fun c hc => hin c (List.mem_cons_of_mem _ hc)) hr.2⟩
                have q := hr.1
                have hm := hin e List.mem_cons_self
                have hk := hok e hm
                cases e with
                | v d =>
                  obtain ⟨x, e2, q2⟩ := q
                  exact ⟨x, e2, dp_more hA' hT (hE.imp id fun z => z.1 _ hm) q2⟩
                | p d =>
                  obtain ⟨x, e2, q2, q3⟩ := q
                  exact ⟨x, e2, dp_more hA' hT (hE.imp id fun z => z.1 _ hm) q2, plain_more hA' hT q3⟩
                | own t o =>
                  obtain ⟨a, e2, q2, _, qf⟩ := q
                  cases e2
                  have t0 : t = 0 := by cases t with
                    | zero => rfl
                    | succ t => cases hk
                  subst t0
                  refine ⟨a, rfl, ownAt_more hA' hT (hE.imp id fun z => ?_) q2, fun z => absurd rfl z, fun _ => ?_⟩
                  · have z1 := z.1 _ hm
                    cases o with
                    | lst ds => exact z1
                    | dct _ => cases z1
                    | dtt _ => cases z1
                    | lck _ _ _ _ => cases z1
                    | prp _ _ => cases z1
                    | tre _ => cases z1
                  · have e3 : H a = none := qf rfl
                    cases e4 : g.H0 a with
                    | none => rfl
                    | some o' =>
                      obtain ⟨o2, e5⟩ := h.dm a o' e4
                      rw [e3] at e5; cases e5
                | no => cases hk
                | pk i => cases hk
                | ln i => cases hk
                | sub i p k => cases hk
          exact go ws ds (fun _ q => q) S'.tp
        · -- the arguments
          have go : ∀ (us : List V) (es rs' : List C), us.length = es.length → es.length = rs'.length → (∀ r ∈ retags es rs', r ∈ retags ccs rs) → (∀ c ∈ es, c ∈ ccs) → RCs K g σ (hide H (tot σ (xs ++ vs) ρ (ccs ++ cs) ++ g.P0)) H (us.map some) es →
              RCs K (mkG H xs as ((tot σ vs ρ cs ++ g.P0).filter fun a => decide (a ∉ lentA σ ρ ccs)) L0) [] (hide H' (tot (xs.map some) ws rs ds ++ (tot σ vs ρ cs ++ g.P0).filter fun a => decide (a ∉ lentA σ ρ ccs))) H' (us.map some) rs' →
              RCs K g σ (hide H' (tot σ (ws ++ (xs ++ vs)) ρ (ds ++ (retags ccs rs ++ cs)) ++ g.P0)) H' (us.map some) (retags es rs') := by
            intro us
            induction us with
            | nil =>
              intro es rs' h1 h2 _ _ _ _
              cases es with
              | nil => cases rs' with
                | nil => trivial
                | cons _ _ => simp at h2
              | cons _ _ => simp at h1
            | cons u us ih =>
              intro es rs' h1 h2 hrs hcs hr1 hr2
              cases es with
              | nil => simp at h1
              | cons e es =>
                cases rs' with
                | nil => simp at h2
                | cons r rs' =>
                  refine ⟨?_, ih es rs' (by simpa using h1) (by simpa using h2) (fun c hc => hrs c (List.mem_cons_of_mem _ hc)) (fun c hc => hcs c (List.mem_cons_of_mem _ hc)) hr1.2 hr2.2⟩
                  have q1 := hr1.1
                  have q2 := hr2.1
                  cases e with
                  | own t o =>
                    cases r with
                    | own t' o' =>
                      obtain ⟨a, e2, _, q3, q4⟩ := q1
                      cases e2
                      obtain ⟨b, e3, q5, _, _⟩ := q2
                      cases e3
                      refine ⟨a, rfl, ownAt_more hA' hT (hE.imp id fun z => (show C.lfo (.own 0 o') = true from (show C.lfo (.own t o') = C.lfo (.own 0 o') by cases o' <;> rfl) ▸ z.2 _ (hrs (.own t o') List.mem_cons_self))) q5, q3, q4⟩
                    | _ => exact trivial
                  | v d =>
                    obtain ⟨x, e2, q3⟩ := q1
                    exact ⟨x, e2, dp_mono hB _ _ q3⟩
                  | p d =>
                    obtain ⟨x, e2, q3, q4⟩ := q1
                    exact ⟨x, e2, dp_mono hB _ _ q3, q4.mono hB⟩
                  | no => exact trivial
                  | pk i => exact q1
                  | ln i => exact q1
                  | sub i p k => exact q1
          exact go xs ccs rs hl lr (fun _ q => q) (fun _ q => q) tp1 S'.sl
      · have nok : ∀ c ∈ ds, c ≠ .pk i ∧ c ≠ .ln i := fun c hc => ⟨fun z => (by have := hok c hc; rw [z] at this; cases this), fun z => (by have := hok c hc; rw [z] at this; cases this)⟩
        have inR : ∀ {a b : List C} (x : C), (∀ t o, x ≠ .own t o) → x ≠ .no → x ∈ retags a b → x ∈ a := by
          intro a
          induction a with
          | nil => intro b x _ _ z; cases b <;> exact z
          | cons y a ih =>
            intro b x h1 h2 z
            cases b with
            | nil => exact z
            | cons r b =>
              rcases List.mem_cons.mp z with e | z
              · cases y with
                | own t o => cases r with
                  | own t' o' => exact absurd e (h1 _ _)
                  | _ => exact absurd e h2
                | _ => rw [e]; exact List.mem_cons_self
              · exact List.mem_cons_of_mem _ (ih x h1 h2 z)
        rcases q with q | q
        · rcases List.mem_append.mp q with q | q
          · exact absurd rfl (nok _ q).1
          · rcases List.mem_append.mp q with q | q
            · exact .inl (List.mem_append_left _ (inR _ (fun t o z => by cases z) (fun z => by cases z) q))
            · exact .inl (List.mem_append_right _ q)
        · rcases List.mem_append.mp q with q | q
          · exact absurd rfl (nok _ q).2
          · rcases List.mem_append.mp q with q | q
            · exact .inr (List.mem_append_left _ (inR _ (fun t o z => by cases z) (fun z => by cases z) q))
            · exact .inr (List.mem_append_right _ q)
    refine ⟨fun v H' c rs hk S' hlf => ?_, fun H' rs S' hlf => ⟨?_, fun hb => ?_⟩⟩
    · exact common [v] H' [c] rs S' rfl (fun c' hc => by rw [List.mem_singleton.mp hc]; exact hk) (Nat.le_refl _) fun z => ⟨fun c' hc => by rw [List.mem_singleton.mp hc]; exact (hlf z).1, (hlf z).2⟩
    · exact common [] H' [] rs S' rfl (fun c' hc => by simp at hc) (Nat.zero_le _) (fun z => And.intro (fun c' hc => by simp at hc) (hlf z))
    · have lr : ccs.length = rs.length := by
        have q := S'.sl.len
        rw [List.length_map] at q
        omega
      have fr2 := foot_retags (ys := xs.map some) (by simpa using hl) lr
      intro a o e
      obtain ⟨h1, h2⟩ := hide_some.mp e
      refine hide_some.mpr ⟨fun z => h1 ?_, h2⟩
      have e0 := lentA_none (σ := σ) (ρ := ρ) hb
      have lrt : xs.length = (retags ccs rs).length := by
        have : ∀ {a b : List C}, a.length = b.length → (retags a b).length = a.length := by
          intro a
          induction a with
          | nil => intro b _; cases b <;> rfl
          | cons x a ih => intro b hb; cases b with
            | nil => simp at hb
            | cons y b => simp [retags, ih (b := b) (by simpa using hb)]
        rw [this lr]; exact hl
      rw [tot_app lrt] at z
      rcases List.mem_append.mp z with z | z
      · rcases List.mem_append.mp z with z | z
        · exact List.mem_append_left _ (List.mem_append_right _ (fr2.subset z))
        · exact List.mem_append_right _ (List.mem_filter.mpr ⟨List.mem_append_left _ z, decide_eq_true (by rw [e0]; simp)⟩)
      · exact List.mem_append_right _ (List.mem_filter.mpr ⟨List.mem_append_right _ z, decide_eq_true (by rw [e0]; simp)⟩)
end
end DL

set_option Elab.async false
set_option linter.all false
set_option maxRecDepth 100000
set_option maxHeartbeats 4000000
/-! DL, calls of the program's own defs. -/
namespace DL
open PySem PySem.Spec PyProof.Rows L2
section
variable {K : PySem.W.Frag} {g : G} {σ : L2.St} {vs : List V} {H H' : Hp} {ρ : Rho} {cs : List C}
theorem SR.popAll : ∀ {vs : List V} {cs : List C}, SR K g σ vs H ρ cs → SR K g σ [] H ρ []
  | [], [], h => h
  | _ :: _, _ :: _, h => SR.popAll h.pop
  | [], _ :: _, h => (show False from h.tp).elim
  | _ :: _, [], h => (show False from h.tp).elim
theorem XRep.mono {B B' : Hp} {x : XD} {cls : Value} {d : Option Addr} (e : x.fs = [] ∨ Same B B') (h : XRep K B H x cls d) : XRep K B' H x cls d := by
  refine ⟨h.1, h.2.imp id ?_⟩
  rintro ⟨ne, a, fs, e1, e2, e3⟩
  rcases e with e | e
  · exact absurd e ne
  · exact ⟨ne, a, fs, e1, e _ _ e2, e3.mono e⟩
theorem same_popAll (h : SR K g σ vs H ρ cs) : Same (hide H (tot σ vs ρ cs ++ g.P0)) (hide H (tot σ [] ρ [] ++ g.P0)) := fun a o e => by
  obtain ⟨h1, h2⟩ := hide_some.mp e
  refine hide_some.mpr ⟨fun z => h1 ?_, h2⟩
  rcases List.mem_append.mp z with z | z
  · exact List.mem_append_left _ (List.mem_append_right _ (show a ∈ foot σ ρ from z))
  · exact List.mem_append_right _ z
theorem SR.unCall {v : V} {c : C} {xs : List V} {ccs : List C} (hl : xs.length = ccs.length) (h : SR K g σ (v :: (xs ++ vs)) H ρ (c :: (ccs ++ cs))) : SR K g σ (v :: vs) H ρ (c :: cs) := SR.pops hl (SR.unrot hl h)
end
@[reducible] def okX (ccs : List C) (x : XD) : Prop := ccs.any C.isLn = true → x.fs = []
@[reducible] def callK (S : SpD) (ρ : Rho) (ccs : List C) (Q : KC) (E : KX) : Prop := useK ρ ccs fun ds => S (ds.map C.v) (fun c _ => okR ccs c ∧ Q c ρ) (fun x _ => okX ccs x ∧ E x ρ)
@[reducible] def hd1 (rs : List C) (k : C → Prop) : Prop := match rs with
  | r :: _ => k r
  | [] => False
@[reducible] def callP (S : SpD) (i : Nat) (ρ : Rho) (rest : List C) (Q : KC) (E : KX) : Prop := match rget ρ i with
  | .own t o => useK (rset ρ i .no) rest fun ds => S (.own 1 o :: ds.map C.v)
      (fun c rs => hd1 rs fun r => (rest.any C.isLn = true → c.lf = true ∧ (retag (.own t o) r).lfo = true) ∧ Q c (rset ρ i (retag (.own t o) r)))
      (fun x rs => hd1 rs fun r => (rest.any C.isLn = true → x.fs = [] ∧ (retag (.own t o) r).lfo = true) ∧ E x (rset ρ i (retag (.own t o) r)))
  | _ => False
@[reducible] def callA (S : SpD) (ρ : Rho) (ccs : List C) (Q : KC) (E : KX) : Prop := match ccs with
  | .pk i :: rest => callP S i ρ rest Q E
  | ccs => callK S ρ ccs Q E
@[reducible] def wCall (S : SpD) (wa : WA) : WE := fun ρ Q E => wa ρ (fun ccs ρ1 => callA S ρ1 ccs Q E) E
theorem isLn_frz : ∀ (ccs : List C), (ccs.map frzC).any C.isLn = ccs.any C.isLn
  | [] => rfl
  | c :: ccs => by
    have e : (frzC c).isLn = c.isLn := by
      cases c with
      | own t o => cases o <;> rfl
      | _ => rfl
    simp [e, isLn_frz ccs]
theorem argM_dats {ρ : Rho} : ∀ {ccs : List C} {ds : List D} {k : Nat}, dats ρ ccs = some ds → argM ρ k (ccs.map frzC) = some (ds.map C.v) ∧ (∀ rs : List C, rs.length = ccs.length → retags (ccs.map frzC) rs = ccs.map frzC) ∧ ∀ c ∈ ccs.map frzC, c.lfo = true
  | [], ds, k, h => by
    cases h
    exact ⟨rfl, fun rs _ => by cases rs <;> rfl, fun c hc => by simp at hc⟩
  | c :: ccs, ds, k, h => by
    unfold dats at h
    split at h
    · rename_i d ds' e1 e2
      cases h
      obtain ⟨i1, i2, i3⟩ := argM_dats (ccs := ccs) (k := k + 1) e2
      have key : ∀ c' : C, (∀ t o, c' ≠ .own t o) → (∀ d, c' ≠ .p d) → dat ρ c' = some d → argM ρ k (c' :: ccs.map frzC) = some (C.v d :: ds'.map C.v) ∧ (∀ rs : List C, rs.length = ccs.length + 1 → retags (c' :: ccs.map frzC) rs = c' :: ccs.map frzC) ∧ c'.lfo = true := by
        intro c' hn hp he
        refine ⟨?_, ?_, ?_⟩
        · cases c' with
          | own t o => exact absurd rfl (hn t o)
          | p d => exact absurd rfl (hp d)
          | _ =>
            unfold argM
            rw [he, i1]
        · intro rs hr
          cases rs with
          | nil => simp at hr
          | cons r rs =>
            cases c' with
            | own t o => exact absurd rfl (hn t o)
            | _ =>
              unfold retags
              rw [i2 rs (by simpa using hr)]
        · cases c' with
          | own t o => exact absurd rfl (hn t o)
          | _ => rfl
      have fin : ∀ c' : C, frzC c = c' → (∀ t o, c' ≠ .own t o) → (∀ d, c' ≠ .p d) → dat ρ c' = some d → argM ρ k ((c :: ccs).map frzC) = some ((d :: ds').map C.v) ∧ (∀ rs : List C, rs.length = (c :: ccs).length → retags ((c :: ccs).map frzC) rs = (c :: ccs).map frzC) ∧ ∀ q ∈ (c :: ccs).map frzC, q.lfo = true := by
        intro c' e hn hp he
        obtain ⟨k1, k2, k3⟩ := key c' hn hp he
        rw [List.map_cons, List.map_cons, e]
        refine ⟨k1, fun rs hr => k2 rs (by simpa using hr), fun q hq => ?_⟩
        rcases List.mem_cons.mp hq with z | z
        · rw [z]; exact k3
        · exact i3 q z
      cases c with
      | no => cases e1
      | pk i => cases e1
      | sub i p k => cases e1
      | p d' => cases e1; exact fin _ rfl (fun t o z => by cases z) (fun d z => by cases z) rfl
      | v d' => exact fin _ rfl (fun t o z => by cases z) (fun d z => by cases z) e1
      | ln i => exact fin _ rfl (fun t o z => by cases z) (fun d z => by cases z) e1
      | own t o =>
        cases o with
        | dct _ => cases e1
        | dtt _ => cases e1
        | lck _ _ _ _ => cases e1
        | prp _ _ => cases e1
        | tre _ => cases e1
        | lst zs =>
          cases e1
          exact fin _ rfl (fun t o z => by cases z) (fun d z => by cases z) rfl
    · cases h
section
variable {K : PySem.W.Frag} {g : G} {W : WX} {σ : L2.St} {vs : List V} {H : Hp} {ρ : Rho} {cs : List C} {i : Nat}
theorem entry_len {K : PySem.W.Frag} {g : G} {xs : List V} {ws : List V} {H : Hp} {rs ds : List C} (S' : SR K g (xs.map some) ws H rs ds) : rs.length = xs.length := by
  have q := S'.sl.len
  rw [List.length_map] at q
  omega
theorem SR.callD {S : SpD} {xs : List V} {ccs : List C} {QD : KC} {ED : KX} {E : XK} {Q : VK} (hl : xs.length = ccs.length) (h : SR K g σ (xs ++ vs) H ρ (ccs ++ cs)) (q : callK S ρ ccs QD ED) (hX : XEnds K g W σ ED) (hE : ∀ cls d σ H, W cls d σ H → E cls d H)
    (hQ : ∀ v H' c, SR K g σ (v :: vs) H' ρ (c :: cs) → QD c ρ → Q v H') : spOf K S xs H Q E := by
  obtain ⟨ds, e, q⟩ := useK_dats q
  obtain ⟨e, rt, lf⟩ := argM_dats (k := 0) e
  have h' := h.frzArgs hl
  have hl' : xs.length = (ccs.map frzC).length := by simpa using hl
  obtain ⟨P, entry, ret, exc⟩ := SR.callM h' hl' e
  refine ⟨_, P, _, _, entry, q, fun c rs hk ⟨ok, qd⟩ v H' S' => ?_, fun x rs ⟨ok, ed⟩ cls d H' S' xr => ?_⟩
  · have er := rt rs (by rw [entry_len S', hl])
    have S1 := ret v H' c rs hk S' fun z => ⟨ok (by rw [isLn_frz] at z; exact z), fun r hr => lf r (by rw [er] at hr; exact hr)⟩
    rw [er] at S1
    exact hQ v H' c (SR.unCall hl' S1) qd
  · have er := rt rs (by rw [entry_len S', hl])
    obtain ⟨S1, hs⟩ := exc H' rs S' fun z r hr => lf r (by rw [er] at hr; exact hr)
    rw [er] at S1 hs
    refine hE cls d σ H' (hX x ρ cls d H' S1.popAll (XRep.mono ?_ xr) ed)
    cases hb : ccs.any C.isLn with
    | true => exact .inl (ok hb)
    | false => exact .inr ((hs (by rw [isLn_frz]; exact hb)).trans (same_popAll S1))
theorem retag_own {t : Nat} {o : OD} {r : C} : (∃ o', retag (.own t o) r = .own t o') ∨ retag (.own t o) r = .no := by
  cases r with
  | own t' o' => exact .inl ⟨o', rfl⟩
  | _ => exact .inr rfl
theorem SR.putBack {x : V} {c : C} (h : SR K g σ (x :: vs) H ρ (c :: cs)) (e1 : σ[i]? = some (some x)) (e2 : rget ρ i = .no) (hc : c.plain = true ∨ c = .no) : SR K g σ vs H (rset ρ i c) cs := by
  rcases hc with hc | hc
  · exact h.moveIn hc e1 e2
  · subst hc
    exact (h.pop).clear i
theorem SR.callP {S : SpD} {x : V} {xs : List V} {ccs : List C} {QD : KC} {ED : KX} {E : XK} {Q : VK} (hl : xs.length = ccs.length) (h : SR K g σ (x :: (xs ++ vs)) H ρ (.pk i :: (ccs ++ cs))) (q : DL.callP S i ρ ccs QD ED) (hX : XEnds K g W σ ED) (hE : ∀ cls d σ H, W cls d σ H → E cls d H)
    (hQ : ∀ v H' c ρ', SR K g σ (v :: vs) H' ρ' (c :: cs) → QD c ρ' → Q v H') : spOf K S (x :: xs) H Q E := by
  unfold DL.callP at q
  split at q
  · rename_i t o eo
    obtain ⟨ds, e, q⟩ := useK_dats q
    obtain ⟨e, rt, lf⟩ := argM_dats (k := 1) e
    have hl' : xs.length = (ccs.map frzC).length := by simpa using hl
    have h1 : SR K g σ (x :: (xs ++ vs)) H ρ (.pk i :: (ccs.map frzC ++ cs)) := SR.rot hl' (SR.frzArgs hl (SR.unrot hl h))
    obtain ⟨ex, h2⟩ := h1.moveOut eo
    have hlen : i < ρ.length := rget_lt (by rw [eo]; exact fun z => nomatch z)
    have en : rget (rset ρ i .no) i = .no := rget_rset hlen
    have ea : argM (rset ρ i .no) 0 (.own t o :: ccs.map frzC) = some (.own 1 o :: ds.map C.v) := by
      unfold argM
      rw [e]
      rfl
    obtain ⟨P, entry, ret, exc⟩ := SR.callM (xs := x :: xs) (ccs := .own t o :: ccs.map frzC) h2 (by simp [hl]) ea
    have hb0 : ∀ ccs : List C, (C.own t o :: ccs).any C.isLn = ccs.any C.isLn := fun ccs => rfl
    refine ⟨_, P, _, _, entry, q, fun c rs hk qd v H' S' => ?_, fun y rs ed cls d H' S' xr => ?_⟩
    · have el := entry_len S'
      cases rs with
      | nil => exact qd.elim
      | cons r rs =>
        obtain ⟨ok, qd⟩ := qd
        have er := rt rs (by have : rs.length = xs.length := by simpa using el
                             rw [this, hl])
        have e3 : retags (.own t o :: ccs.map frzC) (r :: rs) = retag (.own t o) r :: ccs.map frzC := by
          show retag (.own t o) r :: retags (ccs.map frzC) rs = _
          rw [er]
        have S1 := ret v H' c (r :: rs) hk S' fun z => by
          have z' := ok (by rw [hb0, isLn_frz] at z; exact z)
          refine ⟨z'.1, fun p hp => ?_⟩
          rw [e3] at hp
          rcases List.mem_cons.mp hp with w | w
          · rw [w]; exact z'.2
          · exact lf p w
        rw [e3] at S1
        have S2 : SR K g σ (x :: (v :: (xs ++ vs))) H' (rset ρ i .no) (retag (.own t o) r :: (c :: (ccs.map frzC ++ cs))) := SR.rot (xs := [v]) (ccs := [c]) rfl S1
        have S3 := S2.putBack ex en (by
          rcases retag_own (t := t) (o := o) (r := r) with ⟨o', w⟩ | w
          · rw [w]; exact .inl rfl
          · exact .inr w)
        rw [rset_rset] at S3
        exact hQ v H' c _ (SR.unCall hl' S3) qd
    · have el := entry_len S'
      cases rs with
      | nil => exact ed.elim
      | cons r rs =>
        obtain ⟨ok, ed⟩ := ed
        have er := rt rs (by have : rs.length = xs.length := by simpa using el
                             rw [this, hl])
        have e3 : retags (.own t o :: ccs.map frzC) (r :: rs) = retag (.own t o) r :: ccs.map frzC := by
          show retag (.own t o) r :: retags (ccs.map frzC) rs = _
          rw [er]
        obtain ⟨S1, hs⟩ := exc H' (r :: rs) S' fun z p hp => by
          have z' := ok (by rw [hb0, isLn_frz] at z; exact z)
          rw [e3] at hp
          rcases List.mem_cons.mp hp with w | w
          · rw [w]; exact z'.2
          · exact lf p w
        rw [e3] at S1 hs
        have S3 := SR.putBack (i := i) S1 ex en (by
          rcases retag_own (t := t) (o := o) (r := r) with ⟨o', w⟩ | w
          · rw [w]; exact .inl rfl
          · exact .inr w)
        rw [rset_rset] at S3
        refine hE cls d σ H' (hX y _ cls d H' S3.popAll (XRep.mono ?_ xr) ed)
        cases hb : ccs.any C.isLn with
        | true => exact .inl (ok hb).1
        | false =>
          refine .inr ((hs (by rw [hb0, isLn_frz]; exact hb)).trans fun a u z => ?_)
          obtain ⟨z1, z2⟩ := hide_some.mp z
          refine hide_some.mpr ⟨fun w => z1 ?_, z2⟩
          rcases List.mem_append.mp w with w | w
          · refine List.mem_append_left _ ?_
            have w' : a ∈ foot σ (rset ρ i (retag (.own t o) r)) := w
            have pm := foot_in (σ := σ) (ρ := rset ρ i .no) (c := retag (.own t o) r) ex (by rw [rset_len]; exact hlen) en
            rw [rset_rset] at pm
            have w2 := pm.mem_iff.mp w'
            show a ∈ (footC (some x) (retag (.own t o) r) ++ foot ((xs ++ vs).map some) (ccs.map frzC ++ cs)) ++ foot σ (rset ρ i .no)
            rcases List.mem_append.mp w2 with w2 | w2
            · exact List.mem_append_left _ (List.mem_append_left _ w2)
            · exact List.mem_append_right _ w2
          · exact List.mem_append_right _ w
  · exact q.elim
end
section
variable {K : PySem.W.Frag} {g : G} {W : WX} {σ : L2.St} {vs : List V} {H : Hp} {ρ : Rho} {cs : List C} {i : Nat}
end
section
variable {X : Cx} {g : G} {W : WX} {CX : CXT} {k : Nat} {f : Addr} {fd : FuncData} {ps : List Str} {S : SpD} {E : XK} {x : Str} {p pos : Pos} {e : Expr} {es : List Expr} {wa : WA}
theorem ee_call (F : FnOk X.prog X.w X.K X.mg X.base CX k f fd ps (spOf X.K S)) (hr : Room k X.A) (hg : Gl X x) (hm : X.mg x = some (.ref f)) (hk : PySem.W.keepIn X.K (.ref f) = true) (hb : Binds X.K fd ps []) (hx : Passes CX X E) (hE : ∀ cls d σ H, W cls d σ H → E cls d H)
    (ha : EA X g W (e :: es) wa) (hdb : (x == ("__debug__" : Str)) = false := by decide) (he : starEach (e :: es) X.env = (false, eval e X.env) :: starEach es X.env := by rfl) (hpl : (backTo pos (starEach es X.env)).any (·.1) = false := by rfl) :
    EE X g W (.Call (.Name x p) (e :: es) [] pos) (wCall S wa) := by
  obtain ⟨t, q, s⟩ := ha.ex
  refine ⟨_, pe_call F hr hg hm hk hb .nil hx q hdb he hpl, fun σ vs H ρ cs QD ED Q hS hw hX hQ => ?_⟩
  refine s σ vs H ρ cs _ ED _ hS hw hX fun xs H1 ccs ρ1 hl S1 q1 => ?_
  rw [List.append_nil]
  unfold callA at q1
  split at q1
  · rename_i i rest
    cases xs with
    | nil => simp at hl
    | cons x xs => exact SR.callP (by simpa using hl) S1 q1 hX hE hQ
  · exact SR.callD hl S1 q1 hX hE fun v H' c S3 q3 => hQ v H' c ρ1 S3 q3
end
end DL

set_option Elab.async false
set_option linter.all false
set_option maxRecDepth 100000
set_option maxHeartbeats 4000000
/-! DL, statements, loops, comprehensions, a def's body. -/
namespace DL
open PySem PySem.Spec PyProof.Rows L2

structure EndsD where
  nx : Rho → Prop
  rt : KC
  bk : Rho → Prop
  ct : Rho → Prop
  ex : KX
abbrev WS := EndsD → Rho → Prop
def plainAll (cs : List C) : Prop := ∀ c ∈ cs, c.plain = true
structure EndsOk (K : PySem.W.Frag) (g : G) (W : WX) (vs : List V) (cs : List C) (DD : EndsD) (D : Ends) : Prop where
  nx : ∀ σ' H' ρ', SR K g σ' vs H' ρ' cs → DD.nx ρ' → D.nx σ' H'
  bk : ∀ σ' H' ρ', SR K g σ' vs H' ρ' cs → DD.bk ρ' → D.bk σ' H'
  ct : ∀ σ' H' ρ', SR K g σ' vs H' ρ' cs → DD.ct ρ' → D.ct σ' H'
  rt : ∀ v σ' H' c ρ', SR K g σ' (v :: vs) H' ρ' (c :: cs) → DD.rt c ρ' → D.rt v H'
  ex : ∀ σ', XEnds K g W σ' DD.ex
def SemS (K : PySem.W.Frag) (g : G) (W : WX) (t : TS) (w : WS) : Prop :=
  ∀ (σ : L2.St) (vs : List V) (H : Hp) (ρ : Rho) (cs : List C) (DD : EndsD) (D : Ends), SR K g σ vs H ρ cs → plainAll cs → w DD ρ → EndsOk K g W vs cs DD D → t D σ H
structure ES (X : Cx) (g : G) (W : WX) (st : Stmt) (w : WS) : Prop where
  ex : ∃ t, PS X st t ∧ SemS X.K g W t w
structure EB (X : Cx) (g : G) (W : WX) (sts : List Stmt) (w : WS) : Prop where
  ex : ∃ t, PSs X sts t ∧ SemS X.K g W t w
theorem plainAll.nopk {cs : List C} (h : plainAll cs) {j i : Nat} : (C.pk j ∈ cs ∨ C.ln j ∈ cs) → j ≠ i := fun q => by
  rcases q with q | q <;> cases h _ q
theorem plainAll.cons {c : C} {cs : List C} (h : plainAll cs) (hc : c.plain = true) : plainAll (c :: cs) := fun q hq => by
  rcases List.mem_cons.mp hq with e | hq
  · rw [e]; exact hc
  · exact h q hq

@[reducible] def wNext : WS := fun DD ρ => DD.nx ρ
def wSeq (w u : WS) : WS := fun DD ρ => w ⟨u DD, DD.rt, DD.bk, DD.ct, DD.ex⟩ ρ
@[reducible] def wDrop (we : WE) : WS := fun DD ρ => we ρ (fun _ ρ1 => DD.nx ρ1) DD.ex
@[reducible] def wRet (we : WE) : WS := fun DD ρ => we ρ (fun c ρ1 => DD.rt c ρ1) DD.ex
@[reducible] def wRetO (i : Nat) : WS := fun DD ρ => match rget ρ i with
  | .own t o => DD.rt (.own t o) (rset ρ i .no)
  | .v d => DD.rt (.v d) ρ
  | _ => False
@[reducible] def wIf (wt : WT) (w u : WS) : WS := fun DD ρ => wt ρ (fun b ρ1 => if b = true then w DD ρ1 else u DD ρ1) DD.ex
@[reducible] def wSet (i : Nat) (we : WE) : WS := fun DD ρ => we ρ (fun c ρ1 => c.plain = true ∧ DD.nx (rset ρ1 i c)) DD.ex
@[reducible] def wSetF (i : Nat) (we : WE) : WS := fun DD ρ => we ρ (fun c ρ1 => (frzC c).plain = true ∧ DD.nx (rset ρ1 i (frzC c))) DD.ex
section
variable {K : PySem.W.Frag} {g : G} {W : WX} {t u : TS} {w w' : WS} {te : TE} {we : WE}
theorem sem_next : SemS K g W tNext wNext := fun σ vs H ρ cs DD D hS hp hw hE => hE.nx σ H ρ hS hw
theorem sem_seq (h : SemS K g W t w) (h' : SemS K g W u w') : SemS K g W (tSeq t u) (wSeq w w') := fun σ vs H ρ cs DD D hS hp hw hE =>
  h σ vs H ρ cs _ _ hS hp hw ⟨fun σ' H' ρ' S' q => h' σ' vs H' ρ' cs DD D S' hp q hE, hE.bk, hE.ct, hE.rt, hE.ex⟩
theorem sem_drop (h : Sem K g W te we) : SemS K g W (tDrop te) (wDrop we) := fun σ vs H ρ cs DD D hS hp hw hE =>
  h σ vs H ρ cs _ _ _ hS hw (hE.ex σ) fun v H' c ρ' S' q => hE.nx σ H' ρ' S'.pop q
theorem sem_ret (h : Sem K g W te we) : SemS K g W (tRet te) (wRet we) := fun σ vs H ρ cs DD D hS hp hw hE =>
  h σ vs H ρ cs _ _ _ hS hw (hE.ex σ) fun v H' c ρ' S' q => hE.rt v σ H' c ρ' S' q
theorem sem_if {tc : TT} {wt : WT} (hc : SemT K g W tc wt) (h : SemS K g W t w) (h' : SemS K g W u w') : SemS K g W (tIfS tc t u) (wIf wt w w') := fun σ vs H ρ cs DD D hS hp hw hE =>
  hc σ vs H ρ cs _ _ _ hS hw (hE.ex σ) fun b H' ρ' S' q => by
    cases b with
    | true => exact h σ vs H' ρ' cs DD D S' hp q hE
    | false => exact h' σ vs H' ρ' cs DD D S' hp q hE
theorem SR.store {σ : L2.St} {vs : List V} {H : Hp} {ρ : Rho} {cs : List C} {i : Nat} {x : V} {c : C} (h : SR K g σ (x :: vs) H ρ (c :: cs)) (hc : c.plain = true) (hj : ∀ j, (C.pk j ∈ cs ∨ C.ln j ∈ cs) → j ≠ i) : SR K g (σ.set i (some x)) vs H (rset ρ i c) cs := by
  by_cases hi : i < σ.length
  · exact h.assign hc hi hj
  · have e1 : σ.set i (some x) = σ := List.set_eq_of_length_le (by omega)
    have e2 : rset ρ i c = ρ := by
      have hl : ρ.length ≤ i := by rw [← h.len]; omega
      clear h hj e1 hi
      induction ρ generalizing i with
      | nil => rfl
      | cons q ρ ih =>
        cases i with
        | zero => simp at hl
        | succ i =>
          show q :: rset ρ i c = q :: ρ
          rw [ih (by simpa using hl)]
    rw [e1, e2]
    exact h.pop
theorem sem_set {i : Nat} (h : Sem K g W te we) : SemS K g W (tAsg te (gName i)) (wSet i we) := fun σ vs H ρ cs DD D hS hp hw hE =>
  h σ vs H ρ cs _ _ _ hS hw (hE.ex σ) fun v H' c ρ' S' q => hE.nx _ H' _ (S'.store q.1 fun j => hp.nopk) q.2
theorem sem_setF {i : Nat} (h : Sem K g W te we) : SemS K g W (tAsg te (gName i)) (wSetF i we) := fun σ vs H ρ cs DD D hS hp hw hE =>
  h σ vs H ρ cs _ _ _ hS hw (hE.ex σ) fun v H' c ρ' S' q => hE.nx _ H' _ (S'.frzTop.store q.1 fun j => hp.nopk) q.2
end
section
variable {X : Cx} {g : G} {W : WX} {st : Stmt} {rest : List Stmt} {w u : WS} {e : Expr} {we : WE} {pos : Pos}
theorem eb_nil : EB X g W [] wNext := ⟨_, pss_nil, sem_next⟩
theorem eb_cons (h : ES X g W st w) (h' : EB X g W rest u) : EB X g W (st :: rest) (wSeq w u) := by
  obtain ⟨t, p, s⟩ := h.ex
  obtain ⟨t', p', s'⟩ := h'.ex
  exact ⟨_, pss_cons p p', sem_seq s s'⟩
theorem eb_one (h : ES X g W st w) : EB X g W [st] w := by
  obtain ⟨t, p, s⟩ := h.ex
  exact ⟨_, pss_one p, s⟩
theorem es_expr (h : EE X g W e we) (hs : swapsWith e none pos.line X.env = pure false := by rfl) : ES X g W (.Expr e pos) (wDrop we) := by
  obtain ⟨t, p, s⟩ := h.ex
  exact ⟨_, ps_expr p hs, sem_drop s⟩
theorem es_ret (h : EE X g W e we) : ES X g W (.Return (some e) pos) (wRet we) := by
  obtain ⟨t, p, s⟩ := h.ex
  exact ⟨_, ps_ret p, sem_ret s⟩
theorem es_retO {i : Nat} {x : Str} {p : Pos} (hL : g.L i = true) (h : PE X (.Name x p) (tVar i)) : ES X g W (.Return (some (.Name x p)) pos) (wRetO i) := by
  refine ⟨_, ps_ret h, fun σ vs H ρ cs DD D hS hp hw hE => ?_⟩
  unfold wRetO at hw
  split at hw
  · rename_i t o eo
    obtain ⟨a, e1, _⟩ := hS.own eo
    obtain ⟨_, S2⟩ := (hS.pushPk e1 hL).moveOut eo
    exact ⟨_, e1, hE.rt _ σ H _ _ S2 hw⟩
  · rename_i d eo
    obtain ⟨x, e1, q⟩ := hS.slot eo
    exact ⟨_, e1, hE.rt _ σ H _ ρ (SR.resV hS (Same.refl H) q) hw⟩
  · exact hw.elim
theorem es_if {c : Expr} {a b : List Stmt} {wt : WT} (hc : ET X g W c wt) (h : EB X g W a w) (h' : EB X g W b u) : ES X g W (.If c a b pos) (wIf wt w u) := by
  obtain ⟨t, p, s⟩ := hc.ex
  obtain ⟨t1, p1, s1⟩ := h.ex
  obtain ⟨t2, p2, s2⟩ := h'.ex
  exact ⟨_, ps_if p p1 p2, sem_if s s1 s2⟩
theorem es_set {i : Nat} {x : Str} {pos' : Pos} (hN : X.N.Nodup) (hi : X.N[i]? = some x) (hx : Loc X.env.scope x) (h : EE X g W e we) (hs : swapsWith e (some (.Name x pos')) pos.line X.env = pure false := by rfl) (hf : X.fn x = true ∨ X.env.scope.names.lookup x = some .local := by first | exact .inl rfl | exact .inr rfl | assumption) :
    ES X g W (.Assign [.Name x pos'] e pos) (wSet i we) := by
  obtain ⟨t, p, s⟩ := h.ex
  exact ⟨_, ps_set hN hi hx p hs hf, sem_set s⟩
theorem es_setF {i : Nat} {x : Str} {pos' : Pos} (hN : X.N.Nodup) (hi : X.N[i]? = some x) (hx : Loc X.env.scope x) (h : EE X g W e we) (hs : swapsWith e (some (.Name x pos')) pos.line X.env = pure false := by rfl) (hf : X.fn x = true ∨ X.env.scope.names.lookup x = some .local := by first | exact .inl rfl | exact .inr rfl | assumption) :
    ES X g W (.Assign [.Name x pos'] e pos) (wSetF i we) := by
  obtain ⟨t, p, s⟩ := h.ex
  exact ⟨_, ps_set hN hi hx p hs hf, sem_setF s⟩
end

/-! ### targets -/
abbrev WG := D → Rho → (Rho → Prop) → Prop
abbrev WGs := List D → Rho → (Rho → Prop) → Prop
def Only (T : List Nat) (σ σ' : L2.St) : Prop := σ'.length = σ.length ∧ ∀ j, j ∉ T → σ'[j]? = σ[j]?
def SemG (K : PySem.W.Frag) (g : G) (T : List Nat) (t : TG) (w : WG) : Prop :=
  ∀ (σ : L2.St) (vs : List V) (H : Hp) (ρ : Rho) (cs : List C) (x : V) (d : D) (QD : Rho → Prop) (Q : L2.St → Hp → Prop), SR K g σ (x :: vs) H ρ (.v d :: cs) → (∀ j ∈ T, ∀ i, (C.pk i ∈ cs ∨ C.ln i ∈ cs) → i ≠ j) → w d ρ QD →
    (∀ σ' H' ρ', SR K g σ' vs H' ρ' cs → DL.Only T σ σ' → QD ρ' → Q σ' H') → t x σ H Q
def SemGs (K : PySem.W.Frag) (g : G) (T : List Nat) (t : TGs) (w : WGs) : Prop :=
  ∀ (σ : L2.St) (vs : List V) (H : Hp) (ρ : Rho) (cs : List C) (xs : List V) (ds : List D) (QD : Rho → Prop) (Q : L2.St → Hp → Prop), xs.length = ds.length → SR K g σ (xs ++ vs) H ρ (ds.map C.v ++ cs) → (∀ j ∈ T, ∀ i, (C.pk i ∈ cs ∨ C.ln i ∈ cs) → i ≠ j) → w ds ρ QD →
    (∀ σ' H' ρ', SR K g σ' vs H' ρ' cs → DL.Only T σ σ' → QD ρ' → Q σ' H') → t xs σ H Q
structure EG (X : Cx) (g : G) (tg : Expr) (T : List Nat) (w : WG) : Prop where
  ex : ∃ t, PG X tg t ∧ SemG X.K g T t w
structure EGs (X : Cx) (g : G) (tgs : List Expr) (T : List Nat) (w : WGs) : Prop where
  ex : ∃ t, PGs X tgs t ∧ SemGs X.K g T t w
@[reducible] def wgName (i : Nat) : WG := fun d ρ Q => Q (rset ρ i (.v d))
@[reducible] def wgNil : WGs := fun ds ρ Q => match ds with
  | [] => Q ρ
  | _ => False
@[reducible] def wgCons (w : WG) (u : WGs) : WGs := fun ds ρ Q => match ds with
  | d :: ds => w d ρ fun ρ1 => u ds ρ1 Q
  | [] => False
@[reducible] def wgTup (n : Nat) (u : WGs) : WG := fun d ρ Q => match d with
  | .tuple ds => ds.length = n ∧ u ds ρ Q
  | _ => False
theorem tot_vs {σ : L2.St} {ρ : Rho} : ∀ {xs : List V} {ds : List D} {vs : List V} {cs : List C}, xs.length = ds.length → tot σ (xs ++ vs) ρ (ds.map C.v ++ cs) = tot σ vs ρ cs
  | [], [], _, _, _ => rfl
  | x :: xs, d :: ds, vs, cs, h => by
    show tot σ (x :: (xs ++ vs)) ρ (.v d :: (ds.map C.v ++ cs)) = _
    rw [foot_cons_v, tot_vs (by simpa using h)]
  | [], _ :: _, _, _, h => by simp at h
  | _ :: _, [], _, _, h => by simp at h
section
variable {K : PySem.W.Frag} {g : G} {σ : L2.St} {vs : List V} {H : Hp} {ρ : Rho} {cs : List C}
theorem SR.pushAll (h : SR K g σ vs H ρ cs) : ∀ {xs : List V} {ds : List D}, DpAll K (hide H (tot σ vs ρ cs ++ g.P0)) xs ds → SR K g σ (xs ++ vs) H ρ (ds.map C.v ++ cs)
  | _, [], q => by cases q; exact h
  | _, d :: ds, q => by
    cases q with
    | cons h1 h2 =>
      have r := SR.pushAll h h2
      have e := tot_vs (σ := σ) (ρ := ρ) (vs := vs) (cs := cs) (DL.DpAll.len h2)
      have q := SR.resV (H' := H) r (Same.refl H) (by rw [e]; exact h1)
      exact q
theorem only_set {i : Nat} {x : Option V} {T : List Nat} (hi : i ∈ T) : DL.Only T σ (σ.set i x) := ⟨by simp, fun j hj => List.getElem?_set_ne (fun e => hj (by rw [← e]; exact hi))⟩
theorem Only.trans {T T' : List Nat} {σ σ1 σ2 : L2.St} (a : DL.Only T σ σ1) (b : DL.Only T' σ1 σ2) : DL.Only (T ++ T') σ σ2 := ⟨b.1.trans a.1, fun j hj => by
  have h : j ∉ T ∧ j ∉ T' := by simpa using hj
  rw [b.2 j h.2, a.2 j h.1]⟩
theorem semG_name {i : Nat} : SemG K g [i] (gName i) (wgName i) := fun σ vs H ρ cs x d QD Q hS hp hw hQ =>
  hQ _ H _ (hS.store rfl fun j q => hp i (by simp) j q) (only_set (by simp)) hw
theorem semGs_nil : SemGs K g [] gNil wgNil := fun σ vs H ρ cs xs ds QD Q hl hS hp hw hQ => by
  cases ds with
  | nil =>
    cases xs with
    | nil => exact ⟨rfl, hQ σ H ρ hS ⟨rfl, fun _ _ => rfl⟩ hw⟩
    | cons _ _ => simp at hl
  | cons _ _ => exact hw.elim
theorem semGs_cons {T T' : List Nat} {t : TG} {u : TGs} {w : WG} {w' : WGs} (h : SemG K g T t w) (h' : SemGs K g T' u w') : SemGs K g (T ++ T') (gCons t u) (wgCons w w') := fun σ vs H ρ cs xs ds QD Q hl hS hp hw hQ => by
  cases ds with
  | nil => exact hw.elim
  | cons d ds =>
    cases xs with
    | nil => simp at hl
    | cons x xs =>
      refine ⟨x, xs, rfl, ?_⟩
      refine h σ (xs ++ vs) H ρ (ds.map C.v ++ cs) x d _ _ hS (fun j hj i q => hp j (List.mem_append_left _ hj) i ?_) hw fun σ1 H1 ρ1 S1 o1 q1 => ?_
      · have nm : ∀ z : C, (∀ e, z ≠ .v e) → z ∈ ds.map C.v ++ cs → z ∈ cs := fun z hz q => by
          rcases List.mem_append.mp q with q | q
          · obtain ⟨e, _, e2⟩ := List.mem_map.mp q
            exact absurd e2.symm (hz e)
          · exact q
        exact q.imp (nm _ fun e z => by cases z) (nm _ fun e z => by cases z)
      · exact h' σ1 vs H1 ρ1 cs xs ds QD Q (by simpa using hl) S1 (fun j hj => hp j (List.mem_append_right _ hj)) q1 fun σ2 H2 ρ2 S2 o2 q2 => hQ σ2 H2 ρ2 S2 (o1.trans o2) q2
theorem semG_tup {n : Nat} {T : List Nat} {t : TGs} {w : WGs} (h : SemGs K g T t w) : SemG K g T (gTup K n t) (wgTup n w) := fun σ vs H ρ cs x d QD Q hS hp hw hQ => by
  cases d with
  | tuple ds =>
    have q := hS.top
    cases q with
    | tup hs ha =>
      rename_i a xs
      have hs' : SqT K H a xs := seqT_same (fun b o e => (hide_some.mp e).2) hs
      refine ⟨a, xs, rfl, hs', by rw [DL.DpAll.len ha]; exact hw.1, ?_⟩
      exact h σ vs H ρ cs xs ds QD Q (DL.DpAll.len ha) (hS.pop.pushAll ha) hp hw.2 hQ
  | _ => exact hw.elim
end
@[reducible] def wAsg (we : WE) (wg : WG) : WS := fun DD ρ => we ρ (fun c ρ1 => match frzC c with
  | .v d => wg d ρ1 DD.nx
  | _ => False) DD.ex
section
variable {X : Cx} {g : G} {W : WX} {e tg : Expr} {es : List Expr} {we : WE} {wg : WG} {ws : WGs} {T T' : List Nat} {pos : Pos}
theorem eg_name {i : Nat} {x : Str} (hN : X.N.Nodup) (hi : X.N[i]? = some x) (hx : Loc X.env.scope x) (hf : X.fn x = true ∨ X.env.scope.names.lookup x = some .local := by first | exact .inl rfl | exact .inr rfl | assumption) : EG X g (.Name x pos) [i] (wgName i) := ⟨_, pg_name hN hi hx hf, semG_name⟩
theorem egs_nil : EGs X g [] [] wgNil := ⟨_, pgs_nil, semGs_nil⟩
theorem egs_cons (h : EG X g e T wg) (h' : EGs X g es T' ws) (hs : (assignEach (e :: es) X.env).map (·.2) = assign e X.env :: (assignEach es X.env).map (·.2) := by rfl) : EGs X g (e :: es) (T ++ T') (wgCons wg ws) := by
  obtain ⟨t, p, s⟩ := h.ex
  obtain ⟨t', p', s'⟩ := h'.ex
  exact ⟨_, pgs_cons p p' hs, semGs_cons s s'⟩
theorem eg_tup {k : Nat} {n : Nat} (hc : X.calm = true) (h : EGs X g es T ws) (hn : (assignEach es X.env).length = n := by rfl) (hst : (assignEach es X.env).findIdx? (·.1) = none := by rfl) : EG X g (.Tuple es k pos) T (wgTup n ws) := by
  obtain ⟨t, p, s⟩ := h.ex
  exact ⟨_, pg_tup hc p hn hst, semG_tup s⟩
theorem es_asg (h : EE X g W e we) (hg : EG X g tg T wg) (hs : swapsWithSole [tg] e pos.line X.env = pure false := by rfl) (hw : swappedStores [tg] e X.env = pure none := by rfl)
    (h1 : (assignEach [tg] X.env).map (·.2) = [assign tg X.env] := by rfl) : ES X g W (.Assign [tg] e pos) (wAsg we wg) := by
  obtain ⟨t, p, s⟩ := h.ex
  obtain ⟨t', p', s'⟩ := hg.ex
  refine ⟨_, ps_asg p p' hs hw h1, fun σ vs H ρ cs DD D hS hp hw hE => ?_⟩
  refine s σ vs H ρ cs _ _ _ hS hw (hE.ex σ) fun v H' c ρ' S' q => ?_
  split at q
  · rename_i d ec
    have S2 := S'.frzTop
    rw [ec] at S2
    exact s' σ vs H' ρ' cs v d _ _ S2 (fun j _ i => hp.nopk) q fun σ2 H2 ρ2 S3 _ q2 => hE.nx σ2 H2 ρ2 S3 q2
  · exact q.elim
end

/-! ### what loops walk -/
structure Walks (K : PySem.W.Frag) (J : It) (hs : List V) (hd ds : List D) : Prop where
  go : ∀ (H : Hp) (O : List Addr) (i : Nat), (∀ a ∈ O, ∃ u, H a = some u) → DpAll K (hide H O) hs hd → i < ds.length → J.go i H
  yld : ∀ (H : Hp) (O : List Addr) (i : Nat) (y : V) (H' : Hp) (d : D), (∀ a ∈ O, ∃ u, H a = some u) → DpAll K (hide H O) hs hd → J.yld i H y H' → ds[i]? = some d → Same H H' ∧ Dp K (hide H' O) y d
  stop : ∀ (H : Hp) (O : List Addr) (i : Nat), (∀ a ∈ O, ∃ u, H a = some u) → DpAll K (hide H O) hs hd → ds.length ≤ i → J.stop i H
abbrev WI := Rho → (List D → Rho → Prop) → KX → Prop
def SemI (K : PySem.W.Frag) (g : G) (W : WX) (t : TI) (w : WI) : Prop :=
  ∀ (σ : L2.St) (vs : List V) (H : Hp) (ρ : Rho) (cs : List C) (QD : List D → Rho → Prop) (ED : KX) (R : It → Hp → Prop), SR K g σ vs H ρ cs → w ρ QD ED → XEnds K g W σ ED →
    (∀ J hs hd ds H' ρ', hs.length = hd.length → SR K g σ (hs ++ vs) H' ρ' (hd.map C.v ++ cs) → Walks K J hs hd ds → QD ds ρ' → R J H') → t σ H R
structure EI (X : Cx) (g : G) (W : WX) (tg iter : Expr) (w : WI) : Prop where
  ex : ∃ t, PI X tg iter t ∧ SemI X.K g W t w
@[reducible] def forK (wg : WG) (body : WS) : List D → EndsD → Rho → Prop
  | [], DD, ρ => DD.nx ρ
  | d :: ds, DD, ρ => wg d ρ fun ρ1 => body ⟨forK wg body ds DD, DD.rt, DD.nx, forK wg body ds DD, DD.ex⟩ ρ1
@[reducible] def wFor (wi : WI) (wg : WG) (body : WS) : WS := fun DD ρ => wi ρ (fun ds ρ1 => forK wg body ds DD ρ1) DD.ex
theorem plainAll.vs {hd : List D} {cs : List C} (h : plainAll cs) : plainAll (hd.map C.v ++ cs) := fun c hc => by
  rcases List.mem_append.mp hc with q | q
  · obtain ⟨d, _, e⟩ := List.mem_map.mp q
    exact e ▸ rfl
  · exact h c q
section
variable {K : PySem.W.Frag} {g : G} {σ : L2.St} {vs : List V} {H : Hp} {ρ : Rho} {cs : List C}
theorem SR.tops {hs : List V} {hd : List D} (hl : hs.length = hd.length) (h : SR K g σ (hs ++ vs) H ρ (hd.map C.v ++ cs)) : DpAll K (hide H (tot σ vs ρ cs ++ g.P0)) hs hd := by
  have e0 : dats ρ (hd.map C.v) = some hd := by
    clear h hl
    induction hd with
    | nil => rfl
    | cons d hd ih => show (match some d, dats ρ (hd.map C.v) with | some d, some ds => some (d :: ds) | _, _ => none) = _; rw [ih]
  have tp := h.tp
  rw [List.map_append] at tp
  have q := (RCs.split (by simpa using hl) tp).1
  rw [tot_vs hl] at q
  clear tp e0 h
  induction hs generalizing hd with
  | nil => cases hd with
    | nil => exact .nil
    | cons _ _ => simp at hl
  | cons x hs ih => cases hd with
    | nil => simp at hl
    | cons d hd =>
      obtain ⟨⟨y, e, q1⟩, q2⟩ := q
      cases e
      exact .cons q1 (ih (by simpa using hl) q2)
theorem sem_for {W : WX} {T : List Nat} {ti : TI} {tgt : TG} {tb : TS} {wi : WI} {wg : WG} {wb : WS} (hi : SemI K g W ti wi) (hg : SemG K g T tgt wg) (hb : SemS K g W tb wb) : SemS K g W (tFor ti tgt tb) (wFor wi wg wb) := by
  intro σ vs H ρ cs DD D hS hp hw hE
  refine hi σ vs H ρ cs _ _ _ hS hw (hE.ex σ) fun J hs hd ds H1 ρ1 hl S1 wk q1 => ?_
  refine ⟨fun i m σ' H' => m = ds.length - i ∧ ∃ ρ', SR K g σ' (hs ++ vs) H' ρ' (hd.map C.v ++ cs) ∧ forK wg wb (ds.drop i) DD ρ', ⟨ds.length, by simp, ρ1, S1, by simpa using q1⟩, ?_⟩
  rintro i m σ2 H2 ⟨rfl, ρ2, S2, q2⟩
  have dom := (SR.pops (by simpa using hl) S2).domO
  have dd := SR.tops hl S2
  by_cases hlt : i < ds.length
  · refine .inr ⟨wk.go H2 _ i dom dd hlt, fun σ' H' => ∃ ρ', SR K g σ' (hs ++ vs) H' ρ' (hd.map C.v ++ cs) ∧ forK wg wb (ds.drop (i + 1)) DD ρ', fun σ' H' q => ⟨ds.length - (i + 1), by omega, rfl, q⟩, fun x H3 y => ?_⟩
    have ed : ds.drop i = ds[i] :: ds.drop (i + 1) := List.drop_eq_getElem_cons hlt
    rw [ed] at q2
    obtain ⟨sm, dx⟩ := wk.yld H2 _ i x H3 ds[i] dom dd y (List.getElem?_eq_getElem hlt)
    have S3 : SR K g σ2 (x :: (hs ++ vs)) H3 ρ2 (.v ds[i] :: (hd.map C.v ++ cs)) := SR.resV S2 sm (by rw [tot_vs hl]; exact dx)
    refine hg σ2 (hs ++ vs) H3 ρ2 (hd.map C.v ++ cs) x ds[i] _ _ S3 (fun j _ k => hp.vs.nopk) q2 fun σ4 H4 ρ4 S4 _ q4 => ?_
    refine hb σ4 (hs ++ vs) H4 ρ4 (hd.map C.v ++ cs) _ _ S4 hp.vs q4 ⟨fun σ' H' ρ' S' q => ⟨ρ', S', q⟩, fun σ' H' ρ' S' q => ?_, fun σ' H' ρ' S' q => ⟨ρ', S', q⟩, fun v σ' H' c ρ' S' q => ?_, hE.ex⟩
    · exact hE.nx σ' H' ρ' (SR.pops (by simpa using hl) S') q
    · exact hE.rt v σ' H' c ρ' (SR.pops (xs := hs) (ccs := hd.map C.v) (by simpa using hl) (SR.unrot (by simpa using hl) S')) q
  · refine .inl ⟨wk.stop H2 _ i dom dd (by omega), ?_⟩
    have ed : ds.drop i = [] := List.drop_eq_nil_of_le (by omega)
    rw [ed] at q2
    exact hE.nx σ2 H2 ρ2 (SR.pops (by simpa using hl) S2) q2
end
section
variable {X : Cx} {g : G} {W : WX} {tg iter : Expr} {body : List Stmt} {wi : WI} {wg : WG} {wb : WS} {T : List Nat} {pos : Pos}
theorem es_for (hp : PassesOwn (model X.prog X.w) X.A X.env X.xe) (hc : X.calm = true) (hi : EI X g W tg iter wi) (hg : EG X g tg T wg) (hb : EB X g W body wb) (hs : ∀ x, foldedSetIterable iter X.env x = pure x := by intro _; rfl) : ES X g W (.For tg iter body [] pos) (wFor wi wg wb) := by
  obtain ⟨t, p, s⟩ := hi.ex
  obtain ⟨t1, p1, s1⟩ := hg.ex
  obtain ⟨t2, p2, s2⟩ := hb.ex
  exact ⟨_, ps_for hp hc p p1 p2 hs, sem_for s s1 s2⟩
@[reducible] def wWhile (wt : WT) (body : WS) : WS := fun DD ρ => ∃ I : Nat → Rho → Prop, (∃ m, I m ρ) ∧ ∀ m ρ, I m ρ →
  wt ρ (fun b ρ1 => if b = true then body ⟨fun ρ2 => ∃ m', m' < m ∧ I m' ρ2, DD.rt, DD.nx, fun ρ2 => ∃ m', m' < m ∧ I m' ρ2, DD.ex⟩ ρ1 else DD.nx ρ1) DD.ex
theorem es_while {c : Expr} {wt : WT} (hp : PassesOwn (model X.prog X.w) X.A X.env X.xe) (hc : ET X g W c wt) (hb : EB X g W body wb) : ES X g W (.While c body [] pos) (wWhile wt wb) := by
  obtain ⟨t, p, s⟩ := hc.ex
  obtain ⟨t2, p2, s2⟩ := hb.ex
  refine ⟨_, ps_while hp p p2, fun σ vs H ρ cs DD D hS hpl hw hE => ?_⟩
  obtain ⟨I, ⟨m0, i0⟩, turn⟩ := hw
  refine ⟨fun m σ H => ∃ ρ, SR X.K g σ vs H ρ cs ∧ I m ρ, ⟨m0, ρ, hS, i0⟩, ?_⟩
  rintro m σ1 H1 ⟨ρ1, S1, i1⟩
  refine s σ1 vs H1 ρ1 cs _ _ _ S1 (turn m ρ1 i1) (hE.ex σ1) fun b H2 ρ2 S2 q2 => ?_
  cases b with
  | false => exact hE.nx σ1 H2 ρ2 S2 q2
  | true =>
    refine ⟨fun σ' H' => ∃ m', m' < m ∧ ∃ ρ', SR X.K g σ' vs H' ρ' cs ∧ I m' ρ', fun σ' H' ⟨m', h1, h2⟩ => ⟨m', h1, h2⟩, ?_⟩
    exact s2 σ1 vs H2 ρ2 cs _ _ S2 hpl q2 ⟨fun σ' H' ρ' S' ⟨m', h1, h2⟩ => ⟨m', h1, ρ', S', h2⟩, fun σ' H' ρ' S' q => hE.nx σ' H' ρ' S' q, fun σ' H' ρ' S' ⟨m', h1, h2⟩ => ⟨m', h1, ρ', S', h2⟩, hE.rt, hE.ex⟩
end
end DL

set_option Elab.async false
set_option linter.all false
set_option maxRecDepth 100000
set_option maxHeartbeats 4000000
/-! DL, a def keeps its promise; what is walked; comprehensions. -/
namespace DL
open PySem PySem.Spec PyProof.Rows L2

@[reducible] def back1 : C → Option C → C
  | .own t _, some (.own t' o') => if t' = t then .own t o' else .no
  | .own _ _, _ => .no
  | a, _ => a
@[reducible] def backs : List C → Rho → List C
  | [], _ => []
  | a :: as, [] => back1 a none :: backs as []
  | a :: as, c :: ρ => back1 a (some c) :: backs as ρ
@[reducible] def startD (n : Nat) (as : List C) : Rho := as ++ List.replicate (n - as.length) .no
section
variable {K : PySem.W.Frag} {g : G}
theorem SR.leave {H H' : Hp} {us : L2.St} {as : List C} {σ' : L2.St} {v : List V} {c : List C} {ρ' : Rho} (h : SR K g us [] H as []) (hH : g.H0 = H) (hO : g.Oa = foot us as) (h' : SR K g σ' v H' ρ' c) (hok : ∀ q ∈ c, q.ok = true) : SR K g us v H' (backs as ρ') c ∧ ∀ a ∈ foot us (backs as ρ'), a ∈ foot σ' ρ' := by
  have hlen := h.len
  have f0 : ∀ (u : Option V) (a : C), (∀ t o, a ≠ .own t o) → footC u a = [] := fun u a ha => by
    cases a with
    | own t o => exact absurd rfl (ha t o)
    | _ => cases u with
      | none => rfl
      | some x => cases x <;> rfl
  have fnil : ∀ (l : List (Option V)), foot l ([] : List C) = [] := fun l => by cases l <;> rfl
  -- an own parameter that is still there stands where it stood
  have own : ∀ (k : Nat) (us0 : List (Option V)) (as0 : List C) (σ0 : List (Option V)) (ρ0 : Rho), us0.length = as0.length → RCs K g [] (hide H (tot us [] as [] ++ g.P0)) H us0 as0 → RCs K g [] (hide H' (tot σ' v ρ' c ++ g.P0)) H' σ0 ρ0 →
      (foot us0 (backs as0 ρ0)).Sublist (foot σ0 ρ0) ∧ ∀ (B : Hp), Same (hide H' (tot σ' v ρ' c ++ g.P0)) B → Same (hide H (tot us [] as [] ++ g.P0)) B → RCs K g [] B H' us0 (backs as0 ρ0) := by
    intro k us0
    induction us0 with
    | nil =>
      intro as0 σ0 ρ0 hl _ _
      cases as0 with
      | nil => refine ⟨?_, fun B _ _ => ?_⟩ <;> cases ρ0 <;> first | exact trivial | exact List.nil_sublist _
      | cons _ _ => simp at hl
    | cons u us0 ih =>
      intro as0 σ0 ρ0 hl r1 r2
      cases as0 with
      | nil => simp at hl
      | cons a as0 =>
        cases ρ0 with
        | nil =>
          obtain ⟨i1, i2⟩ := ih as0 [] [] (by simpa using hl) r1.2 trivial
          have no : (foot (u :: us0) (.no :: backs as0 [])).Sublist (foot σ0 ([] : List C)) ∧ ∀ (B : Hp), Same (hide H' (tot σ' v ρ' c ++ g.P0)) B → Same (hide H (tot us [] as [] ++ g.P0)) B → RCs K g [] B H' (u :: us0) (.no :: backs as0 []) := by
            refine ⟨?_, fun B h1 h2 => ⟨trivial, i2 B h1 h2⟩⟩
            show (footC u .no ++ foot us0 (backs as0 [])).Sublist _
            rw [footC_no, fnil]
            exact i1
          have same : (∀ t o, a ≠ .own t o) → (foot (u :: us0) (a :: backs as0 [])).Sublist (foot σ0 ([] : List C)) ∧ ∀ (B : Hp), Same (hide H' (tot σ' v ρ' c ++ g.P0)) B → Same (hide H (tot us [] as [] ++ g.P0)) B → RCs K g [] B H' (u :: us0) (a :: backs as0 []) := by
            intro ha
            refine ⟨?_, fun B h1 h2 => ⟨?_, i2 B h1 h2⟩⟩
            · show (footC u a ++ foot us0 (backs as0 [])).Sublist _
              rw [f0 u a ha, fnil]
              exact i1
            · cases a with
              | own t o => exact absurd rfl (ha t o)
              | no => trivial
              | v d => obtain ⟨x, e, q⟩ := r1.1; exact ⟨x, e, dp_mono h2 _ _ q⟩
              | p d => obtain ⟨x, e, q, q'⟩ := r1.1; exact ⟨x, e, dp_mono h2 _ _ q, q'.mono h2⟩
              | pk i => exact r1.1
              | ln i => exact r1.1
              | sub i p k => exact r1.1
          cases a with
          | own t o => exact no
          | _ => exact same fun t o z => by cases z
        | cons c0 ρ0 =>
          cases σ0 with
          | nil => exact r2.elim
          | cons s0 σ0 =>
            obtain ⟨i1, i2⟩ := ih as0 σ0 ρ0 (by simpa using hl) r1.2 r2.2
            have no : (foot (u :: us0) (.no :: backs as0 ρ0)).Sublist (foot (s0 :: σ0) (c0 :: ρ0)) ∧ ∀ (B : Hp), Same (hide H' (tot σ' v ρ' c ++ g.P0)) B → Same (hide H (tot us [] as [] ++ g.P0)) B → RCs K g [] B H' (u :: us0) (.no :: backs as0 ρ0) := by
              refine ⟨?_, fun B h1 h2 => ⟨trivial, i2 B h1 h2⟩⟩
              show (footC u .no ++ foot us0 (backs as0 ρ0)).Sublist (footC s0 c0 ++ foot σ0 ρ0)
              rw [footC_no]
              exact i1.trans (List.sublist_append_right _ _)
            have same : (∀ t o, a ≠ .own t o) → (foot (u :: us0) (a :: backs as0 ρ0)).Sublist (foot (s0 :: σ0) (c0 :: ρ0)) ∧ ∀ (B : Hp), Same (hide H' (tot σ' v ρ' c ++ g.P0)) B → Same (hide H (tot us [] as [] ++ g.P0)) B → RCs K g [] B H' (u :: us0) (a :: backs as0 ρ0) := by
              intro ha
              refine ⟨?_, fun B h1 h2 => ⟨?_, i2 B h1 h2⟩⟩
              · show (footC u a ++ foot us0 (backs as0 ρ0)).Sublist (footC s0 c0 ++ foot σ0 ρ0)
                rw [f0 u a ha]
                exact i1.trans (List.sublist_append_right _ _)
              · cases a with
                | own t o => exact absurd rfl (ha t o)
                | no => trivial
                | v d => obtain ⟨x, e, q⟩ := r1.1; exact ⟨x, e, dp_mono h2 _ _ q⟩
                | p d => obtain ⟨x, e, q, q'⟩ := r1.1; exact ⟨x, e, dp_mono h2 _ _ q, q'.mono h2⟩
                | pk i => exact r1.1
                | ln i => exact r1.1
                | sub i p k => exact r1.1
            cases a with
            | own t o =>
              cases c0 with
              | own t' o' =>
                by_cases et : t' = t
                · have e : backs (.own t o :: as0) (.own t' o' :: ρ0) = .own t o' :: backs as0 ρ0 := by
                    show (if t' = t then C.own t o' else .no) :: backs as0 ρ0 = _
                    rw [if_pos et]
                  rw [e]
                  subst et
                  obtain ⟨b1, e1, _, p1, p2⟩ := r1.1
                  obtain ⟨b2, e2, o2, p3, p4⟩ := r2.1
                  have tn : t' ≠ 0 := fun z => by
                    have q := p2 z
                    have q2 := r1.1
                    obtain ⟨b3, e3, o3, _⟩ := q2
                    obtain ⟨u3, o4⟩ := o3.there
                    rw [e1] at e3; cases e3
                    rw [hH] at q
                    rw [q] at o4; cases o4
                  have eb : b1 = b2 := (p1 tn).symm.trans (p3 tn)
                  subst eb
                  subst e1; subst e2
                  exact ⟨i1.append_left _, fun B h1 h2 => ⟨⟨b1, rfl, o2.mono h1 fun _ _ _ q => q, p3, p4⟩, i2 B h1 h2⟩⟩
                · have e : backs (.own t o :: as0) (.own t' o' :: ρ0) = .no :: backs as0 ρ0 := by
                    show (if t' = t then C.own t o' else .no) :: backs as0 ρ0 = _
                    rw [if_neg et]
                  rw [e]
                  exact no
              | _ => exact no
            | _ => exact same fun t o z => by cases z
  obtain ⟨o0, o2⟩ := own 0 us as σ' ρ' hlen h.sl h'.sl
  have o1 : ∀ a ∈ foot us (backs as ρ'), a ∈ foot σ' ρ' := fun a q => o0.subset q
  have sub : ∀ a ∈ tot us v (backs as ρ') c, a ∈ tot σ' v ρ' c := fun a q => by
    rcases List.mem_append.mp q with z | z
    · exact List.mem_append_left _ z
    · exact List.mem_append_right _ (o1 a z)
  have hB2 : Same (hide H (tot us [] as [] ++ g.P0)) (hide H' (tot us v (backs as ρ') c ++ g.P0)) := fun a o e => by
    obtain ⟨h1, h2⟩ := hide_some.mp e
    have nO : a ∉ g.Oa := fun z => h1 (List.mem_append_left _ (List.mem_append_right _ (by rw [← hO]; exact z)))
    have e0 : g.H0 a = some o := by rw [hH]; exact h2
    refine hide_some.mpr ⟨fun z => ?_, h'.fr a o e0 nO⟩
    rcases List.mem_append.mp z with z | z
    · rcases h'.nw a (sub a z) with q | q
      · exact nO q
      · rw [e0] at q; cases q
    · exact h1 (List.mem_append_right _ z)
  refine ⟨?_, o1⟩
  refine h'.gen (fun _ _ _ q => q) (fun _ o q => ⟨o, q⟩) (fun a q => .inl (sub a q)) ?_ (fun hB => o2 _ hB hB2) (fun hB => ?_) h'.pk
  · have n1 := h'.nd
    have n2 := h.nd
    obtain ⟨p1, p2, p3⟩ := List.nodup_append.mp n1
    refine List.nodup_append.mpr ⟨p1, o0.nodup p2, fun a q b z e => ?_⟩
    subst e
    exact p3 a q a (o1 a z) rfl
  · have q := RCs.mono (B' := hide H' (tot us v (backs as ρ') c ++ g.P0)) (H' := H') hB (fun _ _ _ q => q) h'.tp
    refine q.slots fun j z => ?_
    rcases z with z | z <;> cases hok _ z
end
section
variable {P : Program} {w : World} {K : PySem.W.Frag} {mg : Str → Option Value} {base : Heap} {x qual : Str} {params : Arguments} {body : List Stmt} {scope : Scope} {dvs : List V} {kws : List (Str × V)} {f : Addr} {fd : FuncData}
theorem start_SR {H : Hp} {vs : List V} {as : List C} {P : List Addr} {L : Nat → Bool} {n : Nat} {N : List Str} (hn : N.length = n) (h : SR K (mkG H vs as P L0) (vs.map some) [] H as []) : SR K (mkG H vs as P L) (L2.start N vs) [] H (startD n as) [] := by
  have h1 : SR K (mkG H vs as P L) (vs.map some) [] H as [] := h.setL rfl rfl rfl rfl fun i q => by simp at q
  have hl : vs.length = as.length := by have := h.len; simpa using this
  have e1 : ∀ n, foot (List.replicate n none) (List.replicate n C.no) = [] := fun n => by
    induction n with
    | zero => rfl
    | succ n ih => rw [List.replicate_succ, List.replicate_succ]; show footC none .no ++ foot _ _ = []; rw [ih]; rfl
  have en : N.length - vs.length = n - as.length := by omega
  have ft : foot (L2.start N vs) (startD n as) = foot (vs.map some) as := by
    unfold L2.start startD
    rw [foot_app (by simpa using hl), en, e1, List.append_nil]
  have ft2 : tot (L2.start N vs) [] (startD n as) [] = tot (vs.map some) [] as [] := by
    show foot _ _ ++ foot (L2.start N vs) (startD n as) = foot _ _ ++ _
    rw [ft]
  refine h1.gen (fun _ _ _ q => q) (fun _ o q => ⟨o, q⟩) (fun a q => .inl (by rw [ft2] at q; exact q)) (by rw [ft2]; exact h1.nd) (fun hB => ?_) (fun hB => trivial) (fun i q => by simp at q)
  unfold L2.start startD at hB ⊢
  rw [en] at hB ⊢
  refine RCs.app (h1.sl.mono hB fun _ _ _ q => q) ?_
  have go : ∀ (B : Hp) (m : Nat), RCs K (mkG H vs as P L) [] B H (List.replicate m none) (List.replicate m C.no) := fun B m => by
    induction m with
    | zero => trivial
    | succ m ih => exact ⟨trivial, ih⟩
  exact go _ _
abbrev bodyEnds (as : List C) (QD : C → List C → Prop) (ED : XD → List C → Prop) : EndsD := ⟨fun ρ => QD (.v .none) (backs as ρ), fun c ρ => c.ok = true ∧ QD c (backs as ρ), fun _ => False, fun _ => False, fun x ρ => ED x (backs as ρ)⟩
theorem body_ok {X : Cx} (hK : X.K = K) {N : List Str} {n : Nat} (hn : N.length = n) {Sd : SpD} {ww : WS} {L : Nat → Bool} {W : WX} {E : XK} (hE : ∀ cls d σ H, E cls d H → W cls d σ H)
    (hb : ∀ g : G, g.L = L → EB X g W body ww) (hw : ∀ as QD ED, Sd as QD ED → ww (bodyEnds as QD ED) (startD n as)) {vs : List V} {H : Hp} {Q : VK} (h : spOf K Sd vs H Q E) :
    ∃ t, PSs X body t ∧ t { nx := fun _ H' => Q .non H', rt := Q } (L2.start N vs) H := by
  subst hK
  obtain ⟨as, P, QD, ED, entry, sd, ret, exc⟩ := h
  obtain ⟨t, p, s⟩ := (hb (mkG H vs as P L) rfl).ex
  have e1 : SR X.K (mkG H vs as P L) (vs.map some) [] H as [] := entry.setL rfl rfl rfl rfl fun i q => by simp at q
  refine ⟨t, p, s (L2.start N vs) [] H (startD n as) [] _ _ (start_SR hn entry) (fun c q => by simp at q) (hw as QD ED sd) ⟨fun σ' H' ρ' S' q => ?_, fun _ _ _ _ q => q, fun _ _ _ _ q => q, fun v σ' H' c ρ' S' q => ?_, fun σ' y ρ' cls d H' S' xr ed => ?_⟩⟩
  · obtain ⟨S2, _⟩ := SR.leave e1 rfl rfl (SR.resV S' (Same.refl H') .non) (fun q hq => by first | (rw [List.mem_singleton.mp hq]; done) | (rw [List.mem_singleton.mp hq]; rfl))
    exact ret _ _ rfl q _ H' (S2.setL rfl rfl rfl rfl fun i z => by simp at z)
  · obtain ⟨S2, _⟩ := SR.leave e1 rfl rfl S' (fun z hz => by rw [List.mem_singleton.mp hz]; exact q.1)
    refine ret _ _ q.1 q.2 _ H' (S2.setL rfl rfl rfl rfl fun i z => ?_)
    have := q.1
    rcases z with z | z <;> (rw [← List.mem_singleton.mp z] at this; cases this)
  · obtain ⟨S2, o1⟩ := SR.leave e1 rfl rfl S' (fun q hq => by simp at hq)
    refine hE cls d σ' H' (exc y _ ed cls d H' (S2.setL rfl rfl rfl rfl fun i z => by simp at z) (XRep.mono (.inr fun a o e => ?_) xr))
    obtain ⟨h1, h2⟩ := hide_some.mp e
    refine hide_some.mpr ⟨fun z => h1 ?_, h2⟩
    rcases List.mem_append.mp z with z | z
    · refine List.mem_append_left _ ?_
      exact List.mem_append_right _ (o1 a z)
    · exact List.mem_append_right _ z
end
end DL

set_option Elab.async false
set_option linter.all false
set_option maxRecDepth 100000
set_option maxHeartbeats 4000000
/-! DL: what is walked; comprehensions; subscripts, slices, built-ins. -/
namespace DL
open PySem PySem.Spec PyProof.Rows L2

/-! ### a def -/
section
variable {P : Program} {w : World} {K : PySem.W.Frag} {mg : Str → Option Value} {base : Heap} {x qual : Str} {params : Arguments} {body : List Stmt} {scope : Scope} {dvs : List V} {kws : List (Str × V)} {f : Addr} {fd : FuncData}
theorem fn0 {CX : CXT} {N ps : List Str} {n k : Nat} {Sd : SpD} {L : Nat → Bool} {ww : WS} (F : FunD K x qual params body scope dvs kws f fd) (S : FnScope N ps scope) (hn : N.length = n) (len : ∀ as QD ED, Sd as QD ED → as.length = ps.length)
    (hb : ∀ (cdv : Value) (A : Around) (outer : List Env) (s : Shared) (H : Hp) (E : XK), Room k (A.deeper (envOfC qual scope s.heap.objs.size f cdv)) → ∀ g : G, g.L = L → EB (cxOf CX P w K mg base N qual scope f cdv A outer s H E).nox g (fun _ _ _ _ => False) body ww)
    (hw : ∀ as QD ED, Sd as QD ED → ww (bodyEnds as QD fun _ _ => False) (startD n as)) : FnOk P w K mg base CX (k + 1) f fd ps (spOf K Sd) := by
  refine F.ok S (fun vs H Q E h => ?_) fun cdv A outer s H vs Q E hr h => ?_
  · obtain ⟨as, P, QD, ED, entry, sd, _⟩ := h
    have e := entry.len
    rw [List.length_map] at e
    rw [e, len as QD ED sd]
  · obtain ⟨as, P, QD, ED, entry, sd, ret, exc⟩ := h
    have h2 : spOf K (fun as QD ED' => ED' = (fun _ _ => False) ∧ ∃ ED, Sd as QD ED) vs H Q (fun _ _ _ => False) := ⟨as, P, QD, fun _ _ => False, entry, ⟨rfl, ED, sd⟩, ret, fun x rs z => z.elim⟩
    obtain ⟨t, p, q⟩ := body_ok (N := N) (X := (cxOf CX _ w K mg base N qual scope f cdv A outer s H E).nox) (K := K) rfl hn (W := fun _ _ _ _ => False) (E := fun _ _ _ => False) (fun _ _ _ _ z => z)
      (fun g hg => hb cdv A outer s H E hr g hg) (fun as' QD' ED' ⟨z1, ED2, z2⟩ => by rw [z1]; exact hw as' QD' ED2 z2) h2
    exact ⟨t, p.nox, q⟩
theorem fnX {N ps : List Str} {n k : Nat} {Sd : SpD} {L : Nat → Bool} {ww : WS} (F : FunD K x qual params body scope dvs kws f fd) (S : FnScope N ps scope) (hn : N.length = n) (len : ∀ as QD ED, Sd as QD ED → as.length = ps.length)
    (hb : ∀ (cdv : Value) (A : Around) (outer : List Env) (s : Shared) (H : Hp) (E : XK), Room k (A.deeper (envOfC qual scope s.heap.objs.size f cdv)) → ∀ g : G, g.L = L → EB (cxOf (L2.CX P w) P w K mg base N qual scope f cdv A outer s H E) g (fun cls d _ H => E cls d H) body ww)
    (hw : ∀ as QD ED, Sd as QD ED → ww (bodyEnds as QD ED) (startD n as)) : FnOk P w K mg base (L2.CX P w) (k + 1) f fd ps (spOf K Sd) := by
  refine F.ok S (fun vs H Q E h => ?_) fun cdv A outer s H vs Q E hr h => ?_
  · obtain ⟨as, P, QD, ED, entry, sd, _⟩ := h
    have e := entry.len
    rw [List.length_map] at e
    rw [e, len as QD ED sd]
  · exact body_ok (N := N) (X := cxOf (L2.CX P w) P w K mg base N qual scope f cdv A outer s H E) (K := K) rfl hn (W := fun cls d _ H => E cls d H) (E := E) (fun _ _ _ _ z => z) (fun g hg => hb cdv A outer s H E hr g hg) hw h
end

/-! ### what is walked -/
section
variable {K : PySem.W.Frag} {hs : List V} {hd ds : List D}
theorem walks_list {a : Addr} {ds : List D} : Walks K (Itl K a) [.ref a] [.list ds] ds := by
  have rd : ∀ {H : Hp} {O : List Addr}, DpAll K (hide H O) [V.ref a] [PyData.list ds] → ∃ xs, SqL K H a xs ∧ DpAll K (hide H O) xs ds := fun {H O} q => by
    cases q with
    | cons q _ =>
      cases q with
      | lst h1 h2 => exact ⟨_, Same.seq (fun b o e => (hide_some.mp e).2) h1, h2⟩
  refine ⟨fun H O i _ q hi => ?_, fun H O i y H' d _ q hy hd => ?_, fun H O i _ q hi => ?_⟩
  · obtain ⟨xs, h1, h2⟩ := rd q
    have hl : i < xs.length := by rw [DL.DpAll.len h2]; exact hi
    exact ⟨xs, xs[i], h1, List.getElem?_eq_getElem hl⟩
  · obtain ⟨xs, h1, h2⟩ := rd q
    obtain ⟨rfl, h3⟩ := hy
    obtain ⟨v, e1, e2⟩ := DL.DpAll.get h2 hd
    have e3 := h3 xs h1
    rw [e1] at e3
    cases e3
    exact ⟨Same.refl _, e2⟩
  · obtain ⟨xs, h1, h2⟩ := rd q
    exact ⟨xs, h1, by rw [DL.DpAll.len h2]; exact hi⟩
theorem walks_tup {a : Addr} {ds : List D} : Walks K (Itt K a) [.ref a] [.tuple ds] ds := by
  have rd : ∀ {H : Hp} {O : List Addr}, DpAll K (hide H O) [V.ref a] [PyData.tuple ds] → ∃ xs, SqT K H a xs ∧ DpAll K (hide H O) xs ds := fun {H O} q => by
    cases q with
    | cons q _ =>
      cases q with
      | tup h1 h2 => exact ⟨_, seqT_same (fun b o e => (hide_some.mp e).2) h1, h2⟩
  refine ⟨fun H O i _ q hi => ?_, fun H O i y H' d _ q hy hd => ?_, fun H O i _ q hi => ?_⟩
  · obtain ⟨xs, h1, h2⟩ := rd q
    have hl : i < xs.length := by rw [DL.DpAll.len h2]; exact hi
    exact ⟨xs, xs[i], h1, List.getElem?_eq_getElem hl⟩
  · obtain ⟨xs, h1, h2⟩ := rd q
    obtain ⟨rfl, h3⟩ := hy
    obtain ⟨v, e1, e2⟩ := DL.DpAll.get h2 hd
    have e3 := h3 xs h1
    rw [e1] at e3
    cases e3
    exact ⟨Same.refl _, e2⟩
  · obtain ⟨xs, h1, h2⟩ := rd q
    exact ⟨xs, h1, by rw [DL.DpAll.len h2]; exact hi⟩
def rangeD (lo : Int) (n : Nat) : List D := (List.range n).map fun (k : Nat) => PyData.int (lo + k)
theorem walks_range {lo : Int} {n : Nat} : Walks K (Itr lo n) [] [] (rangeD lo n) := by
  refine ⟨fun H O i _ q hi => ?_, fun H O i y H' d _ q hy hd => ?_, fun H O i _ q hi => ?_⟩
  · show i < n
    simpa [rangeD] using hi
  · obtain ⟨rfl, rfl⟩ := hy
    have hi : i < n := by
      have := (List.getElem?_eq_some_iff.mp hd).1
      simpa [rangeD] using this
    have e : (rangeD lo n)[i]? = some (.int (lo + i)) := by
      unfold rangeD
      rw [List.getElem?_map, List.getElem?_range hi]
      rfl
    rw [e] at hd
    cases hd
    exact ⟨Same.refl _, .int _⟩
  · show n ≤ i
    simpa [rangeD] using hi
def strD (x : Str) : List D := x.cps.toList.map fun c => PyData.str ⟨#[c]⟩
theorem walks_str {x : Str} : Walks K (Its x) [] [] (strD x) := by
  refine ⟨fun H O i _ q hi => ?_, fun H O i y H' d _ q hy hd => ?_, fun H O i _ q hi => ?_⟩
  · show i < x.cps.size
    simpa [strD] using hi
  · obtain ⟨rfl, c, e, rfl⟩ := hy
    have e2 : (strD x)[i]? = some (.str ⟨#[c]⟩) := by
      unfold strD
      rw [List.getElem?_map, Array.getElem?_toList, e]
      rfl
    rw [e2] at hd
    cases hd
    exact ⟨Same.refl _, .str _⟩
  · show x.cps.size ≤ i
    simpa [strD] using hi
end
@[reducible] def wIL (we : WE) : WI := fun ρ Q E => we ρ (fun c ρ1 => match frzC c with
  | .v (.list ds) => Q ds ρ1
  | _ => False) E
@[reducible] def wIR1 (wa : WA) : WI := fun ρ Q E => wa ρ (fun cs ρ1 => match cs with
  | [.v (.int j)] => (-(2 ^ 62) ≤ j ∧ j < 2 ^ 62) ∧ Q (rangeD 0 j.toNat) ρ1
  | _ => False) E
section
variable {X : Cx} {g : G} {W : WX} {tg e : Expr} {we : WE} {pos : Pos}
theorem ei_lst (h : EE X g W e we) : EI X g W tg e (wIL we) := by
  obtain ⟨t, p, s⟩ := h.ex
  refine ⟨_, pi_list p, fun σ vs H ρ cs QD ED R hS hw hX hQ => ?_⟩
  refine s σ vs H ρ cs _ ED _ hS hw hX fun x H1 c ρ1 S1 q1 => ?_
  split at q1
  · rename_i ds ec
    have S2 := S1.frzTop
    rw [ec] at S2
    have q := S2.top
    cases q with
    | lst h1 h2 =>
      rename_i a xs
      exact ⟨a, rfl, ⟨xs, Same.seq (fun b o e => (hide_some.mp e).2) h1⟩, hQ _ [.ref a] [.list ds] ds H1 ρ1 rfl S2 walks_list q1⟩
  · exact q1.elim
theorem ei_range1 {a : Expr} {wa : WA} {p : Pos} (hg : Gl X "range") (hm : X.mg "range" = none) (ha : EA X g W [a] wa) (hs : starEach [a] X.env = [(false, eval a X.env)] := by rfl) : EI X g W tg (.Call (.Name "range" p) [a] [] pos) (wIR1 wa) := by
  obtain ⟨t, q, s⟩ := ha.ex
  refine ⟨_, pi_range1 hg hm q hs, fun σ vs H ρ cs QD ED R hS hw hX hQ => ?_⟩
  refine s σ vs H ρ cs _ ED _ hS hw hX fun xs H1 ccs ρ1 hl S1 q1 => ?_
  split at q1
  · rename_i j
    match xs, hl with
    | [x], _ =>
      have q := S1.top
      cases q
      exact ⟨j, rfl, q1.1.1, q1.1.2, hQ _ [] [] _ H1 ρ1 rfl S1.pop walks_range q1.2⟩
  · exact q1.elim
end

/-! ### comprehensions -/
@[reducible] def clr (T : List Nat) (ρ : Rho) : Rho := match T with
  | [] => ρ
  | i :: T => rset (clr T ρ) i .no
@[reducible] def lcK (T : List Nat) (wg : WG) (wt : WT) (we : WE) : List D → List D → Rho → (List D → Rho → Prop) → Prop
  | [], acc, ρ, k => k acc ρ
  | d :: ds, acc, ρ, k => wg d ρ fun ρ1 => wt ρ1 (fun b ρ2 => if b = true then we ρ2 (fun c ρ3 => match frzC c with
      | .v d' => lcK T wg wt we ds (acc ++ [d']) (clr T ρ3) k
      | _ => False) (fun _ _ => False) else lcK T wg wt we ds acc (clr T ρ2) k) (fun _ _ => False)
@[reducible] def wYes : WT := fun ρ Q _ => Q true ρ
structure ETs (X : Cx) (g : G) (W : WX) (ifs : List Expr) (w : WT) : Prop where
  ex : ∃ t, PTs X ifs t ∧ SemT X.K g W t w
theorem ets_nil {X : Cx} {g : G} {W : WX} : ETs X g W [] wYes := ⟨_, pts_nil, fun σ vs H ρ cs QD ED Q hS hw hX hQ => hQ true H ρ hS hw⟩
theorem ets_one {X : Cx} {g : G} {W : WX} {c : Expr} {wt : WT} (h : ET X g W c wt) : ETs X g W [c] wt := by
  obtain ⟨t, p, s⟩ := h.ex
  exact ⟨_, pts_one p, s⟩
theorem foot_agree : ∀ {σ σ' : List (Option V)} {ρ : Rho}, σ'.length = σ.length → (∀ j, rget ρ j ≠ .no → σ'[j]? = σ[j]?) → foot σ' ρ = foot σ ρ
  | [], [], _, _, _ => rfl
  | _ :: _, _ :: _, [], _, _ => rfl
  | v :: σ, v' :: σ', c :: ρ, hl, h => by
    have ih := foot_agree (σ := σ) (σ' := σ') (ρ := ρ) (by simpa using hl) fun j hj => by have := h (j + 1) hj; simpa using this
    have e : footC v' c = footC v c := by
      cases c with
      | no => rw [footC_no, footC_no]
      | _ =>
        have e1 := h 0 (fun z => by cases z)
        have e2 : v' = v := by simpa using e1
        rw [e2]
    show footC v' c ++ foot σ' ρ = footC v c ++ foot σ ρ
    rw [e, ih]
  | [], _ :: _, _, h, _ => by simp at h
  | _ :: _, [], _, h, _ => by simp at h
theorem RCs.agree {K : PySem.W.Frag} {g : G} {s : L2.St} {B H : Hp} : ∀ {σ σ' : List (Option V)} {ρ : Rho}, σ'.length = σ.length → (∀ j, rget ρ j ≠ .no → σ'[j]? = σ[j]?) → RCs K g s B H σ ρ → RCs K g s B H σ' ρ
  | [], [], _, _, _, h => h
  | _ :: _, _ :: _, [], _, _, h => h.elim
  | v :: σ, v' :: σ', c :: ρ, hl, h, r => by
    refine ⟨?_, RCs.agree (σ := σ) (σ' := σ') (ρ := ρ) (by simpa using hl) (fun j hj => by have := h (j + 1) hj; simpa using this) r.2⟩
    cases c with
    | no => trivial
    | _ =>
      have e1 := h 0 (fun z => by cases z)
      have e2 : v' = v := by simpa using e1
      rw [e2]
      exact r.1
  | [], _ :: _, _, h, _, _ => by simp at h
  | _ :: _, [], _, h, _, _ => by simp at h
section
variable {K : PySem.W.Frag} {g : G} {σ σ' : L2.St} {vs : List V} {H : Hp} {ρ : Rho} {cs : List C}
theorem SR.agree (h : SR K g σ vs H ρ cs) (hl : σ'.length = σ.length) (hj : ∀ j, rget ρ j ≠ .no → σ'[j]? = σ[j]?) (hp : ∀ j, (C.pk j ∈ cs ∨ C.ln j ∈ cs) → σ'[j]? = σ[j]?) : SR K g σ' vs H ρ cs := by
  have ft : tot σ' vs ρ cs = tot σ vs ρ cs := by
    show foot (vs.map some) cs ++ foot σ' ρ = _
    rw [foot_agree hl hj]
  exact h.gen (fun _ _ _ q => q) (fun _ o q => ⟨o, q⟩) (fun a q => .inl (by rw [ft] at q; exact q)) (by rw [ft]; exact h.nd) (fun hB => (h.sl.mono hB fun _ _ _ q => q).agree hl hj) (fun hB => (h.tp.mono hB fun _ _ _ q => q).slots hp) h.pk
theorem rget_rset_ne : ∀ {ρ : Rho} {i j : Nat} {c : C}, i ≠ j → rget (rset ρ i c) j = rget ρ j
  | [], _, _, _, _ => rfl
  | _ :: _, 0, 0, _, h => absurd rfl h
  | _ :: _, 0, _ + 1, _, _ => rfl
  | _ :: _, _ + 1, 0, _, _ => rfl
  | _ :: ρ, i + 1, j + 1, c, h => rget_rset_ne (ρ := ρ) (i := i) (j := j) (c := c) (fun e => h (by rw [e]))
theorem rget_over : ∀ {ρ : Rho} {i : Nat}, ρ.length ≤ i → rget ρ i = .no
  | [], _, _ => rfl
  | _ :: _, 0, h => by simp at h
  | _ :: ρ, i + 1, h => rget_over (ρ := ρ) (i := i) (by simpa using h)
theorem clr_len : ∀ {T : List Nat}, (clr T ρ).length = ρ.length
  | [] => rfl
  | i :: T => by show (rset (clr T ρ) i .no).length = _; rw [rset_len, clr_len]
theorem clr_in : ∀ {T : List Nat} {j : Nat}, j ∈ T → rget (clr T ρ) j = .no
  | i :: T, j, h => by
    show rget (rset (clr T ρ) i .no) j = .no
    by_cases e : i = j
    · subst e
      by_cases hl : i < ρ.length
      · exact rget_rset (by rw [clr_len]; exact hl)
      · exact rget_over (by rw [rset_len, clr_len]; omega)
    · rw [rget_rset_ne e]
      exact clr_in ((List.mem_cons.mp h).resolve_left fun z => e z.symm)
theorem SR.clrs (h : SR K g σ vs H ρ cs) : ∀ (T : List Nat), SR K g σ vs H (clr T ρ) cs
  | [] => h
  | i :: T => (SR.clrs h T).clear i
theorem wipe_get {T : List Nat} {j : Nat} (h : j ∉ T) : (wipe σ T)[j]? = σ[j]? := wipe_out h
theorem SR.wiped {T : List Nat} (h : SR K g σ vs H ρ cs) (hT : ∀ j ∈ T, rget ρ j = .no) (hL : ∀ j ∈ T, g.L j = false) : SR K g (wipe σ T) vs H ρ cs :=
  h.agree (wipe_length σ T) (fun j hj => wipe_get fun z => hj (hT j z)) fun j hj => wipe_get fun z => by
    have := h.pk j hj
    rw [hL j z] at this; cases this
theorem wipe_in : ∀ {T : List Nat} {j : Nat}, j ∈ T → j < σ.length → (wipe σ T)[j]? = some none
  | i :: T, j, h, hl => by
    show ((wipe σ T).set i none)[j]? = some none
    by_cases e : i = j
    · subst e
      rw [List.getElem?_set_self (by rw [wipe_length]; exact hl)]
    · rw [List.getElem?_set_ne e]
      exact wipe_in ((List.mem_cons.mp h).resolve_left fun z => e z.symm) hl
theorem only_wipe {T : List Nat} (h : DL.Only T σ σ') : wipe σ' T = wipe σ T := by
  apply List.ext_getElem?
  intro j
  by_cases hj : j ∈ T
  · by_cases hl : j < σ.length
    · rw [wipe_in hj hl, wipe_in hj (by rw [h.1]; exact hl)]
    · rw [List.getElem?_eq_none (by rw [wipe_length, h.1]; omega), List.getElem?_eq_none (by rw [wipe_length]; omega)]
  · rw [wipe_get hj, wipe_get hj, h.2 j hj]
theorem wipe_wipe {T : List Nat} : wipe (wipe σ T) T = wipe σ T := only_wipe ⟨wipe_length σ T, fun j hj => wipe_get hj⟩
end
def keptD (ρ : Rho) : List Nat → List D
  | [] => []
  | i :: T => (match rget ρ i with
    | .v d => d
    | _ => .none) :: keptD ρ T
section
variable {K : PySem.W.Frag} {g : G} {σ : L2.St} {vs : List V} {H : Hp} {ρ : Rho} {cs : List C}
theorem keptD_at (h : SR K g σ vs H ρ cs) : ∀ (T : List Nat), ∃ xs : List V, xs.length = (keptD ρ T).length ∧ DpAll K (hide H (tot σ vs ρ cs ++ g.P0)) xs (keptD ρ T) ∧ ∀ (k i : Nat) (d : D), T[k]? = some i → rget ρ i = .v d → ∃ x, xs[k]? = some x ∧ σ[i]? = some (some x)
  | [] => ⟨[], rfl, .nil, fun k i d e => by simp at e⟩
  | i :: T => by
    obtain ⟨xs, h1, h2, h3⟩ := keptD_at h T
    cases e : rget ρ i with
    | v d =>
      obtain ⟨x, e1, q⟩ := h.slot e
      have ek : keptD ρ (i :: T) = d :: keptD ρ T := by show (match rget ρ i with | .v d => d | _ => .none) :: _ = _; rw [e]
      rw [ek]
      refine ⟨x :: xs, by simp [h1], .cons q h2, fun k i' d' e2 e3 => ?_⟩
      cases k with
      | zero =>
        have e4 : i = i' := by simpa using e2
        subst e4
        exact ⟨x, rfl, e1⟩
      | succ k => obtain ⟨y, y1, y2⟩ := h3 k i' d' (by simpa using e2) e3; exact ⟨y, by simpa using y1, y2⟩
    | _ =>
      have ek : keptD ρ (i :: T) = .none :: keptD ρ T := by show (match rget ρ i with | .v d => d | _ => .none) :: _ = _; rw [e]
      rw [ek]
      refine ⟨.non :: xs, by simp [h1], .cons .non h2, fun k i' d' e2 e3 => ?_⟩
      cases k with
      | zero =>
        have e4 : i = i' := by simpa using e2
        subst e4
        rw [e] at e3; cases e3
      | succ k => obtain ⟨y, y1, y2⟩ := h3 k i' d' (by simpa using e2) e3; exact ⟨y, by simpa using y1, y2⟩
end
end DL

set_option Elab.async false
set_option linter.all false
set_option maxRecDepth 100000
set_option maxHeartbeats 4000000
/-! DL: comprehensions, own lists changed. -/
namespace DL
open PySem PySem.Spec PyProof.Rows L2

/-! ### one reading for a piece of syntax, whatever the context -/
def tOfE (K : PySem.W.Frag) (g : G) (W : WX) (w : WE) : TE := fun σ H Q => ∃ vs ρ cs QD ED, SR K g σ vs H ρ cs ∧ w ρ QD ED ∧ XEnds K g W σ ED ∧ ∀ v H' c ρ', SR K g σ (v :: vs) H' ρ' (c :: cs) → QD c ρ' → Q v H'
def tOfT (K : PySem.W.Frag) (g : G) (W : WX) (w : WT) : TT := fun σ H Q => ∃ vs ρ cs QD ED, SR K g σ vs H ρ cs ∧ w ρ QD ED ∧ XEnds K g W σ ED ∧ ∀ b H' ρ', SR K g σ vs H' ρ' cs → QD b ρ' → Q b H'
def tOfG (K : PySem.W.Frag) (g : G) (T : List Nat) (w : WG) : TG := fun x σ H Q => ∃ vs ρ cs d QD, SR K g σ (x :: vs) H ρ (.v d :: cs) ∧ (∀ j ∈ T, ∀ i, (C.pk i ∈ cs ∨ C.ln i ∈ cs) → i ≠ j) ∧ w d ρ QD ∧ ∀ σ' H' ρ', SR K g σ' vs H' ρ' cs → DL.Only T σ σ' → QD ρ' → Q σ' H'
section
variable {X : Cx} {g : G} {W : WX} {e : Expr} {ifs : List Expr} {T : List Nat}
theorem EE.can {w : WE} (h : EE X g W e w) : PE X e (tOfE X.K g W w) := by
  obtain ⟨t, p, s⟩ := h.ex
  exact ⟨fun pins sh σ H Q I ⟨vs, ρ, cs, QD, ED, hS, hw, hX, hQ⟩ => p.run pins sh σ H Q I (s σ vs H ρ cs QD ED Q hS hw hX hQ)⟩
theorem ETs.can {w : WT} (h : ETs X g W ifs w) : PTs X ifs (tOfT X.K g W w) := by
  obtain ⟨t, p, s⟩ := h.ex
  exact ⟨fun pins sh σ H Q I ⟨vs, ρ, cs, QD, ED, hS, hw, hX, hQ⟩ => p.run pins sh σ H Q I (s σ vs H ρ cs QD ED Q hS hw hX hQ)⟩
theorem EG.can {w : WG} (h : EG X g e T w) : PG X e (tOfG X.K g T w) := by
  obtain ⟨t, p, s⟩ := h.ex
  exact ⟨fun pins sh σ H x u Q I r ⟨vs, ρ, cs, d, QD, hS, hp, hw, hQ⟩ => p.run pins sh σ H x u Q I r (s σ vs H ρ cs x d QD Q hS hp hw hQ)⟩
end

section
variable {K : PySem.W.Frag} {g : G} {σ : L2.St} {vs : List V} {H H' : Hp} {ρ : Rho} {cs : List C}
theorem SR.mutTopG {a : Addr} {t : Nat} {o o' : OD} (h : SR K g σ (.ref a :: vs) H ρ (.own t o :: cs)) (keep : ∀ b u, b ∉ o.fp a → H b = some u → H' b = some u) (dom : ∀ b u, H b = some u → ∃ u', H' b = some u')
    (fr : ∀ b ∈ o'.fp a, b ∈ o.fp a ∨ H b = none) (nd' : (o'.fp a).Nodup) (new : OwnAt K (hide H' (tot σ (.ref a :: vs) ρ (.own t o' :: cs) ++ g.P0)) H' a o') : SR K g σ (.ref a :: vs) H' ρ (.own t o' :: cs) := by
  obtain ⟨b, e, q1, q2, q3⟩ := h.tp.1
  cases e
  have nd := h.nd
  rw [foot_cons_own] at nd
  obtain ⟨nd1, nd2, nd3⟩ := List.nodup_append.mp nd
  have na : ∀ b ∈ tot σ vs ρ cs, b ∉ o.fp a := fun b z w => nd3 b w b z rfl
  refine h.gen (fun b u n q => keep b u (fun z => n (by rw [foot_cons_own]; exact List.mem_append_left _ z)) q) dom (fun b q => ?_) ?_ (fun hB => h.sl.mono hB fun b z u q => keep b u (na b (List.mem_append_right _ z)) q) (fun hB => ?_) (fun j q => h.pk j ?_)
  · rw [foot_cons_own] at q ⊢
    rcases List.mem_append.mp q with z | z
    · exact (fr b z).imp (fun w => List.mem_append_left _ w) id
    · exact .inl (List.mem_append_right _ z)
  · rw [foot_cons_own]
    refine List.nodup_append.mpr ⟨nd', nd2, fun b z c w e => ?_⟩
    subst e
    rcases fr b z with y | y
    · exact na b w y
    · obtain ⟨u, e⟩ := h.pop.there b w
      rw [y] at e; cases e
  · refine ⟨⟨a, rfl, new, q2, q3⟩, h.tp.2.mono hB fun b z u q => keep b u (na b (List.mem_append_left _ z)) q⟩
  · simp only [List.mem_cons] at q ⊢
    rcases q with (z | z) | (z | z)
    · cases z
    · exact .inl (.inr z)
    · cases z
    · exact .inr (.inr z)
theorem SR.mutTop {a : Addr} {t : Nat} {o o' : OD} (h : SR K g σ (.ref a :: vs) H ρ (.own t o :: cs)) (keep : ∀ b u, b ≠ a → H b = some u → H' b = some u) (new : OwnAt K (hide H (tot σ (.ref a :: vs) ρ (.own t o :: cs) ++ g.P0)) H' a o') (f1 : o.fp a = [a] := by rfl) (f2 : o'.fp a = [a] := by rfl) : SR K g σ (.ref a :: vs) H' ρ (.own t o' :: cs) := by
  have ft : tot σ (.ref a :: vs) ρ (.own t o' :: cs) = tot σ (.ref a :: vs) ρ (.own t o :: cs) := by rw [foot_cons_own, foot_cons_own, f1, f2]
  refine h.mutTopG (fun b u n q => keep b u (fun z => n (by rw [f1, z]; exact List.mem_singleton.mpr rfl)) q) (fun b u q => ?_) (fun b z => .inl (by rw [f1, ← f2]; exact z)) (by rw [f2]; exact List.nodup_cons.mpr ⟨by simp, .nil⟩) ?_
  · by_cases e : b = a
    · rw [e]; exact new.there
    · exact ⟨u, keep b u e q⟩
  · rw [ft]
    refine new.mono (fun b u q => ?_) fun _ _ _ z => z
    obtain ⟨h1, h2⟩ := hide_some.mp q
    refine hide_some.mpr ⟨h1, keep b u (fun z => h1 ?_) h2⟩
    refine List.mem_append_left _ ?_
    rw [foot_cons_own, f1, z]
    exact List.mem_append_left _ (List.mem_singleton.mpr rfl)
theorem SR.appTop {a : Addr} {y : V} {d : D} {t : Nat} {ds : List D} (h : SR K g σ (y :: .ref a :: vs) H ρ (.v d :: .own t (.lst ds) :: cs)) : ∃ xs, H a = some (.lst xs) ∧ xs.length = ds.length ∧ SR K g σ (.ref a :: vs) (upd H a (.lst (xs ++ [y]))) ρ (.own t (.lst (ds ++ [d])) :: cs) := by
  have hy := h.top
  have h1 := h.pop
  obtain ⟨b, e, ⟨xs, q1, q2⟩, _⟩ := id h1.tp.1
  cases e
  refine ⟨xs, q1, DL.DpAll.len q2, h1.mutTop (fun b u n q => by rw [upd_ne n]; exact q) ⟨xs ++ [y], upd_same, ?_⟩⟩
  exact DL.DpAll.app q2 (.cons hy .nil)
end
@[reducible] def back (ρ : Rho) : List Nat → Rho → Rho
  | [], ρ' => ρ'
  | i :: T, ρ' => back ρ T (rset ρ' i (match rget ρ i with
    | .v d => .v d
    | _ => .no))
section
variable {K : PySem.W.Frag} {g : G} {σ : L2.St} {vs : List V} {H H' : Hp} {ρ ρ0 : Rho} {cs : List C}
theorem SR.backs_ : ∀ {T : List Nat} {ks : List V} {ρ : Rho}, ks.length = (keptD ρ0 T).length → (∀ (k i : Nat) (d : D), T[k]? = some i → rget ρ0 i = .v d → ∃ x, ks[k]? = some x ∧ σ[i]? = some (some x)) → SR K g σ (ks ++ vs) H ρ ((keptD ρ0 T).map C.v ++ cs) → SR K g σ vs H (back ρ0 T ρ) cs
  | [], ks, ρ, hl, _, h => by
    cases ks with
    | nil => exact h
    | cons _ _ => simp [keptD] at hl
  | i :: T, ks, ρ, hl, hk, h => by
    cases ks with
    | nil => simp [keptD] at hl
    | cons x ks =>
      have hk' : ∀ (k j : Nat) (d : D), T[k]? = some j → rget ρ0 j = .v d → ∃ y, ks[k]? = some y ∧ σ[j]? = some (some y) := fun k j d e1 e2 => by
        obtain ⟨y, y1, y2⟩ := hk (k + 1) j d (by simpa using e1) e2
        exact ⟨y, by simpa using y1, y2⟩
      cases e : rget ρ0 i with
      | v d =>
        have ek : keptD ρ0 (i :: T) = d :: keptD ρ0 T := by show (match rget ρ0 i with | .v d => d | _ => .none) :: _ = _; rw [e]
        rw [ek] at h hl
        obtain ⟨y, y1, y2⟩ := hk 0 i d rfl e
        have e3 : x = y := by simpa using y1
        subst e3
        have hlt : i < ρ.length := by rw [← h.len]; exact (List.getElem?_eq_some_iff.mp y2).1
        have h1 : SR K g σ (x :: (ks ++ vs)) H (rset ρ i .no) (.v d :: ((keptD ρ0 T).map C.v ++ cs)) := h.clear i
        have h2 := h1.moveIn rfl y2 (rget_rset hlt)
        rw [rset_rset] at h2
        show SR K g σ vs H (back ρ0 T (rset ρ i (match rget ρ0 i with | .v d => .v d | _ => .no))) cs
        rw [e]
        exact SR.backs_ (by simpa using hl) hk' h2
      | _ =>
        have ek : keptD ρ0 (i :: T) = .none :: keptD ρ0 T := by show (match rget ρ0 i with | .v d => d | _ => .none) :: _ = _; rw [e]
        rw [ek] at h hl
        have h1 : SR K g σ (ks ++ vs) H (rset ρ i .no) ((keptD ρ0 T).map C.v ++ cs) := (SR.pop (x := x) (c := .v .none) h).clear i
        show SR K g σ vs H (back ρ0 T (rset ρ i (match rget ρ0 i with | .v d => .v d | _ => .no))) cs
        rw [e]
        exact SR.backs_ (by simpa using hl) hk' h1
end
theorem SR.midV {K : PySem.W.Frag} {g : G} {σ : L2.St} {vs xs hs : List V} {H : Hp} {ρ : Rho} {cs ccs : List C} {hd : List D} (hl : xs.length = ccs.length) (hh : hs.length = hd.length) (h : SR K g σ (xs ++ (hs ++ vs)) H ρ (ccs ++ (hd.map C.v ++ cs))) :
    DpAll K (hide H (tot σ (xs ++ (hs ++ vs)) ρ (ccs ++ (hd.map C.v ++ cs)) ++ g.P0)) hs hd := by
  have tp := h.tp
  rw [List.map_append, List.map_append] at tp
  have q := (RCs.split (by simpa using hh) (RCs.split (by simpa using hl) tp).2).1
  revert q
  generalize hide H _ = B
  intro q
  clear tp h
  induction hs generalizing hd with
  | nil => cases hd with
    | nil => exact .nil
    | cons _ _ => simp at hh
  | cons x hs ih => cases hd with
    | nil => simp at hh
    | cons d hd =>
      obtain ⟨⟨y, e, q1⟩, q2⟩ := q
      cases e
      exact .cons q1 (ih (by simpa using hh) q2)
@[reducible] def wLcB (T : List Nat) (wi : WI) (wg : WG) (wt : WT) (we : WE) : WE := fun ρ Q E => wi ρ (fun ds ρ1 => ds.length ≤ sizeLine ∧ lcK T wg wt we ds [] (clr T ρ1) fun acc ρ2 => Q (.own 0 (.lst acc)) (back ρ1 T ρ2)) E
abbrev W0 : WX := fun _ _ _ _ => False
section
variable {K : PySem.W.Frag} {g : G} {W : WX} {T : List Nat} {ti : TI} {wi : WI} {wg : WG} {wt : WT} {we : WE}
theorem sem_lc (hL : ∀ j ∈ T, g.L j = false) (hi : SemI K g W ti wi) : Sem K g W (tLc ti (tOfG K g T wg) (tOfT K g W0 wt) (tOfE K g W0 we) T) (wLcB T wi wg wt we) := by
  intro σ vs H ρ cs QD ED Q hS hw hX hQ
  refine hi σ vs H ρ cs _ ED _ hS hw hX fun J hs hd ds H1 ρ1 hl S1 wk ⟨hlen, q1⟩ D nD => ?_
  obtain ⟨ks, k1, k2, k3⟩ := keptD_at S1 T
  have S2 : SR K g σ (ks ++ (hs ++ vs)) H1 ρ1 ((keptD ρ1 T).map C.v ++ (hd.map C.v ++ cs)) := S1.pushAll k2
  have S3 := S2.clrs T
  have S4 := S3.wiped (T := T) (fun j hj => clr_in hj) hL
  have S5 : SR K g (wipe σ T) (.ref D :: (ks ++ (hs ++ vs))) (upd H1 D (.lst [])) (clr T ρ1) (.own 0 (.lst []) :: ((keptD ρ1 T).map C.v ++ (hd.map C.v ++ cs))) := SR.res S4 (same_new nD) (new_lst nD .nil)
  refine ⟨fun i m H => m = ds.length - i ∧ ∃ acc ρ', SR K g (wipe σ T) (.ref D :: (ks ++ (hs ++ vs))) H ρ' (.own 0 (.lst acc) :: ((keptD ρ1 T).map C.v ++ (hd.map C.v ++ cs))) ∧ (∀ j ∈ T, rget ρ' j = .no) ∧ acc.length ≤ i ∧ lcK T wg wt we (ds.drop i) acc ρ' fun acc ρ2 => QD (.own 0 (.lst acc)) (back ρ1 T ρ2),
    ⟨ds.length, by simp, [], clr T ρ1, S5, fun j hj => clr_in hj, Nat.zero_le _, by simpa using q1⟩, ?_⟩
  rintro i m H2 ⟨rfl, acc, ρ2, S6, hno, hacc, q6⟩
  have hlk : ks.length = ((keptD ρ1 T).map C.v).length := by simpa using k1
  have hlh : hs.length = (hd.map C.v).length := by simpa using hl
  have S7 : SR K g (wipe σ T) (hs ++ vs) H2 ρ2 (hd.map C.v ++ cs) := SR.pops hlk S6.pop
  have dd := SR.tops hl S7
  have dom := (SR.pops hlh S7).domO
  by_cases hlt : i < ds.length
  · refine .inr ⟨wk.go H2 _ i dom dd hlt, fun H' => ∃ acc ρ', SR K g (wipe σ T) (.ref D :: (ks ++ (hs ++ vs))) H' ρ' (.own 0 (.lst acc) :: ((keptD ρ1 T).map C.v ++ (hd.map C.v ++ cs))) ∧ (∀ j ∈ T, rget ρ' j = .no) ∧ acc.length ≤ i + 1 ∧ lcK T wg wt we (ds.drop (i + 1)) acc ρ' fun acc ρ2 => QD (.own 0 (.lst acc)) (back ρ1 T ρ2),
      fun H' q => ⟨ds.length - (i + 1), by omega, rfl, q⟩, fun x H3 y => ?_⟩
    have ed : ds.drop i = ds[i] :: ds.drop (i + 1) := List.drop_eq_getElem_cons hlt
    rw [ed] at q6
    obtain ⟨sm, dx⟩ := wk.yld H2 _ i x H3 ds[i] dom dd y (List.getElem?_eq_getElem hlt)
    have dd2 := SR.midV (xs := .ref D :: ks) (ccs := .own 0 (.lst acc) :: (keptD ρ1 T).map C.v) (by simp [k1]) hl S6
    have dx2 := (wk.yld H2 _ i x H3 ds[i] S6.domO dd2 y (List.getElem?_eq_getElem hlt)).2
    have S9 : SR K g (wipe σ T) (x :: .ref D :: (ks ++ (hs ++ vs))) H3 ρ2 (.v ds[i] :: .own 0 (.lst acc) :: ((keptD ρ1 T).map C.v ++ (hd.map C.v ++ cs))) := SR.resV S6 sm dx2
    have noX : ∀ σ', XEnds K g W0 σ' (fun _ _ => False) := fun σ' _ _ _ _ _ _ _ z => z
    -- a turn's end
    have turn : ∀ {σ2 : L2.St} {H' : Hp} {ρ' : Rho} {acc' : List PyData}, DL.Only T (wipe σ T) σ2 → SR K g σ2 (.ref D :: (ks ++ (hs ++ vs))) H' ρ' (.own 0 (.lst acc') :: ((keptD ρ1 T).map C.v ++ (hd.map C.v ++ cs))) → acc'.length ≤ i + 1 → lcK T wg wt we (ds.drop (i + 1)) acc' (clr T ρ') (fun acc ρ2 => QD (.own 0 (.lst acc)) (back ρ1 T ρ2)) →
        ∃ acc ρ', SR K g (wipe σ T) (.ref D :: (ks ++ (hs ++ vs))) H' ρ' (.own 0 (.lst acc) :: ((keptD ρ1 T).map C.v ++ (hd.map C.v ++ cs))) ∧ (∀ j ∈ T, rget ρ' j = .no) ∧ acc.length ≤ i + 1 ∧ lcK T wg wt we (ds.drop (i + 1)) acc ρ' fun acc ρ2 => QD (.own 0 (.lst acc)) (back ρ1 T ρ2) := by
      intro σ2 H' ρ' acc' on S hle q
      have S' := (S.clrs T).wiped (T := T) (fun j hj => clr_in hj) hL
      rw [only_wipe on, wipe_wipe] at S'
      exact ⟨acc', clr T ρ', S', fun j hj => clr_in hj, hle, q⟩
    refine ⟨_, ρ2, _, ds[i], _, S9, fun j hj k q e => ?_, q6, fun σ2 H4 ρ4 S10 on q10 => ⟨by rw [only_wipe on, wipe_wipe], _, ρ4, _, _, fun _ _ => False, S10, q10, noX σ2, fun b H5 ρ5 S11 q11 => ?_⟩⟩
    · have q' := S6.pk k q
      rw [e, hL j hj] at q'; cases q'
    · cases b with
      | false =>
        rw [if_neg Bool.false_ne_true] at q11 ⊢
        exact turn on S11 (by omega) q11
      | true =>
        rw [if_pos rfl] at q11 ⊢
        refine ⟨_, ρ5, _, _, fun _ _ => False, S11, q11, noX σ2, fun z H6 c ρ6 S12 q12 => ?_⟩
        split at q12
        · rename_i d' ec
          have S13 := S12.frzTop
          rw [ec] at S13
          obtain ⟨zs, e1, e2, S14⟩ := S13.appTop
          exact ⟨zs, e1, by omega, turn on S14 (by simp; omega) q12⟩
        · exact q12.elim
  · refine .inl ⟨wk.stop H2 _ i dom dd (by omega), ?_⟩
    have ed : ds.drop i = [] := List.drop_eq_nil_of_le (by omega)
    rw [ed] at q6
    have S8 : SR K g σ (.ref D :: (ks ++ (hs ++ vs))) H2 ρ2 (.own 0 (.lst acc) :: ((keptD ρ1 T).map C.v ++ (hd.map C.v ++ cs))) := by
      refine S6.agree (wipe_length σ T).symm (fun j hj => (wipe_get fun z => hj (hno j z)).symm) fun j hj => (wipe_get fun z => ?_).symm
      have q' := S6.pk j hj
      rw [hL j z] at q'; cases q'
    have S9 : SR K g σ (ks ++ .ref D :: (hs ++ vs)) H2 ρ2 ((keptD ρ1 T).map C.v ++ .own 0 (.lst acc) :: (hd.map C.v ++ cs)) := SR.unrot hlk S8
    have S10 := SR.backs_ k1 k3 S9
    exact hQ (.ref D) H2 _ _ (SR.unCall hlh S10) q6
end
section
variable {X : Cx} {g : G} {W : WX} {elt tg iter : Expr} {ifs : List Expr} {scope : Scope} {own : List (Str × Nat)} {pos : Pos} {wi : WI} {wg : WG} {wt : WT} {we : WE}
theorem ee_lc (hc : X.calm = true) (hN : X.N.Nodup) (hL : ∀ j ∈ own.map (·.2), g.L j = false) (hi : EI X g W tg iter wi) (ok : BlkOk X.N X.env.scope scope own)
    (hg : ∀ (s : Shared) (H : Hp) (C : Addr) (cl : List (Str × Addr)) (fp : List Addr), EG (X.blk s H scope (compEnvC scope cl C X.env) fp) g tg (own.map (·.2)) wg)
    (ht : ∀ (s : Shared) (H : Hp) (C : Addr) (cl : List (Str × Addr)) (fp : List Addr), ETs (X.blk s H scope (compEnvC scope cl C X.env) fp) g W0 ifs wt)
    (he : ∀ (s : Shared) (H : Hp) (C : Addr) (cl : List (Str × Addr)) (fp : List Addr), EE (X.blk s H scope (compEnvC scope cl C X.env) fp) g W0 elt we) (hs : ∀ x, foldedSetIterable iter X.env x = pure x := by intro _; rfl) :
    EE X g W (.ListComp elt [⟨tg, iter, ifs, 0⟩] scope pos) (wLcB (own.map (·.2)) wi wg wt we) := by
  obtain ⟨t, p, s⟩ := hi.ex
  exact ⟨_, pe_lc hc hN p ok (fun s H C cl fp => (hg s H C cl fp).can) (fun s H C cl fp => (ht s H C cl fp).can) (fun s H C cl fp => (he s H C cl fp).can) hs, sem_lc hL s⟩
end
end DL

set_option Elab.async false
set_option linter.all false
set_option maxRecDepth 100000
set_option maxHeartbeats 4000000
/-! DL: subscripts, slices, built-ins, own lists changed by statements. -/
namespace DL
open PySem PySem.Spec PyProof.Rows L2

/-! ### places -/
def optK {α : Type} (o : Option α) (k : α → Prop) : Prop := match o with
  | some a => k a
  | none => False
theorem optK_of {α : Type} {o : Option α} {k : α → Prop} {a : α} (e : o = some a) (h : k a) : optK o k := by subst e; exact h
theorem atI_0 {α : Type} {x : α} {xs : List α} : atI (x :: xs) 0 = some x := L2.atI_nat (j := 0) rfl
theorem atI_1 {α : Type} {x y : α} {xs : List α} : atI (x :: y :: xs) 1 = some y := L2.atI_nat (j := 1) rfl
theorem atI_2 {α : Type} {x y z : α} {xs : List α} : atI (x :: y :: z :: xs) 2 = some z := L2.atI_nat (j := 2) rfl
theorem atI_3 {α : Type} {x y z u : α} {xs : List α} : atI (x :: y :: z :: u :: xs) 3 = some u := L2.atI_nat (j := 3) rfl
theorem atI_4 {α : Type} {x y z u v : α} {xs : List α} : atI (x :: y :: z :: u :: v :: xs) 4 = some v := L2.atI_nat (j := 4) rfl
@[simp] theorem optK_some {α : Type} {a : α} {k : α → Prop} : optK (some a) k = k a := rfl
@[reducible] def oIx : O2 := fun d1 d2 k => match d1, d2 with
  | .list ds, .int i => optK (atI ds i) fun d => k (.v d)
  | .tuple ds, .int i => optK (atI ds i) fun d => k (.v d)
  | .str z, .int i => z.length ≤ sizeLine ∧ optK (atI z.cps.toList i) fun c => k (.v (.str ⟨#[c]⟩))
  | _, _ => False
theorem atI_dp {K : PySem.W.Frag} {B : Hp} {xs : List V} {ds : List D} {i : Int} {d : D} (h : DpAll K B xs ds) (e : atI ds i = some d) : ∃ v, atI xs i = some v ∧ Dp K B v d := by
  unfold atI at e ⊢
  rw [DL.DpAll.len h]
  cases q : ixN ds.length i with
  | none => rw [q] at e; cases e
  | some j =>
    rw [q] at e
    exact DL.DpAll.get h e
theorem same_hide {H : Hp} {O : List Addr} : Same (hide H O) H := fun _ _ e => (hide_some.mp e).2
theorem lift_ix {K : PySem.W.Frag} : Lift2 K (rIx K) oIx := by
  intro O H x y dx dy QD Q _ hx hy q fin
  cases hx with
  | lst h1 h2 =>
    cases hy <;> try exact q.elim
    rename_i i
    revert q
    show optK _ _ → _
    intro q
    rename_i ds
    cases e : atI ds i with
    | none => rw [e] at q; exact q.elim
    | some d =>
      rw [e] at q
      obtain ⟨v, e1, e2⟩ := atI_dp h2 e
      exact .inl ⟨_, _, i, v, rfl, rfl, Same.seq same_hide h1, e1, fin v H (.v d) (Same.refl H) e2 q⟩
  | tup h1 h2 =>
    cases hy <;> try exact q.elim
    rename_i i
    rename_i ds
    cases e : atI ds i with
    | none =>
      have q' : optK (atI ds i) _ := q
      rw [e] at q'; exact q'.elim
    | some d =>
      have q' : optK (atI ds i) _ := q
      rw [e] at q'
      obtain ⟨v, e1, e2⟩ := atI_dp h2 e
      exact .inr (.inl ⟨_, _, i, v, rfl, rfl, seqT_same same_hide h1, e1, fin v H (.v d) (Same.refl H) e2 q'⟩)
  | str z =>
    cases hy <;> try exact q.elim
    rename_i i
    obtain ⟨hz, q⟩ := q
    cases e : atI z.cps.toList i with
    | none => rw [e] at q; exact q.elim
    | some c =>
      rw [e] at q
      exact .inr (.inr ⟨z, i, c, rfl, rfl, hz, e, fin _ H (.v _) (Same.refl H) (.str _) q⟩)
  | _ => exact q.elim
section
variable {X : Cx} {g : G} {W : WX} {a b : Expr} {wa wb : WE} {pos : Pos}
theorem ee_ix (ha : EE X g W a wa) (hb : EE X g W b wb) (hp : PlainIx b := by intro _ _; rfl) : EE X g W (.Subscript a b pos) (wB oIx wa wb) := by
  obtain ⟨ta, p1, s1⟩ := ha.ex
  obtain ⟨tb, p2, s2⟩ := hb.ex
  exact ⟨_, pe_ix ix_seq p1 p2 hp, sem_op lift_ix s1 s2⟩
end

/-! ### slices -/
@[reducible] def cutD (ds : List D) (lo hi : Option Int) : List D := (ds.drop (HT.sIx ds.length 0 lo)).take (HT.sIx ds.length ds.length hi - HT.sIx ds.length 0 lo)
theorem DpAll.cut {K : PySem.W.Frag} {B : Hp} {xs : List V} {ds : List D} (lo hi : Option Int) (h : DpAll K B xs ds) : DpAll K B (cutV xs lo hi) (cutD ds lo hi) := by
  unfold cutV cutD
  rw [DL.DpAll.len h]
  exact DL.DpAll.takeN _ (DL.DpAll.dropN _ h)
abbrev WO := Rho → (Option Int → Rho → Prop) → KX → Prop
def SemO (K : PySem.W.Frag) (g : G) (W : WX) (t : TO) (w : WO) : Prop :=
  ∀ (σ : L2.St) (vs : List V) (H : Hp) (ρ : Rho) (cs : List C) (QD : Option Int → Rho → Prop) (ED : KX) (Q : Option Int → Hp → Prop), SR K g σ vs H ρ cs → w ρ QD ED → XEnds K g W σ ED →
    (∀ o H' ρ', SR K g σ vs H' ρ' cs → QD o ρ' → Q o H') → t σ H Q
structure EO (X : Cx) (g : G) (W : WX) (e : Option Expr) (w : WO) : Prop where
  ex : ∃ t, PO X e t ∧ SemO X.K g W t w
@[reducible] def wNoPart : WO := fun ρ Q _ => Q none ρ
@[reducible] def wPart (we : WE) : WO := fun ρ Q E => we ρ (fun c ρ1 => match c with
  | .v (.int i) => Q (some i) ρ1
  | _ => False) E
@[reducible] def oSl (lo hi : Option Int) : O1 := fun d k => match d with
  | .list ds => k (.own 0 (.lst (cutD ds lo hi)))
  | .tuple ds => k (.v (.tuple (cutD ds lo hi)))
  | .str z => z.length ≤ sizeLine ∧ k (.v (.str (cutS z lo hi)))
  | _ => False
@[reducible] def wSl (we : WE) (wl wh : WO) : WE := fun ρ Q E => we ρ (fun c ρ1 => wl ρ1 (fun lo ρ2 => wh ρ2 (fun hi ρ3 => use1 ρ3 c (oSl lo hi) Q) E) E) E
theorem cutD_whole {xs : List D} {lo hi : Option Int} (h : HT.sIx xs.length 0 lo = 0 ∧ HT.sIx xs.length xs.length hi = xs.length) : cutD xs lo hi = xs := by
  unfold cutD
  rw [h.1, h.2]
  simp
theorem lift_sl {K : PySem.W.Frag} (lo hi : Option Int) : Lift1 K (fun x H Q => rSlL K x lo hi H Q ∨ (rSlA K x lo hi H Q ∨ rSlS x lo hi H Q)) (oSl lo hi) := by
  intro O H x dx QD Q hO hx q fin
  cases hx with
  | lst h1 h2 => exact .inl ⟨_, _, rfl, Same.seq same_hide h1, fun p n => fin _ _ (.own 0 (.lst _)) (same_new n) (new_lst n (DL.DpAll.cut lo hi h2)) q⟩
  | tup h1 h2 =>
    refine .inr (.inl ⟨_, _, rfl, seqT_same same_hide h1, fun z => ?_, fun z p n => ?_⟩)
    · refine fin _ H (.v _) (Same.refl H) ?_ q
      rw [DL.DpAll.len h2] at z
      rw [cutD_whole z]
      exact .tup h1 h2
    · exact fin _ _ (.v _) (same_new n) (new_tup n (fun z => by obtain ⟨u, e⟩ := hO p z; rw [n] at e; cases e) (DL.DpAll.cut lo hi h2)) q
  | str z => exact .inr (.inr ⟨z, rfl, q.1, fin _ H (.v _) (Same.refl H) (.str _) q.2⟩)
  | _ => exact q.elim
section
variable {X : Cx} {g : G} {W : WX} {e : Expr} {lo hi : Option Expr} {we : WE} {wl wh : WO} {pos p2 : Pos}
theorem eo_none : EO X g W none wNoPart := ⟨_, po_none, fun σ vs H ρ cs QD ED Q hS hw hX hQ => hQ none H ρ hS hw⟩
theorem eo_some (h : EE X g W e we) : EO X g W (some e) (wPart we) := by
  obtain ⟨t, p, s⟩ := h.ex
  refine ⟨_, po_some p, fun σ vs H ρ cs QD ED Q hS hw hX hQ => ?_⟩
  refine s σ vs H ρ cs _ ED _ hS hw hX fun x H1 c ρ1 S1 q1 => ?_
  split at q1
  · rename_i i
    have q := S1.top
    cases q
    exact ⟨i, rfl, hQ _ H1 ρ1 S1.pop q1⟩
  · exact q1.elim
theorem ee_sl (he : EE X g W e we) (hl : EO X g W lo wl) (hh : EO X g W hi wh) : EE X g W (.Subscript e (.Slice lo hi none p2) pos) (wSl we wl wh) := by
  obtain ⟨t, p, s⟩ := he.ex
  obtain ⟨t1, q1, s1⟩ := hl.ex
  obtain ⟨t2, q2, s2⟩ := hh.ex
  refine ⟨_, pe_slice (SlR.or sl_list (SlR.or sl_tupA sl_str)) p q1 q2, fun σ vs H ρ cs QD ED Q hS hw hX hQ => ?_⟩
  refine s σ vs H ρ cs _ ED _ hS hw hX fun x H1 c ρ1 S1 z1 => ?_
  refine s1 σ (x :: vs) H1 ρ1 (c :: cs) _ ED _ S1 z1 hX fun l H2 ρ2 S2 z2 => ?_
  refine s2 σ (x :: vs) H2 ρ2 (c :: cs) _ ED _ S2 z2 hX fun h H3 ρ3 S3 z3 => ?_
  exact S3.use1 (lift_sl l h) z3 fun v H' c S4 q4 => hQ v H' c ρ3 S4 q4
end

/-! ### built-ins over data -/
section
variable {K : PySem.W.Frag}
@[reducible] def oLen : OL := fun ds k => match ds with
  | [.str x] => x.length ≤ sizeLine ∧ k (.v (.int x.length))
  | [.list es] => k (.v (.int es.length))
  | [.tuple es] => k (.v (.int es.length))
  | _ => False
theorem lift_len : LiftL K (fun xs H Q => ∃ x n, xs = [x] ∧ LenV K x H n ∧ Q (.int n) H) oLen := by
  intro O H xs ds QD Q _ hx q fin
  unfold oLen at q
  split at q
  · rename_i z
    cases hx with
    | cons h1 h2 => cases h2; cases h1; exact ⟨_, _, rfl, ⟨q.1, rfl⟩, fin _ H (.v _) (Same.refl H) (.int _) q.2⟩
  · rename_i es
    cases hx with
    | cons h1 h2 =>
      cases h2
      cases h1 with
      | lst a1 a2 => exact ⟨_, _, rfl, .inl ⟨_, Same.seq same_hide a1, rfl⟩, fin _ H (.v _) (Same.refl H) (by rw [DL.DpAll.len a2]; exact .int _) q⟩
  · rename_i es
    cases hx with
    | cons h1 h2 =>
      cases h2
      cases h1 with
      | tup a1 a2 => exact ⟨_, _, rfl, .inr ⟨_, seqT_same same_hide a1, rfl⟩, fin _ H (.v _) (Same.refl H) (by rw [DL.DpAll.len a2]; exact .int _) q⟩
  · exact q.elim
@[reducible] def oMin2 : OL := fun ds k => match ds with
  | [.int i, .int j] => k (.v (.int (if j < i then j else i)))
  | _ => False
@[reducible] def oMax2 : OL := fun ds k => match ds with
  | [.int i, .int j] => k (.v (.int (if j > i then j else i)))
  | _ => False
@[reducible] def oInt1 : OL := fun ds k => match ds with
  | [.int i] => k (.v (.int i))
  | [.bool b] => k (.v (.int (if b then 1 else 0)))
  | _ => False
theorem lift_min2 : LiftL K (fun xs H Q => ∃ i j, xs = [.int i, .int j] ∧ Q (.int (if j < i then j else i)) H) oMin2 := by
  intro O H xs ds QD Q _ hx q fin
  unfold oMin2 at q
  split at q
  · rename_i i j
    cases hx with
    | cons h1 h2 => cases h2 with
      | cons h2 h3 => cases h3; cases h1; cases h2; exact ⟨_, _, rfl, fin _ H (.v _) (Same.refl H) (.int _) q⟩
  · exact q.elim
theorem lift_max2 : LiftL K (fun xs H Q => ∃ i j, xs = [.int i, .int j] ∧ Q (.int (if j > i then j else i)) H) oMax2 := by
  intro O H xs ds QD Q _ hx q fin
  unfold oMax2 at q
  split at q
  · rename_i i j
    cases hx with
    | cons h1 h2 => cases h2 with
      | cons h2 h3 => cases h3; cases h1; cases h2; exact ⟨_, _, rfl, fin _ H (.v _) (Same.refl H) (.int _) q⟩
  · exact q.elim
theorem lift_int1 : LiftL K (fun xs H Q => (∃ i, xs = [.int i] ∧ Q (.int i) H) ∨ ∃ k, xs = [.bl k] ∧ Q (.int (if k then 1 else 0)) H) oInt1 := by
  intro O H xs ds QD Q _ hx q fin
  unfold oInt1 at q
  split at q
  · rename_i i
    cases hx with
    | cons h1 h2 => cases h2; cases h1; exact .inl ⟨_, rfl, fin _ H (.v _) (Same.refl H) (.int _) q⟩
  · rename_i b
    cases hx with
    | cons h1 h2 => cases h2; cases h1; exact .inr ⟨_, rfl, fin _ H (.v _) (Same.refl H) (.int _) q⟩
  · exact q.elim
@[reducible] def intsOf : List D → Option (List Int)
  | [] => some []
  | .int i :: ds => (intsOf ds).map (i :: ·)
  | _ => none
@[reducible] def boolsOf : List D → Option (List Bool)
  | [] => some []
  | .bool i :: ds => (boolsOf ds).map (i :: ·)
  | _ => none
@[reducible] def strsOf : List D → Option (List Str)
  | [] => some []
  | .str i :: ds => (strsOf ds).map (i :: ·)
  | _ => none
@[simp] theorem intsOf_map : ∀ (ns : List Int), intsOf (ns.map PyData.int) = some ns
  | [] => rfl
  | n :: ns => by rw [List.map_cons, intsOf, intsOf_map]; rfl
@[simp] theorem boolsOf_map : ∀ (ns : List Bool), boolsOf (ns.map PyData.bool) = some ns
  | [] => rfl
  | n :: ns => by rw [List.map_cons, boolsOf, boolsOf_map]; rfl
@[simp] theorem strsOf_map : ∀ (ns : List Str), strsOf (ns.map PyData.str) = some ns
  | [] => rfl
  | n :: ns => by rw [List.map_cons, strsOf, strsOf_map]; rfl
theorem intsOf_dp {B : Hp} : ∀ {ds : List D} {xs : List V} {ns : List Int}, DpAll K B xs ds → intsOf ds = some ns → xs = ns.map V.int
  | [], _, _, h, e => by cases h; cases e; rfl
  | d :: ds, _, ns, h, e => by
    cases h with
    | cons h1 h2 =>
      cases d <;> try cases e
      rename_i i
      rw [intsOf] at e
      cases q : intsOf ds with
      | none => rw [q] at e; cases e
      | some ms => rw [q] at e; cases e; cases h1; rw [intsOf_dp h2 q]; rfl
@[reducible] def oTuple : OL := fun ds k => match ds with
  | [.list es] => k (.v (.tuple es))
  | [.tuple es] => k (.v (.tuple es))
  | _ => False
theorem lift_tuple : LiftL K (fun xs H Q => ∃ p ys, xs = [.ref p] ∧ ((SqL K H p ys ∧ ∀ l, H l = none → Q (.ref l) (upd H l (.tup ys))) ∨ (SqT K H p ys ∧ Q (.ref p) H))) oTuple := by
  intro O H xs ds QD Q hO hx q fin
  unfold oTuple at q
  split at q
  · rename_i es
    cases hx with
    | cons h1 h2 =>
      cases h2
      cases h1 with
      | lst a1 a2 => exact ⟨_, _, rfl, .inl ⟨Same.seq same_hide a1, fun p n => fin _ _ (.v _) (same_new n) (new_tup n (fun z => by obtain ⟨u, e⟩ := hO p z; rw [n] at e; cases e) a2) q⟩⟩
  · rename_i es
    cases hx with
    | cons h1 h2 =>
      cases h2
      cases h1 with
      | tup a1 a2 => exact ⟨_, _, rfl, .inr ⟨seqT_same same_hide a1, fin _ H (.v _) (Same.refl H) (.tup a1 a2) q⟩⟩
  · exact q.elim
end
section
variable {X : Cx} {g : G} {W : WX} {e : Expr} {es : List Expr} {wa : WA} {pos p : Pos}
theorem ee_len (hg : Gl X "len") (hm : X.mg "len" = none) (ha : EA X g W (e :: es) wa) (he : starEach (e :: es) X.env = (false, eval e X.env) :: starEach es X.env := by rfl) (hpl : (backTo pos (starEach es X.env)).any (·.1) = false := by rfl) : EE X g W (.Call (.Name "len" p) (e :: es) [] pos) (wL oLen wa) :=
  ee_cb call_len lift_len hg hm PySem.boot_len ha (he := he) (hpl := hpl)
theorem ee_min2 (hc : X.calm = true) (hg : Gl X "min") (hm : X.mg "min" = none) (ha : EA X g W (e :: es) wa) (he : starEach (e :: es) X.env = (false, eval e X.env) :: starEach es X.env := by rfl) (hpl : (backTo pos (starEach es X.env)).any (·.1) = false := by rfl) : EE X g W (.Call (.Name "min" p) (e :: es) [] pos) (wL oMin2 wa) :=
  ee_cb (call_min2 hc) lift_min2 hg hm (by decide +kernel) ha (he := he) (hpl := hpl)
theorem ee_max2 (hc : X.calm = true) (hg : Gl X "max") (hm : X.mg "max" = none) (ha : EA X g W (e :: es) wa) (he : starEach (e :: es) X.env = (false, eval e X.env) :: starEach es X.env := by rfl) (hpl : (backTo pos (starEach es X.env)).any (·.1) = false := by rfl) : EE X g W (.Call (.Name "max" p) (e :: es) [] pos) (wL oMax2 wa) :=
  ee_cb (call_max2 hc) lift_max2 hg hm (by decide +kernel) ha (he := he) (hpl := hpl)
theorem ee_int1 (hg : Gl X "int") (hm : X.mg "int" = none) (ha : EA X g W (e :: es) wa) (he : starEach (e :: es) X.env = (false, eval e X.env) :: starEach es X.env := by rfl) (hpl : (backTo pos (starEach es X.env)).any (·.1) = false := by rfl) : EE X g W (.Call (.Name "int" p) (e :: es) [] pos) (wL oInt1 wa) :=
  ee_ct call_int1 lift_int1 hg hm (by decide +kernel) ha (he := he) (hpl := hpl)
theorem ee_tuple (hg : Gl X "tuple") (hm : X.mg "tuple" = none) (ha : EA X g W (e :: es) wa) (he : starEach (e :: es) X.env = (false, eval e X.env) :: starEach es X.env := by rfl) (hpl : (backTo pos (starEach es X.env)).any (·.1) = false := by rfl) : EE X g W (.Call (.Name "tuple" p) (e :: es) [] pos) (wL oTuple wa) :=
  ee_ct call_tuple_of lift_tuple hg hm (by decide +kernel) ha (he := he) (hpl := hpl)
@[reducible] def isT (T : String) : D → Bool
  | .none => T == "NoneType" || T == "object"
  | .bool _ => T == "bool" || T == "int" || T == "object"
  | .int _ => T == "int" || T == "object"
  | .str _ => T == "str" || T == "object"
  | .list _ => T == "list" || T == "object"
  | .tuple _ => T == "tuple" || T == "object"
  | .dict _ => T == "dict" || T == "object"
end
end DL

set_option Elab.async false
set_option linter.all false
set_option maxRecDepth 100000
set_option maxHeartbeats 4000000
/-! DL: own lists changed by statements; += ; lists joined. -/
namespace DL
open PySem PySem.Spec PyProof.Rows L2

@[reducible] def lstOf (ρ : Rho) : C → Option (List D)
  | .own _ (.lst ds) => some ds
  | .ln i => match rget ρ i with
    | .own _ (.lst ds) => some ds
    | _ => none
  | _ => none
section
variable {K : PySem.W.Frag} {g : G} {σ : L2.St} {vs : List V} {H H' : Hp} {ρ : Rho} {cs : List C} {i : Nat}
theorem SR.lst {x : V} {c : C} {ds : List D} (h : SR K g σ (x :: vs) H ρ (c :: cs)) (e : lstOf ρ c = some ds) : ∃ a xs, x = .ref a ∧ H a = some (.lst xs) ∧ DpAll K (hide H (tot σ (x :: vs) ρ (c :: cs) ++ g.P0)) xs ds := by
  cases c with
  | own t o =>
    cases o with
    | lst es =>
      cases e
      obtain ⟨a, e1, ⟨xs, q1, q2⟩, _⟩ := h.tp.1
      cases e1
      exact ⟨a, xs, rfl, q1, q2⟩
    | dct _ => cases e
    | dtt _ => cases e
    | lck _ _ _ _ => cases e
    | prp _ _ => cases e
    | tre _ => cases e
  | ln i =>
    obtain ⟨y, e1, e2⟩ := h.tp.1
    cases e1
    revert e
    show (match rget ρ i with
      | .own _ (.lst ds) => some ds
      | _ => none) = some ds → _
    split
    · rename_i t es eo
      intro e
      cases e
      obtain ⟨a, e3, _, ⟨xs, q1, q2⟩, _⟩ := h.own eo
      rw [e2] at e3
      cases e3
      exact ⟨a, xs, rfl, q1, q2⟩
    · intro e; cases e
  | _ => cases e
theorem SR.mutSlot {a : Addr} {t : Nat} {o o' : OD} (h : SR K g σ vs H ρ cs) (e : rget ρ i = .own t o) (e1 : σ[i]? = some (some (.ref a))) (hL : g.L i = true) (keep : ∀ b u, b ≠ a → H b = some u → H' b = some u) (new : OwnAt K (hide H (tot σ vs ρ cs ++ g.P0)) H' a o') (f1 : o.fp a = [a] := by rfl) (f2 : o'.fp a = [a] := by rfl) : SR K g σ vs H' (rset ρ i (.own t o')) cs := by
  have hlt : i < ρ.length := by rw [← h.len]; exact (List.getElem?_eq_some_iff.mp e1).1
  obtain ⟨_, h2⟩ := (h.pushPk e1 hL).moveOut e
  have pm : ∀ b, b ∈ tot σ (.ref a :: vs) (rset ρ i .no) (.own t o :: cs) ↔ b ∈ tot σ vs ρ cs := fun b => by
    have p := foot_out e1 e
    rw [foot_cons_own, f1]
    rw [f1, List.singleton_append] at p
    show b ∈ a :: (foot (vs.map some) cs ++ foot σ (rset ρ i .no)) ↔ b ∈ foot (vs.map some) cs ++ foot σ ρ
    simp only [List.mem_append, List.mem_cons, p.mem_iff]
    constructor
    · rintro (z | z | z) <;> simp [z]
    · rintro (z | z | z) <;> simp [z]
  have h3 := h2.mutTop (o' := o') keep (by
    rw [hide_congr (O' := tot σ vs ρ cs ++ g.P0) fun b => by simp only [List.mem_append (t := g.P0), pm b]]
    exact new) f1 f2
  have h4 := h3.moveIn (i := i) rfl e1 (rget_rset hlt)
  rw [rset_rset] at h4
  exact h4
end

/-! ### x.append(e), x.extend(e), x.pop() of an own list in slot i -/
@[reducible] def wApp (i : Nat) (we : WE) : WE := fun ρ Q E => match rget ρ i with
  | .own _ (.lst _) => we ρ (fun c ρ1 => match frzC c, rget ρ1 i with
    | .v d, .own t (.lst ds) => ds.length < sizeLine ∧ Q (.v .none) (rset ρ1 i (.own t (.lst (ds ++ [d]))))
    | _, _ => False) E
  | _ => False
@[reducible] def wExt (i : Nat) (we : WE) : WE := fun ρ Q E => match rget ρ i with
  | .own _ (.lst _) => we ρ (fun c ρ1 => optK (lstOf ρ1 c) fun es => match rget ρ1 i with
    | .own t (.lst ds) => ds.length + es.length ≤ sizeLine ∧ Q (.v .none) (rset ρ1 i (.own t (.lst (ds ++ es))))
    | _ => False) E
  | _ => False
section
variable {X : Cx} {g : G} {W : WX} {e : Expr} {we : WE} {i : Nat} {x : Str} {p apos pos : Pos}
theorem own_list {K : PySem.W.Frag} {g : G} {σ : L2.St} {vs : List V} {H : Hp} {ρ : Rho} {cs : List C} {i t : Nat} {ds : List D} (h : SR K g σ vs H ρ cs) (e : rget ρ i = .own t (.lst ds)) : ∃ a xs, σ[i]? = some (some (.ref a)) ∧ H a = some (.lst xs) ∧ DpAll K (hide H (tot σ vs ρ cs ++ g.P0)) xs ds := by
  obtain ⟨a, e1, _, ⟨xs, q1, q2⟩, _⟩ := h.own e
  exact ⟨a, xs, e1, q1, q2⟩
theorem dpAll_up {K : PySem.W.Frag} {g : G} {σ : L2.St} {vs : List V} {H : Hp} {ρ : Rho} {cs : List C} {x : V} {c : C} {xs : List V} {ds : List D} (h : DpAll K (hide H (tot σ (x :: vs) ρ (c :: cs) ++ g.P0)) xs ds) : DpAll K (hide H (tot σ vs ρ cs ++ g.P0)) xs ds := by
  refine dpAll_mono (fun a o q => ?_) _ _ h
  obtain ⟨h1, h2⟩ := hide_some.mp q
  refine hide_some.mpr ⟨fun z => h1 ?_, h2⟩
  rw [tot_cons]
  rcases List.mem_append.mp z with z | z
  · exact List.mem_append_left _ (List.mem_append_right _ z)
  · exact List.mem_append_right _ z
theorem ee_app (hL : g.L i = true) (hx : PE X (.Name x p) (tVar i)) (h : EE X g W e we)
    (hbase : attributeBase (.Name x p) "append" X.env (eval (.Name x p) X.env) = eval (.Name x p) X.env := by rfl)
    (hfew : ((backTo pos (starEach [e] X.env)).all (fun x => !x.1) && (backToKw pos (keywordEach [] X.env)).all (fun x => x.1.isSome) && decide (([e] : List Expr).length + ([] : List Keyword).length + (if ([] : List Keyword).isEmpty then 0 else 1) < 30)) = true := by rfl)
    (hline : (apos.endLine == pos.line) = true := by rfl) (hs : starEach [e] X.env = (false, eval e X.env) :: starEach [] X.env := by rfl) (hplain : (backTo pos (starEach [] X.env)).any (·.1) = false := by rfl) :
    EE X g W (.Call (.Attribute (.Name x p) "append" apos) [e] [] pos) (wApp i we) := by
  obtain ⟨t, q, s⟩ := h.ex
  refine ⟨_, pe_bm PySem.F.plainAttrs_list PySem.F.slot_list_append PySem.F.type_list_append mt_append hx (pa_cons q pa_nil hs) hbase hfew hline hs hplain, fun σ vs H ρ cs QD ED Q hS hw hX hQ => ?_⟩
  unfold wApp at hw
  split at hw
  · rename_i t0 ds0 e0
    obtain ⟨a, xs, e1, e2, _⟩ := own_list hS e0
    refine ⟨.ref a, e1, .inl ⟨rfl, xs, .inl (.inl e2)⟩, ?_⟩
    refine s σ vs H ρ cs _ ED _ hS hw hX fun y H1 c ρ1 S1 q1 => ?_
    split at q1
    · rename_i d t1 ds1 ec eo
      have S2 := S1.frzTop
      rw [ec] at S2
      obtain ⟨a', xs', e3, e4, e5⟩ := own_list S2.pop eo
      rw [e1] at e3
      cases e3
      refine ⟨a, xs', y, rfl, rfl, e4, by rw [DL.DpAll.len e5]; exact q1.1, ?_⟩
      have S3 := S2.pop.mutSlot (H' := upd H1 a (.lst (xs' ++ [y]))) eo e1 hL (fun b u n z => by rw [upd_ne n]; exact z) (o' := .lst (ds1 ++ [d])) ⟨xs' ++ [y], upd_same, DL.DpAll.app e5 (.cons S2.top .nil)⟩
      exact hQ _ _ _ _ (SR.resV S3 (Same.refl _) .non) q1.2
    · exact q1.elim
  · exact hw.elim
theorem ee_ext (hL : g.L i = true) (hx : PE X (.Name x p) (tVar i)) (h : EE X g W e we)
    (hbase : attributeBase (.Name x p) "extend" X.env (eval (.Name x p) X.env) = eval (.Name x p) X.env := by rfl)
    (hfew : ((backTo pos (starEach [e] X.env)).all (fun x => !x.1) && (backToKw pos (keywordEach [] X.env)).all (fun x => x.1.isSome) && decide (([e] : List Expr).length + ([] : List Keyword).length + (if ([] : List Keyword).isEmpty then 0 else 1) < 30)) = true := by rfl)
    (hline : (apos.endLine == pos.line) = true := by rfl) (hs : starEach [e] X.env = (false, eval e X.env) :: starEach [] X.env := by rfl) (hplain : (backTo pos (starEach [] X.env)).any (·.1) = false := by rfl) :
    EE X g W (.Call (.Attribute (.Name x p) "extend" apos) [e] [] pos) (wExt i we) := by
  obtain ⟨t, q, s⟩ := h.ex
  refine ⟨_, pe_bm PySem.F.plainAttrs_list PySem.F.slot_list_extend PySem.F.type_list_extend mt_extend hx (pa_cons q pa_nil hs) hbase hfew hline hs hplain, fun σ vs H ρ cs QD ED Q hS hw hX hQ => ?_⟩
  unfold wExt at hw
  split at hw
  · rename_i t0 ds0 e0
    obtain ⟨a, xs, e1, e2, _⟩ := own_list hS e0
    refine ⟨.ref a, e1, .inl ⟨rfl, xs, .inl (.inl e2)⟩, ?_⟩
    refine s σ vs H ρ cs _ ED _ hS hw hX fun y H1 c ρ1 S1 q1 => ?_
    cases el : lstOf ρ1 c with
    | none => rw [el] at q1; exact q1.elim
    | some es =>
      rw [el] at q1
      have q1' : (match rget ρ1 i with
        | .own t (.lst ds) => ds.length + es.length ≤ sizeLine ∧ QD (.v .none) (rset ρ1 i (.own t (.lst (ds ++ es))))
        | _ => False) := q1
      split at q1'
      · rename_i t1 ds1 eo
        obtain ⟨b, ys, f1, f2, f3⟩ := S1.lst el
        subst f1
        obtain ⟨a', xs', e3, e4, e5⟩ := own_list S1.pop eo
        rw [e1] at e3
        cases e3
        refine ⟨a, b, xs', ys, rfl, rfl, e4, f2, by rw [DL.DpAll.len e5, DL.DpAll.len f3]; exact q1'.1, ?_⟩
        have S3 := S1.pop.mutSlot (H' := upd H1 a (.lst (xs' ++ ys))) eo e1 hL (fun b u n z => by rw [upd_ne n]; exact z) (o' := .lst (ds1 ++ es)) ⟨xs' ++ ys, upd_same, DL.DpAll.app e5 (dpAll_up f3)⟩
        exact hQ _ _ _ _ (SR.resV S3 (Same.refl _) .non) q1'.2
      · exact q1'.elim
  · exact hw.elim
def setI {α : Type} (xs : List α) (k : Int) (d : α) : Option (List α) := (ixN xs.length k).map fun j => xs.set j d
theorem setI_0 {α : Type} {x d : α} {xs : List α} : setI (x :: xs) 0 d = some (d :: xs) := by unfold setI ixN; simp <;> omega
theorem setI_1 {α : Type} {x y d : α} {xs : List α} : setI (x :: y :: xs) 1 d = some (x :: d :: xs) := by unfold setI ixN; simp <;> omega
theorem setI_2 {α : Type} {x y z d : α} {xs : List α} : setI (x :: y :: z :: xs) 2 d = some (x :: y :: d :: xs) := by unfold setI ixN; simp <;> omega
theorem setI_3 {α : Type} {x y z u d : α} {xs : List α} : setI (x :: y :: z :: u :: xs) 3 d = some (x :: y :: z :: d :: xs) := by unfold setI ixN; simp <;> omega
theorem setI_some {α : Type} {xs : List α} {k : Int} {d : α} {j : Nat} (h : ixN xs.length k = some j) : setI xs k d = some (xs.set j d) := by unfold setI; rw [h]; rfl
theorem setI_none {α : Type} {xs : List α} {k : Int} {d : α} (h : ixN xs.length k = none) : setI xs k d = none := by unfold setI; rw [h]; rfl
@[reducible] def wSetIx (i : Nat) (we wk : WE) : WS := fun DD ρ => we ρ (fun c ρ1 => match rget ρ1 i with
  | .own _ (.lst _) => wk ρ1 (fun c2 ρ2 => match frzC c, c2, rget ρ2 i with
    | .v d, .v (.int k), .own t (.lst ds) => optK (setI ds k d) fun es => DD.nx (rset ρ2 i (.own t (.lst es)))
    | _, _, _ => False) DD.ex
  | _ => False) DD.ex
theorem es_setIx {k : Expr} {wk : WE} {p2 : Pos} (hL : g.L i = true) (hx : PE X (.Name x p) (tVar i)) (h : EE X g W e we) (hk : EE X g W k wk)
    (ha : ∀ v, assign (.Subscript (.Name x p) k p2) X.env v = (do
      let ov ← holding [v] (eval (.Name x p) X.env)
      let iv ← holding [v, ov] (eval k X.env)
      standAt p2
      holding [v, ov, iv] (setItem ov iv v)
      release [v, ov, iv] []) := by intro _; rfl)
    (hs : swapsWithSole [.Subscript (.Name x p) k p2] e pos.line X.env = pure false := by rfl) (hw : swappedStores [.Subscript (.Name x p) k p2] e X.env = pure none := by rfl)
    (h1 : (assignEach [.Subscript (.Name x p) k p2] X.env).map (·.2) = [assign (.Subscript (.Name x p) k p2) X.env] := by rfl) : ES X g W (.Assign [.Subscript (.Name x p) k p2] e pos) (wSetIx i we wk) := by
  obtain ⟨t, q, s⟩ := h.ex
  obtain ⟨t2, q2, s2⟩ := hk.ex
  refine ⟨_, ps_asg q (pg_sub hx q2 set_list ha) hs hw h1, fun σ vs H ρ cs DD D hS hp hw hE => ?_⟩
  refine s σ vs H ρ cs _ _ _ hS hw (hE.ex σ) fun y H1 c ρ1 S1 z1 => ?_
  split at z1
  · rename_i t0 ds0 e0
    obtain ⟨a, xs, e1, _, _⟩ := own_list S1 e0
    refine ⟨.ref a, e1, ?_⟩
    refine s2 σ (y :: vs) H1 ρ1 (c :: cs) _ _ _ S1 z1 (hE.ex σ) fun z H2 c2 ρ2 S2 z2 => ?_
    split at z2
    · rename_i _ _ d k' t' ds ec eo
      have e5 := S2.top
      cases e5
      have S3 : SR X.K g σ (y :: vs) H2 ρ2 (.v d :: cs) := by
        have := S2.pop.frzTop
        rw [ec] at this
        exact this
      obtain ⟨a', xs', e3, e4, e6⟩ := own_list S3.pop eo
      rw [e1] at e3
      cases e3
      cases ej : ixN ds.length k' with
      | none => rw [setI_none ej] at z2; exact z2.elim
      | some j =>
        rw [setI_some ej] at z2
        refine ⟨a, xs', k', j, rfl, rfl, e4, by rw [DL.DpAll.len e6]; exact ej, ?_⟩
        have S4 := S3.pop.mutSlot (H' := upd H2 a (.lst (xs'.set j y))) eo e1 hL (fun b u n z => by rw [upd_ne n]; exact z) (o' := .lst (ds.set j d)) ⟨xs'.set j y, upd_same, DL.DpAll.setAt S3.top j e6⟩
        exact hE.nx σ _ _ S4 z2
    · exact z2.elim
  · exact z1.elim
@[reducible] def wAug (i : Nat) (o : O2) (we : WE) : WS := fun DD ρ => match rget ρ i with
  | .v d0 => we ρ (fun c ρ1 => match c with
    | .v d1 => o d0 d1 fun c' => c'.plain = true ∧ DD.nx (rset ρ1 i c')
    | _ => False) DD.ex
  | _ => False
theorem es_aug {op : Operator} {ti : TIp} {o : O2} {pos' : Pos} (hN : X.N.Nodup) (hi : X.N[i]? = some x) (hx : Loc X.env.scope x) (h : EE X g W e we) (ho : PIp X op ti) (l : Lift2 X.K (fun x y H Q => ti x y H Q) o)
    (hf : X.fn x = true ∨ X.env.scope.names.lookup x = some .local := by first | exact .inl rfl | exact .inr rfl | assumption) : ES X g W (.AugAssign (.Name x pos') op e pos) (wAug i o we) := by
  obtain ⟨t, q, s⟩ := h.ex
  refine ⟨_, ps_aug hN hi hx q ho hf, fun σ vs H ρ cs DD D hS hp hw hE => ?_⟩
  unfold wAug at hw
  split at hw
  · rename_i d0 e0
    obtain ⟨y, e1, dy⟩ := hS.slot e0
    refine ⟨y, e1, ?_⟩
    have S0 : SR X.K g σ (y :: vs) H ρ (.v d0 :: cs) := SR.resV hS (Same.refl H) dy
    refine s σ (y :: vs) H ρ (.v d0 :: cs) _ _ _ S0 hw (hE.ex σ) fun z H1 c ρ1 S1 q1 => ?_
    split at q1
    · rename_i d1
      refine S1.use2 (c1 := .v d0) (c2 := .v d1) (o := o) (QD := fun c' ρ' => c'.plain = true ∧ DD.nx (rset ρ' i c')) l ?_ fun v H' c' S3 q3 => hE.nx _ H' _ (S3.store q3.1 fun j => hp.nopk) q3.2
      show o d0 d1 fun c => okR [C.v d1, C.v d0] c ∧ c.plain = true ∧ DD.nx (rset ρ1 i c)
      have e2 : (fun c : C => okR [C.v d1, C.v d0] c ∧ c.plain = true ∧ DD.nx (rset ρ1 i c)) = fun c' => c'.plain = true ∧ DD.nx (rset ρ1 i c') := by
        funext c
        apply propext
        exact ⟨fun z => z.2, fun z => ⟨fun w => (by cases w), z⟩⟩
      rw [e2]
      exact q1
    · exact q1.elim
  · exact hw.elim
theorem lift_ip {K : PySem.W.Frag} {f : Int → Int → Int} : Lift2 K (fun x y H Q => ipI f x y H Q) (oI fun i j => .int (f i j)) := by
  intro O H x y dx dy QD Q _ hx hy q fin
  cases hx <;> try exact q.elim
  cases hy <;> try exact q.elim
  exact ⟨_, _, rfl, rfl, fin _ H (.v _) (Same.refl H) (.int _) q⟩
theorem es_augAdd {pos' : Pos} (hN : X.N.Nodup) (hi : X.N[i]? = some x) (hx : Loc X.env.scope x) (h : EE X g W e we) (hf : X.fn x = true ∨ X.env.scope.names.lookup x = some .local := by first | exact .inl rfl | exact .inr rfl | assumption) :
    ES X g W (.AugAssign (.Name x pos') .Add e pos) (wAug i oAdd we) := es_aug hN hi hx h ip_add lift_ip hf
@[reducible] def wCat (wa wb : WE) : WE := fun ρ Q E => wa ρ (fun c1 ρ1 => wb ρ1 (fun c2 ρ2 => optK (lstOf ρ2 c1) fun as => optK (lstOf ρ2 c2) fun bs => as.length + bs.length ≤ sizeLine ∧ Q (.own 0 (.lst (as ++ bs))) ρ2) E) E
theorem ee_cat {a b : Expr} {wa wb : WE} (ha : EE X g W a wa) (hb : EE X g W b wb) : EE X g W (.BinOp a .Add b pos) (wCat wa wb) := by
  obtain ⟨ta, p1, s1⟩ := ha.ex
  obtain ⟨tb, p2, s2⟩ := hb.ex
  refine ⟨_, pe_op op_cat p1 p2, fun σ vs H ρ cs QD ED Q hS hw hX hQ => ?_⟩
  refine s1 σ vs H ρ cs _ ED _ hS hw hX fun x H1 c1 ρ1 S1 q1 => ?_
  refine s2 σ (x :: vs) H1 ρ1 (c1 :: cs) _ ED _ S1 q1 hX fun y H2 c2 ρ2 S2 q2 => ?_
  cases e1 : lstOf ρ2 c1 with
  | none => rw [e1] at q2; exact q2.elim
  | some as =>
    cases e2 : lstOf ρ2 c2 with
    | none => rw [e1, e2] at q2; exact q2.elim
    | some bs =>
      rw [e1, e2] at q2
      obtain ⟨b, ys, f1, f2, f3⟩ := S2.lst e2
      obtain ⟨a, xs, g1, g2, g3⟩ := (SR.rot (xs := [y]) (ccs := [c2]) rfl S2).lst e1
      subst f1; subst g1
      refine ⟨a, b, xs, ys, rfl, rfl, g2, f2, by rw [DL.DpAll.len g3, DL.DpAll.len f3]; exact q2.1, fun p n => ?_⟩
      have S3 := S2.pop.pop
      exact hQ _ _ _ ρ2 (SR.res S3 (same_new n) (new_lst n (DL.DpAll.app (dpAll_up (dpAll_up g3)) (dpAll_up (dpAll_up f3))))) q2.2
@[reducible] def wFrz (i : Nat) : WE := fun ρ Q _ => match rget ρ i with
  | .v d => Q (.v d) ρ
  | .own _ (.lst ds) => Q (.v (.list ds)) (rset ρ i (.v (.list ds)))
  | _ => False
theorem ee_frz (hL : g.L i = true) (hx : PE X (.Name x p) (tVar i)) : EE X g W (.Name x p) (wFrz i) := by
  refine ⟨_, hx, fun σ vs H ρ cs QD ED Q hS hw hX hQ => ?_⟩
  unfold wFrz at hw
  split at hw
  · rename_i d e
    obtain ⟨x, e1, q1⟩ := hS.slot e
    exact ⟨x, e1, hQ x H _ ρ (SR.resV hS (Same.refl H) q1) hw⟩
  · rename_i t ds e
    obtain ⟨a, e1, _⟩ := hS.own e
    have hlt : i < ρ.length := by rw [← hS.len]; exact (List.getElem?_eq_some_iff.mp e1).1
    obtain ⟨_, S2⟩ := (hS.pushPk e1 hL).moveOut e
    have S3 := S2.frzTop
    have dx := S3.top
    have S4 := S3.moveIn (i := i) rfl e1 (rget_rset hlt)
    rw [rset_rset] at S4
    have dx2 : Dp X.K (hide H (tot σ vs (rset ρ i (.v (.list ds))) cs ++ g.P0)) (.ref a) (.list ds) := by
      have ef : tot σ vs (rset ρ i (.v (.list ds))) cs = tot σ vs (rset ρ i .no) cs := by
        have go : ∀ (σ : List (Option V)) (ρ : Rho) (i : Nat), foot σ (rset ρ i (.v (.list ds))) = foot σ (rset ρ i .no) := by
          intro σ
          induction σ with
          | nil => intro ρ i; have e : ∀ r : Rho, foot [] r = [] := fun r => by cases r <;> rfl
                   rw [e, e]
          | cons v σ ih =>
            intro ρ i
            cases ρ with
            | nil => rfl
            | cons c ρ =>
              cases i with
              | zero => show footC v (.v _) ++ _ = footC v .no ++ _; rw [footC_v, footC_no]
              | succ i => show footC v c ++ foot σ (rset ρ i _) = footC v c ++ foot σ (rset ρ i _); rw [ih]
        show foot _ _ ++ foot σ _ = foot _ _ ++ foot σ _
        rw [go]
      rw [ef]
      exact dx
    exact ⟨_, e1, hQ _ H _ _ (SR.resV S4 (Same.refl H) dx2) hw⟩
  · exact hw.elim
end
/-! ### a, b = a list -/
section
variable {X : Cx} {g : G} {W : WX} {es : List Expr} {ws : WGs} {T : List Nat} {pos : Pos}
@[reducible] def wPar (i j : Nat) (wa : WA) : WS := fun DD ρ => wa ρ (fun cs ρ1 => match frzs cs with
  | [.v d1, .v d2] => DD.nx (rset (rset ρ1 j (.v d2)) i (.v d1))
  | _ => False) DD.ex
theorem es_par {i j : Nat} {x y : Str} {a b : Expr} {wa : WA} {px py pt spos : Pos} {kt k2 pt2} (hc : X.calm = true) (hN : X.N.Nodup) (hi : X.N[i]? = some x) (hj : X.N[j]? = some y) (hij : i ≠ j) (hx : X.env.scope.names.lookup x = some .local) (hy : X.env.scope.names.lookup y = some .local) (ha : EA X g W [a, b] wa)
    (hw : swappedStores [.Tuple [.Name x px, .Name y py] kt pt] (.Tuple [a, b] k2 pt2) X.env = pure (some [x, y]))
    (hs : swapsWithSole [.Tuple [.Name x px, .Name y py] kt pt] (.Tuple [a, b] k2 pt2) spos.line X.env = pure false := by rfl) :
    ES X g W (.Assign [.Tuple [.Name x px, .Name y py] kt pt] (.Tuple [a, b] k2 pt2) spos) (wPar i j wa) := by
  obtain ⟨t, q, s⟩ := ha.ex
  refine ⟨_, ps_par hc hN hi hj hij hx hy q hw hs, fun σ vs H ρ cs DD D hS hp hw hE => ?_⟩
  refine s σ vs H ρ cs _ _ _ hS hw (hE.ex σ) fun xs H1 ccs ρ1 hl S1 q1 => ?_
  split at q1
  · rename_i d1 d2 ec
    rw [frzs_eq] at ec
    have S2 := S1.frzArgs hl
    rw [ec] at S2
    have hlen : ccs.length = 2 := by have := congrArg List.length ec; simpa using this
    match xs, hl with
    | [v, w], _ =>
      refine ⟨v, w, rfl, ?_⟩
      have S3 : SR X.K g σ (w :: (v :: vs)) H1 ρ1 (.v d2 :: (.v d1 :: cs)) := SR.rot (xs := [v]) (ccs := [.v d1]) rfl S2
      have S4 := S3.store (i := j) rfl (fun k z => (hp.cons (c := .v d1) rfl).nopk z)
      have S5 := S4.store (i := i) rfl (fun k z => hp.nopk z)
      rw [List.set_comm _ _ (Ne.symm hij)] at S5
      exact hE.nx _ H1 _ S5 q1
    | [], h => simp at h; omega
    | [_], h => simp at h; omega
    | _ :: _ :: _ :: _, h => simp at h; omega
  · exact q1.elim
end
end DL

set_option Elab.async false
set_option linter.all false
set_option maxRecDepth 100000
set_option maxHeartbeats 4000000
/-! DL: the program's defs by their names; walks over any sequence; unary minus; + and in of any data. -/
namespace DL
open PySem PySem.Spec PyProof.Rows L2

theorem lt_ {g : G} {L : Nat → Bool} (h : g.L = L) {i : Nat} (e : L i = true) : g.L i = true := by rw [h]; exact e
theorem lf_ {g : G} {L : Nat → Bool} (h : g.L = L) {T : List Nat} (e : (T.all fun j => !L j) = true) : ∀ j ∈ T, g.L j = false := fun j hj => by
  rw [h]
  have := List.all_eq_true.mp e j hj
  simpa using this
structure Has (P : Program) (w : World) (K : PySem.W.Frag) (mg : Str → Option Value) (base : Heap) (k : Nat) (x : Str) (S : SpD) : Prop where
  ex : ∃ (f : Addr) (fd : FuncData) (ps : List Str), FnOk P w K mg base (L2.CX P w) k f fd ps (spOf K S) ∧ mg x = some (.ref f) ∧ PySem.W.keepIn K (.ref f) = true ∧ Binds K fd ps []
section
variable {X : Cx} {g : G} {k : Nat} {S : SpD} {x : Str} {p pos : Pos} {e : Expr} {es : List Expr} {wa : WA}
theorem ee_has (h : Has X.prog X.w X.K X.mg X.base k x S) (hr : Room k X.A) (hg : Gl X x) (ha : EA X g W0 (e :: es) wa) (hdb : (x == ("__debug__" : Str)) = false := by decide)
    (he : starEach (e :: es) X.env = (false, eval e X.env) :: starEach es X.env := by rfl) (hpl : (backTo pos (starEach es X.env)).any (·.1) = false := by rfl) : EE X g W0 (.Call (.Name x p) (e :: es) [] pos) (wCall S wa) := by
  obtain ⟨f, fd, ps, F, hm, hk, hb⟩ := h.ex
  exact ee_call F hr hg hm hk hb passL (fun _ _ _ _ z => z) ha hdb he hpl
theorem ee_hasX {E : XK} (h : Has X.prog X.w X.K X.mg X.base k x S) (hr : Room k X.A) (hg : Gl X x) (tk : Takes X fun cls d _ H => E cls d H) (ha : EA X g (fun cls d _ H => E cls d H) (e :: es) wa) (hdb : (x == ("__debug__" : Str)) = false := by decide)
    (he : starEach (e :: es) X.env = (false, eval e X.env) :: starEach es X.env := by rfl) (hpl : (backTo pos (starEach es X.env)).any (·.1) = false := by rfl) : EE X g (fun cls d _ H => E cls d H) (.Call (.Name x p) (e :: es) [] pos) (wCall S wa) := by
  obtain ⟨f, fd, ps, F, hm, hk, hb⟩ := h.ex
  exact ee_call F hr hg hm hk hb (passes_call tk fun _ _ _ _ z => z) (fun _ _ _ _ z => z) ha hdb he hpl
end
@[reducible] def oNeg : O1 := fun d k => match d with
  | .int i => k (.v (.int (-i)))
  | _ => False
theorem lift_neg {K : PySem.W.Frag} : Lift1 K (rU fun i => V.int (-i)) oNeg := by
  intro O H x dx QD Q _ hx q fin
  cases hx <;> try exact q.elim
  exact ⟨_, rfl, fin _ H (.v _) (Same.refl H) (.int _) q⟩
section
variable {X : Cx} {g : G} {W : WX} {a : Expr} {wa : WE} {pos : Pos}
theorem ee_neg (ha : EE X g W a wa) : EE X g W (.UnaryOp .USub a pos) (wU oNeg wa) := by
  obtain ⟨t, p, s⟩ := ha.ex
  exact ⟨_, pe_un un_neg p, sem_un lift_neg s⟩
end
def iSeq (K : PySem.W.Frag) (tl : TE) : TI := fun σ H R => tl σ H fun x H1 => (∃ a, x = .ref a ∧ (∃ xs, SqL K H1 a xs) ∧ R (Itl K a) H1) ∨ (∃ a, x = .ref a ∧ (∃ xs, SqT K H1 a xs) ∧ R (Itt K a) H1) ∨ ∃ z, x = .str z ∧ R (Its z) H1
theorem pi_seq {X : Cx} {tg l : Expr} {tl : TE} (hl : PE X l tl) : PI X tg l (iSeq X.K tl) := by
  refine ⟨fun pins s σ H R I h => ?_⟩
  refine thn (hl.run pins s σ H _ I h) fun v s1 ⟨x, H1, I1, r1, q1⟩ => ?_
  rcases q1 with ⟨a, e, ⟨xs, hq⟩, q⟩ | ⟨a, e, ⟨xs, hq⟩, q⟩ | ⟨z, e, q⟩
  · subst e
    cases r1
    obtain ⟨its, rv, p, hz⟩ := I1.list hq
    refine wpAny_pyIter_list p.isList ?_
    refine ⟨s1.heap.objs.size, [s1.heap.objs.size], _, _, H1, rfl, I1.kept (t' := s1.toks) fun b o e => Heap.get?_push_of_some _ e, turn_list a _, ⟨_, Heap.get?_push_size _ rfl, rfl, rfl⟩, fun b hb => ?_, q⟩
    have e : b = s1.heap.objs.size := by simpa using hb
    subst e
    exact I1.fpOk (Nat.le_refl _) (I1.hok.fresh (Nat.le_refl _))
  · subst e
    cases r1
    obtain ⟨its, rv, p, hz⟩ := I1.tuple hq
    refine wpAny_pyIter_tuple (show s1.heap.IsTuple a its.toArray from p) ?_
    refine ⟨s1.heap.objs.size, [s1.heap.objs.size], _, _, H1, rfl, I1.kept (t' := s1.toks) fun b o e => Heap.get?_push_of_some _ e, turn_tuple a _, ⟨_, Heap.get?_push_size _ rfl, rfl, rfl⟩, fun b hb => ?_, q⟩
    have e : b = s1.heap.objs.size := by simpa using hb
    subst e
    exact I1.fpOk (Nat.le_refl _) (I1.hok.fresh (Nat.le_refl _))
  · subst e
    obtain ⟨t, rfl⟩ := r1
    cases ha : z.cps.all (· < 128)
    · exact wpAny_pyIter_wide ha (pi_one (tk := s1.toks) I1 _ (turn_str _ z t "str_iterator" (.inr rfl)) ⟨_, Heap.get?_push_size _ rfl, rfl, rfl⟩ q)
    · exact wpAny_pyIter_ascii ha (pi_one (tk := s1.toks) I1 _ (turn_str _ z t "str_ascii_iterator" (.inl rfl)) ⟨_, Heap.get?_push_size _ rfl, rfl, rfl⟩ q)
@[reducible] def itemsD : D → Option (List D)
  | .list ds => some ds
  | .tuple ds => some ds
  | .str x => some (strD x)
  | _ => none
@[reducible] def wISeq (we : WE) : WI := fun ρ Q E => we ρ (fun c ρ1 => match frzC c with
  | .v d => optK (itemsD d) fun ds => Q ds ρ1
  | _ => False) E
theorem ei_seq {X : Cx} {g : G} {W : WX} {tg e : Expr} {we : WE} (h : EE X g W e we) : EI X g W tg e (wISeq we) := by
  obtain ⟨t, p, s⟩ := h.ex
  refine ⟨_, pi_seq p, fun σ vs H ρ cs QD ED R hS hw hX hQ => ?_⟩
  refine s σ vs H ρ cs _ ED _ hS hw hX fun x H1 c ρ1 S1 q1 => ?_
  split at q1
  · rename_i d ec
    have S2 := S1.frzTop
    rw [ec] at S2
    have q := S2.top
    cases q with
    | lst h1 h2 => exact .inl ⟨_, rfl, ⟨_, Same.seq same_hide h1⟩, hQ _ [_] [.list _] _ H1 ρ1 rfl S2 walks_list q1⟩
    | tup h1 h2 => exact .inr (.inl ⟨_, rfl, ⟨_, seqT_same same_hide h1⟩, hQ _ [_] [.tuple _] _ H1 ρ1 rfl S2 walks_tup q1⟩)
    | str z => exact .inr (.inr ⟨z, rfl, hQ _ [] [] _ H1 ρ1 rfl S2.pop walks_str q1⟩)
    | _ => exact q1.elim
  · exact q1.elim
end DL

set_option Elab.async false
set_option linter.all false
/-! for the proofs of readings: steps, loops -/
namespace DL
open PySem PySem.Spec PyProof.Rows L2
theorem ifb {A B : Prop} {b : Bool} (h : b = true → A) (h' : b = false → B) : if b = true then A else B := by
  cases b
  · exact h' rfl
  · exact h rfl
theorem eqv_int {a b : Int} : PyData.eqv (.int a) (.int b) = decide (a = b) := by first | rfl | simp [PyData.eqv]
theorem atI_mem {ds : List D} {x : Int} (h0 : 0 ≤ x) (h1 : x < ds.length) : ∃ d, atI ds x = some d ∧ d ∈ ds := by
  obtain ⟨j, rfl⟩ := Int.eq_ofNat_of_zero_le h0
  have hj : j < ds.length := by omega
  exact ⟨ds[j], L2.atI_nat (List.getElem?_eq_getElem hj), List.getElem_mem hj⟩
theorem log2_lt {m : Int} {k : Nat} (h : m.natAbs < 2 ^ k) (h0 : 0 < k) (h9 : k ≤ 9000) : m.natAbs.log2 < 9000 := Nat.lt_of_lt_of_le (PySem.Flt.log2_lt_of h0 h) h9
theorem log2_sm {m : Int} (h : m.natAbs < 18446744073709551616) : m.natAbs.log2 < 9000 := log2_lt (k := 64) h (by decide) (by decide)

theorem forK_ind {wg : WG} {body : WS} {DD : EndsD} (I : List D → Rho → Prop) (h0 : ∀ ρ, I [] ρ → DD.nx ρ)
    (h1 : ∀ d ds ρ (next : Rho → Prop), (∀ ρ', I ds ρ' → next ρ') → I (d :: ds) ρ → wg d ρ fun ρ1 => body ⟨next, DD.rt, DD.nx, next, DD.ex⟩ ρ1) : ∀ ds ρ, I ds ρ → forK wg body ds DD ρ
  | [], ρ, h => h0 ρ h
  | d :: ds, ρ, h => h1 d ds ρ _ (fun ρ' h' => forK_ind I h0 h1 ds ρ' h') h
theorem mem_range {lo : Int} {n : Nat} {d : D} (h : d ∈ rangeD lo n) : ∃ k : Int, d = .int k ∧ lo ≤ k ∧ k < lo + n := by
  obtain ⟨k, h1, rfl⟩ := List.mem_map.mp h
  have := List.mem_range.mp h1
  exact ⟨lo + k, rfl, by omega, by omega⟩
/-! states written out -/
theorem wSeq_i {w u : WS} {nx : Rho → Prop} {rt : KC} {bk ct : Rho → Prop} {ex : KX} {ρ ρ' : Rho} (e : ρ = ρ') (h : w ⟨u ⟨nx, rt, bk, ct, ex⟩, rt, bk, ct, ex⟩ ρ') : wSeq w u ⟨nx, rt, bk, ct, ex⟩ ρ := by
  subst e
  exact h
end DL

set_option Elab.async false
set_option linter.all false
set_option maxRecDepth 100000
set_option maxHeartbeats 4000000
/-! DL: enumerate, zip, reversed, range with a step -/
namespace DL
open PySem PySem.Spec PyProof.Rows L2

/-! ### enumerate of a tuple -/
section
variable {prog : Program} {w : World} {A : Around} {E : Value → Shared → Prop} {s : Shared}
theorem meets_enum1 {v : Value} {o : Obj} {H : Heap → Prop} (B : Begins v o H) :
    Meets (Builtin.«enumerate.__new__» ⟨[.type "enumerate", v], []⟩) (fun _ R s => H s.heap ∧ R (.ok (.ret (.ref (s.heap.push o).objs.size))) { s with heap := (s.heap.push o).push { cls := .type "enumerate", data := .fields #[.none, .bool false, .ref s.heap.objs.size, rawInt 0, .none, .none] } }) :=
  .of_wp fun prog w A R s hh => by
    obtain ⟨hp, g, d, tk, os⟩ := s
    obtain ⟨hb, hr⟩ := hh
    have hsub := sub_enumerate
    have start : ∀ {A' : Around} {E' Q' : Value → Shared → Prop}, Q' (.ref hp.objs.size) ⟨hp.push o, g, d, tk, os⟩ → wpAny (model prog w) A' (pyIter v) Q' E' ⟨hp, g, d, tk, os⟩ := fun q => B.iter prog w _ _ ⟨hp, g, d, tk, os⟩ _ hb q
    wp_walk using start
    refine wpAny_stack_any fun _ => wpAny_pure ?_
    split
    · rename_i c _ _ _ _ _
      cases (c == Value.type "enumerate") <;> (wp_walk using start; exact ⟨_, rfl, hr⟩)
    · wp_walk using start
      exact ⟨_, rfl, hr⟩
theorem call_enum1 {v : Value} {o : Obj} {H : Heap → Prop} {Q : Value → Shared → Prop} (B : Begins v o H) (hb : H s.heap)
    (fin : ∀ h', IsEnum h' (s.heap.objs.size + 1) s.heap.objs.size 0 .none → h'.get? s.heap.objs.size = some o → (∀ b u, s.heap.get? b = some u → h'.get? b = some u) → Q (.ref (s.heap.objs.size + 1)) { s with heap := h' }) :
    wpAny (model prog w) A (call (.type "enumerate") [v]) Q E s := by
  refine callType_new F.called_enumerate (by decide) (F.typeCall_enumerate_1 _) (F.newCall_enumerate_1 _) (fun obj => F.args_object_init_2 obj _) F.entry_enumerate_new (meets_enum1 B) ⟨hb, ?_⟩
  have sz : (s.heap.push o).objs.size = s.heap.objs.size + 1 := Heap.size_push ..
  show _ ∧ _
  rw [sz]
  have en : IsEnum ((s.heap.push o).push { cls := .type "enumerate", data := .fields #[.none, .bool false, .ref s.heap.objs.size, rawInt 0, .none, .none] }) (s.heap.objs.size + 1) s.heap.objs.size 0 .none := by
    have q := Heap.get?_push_size (s.heap.push o) (o := { cls := .type "enumerate", data := .fields #[.none, .bool false, .ref s.heap.objs.size, rawInt 0, .none, .none] }) rfl
    rw [sz] at q
    exact q
  exact ⟨⟨_, en, rfl⟩, fin _ en (Heap.get?_push_of_some _ (Heap.get?_push_size _ B.free)) fun b u q => Heap.get?_push_of_some _ (Heap.get?_push_of_some _ q)⟩
end
def IteT (K : PySem.W.Frag) (a : Addr) : It :=
  ⟨fun i H => ∃ (xs : List V) (x : V), SqT K H a xs ∧ xs[i]? = some x, fun i H v H' => ∃ T x, v = .ref T ∧ H T = none ∧ H' = upd H T (.tup [.int (i : Nat), x]) ∧ ∀ xs, SqT K H a xs → xs[i]? = some x, fun i H => ∃ xs : List V, SqT K H a xs ∧ xs.length ≤ i⟩
theorem turn_enumT {P : Program} {w : World} {K : PySem.W.Frag} {elts : List Expr} {kk : Nat} {tpos : Pos} {a e it : Addr} (h1 : e ≠ it) (h2 : e ≠ a) (h3 : a ≠ it) :
    Turn P w K (.Tuple elts kk tpos) (IteT K a) [e, it] e (fun i h => (∃ old, IsEnum h e it ((i : Nat) : Int) old) ∧ h.IsTupleIter it a i) where
  mem := by simp
  obj := fun i h st b hb => by
    obtain ⟨⟨old, he⟩, o, ho, _, hd⟩ := st
    rcases List.mem_cons.mp hb with z | z
    · rw [z]; exact ⟨_, he, fun v q => nomatch q⟩
    · rw [List.mem_singleton.mp z]; exact ⟨o, ho, fun v q => by rw [hd] at q; cases q⟩
  keep := fun i h h' st k => by
    obtain ⟨⟨old, he⟩, hi⟩ := st
    exact ⟨⟨old, k e (by simp) _ he⟩, hi.at fun o q => k it (by simp) o q⟩
  item := by
    intro X eP ew eK hc i pins s σ H E I hf st hg
    subst eP ew eK
    obtain ⟨⟨old, he⟩, hit⟩ := st
    obtain ⟨xs, x, hq, hx⟩ := hg
    obtain ⟨its, rv, pt, _⟩ := I.tuple hq
    obtain ⟨u, hu, ru⟩ := rv.get hx
    have le : e < s.heap.objs.size := Heap.lt_size he
    have li : it < s.heap.objs.size := by obtain ⟨_, q, _⟩ := hit; exact Heap.lt_size q
    have hin : i < its.toArray.size := by
      have := (List.getElem?_eq_some_iff.mp hu).1
      simpa using this
    have D := Draws.tuple (prog := X.prog) (w := X.w) (A := X.A.in1) (I.ok.hd hc) it a h3 its.toArray
    refine wpAny_pyNext_enum_itemC D he ⟨hit, pt⟩ hin h1 (by simp [h1, h2]) fun y h' tk py out st' new _ kp => ?_
    have ey : y = u := by
      have q : its.toArray[i]? = some u := by simpa using hu
      rw [q] at py
      exact (Option.some.inj py).symm
    subst ey
    refine ⟨_, rfl, wpAny_letOwnedTupleGo_enum (s := { s with heap := h', toks := tk + 1 }) out fun h'' he' sb => ?_⟩
    have new2 : h''.get? s.heap.objs.size = some { cls := .type "tuple", data := .seq #[.int i tk, y] } := (sb.2 _ (Nat.ne_of_gt le)).trans new
    have ok : ObjOk X.prog X.w (upd H s.heap.objs.size (.tup [.int (i : Nat), x])) h'' s.heap.objs.size (.tup [.int (i : Nat), x]) :=
      ⟨by show 2 ≤ sizeLine; decide, [.int i tk, y], .cons ⟨_, rfl⟩ (.cons ru .nil), ⟨_, new2, rfl, _, rfl⟩⟩
    have I1 := I.turnedNew (t' := tk + 1) (ch := [e, it]) (h' := h'') (fun b ob hb q => (sb.2 b (fun z => hb (by simp [z]))).trans (kp b ob (fun z => hb (by simp [z])) (fun z => hb (by simp [z])) q)) hf (Nat.le_refl _) ok
    refine ⟨.ref s.heap.objs.size, _, I1, rfl, ⟨_, x, rfl, I.hok.fresh (Nat.le_refl _), rfl, fun ys hy => by rw [I.tuple_inj hy hq]; exact hx⟩, ⟨⟨y, ?_⟩, st'.1.at fun o q => (sb.2 it (Ne.symm h1)).trans q⟩, fun b hb => ?_⟩
    · rw [show ((i + 1 : Nat) : Int) = (i : Int) + 1 by omega]
      exact he'
    · have lb : b < s.heap.objs.size := by
        rcases List.mem_cons.mp hb with z | z
        · rw [z]; exact le
        · rw [List.mem_singleton.mp z]; exact li
      rw [upd_ne (Nat.ne_of_lt lb)]
      exact (hf b hb).1
  done := by
    intro X eP ew eK hc i pins s σ H E I hf st hg
    subst eP ew eK
    obtain ⟨⟨old, he⟩, hit⟩ := st
    obtain ⟨xs, hq, hx⟩ := hg
    obtain ⟨its, rv, pt, _⟩ := I.tuple hq
    obtain ⟨f0, f1, f2, f3, f4, f5⟩ := hf it (by simp)
    have hl := rv.length
    have D : Draws X.prog X.w X.A.in1 it [it, a] i (fun _ _ => True) (fun j h => j = i ∧ h.IsTupleIter it a i ∧ h.IsTuple a its.toArray) :=
      ⟨fun _ _ st => let ⟨o, ho, _⟩ := st.2.1; ⟨o, ho⟩, fun _ _ _ st hk => ⟨st.1, st.2.1.at fun o q => hk it (by simp) o q, st.2.2.at fun o q => hk a (by simp) o q⟩,
        fun j s Q E hj st hQ => absurd st.1 (Nat.ne_of_lt hj), fun s Q E st hE => wpAny_nextOf_tuple_end (I.ok.hd hc) st.2.1 st.2.2 (by simp; omega) hE⟩
    exact wpAny_pyNext_enum_endD D he ⟨rfl, hit, pt⟩ fun h' eb => ⟨rfl, I.turned (t' := s.toks) (fun b o hb q => eb b o hb q) f0 f1 f3 f4 f5⟩
  self := fun A i s Q E st h => let ⟨⟨_, he⟩, _⟩ := st; wpAny_pyIter_enum he h
def iEnumA (K : PySem.W.Frag) (ta : TA) : TI := fun σ H R => ta σ H fun vs H1 => ∃ a xs, vs = [.ref a] ∧ ((SqL K H1 a xs ∧ R (Ite K a) H1) ∨ (SqT K H1 a xs ∧ R (IteT K a) H1))
theorem pi_enumA {X : Cx} {e : Expr} {ta : TA} {p pos tpos : Pos} {elts : List Expr} {kk : Nat} (hg : Gl X "enumerate") (hm : X.mg "enumerate" = none) (ha : PA X [e] ta) (hs : starEach [e] X.env = [(false, eval e X.env)] := by rfl) :
    PI X (.Tuple elts kk tpos) (.Call (.Name "enumerate" p) [e] [] pos) (iEnumA X.K ta) := by
  refine ⟨fun pins s σ H R I h => ?_⟩
  refine Call_ (ld_blt I hg hm boot_enumerate (PyProof.Rows.callWith_type1 (thn (ha.run pos pins s σ H _ I h) fun us s1 ⟨vs, H1, I1, r1, q1⟩ => ?_) hs rfl))
  obtain ⟨a, xs, ex, q⟩ := q1
  subst ex
  cases r1 with
  | cons r rr =>
    cases rr
    cases r
    have near : ∀ b ∈ [s1.heap.objs.size + 1, s1.heap.objs.size], s1.heap.objs.size ≤ b := fun b hb => by
      rcases List.mem_cons.mp hb with z | z
      · rw [z]; exact Nat.le_add_right _ _
      · rw [List.mem_singleton.mp z]; exact Nat.le_refl _
    rcases q with ⟨hq, q⟩ | ⟨hq, q⟩
    · obtain ⟨its, rv, pl, _⟩ := I1.list hq
      refine call_enumerate_list pl.isList fun h' he hit hsz hk => wpAny_pyIter_enum he ?_
      exact ⟨s1.heap.objs.size + 1, [s1.heap.objs.size + 1, s1.heap.objs.size], _, _, H1, rfl, I1.kept (t' := s1.toks) hk, turn_enum a (s1.heap.objs.size + 1) s1.heap.objs.size, ⟨⟨.none, he⟩, hit, Nat.succ_ne_self _⟩, fun b hb => I1.fpOk (near b hb) (I1.hok.fresh (near b hb)), q⟩
    · obtain ⟨its, rv, pt, _⟩ := I1.tuple hq
      have la : a < s1.heap.objs.size := by obtain ⟨_, z, _⟩ := pt; exact Heap.lt_size z
      refine call_enum1 (begins_tuple a its.toArray) pt fun h' he hit hk => wpAny_pyIter_enum he ?_
      exact ⟨s1.heap.objs.size + 1, [s1.heap.objs.size + 1, s1.heap.objs.size], _, _, H1, rfl, I1.kept (t' := s1.toks) hk, turn_enumT (Nat.succ_ne_self _) (Nat.ne_of_gt (Nat.lt_succ_of_lt la)) (Nat.ne_of_lt la), ⟨⟨.none, he⟩, _, hit, rfl, rfl⟩, fun b hb => I1.fpOk (near b hb) (I1.hok.fresh (near b hb)), q⟩

/-! ### by data -/
def enumF : Nat → List D → List D
  | _, [] => []
  | k, d :: ds => .tuple [.int (k : Nat), d] :: enumF (k + 1) ds
theorem enumF_len : ∀ {k : Nat} {ds : List D}, (enumF k ds).length = ds.length
  | _, [] => rfl
  | k, d :: ds => by show (enumF (k + 1) ds).length + 1 = _; rw [enumF_len]; rfl
theorem enumF_get : ∀ {k i : Nat} {ds : List D} {d : D}, (enumF k ds)[i]? = some d → ∃ d', ds[i]? = some d' ∧ d = .tuple [.int ((k + i : Nat) : Int), d']
  | k, 0, d' :: ds, d, h => ⟨d', rfl, by
    have e : PyData.tuple [.int (k : Nat), d'] = d := by simpa [enumF] using h
    rw [← e]; rfl⟩
  | k, i + 1, d' :: ds, d, h => by
    obtain ⟨x, h1, h2⟩ := enumF_get (k := k + 1) (i := i) (ds := ds) (d := d) (by simpa [enumF] using h)
    exact ⟨x, by simpa using h1, by rw [h2, show k + 1 + i = k + (i + 1) by omega]⟩
  | k, 0, [], d, h => by simp [enumF] at h
  | k, i + 1, [], d, h => by simp [enumF] at h
def zipF : List D → List D → List D
  | d :: ds, e :: es => .tuple [d, e] :: zipF ds es
  | _, _ => []
theorem zipF_len : ∀ {ds es : List D}, (zipF ds es).length = min ds.length es.length
  | [], _ => by simp [zipF]
  | _ :: _, [] => by simp [zipF]
  | d :: ds, e :: es => by show (zipF ds es).length + 1 = _; rw [zipF_len]; simp
theorem zipF_get : ∀ {i : Nat} {ds es : List D} {d : D}, (zipF ds es)[i]? = some d → ∃ x y, ds[i]? = some x ∧ es[i]? = some y ∧ d = .tuple [x, y]
  | 0, x :: ds, y :: es, d, h => ⟨x, y, rfl, rfl, by
    have e : PyData.tuple [x, y] = d := by simpa [zipF] using h
    exact e.symm⟩
  | i + 1, x :: ds, y :: es, d, h => by
    obtain ⟨a, b, h1, h2, h3⟩ := zipF_get (i := i) (ds := ds) (es := es) (d := d) (by simpa [zipF] using h)
    exact ⟨a, b, by simpa using h1, by simpa using h2, h3⟩
  | _, [], _, d, h => by simp [zipF] at h
  | _, _ :: _, [], d, h => by simp [zipF] at h
section
variable {K : PySem.W.Frag} {H : Hp} {O : List Addr} {a b : Addr} {ds es : List D}
theorem rd_lst {vs : List V} {rest : List D} (q : DpAll K (hide H O) (V.ref a :: vs) (PyData.list ds :: rest)) : ∃ xs, SqL K H a xs ∧ DpAll K (hide H O) xs ds := by
  cases q with
  | cons q _ =>
    cases q with
    | lst h1 h2 => exact ⟨_, Same.seq same_hide h1, h2⟩
theorem rd_tup {vs : List V} {rest : List D} (q : DpAll K (hide H O) (V.ref a :: vs) (PyData.tuple ds :: rest)) : ∃ xs, SqT K H a xs ∧ DpAll K (hide H O) xs ds := by
  cases q with
  | cons q _ =>
    cases q with
    | tup h1 h2 => exact ⟨_, seqT_same same_hide h1, h2⟩
theorem fresh_out {T : Addr} (dom : ∀ c ∈ O, ∃ u, H c = some u) (n : H T = none) : T ∉ O := fun z => by
  obtain ⟨u, e⟩ := dom T z
  rw [n] at e; cases e
theorem walks_enumL : Walks K (Ite K a) [.ref a] [.list ds] (enumF 0 ds) := by
  refine ⟨fun H O i _ q hi => ?_, fun H O i y H' d dom q hy hd => ?_, fun H O i _ q hi => ?_⟩
  · obtain ⟨xs, h1, h2⟩ := rd_lst q
    rw [enumF_len] at hi
    have hl : i < xs.length := by rw [DL.DpAll.len h2]; exact hi
    exact ⟨xs, xs[i], h1, List.getElem?_eq_getElem hl⟩
  · obtain ⟨xs, h1, h2⟩ := rd_lst q
    obtain ⟨T, x, rfl, hT, rfl, hx⟩ := hy
    obtain ⟨d', e1, rfl⟩ := enumF_get hd
    obtain ⟨v, e2, e3⟩ := DL.DpAll.get h2 e1
    have e4 := hx xs h1
    rw [e2] at e4
    cases e4
    rw [Nat.zero_add]
    exact ⟨same_new hT, new_tup hT (fresh_out dom hT) (.cons (.int _) (.cons e3 .nil))⟩
  · obtain ⟨xs, h1, h2⟩ := rd_lst q
    exact ⟨xs, h1, by rw [DL.DpAll.len h2, ← enumF_len (k := 0)]; exact hi⟩
theorem walks_enumT : Walks K (IteT K a) [.ref a] [.tuple ds] (enumF 0 ds) := by
  refine ⟨fun H O i _ q hi => ?_, fun H O i y H' d dom q hy hd => ?_, fun H O i _ q hi => ?_⟩
  · obtain ⟨xs, h1, h2⟩ := rd_tup q
    rw [enumF_len] at hi
    have hl : i < xs.length := by rw [DL.DpAll.len h2]; exact hi
    exact ⟨xs, xs[i], h1, List.getElem?_eq_getElem hl⟩
  · obtain ⟨xs, h1, h2⟩ := rd_tup q
    obtain ⟨T, x, rfl, hT, rfl, hx⟩ := hy
    obtain ⟨d', e1, rfl⟩ := enumF_get hd
    obtain ⟨v, e2, e3⟩ := DL.DpAll.get h2 e1
    have e4 := hx xs h1
    rw [e2] at e4
    cases e4
    rw [Nat.zero_add]
    exact ⟨same_new hT, new_tup hT (fresh_out dom hT) (.cons (.int _) (.cons e3 .nil))⟩
  · obtain ⟨xs, h1, h2⟩ := rd_tup q
    exact ⟨xs, h1, by rw [DL.DpAll.len h2, ← enumF_len (k := 0)]; exact hi⟩
theorem two {x y : D} {v u : V} (q : DpAll K (hide H O) [v, u] [x, y]) : DpAll K (hide H O) [v] [x] ∧ DpAll K (hide H O) [u] [y] := by
  cases q with
  | cons h1 h2 => exact ⟨.cons h1 .nil, h2⟩
theorem walks_zipL : Walks K (Itz K a b) [.ref a, .ref b] [.list ds, .list es] (zipF ds es) := by
  refine ⟨fun H O i _ q hi => ?_, fun H O i y H' d dom q hy hd => ?_, fun H O i _ q hi => ?_⟩
  · obtain ⟨xs, h1, h2⟩ := rd_lst (two q).1
    obtain ⟨ys, g1, g2⟩ := rd_lst (two q).2
    rw [zipF_len] at hi
    have l1 : i < xs.length := by rw [DL.DpAll.len h2]; omega
    have l2 : i < ys.length := by rw [DL.DpAll.len g2]; omega
    exact ⟨xs, ys, xs[i], ys[i], h1, g1, List.getElem?_eq_getElem l1, List.getElem?_eq_getElem l2⟩
  · obtain ⟨xs, h1, h2⟩ := rd_lst (two q).1
    obtain ⟨ys, g1, g2⟩ := rd_lst (two q).2
    obtain ⟨T, x, z, rfl, hT, rfl, hx, hz⟩ := hy
    obtain ⟨d1, d2, e1, e2, rfl⟩ := zipF_get hd
    obtain ⟨v, f1, f2⟩ := DL.DpAll.get h2 e1
    obtain ⟨u, f3, f4⟩ := DL.DpAll.get g2 e2
    have k1 := hx xs h1
    have k2 := hz ys g1
    rw [f1] at k1; cases k1
    rw [f3] at k2; cases k2
    exact ⟨same_new hT, new_tup hT (fresh_out dom hT) (.cons f2 (.cons f4 .nil))⟩
  · obtain ⟨xs, h1, h2⟩ := rd_lst (two q).1
    obtain ⟨ys, g1, g2⟩ := rd_lst (two q).2
    rw [zipF_len] at hi
    refine ⟨xs, ys, h1, g1, ?_⟩
    rw [DL.DpAll.len h2, DL.DpAll.len g2]
    omega
theorem walks_zipT : Walks K (RZ.ItzT K a b) [.ref a, .ref b] [.tuple ds, .tuple es] (zipF ds es) := by
  refine ⟨fun H O i _ q hi => ?_, fun H O i y H' d dom q hy hd => ?_, fun H O i _ q hi => ?_⟩
  · obtain ⟨xs, h1, h2⟩ := rd_tup (two q).1
    obtain ⟨ys, g1, g2⟩ := rd_tup (two q).2
    rw [zipF_len] at hi
    have l1 : i < xs.length := by rw [DL.DpAll.len h2]; omega
    have l2 : i < ys.length := by rw [DL.DpAll.len g2]; omega
    exact ⟨xs, ys, xs[i], ys[i], h1, g1, List.getElem?_eq_getElem l1, List.getElem?_eq_getElem l2⟩
  · obtain ⟨xs, h1, h2⟩ := rd_tup (two q).1
    obtain ⟨ys, g1, g2⟩ := rd_tup (two q).2
    obtain ⟨T, x, z, rfl, hT, rfl, hx, hz⟩ := hy
    obtain ⟨d1, d2, e1, e2, rfl⟩ := zipF_get hd
    obtain ⟨v, f1, f2⟩ := DL.DpAll.get h2 e1
    obtain ⟨u, f3, f4⟩ := DL.DpAll.get g2 e2
    have k1 := hx xs h1
    have k2 := hz ys g1
    rw [f1] at k1; cases k1
    rw [f3] at k2; cases k2
    exact ⟨same_new hT, new_tup hT (fresh_out dom hT) (.cons f2 (.cons f4 .nil))⟩
  · obtain ⟨xs, h1, h2⟩ := rd_tup (two q).1
    obtain ⟨ys, g1, g2⟩ := rd_tup (two q).2
    rw [zipF_len] at hi
    refine ⟨xs, ys, h1, g1, ?_⟩
    rw [DL.DpAll.len h2, DL.DpAll.len g2]
    omega
end
def stepD (lo c : Int) (n : Nat) : List D := (List.range n).map fun (k : Nat) => PyData.int (lo + k * c)
theorem walks_step {K : PySem.W.Frag} {lo c : Int} {n : Nat} : Walks K (Itc lo c n) [] [] (stepD lo c n) := by
  refine ⟨fun H O i _ q hi => ?_, fun H O i y H' d _ q hy hd => ?_, fun H O i _ q hi => ?_⟩
  · show i < n
    simpa [stepD] using hi
  · obtain ⟨e1, e2⟩ := hy
    have hi : i < n := by
      have := (List.getElem?_eq_some_iff.mp hd).1
      simpa [stepD] using this
    have e : (stepD lo c n)[i]? = some (.int (lo + (i : Nat) * c)) := by
      unfold stepD
      rw [List.getElem?_map, List.getElem?_range hi]
      rfl
    rw [e] at hd
    cases hd
    subst e1 e2
    exact ⟨Same.refl _, .int _⟩
  · show n ≤ i
    simpa [stepD] using hi
@[reducible] def itemsLT : D → Option (List D)
  | .list ds => some ds
  | .tuple ds => some ds
  | _ => none
@[reducible] def wIEnum (wa : WA) : WI := fun ρ Q E => wa ρ (fun cs ρ1 => match frzs cs with
  | [.v d] => optK (itemsLT d) fun ds => Q (enumF 0 ds) ρ1
  | _ => False) E
@[reducible] def wIZip (wa : WA) : WI := fun ρ Q E => wa ρ (fun cs ρ1 => match frzs cs with
  | [.v (.list ds), .v (.list es)] => Q (zipF ds es) ρ1
  | [.v (.tuple ds), .v (.tuple es)] => Q (zipF ds es) ρ1
  | _ => False) E
@[reducible] def wIR3 (wa : WA) : WI := fun ρ Q E => wa ρ (fun cs ρ1 => match frzs cs with
  | [.v (.int i), .v (.int j), .v (.int c)] => ∃ n : Nat, RgC i j c n ∧ Q (stepD i c n) ρ1
  | _ => False) E
section
variable {X : Cx} {g : G} {W : WX} {tg a b c : Expr} {wa : WA} {p pos : Pos}
theorem args1 {σ : L2.St} {vs xs : List V} {H : Hp} {ρ : Rho} {ccs cs : List C} {K : PySem.W.Frag} {d : D} (hl : xs.length = ccs.length) (h : SR K g σ (xs ++ vs) H ρ (ccs ++ cs)) (e : ccs.map frzC = [.v d]) : ∃ x, xs = [x] ∧ SR K g σ (x :: vs) H ρ (.v d :: cs) := by
  have S := h.frzArgs hl
  rw [e] at S
  have l : xs.length = 1 := by rw [hl]; simpa using congrArg List.length e
  match xs, l with
  | [x], _ => exact ⟨x, rfl, S⟩
theorem args2 {σ : L2.St} {vs xs : List V} {H : Hp} {ρ : Rho} {ccs cs : List C} {K : PySem.W.Frag} {d d2 : D} (hl : xs.length = ccs.length) (h : SR K g σ (xs ++ vs) H ρ (ccs ++ cs)) (e : ccs.map frzC = [.v d, .v d2]) : ∃ x y, xs = [x, y] ∧ SR K g σ (x :: y :: vs) H ρ (.v d :: .v d2 :: cs) := by
  have S := h.frzArgs hl
  rw [e] at S
  have l : xs.length = 2 := by rw [hl]; simpa using congrArg List.length e
  match xs, l with
  | [x, y], _ => exact ⟨x, y, rfl, S⟩
theorem args3 {σ : L2.St} {vs xs : List V} {H : Hp} {ρ : Rho} {ccs cs : List C} {K : PySem.W.Frag} {d d2 d3 : D} (hl : xs.length = ccs.length) (h : SR K g σ (xs ++ vs) H ρ (ccs ++ cs)) (e : ccs.map frzC = [.v d, .v d2, .v d3]) : ∃ x y z, xs = [x, y, z] ∧ SR K g σ (x :: y :: z :: vs) H ρ (.v d :: .v d2 :: .v d3 :: cs) := by
  have S := h.frzArgs hl
  rw [e] at S
  have l : xs.length = 3 := by rw [hl]; simpa using congrArg List.length e
  match xs, l with
  | [x, y, z], _ => exact ⟨x, y, z, rfl, S⟩
theorem ei_enumerate {elts : List Expr} {kk : Nat} {tpos : Pos} (hg : Gl X "enumerate") (hm : X.mg "enumerate" = none) (ha : EA X g W [a] wa) (hs : starEach [a] X.env = [(false, eval a X.env)] := by rfl) : EI X g W (.Tuple elts kk tpos) (.Call (.Name "enumerate" p) [a] [] pos) (wIEnum wa) := by
  obtain ⟨t, q, s⟩ := ha.ex
  refine ⟨_, pi_enumA hg hm q hs, fun σ vs H ρ cs QD ED R hS hw hX hQ => ?_⟩
  refine s σ vs H ρ cs _ ED _ hS hw hX fun xs H1 ccs ρ1 hl S1 q1 => ?_
  split at q1
  · rename_i d ec
    obtain ⟨x, rfl, S2⟩ := args1 hl S1 (frzs_eq.symm.trans ec)
    have q := S2.top
    cases q with
    | lst h1 h2 => exact ⟨_, _, rfl, .inl ⟨Same.seq same_hide h1, hQ _ [_] [.list _] _ H1 ρ1 rfl S2 walks_enumL q1⟩⟩
    | tup h1 h2 => exact ⟨_, _, rfl, .inr ⟨seqT_same same_hide h1, hQ _ [_] [.tuple _] _ H1 ρ1 rfl S2 walks_enumT q1⟩⟩
    | _ => exact q1.elim
  · exact q1.elim
theorem ei_zip {elts : List Expr} {kk : Nat} {tpos : Pos} (hg : Gl X "zip") (hm : X.mg "zip" = none) (ha : EA X g W [a, b] wa) (hs : starEach [a, b] X.env = (false, eval a X.env) :: starEach [b] X.env := by rfl) (hpl : (backTo pos (starEach [b] X.env)).any (·.1) = false := by rfl) : EI X g W (.Tuple elts kk tpos) (.Call (.Name "zip" p) [a, b] [] pos) (wIZip wa) := by
  obtain ⟨t, q, s⟩ := ha.ex
  refine ⟨_, RZ.pi_zipA hg hm q hs hpl, fun σ vs H ρ cs QD ED R hS hw hX hQ => ?_⟩
  refine s σ vs H ρ cs _ ED _ hS hw hX fun xs H1 ccs ρ1 hl S1 q1 => ?_
  split at q1
  · rename_i ds es ec
    obtain ⟨x, y, rfl, S2⟩ := args2 hl S1 (frzs_eq.symm.trans ec)
    have z1 := S2.top
    have z2 := S2.pop.top
    cases z1 with
    | lst h1 h2 =>
      cases z2 with
      | lst g1 g2 => exact ⟨_, _, _, _, rfl, .inl ⟨Same.seq same_hide h1, Same.seq same_hide g1, hQ _ [_, _] [.list _, .list _] _ H1 ρ1 rfl S2 walks_zipL q1⟩⟩
  · rename_i ds es ec
    obtain ⟨x, y, rfl, S2⟩ := args2 hl S1 (frzs_eq.symm.trans ec)
    have z1 := S2.top
    have z2 := S2.pop.top
    cases z1 with
    | tup h1 h2 =>
      cases z2 with
      | tup g1 g2 => exact ⟨_, _, _, _, rfl, .inr ⟨seqT_same same_hide h1, seqT_same same_hide g1, hQ _ [_, _] [.tuple _, .tuple _] _ H1 ρ1 rfl S2 walks_zipT q1⟩⟩
  · exact q1.elim
theorem ei_range3 (hg : Gl X "range") (hm : X.mg "range" = none) (ha : EA X g W [a, b, c] wa) (hs : starEach [a, b, c] X.env = (false, eval a X.env) :: starEach [b, c] X.env := by rfl) (hpl : (backTo pos (starEach [b, c] X.env)).any (·.1) = false := by rfl) : EI X g W tg (.Call (.Name "range" p) [a, b, c] [] pos) (wIR3 wa) := by
  obtain ⟨t, q, s⟩ := ha.ex
  refine ⟨_, pi_range3 hg hm q hs hpl, fun σ vs H ρ cs QD ED R hS hw hX hQ => ?_⟩
  refine s σ vs H ρ cs _ ED _ hS hw hX fun xs H1 ccs ρ1 hl S1 q1 => ?_
  split at q1
  · rename_i i j k ec
    obtain ⟨x, y, z, rfl, S2⟩ := args3 hl S1 (frzs_eq.symm.trans ec)
    obtain ⟨n, hn, q1⟩ := q1
    have z1 := S2.top
    have z2 := S2.pop.top
    have z3 := S2.pop.pop.top
    cases z1; cases z2; cases z3
    exact ⟨i, j, k, n, rfl, hn, hQ _ [] [] _ H1 ρ1 rfl S2.pop.pop.pop walks_step q1⟩
  · exact q1.elim
end
end DL

set_option Elab.async false
set_option linter.all false
set_option maxRecDepth 100000
set_option maxHeartbeats 4000000
/-! DL: more of Python: t[::-1], x in t, + of any kind, max and min of a list, int of a text -/
namespace DL
open PySem PySem.Spec PyProof.Rows L2
/-! ### t[::-1] of a tuple -/
section
variable {prog : Program} {w : World} {A : Around} {E : Value → Shared → Prop} {s : Shared}
end
theorem DpAll.rev {K : PySem.W.Frag} {B : Hp} : ∀ {xs : List V} {ds : List D}, DpAll K B xs ds → DpAll K B xs.reverse ds.reverse
  | _, [], h => by cases h; exact .nil
  | _, d :: ds, h => by
    cases h with
    | cons h1 h2 => rw [List.reverse_cons, List.reverse_cons]; exact DL.DpAll.app (DpAll.rev h2) (.cons h1 .nil)
/-! ### x in t -/
section
variable {X : Cx}
end
section
variable {X : Cx} {g : G} {W : WX} {a b : Expr} {wa wb : WE} {pos : Pos}
theorem units65 {k : Nat} {A : Around} (hr : Room k A) : A.units + 65 < cLine := by
  have := hr.un
  omega
end

/-! ### max and min of a list of numbers -/
section
variable {X : Cx} {g : G} {W : WX} {e : Expr} {es : List Expr} {wa : WA} {p pos : Pos}
end

/-! ### + of numbers, texts, tuples -/
def rPlus (K : PySem.W.Frag) : R2 := fun x y H Q => (∃ i j, x = .int i ∧ y = .int j ∧ Q (.int (i + j)) H) ∨ (∃ i j, x = .str i ∧ y = .str j ∧ i.length + j.length ≤ sizeLine ∧ Q (.str (i ++ j)) H) ∨ rCatA K x y H Q
section
variable {X : Cx}
theorem op_plus : OpR X (binaryOp .Add) (rPlus X.K) := by
  intro pins s σ H x y v u Q I rx ry h
  rcases h with h | h | h
  · exact op_add pins s σ H x y v u Q I rx ry h
  · exact op_add_str pins s σ H x y v u Q I rx ry h
  · exact op_catA pins s σ H x y v u Q I rx ry h
end
@[reducible] def oPlus : O2 := fun d1 d2 k => match d1, d2 with
  | .int i, .int j => k (.v (.int (i + j)))
  | .str i, .str j => i.length + j.length ≤ sizeLine ∧ k (.v (.str (i ++ j)))
  | .tuple ds, .tuple es => ds.length + es.length ≤ sizeLine ∧ k (.v (.tuple (ds ++ es)))
  | _, _ => False
theorem DpAll.nil_iff {K : PySem.W.Frag} {B : Hp} {xs : List V} {ds : List D} (h : DpAll K B xs ds) : xs = [] ↔ ds = [] := by
  cases h <;> simp
theorem lift_plus {K : PySem.W.Frag} : Lift2 K (rPlus K) oPlus := by
  intro O H x y dx dy QD Q hO hx hy q fin
  cases hx with
  | int i =>
    cases hy <;> try exact q.elim
    exact .inl ⟨_, _, rfl, rfl, fin _ H (.v _) (Same.refl H) (.int _) q⟩
  | str i =>
    cases hy <;> try exact q.elim
    exact .inr (.inl ⟨_, _, rfl, rfl, q.1, fin _ H (.v _) (Same.refl H) (.str _) q.2⟩)
  | tup h1 h2 =>
    cases hy with
    | tup g1 g2 =>
      rename_i a xs ds b ys es
      refine .inr (.inr ⟨_, _, _, _, rfl, rfl, seqT_same same_hide h1, seqT_same same_hide g1, by rw [DL.DpAll.len h2, DL.DpAll.len g2]; exact q.1, fun z => ?_, fun z1 z2 => ?_, fun z1 z2 p n => ?_⟩)
      · have e := (DpAll.nil_iff h2).mp z
        have q2 := q.2
        rw [e, List.nil_append] at q2
        exact fin _ H (.v _) (Same.refl H) (.tup g1 g2) q2
      · have e := (DpAll.nil_iff g2).mp z2
        have q2 := q.2
        rw [e, List.append_nil] at q2
        exact fin _ H (.v _) (Same.refl H) (.tup h1 h2) q2
      · exact fin _ _ (.v _) (same_new n) (new_tup n (fun z => by obtain ⟨u, e⟩ := hO p z; rw [n] at e; cases e) (DL.DpAll.app h2 g2)) q.2
    | _ => exact q.elim
  | _ => exact q.elim
theorem ee_plus {X : Cx} {g : G} {W : WX} {a b : Expr} {wa wb : WE} {pos : Pos} {P : Prop} (_ : P) (ha : EE X g W a wa) (hb : EE X g W b wb) : EE X g W (.BinOp a .Add b pos) (wB oPlus wa wb) := by
  obtain ⟨ta, p1, s1⟩ := ha.ex
  obtain ⟨tb, p2, s2⟩ := hb.ex
  exact ⟨_, pe_op op_plus p1 p2, sem_op lift_plus s1 s2⟩
/-! ### int of a text -/
end DL

set_option Elab.async false
set_option linter.all false
set_option maxRecDepth 100000
set_option maxHeartbeats 4000000
/-! DL: facts of data: how deep, equal or not -/
namespace DL
open PySem PySem.Spec PyProof.Rows L2
structure Lay (k : Nat) (d : D) : Prop where
  ok : d.canLay0 = true
  dp : d.depth ≤ k
theorem Lay.up {k m : Nat} {d : D} (h : Lay k d) (l : k ≤ m) : Lay m d := ⟨h.ok, Nat.le_trans h.dp l⟩
theorem Lay.int {k : Nat} (i : Int) : Lay k (.int i) := ⟨rfl, by simp [PyData.depth]⟩
theorem Lay.bool {k : Nat} (b : Bool) : Lay k (.bool b) := ⟨rfl, by simp [PyData.depth]⟩
theorem Lay.none {k : Nat} : Lay k .none := ⟨rfl, by simp [PyData.depth]⟩
theorem Lay.str {k : Nat} {x : Str} (h : PyData.canLay0 (.str x) = true) : Lay k (.str x) := ⟨h, by simp [PyData.depth]⟩
theorem lay_all {k : Nat} : ∀ {ds : List D}, (∀ d ∈ ds, Lay k d) → PyData.canLayAll0 ds = true ∧ PyData.depthAll ds ≤ k
  | [], _ => ⟨rfl, by simp [PyData.depthAll]⟩
  | d :: ds, h => by
    obtain ⟨h1, h2⟩ := lay_all (ds := ds) fun e he => h e (.tail _ he)
    obtain ⟨g1, g2⟩ := h d (.head _)
    refine ⟨by rw [PyData.canLayAll0, g1, h1]; rfl, ?_⟩
    simp only [PyData.depthAll]
    omega
theorem Lay.tuple {k : Nat} {ds : List D} (h : ∀ d ∈ ds, Lay k d) : Lay (k + 1) (.tuple ds) := by
  obtain ⟨h1, h2⟩ := lay_all h
  exact ⟨by rw [PyData.canLay0]; exact h1, by simp only [PyData.depth]; omega⟩
theorem Lay.list {k : Nat} {ds : List D} (h : ∀ d ∈ ds, Lay k d) : Lay (k + 1) (.list ds) := by
  obtain ⟨h1, h2⟩ := lay_all h
  exact ⟨by rw [PyData.canLay0]; exact h1, by simp only [PyData.depth]; omega⟩
theorem Lay.shaped {k : Nat} {d : D} (h : Lay k d) (l : k ≤ 64 := by decide) : SeqAt.shaped d = true := by
  show (d.canLay0 && decide (d.depth ≤ 64)) = true
  rw [Bool.and_eq_true]
  exact ⟨h.ok, decide_eq_true (Nat.le_trans h.dp l)⟩
theorem Lay.refl {k : Nat} {d : D} (h : Lay k d) : PyData.eqv d d = true := SeqAt.eqv_refl d h.ok
mutual
/-- no truths within -/
def nob : D → Bool
  | .bool _ => false
  | .dict _ => false
  | .list xs => nobAll xs
  | .tuple xs => nobAll xs
  | .none => true
  | .int _ => true
  | .str _ => true
def nobAll : List D → Bool
  | [] => true
  | x :: xs => nob x && nobAll xs
end
mutual
theorem eqv_iff : ∀ (d e : D), nob d = true → nob e = true → (PyData.eqv d e = true ↔ d = e)
  | .none, e, _, h => by cases e <;> simp_all [PyData.eqv, nob]
  | .int i, e, _, h => by cases e <;> simp_all [PyData.eqv, nob]
  | .str x, e, _, h => by cases e <;> simp_all [PyData.eqv, nob]
  | .list xs, e, h1, h => by
    cases e with
    | list ys => rw [PyData.eqv, eqvAll_iff xs ys (by simpa [nob] using h1) (by simpa [nob] using h)]; simp
    | _ => simp_all [PyData.eqv, nob]
  | .tuple xs, e, h1, h => by
    cases e with
    | tuple ys => rw [PyData.eqv, eqvAll_iff xs ys (by simpa [nob] using h1) (by simpa [nob] using h)]; simp
    | _ => simp_all [PyData.eqv, nob]
  | .bool _, _, h, _ => by simp [nob] at h
  | .dict _, _, h, _ => by simp [nob] at h
theorem eqvAll_iff : ∀ (xs ys : List D), nobAll xs = true → nobAll ys = true → (PyData.eqvAll xs ys = true ↔ xs = ys)
  | [], [], _, _ => by simp [PyData.eqvAll]
  | [], _ :: _, _, _ => by simp [PyData.eqvAll]
  | _ :: _, [], _, _ => by simp [PyData.eqvAll]
  | x :: xs, y :: ys, h1, h2 => by
    have a : nob x = true ∧ nobAll xs = true := by simpa [nobAll] using h1
    have b : nob y = true ∧ nobAll ys = true := by simpa [nobAll] using h2
    rw [PyData.eqvAll, Bool.and_eq_true, eqv_iff x y a.1 b.1, eqvAll_iff xs ys a.2 b.2]
    simp
end
theorem eqv_no {d e : D} (h : nob d = true) (h' : nob e = true) (n : d ≠ e) : PyData.eqv d e = false := by
  cases q : PyData.eqv d e with
  | true => exact absurd ((eqv_iff d e h h').mp q) n
  | false => rfl
/-! ### comprehensions -/
theorem lcK_ind {T : List Nat} {wg : WG} {wt : WT} {we : WE} {k : List D → Rho → Prop} (I : List D → List D → Rho → Prop) (h0 : ∀ acc ρ, I [] acc ρ → k acc ρ)
    (h1 : ∀ d ds acc ρ (next : List D → Rho → Prop), (∀ acc' ρ', I ds acc' ρ' → next acc' ρ') → I (d :: ds) acc ρ → wg d ρ fun ρ1 => wt ρ1 (fun b ρ2 => if b = true then we ρ2 (fun c ρ3 => match frzC c with
      | .v d' => next (acc ++ [d']) (clr T ρ3)
      | _ => False) (fun _ _ => False) else next acc (clr T ρ2)) (fun _ _ => False)) : ∀ ds acc ρ, I ds acc ρ → lcK T wg wt we ds acc ρ k
  | [], acc, ρ, h => h0 acc ρ h
  | d :: ds, acc, ρ, h => h1 d ds acc ρ _ (fun acc' ρ' h' => lcK_ind I h0 h1 ds acc' ρ' h') h
theorem rangeD_cons {lo : Int} {n : Nat} : rangeD lo (n + 1) = .int lo :: rangeD (lo + 1) n := by
  unfold rangeD
  rw [List.range_succ_eq_map, List.map_cons, List.map_map]
  have e : lo + ((0 : Nat) : Int) = lo := by omega
  rw [e]
  congr 1
  apply List.map_congr_left
  intro k _
  show PyData.int (lo + ((k + 1 : Nat) : Int)) = .int (lo + 1 + (k : Int))
  congr 1
  omega
theorem rangeD_zero {lo : Int} : rangeD lo 0 = [] := rfl
theorem rangeD_len {lo : Int} {n : Nat} : (rangeD lo n).length = n := by simp [rangeD]
theorem lcK_eq {T : List Nat} {wg : WG} {wt : WT} {we : WE} {ds acc : List D} {ρ ρ' : Rho} {k : List D → Rho → Prop} (e : ρ = ρ') (h : lcK T wg wt we ds acc ρ' k) : lcK T wg wt we ds acc ρ k := by
  subst e
  exact h
theorem forK_eq {wg : WG} {wb : WS} {ds : List D} {DD : EndsD} {ρ ρ' : Rho} (e : ρ = ρ') (h : forK wg wb ds DD ρ') : forK wg wb ds DD ρ := by
  subst e
  exact h
theorem lcK_xs {α : Type} {T : List Nat} {wg : WG} {wt : WT} {we : WE} {k : List D → Rho → Prop} {ρ0 : Rho} {inj : α → D} (g : α → Option D) :
    ∀ (xs : List α) (acc : List D), (∀ x ∈ xs, ∀ next : Option D → Rho → Prop, next (g x) ρ0 → wg (inj x) ρ0 fun ρ1 => wt ρ1 (fun b ρ2 => if b = true then we ρ2 (fun c ρ3 => match frzC c with
      | .v d' => next (some d') (clr T ρ3)
      | _ => False) (fun _ _ => False) else next none (clr T ρ2)) (fun _ _ => False)) → k (acc ++ xs.filterMap g) ρ0 → lcK T wg wt we (xs.map inj) acc ρ0 k
  | [], acc, _, h => by
    rw [List.filterMap_nil, List.append_nil] at h
    exact h
  | x :: xs, acc, h1, h => by
    refine h1 x (.head _) (fun o ρ => match o with
      | some d' => lcK T wg wt we (xs.map inj) (acc ++ [d']) ρ k
      | none => lcK T wg wt we (xs.map inj) acc ρ k) ?_
    have rest : ∀ acc', k (acc' ++ xs.filterMap g) ρ0 → lcK T wg wt we (xs.map inj) acc' ρ0 k := fun acc' => lcK_xs g xs acc' fun e he => h1 e (.tail _ he)
    cases e : g x with
    | none =>
      show lcK T wg wt we (xs.map inj) acc ρ0 k
      refine rest acc ?_
      rw [List.filterMap_cons, e] at h
      exact h
    | some d' =>
      show lcK T wg wt we (xs.map inj) (acc ++ [d']) ρ0 k
      refine rest _ ?_
      rw [List.filterMap_cons, e] at h
      rw [List.append_assoc]
      exact h
theorem lcK_ys {α : Type} {T : List Nat} {wg : WG} {wt : WT} {we : WE} {k : List D → Rho → Prop} {ρ0 : Rho} {inj : α → D} (g : α → D) (xs : List α)
    (h : ∀ x ∈ xs, ∀ next : Option D → Rho → Prop, next (some (g x)) ρ0 → wg (inj x) ρ0 fun ρ1 => wt ρ1 (fun b ρ2 => if b = true then we ρ2 (fun c ρ3 => match frzC c with
      | .v d' => next (some d') (clr T ρ3)
      | _ => False) (fun _ _ => False) else next none (clr T ρ2)) (fun _ _ => False)) (fin : k (xs.map g) ρ0) : lcK T wg wt we (xs.map inj) [] ρ0 k := by
  refine lcK_xs (fun x => some (g x)) xs [] h ?_
  rw [List.nil_append]
  have e : xs.filterMap (fun x => some (g x)) = xs.map g := by
    clear h fin
    induction xs with
    | nil => rfl
    | cons x xs ih => rw [List.filterMap_cons, List.map_cons, ih]
  rw [e]
  exact fin
theorem lcK_rg {T : List Nat} {wg : WG} {wt : WT} {we : WE} {k : List D → Rho → Prop} {ρ0 : Rho} {lo : Int} (g : Nat → Option D) (n : Nat)
    (h : ∀ x, x < n → ∀ next : Option D → Rho → Prop, next (g x) ρ0 → wg (.int (lo + (x : Nat))) ρ0 fun ρ1 => wt ρ1 (fun b ρ2 => if b = true then we ρ2 (fun c ρ3 => match frzC c with
      | .v d' => next (some d') (clr T ρ3)
      | _ => False) (fun _ _ => False) else next none (clr T ρ2)) (fun _ _ => False)) (fin : k ((List.range n).filterMap g) ρ0) : lcK T wg wt we (rangeD lo n) [] ρ0 k := by
  refine lcK_xs (inj := fun (x : Nat) => PyData.int (lo + x)) g (List.range n) [] (fun x hx => h x (List.mem_range.mp hx)) ?_
  rw [List.nil_append]
  exact fin
theorem lfreeAll_of : ∀ {ds : List D}, (∀ d ∈ ds, lfree d = true) → lfree.lfreeAll ds = true
  | [], _ => rfl
  | d :: ds, h => by
    rw [lfree.lfreeAll, h d (.head _), lfreeAll_of fun e he => h e (.tail _ he)]
    rfl
theorem lfree_tup {ds : List D} (h : ∀ d ∈ ds, lfree d = true) : lfree (.tuple ds) = true := by
  show lfree.lfreeAll ds = true
  exact lfreeAll_of h
theorem lf_ints {k : Nat} {ns : List Int} : C.lf (.own k (.lst (ns.map PyData.int))) = true := by
  show lfree.lfreeAll _ = true
  refine lfreeAll_of fun d hd => ?_
  obtain ⟨x, _, rfl⟩ := List.mem_map.mp hd
  rfl
theorem lf_strs {k : Nat} {ns : List Str} : C.lf (.own k (.lst (ns.map PyData.str))) = true := by
  show lfree.lfreeAll _ = true
  refine lfreeAll_of fun d hd => ?_
  obtain ⟨x, _, rfl⟩ := List.mem_map.mp hd
  rfl
theorem isT_tuple_none {b : Bool} {i : Int} {x : Str} {ds : List D} : isT "tuple" PyData.none = false := by simp [isT]
theorem isT_tuple_bool {b : Bool} {i : Int} {x : Str} {ds : List D} : isT "tuple" (.bool b) = false := by simp [isT]
theorem isT_tuple_int {b : Bool} {i : Int} {x : Str} {ds : List D} : isT "tuple" (.int i) = false := by simp [isT]
theorem isT_tuple_str {b : Bool} {i : Int} {x : Str} {ds : List D} : isT "tuple" (.str x) = false := by simp [isT]
theorem isT_tuple_list {b : Bool} {i : Int} {x : Str} {ds : List D} : isT "tuple" (.list ds) = false := by simp [isT]
theorem isT_tuple_tuple {b : Bool} {i : Int} {x : Str} {ds : List D} : isT "tuple" (.tuple ds) = true := by simp [isT]
theorem isT_int_none {b : Bool} {i : Int} {x : Str} {ds : List D} : isT "int" PyData.none = false := by simp [isT]
theorem isT_int_bool {b : Bool} {i : Int} {x : Str} {ds : List D} : isT "int" (.bool b) = true := by simp [isT]
theorem isT_int_int {b : Bool} {i : Int} {x : Str} {ds : List D} : isT "int" (.int i) = true := by simp [isT]
theorem isT_int_str {b : Bool} {i : Int} {x : Str} {ds : List D} : isT "int" (.str x) = false := by simp [isT]
theorem isT_int_list {b : Bool} {i : Int} {x : Str} {ds : List D} : isT "int" (.list ds) = false := by simp [isT]
theorem isT_int_tuple {b : Bool} {i : Int} {x : Str} {ds : List D} : isT "int" (.tuple ds) = false := by simp [isT]
theorem isT_bool_none {b : Bool} {i : Int} {x : Str} {ds : List D} : isT "bool" PyData.none = false := by simp [isT]
theorem isT_bool_bool {b : Bool} {i : Int} {x : Str} {ds : List D} : isT "bool" (.bool b) = true := by simp [isT]
theorem isT_bool_int {b : Bool} {i : Int} {x : Str} {ds : List D} : isT "bool" (.int i) = false := by simp [isT]
theorem isT_bool_str {b : Bool} {i : Int} {x : Str} {ds : List D} : isT "bool" (.str x) = false := by simp [isT]
theorem isT_bool_list {b : Bool} {i : Int} {x : Str} {ds : List D} : isT "bool" (.list ds) = false := by simp [isT]
theorem isT_bool_tuple {b : Bool} {i : Int} {x : Str} {ds : List D} : isT "bool" (.tuple ds) = false := by simp [isT]
theorem isT_str_none {b : Bool} {i : Int} {x : Str} {ds : List D} : isT "str" PyData.none = false := by simp [isT]
theorem isT_str_bool {b : Bool} {i : Int} {x : Str} {ds : List D} : isT "str" (.bool b) = false := by simp [isT]
theorem isT_str_int {b : Bool} {i : Int} {x : Str} {ds : List D} : isT "str" (.int i) = false := by simp [isT]
theorem isT_str_str {b : Bool} {i : Int} {x : Str} {ds : List D} : isT "str" (.str x) = true := by simp [isT]
theorem isT_str_list {b : Bool} {i : Int} {x : Str} {ds : List D} : isT "str" (.list ds) = false := by simp [isT]
theorem isT_str_tuple {b : Bool} {i : Int} {x : Str} {ds : List D} : isT "str" (.tuple ds) = false := by simp [isT]
theorem isT_list_none {b : Bool} {i : Int} {x : Str} {ds : List D} : isT "list" PyData.none = false := by simp [isT]
theorem isT_list_bool {b : Bool} {i : Int} {x : Str} {ds : List D} : isT "list" (.bool b) = false := by simp [isT]
theorem isT_list_int {b : Bool} {i : Int} {x : Str} {ds : List D} : isT "list" (.int i) = false := by simp [isT]
theorem isT_list_str {b : Bool} {i : Int} {x : Str} {ds : List D} : isT "list" (.str x) = false := by simp [isT]
theorem isT_list_list {b : Bool} {i : Int} {x : Str} {ds : List D} : isT "list" (.list ds) = true := by simp [isT]
theorem isT_list_tuple {b : Bool} {i : Int} {x : Str} {ds : List D} : isT "list" (.tuple ds) = false := by simp [isT]
end DL

set_option Elab.async false
set_option linter.all false
/-! the head: a law's promise over data -/
namespace DL
open PySem PySem.Spec PyProof.Rows L2
theorem mkG_start {K : PySem.W.Frag} {H : Hp} {x : V} {d : D} (h : Dp K H x d) : SR K (mkG H [x] [.v d] [] L0) [some x] [] H [.v d] [] := by
  have e : tot [some x] [] [C.v d] [] = [] := by
    show foot [] [] ++ (footC (some x) (.v d) ++ foot [] []) = []
    cases x <;> rfl
  refine ⟨fun a o q _ => q, fun a o q => ⟨o, q⟩, fun a z => (by cases z), fun a z => ?_, ?_, ?_, ?_, fun i z => ?_⟩
  · rw [e] at z; cases z
  · rw [e]; exact .nil
  · rw [e]
    refine ⟨⟨x, rfl, dp_mono (fun a o q => hide_some.mpr ⟨fun z => (by cases z), q⟩) _ _ h⟩, trivial⟩
  · trivial
  · rcases z with z | z <;> cases z
theorem sp_law {K : PySem.W.Frag} {S : SpD} {n : Nat} (hn : n ≤ sizeLine) (law_in : ∀ ns : List Int, ns.length ≤ n → S [.v (.list (ns.map PyData.int))] (fun c _ => c = .v (.bool true)) (fun _ _ => False))
    (H : Hp) (a : Addr) (ns : List Int) (hl : ns.length ≤ n) (hO : L2.Only H) (hS : SqL K H a (ns.map V.int)) : spOf K S [.ref a] H (fun v _ => v = .bl true) fun _ _ _ => False := by
  have hd : Dp K H (.ref a) (.list (ns.map PyData.int)) := by
    refine .lst hS ?_
    clear hS hl
    induction ns with
    | nil => exact .nil
    | cons i ns ih => exact .cons (.int i) ih
  refine ⟨[.v (.list (ns.map PyData.int))], [], _, _, mkG_start hd, law_in ns hl, fun c rs _ e v H' S1 => ?_, fun x rs z => z.elim⟩
  subst e
  obtain ⟨y, e1, e2⟩ := S1.tp.1
  cases e1
  cases e2
  rfl
end DL

set_option Elab.async false
set_option linter.all false
set_option maxRecDepth 100000
set_option maxHeartbeats 4000000
/-! DL, at the machine's level: set(list of ints), sorted(set) of any size, min with a default -/
namespace DLS
open PySem PySem.Spec PyProof.Rows L2
section
variable {P : Program} {w : World} {A : Around} {E : Value → Shared → Prop} {s : Shared}
abbrev set0 (w : World) : Obj := { cls := .type "set", dict := none, data := .set #[] 0 (.fresh 0 0 (!w.params.followText "set-order")) }
abbrev GoalS (P : Program) (w : World) (s : Shared) (ns : List Int) (s₂ : Shared) : Prop := ∃ h' tk c, s₂ = { s with heap := h', toks := tk } ∧ SetR w h' s.heap.objs.size (fun j => decide (j ∈ ns)) c ∧ c ≤ ns.length ∧ ∀ b o, s.heap.get? b = some o → h'.get? b = some o
theorem init_listI {l : Addr} {items : Array Value} {ns : List Int} (hh : A.handled = none) (hl : s.heap.IsList l items) (hit : IntsAre items.toList ns) (hb : ns.length + 1 < scanBound) :
    codeAny (model P w) A (.call (.builtin "set.__init__") ⟨[.ref s.heap.objs.size, .ref l], []⟩) (wants (fun r s₂ => r = .none ∧ GoalS P w s ns s₂) E) { s with heap := s.heap.push (set0 w) } := by
  have hisz : items.size = ns.length := (Array.length_toList (xs := items)).symm.trans (IntsAre.length hit)
  have hS : (s.heap.push (set0 w)).get? s.heap.objs.size = some (set0 w) := Heap.get?_push_size _ rfl
  refine codeAny_call_builtin F.called_set.init.plain F.entry_set_init (check_set_init_1 ⟨_, hS, rfl⟩ ?_)
  obtain ⟨ol, hol, hcl, nl, hdl⟩ := id hl
  obtain ⟨ocls, odict, odata, oslots⟩ := ol
  simp only at hcl hdl; subst hcl hdl
  have hl1 : (s.heap.push (set0 w)).IsList l items := hl.push _
  have hol' : (s.heap.push (set0 w)).get? l = some { cls := .type "list", dict := odict, data := .seq items nl, slots := oslots } := Heap.get?_push_of_some _ hol
  have k1 := F.sub_list_set; have k2 := F.sub_list_frozenset
  have k3 : (Value.type "list" == Value.type "dict") = false := by decide
  unfold Builtin.«set.__init__» noKeywords Builtin.Frozenset.updateFrom
  generalize hPI : pyIter = PI
  wp_walk
  subst hPI
  refine wpAny_pyIter_list hl1 (wpAny_bind (wpAny_runValue ?_))
  have lt : l < s.heap.objs.size := Heap.lt_size hol
  have z1 : (s.heap.push (set0 w)).objs.size = s.heap.objs.size + 1 := Heap.size_push ..
  have hh3 : A.in1.in1.handled = none := by simp [hh]
  have n1 : l ≠ (s.heap.push (set0 w)).objs.size := by rw [z1]; exact Nat.ne_of_lt (Nat.lt_succ_of_lt lt)
  have n2 : s.heap.objs.size ∉ [(s.heap.push (set0 w)).objs.size, l] := by
    rw [z1]; simp only [List.mem_cons, List.not_mem_nil, or_false]
    exact fun z => z.elim (fun z => absurd z (Nat.ne_of_lt (Nat.lt_succ_self _))) fun z => absurd z (Nat.ne_of_gt lt)
  have hv : ∀ (i : Nat) (v : Value), items[i]? = some v → ∃ k t, ns[i]? = some k ∧ v = .int k t := by
    intro i v e
    have hi : i < ns.length := by rw [← hisz]; exact (Array.getElem?_eq_some_iff.mp e).1
    obtain ⟨t, q⟩ := IntsAre.int_at hit i v (by rw [Array.getElem?_toList]; exact e)
    rw [List.getD_eq_getElem?_getD, List.getElem?_eq_getElem hi] at q
    exact ⟨ns[i], t, List.getElem?_eq_getElem hi, q⟩
  refine set_update_ints (Walks.list hh3 _ l n1 items).toS s.heap.objs.size n2 ns hisz hb hv (items.size - 0) 0 { s with heap := (s.heap.push (set0 w)).push { cls := .type "list_iterator", data := .fields #[.ref l, .int 0 0] } } (by omega) (Nat.zero_le _)
    ⟨⟨_, Heap.get?_push_size _ rfl, rfl, rfl⟩, hl1.push _⟩ ?_ fun s' c' hm hc' hS' => ?_
  · exact ⟨0, Nat.le_refl 0, setR_new_at (h := (s.heap.push (set0 w)).push { cls := .type "list_iterator", data := .fields #[.ref l, .int 0 0] }) (Heap.get?_push_of_some _ hS)⟩
  obtain ⟨h', g2, d', tk', os'⟩ := s'
  obtain rfl : g2 = s.gens := hm.gens
  obtain rfl : d' = s.drawn := hm.drawn
  obtain rfl : os' = s.os := hm.os
  rw [hisz] at hc'
  refine wpAny_pure ?_
  show wpAny _ _ (ret Value.none) _ _ _
  refine wpAny_pure ⟨rfl, h', tk', c', rfl, hS', hc', fun b o e => ?_⟩
  have b0 : b < s.heap.objs.size := Heap.lt_size e
  refine hm.heap b o ?_ (Heap.get?_push_of_some _ (Heap.get?_push_of_some _ e))
  rw [z1]; simp only [List.mem_cons, List.not_mem_nil, or_false]
  exact fun z => z.elim (fun z => absurd z (Nat.ne_of_lt b0)) fun z => absurd z (Nat.ne_of_lt (Nat.lt_succ_of_lt b0))
theorem call_set_listI {l : Addr} {items : Array Value} {ns : List Int} {Q : Value → Shared → Prop} (hh : A.handled = none) (hl : s.heap.IsList l items) (hit : IntsAre items.toList ns) (hb : ns.length + 1 < scanBound)
    (h : ∀ s₂, GoalS P w s ns s₂ → Q (.ref s.heap.objs.size) s₂) : wpAny (model P w) A (call (.type "set") [.ref l]) Q E s := by
  obtain ⟨c, tl, hmro⟩ := F.called_set.mro
  have a1 := F.called_set.made; have a2 := F.called_set.sub; have a3 := F.called_set.notType
  have a4 := F.called_set.canCreate; have a5 := F.typeCall_set_1 (.ref l); have a6 := F.called_set.init.lookup
  refine wpAny_call (codeAny_of_tree ?_)
  show wpAny _ _ (callAny (.type "set") _) _ _ _
  refine wpAny_pure ⟨Code.quiet_builtin _ (by decide +kernel), codeAny_builtin F.entry_type_call ?_⟩
  rw [Around.under_plain (weight_type_call_type "set" [.ref l] []) rfl]
  repeat (any_goals (first | assumption | wp_step))
  refine codeAny_mono (code_set_led1 (.ref l) (E := E) (Q₁ := fun obj s₁ => obj = .ref s.heap.objs.size ∧ s₁ = { s with heap := s.heap.push (set0 w) }) ⟨rfl, rfl⟩) fun r s₁ hr => ?_
  match r, hr with
  | .error e, hr => exact hr
  | .ok (.ret obj), hr =>
    obtain ⟨rfl, rfl⟩ := hr
    have hT : Shared.TypeIs { s with heap := s.heap.push (set0 w) } (.ref s.heap.objs.size) "set" := ⟨_, Heap.get?_push_size _ rfl, rfl⟩
    have a7 := F.called_set.init.bind (.ref s.heap.objs.size)
    repeat (any_goals (first | assumption | wp_step))
    refine codeAny_mono (init_listI (E := E) hh hl hit hb) fun r₂ s₂ hr₂ => ?_
    match r₂, hr₂ with
    | .error e, hr₂ => exact hr₂
    | .ok (.ret r), hr₂ =>
      obtain ⟨rfl, hr₂⟩ := hr₂
      repeat (any_goals (first | assumption | wp_step))
      exact h _ hr₂
    | .ok .next, hr₂ => exact hr₂.elim
    | .ok .brk, hr₂ => exact hr₂.elim
    | .ok .cont, hr₂ => exact hr₂.elim
  | .ok .next, hr => exact hr.elim
  | .ok .brk, hr => exact hr.elim
  | .ok .cont, hr => exact hr.elim
theorem sorted_setI {a : Addr} {S : Int → Bool} {n : Nat} {Q : Value → Shared → Prop} (R : SetR w s.heap a S n) (hh : A.handled = none)
    (hQ : ∀ s' p (out : List Value) (c : Nat) (ms : List Int), (∀ b o, s.heap.get? b = some o → s'.heap.get? b = some o) → s'.gens = s.gens → s'.os = s.os → s.heap.objs.size ≤ p →
      s'.heap.get? p = some (seqObj "list" out.toArray c) → IntsAre out ms → ms.Pairwise (· < ·) → (∀ k, k ∈ ms ↔ S k = true) → ms.length = n → Q (.ref p) s') :
    wpAny (model P w) A (call (.builtin "sorted") [.ref a]) Q E s := by
  obtain ⟨o, es, ep, t, ho, hex, hd, g, nd, hm, hb, hf, hn, hr, hl⟩ := R
  refine Calls.call_function_entry kind_sorted plain_sorted entry_sorted (args_sorted1 _) ?_
  unfold Builtin.«sorted»
  refine wpAny_bind (m := checkCount "sorted" 1 1 _) (wpAny_pure ?_)
  refine wpAny_bind (collect_set (A := A.in1) hh ⟨o, ho, hex.1, hd⟩ hf hb hr hl fun s1 vs k1 hz g1 o1 pm => ?_)
  have e1 : vs.length = n := pm.length_eq.trans (by rw [List.length_map, Array.length_toList]; exact hn)
  have e2 : vs.length ≤ sizeLine := by rw [e1, ← hn, sizeLine_eq]; unfold scanBound at hb; omega
  have hI : IntsAre vs (vs.map SrtO.iv) := SrtO.ints_iv fun v hv => by
    obtain ⟨e, he, q⟩ := List.mem_map.mp (pm.mem_iff.mp hv)
    obtain ⟨k, tk, z, _⟩ := g e he
    exact ⟨k, tk, q.symm.trans z⟩
  have pk : (vs.map SrtO.iv).Perm (es.toList.map keyOf) := by
    have q := pm.map SrtO.iv
    rw [List.map_map] at q
    have e3 : es.toList.map (SrtO.iv ∘ fun x => x.2) = es.toList.map keyOf := List.map_congr_left fun e he => by
      obtain ⟨k, tk, z, _⟩ := g e he
      show SrtO.iv e.2 = keyOf e
      unfold keyOf
      rw [z]; rfl
    rw [e3] at q; exact q
  refine wpAny_bind (wpAny_newList ?_ e2)
  have hoL : (s1.heap.push (seqObj "list" vs.toArray 0)).get? s1.heap.objs.size = some (seqObj "list" vs.toArray 0) := Heap.get?_push_size _ rfl
  refine wpAny_bind (wpAny_holding (wpAny_call_entry slot_list_sort ⟨_, hoL, rfl⟩ entry_list_sort (SrtO.list_sort_ord (s := { s1 with heap := s1.heap.push (seqObj "list" vs.toArray 0) }) SrtO.swo_int hoL e2 (fun h2 => SrtO.ints_sortable hI h2) fun out h1 h2 => ⟨_, rfl, ?_⟩) (args_list_sort _)))
  obtain ⟨k2, k3, k4⟩ := SrtO.ints_out hI h1 h2
  obtain ⟨c, hc⟩ := sortedHeap_at (vs := vs) (out := out.toArray) hoL
  have pn := k3.trans pk
  refine wpAny_pure ⟨_, rfl, hQ _ s1.heap.objs.size out c (out.map SrtO.iv) (fun b u e => ?_) g1 o1 hz hc k2 (lt_of_le_nodup _ k4 (pn.nodup_iff.mpr nd)) (fun k => by rw [pn.mem_iff, ← hm k]) (pn.length_eq.trans (by rw [List.length_map, Array.length_toList]; exact hn))⟩
  have q := k1 b u e
  have lt := Heap.lt_size q
  exact (sortedHeap_old (Nat.ne_of_lt lt) (by rw [size_push']; exact Nat.lt_succ_of_lt lt)).trans (Heap.get?_push_of_some _ q)
/-! min(xs, default=d) -/
section
variable {R : Result → Shared → Prop} {I : Addr} {fp wr : List Addr} {n : Nat} {Pv : Nat → Value → Prop} {St : Nat → Heap → Prop} {d : Value}
end
end
end DLS

set_option Elab.async false
set_option linter.all false
set_option maxRecDepth 100000
set_option maxHeartbeats 4000000
/-! DL: sorted(set(xs)), min(xs, default=d), comparisons of four, a raise that is never reached -/
namespace DLS
open PySem PySem.Spec PyProof.Rows L2
section
variable {P : Program} {w : World} {A : Around} {E : Value → Shared → Prop} {s : Shared}
end
end DLS
namespace DL
open PySem PySem.Spec PyProof.Rows L2
/-! ### min(xs, default=d) -/
section
variable {X : Cx}
end
section
variable {X : Cx} {g : G} {W : WX} {e d : Expr} {we wd : WE} {p kp pos : Pos}
end
/-! ### sorted(set(xs)) -/
def rSortSet (K : PySem.W.Frag) : V → Hp → VK → Prop := fun x H Q => ∃ (l : Addr) (ns : List Int), x = V.ref l ∧ SqL K H l (ns.map V.int) ∧ ns.length ≤ 4000 ∧
  ∀ (ms : List Int) (p : Addr), ms.Pairwise (· < ·) → (∀ k, k ∈ ms ↔ k ∈ ns) → ms.length ≤ ns.length → H p = none → Q (.ref p) (upd H p (.lst (ms.map V.int)))
section
variable {X : Cx} {g : G} {W : WX} {e : Expr} {te : TE} {we : WE} {p p2 q pos : Pos}
theorem pe_sortSet (hc : X.calm = true) (hg : Gl X "sorted") (hm : X.mg "sorted" = none) (hg2 : Gl X "set") (hm2 : X.mg "set" = none) (ha : PE X e te) (na : starEach [e] X.env = (false, eval e X.env) :: starEach [] X.env := by rfl) :
    PE X (.Call (.Name "sorted" p) [.Call (.Name "set" p2) [e] [] q] [] pos) (tUn (rSortSet X.K) te) := by
  refine ⟨fun pins s σ H Q I h => ?_⟩
  refine Call_ (ld_blt I hg hm boot_sorted ?_)
  refine PyProof.Rows.callWith_builtin1 (PyProof.Rows.args_cons ?_ rfl) rfl rfl
  refine Call_ (ld_blt I hg2 hm2 boot_set ?_)
  refine PyProof.Rows.callWith_type1 (PyProof.Rows.args_cons (thn (ha.run pins s σ H _ I h) fun v s1 ⟨x, H1, I1, r1, q1⟩ => PyProof.Rows.args_nil ?_) na) na rfl
  obtain ⟨l, ns, rfl, hq, hl, q1⟩ := q1
  cases r1
  obtain ⟨its, rv, pl, hz⟩ := I1.list hq
  refine DLS.call_set_listI (ns := ns) (I1.ok.hd hc) pl.isList (by simpa using rv.ints) (by unfold scanBound; omega) fun s2 ⟨h', tk, c, e2, R, hcn, hk⟩ => ?_
  subst e2
  refine PyProof.Rows.args_nil ?_
  have I2 : Inv X pins σ H1 { s1 with heap := h', toks := tk } := I1.kept hk
  refine DLS.sorted_setI (s := { s1 with heap := h', toks := tk }) R (I2.ok.hd hc) fun s' pp out c2 ms k g o hp hgt hi hs hmem hlen => ?_
  have hle : ms.length ≤ ns.length := by omega
  have hlen : (ms.map V.int).length ≤ sizeLine := by rw [List.length_map, sizeLine_eq]; omega
  have hn : H1 pp = none := I2.hok.fresh hp
  have J : Inv X pins σ (upd H1 pp (.lst (ms.map V.int))) { { s1 with heap := h', toks := tk } with heap := s'.heap, gens := s'.gens, drawn := s'.drawn, toks := s'.toks } :=
    I2.call (ch := []) (Un.laid k hp hn) (I2.hok.laid k hp ⟨hlen, out, c2, vals_of_ints hi, hgt⟩) (by rw [g]; exact I2.bare) (fun _ z => nomatch z)
  have e : s' = { { s1 with heap := h', toks := tk } with heap := s'.heap, gens := s'.gens, drawn := s'.drawn, toks := s'.toks } := by
    cases s'
    cases o
    rfl
  rw [e]
  exact ⟨.ref pp, _, J, rfl, q1 ms pp hs (fun k => by rw [hmem k, decide_eq_true_eq]) hle hn⟩
@[reducible] def oSortSet : O1 := fun d k => match d with
  | .list es => optK (intsOf es) fun ns => ns.length ≤ 4000 ∧ ∀ ms : List Int, ms.Pairwise (· < ·) → (∀ k, k ∈ ms ↔ k ∈ ns) → ms.length ≤ ns.length → k (.own 0 (.lst (ms.map PyData.int)))
  | _ => False
theorem lift_sortSet {K : PySem.W.Frag} : Lift1 K (rSortSet K) oSortSet := by
  intro O H x dx QD Q _ hx q fin
  cases hx with
  | lst a1 a2 =>
    rename_i a xs es
    have q : optK (intsOf es) _ := q
    cases e : intsOf es with
    | none => rw [e] at q; exact q.elim
    | some ns =>
      rw [e] at q
      have e2 := intsOf_dp a2 e
      subst e2
      exact ⟨_, ns, rfl, Same.seq same_hide a1, q.1, fun ms p h1 h2 h3 n => fin _ _ (.own 0 (.lst _)) (same_new n) (new_lst n (DL.DpAll.ints ms)) (q.2 ms h1 h2 h3)⟩
  | _ => exact q.elim
theorem ee_sortSet (hc : X.calm = true) (hg : Gl X "sorted") (hm : X.mg "sorted" = none) (hg2 : Gl X "set") (hm2 : X.mg "set" = none) (ha : EE X g W e we) (na : starEach [e] X.env = (false, eval e X.env) :: starEach [] X.env := by rfl) :
    EE X g W (.Call (.Name "sorted" p) [.Call (.Name "set" p2) [e] [] q] [] pos) (wU oSortSet we) := by
  obtain ⟨te, p1, s1⟩ := ha.ex
  exact ⟨_, pe_sortSet hc hg hm hg2 hm2 p1 na, sem_un lift_sortSet s1⟩
end
/-! ### a op b op' c op'' d, whole numbers -/
section
variable {X : Cx} {a b c d : Expr} {ta tb tc td : TE} {pos : Pos}
end
section
variable {K : PySem.W.Frag} {g : G} {W : WX} {t ta tb tc td : TE} {w wa wb wc wd : WE}
end
section
variable {X : Cx} {g : G} {W : WX} {a b c d : Expr} {wa wb wc wd : WE} {pos : Pos}
end
end DL

set_option Elab.async false
set_option linter.all false
set_option maxRecDepth 100000
set_option maxHeartbeats 4000000
/-! DL: texts: s * k -/
namespace DL
open PySem PySem.Spec PyProof.Rows L2
def repS (x : Str) (k : Nat) : Str := ⟨(List.replicate k x.cps.toList).flatten.toArray⟩
theorem foldl_app : ∀ (l : List (Array Nat)) (a : Array Nat), (l.foldl (· ++ ·) a).toList = a.toList ++ (l.map Array.toList).flatten
  | [], a => by simp
  | b :: l, a => by
    rw [List.foldl_cons, foldl_app l]
    simp
theorem repS_fold (x : Str) (k : Nat) : (⟨(List.replicate k x.cps).foldl (· ++ ·) #[]⟩ : Str) = repS x k := by
  unfold repS
  congr 1
  apply Array.ext'
  rw [foldl_app]
  simp
def rMulS : R2 := fun x y H Q => ∃ (a : Str) (k : Int), x = .str a ∧ y = .int k ∧ a.length ≤ 1000 ∧ -1000 ≤ k ∧ k ≤ 1000 ∧ Q (.str (repS a k.toNat)) H
theorem toolong_no {n : Nat} (h : n ≤ 1000000) : Builtin.Str.tooLong n = false := by
  unfold Builtin.Str.tooLong
  have : n ≤ sizeLine := by rw [sizeLine_eq]; omega
  first | exact decide_eq_false (by omega) | (simp; omega)
section
variable {X : Cx}
theorem op_mulS : OpR X (binaryOp .Mult) rMulS := by
  intro pins s σ H x y v u Q I rx ry h
  obtain ⟨a, k, rfl, rfl, hl, k0, k1, q⟩ := h
  obtain ⟨t, rfl⟩ := rx
  obtain ⟨t', rfl⟩ := ry
  have hle : a.length * k.toNat ≤ 1000000 := Nat.le_trans (Nat.mul_le_mul hl (show k.toNat ≤ 1000 by omega)) (by decide)
  refine P.mul_str ?_ (fun h1 _ h2 => ?_) (fun _ _ => toolong_no hle) ?_
  · rw [decide_eq_false (by omega), decide_eq_false (by omega)]; rfl
  · have h3 : ((2 : Int) ^ 63 - 1) / k ≥ 1000 := (Int.le_ediv_iff_mul_le (by omega)).mpr (by omega)
    omega
  · by_cases c1 : k < 1
    · rw [if_pos c1]
      have e : repS a k.toNat = Str.empty := by
        have : k.toNat = 0 := by omega
        rw [this]
        first | rfl | decide
      rw [e] at q
      exact ⟨by decide, .str Str.empty, H, I.tok _, ⟨_, rfl⟩, q⟩
    · rw [if_neg c1]
      by_cases c2 : (k == 1 || a.length == 0) = true
      · rw [if_pos c2]
        have e : repS a k.toNat = a := by
          unfold repS
          rcases Bool.or_eq_true_iff.mp c2 with z | z
          · have : k = 1 := by simpa using z
            subst this
            simp
          · have z2 : a.cps.toList = [] := by
              have : a.cps.size = 0 := by simpa [Str.length] using z
              simpa using this
            obtain ⟨c⟩ := a
            have : c = #[] := by simpa using z2
            subst this
            simp
        rw [e] at q
        exact ⟨.str a, H, I, ⟨_, rfl⟩, q⟩
      · rw [if_neg c2, repS_fold]
        refine ⟨?_, .str _, H, I.tok _, ⟨_, rfl⟩, q⟩
        have e : (repS a k.toNat).length = a.length * k.toNat := by
          unfold repS Str.length
          simp [Nat.mul_comm]
        first
          | (rw [e]; exact Nat.le_trans hle (by rw [sizeLine_eq]; decide))
          | (show Builtin.Str.tooLong _ = false; rw [e]; exact toolong_no hle)
end
@[reducible] def oMulS : O2 := fun d1 d2 k => match d1, d2 with
  | .str a, .int i => a.length ≤ 1000 ∧ (-1000 ≤ i ∧ i ≤ 1000) ∧ k (.v (.str (repS a i.toNat)))
  | _, _ => False
theorem lift_mulS {K : PySem.W.Frag} : Lift2 K rMulS oMulS := by
  intro O H x y dx dy QD Q hO hx hy q fin
  cases hx <;> try exact q.elim
  cases hy <;> try exact q.elim
  exact ⟨_, _, rfl, rfl, q.1, q.2.1.1, q.2.1.2, fin _ H (.v _) (Same.refl H) (.str _) q.2.2⟩
theorem ee_mulS {X : Cx} {g : G} {W : WX} {a b : Expr} {wa wb : WE} {pos : Pos} (ha : EE X g W a wa) (hb : EE X g W b wb) : EE X g W (.BinOp a .Mult b pos) (wB oMulS wa wb) := by
  obtain ⟨ta, p1, s1⟩ := ha.ex
  obtain ⟨tb, p2, s2⟩ := hb.ex
  exact ⟨_, pe_op op_mulS p1 p2, sem_op lift_mulS s1 s2⟩
/-! texts as lists of signs -/
@[reducible] def T (l : List Nat) : Str := ⟨l.toArray⟩
theorem T_list {l : List Nat} : (T l).cps.toList = l := by simp [T]
theorem T_len {l : List Nat} : (T l).length = l.length := by simp [T, Str.length]
theorem T_app {a b : List Nat} : T a ++ T b = T (a ++ b) := by
  show Str.append _ _ = _
  simp [Str.append, T]
theorem T_inj {a b : List Nat} (h : T a = T b) : a = b := by
  have := congrArg (fun z => z.cps.toList) h
  simpa [T] using this
theorem T_rep {l : List Nat} {n : Nat} : repS (T l) n = T (List.replicate n l).flatten := by
  unfold repS
  rw [T_list]
theorem flat_rep {c n : Nat} : (List.replicate n [c]).flatten = List.replicate n c := by
  induction n with
  | zero => rfl
  | succ n ih => rw [List.replicate_succ, List.flatten_cons, ih]; rfl
theorem T_drop {l : List Nat} {k : Nat} (h : k ≤ l.length) : cutS (T l) (some (k : Int)) none = T (l.drop k) := by
  unfold cutS
  rw [T_list, T_len, HT.sIx_none, HT.sIx_nat, Nat.min_eq_left h]
  congr 2
  exact List.take_of_length_le (by rw [List.length_drop]; exact Nat.le_refl _)
theorem T_take {l : List Nat} {k : Nat} (h : k ≤ l.length) : cutS (T l) none (some (k : Int)) = T (l.take k) := by
  unfold cutS
  rw [T_list, T_len, HT.sIx_none, HT.sIx_nat, Nat.min_eq_left h, Nat.sub_zero, List.drop_zero]
end DL

set_option Elab.async false
set_option linter.all false
set_option maxRecDepth 100000
set_option maxHeartbeats 4000000
/-! DLOwn: a comprehension over an own list that stays own -/
namespace DL
open PySem PySem.Spec PyProof.Rows L2
section
variable {K : PySem.W.Frag} {g : G} {W : WX} {T : List Nat} {wg : WG} {wt : WT} {we : WE} {i0 : Nat}
end
section
variable {X : Cx} {g : G} {W : WX} {elt tg : Expr} {ifs : List Expr} {scope : Scope} {own : List (Str × Nat)} {pos p : Pos} {wg : WG} {wt : WT} {we : WE} {i : Nat} {x : Str}
end
end DL

set_option Elab.async false
set_option linter.all false
/-! loops over lists given as data, over ranges -/
namespace DL
open PySem PySem.Spec PyProof.Rows L2
theorem forK_xs {α : Type} {inj : α → D} {wg : WG} {body : WS} {DD : EndsD} {ρ : Rho} (xs : List α) (I : List α → Rho → Prop) (h : I [] ρ) (h0 : ∀ ρ, I xs ρ → DD.nx ρ)
    (h1 : ∀ (done : List α) (x : α) (rest : List α) (ρ : Rho) (next : Rho → Prop), xs = done ++ x :: rest → (∀ ρ', I (done ++ [x]) ρ' → next ρ') → I done ρ → wg (inj x) ρ fun ρ1 => body ⟨next, DD.rt, DD.nx, next, DD.ex⟩ ρ1) : forK wg body (xs.map inj) DD ρ := by
  refine forK_ind (fun ds ρ => ∃ done rest, xs = done ++ rest ∧ ds = rest.map inj ∧ I done ρ) ?_ ?_ _ _ ⟨[], xs, rfl, rfl, h⟩
  · rintro ρ ⟨done, rest, e, hd, hi⟩
    have e1 : rest = [] := by cases rest with
      | nil => rfl
      | cons _ _ => cases hd
    subst e1
    rw [List.append_nil] at e
    subst e
    exact h0 ρ hi
  · rintro d ds ρ next hn ⟨done, rest, e, hd, hi⟩
    cases rest with
    | nil => cases hd
    | cons x rest =>
      rw [List.map_cons] at hd
      obtain ⟨rfl, rfl⟩ := List.cons.inj hd
      exact h1 done x rest ρ next e (fun ρ' z => hn ρ' ⟨done ++ [x], rest, by rw [e, List.append_assoc]; rfl, rfl, z⟩) hi
theorem forK_rg {wg : WG} {body : WS} {DD : EndsD} {ρ : Rho} {lo : Int} (n : Nat) (I : Nat → Rho → Prop) (h : I 0 ρ) (h0 : ∀ ρ, I n ρ → DD.nx ρ)
    (h1 : ∀ (k : Nat) (ρ : Rho) (next : Rho → Prop), k < n → (∀ ρ', I (k + 1) ρ' → next ρ') → I k ρ → wg (.int (lo + (k : Nat))) ρ fun ρ1 => body ⟨next, DD.rt, DD.nx, next, DD.ex⟩ ρ1) : forK wg body (rangeD lo n) DD ρ := by
  refine forK_ind (fun ds ρ => ∃ k : Nat, k ≤ n ∧ ds = rangeD (lo + (k : Nat)) (n - k) ∧ I k ρ) ?_ ?_ _ _ ⟨0, Nat.zero_le n, by simp, h⟩
  · rintro ρ ⟨k, hk, hd, hi⟩
    have : k = n := by
      rcases Nat.lt_or_ge k n with z | z
      · rw [show n - k = (n - (k + 1)) + 1 by omega, rangeD_cons] at hd; cases hd
      · omega
    subst this
    exact h0 ρ hi
  · rintro d ds ρ next hn ⟨k, hk, hd, hi⟩
    have hkn : k < n := by
      rcases Nat.lt_or_ge k n with z | z
      · exact z
      · rw [show n - k = 0 by omega, rangeD_zero] at hd; cases hd
    rw [show n - k = (n - (k + 1)) + 1 by omega, rangeD_cons] at hd
    obtain ⟨rfl, rfl⟩ := List.cons.inj hd
    exact h1 k ρ next hkn (fun ρ' z => hn ρ' ⟨k + 1, hkn, by rw [show lo + (k : Int) + 1 = lo + ((k + 1 : Nat) : Int) by push_cast; omega], z⟩) hi
theorem forK_st {wg : WG} {body : WS} {DD : EndsD} {ρ : Rho} (ds : List D) (I : Rho → Prop) (h : I ρ) (h0 : ∀ ρ, I ρ → DD.nx ρ)
    (h1 : ∀ d ∈ ds, ∀ (ρ : Rho) (next : Rho → Prop), (∀ ρ', I ρ' → next ρ') → I ρ → wg d ρ fun ρ1 => body ⟨next, DD.rt, DD.nx, next, DD.ex⟩ ρ1) : forK wg body ds DD ρ :=
  forK_ind (fun es ρ => (∀ d ∈ es, d ∈ ds) ∧ I ρ) (fun ρ z => h0 ρ z.2) (fun d es ρ next hn z => h1 d (z.1 d (.head _)) ρ next (fun ρ' y => hn ρ' ⟨fun d' hd => z.1 d' (.tail _ hd), y⟩) z.2) ds ρ ⟨fun _ h => h, h⟩
theorem forK_n {wg : WG} {body : WS} {DD : EndsD} {ρ : Rho} (ds : List D) (I : Nat → Rho → Prop) (h : I 0 ρ) (h0 : ∀ ρ, I ds.length ρ → DD.nx ρ)
    (h1 : ∀ (k : Nat) (d : D) (ρ : Rho) (next : Rho → Prop), k < ds.length → d ∈ ds → (∀ ρ', I (k + 1) ρ' → next ρ') → I k ρ → wg d ρ fun ρ1 => body ⟨next, DD.rt, DD.nx, next, DD.ex⟩ ρ1) : forK wg body ds DD ρ :=
  forK_ind (fun es ρ => (∀ d ∈ es, d ∈ ds) ∧ ∃ k, k + es.length = ds.length ∧ I k ρ) (fun ρ z => by
      obtain ⟨_, k, e, i⟩ := z
      rw [List.length_nil, Nat.add_zero] at e
      rw [e] at i
      exact h0 ρ i) (fun d es ρ next hn z => by
      obtain ⟨hm, k, e, i⟩ := z
      rw [List.length_cons] at e
      exact h1 k d ρ next (by omega) (hm d (.head _)) (fun ρ' y => hn ρ' ⟨fun d' hd => hm d' (.tail _ hd), k + 1, by omega, y⟩) i) ds ρ ⟨fun _ h => h, 0, by omega, h⟩
theorem forK_r0 {wg : WG} {body : WS} {DD : EndsD} {ρ : Rho} (n : Nat) (I : Nat → Rho → Prop) (h : I 0 ρ) (h0 : ∀ ρ, I n ρ → DD.nx ρ)
    (h1 : ∀ (k : Nat) (ρ : Rho) (next : Rho → Prop), k < n → (∀ ρ', I (k + 1) ρ' → next ρ') → I k ρ → wg (.int (k : Nat)) ρ fun ρ1 => body ⟨next, DD.rt, DD.nx, next, DD.ex⟩ ρ1) : forK wg body (rangeD 0 n) DD ρ :=
  forK_rg n I h h0 fun k ρ next hk hn hi => by
    rw [Int.zero_add]
    exact h1 k ρ next hk hn hi
theorem lcK_r0 {T : List Nat} {wg : WG} {wt : WT} {we : WE} {k : List D → Rho → Prop} {ρ0 : Rho} (g : Nat → Option D) (n : Nat)
    (h : ∀ x, x < n → ∀ next : Option D → Rho → Prop, next (g x) ρ0 → wg (.int (x : Nat)) ρ0 fun ρ1 => wt ρ1 (fun b ρ2 => if b = true then we ρ2 (fun c ρ3 => match frzC c with
      | .v d' => next (some d') (clr T ρ3)
      | _ => False) (fun _ _ => False) else next none (clr T ρ2)) (fun _ _ => False)) (fin : k ((List.range n).filterMap g) ρ0) : lcK T wg wt we (rangeD 0 n) [] ρ0 k :=
  lcK_rg g n (fun x hx next hn => by
    rw [Int.zero_add]
    exact h x hx next hn) fin
section
variable {X : Cx} {g : G} {W : WX} {tg iter : Expr} {body : List Stmt} {wi : WI} {wg : WG} {wb : WS} {T : List Nat} {pos : Pos}
end
end DL
namespace DL
open PySem PySem.Spec PyProof.Rows L2
end DL
namespace DL
open PySem PySem.Spec PyProof.Rows L2
theorem ifb_t {A B : Prop} {b : Bool} (h : b = true) (a : A) : if b = true then A else B := by rw [if_pos h]; exact a
theorem ifb_f {A B : Prop} {b : Bool} (h : b = false) (a : B) : if b = true then A else B := by rw [if_neg (by rw [h]; exact Bool.false_ne_true)]; exact a
theorem cut_from {ds : List D} {a : Int} (h0 : 0 ≤ a) (h1 : a ≤ ds.length) : cutD ds (some a) none = ds.drop a.toNat := by
  have e1 : HT.sIx ds.length 0 (some a) = a.toNat := by
    show (if a < 0 then (a + (ds.length : Int)).toNat else min a.toNat ds.length) = a.toNat
    rw [if_neg (by omega)]
    omega
  have e2 : HT.sIx ds.length ds.length none = ds.length := rfl
  unfold cutD
  rw [e1, e2]
  exact List.take_of_length_le (by rw [List.length_drop]; omega)
end DL
namespace DL
open PySem PySem.Spec PyProof.Rows L2
end DL

set_option Elab.async false
set_option linter.all false
set_option maxRecDepth 100000
/-! range(i, j) of numbers of any size -/
namespace DL
open PySem PySem.Spec PyProof.Rows L2
section
variable {X : Cx} {tg : Expr}
end
section
variable {X : Cx} {g : G} {W : WX} {tg e : Expr} {we : WE} {pos : Pos}
end
end DL

set_option Elab.async false
set_option linter.all false
set_option maxRecDepth 100000
/-! sorted(list of texts) -/
namespace DL
open PySem PySem.Spec PyProof.Rows L2
section
variable {X : Cx} {g : G} {W : WX} {e : Expr} {es : List Expr} {wa : WA} {p pos : Pos}
end
end DL

set_option Elab.async false
set_option linter.all false
set_option maxRecDepth 100000
set_option maxHeartbeats 4000000
/-! DL: x.insert(i, e) of an own list in a slot -/
namespace DL
open PySem PySem.Spec PyProof.Rows L2
section
variable {X : Cx} {g : G} {W : WX} {a b : Expr} {wa : WA} {i : Nat} {x : Str} {p apos pos : Pos}
end
end DL

set_option Elab.async false
set_option linter.all false
set_option maxRecDepth 100000
set_option maxHeartbeats 4000000
/-! DL: the program's own exceptions are raised -/
namespace DL
open PySem PySem.Spec PyProof.Rows L2
structure ExcG (K : PySem.W.Frag) (mg : Str → Option Value) (x : Str) : Prop where
  g : mg x = some (.ref (He.ga K x))
  e : PySem.W.excIn K (He.ga K x) He.veBase "ValueError.__new__" = true
  k : PySem.W.keepIn K (.ref (He.ga K x)) = true
  s : PySem.W.subIn K (.ref (He.ga K x)) (.type "BaseException") = some true
  t : PySem.W.typeIn K (.ref (He.ga K x)) = some (.type "type")
theorem ExcG.of {K : PySem.W.Frag} {h : Heap} {mg : Str → Option Value} {x : Str} (X : K.In h) (G : h.Ns mainGlobals mg) (g : mg x = some (.ref (He.ga K x))) (c : (He.Fa.exc x).ok K = true) : ExcG K mg x :=
  have q := He.exc_ok c
  ⟨g, q.1, q.2.1, q.2.2.1, q.2.2.2⟩
section
variable {X : Cx} {x : Str} {p pos pos' : Pos}
theorem pmk_none (e : ExcG X.K X.mg x) (hg : Gl X x) (hdb : (x == ("__debug__" : Str)) = false := by decide) :
    PMk X (.Call (.Name x p) [] [] pos) (fun _ H Q => Q (.ref (He.ga X.K x)) none H) := by
  intro pins s σ H Q J h
  refine wpAny_Call_Name_kw (ld_glob J hg e.g ?_ hdb)
  have F := PySem.F.excBase_ValueError
  refine PySem.W.callWith_K0 J.kIn e.k ?_
  show wpAny _ _ (call _ []) _ _ _
  obtain ⟨bm, N, nm, qn, bs, hdct, sn, sub, ab, col, dd, k0, k1, k2, k3, k5, mN, hC, hN, hni, T⟩ := exc_obj J.kIn e.e
  exact wpAny_call_exc_subT F T hC hN hni (fun h' u hm => mk_of J hm (raises_own e.s e.t) h (J.hok.gone hm.new)) (Nat.zero_le _)
@[reducible] def wRaise (x : Str) : WS := fun DD ρ => DD.ex ⟨x, []⟩ ρ
theorem SR.dropAll {K : PySem.W.Frag} {g : G} {σ : L2.St} : ∀ {vs : List V} {cs : List C} {H : Hp} {ρ : Rho}, SR K g σ vs H ρ cs → SR K g σ [] H ρ []
  | [], [], _, _, h => h
  | v :: vs, c :: cs, _, _, h => SR.dropAll h.pop
  | [], _ :: _, _, _, h => (by have := h.tp.len; simp at this)
  | _ :: _, [], _, _, h => (by have := h.tp.len; simp at this)
theorem es_raise {g : G} {W : WX} (hc : X.calm = true) (tk : Takes X W) (e : ExcG X.K X.mg x) (hg : Gl X x) (hdb : (x == ("__debug__" : Str)) = false := by decide) :
    ES X g W (.Raise (some (.Call (.Name x p) [] [] pos)) none pos') (wRaise x) := by
  refine ⟨_, ps_raise hc tk (pmk_none e hg hdb), fun σ vs H ρ cs DD D hS hp hw hE => ?_⟩
  exact hE.ex σ ⟨x, []⟩ ρ _ none H hS.dropAll ⟨rfl, .inl ⟨rfl, rfl⟩⟩ hw
end
theorem eb_tk {X : Cx} {g : G} {E : XK} {b : List Stmt} {w : WS} {E₁ : Value → Shared → Prop} (hs : X.stack = X.env :: X.outer) (hf : X.env.frame = some X.env.locals) (hex : X.ex = [])
    (hx : X.xe = fun e s' => wpAny (model X.prog X.w) X.A (leaving X.env e) (fun _ s'' => L2.CX X.prog X.w X.outer X.H_0 X.s_0 E e s'') E₁ s') (h : Takes X (fun cls d _ H => E cls d H) → EB X g (fun cls d _ H => E cls d H) b w) : EB X g (fun cls d _ H => E cls d H) b w := h (takes_of hs hf hex hx)
end DL

set_option Elab.async false
set_option linter.all false
set_option maxRecDepth 100000
set_option maxHeartbeats 4000000
/-! DL: defs that are promised only where no repr is under way (there repr of nested data has a meaning) -/
namespace DL
open PySem PySem.Spec PyProof.Rows L2
structure FnG (P : Program) (w : World) (K : PySem.W.Frag) (mg : Str → Option Value) (base : Heap) (CX : CXT) (k : Nat) (f : Addr) (fd : FuncData) (ps : List Str) (sp : Sp) : Prop where
  len : ∀ xs H Q E, sp xs H Q E → xs.length = ps.length
  run : ∀ (A : Around) (outer : List Env) (s : Shared) (H : Hp) (args : Args) (us : List Value) (xs : List V) (Q : VK) (E : XK), A.guards = some [] → Room k A → Env0 P w K mg base A outer s H → BindsTo s fd args (ps.zip us) → Vals xs us → sp xs H Q E →
    codeAny (model P w) A (.call (.ref f) args) (CR CX outer P w H s Q E) s
section
variable {P : Program} {w : World} {K : PySem.W.Frag} {mg : Str → Option Value} {base : Heap} {x qual : Str} {params : Arguments} {body : List Stmt} {scope : Scope} {dvs : List V} {kws : List (Str × V)} {f : Addr} {fd : FuncData}
theorem fnG_body {CX : CXT} {N ps : List Str} {k : Nat} {sp : Sp} (F : FunD K x qual params body scope dvs kws f fd) (S : FnScope N ps scope) (len : ∀ xs H Q E, sp xs H Q E → xs.length = ps.length)
    (hb : ∀ (cdv : Value) (A : Around) (outer : List Env) (s : Shared) (H : Hp) (xs : List V) (Q : VK) (E : XK), A.guards = some [] → Room k (A.deeper (envOfC qual scope s.heap.objs.size f cdv)) → sp xs H Q E →
      ∃ t, PSs (cxOf CX P w K mg base N qual scope f cdv A outer s H E) body t ∧ t { nx := fun _ H1 => Q .non H1, rt := Q } (start N xs) H) : FnG P w K mg base CX (k + 1) f fd ps sp := by
  obtain ⟨oc, od, dV, kV, doc, pm, an, cdv, ct, osl, rfl, look, code, _, _⟩ := F.ex
  refine ⟨len, fun A outer s H args us xs Q E gd room en bd rv hs => ?_⟩
  have full : K.In s.heap := en.mod.kin.keeps fun b o g => (en.bs b o g).1
  have noLim : s.heap.NoLimit := en.mod.nolimit.keeps fun b o g => (en.bs b o g).1
  have kinds : ∀ y ∈ ps.zip us, scope.names.lookup y.1 = some .local ∨ (scope.names.lookup y.1 = some .cell ∧ ((cellsFrom (s.heap.objs.size + 1) scope.names []).lookup y.1).isSome = true) := by
    rintro ⟨n, u⟩ hy
    have q := S.par n (List.of_mem_zip hy).1
    exact q.elim .inl fun z => .inr ⟨z, PySem.W.cellsFrom_some _ _ _ (.inl z)⟩
  have room1 := fun env => room.deeper (k := k) (A := A) env
  refine codeAny_call_function room.depth (full _ _ look) rfl S.co S.gen rfl (PySem.W.codeRec_of full code) (bd _ _ _ _ (wpAny_newFunctionEnv_cells S.kind kinds fun env ee s1 made => ?_))
  cases ee
  refine ⟨noLim.keeps made.toInCall.keep, codeAny_func ?_⟩
  obtain ⟨t, pt, run⟩ := hb cdv A outer s H xs Q E gd (room1 _) hs
  have inv : Inv (cxOf CX P w K mg base N qual scope f cdv A outer s H E) [] (start N xs) H s1 := inv_start S room.hd en (len _ _ _ _ hs) rv made
  refine wpAny_mono (pt.run [] s1 (start N xs) H _ inv run) (fun fl s2 out => ?_) fun _ _ z => z
  cases fl with
  | next =>
    obtain ⟨σ2, H2, J, q⟩ := out
    exact ⟨V.non, H2, J.os, J.bare, J.base, J.hok, rfl, q⟩
  | ret u =>
    obtain ⟨y, σ2, H2, J, rel, q⟩ := out
    exact ⟨y, H2, J.os, J.bare, J.base, J.hok, rel, q⟩
  | brk =>
    obtain ⟨_, _, _, z⟩ := out
    exact z.elim
  | cont =>
    obtain ⟨_, _, _, z⟩ := out
    exact z.elim
theorem fnG0 {CX : CXT} {N ps : List Str} {n k : Nat} {Sd : SpD} {L : Nat → Bool} {ww : WS} (F : FunD K x qual params body scope dvs kws f fd) (S : FnScope N ps scope) (hn : N.length = n) (len : ∀ as QD ED, Sd as QD ED → as.length = ps.length)
    (hb : ∀ (cdv : Value) (A : Around) (outer : List Env) (s : Shared) (H : Hp) (E : XK), A.guards = some [] → Room k (A.deeper (envOfC qual scope s.heap.objs.size f cdv)) → ∀ g : G, g.L = L → EB (cxOf CX P w K mg base N qual scope f cdv A outer s H E).nox g (fun _ _ _ _ => False) body ww)
    (hw : ∀ as QD ED, Sd as QD ED → ww (bodyEnds as QD fun _ _ => False) (startD n as)) : FnG P w K mg base CX (k + 1) f fd ps (spOf K Sd) := by
  refine fnG_body F S (fun xs H Q E h => ?_) fun cdv A outer s H xs Q E gd hr h => ?_
  · obtain ⟨as, P, QD, ED, entry, sd, _⟩ := h
    have e := entry.len
    rw [List.length_map] at e
    rw [e, len as QD ED sd]
  · obtain ⟨as, P, QD, ED, entry, sd, ret, exc⟩ := h
    have h2 : spOf K (fun as QD ED' => ED' = (fun _ _ => False) ∧ ∃ ED, Sd as QD ED) xs H Q (fun _ _ _ => False) := ⟨as, P, QD, fun _ _ => False, entry, ⟨rfl, ED, sd⟩, ret, fun x rs z => z.elim⟩
    obtain ⟨t, p, q⟩ := body_ok (N := N) (X := (cxOf CX _ w K mg base N qual scope f cdv A outer s H E).nox) (K := K) rfl hn (W := fun _ _ _ _ => False) (E := fun _ _ _ => False) (fun _ _ _ _ z => z)
      (fun g hg => hb cdv A outer s H E gd hr g hg) (fun as' QD' ED' ⟨z1, ED2, z2⟩ => by rw [z1]; exact hw as' QD' ED2 z2) h2
    exact ⟨t, p.nox, q⟩
end
section
variable {X : Cx} {g : G} {k : Nat} {S : SpD} {x : Str} {p pos : Pos} {e : Expr} {es : List Expr} {wa : WA}
end
/-! ### the end of a law whose own def shows data -/
theorem law_callG {P : Program} {w : World} {K : PySem.W.Frag} {mg mb : Str → Option Value} {k : Nat} {fa a : Addr} {fd : FuncData} {x : Str} {sp : Sp} {s₁ : Shared} {ws : List Value} {ns : List Int}
    (KX : K.In s₁.heap) (nsM : s₁.heap.Ns mainGlobals mg) (nsB : s₁.heap.Ns builtinsNs mb) (boot : ∀ x : Str, x ≠ "__name__" → mb x = bootBuiltins x) (noLim : s₁.heap.NoLimit) (noGen : s₁.gens = #[])
    (here : s₁.heap.get? a = some { cls := .type "list", data := .seq ws.toArray }) (hI : IntsAre ws ns) (few : ns.length ≤ sizeLine) (room : Room k callerA)
    (F : ∀ base : Heap, K.In base → base.Ns mainGlobals mg → FnG P w K mg base (L2.CX P w) k fa fd [x] sp) (bd : ∀ (s : Shared) (u : Value), BindsTo s fd ⟨[u], []⟩ [(x, u)])
    (prom : ∀ H : Hp, L2.Only H → SqL K H a (ns.map V.int) → sp [.ref a] H (fun v _ => v = .bl true) fun _ _ _ => False)
    (noExc : ∀ H e s', (L2.CX P w) [] H s₁ (fun _ _ _ => False) e s' → False) :
    codeAny (model P w) callerA (.call (.ref fa) ⟨[.ref a], []⟩) (fun r s' => r = .ok (.ret (.bool true)) ∧ OldK s₁.heap s'.heap ∧ s'.os = s₁.os ∧ AllBare s'.gens) s₁ := by
  have vals := vals_ints hI
  have same := hI.length
  have main : ∀ H : Hp, L2.Only H → SqL K H a (ns.map V.int) → HOk P w H s₁.heap → (∀ b, H b ≠ none → b = a) → (H a ≠ none → K.lookup a = none) →
      codeAny (model P w) callerA (.call (.ref fa) ⟨[.ref a], []⟩) (fun r s' => r = .ok (.ret (.bool true)) ∧ OldK s₁.heap s'.heap ∧ s'.os = s₁.os ∧ AllBare s'.gens) s₁ := by
    intro H only sq okH just out
    have hid : ∀ {b : Addr} {o : Obj}, s₁.heap.get? b = some o → H b = none → (hidT s₁.heap H).get? b = some o := fun g n => hidT_get g n
    have dictOut : ∀ {b : Addr} {o : Obj} {es : Array DictEntry} {ep : Nat}, s₁.heap.get? b = some o → o.data = .dict es ep → H b = none := by
      intro b o es ep g d
      by_cases z : H b = none
      · exact z
      · have eb := just b z
        rw [eb, here] at g
        cases g
        have d2 : Data.seq ws.toArray _ = Data.dict es ep := d
        cases d2
    have keepNs : ∀ {b : Addr} {m : Str → Option Value}, s₁.heap.Ns b m → (hidT s₁.heap H).Ns b m := by
      rintro b m ⟨o, es, ep, g, d, rest⟩
      exact ⟨o, es, ep, hid g (dictOut g d), d, rest⟩
    have inBase : K.In (hidT s₁.heap H) := by
      intro b o g
      refine hid (KX b o g) ?_
      by_cases z : H b = none
      · exact z
      · have eb := just b z
        rw [eb] at g z
        rw [out z] at g
        cases g
    obtain ⟨mc, m1, m2⟩ := noLim
    have md : Mod K mg (hidT s₁.heap H) := ⟨inBase, keepNs nsM, ⟨mb, keepNs nsB, boot⟩, ⟨mc, keepNs m1, m2⟩⟩
    have en : Env0 P w K mg (hidT s₁.heap H) callerA [] s₁ H := ⟨rfl, md, fun b o g => of_hidT g, Nat.le_of_eq (hidT_size _ _), trivial, (fun b hb => nomatch hb), okH, .of_eq noGen⟩
    refine codeAny_mono ((F _ inBase (keepNs nsM)).run callerA [] s₁ H ⟨[.ref a], []⟩ [.ref a] [.ref a] _ _ rfl room en (bd s₁ (.ref a)) (.cons rfl .nil) (prom H only sq)) fun r s' res => ?_
    match r, res with
    | .error err, res => exact (noExc H err s' res).elim
    | .ok .next, res => exact False.elim res
    | .ok .brk, res => exact False.elim res
    | .ok .cont, res => exact False.elim res
    | .ok (.ret u), res =>
      obtain ⟨v, H', sameOs, bareG, un, okH', rel, qv⟩ := res
      have qv2 : v = .bl true := qv
      cases qv2
      have eu : u = Value.bool true := rel
      cases eu
      refine ⟨rfl, OldK.of_keep fun b o g => ?_, sameOs, bareG⟩
      cases z : H b with
      | none => exact un.keep b o g z (fun y => nomatch y) (by simp)
      | some u =>
        rcases only b with y | ⟨ob, xs, y⟩
        · rw [z] at y; cases y
        · obtain ⟨g1, _⟩ := okH b _ y
          obtain ⟨g2, _⟩ := okH' b _ (un.frzs b ob _ y)
          rw [g] at g1
          cases g1
          exact g2
  cases look : K.lookup a with
  | some o =>
    have g := KX a o look
    rw [here] at g
    cases g
    exact main (fun _ => none) (fun _ => .inl rfl) (.inr ⟨_, ws.toArray, _, look, rfl, rfl, rfl, by rw [List.size_toArray, same]; exact few, by simpa using vals⟩) (fun b u z => nomatch z) (fun b z => absurd rfl z) (fun z => absurd rfl z)
  | none =>
    let H0 : Hp := fun b => if b = a then some (.frz { cls := .type "list", data := .seq ws.toArray } (.lst (ns.map V.int))) else none
    have at_a : H0 a = some (.frz { cls := .type "list", data := .seq ws.toArray } (.lst (ns.map V.int))) := if_pos rfl
    have off : ∀ b, b ≠ a → H0 b = none := fun b z => if_neg z
    refine main H0 (fun b => ?_) (.inl (.inr ⟨_, at_a⟩)) (fun b u z => ?_) (fun b z => ?_) fun _ => look
    · by_cases eb : b = a
      · rw [eb]; exact .inr ⟨_, _, at_a⟩
      · exact .inl (off b eb)
    · by_cases eb : b = a
      · rw [eb, at_a] at z
        cases z
        rw [eb]
        exact ⟨here, by rw [List.length_map]; exact few, ws, _, vals, here⟩
      · rw [off b eb] at z; cases z
    · by_cases eb : b = a
      · exact eb
      · exact absurd (off b eb) z
theorem walk_dlG {l : PySem.W.OpenLaw} {n k : Nat} {q : Program} {loose : List Str} {XP : (Str → Option Value) → Heap → Prop} {YP : World → Heap → Prop} {d : DefRec} {x : Str}
    (hn : l.most = some n) (hn2 : n ≤ sizeLine) (hdf : d.params.defaults = []) (hr : Room k callerA) {S : SpD}
    (F : ∀ (w : World) (mg : Str → Option Value) (fa : Addr) (h : Heap), YP w h → h.Ns mainGlobals mg → mg d.name = some (.ref fa) →
      ∃ (K : PySem.W.Frag) (fd : FuncData), K.In h ∧ (∀ (s : Shared) (u : Value), BindsTo s fd ⟨[u], []⟩ [(x, u)]) ∧
        ∀ base : Heap, K.In base → base.Ns mainGlobals mg → FnG l.prog w K mg base (L2.CX l.prog w) k fa fd [x] (spOf K S))
    (law_in : ∀ ns : List Int, ns.length ≤ n → S [.v (.list (ns.map PyData.int))] (fun c _ => c = .v (.bool true)) (fun _ _ => False)) :
    PySem.W.WalkO q loose XP YP l.row.toRowW d [] (fun f vs => PySem.call f vs) := by
  refine Att.attach_call hn hdf fun w s₀ s₁ mg mb fa o pm cd doc a vs ns G Y ho hd hcd hmg hobj hints hlen hg => ?_
  obtain ⟨K, fd, KX, hb, hF⟩ := F w mg fa _ Y G.T.g hmg
  exact law_callG KX G.T.g G.T.b G.T.builtins G.T.nolimit hg hobj hints (Nat.le_trans hlen hn2) hr hF hb (fun H hO hS => sp_law hn2 law_in H a ns hlen hO hS) fun H e s' h => by
    obtain ⟨_, _, _, _, _, _, _, _, _, _, _, _, z⟩ := h
    exact z.elim
end DL

set_option Elab.async false
set_option linter.all false
set_option maxRecDepth 100000
set_option maxHeartbeats 4000000
/-! DL: repr of nested data -/
namespace DL
open PySem PySem.Spec PyProof.Rows L2
structure Shw (d : D) : Prop where
  ok : d.showable = true
  nd : d.hasDict = false
  dp : d.depth ≤ 50
  sz : d.shown.length ≤ sizeLine
def rRepr (K : PySem.W.Frag) : List V → Hp → VK → Prop := fun xs H Q => ∃ (x : V) (d : D), xs = [x] ∧ Dp K H x d ∧ Shw d ∧ Q (.str d.shown) H
theorem cr_repr {X : Cx} (gd : X.A.guards = some []) (hu : X.A.units + 64 < cLine) : CallR X (.builtin "repr") (rRepr X.K) := by
  intro pins s σ H xs us Q I r h
  obtain ⟨x, d, rfl, hd, hs, q⟩ := h
  obtain ⟨u, rfl, rv⟩ := vals1 r
  obtain ⟨as, rd⟩ := Dp.reads I d x u hd rv
  have hsz := hs.sz
  have hdp := hs.dp
  cases rd with
  | none => exact PySem.P.repr_of_none ⟨.str _, H, I.tok _, ⟨_, rfl⟩, q⟩
  | bool b => exact PySem.P.repr_of_bool ⟨.str _, H, I.tok _, ⟨_, rfl⟩, q⟩
  | int i t => exact PySem.P.repr_of_int (by have := hs.ok; simpa [PyData.showable] using this) ⟨.str _, H, I.tok _, ⟨_, rfl⟩, q⟩
  | str z t => exact PySem.P.repr_of_str ⟨.str _, H, I.tok _, ⟨_, rfl⟩, q⟩ hsz
  | list h1 h2 h3 h4 => exact repr_of_reads' (Reads.list h1 h2 h3 h4) hs.ok (PyData.noDict_hsm hs.nd) gd (by omega) (fun _ _ e => e) (fun h' v tk keep => ⟨.str _, H, I.kept (t' := tk) (fun b o e => keep b o e), ⟨_, rfl⟩, q⟩) hsz
  | tuple h1 h2 h3 h4 => exact repr_of_reads' (Reads.tuple h1 h2 h3 h4) hs.ok (PyData.noDict_hsm hs.nd) gd (by omega) (fun _ _ e => e) (fun h' v tk keep => ⟨.str _, H, I.kept (t' := tk) (fun b o e => keep b o e), ⟨_, rfl⟩, q⟩) hsz
  | dict h1 h2 h3 h4 h5 => have := hs.nd; cases this
@[reducible] def oRepr : OL := fun ds k => match ds with
  | [d] => Shw d ∧ k (.v (.str d.shown))
  | _ => False
theorem lift_repr {K : PySem.W.Frag} : LiftL K (rRepr K) oRepr := by
  intro O H xs ds QD Q _ hx q fin
  unfold oRepr at q
  split at q
  · cases hx with
    | cons h1 h2 =>
      cases h2
      exact ⟨_, _, rfl, dp_hide h1, q.1, fin _ H (.v _) (Same.refl H) (.str _) q.2⟩
  · exact q.elim
theorem ee_repr {X : Cx} {g : G} {W : WX} {e : Expr} {es : List Expr} {wa : WA} {p pos : Pos} (gd : X.A.guards = some []) (hu : X.A.units + 64 < cLine) (hg : Gl X "repr") (hm : X.mg "repr" = none) (ha : EA X g W (e :: es) wa)
    (he : starEach (e :: es) X.env = (false, eval e X.env) :: starEach es X.env := by rfl) (hpl : (backTo pos (starEach es X.env)).any (·.1) = false := by rfl) :
    EE X g W (.Call (.Name "repr" p) (e :: es) [] pos) (wL oRepr wa) := ee_cb (cr_repr gd hu) lift_repr hg hm rfl ha (by decide) (by decide) he hpl
/-! ### == of texts, whatever their signs -/
def rNeS : R2 := fun x y H Q => ∃ i j : Str, x = .str i ∧ y = .str j ∧ Q (.bl (i != j)) H
theorem op_neS {X : Cx} : OpR X (compareOp .NotEq) rNeS := by
  intro pins s σ H x y v u Q I rx ry h
  obtain ⟨i, j, rfl, rfl, q⟩ := h
  obtain ⟨t, rfl⟩ := rx
  obtain ⟨t', rfl⟩ := ry
  exact PyProof.Rows.ne_str ⟨.bl _, H, I, rfl, q⟩
@[reducible] def oNeS : O2 := fun d1 d2 k => match d1, d2 with
  | .str i, .str j => k (.v (.bool (i != j)))
  | _, _ => False
theorem lift_neS {K : PySem.W.Frag} : Lift2 K rNeS oNeS := by
  intro O H x y dx dy QD Q _ hx hy q fin
  cases hx <;> try exact q.elim
  cases hy <;> try exact q.elim
  exact ⟨_, _, rfl, rfl, fin _ H (.v _) (Same.refl H) (.bl _) q⟩
section
variable {X : Cx} {g : G} {W : WX} {a b : Expr} {wa wb : WE} {pos : Pos}
theorem et_neS (ha : EE X g W a wa) (hb : EE X g W b wb) : ET X g W (.Compare a [.NotEq] [b] pos) (wTst (wB oNeS wa wb)) := et_cmp op_neS lift_neS ha hb (nomark _)
end
theorem str_ne_self {x : Str} : (x != x) = false := by simp
/-! ### how long what is shown may be -/
theorem join_le {m : Nat} : ∀ {ts : List Str}, (∀ t ∈ ts, t.length ≤ m) → (Str.join ", " ts).length ≤ ts.length * (m + 2)
  | [], _ => Nat.zero_le _
  | [x], h => by
    have := h x (.head _)
    show x.length ≤ 1 * (m + 2)
    omega
  | x :: y :: r, h => by
    have ih := join_le (ts := y :: r) fun t ht => h t (.tail _ ht)
    have hx := h x (.head _)
    have e : (Str.join ", " (x :: y :: r)).length = x.length + 2 + (Str.join ", " (y :: r)).length := by
      show (x ++ ", " ++ Str.join ", " (y :: r)).length = _
      rw [strLen_append, strLen_append]
      rfl
    rw [e]
    have e2 : (x :: y :: r).length * (m + 2) = (y :: r).length * (m + 2) + (m + 2) := by rw [List.length_cons, Nat.succ_mul]
    omega
theorem tuple_le {m : Nat} {ts : List Str} (h : ∀ t ∈ ts, t.length ≤ m) : (tupleText ts).length ≤ ts.length * (m + 2) + 3 := by
  have := join_le h
  unfold tupleText
  rw [strLen_append, strLen_append]
  have e1 : (("(" : String) : Str).length = 1 := rfl
  have e2 : ((if (ts.length == 1) = true then ",)" else ")" : String) : Str).length ≤ 2 := by split <;> decide
  omega
theorem textFrom_le {m : Nat} : ∀ {ts : List Str} {k : Nat} {acc : Str}, (∀ t ∈ ts, t.length ≤ m) → (textFrom k acc ts).length ≤ acc.length + ts.length * (m + 2)
  | [], _, _, _ => Nat.le_add_right _ _
  | t :: ts, k, acc, h => by
    have ih := textFrom_le (ts := ts) (k := k + 1) (acc := acc ++ (if k > 0 then ", " else "" : String) ++ t) fun t ht => h t (.tail _ ht)
    have ht := h t (.head _)
    have e : (acc ++ (if k > 0 then ", " else "" : String) ++ t).length ≤ acc.length + 2 + t.length := by
      rw [strLen_append, strLen_append]
      have : ((if k > 0 then ", " else "" : String) : Str).length ≤ 2 := by split <;> decide
      omega
    show (textFrom (k + 1) (acc ++ (if k > 0 then ", " else "" : String) ++ t) ts).length ≤ _
    rw [List.length_cons, Nat.succ_mul]
    omega
theorem list_le {m : Nat} {ts : List Str} (h : ∀ t ∈ ts, t.length ≤ m) : (listText ts).length ≤ ts.length * (m + 2) + 2 := by
  unfold listText
  have := textFrom_le (k := 0) (acc := ("[" : String)) h
  rw [strLen_append]
  have e1 : (("[" : String) : Str).length = 1 := rfl
  have e2 : (("]" : String) : Str).length = 1 := rfl
  omega
theorem shownAll_eq : ∀ {ds : List D}, PyData.shownAll ds = ds.map PyData.shown
  | [] => by unfold PyData.shownAll; rfl
  | d :: ds => by unfold PyData.shownAll; rw [shownAll_eq]; rfl
theorem showableAll_eq : ∀ {ds : List D}, PyData.showableAll ds = ds.all PyData.showable
  | [] => by unfold PyData.showableAll; rfl
  | d :: ds => by unfold PyData.showableAll; rw [showableAll_eq]; rfl
theorem hasDictAll_eq : ∀ {ds : List D}, PyData.hasDictAll ds = ds.any PyData.hasDict
  | [] => by unfold PyData.hasDictAll; rfl
  | d :: ds => by unfold PyData.hasDictAll; rw [hasDictAll_eq]; rfl
theorem depthAll_le {n : Nat} : ∀ {ds : List D}, (∀ d ∈ ds, d.depth ≤ n) → PyData.depthAll ds ≤ n
  | [], _ => Nat.zero_le _
  | d :: ds, h => Nat.max_le.mpr ⟨h d (.head _), depthAll_le fun e he => h e (.tail _ he)⟩
theorem depth_tuple {n : Nat} {ds : List D} (h : ∀ d ∈ ds, d.depth ≤ n) : (PyData.tuple ds).depth ≤ n + 1 := Nat.succ_le_succ (depthAll_le h)
theorem depth_list {n : Nat} {ds : List D} (h : ∀ d ∈ ds, d.depth ≤ n) : (PyData.list ds).depth ≤ n + 1 := Nat.succ_le_succ (depthAll_le h)
structure Shn (n m : Nat) (d : D) : Prop where
  ok : d.showable = true
  nd : d.hasDict = false
  dp : d.depth ≤ n
  sz : d.shown.length ≤ m
theorem Shn.shw {n m : Nat} {d : D} (h : Shn n m d) (hn : n ≤ 50) (hm : m ≤ 16777216) : Shw d := ⟨h.ok, h.nd, Nat.le_trans h.dp hn, by rw [sizeLine_eq]; exact Nat.le_trans h.sz hm⟩
theorem Shn.up {n m n' m' : Nat} {d : D} (h : Shn n m d) (hn : n ≤ n') (hm : m ≤ m') : Shn n' m' d := ⟨h.ok, h.nd, Nat.le_trans h.dp hn, Nat.le_trans h.sz hm⟩
theorem Shn.none {n m : Nat} (h : 4 ≤ m) : Shn n m .none := ⟨rfl, rfl, Nat.zero_le _, by unfold PyData.shown; exact h⟩
theorem Shn.int {n k : Nat} {i : Int} (hk : 0 < k) (h : i.natAbs < 10 ^ k) (h9 : k ≤ 500) : Shn n (k + 1) (.int i) := ⟨by
    unfold PyData.showable
    refine decide_eq_true ?_
    have : i.natAbs < 2 ^ 1920 := Nat.lt_of_lt_of_le h (Nat.le_trans (Nat.pow_le_pow_right (by decide) h9) (by decide +kernel))
    exact PySem.Flt.log2_lt_of (by decide) this, rfl, Nat.zero_le _, by unfold PyData.shown; rw [PySem.ofString_length]; exact int_text_length_le10 hk h⟩
theorem Shn.str {n : Nat} {x : Str} (h : ∀ c ∈ x.cps.toList, c < 16 ^ 8) : Shn n (10 * x.length + 2) (.str x) := ⟨rfl, rfl, Nat.zero_le _, by unfold PyData.shown; exact StrLaws.reprText_len x h⟩
theorem Shn.tuple {n m : Nat} {ds : List D} (h : ∀ d ∈ ds, Shn n m d) : Shn (n + 1) (ds.length * (m + 2) + 3) (.tuple ds) := by
  refine ⟨?_, ?_, ?_, ?_⟩
  · unfold PyData.showable; rw [showableAll_eq]; exact List.all_eq_true.mpr fun d hd => (h d hd).ok
  · unfold PyData.hasDict; rw [hasDictAll_eq]; exact List.any_eq_false.mpr fun d hd => by rw [(h d hd).nd]; exact Bool.false_ne_true
  · exact depth_tuple fun d hd => (h d hd).dp
  · unfold PyData.shown
    rw [shownAll_eq]
    have := tuple_le (m := m) (ts := ds.map PyData.shown) fun t ht => by
      obtain ⟨d, hd, rfl⟩ := List.mem_map.mp ht
      exact (h d hd).sz
    rwa [List.length_map] at this
theorem Shn.list {n m : Nat} {ds : List D} (h : ∀ d ∈ ds, Shn n m d) : Shn (n + 1) (ds.length * (m + 2) + 2) (.list ds) := by
  refine ⟨?_, ?_, ?_, ?_⟩
  · unfold PyData.showable; rw [showableAll_eq]; exact List.all_eq_true.mpr fun d hd => (h d hd).ok
  · unfold PyData.hasDict; rw [hasDictAll_eq]; exact List.any_eq_false.mpr fun d hd => by rw [(h d hd).nd]; exact Bool.false_ne_true
  · exact depth_list fun d hd => (h d hd).dp
  · unfold PyData.shown
    rw [shownAll_eq]
    have := list_le (m := m) (ts := ds.map PyData.shown) fun t ht => by
      obtain ⟨d, hd, rfl⟩ := List.mem_map.mp ht
      exact (h d hd).sz
    rwa [List.length_map] at this
end DL

set_option Elab.async false
set_option linter.all false
set_option maxRecDepth 100000
set_option maxHeartbeats 4000000
/-! DL: sorted of tuples that begin with unlike tuples of whole numbers -/
namespace DL
open PySem PySem.Spec PyProof.Rows L2
def FstAt (h : Heap) (v : Value) (ns : List Int) : Prop :=
  ∃ (t f : Addr) (xs its : Array Value), v = .ref t ∧ h.IsTuple t xs ∧ xs[0]? = some (.ref f) ∧ h.IsTuple f its ∧ IntsAre its.toList ns
theorem isTuple_keeps {h h' : Heap} {t : Addr} {xs : Array Value} (x : h.IsTuple t xs) (k : ∀ b o, h.get? b = some o → o.cls = .type "tuple" → h'.get? b = some o) : h'.IsTuple t xs := by
  obtain ⟨o, e, c, n, d⟩ := x
  exact ⟨o, k _ _ e c, c, n, d⟩
theorem FstAt.keeps {h h' : Heap} {v : Value} {ns : List Int} (x : FstAt h v ns) (k : ∀ b o, h.get? b = some o → o.cls = .type "tuple" → h'.get? b = some o) : FstAt h' v ns := by
  obtain ⟨t, f, xs, its, e, h1, h2, h3, h4⟩ := x
  exact ⟨t, f, xs, its, e, isTuple_keeps h1 k, h2, isTuple_keeps h3 k, h4⟩
section
variable {prog : Program} {w : World} {A : Around} {s : Shared}
theorem idx_zip {xs ys : Array Value} {f g : Value} (h1 : xs[0]? = some f) (h2 : ys[0]? = some g) : ∃ r, xs.toList.zip ys.toList = (f, g) :: r := by
  cases e1 : xs.toList with
  | nil =>
    have : xs = #[] := by cases xs; cases e1; rfl
    subst this
    cases h1
  | cons a l =>
    cases e2 : ys.toList with
    | nil =>
      have : ys = #[] := by cases ys; cases e2; rfl
      subst this
      cases h2
    | cons b m =>
      have ea : a = f := by
        have : xs.toList[0]? = some f := by rw [Array.getElem?_toList]; exact h1
        rw [e1] at this
        exact Option.some.inj this
      have eb : b = g := by
        have : ys.toList[0]? = some g := by rw [Array.getElem?_toList]; exact h2
        rw [e2] at this
        exact Option.some.inj this
      rw [ea, eb]
      exact ⟨_, rfl⟩
theorem ints_inj : ∀ {vs : List Value} {ns ms : List Int}, IntsAre vs ns → IntsAre vs ms → ns = ms
  | [], _, _, h, h' => by cases h; cases h'; rfl
  | _ :: _, _, _, h, h' => by
    cases h with
    | cons n t a => cases h' with
      | cons m u b => rw [ints_inj a b]
theorem ints_reads {h : Heap} : ∀ {vs : List Value} {ns : List Int}, IntsAre vs ns → ReadsAll h vs (ns.map PyData.int) []
  | [], _, i => by cases i; exact .nil
  | _ :: _, _, i => by
    cases i with
    | cons n t a => exact .cons (as := []) (.int n t) (ints_reads a)
theorem nob_ints {ns : List Int} : nob (.tuple (ns.map PyData.int)) = true := by
  show nobAll _ = true
  induction ns with
  | nil => rfl
  | cons n ns ih => exact ih
theorem ints_tup_inj {ns ms : List Int} (h : PyData.tuple (ns.map PyData.int) = .tuple (ms.map PyData.int)) : ns = ms := by
  have e := PyData.tuple.inj h
  exact List.map_inj_right (fun _ _ z => PyData.int.inj z) |>.mp e
theorem lay_tup {ns : List Int} : Lay 1 (.tuple (ns.map PyData.int)) := Lay.tuple (k := 0) fun d hd => by
  obtain ⟨x, _, rfl⟩ := List.mem_map.mp hd
  exact Lay.int _
theorem kat_self {fin : Bool} {Q : Bool → Shared → Prop} (h : Q fin s) : ∀ (l : List Value) (i : Nat), PySem.W.KatLex prog w A false fin Q (l.zip l) i s
  | [], _ => PySem.W.kat_nil h
  | v :: l, i => PySem.W.kat_cons (SeqAt.EqAt.same v prog w _ _ (PySem.W.kat_go (fun _ => PySem.W.kat_yes (kat_self h l (i + 1))) fun z => nomatch z))
theorem fst_cmp {vs : List Value} {k : Value → List Int} (hu : A.units + 64 < cLine) (hv : ∀ v ∈ vs, FstAt s.heap v (k v)) (un : ∀ v ∈ vs, ∀ u ∈ vs, v ≠ u → k v ≠ k u) :
    SrtO.Cmp prog w A s (tuples' false) (fun p => p.1 ∈ vs) (SrtO.lt2 fun v u => HT.lexLt (k v) (k u)) := by
  intro p q hm hm'
  show wpAny (model prog w) A (keyLt' (tuples' false) p.1 q.1) (fun r s' => s' = s ∧ r = HT.lexLt (k p.1) (k q.1)) (fun _ _ => False) s
  by_cases e : p.1 = q.1
  · rw [e]
    obtain ⟨t, f, xs, its, e1, ⟨o, g1, g2, n, g3⟩, h2, h3, h4⟩ := hv _ hm'
    rw [e1]
    refine PySem.W.kat_lt g1 g3 g1 g3 (kat_self ?_ _ _)
    have sf : HT.lexLt (k q.1) (k q.1) = false := SrtO.Swo.refl (NtL.swo_lexL (α := List Int) id) (k q.1)
    rw [← e1, sf]
    exact ⟨rfl, decide_eq_false (Nat.lt_irrefl _)⟩
  · have ne := un _ hm _ hm' e
    obtain ⟨t, f, xs, its, e1, ⟨o, g1, g2, n, g3⟩, h2, h3, h4⟩ := hv _ hm
    obtain ⟨t', f', xs', its', e1', ⟨o', g1', g2', n', g3'⟩, h2', h3', h4'⟩ := hv _ hm'
    generalize k p.1 = ns at *
    generalize k q.1 = ms at *
    rw [e1, e1']
    obtain ⟨r, er⟩ := idx_zip h2 h2'
    have nf : f ≠ f' := fun z => by
      subst z
      obtain ⟨o1, a1, a2, n1, a3⟩ := h3
      obtain ⟨o2, b1, b2, n2, b3⟩ := h3'
      rw [a1] at b1
      cases b1
      rw [a3] at b3
      cases b3
      exact ne (ints_inj h4 h4')
    refine PySem.W.kat_lt g1 g3 g1' g3' ?_
    rw [er]
    obtain ⟨o1, a1, a2, n1, a3⟩ := id h3
    obtain ⟨o2, b1, b2, n2, b3⟩ := id h3'
    have no : PyData.eqv (.tuple (ns.map PyData.int)) (.tuple (ms.map PyData.int)) = false := eqv_no nob_ints nob_ints fun z => ne (ints_tup_inj z)
    have rc : SeqAt.RcAt A s (.ref f) (.ref f') false := fun pr w E Q q => by
      have q' : Q (.bool (PyData.eqv (.tuple (ns.map PyData.int)) (.tuple (ms.map PyData.int)))) s := by rw [no]; exact q
      exact SeqAt.compareEq_shaped (prog := pr) (w := w) (Reads.tuple a1 a2 a3 (ints_reads h4)) (Reads.tuple b1 b2 b3 (ints_reads h4')) (lay_tup (ns := ns)).shaped (lay_tup (ns := ms)).shaped hu q'
    refine PySem.W.kat_cons (SeqAt.EqAt.of_refs nf rc prog w _ _ ?_)
    exact PySem.W.kat_no (PySem.W.kat_one _ _ (HT.lt_tupInts h3 h3' h4 h4' (by omega) ⟨rfl, rfl⟩))
theorem fst_tups {h : Heap} {k : Value → List Int} : ∀ {vs : List Value}, (∀ v ∈ vs, FstAt h v (k v)) → ∃ fs, PySem.W.KatTups h vs fs ∧ fs.length = vs.length ∧ ∀ f ∈ fs, ∃ a its, f = Value.ref a ∧ h.IsTuple a its
  | [], _ => ⟨[], trivial, rfl, fun f hf => nomatch hf⟩
  | v :: vs, hv => by
    obtain ⟨fs, a1, a2, a3⟩ := fst_tups (vs := vs) fun u hu => hv u (.tail _ hu)
    obtain ⟨t, f, xs, its, e1, ⟨o, g1, g2, n, g3⟩, h2, h3, h4⟩ := hv v (.head _)
    refine ⟨.ref f :: fs, ?_, by rw [List.length_cons, List.length_cons, a2], fun q hq => ?_⟩
    · rw [e1]; exact ⟨⟨t, o, xs, n, rfl, g1, g2, g3, h2⟩, a1⟩
    · rcases List.mem_cons.mp hq with e | hq
      · exact ⟨f, its, e, h3⟩
      · exact a3 q hq
theorem fst_sortable {a : Addr} {vs : List Value} {k : Value → List Int} (h2 : 2 ≤ vs.length) (hu : A.units + 64 < cLine) (hv : ∀ v ∈ vs, FstAt s.heap v (k v)) (un : ∀ v ∈ vs, ∀ u ∈ vs, v ≠ u → k v ≠ k u) (ha : ∀ o, s.heap.get? a = some o → o.cls ≠ .type "tuple") :
    SrtO.SortableO prog w A s a vs fun v u => HT.lexLt (k v) (k u) := by
  intro h' keep
  have kt : ∀ b o, s.heap.get? b = some o → o.cls = .type "tuple" → h'.get? b = some o := fun b o e c => keep b o (fun z => ha o (z ▸ e) c) e
  have hv' : ∀ v ∈ vs, FstAt h' v (k v) := fun v hm => (hv v hm).keeps kt
  obtain ⟨fs, t1, t2, t3⟩ := fst_tups hv'
  refine ⟨tuples' false, fun Q E hq => ?_, fst_cmp (s := { s with heap := h' }) hu hv' un⟩
  exact PySem.W.kat_kind (s := { s with heap := h' }) (T := .type "tuple") t1 (by omega) (fun v hm => by
    obtain ⟨b, its, e, o, g1, g2, _⟩ := t3 v hm
    rw [e, ← g2]
    exact (PySem.W.Looks.ld g1).andThen .now) (by rfl) hq
end
def rSortF (K : PySem.W.Frag) : List V → Hp → VK → Prop := fun vs H Q => ∃ (a : Addr) (zs : List (V × List Int)), vs = [V.ref a] ∧ SqL K H a (zs.map (·.1)) ∧ (∀ z ∈ zs, ∃ t f ys, z.1 = V.ref t ∧ SqT K H t (.ref f :: ys) ∧ SqT K H f (z.2.map V.int)) ∧
  (zs.map (·.2)).Nodup ∧ ∀ (zs' : List (V × List Int)) (p : Addr), zs'.Perm zs → zs'.Pairwise (fun x y => HT.lexLt x.2 y.2 = true) → H p = none → Q (.ref p) (upd H p (.lst (zs'.map (·.1))))
theorem lexLt_tri : ∀ {xs ys : List Int}, xs ≠ ys → HT.lexLt ys xs = false → HT.lexLt xs ys = true
  | [], [], h, _ => absurd rfl h
  | [], _ :: _, _, _ => rfl
  | _ :: _, [], _, h => by cases h
  | x :: xs, y :: ys, h, h' => by
    rw [HT.lexLt_cons] at h' ⊢
    split at h'
    · rename_i e
      subst e
      rw [if_pos rfl]
      exact lexLt_tri (fun z => h (by rw [z])) h'
    · rename_i e
      have := of_decide_eq_false h'
      rw [if_neg fun z => e z.symm]
      exact decide_eq_true (by omega)
theorem perm_lift {α β : Type} {f : α → β} {ys ms : List β} (p : ys.Perm ms) : ∀ zs : List α, zs.map f = ms → ∃ zs' : List α, zs'.Perm zs ∧ zs'.map f = ys := by
  induction p with
  | nil => exact fun zs e => ⟨zs, List.Perm.refl _, e⟩
  | cons x _ ih =>
    intro zs e
    cases zs with
    | nil => cases e
    | cons z zs =>
      obtain ⟨e1, e2⟩ := List.cons.inj e
      obtain ⟨zs', q1, q2⟩ := ih zs e2
      exact ⟨z :: zs', q1.cons z, by rw [List.map_cons, e1, q2]⟩
  | swap x y l =>
    intro zs e
    match zs, e with
    | z1 :: z2 :: zs, e =>
      obtain ⟨e1, e2⟩ := List.cons.inj e
      obtain ⟨e2, e3⟩ := List.cons.inj e2
      exact ⟨z2 :: z1 :: zs, List.Perm.swap _ _ _, by rw [List.map_cons, List.map_cons, e1, e2, e3]⟩
  | trans _ _ ih1 ih2 =>
    intro zs e
    obtain ⟨z1, p1, e1⟩ := ih2 zs e
    obtain ⟨z2, p2, e2⟩ := ih1 z1 e1
    exact ⟨z2, p2.trans p1, e2⟩
theorem nodup_inj {α β : Type} {f : α → β} : ∀ {l : List α}, (l.map f).Nodup → ∀ x ∈ l, ∀ y ∈ l, f x = f y → x = y
  | z :: l, h, x, hx, y, hy, e => by
    obtain ⟨h1, h2⟩ := List.nodup_cons.mp h
    rcases List.mem_cons.mp hx with a | a <;> rcases List.mem_cons.mp hy with b | b
    · rw [a, b]
    · subst a; exact absurd (List.mem_map.mpr ⟨y, b, e.symm⟩) h1
    · subst b; exact absurd (List.mem_map.mpr ⟨x, a, e⟩) h1
    · exact nodup_inj h2 x a y b e
theorem vals_int_are : ∀ {ns : List Int} {us : List Value}, Vals (ns.map V.int) us → IntsAre us ns
  | [], _, h => by cases h; exact .nil
  | n :: ns, _, h => by
    cases h with
    | cons r rr =>
      obtain ⟨t, rfl⟩ := r
      exact .cons n t (vals_int_are rr)
open Classical in
theorem cr_sortF {X : Cx} (hu : X.A.units + 70 < cLine) : CallR X (.builtin "sorted") (rSortF X.K) := by
  intro pins s σ H vs us Q I r h
  obtain ⟨a, zs, rfl, hs, hx, nd, q⟩ := h
  obtain ⟨its, rv, hl, hz⟩ := I.list hs
  obtain ⟨u, rfl, ru⟩ := vals1 r
  obtain rfl : u = Value.ref a := ru
  obtain ⟨e1, e2⟩ := refs_back rv fun x m => by
    obtain ⟨z, hzm, rfl⟩ := List.mem_map.mp m
    obtain ⟨t, f, ys, e, _⟩ := hx z hzm
    exact ⟨t, e⟩
  let k : V → List Int := fun x => if h : ∃ z ∈ zs, z.1 = x then h.choose.2 else []
  have hk : ∀ z ∈ zs, k z.1 = z.2 := fun z hzm => by
    have ex : ∃ y ∈ zs, y.1 = z.1 := ⟨z, hzm, rfl⟩
    show (if h : ∃ y ∈ zs, y.1 = z.1 then h.choose.2 else []) = z.2
    rw [dif_pos ex]
    obtain ⟨m, e⟩ := ex.choose_spec
    generalize ex.choose = y at m e ⊢
    obtain ⟨t, f, ys, a1, a2, a3⟩ := hx z hzm
    obtain ⟨t', f', ys', b1, b2, b3⟩ := hx y m
    rw [a1, b1] at e
    cases e
    cases I.tuple_inj a2 b2
    have e3 := I.tuple_inj a3 b3
    exact (List.map_inj_right (fun _ _ w => V.int.inj w)).mp e3.symm
  have mem : ∀ v ∈ its, ∃ z ∈ zs, backV v = z.1 := fun v hv => by
    have : backV v ∈ zs.map (·.1) := by rw [e1]; exact List.mem_map.mpr ⟨_, hv, rfl⟩
    obtain ⟨z, m, e⟩ := List.mem_map.mp this
    exact ⟨z, m, e.symm⟩
  have fst : ∀ v ∈ its, FstAt s.heap v (k (backV v)) := fun v hv => by
    obtain ⟨z, m, ez⟩ := mem v hv
    rw [ez, hk z m]
    obtain ⟨t, rfl⟩ := e2 v hv
    obtain ⟨t', f, ys, e, h1, h2⟩ := hx _ m
    rw [← ez] at e
    cases e
    obtain ⟨i1, r1, p1, _⟩ := I.tuple h1
    obtain ⟨i2, r2, p2, _⟩ := I.tuple h2
    cases r1 with
    | @cons x u xs us ra rb =>
      cases (show u = Value.ref f from ra)
      exact ⟨t, f, _, _, rfl, p1, rfl, p2, vals_int_are r2⟩
  have un' : ∀ v ∈ its, ∀ u ∈ its, v ≠ u → k (backV v) ≠ k (backV u) := fun v hv u hu' ne e => by
    obtain ⟨z, m, ez⟩ := mem v hv
    obtain ⟨y, m', ey⟩ := mem u hu'
    obtain ⟨t, rfl⟩ := e2 v hv
    obtain ⟨t', rfl⟩ := e2 u hu'
    rw [ez, ey, hk z m, hk y m'] at e
    have := nodup_inj nd z m y m' e
    subst this
    rw [← ez] at ey
    cases ey
    exact ne rfl
  refine SrtO.sorted_ord (NtL.swo_lexL fun v => k (backV v)) hl.isList (by rw [← rv.length]; exact hz) (fun h2 h₁ a' ha kk => ?_) fun out hs' hb => ?_
  · refine fst_sortable (s := { s with heap := h₁ }) h2 (by show X.A.units + 1 + 1 + 64 < cLine; omega) (fun v hm => (fst v hm).keeps fun b o e _ => (kk b o e).2) un' fun o e => ?_
    have e' : some o = some (seqObj "list" its.toArray 0) := e.symm.trans ha
    cases e'
    intro c
    exact absurd (Value.type.inj c) (by decide)
  · have h3 : ∀ u ∈ out, ∃ a, u = Value.ref a := fun u hu => e2 u (hb.perm.mem_iff.mp hu)
    have pm : (out.map backV).Perm (zs.map (·.1)) := by rw [e1]; exact hb.perm.map backV
    obtain ⟨zs', p1, p2⟩ := perm_lift pm zs rfl
    have pw : (zs'.map (·.1)).Pairwise fun x y => HT.lexLt (k y) (k x) = false := by
      rw [p2]
      exact List.pairwise_map.mpr hs'
    have pw2 : zs'.Pairwise fun x y => HT.lexLt x.2 y.2 = true := by
      have nd' : (zs'.map (·.2)).Nodup := (p1.map (·.2)).nodup_iff.mpr nd
      have c := List.pairwise_map.mp pw
      have d := List.pairwise_map.mp nd'
      have inz : ∀ z ∈ zs', z ∈ zs := fun z m => p1.mem_iff.mp m
      refine List.Pairwise.imp_of_mem (fun {x y} hx' hy' h => ?_) (c.and d)
      have h1 := h.1
      rw [hk x (inz x hx'), hk y (inz y hy')] at h1
      exact lexLt_tri h.2 h1
    obtain ⟨n, hn⟩ := PyProof.Rows.sortedAll_at s.heap its out.toArray
    have e9 : zs'.map (·.1) = out.map backV := p2
    refine ⟨.ref (s.heap.objs.size + 1), upd H (s.heap.objs.size + 1) (.lst (zs'.map (·.1))), I.laid (t' := s.toks) (fun b o e => PyProof.Rows.sortedAll_old e) (Nat.le_succ _) ⟨?_, out, n, by rw [e9]; exact vals_back h3, hn⟩, rfl, q _ _ p1 pw2 (I.hok.fresh (Nat.le_succ _))⟩
    have : (zs'.map (·.1)).length = (zs.map (·.1)).length := by rw [List.length_map, List.length_map, p1.length_eq]
    rw [this]
    exact hz
/-! ### over data -/
def intsT : D → Option (List Int)
  | .tuple ds => intsOf ds
  | _ => none
def fstI : D → List Int
  | .tuple (d :: _) => (intsT d).getD []
  | _ => []
def FstOk : D → Prop
  | .tuple (d :: _) => (intsT d).isSome = true
  | _ => False
@[reducible] def oSortF : OL := fun ds k => match ds with
  | [.list es] => (∀ e ∈ es, FstOk e) ∧ (es.map fstI).Nodup ∧ ∀ es' : List D, es'.Perm es → es'.Pairwise (fun x y => HT.lexLt (fstI x) (fstI y) = true) → k (.own 0 (.lst es'))
  | _ => False
theorem dp_pairs {K : PySem.W.Frag} {B : Hp} : ∀ {xs : List V} {ds : List D}, DpAll K B xs ds → ∃ ws : List (V × D), ws.map (·.1) = xs ∧ ws.map (·.2) = ds ∧ ∀ w ∈ ws, Dp K B w.1 w.2
  | _, [], h => by cases h; exact ⟨[], rfl, rfl, fun w h => nomatch h⟩
  | _, d :: ds, h => by
    cases h with
    | @cons v vs _ _ h1 h2 =>
      obtain ⟨ws, a, b, c⟩ := dp_pairs h2
      refine ⟨(v, d) :: ws, by rw [List.map_cons, a], by rw [List.map_cons, b], fun w hw => ?_⟩
      rcases List.mem_cons.mp hw with e | hw
      · rw [e]; exact h1
      · exact c w hw
theorem dp_of_pairs {K : PySem.W.Frag} {B : Hp} : ∀ {ws : List (V × D)}, (∀ w ∈ ws, Dp K B w.1 w.2) → DpAll K B (ws.map (·.1)) (ws.map (·.2))
  | [], _ => .nil
  | w :: ws, h => .cons (h w (.head _)) (dp_of_pairs fun u hu => h u (.tail _ hu))
theorem fst_at {K : PySem.W.Frag} {B : Hp} {v : V} {d : D} (h : Dp K B v d) (f : FstOk d) : ∃ t f' ys, v = V.ref t ∧ SqT K B t (.ref f' :: ys) ∧ SqT K B f' ((fstI d).map V.int) := by
  cases h with
  | tup a1 a2 =>
    cases a2 with
    | nil => exact f.elim
    | cons b1 b2 =>
      cases b1 with
      | tup c1 c2 =>
        rename_i ds' _ _ _ us ds2
        have f' : (intsOf ds2).isSome = true := f
        cases e : intsOf ds2 with
        | none => rw [e] at f'; cases f'
        | some ns =>
          refine ⟨_, _, _, rfl, a1, ?_⟩
          show SqT K B _ (((intsOf ds2).getD []).map V.int)
          rw [e]
          have := intsOf_dp c2 e
          rw [this] at c1
          exact c1
      | _ => cases f
  | _ => exact f.elim
theorem lift_sortF {K : PySem.W.Frag} : LiftL K (rSortF K) oSortF := by
  intro O H xs ds QD Q _ hx q fin
  unfold oSortF at q
  split at q
  · rename_i es
    cases hx with
    | cons h1 h2 =>
      cases h2
      cases h1 with
      | lst a1 a2 =>
        obtain ⟨f, nd, q⟩ := q
        obtain ⟨ws, w1, w2, w3⟩ := dp_pairs a2
        subst w1
        subst w2
        refine ⟨_, ws.map fun w => (w.1, fstI w.2), rfl, ?_, fun z hz => ?_, ?_, fun zs' p pm pw n => ?_⟩
        · rw [List.map_map]; exact Same.seq same_hide a1
        · obtain ⟨w, hw, rfl⟩ := List.mem_map.mp hz
          obtain ⟨t, f', ys, e, b1, b2⟩ := fst_at (w3 w hw) (f w.2 (List.mem_map.mpr ⟨w, hw, rfl⟩))
          exact ⟨t, f', ys, e, seqT_same same_hide b1, seqT_same same_hide b2⟩
        · rw [List.map_map] at nd ⊢
          exact nd
        · obtain ⟨ws', p1, p2⟩ := perm_lift pm ws rfl
          have dp : DpAll K (hide H O) (ws'.map (·.1)) (ws'.map (·.2)) := dp_of_pairs fun w hw => w3 w (p1.mem_iff.mp hw)
          have e1 : zs'.map (·.1) = ws'.map (·.1) := by rw [← p2, List.map_map]; rfl
          rw [e1]
          refine fin _ _ (.own 0 (.lst (ws'.map (·.2)))) (same_new n) (new_lst n dp) (q _ (p1.map _) ?_)
          rw [← p2] at pw
          exact List.pairwise_map.mpr (List.pairwise_map.mp pw)
  · exact q.elim
section
variable {X : Cx} {g : G} {W : WX} {e : Expr} {es : List Expr} {wa : WA} {p pos : Pos}
theorem ee_sortF (hu : X.A.units + 70 < cLine) (hg : Gl X "sorted") (hm : X.mg "sorted" = none) (ha : EA X g W (e :: es) wa) (he : starEach (e :: es) X.env = (false, eval e X.env) :: starEach es X.env := by rfl) (hpl : (backTo pos (starEach es X.env)).any (·.1) = false := by rfl) :
    EE X g W (.Call (.Name "sorted" p) (e :: es) [] pos) (wL oSortF wa) := ee_cb (cr_sortF hu) lift_sortF hg hm (by decide +kernel) ha (he := he) (hpl := hpl)
theorem units70 {k : Nat} (hr : Room k X.A) : X.A.units + 70 < cLine := by have := hr.un; omega
end
end DL

set_option Elab.async false
set_option linter.all false
set_option maxRecDepth 100000
set_option maxHeartbeats 4000000
/-! DLDict: own dicts of slots: {}, d.get(k, x), d[k], k in d, d[k] = v, sorted(d). -/
namespace DL
open PySem PySem.Spec PyProof.Rows L2
@[reducible] def keyD : D → Option Key
  | .int i => some (.inl i)
  | .str s => some (.inr s)
  | _ => none
section
variable {K : PySem.W.Frag} {B : Hp}
/-! what the heap holds -/
end
section
variable {K : PySem.W.Frag} {g : G} {σ : L2.St} {vs : List V} {H H' : Hp} {ρ : Rho} {cs : List C} {i t : Nat}
theorem dp_up {x y : V} {c : C} {d : D} (h : Dp K (hide H (tot σ (x :: vs) ρ (c :: cs) ++ g.P0)) y d) : Dp K (hide H (tot σ vs ρ cs ++ g.P0)) y d := by
  refine dp_mono (fun a o q => ?_) _ _ h
  obtain ⟨h1, h2⟩ := hide_some.mp q
  refine hide_some.mpr ⟨fun z => h1 ?_, h2⟩
  rw [tot_cons]
  rcases List.mem_append.mp z with z | z
  · exact List.mem_append_left _ (List.mem_append_right _ z)
  · exact List.mem_append_right _ z
end
section
variable {X : Cx} {g : G} {W : WX} {e k d : Expr} {we wk wd : WE} {i : Nat} {x : Str} {p apos pos p2 : Pos}
end
end DL

set_option Elab.async false
set_option linter.all false
set_option maxRecDepth 100000
set_option maxHeartbeats 4000000
/-! DLSrtS: sorted of tuples that begin with unlike texts; sorted(d.items()) -/
namespace DL
open PySem PySem.Spec PyProof.Rows L2
/-! ### the order of texts -/
def cpI (x : Str) : List Int := x.cps.toList.map Int.ofNat
def sLt (x y : Str) : Bool := HT.lexLt (cpI x) (cpI y)
theorem swo_s {α : Type} (k : α → Str) : SrtO.Swo (fun v u : α => sLt (k v) (k u)) := NtL.swo_lexL fun v => cpI (k v)
theorem sLt_irr (x : Str) : sLt x x = false := SrtO.Swo.refl (swo_s (α := Str) id) x
theorem sLt_asym {x y : Str} (h : sLt x y = true) : sLt y x = false := (swo_s (α := Str) id).asym x y h
theorem sorted_uniq {α : Type} {k : α → Str} : ∀ {l m : List α}, l.Pairwise (fun x y => sLt (k x) (k y) = true) → m.Pairwise (fun x y => sLt (k x) (k y) = true) → (∀ x, x ∈ l ↔ x ∈ m) → l = m
  | [], [], _, _, _ => rfl
  | [], y :: m, _, _, h => nomatch (h y).mpr (.head _)
  | x :: l, [], _, _, h => nomatch (h x).mp (.head _)
  | x :: l, y :: m, h1, h2, h => by
    obtain ⟨a1, a2⟩ := List.pairwise_cons.mp h1
    obtain ⟨b1, b2⟩ := List.pairwise_cons.mp h2
    have e : x = y := by
      rcases List.mem_cons.mp ((h x).mp (.head _)) with e | z
      · exact e
      · rcases List.mem_cons.mp ((h y).mpr (.head _)) with e | w
        · exact e.symm
        · have := sLt_asym (b1 x z)
          rw [a1 y w] at this
          cases this
    subst e
    refine congrArg (x :: ·) (sorted_uniq a2 b2 fun z => ⟨fun hz => ?_, fun hz => ?_⟩)
    · rcases List.mem_cons.mp ((h z).mp (.tail _ hz)) with e | w
      · subst e
        have := a1 z hz
        rw [sLt_irr] at this
        cases this
      · exact w
    · rcases List.mem_cons.mp ((h z).mpr (.tail _ hz)) with e | w
      · subst e
        have := b1 z hz
        rw [sLt_irr] at this
        cases this
      · exact w
/-! ### the sort -/
def FsS (h : Heap) (v : Value) (x : Str) : Prop := ∃ (t : Addr) (xs : Array Value) (k : Tok), v = .ref t ∧ h.IsTuple t xs ∧ xs[0]? = some (.str x k)
theorem FsS.keeps {h h' : Heap} {v : Value} {x : Str} (q : FsS h v x) (k : ∀ b o, h.get? b = some o → o.cls = .type "tuple" → h'.get? b = some o) : FsS h' v x := by
  obtain ⟨t, xs, u, e, h1, h2⟩ := q
  exact ⟨t, xs, u, e, isTuple_keeps h1 k, h2⟩
section
variable {prog : Program} {w : World} {A : Around} {s : Shared}
end
/-! ### over data -/
section
variable {X : Cx} {g : G} {W : WX} {e : Expr} {es : List Expr} {wa : WA} {p pos : Pos}
end
end DL

set_option Elab.async false
set_option linter.all false
set_option maxRecDepth 100000
set_option maxHeartbeats 4000000
/-! DLItems: sorted(d.items()) of a dict with texts for keys -/
namespace DL
open PySem PySem.Spec PyProof.Rows L2
section
variable {X : Cx}
end
/-! ### over data -/
section
variable {X : Cx} {g : G} {W : WX} {i : Nat} {x : Str} {p p2 apos cpos pos : Pos}
end
/-! ### sorted(d), the keys texts -/
section
variable {prog : Program} {w : World} {A : Around} {s : Shared}
end
section
variable {X : Cx}
end
section
variable {X : Cx} {g : G} {W : WX} {i : Nat} {x : Str} {p p2 pos : Pos}
end
/-! ### texts compared -/
section
variable {X : Cx} {g : G} {W : WX} {a b : Expr} {wa wb : WE} {pos : Pos}
end
end DL

set_option Elab.async false
set_option linter.all false
set_option maxRecDepth 100000
set_option maxHeartbeats 4000000
/-! DLDflt: calls that leave out parameters whose defaults are whole numbers -/
namespace DL
open PySem PySem.Spec PyProof.Rows L2
section
variable {X : Cx} {g : G} {W : WX} {CX : CXT} {k : Nat} {f : Addr} {fd : FuncData} {ps : List Str} {S : SpD} {E : XK} {x : Str} {p pos : Pos} {e : Expr} {es : List Expr} {wa : WA}
variable {dvs : List Int}
end
end DL

set_option Elab.async false
set_option linter.all false
set_option maxRecDepth 100000
set_option maxHeartbeats 4000000
/-! DLHd: what a head is asked (definitions that the head's reckoning needs, apart from the layer) -/
namespace DL
open PySem PySem.Spec PyProof.Rows L2
def excB (K : PySem.W.Frag) (x : Str) : Bool :=
  He.eqO (PySem.W.findIn K (.ref (He.ga K x)) "__getattribute__") (some (some (.builtin "BaseException.__getattribute__"))) && (He.eqO (PySem.W.findIn K (.ref (He.ga K x)) "__getattr__") (some none) && (decide (PySem.W.subIn K (.ref (He.ga K x)) (.type "BaseException") = some true) && (PySem.W.hasDictIn K (He.ga K x) && (
  He.eqO (PySem.W.findIn K (.ref (He.ga K x)) "__class__") (some (some (.builtin "object.__class__"))) && (He.eqO (PySem.W.specialIn K (.builtin "object.__class__") "__get__") (some (some (.builtin "getset_descriptor.__get__"))) && (decide (PySem.W.takesIn K (.builtin "object.__class__") = some true) &&
  decide (PySem.W.mroIn K (He.ga K x) (.type "object") = some true)))))))
def excNames : List Str := ["CallError", "NoBook", "NoChange", "Full", "TooMany", "NoLine", "NoText"]
def tryB (K : PySem.W.Frag) : Bool := excB K "TooMany" && ((excNames.all fun x => decide (PySem.W.kitOne K (.ref (He.ga K "TooMany")) (.ref (He.ga K x)) = some (decide (x = "TooMany" ∨ x = "CallError")))) &&
  (decide (PySem.W.kitOne K (.ref (He.ga K "TooMany")) (.type "ValueError") = some true) && decide (PySem.W.exmOne K (.ref (He.ga K "TooMany")) (.ref (He.ga K "CallError")) = some true)))
def tryB0 (K : PySem.W.Frag) : Bool := decide (PySem.W.exmOne K (.ref (He.ga K "TooMany")) (.ref (He.ga K "TooMany")) = some true)
end DL

set_option Elab.async false
set_option linter.all false
set_option maxRecDepth 100000
set_option maxHeartbeats 4000000
/-! DL: try .. except in a def's own suite; isinstance of what is caught -/
namespace DL
open PySem PySem.Spec PyProof.Rows L2
/-! ### blocks that stand in no loop -/
section
variable {X : Cx} {g : G} {W : WX} {st : Stmt} {rest sts : List Stmt} {w u : WS}
end
/-! ### the body of a def -/
section
variable {P : Program} {w : World} {K : PySem.W.Frag} {mg : Str → Option Value} {base : Heap} {x qual : Str} {params : Arguments} {body : List Stmt} {scope : Scope} {dvs : List V} {kws : List (Str × V)} {f : Addr} {fd : FuncData}
end
/-! ### calls of defs that may let exceptions out, within the try -/
section
variable {X : Cx} {g : G} {W : WX} {k : Nat} {S : SpD} {x : Str} {p pos : Pos} {e : Expr} {es : List Expr} {wa : WA}
end
/-! ### the clause -/
theorem excB_ok {K : PySem.W.Frag} {x : Str} (h : excB K x = true) : ExcC K (He.ga K x) := by
  obtain ⟨h1, h⟩ := He.ba h
  obtain ⟨h2, h⟩ := He.ba h
  obtain ⟨h3, h⟩ := He.ba h
  obtain ⟨h4, h⟩ := He.ba h
  obtain ⟨h5, h⟩ := He.ba h
  obtain ⟨h6, h⟩ := He.ba h
  obtain ⟨h7, h8⟩ := He.ba h
  exact ⟨He.eqO_ok h1, He.eqO_ok h2, of_decide_eq_true h3, h4, He.eqO_ok h5, He.eqO_ok h6, of_decide_eq_true h7, of_decide_eq_true h8⟩
/-! ### the suite: the slot of the exception's name holds it -/
structure TryG (K : PySem.W.Frag) (mg : Str → Option Value) : Prop where
  gl : ∀ x ∈ excNames, mg x = some (.ref (He.ga K x))
  c : ExcC K (He.ga K "TooMany")
  k : ∀ x ∈ excNames, PySem.W.kitOne K (.ref (He.ga K "TooMany")) (.ref (He.ga K x)) = some (decide (x = "TooMany" ∨ x = "CallError"))
  v : PySem.W.kitOne K (.ref (He.ga K "TooMany")) (.type "ValueError") = some true
  e : PySem.W.exmOne K (.ref (He.ga K "TooMany")) (.ref (He.ga K "CallError")) = some true
theorem TryG.of {K : PySem.W.Frag} {mg : Str → Option Value} (gl : ∀ x ∈ excNames, mg x = some (.ref (He.ga K x))) (h : tryB K = true) : TryG K mg := by
  obtain ⟨h1, h⟩ := He.ba h
  obtain ⟨h2, h⟩ := He.ba h
  obtain ⟨h3, h4⟩ := He.ba h
  exact ⟨gl, excB_ok h1, fun x hx => of_decide_eq_true (List.all_eq_true.mp h2 x hx), of_decide_eq_true h3, of_decide_eq_true h4⟩
section
variable {X : Cx} {g : G} {i : Nat} {a : Addr} {oe : Obj} {pn : List (Addr × Obj)} {p p1 p2 pos : Pos} {n y : Str}
end
/-! ### the suite's statements -/
section
variable {X : Cx} {g : G} {i : Nat} {a : Addr} {st : Stmt} {rest : List Stmt} {w u : WS} {pos : Pos}
end
/-! ### try: .. except X as n: .. -/
section
variable {X : Cx} {g : G} {W : WX} {x n : Str} {i : Nat} {body suite : List Stmt} {b₀ : Stmt} {np pos pos' : Pos} {wb ws : WS}
end
/-! ### the head, with one more Bool -/
/-! ### calls with defaults, within the try -/
section
variable {X : Cx} {g : G} {W : WX} {k : Nat} {S : SpD} {x : Str} {p pos : Pos} {e : Expr} {es : List Expr} {wa : WA} {dvs : List Int}
end
end DL

set_option Elab.async false
set_option linter.all false
set_option maxRecDepth 100000
set_option maxHeartbeats 4000000
/-! DLCat: + of lists, data or own -/
namespace DL
open PySem PySem.Spec PyProof.Rows L2
end DL

set_option Elab.async false
set_option linter.all false
set_option maxRecDepth 100000
set_option maxHeartbeats 4000000
/-! DLDictL: dict(xs), xs a list of pairs with unlike keys -/
namespace DL
open PySem PySem.Spec PyProof.Rows L2
section
variable {X : Cx} {g : G} {W : WX} {e : Expr} {es : List Expr} {wa : WA} {p pos : Pos}
end
end DL

set_option Elab.async false
set_option linter.all false
set_option maxRecDepth 100000
set_option maxHeartbeats 4000000
/-! DLKw: calls with keywords whose values are whole numbers -/
namespace DL
open PySem PySem.Spec PyProof.Rows L2
structure KwF where
  n : Nat
  ks : List Str
  a : Nat
  rev : Bool
  b : Nat
section
variable {K : PySem.W.Frag} {x qual : Str} {params : Arguments} {body : List Stmt} {scope : Scope} {dvs : List V} {kws : List (Str × V)} {f : Addr} {fd : FuncData} {ps : List Str}
end
section
variable {X : Cx} {g : G} {W : WX} {k : Nat} {S : SpD} {x : Str} {p pos kpos : Pos} {e : Expr} {es : List Expr} {kws : List Keyword} {wa wk : WA} {we : WE} {dvs : List Int} {qs : List KwF} {nm : Option Str}
end
end DL

set_option Elab.async false
set_option linter.all false
set_option maxRecDepth 100000
set_option maxHeartbeats 4000000
/-! DLZip3: zip of three lists -/
namespace DL
open PySem PySem.Spec PyProof.Rows L2
section
variable {K : PySem.W.Frag} {a b c : Addr} {ds es fs : List D}
end
section
variable {X : Cx} {g : G} {W : WX} {a b c : Expr} {wa : WA} {p pos : Pos}
end
end DL

set_option Elab.async false
set_option linter.all false
set_option maxRecDepth 100000
set_option maxHeartbeats 4000000
/-! DLIdx: xs.index(x), xs.count(x), xs data -/
namespace DL
open PySem PySem.Spec PyProof.Rows L2
section
variable {X : Cx} {g : G} {W : WX} {a b : Expr} {wa wb : WE} {apos pos : Pos}
end
end DL

set_option Elab.async false
set_option linter.all false
set_option maxRecDepth 100000
set_option maxHeartbeats 4000000
/-! DLCallE: a call whose last argument is a lent slot. -/
namespace DL
open PySem PySem.Spec PyProof.Rows L2
section
variable {K : PySem.W.Frag} {g : G} {W : WX} {σ : L2.St} {vs : List V} {H : Hp} {ρ : Rho} {cs : List C} {i : Nat}
end
section
variable {X : Cx} {g : G} {W : WX} {CX : CXT} {k : Nat} {f : Addr} {fd : FuncData} {ps : List Str} {S : SpD} {E : XK} {x : Str} {p pos : Pos} {e : Expr} {es : List Expr} {wa : WA}
end
end DL

set_option Elab.async false
set_option linter.all false
set_option maxRecDepth 100000
set_option maxHeartbeats 4000000
/-! DL: a, b, c = x, y, z -/
namespace DL
open PySem PySem.Spec PyProof.Rows L2
section
variable {X : Cx} {g : G} {W : WX}
@[reducible] def kc : Bool → C → C
  | true, c => c
  | false, c => frzC c
theorem SR.kcTop {K : PySem.W.Frag} {σ : L2.St} {vs : List V} {H : Hp} {ρ : Rho} {cs : List C} {x : V} {c : C} (o : Bool) (h : SR K g σ (x :: vs) H ρ (c :: cs)) : SR K g σ (x :: vs) H ρ (kc o c :: cs) := by
  cases o
  · exact h.frzTop
  · exact h
@[reducible] def wParO (oi oj : Bool) (i j : Nat) (wa : WA) : WS := fun DD ρ => wa ρ (fun cs ρ1 => match cs with
  | [c1, c2] => (kc oi c1).plain = true ∧ (kc oj c2).plain = true ∧ DD.nx (rset (rset ρ1 j (kc oj c2)) i (kc oi c1))
  | _ => False) DD.ex
theorem es_parO {oi oj : Bool} {i j : Nat} {x y : Str} {a b : Expr} {wa : WA} {px py pt spos : Pos} {kt k2 pt2} (hc : X.calm = true) (hN : X.N.Nodup) (hi : X.N[i]? = some x) (hj : X.N[j]? = some y) (hij : i ≠ j)
    (hx : X.env.scope.names.lookup x = some .local) (hy : X.env.scope.names.lookup y = some .local) (ha : EA X g W [a, b] wa)
    (hw : swappedStores [.Tuple [.Name x px, .Name y py] kt pt] (.Tuple [a, b] k2 pt2) X.env = pure (some [x, y]))
    (hs : swapsWithSole [.Tuple [.Name x px, .Name y py] kt pt] (.Tuple [a, b] k2 pt2) spos.line X.env = pure false := by rfl) :
    ES X g W (.Assign [.Tuple [.Name x px, .Name y py] kt pt] (.Tuple [a, b] k2 pt2) spos) (wParO oi oj i j wa) := by
  obtain ⟨t, q, s⟩ := ha.ex
  refine ⟨_, ps_par hc hN hi hj hij hx hy q hw hs, fun σ vs H ρ cs DD D hS hp hw hE => ?_⟩
  refine s σ vs H ρ cs _ _ _ hS hw (hE.ex σ) fun xs H1 ccs ρ1 hl S1 q1 => ?_
  split at q1
  · rename_i c1 c2
    match xs, hl with
    | [u, v], _ =>
      refine ⟨u, v, rfl, ?_⟩
      obtain ⟨p1, p2, q1⟩ := q1
      have S2 := S1.kcTop oi
      have S3 : SR X.K g σ (v :: (u :: vs)) H1 ρ1 (c2 :: (kc oi c1 :: cs)) := SR.rot (xs := [u]) (ccs := [kc oi c1]) rfl S2
      have S4 := (S3.kcTop oj).store (i := j) p2 (fun k z => (hp.cons p1).nopk z)
      have S5 := S4.store (i := i) p1 (fun k z => hp.nopk z)
      rw [List.set_comm _ _ (Ne.symm hij)] at S5
      exact hE.nx _ H1 _ S5 q1
  · exact q1.elim
end
end DL

set_option Elab.async false
set_option linter.all false
set_option maxRecDepth 100000
set_option maxHeartbeats 4000000
/-! DL: a, b = x, y and a, b, c = x, y, z where a name is a cell (a pair is made and taken apart); own objects stay so -/
namespace DL
open PySem PySem.Spec PyProof.Rows L2
section
variable {X : Cx} {g : G} {W : WX}
end
end DL

set_option Elab.async false
set_option linter.all false
set_option maxRecDepth 100000
set_option maxHeartbeats 4000000
/-! DL: sorted of pairs of whole numbers -/
namespace DL
open PySem PySem.Spec PyProof.Rows L2
section
variable {X : Cx}
end
/-! ### over data -/
section
variable {X : Cx} {g : G} {W : WX} {e : Expr} {es : List Expr} {wa : WA} {p pos : Pos}
end
end DL

set_option Elab.async false
set_option linter.all false
set_option maxRecDepth 100000
set_option maxHeartbeats 4000000
/-! DLOrd: <, >, <=, >= of data that are alike place by place; a list times a number -/
namespace DL
open PySem PySem.Spec PyProof.Rows L2
section
variable {X : Cx}
end
section
variable {X : Cx} {g : G} {W : WX} {a b : Expr} {wa wb : WE} {pos : Pos}
end
/-! ### a list times a number -/
end DL

set_option Elab.async false
set_option linter.all false
set_option maxRecDepth 100000
set_option maxHeartbeats 4000000
/-! DLLr: list(range(a, b, c)), numbers of any size -/
namespace PySem
open Sem (wp)
open AutoSeq1 (wpAny_loadPart')
section
variable {prog : Program} {w : World} {A : Around} {E : Value → Shared → Prop} {s : Shared}
end
end PySem
namespace DL
open PySem PySem.Spec PyProof.Rows L2
section
variable {X : Cx}
end
end DL

set_option Elab.async false
set_option linter.all false
set_option maxRecDepth 100000
/-! DL: x not in range(n); except X: without a name -/
namespace DL
open PySem PySem.Spec PyProof.Rows L2
section
variable {X : Cx} {a b : Expr} {ta : TE} {pos p p2 : Pos}
end
/-! ### try: .. except X: .. -/
structure TryG0 (K : PySem.W.Frag) (mg : Str → Option Value) : Prop where
  g : mg "TooMany" = some (.ref (He.ga K "TooMany"))
  e : PySem.W.exmOne K (.ref (He.ga K "TooMany")) (.ref (He.ga K "TooMany")) = some true
theorem TryG0.of {K : PySem.W.Frag} {mg : Str → Option Value} (g : mg "TooMany" = some (.ref (He.ga K "TooMany"))) (h : tryB0 K = true) : TryG0 K mg := ⟨g, of_decide_eq_true h⟩
section
variable {X : Cx} {g : G} {W : WX} {x : Str} {body suite : List Stmt} {b₀ : Stmt} {np pos pos' : Pos} {wb ws : WS}
end
end DL

set_option Elab.async false
set_option linter.all false
set_option maxRecDepth 100000
set_option maxHeartbeats 4000000
/-! DLStr: methods of texts: upper, join, zfill, partition, strip -/
namespace DL
open PySem PySem.Spec PyProof.Rows L2
section
variable {K : PySem.W.Frag} {g : G} {W : WX} {ta tb : TE} {wa wb : WE} {r : V → List V → Hp → VK → Prop} {o : O2}
end
section
variable {X : Cx} {g : G} {W : WX} {a b : Expr} {wa wb : WE} {apos pos : Pos}
end
end DL

set_option Elab.async false
set_option linter.all false
set_option maxRecDepth 100000
set_option maxHeartbeats 4000000
/-! DLIxT: x[n] as a target (x an own list, n a local whole number): x[a], x[b] = x[b], x[a] -/
namespace DL
open PySem PySem.Spec PyProof.Rows L2
section
variable {X : Cx} {g : G}
end
end DL

set_option Elab.async false
set_option linter.all false
set_option maxRecDepth 100000
set_option maxHeartbeats 4000000
/-! DLLz: list(zip(a, b)), a and b lists -/
namespace PySem
open Sem (wp)
structure ZipS (xs ys : Array Value) (z TI TO i1 i2 l1 l2 : Addr) (i : Nat) (h : Heap) : Prop where
  hTI : IsPair h TI (.ref i1) (.ref i2)
  h1 : h.IsListIter i1 l1 i
  h2 : h.IsListIter i2 l2 i
  hl1 : h.IsList l1 xs
  hl2 : h.IsList l2 ys
  hz : (IsZip h z TI TO .none ∧ ∃ a b, IsPair h TO a b) ∨ ∃ T f oT, IsZipHeld h z TI TO T f ∧ h.get? T = some oT ∧ T ≠ z ∧ T ≠ i1 ∧ T ≠ i2
theorem ZipS.frame {xs ys : Array Value} {z TI TO i1 i2 l1 l2 : Addr} {i : Nat} {h h' : Heap} {S : Addr} (st : ZipS xs ys z TI TO i1 i2 l1 l2 i h) (b : ∀ c ∈ [z, TI, TO, i1, i2, l1, l2], c < S) (hT : ∀ T f, IsZipHeld h z TI TO T f → T ≠ S)
    (hk : ∀ c o, c ≠ S → h.get? c = some o → h'.get? c = some o) : ZipS xs ys z TI TO i1 i2 l1 l2 i h' := by
  have n : ∀ c ∈ [z, TI, TO, i1, i2, l1, l2], c ≠ S := fun c hc => Nat.ne_of_lt (b c hc)
  obtain ⟨hTI, h1, h2, hl1, hl2, hz⟩ := st
  refine ⟨hk _ _ (n _ (by simp)) hTI, h1.at fun o e => hk _ o (n _ (by simp)) e, h2.at fun o e => hk _ o (n _ (by simp)) e, hl1.at fun o e => hk _ o (n _ (by simp)) e, hl2.at fun o e => hk _ o (n _ (by simp)) e, ?_⟩
  rcases hz with ⟨hz, a, c, hTO⟩ | ⟨T, f, oT, hz, hT', r1, r2, r3⟩
  · exact .inl ⟨hk _ _ (n _ (by simp)) hz, a, c, hk _ _ (n _ (by simp)) hTO⟩
  · exact .inr ⟨T, f, oT, hk _ _ (n _ (by simp)) hz, hk _ _ (hT T f hz) hT', r1, r2, r3⟩
section
variable {prog : Program} {w : World} {A : Around} {R : Result → Shared → Prop} {z TI TO i1 i2 l1 l2 : Addr} {xs ys : Array Value}
end
end PySem
namespace DL
open PySem PySem.Spec PyProof.Rows L2
section
variable {X : Cx}
end
end DL

set_option Elab.async false
set_option linter.all false
set_option maxRecDepth 100000
set_option maxHeartbeats 4000000
/-! DLFs: f-strings of texts and whole numbers; str of a text -/
namespace DL
open PySem PySem.Spec PyProof.Rows L2
abbrev WJ := Str → Rho → (Str → Rho → Prop) → KX → Prop
section
variable {X : Cx} {g : G} {W : WX} {e : Expr} {es : List Expr} {we : WE} {wj : WJ} {pos : Pos}
end
end DL

set_option Elab.async false
set_option linter.all false
set_option maxRecDepth 100000
set_option maxHeartbeats 4000000
/-! DLMl: a short text told many times -/
namespace DL
open PySem PySem.Spec PyProof.Rows L2
section
variable {X : Cx}
end
end DL

set_option Elab.async false
set_option linter.all false
set_option maxRecDepth 100000
set_option maxHeartbeats 4000000
/-! DLDni: k in d, k not in d as tests -/
namespace DL
open PySem PySem.Spec PyProof.Rows L2
section
variable {X : Cx} {g : G} {W : WX} {k : Expr} {wk : WE} {x : Str} {p pos : Pos} {i : Nat}
end
end DL

set_option Elab.async false
set_option linter.all false
set_option maxRecDepth 100000
set_option maxHeartbeats 4000000
/-! CFH: the promises of the laws' drawing helpers, alike in all laws -/
namespace CFH
open PySem PySem.Spec PyProof.Rows L2 DL
structure Hd where
  a : Int
  b : Int
  c : Int
@[reducible] def hd (h : Hd) : List D := [.int h.a, .int h.b, .int h.c]
structure Hd.ok (h : Hd) (n : Nat) : Prop where
  a0 : 0 ≤ h.a
  b0 : 0 ≤ h.b
  b1 : h.b < 4611686018427387904
  c0 : 0 ≤ h.c
  c1 : h.c ≤ n
@[reducible] def hc (h : Hd) : C := .own 1 (.lst (hd h))
def S_law_hand : SpD := fun as Q _ => ∃ (ns : List Int) (k : Int), as = [.v (.list (ns.map PyData.int)), .v (.int k)] ∧ 0 ≤ k ∧ k ≤ 1000 ∧ ∀ h : Hd, h.ok 0 → Q (.own 0 (.lst (hd h))) as
def S_law_take : SpD := fun as Q _ => ∃ (h : Hd) (n : Nat) (m : Int), as = [hc h, .v (.int m)] ∧ h.ok n ∧ n ≤ 1000000 ∧ 0 < m ∧ m.natAbs.log2 < 9000 ∧ ∀ (h' : Hd) (x : Int), h'.ok (n + 1) → 0 ≤ x → x < m → Q (.v (.int x)) [hc h', .v (.int m)]
def Boxed (d : D) (ds : List D) : Prop := d = .list ds ∨ d = .tuple ds ∨ ∃ s : Str, d = .str s ∧ ds = strD s ∧ s.length ≤ sizeLine
def S_law_pick : SpD := fun as Q _ => ∃ (h : Hd) (n : Nat) (b : D) (ds : List D), as = [hc h, .v b] ∧ h.ok n ∧ n ≤ 1000000 ∧ 0 < ds.length ∧ ds.length ≤ 1000000 ∧ Boxed b ds ∧ ∀ (h' : Hd) (d : D), h'.ok (n + 1) → d ∈ ds → Q (.v d) [hc h', .v b]
@[reducible] def wholeD : D → Bool
  | .int _ => true
  | _ => false
def S_law_whole : SpD := fun as Q _ => ∃ d : D, as = [.v d] ∧ Q (.v (.bool (wholeD d))) as
def S_law_great : SpD := fun as Q _ => ∃ (h : Hd) (n : Nat), as = [hc h] ∧ h.ok n ∧ n ≤ 900000 ∧ ∀ (h' : Hd) (x : Int), h'.ok (n + 4) → 0 ≤ x → x < 1000000000000000000000000000000000000000000000000000000000000 → Q (.v (.int x)) [hc h']
theorem len_law_hand : ∀ as QD ED, S_law_hand as QD ED → as.length = 2 := by
  rintro as QD ED ⟨_, _, rfl, _⟩
  rfl
theorem len_law_take : ∀ as QD ED, S_law_take as QD ED → as.length = 2 := by
  rintro as QD ED ⟨_, _, _, rfl, _⟩
  rfl
theorem len_law_pick : ∀ as QD ED, S_law_pick as QD ED → as.length = 2 := by
  rintro as QD ED ⟨_, _, _, _, rfl, _⟩
  rfl
theorem Hd.ok.up {h : Hd} {n m : Nat} (o : h.ok n) (l : n ≤ m) : h.ok m := ⟨o.a0, o.b0, o.b1, o.c0, by have := o.c1; omega⟩
@[reducible] def big : Int := 1000000000000000000000000000000000000000000000000000000000000
theorem big_log {m : Int} (h0 : 0 < m) (h : m ≤ big) : m.natAbs.log2 < 9000 := log2_lt (k := 200) (by unfold big at h; omega) (by decide) (by decide)
theorem hand_i {ns : List Int} {k : Int} {Q E} (h0 : 0 ≤ k) (h1 : k ≤ 1000) (q : ∀ h : Hd, h.ok 0 → Q (.own 0 (.lst (hd h))) [.v (.list (ns.map PyData.int)), .v (.int k)]) : S_law_hand [.v (.list (ns.map PyData.int)), .v (.int k)] Q E := ⟨ns, k, rfl, h0, h1, q⟩
theorem take_i {h : Hd} {n : Nat} {m : Int} {Q E} (o : h.ok n) (hn : n ≤ 1000000) (hm : 0 < m) (hl : m.natAbs.log2 < 9000) (q : ∀ (h' : Hd) (x : Int), h'.ok (n + 1) → 0 ≤ x → x < m → Q (.v (.int x)) [hc h', .v (.int m)]) : S_law_take [hc h, .v (.int m)] Q E := ⟨h, n, m, rfl, o, hn, hm, hl, q⟩
theorem great_i {h : Hd} {n : Nat} {Q E} (o : h.ok n) (hn : n ≤ 900000) (q : ∀ (h' : Hd) (x : Int), h'.ok (n + 4) → 0 ≤ x → x < 1000000000000000000000000000000000000000000000000000000000000 → Q (.v (.int x)) [hc h']) : S_law_great [hc h] Q E := ⟨h, n, rfl, o, hn, q⟩
theorem pick_i {h : Hd} {n : Nat} {ds : List D} {Q E} (o : h.ok n) (hn : n ≤ 1000000) (h0 : 0 < ds.length) (h1 : ds.length ≤ 1000000) (q : ∀ (h' : Hd) (d : D), h'.ok (n + 1) → d ∈ ds → Q (.v d) [hc h', .v (.list ds)]) : S_law_pick [hc h, .v (.list ds)] Q E := ⟨h, n, .list ds, ds, rfl, o, hn, h0, h1, .inl rfl, q⟩
theorem strD_len {s : Str} : (strD s).length = s.length := by
  unfold strD
  rw [List.length_map]
  rfl
theorem pick_z {h : Hd} {n : Nat} (ns : List Int) {ds : List D} {Q E} (e : ds = ns.map PyData.int) (o : h.ok n) (hn : n ≤ 1000000) (h0 : 0 < ns.length) (h1 : ns.length ≤ 1000000) (q : ∀ (h' : Hd) (x : Int), h'.ok (n + 1) → x ∈ ns → Q (.v (.int x)) [hc h', .v (.list ds)]) : S_law_pick [hc h, .v (.list ds)] Q E := ⟨h, n, .list ds, ds, rfl, o, hn, by rw [e, List.length_map]; exact h0, by rw [e, List.length_map]; exact h1, .inl rfl, fun h' d o' hd => by
  rw [e] at hd
  obtain ⟨x, hx, rfl⟩ := List.mem_map.mp hd
  exact q h' x o' hx⟩
theorem whole_i {d : D} {Q E} (q : Q (.v (.bool (wholeD d))) [.v d]) : S_law_whole [.v d] Q E := ⟨d, rfl, q⟩
end CFH

set_option Elab.async false
set_option linter.all false
set_option maxRecDepth 100000
set_option maxHeartbeats 4000000
/-! CFCl: the clock: shown, reading, moment_of: promises and their mathematics -/
namespace CFCl
open PySem PySem.Spec PyProof.Rows L2 DL CFH
abbrev Pr := Int × Int
@[reducible] def cplD (p : Pr) : D := .tuple [.int p.1, .int p.2]
@[reducible] def psD (ps : List Pr) : D := .tuple (ps.map cplD)
def Ris : Int → List Pr → Prop
  | _, [] => True
  | lo, p :: js => lo < p.1 ∧ Ris p.1 js
theorem Ris.mono : ∀ {lo lo' : Int} {js : List Pr}, lo' ≤ lo → Ris lo js → Ris lo' js
  | _, _, [], _, h => trivial
  | _, _, _ :: _, l, h => ⟨by have := h.1; omega, h.2⟩
theorem Ris.mem : ∀ {lo : Int} {js : List Pr}, Ris lo js → ∀ p ∈ js, lo < p.1
  | _, q :: js, h, p, hp => by
    rcases List.mem_cons.mp hp with e | hp
    · rw [e]; exact h.1
    · exact Ris.mem (lo := _) (Ris.mono (by have := h.1; omega) h.2) p hp
def rdL (t : Int) : Int → Int → List Pr → Int
  | best, over, [] => if t + over > best then t + over else best
  | best, over, p :: js => if p.1 ≤ t then rdL t (if p.1 - 1 + over > best then p.1 - 1 + over else best) (over + p.2) js else rdL t best over js
def readingL (js : List Pr) (t : Int) : Int := rdL t 0 0 js
/-! ### promises -/
end CFCl

set_option Elab.async false
set_option linter.all false
set_option maxRecDepth 100000
set_option maxHeartbeats 4000000
/-! CFRu: the runs of the clock: promises and their mathematics -/
namespace CFRu
open PySem PySem.Spec PyProof.Rows L2 DL CFH CFCl
abbrev Rn := Int × Int × Int
@[reducible] def optD : Option Int → D
  | none => .none
  | some z => .int z
def Below (t : Int) : Option Int → Prop
  | none => True
  | some z => t < z
instance {t : Int} : ∀ e, Decidable (Below t e)
  | none => isTrue trivial
  | some z => inferInstanceAs (Decidable (t < z))
theorem Below.mono {s t : Int} : ∀ {e : Option Int}, s ≤ t → Below t e → Below s e
  | none, _, _ => trivial
  | some z, h, h' => Int.lt_of_le_of_lt h h'
def behW (last : Rn) (a over before : Int) (e : Option Int) : List Rn :=
  if before + 1 - over ≤ a then (if last.2.2 = 1 ∧ before + 1 - over = a then [] else [(a, a + over, 1)])
  else (if last.2.2 = 1 then [(a, before, 0)] else []) ++ (if Below (before + 1 - over) e then [(before + 1 - over, before + 1, 1)] else [])
def behL (last : Rn) (a over : Int) (e : Option Int) : List Rn := behW last a over (last.2.1 + last.2.2 * (a - 1 - last.1)) e
def lastOf (r : Rn) : List Rn → Rn
  | [] => r
  | x :: l => lastOf x l
def hdO : List Pr → Option Int
  | [] => none
  | p :: _ => some p.1
def rnG (over : Int) (last : Rn) : List Pr → List Rn
  | [] => []
  | p :: js => behL last p.1 (over + p.2) (hdO js) ++ rnG (over + p.2) (lastOf last (behL last p.1 (over + p.2) (hdO js))) js
def runsL (js : List Pr) : List Rn := (0, 0, 1) :: rnG 0 (0, 0, 1) js
/-! what is true of them -/
def St (R : Int → Int) (t : Int) : Prop := 0 < t ∧ R t = R (t - 1)
def Beg (R : Int → Int) (t : Int) : Prop := t = 0 ∨ ¬ (St R t ↔ St R (t - 1)) ∨ R t > R (t - 1) + 1
structure Seg (R : Int → Int) (r : Rn) (e : Option Int) : Prop where
  lt : Below r.1 e
  ge : 0 ≤ r.1
  st : r.2.2 = 0 ∨ r.2.2 = 1
  bg : Beg R r.1
  at_ : ∀ t, r.1 ≤ t → Below t e → R t = r.2.1 + r.2.2 * (t - r.1) ∧ (St R t ↔ r.2.2 = 0)
def Chain (R : Int → Int) : Rn → List Rn → Prop
  | r, [] => Seg R r none
  | r, r' :: l => Seg R r (some r'.1) ∧ Chain R r' l
theorem region {R : Int → Int} {a over : Int} {e : Option Int} (h : ∀ t, a ≤ t → Below t e → R t = if t + over > R (t - 1) then t + over else R (t - 1)) :
    ∀ (n : Nat), Below (a + n) e → R (a + n) = if a + n + over > R (a - 1) then a + n + over else R (a - 1)
  | 0, b => by
    have := h a (Int.le_refl _) (by simpa using b)
    simpa using this
  | n + 1, b => by
    have ih := region h n (Below.mono (by omega) b)
    have := h (a + (n + 1 : Nat)) (by omega) b
    rw [show a + ((n + 1 : Nat) : Int) - 1 = a + n by omega, ih] at this
    rw [this]
    (repeat' split) <;> omega
theorem region' {R : Int → Int} {a over : Int} {e : Option Int} (h : ∀ t, a ≤ t → Below t e → R t = if t + over > R (t - 1) then t + over else R (t - 1)) (t : Int) (ht : a ≤ t) (b : Below t e) : R t = if t + over > R (a - 1) then t + over else R (a - 1) := by
  have := region h (t - a).toNat (by rw [show a + ((t - a).toNat : Int) = t by omega]; exact b)
  rw [show a + ((t - a).toNat : Int) = t by omega] at this
  exact this
theorem step {R : Int → Int} {last : Rn} {a over : Int} {e : Option Int} {rest : Rn → List Rn} (hs : Seg R last (some a)) (he : Below a e)
    (h : ∀ t, a ≤ t → Below t e → R t = if t + over > R (t - 1) then t + over else R (t - 1))
    (k : ∀ r, Seg R r e → Chain R r (rest r)) : Chain R last (behL last a over e ++ rest (lastOf last (behL last a over e))) := by
  have hc := region' h
  obtain ⟨lt, ge, st, bg, at_⟩ := hs
  obtain ⟨b, v, s⟩ := last
  simp only at lt ge st bg at_
  have lt : b < a := lt
  obtain ⟨e1, e2⟩ := at_ (a - 1) (by omega) (by show a - 1 < a; omega)
  have at0 : ∀ t, b ≤ t → t < a → R t = v + s * (t - b) ∧ (St R t ↔ s = 0) := fun t h1 h2 => at_ t h1 h2
  have hs : Seg R (b, v, s) (some a) := ⟨lt, ge, st, bg, at_⟩
  clear at_
  unfold behL
  simp only
  rw [← e1]
  generalize hB : R (a - 1) = B at *
  unfold behW
  simp only
  by_cases c1 : B + 1 - over ≤ a
  · rw [if_pos c1]
    by_cases c2 : s = 1 ∧ B + 1 - over = a
    · rw [if_pos c2]
      refine k (b, v, s) ⟨Below.mono (by omega) he, ge, st, bg, fun t h1 h2 => ?_⟩
      obtain ⟨rfl, c2⟩ := c2
      by_cases z : t < a
      · exact at0 t h1 z
      · have r1 := hc t (by omega) h2
        rw [if_pos (by omega)] at r1
        refine ⟨by show R t = v + 1 * (t - b); omega, fun q => ?_, fun q => by simp only at q; omega⟩
        have q2 := q.2
        by_cases z2 : t = a
        · subst z2; omega
        · have r2 := hc (t - 1) (by omega) (Below.mono (by omega) h2)
          rw [if_pos (by omega)] at r2
          omega
    · rw [if_neg c2]
      refine ⟨hs, k (a, a + over, 1) ⟨he, by show 0 ≤ a; omega, .inr rfl, ?_, fun t h1 h2 => ?_⟩⟩
      · have r1 := hc a (Int.le_refl _) he
        rw [if_pos (by omega)] at r1
        show Beg R a
        rcases st with rfl | rfl
        · refine .inr (.inl fun q => ?_)
          have := (q.mpr (e2.mpr rfl)).2
          omega
        · refine .inr (.inr ?_)
          have : B + 1 - over ≠ a := fun z => c2 ⟨rfl, z⟩
          omega
      · have h1 : a ≤ t := h1
        have r1 := hc t h1 h2
        rw [if_pos (by omega)] at r1
        refine ⟨by show R t = a + over + 1 * (t - a); omega, fun q => ?_, fun q => by simp only at q; omega⟩
        have q2 := q.2
        by_cases z2 : t = a
        · subst z2; omega
        · have r2 := hc (t - 1) (by omega) (Below.mono (by omega) h2)
          rw [if_pos (by omega)] at r2
          omega
  · rw [if_neg c1]
    have low : ∀ t, a - 1 ≤ t → t < B + 1 - over → Below t e → R t = B := fun t h1 h2 h3 => by
      by_cases z : t = a - 1
      · rw [z, hB]
      · have := hc t (by omega) h3
        rw [if_neg (by omega)] at this
        exact this
    have std : ∀ t, a ≤ t → t < B + 1 - over → Below t e → St R t := fun t h1 h2 h3 => ⟨by omega, by rw [low t (by omega) h2 h3, low (t - 1) (by omega) (by omega) (Below.mono (by omega) h3)]⟩
    have up : Below (B + 1 - over) e → Seg R (B + 1 - over, B + 1, 1) e := fun hb => by
      have r0 := hc (B + 1 - over) (by omega) hb
      rw [if_pos (by omega)] at r0
      have r1 := low (B + 1 - over - 1) (by omega) (by omega) (Below.mono (by omega) hb)
      refine ⟨hb, by show 0 ≤ B + 1 - over; omega, .inr rfl, .inr (.inl fun q => ?_), fun t h1 h2 => ?_⟩
      · have := (q.mpr (std (B + 1 - over - 1) (by omega) (by omega) (Below.mono (by omega) hb))).2
        simp only at this
        omega
      · have h1 : B + 1 - over ≤ t := h1
        have r2 := hc t (by omega) h2
        rw [if_pos (by omega)] at r2
        refine ⟨by show R t = B + 1 + 1 * (t - (B + 1 - over)); omega, fun q => ?_, fun q => by simp only at q; omega⟩
        have q2 := q.2
        by_cases z2 : t = B + 1 - over
        · subst z2; omega
        · have r3 := hc (t - 1) (by omega) (Below.mono (by omega) h2)
          rw [if_pos (by omega)] at r3
          omega
    by_cases c2 : s = 1
    · subst c2
      rw [if_pos rfl]
      have mid : ∀ e' : Option Int, Below a e' → (∀ t, Below t e' → Below t e) → (∀ t, a ≤ t → Below t e' → t < B + 1 - over) → Seg R (a, B, 0) e' := fun e' h1 h2 h3 => by
        refine ⟨h1, by show 0 ≤ a; omega, .inl rfl, .inr (.inl fun q => ?_), fun t g1 g2 => ?_⟩
        · have := e2.mp (q.mp (std a (Int.le_refl _) (by omega) he))
          omega
        · have g1 : a ≤ t := g1
          refine ⟨?_, fun _ => rfl, fun _ => std t g1 (h3 t g1 g2) (h2 t g2)⟩
          rw [low t (by omega) (h3 t g1 g2) (h2 t g2)]
          show B = B + 0 * _
          omega
      by_cases c3 : Below (B + 1 - over) e
      · rw [if_pos c3]
        exact ⟨hs, mid (some (B + 1 - over)) (by show a < _; omega) (fun t g => Below.mono (Int.le_of_lt g) c3) (fun t _ g => g), k _ (up c3)⟩
      · rw [if_neg c3]
        refine ⟨hs, k _ (mid e he (fun _ g => g) fun t _ g => ?_)⟩
        rcases Int.lt_or_le t (B + 1 - over) with z | z
        · exact z
        · exact (c3 (Below.mono z g)).elim
    · rw [if_neg c2]
      have c0 : s = 0 := st.resolve_right c2
      subst c0
      have ext : ∀ e' : Option Int, Below b e' → (∀ t, Below t e' → Below t e) → (∀ t, a ≤ t → Below t e' → t < B + 1 - over) → Seg R (b, v, 0) e' := fun e' h1 h2 h3 => by
        refine ⟨h1, ge, .inl rfl, bg, fun t g1 g2 => ?_⟩
        by_cases z : t < a
        · exact at0 t g1 z
        · refine ⟨?_, fun _ => rfl, fun _ => std t (by omega) (h3 t (by omega) g2) (h2 t g2)⟩
          rw [low t (by omega) (h3 t (by omega) g2) (h2 t g2)]
          show B = v + 0 * _
          omega
      by_cases c3 : Below (B + 1 - over) e
      · rw [if_pos c3]
        exact ⟨ext (some (B + 1 - over)) (by show b < _; omega) (fun t g => Below.mono (Int.le_of_lt g) c3) (fun t _ g => g), k _ (up c3)⟩
      · rw [if_neg c3]
        refine k _ (ext e (Below.mono (by omega) he) (fun _ g => g) fun t _ g => ?_)
        rcases Int.lt_or_le t (B + 1 - over) with z | z
        · exact z
        · exact (c3 (Below.mono z g)).elim
/-! ### promises -/
end CFRu

set_option Elab.async false
set_option linter.all false
set_option maxRecDepth 100000
set_option maxHeartbeats 4000000
/-! CFWd: words of the laws: the promise -/
namespace CFWd
open PySem PySem.Spec PyProof.Rows L2 DL CFH
def signs : Str := "abcdefghijklmnopqrstuvwxyz0123456789"
theorem sg_len : signs.cps.toList.length = 36 := by decide +kernel
theorem sg_sz : signs.length ≤ sizeLine := by
  have : signs.length = 36 := by decide +kernel
  rw [this, sizeLine_eq]; decide
structure WordOk (x : Str) : Prop where
  l1 : 1 ≤ x.length
  l8 : x.length ≤ 8
  sg : ∀ c ∈ x.cps.toList, c ∈ signs.cps.toList
structure WsOk (ws : List Str) : Prop where
  nd : ws.Nodup
  ok : ∀ w ∈ ws, WordOk w
  /-- they differ at one place -/
  ap : ∃ a : Nat, (∀ w ∈ ws, (w.cps.toList[a]?).isSome = true) ∧ ws.Pairwise fun x y => x.cps.toList[a]? ≠ y.cps.toList[a]?
def sgAt (j : Nat) : Nat := signs.cps.toList.getD j 0
theorem sg_at {j : Nat} (h : j < 36) : signs.cps.toList[j]? = some (sgAt j) := by
  unfold sgAt
  rw [List.getD_eq_getElem?_getD, List.getElem?_eq_getElem (by rw [sg_len]; exact h)]
  rfl
theorem sg_mem {j : Nat} (h : j < 36) : sgAt j ∈ signs.cps.toList := List.mem_of_getElem? (sg_at h)
theorem sg_inj' : ∀ i < 36, ∀ j < 36, sgAt i = sgAt j → i = j := by decide +kernel
theorem sg_inj {i j : Nat} (hi : i < 36) (hj : j < 36) (h : sgAt i = sgAt j) : i = j := sg_inj' i hi j hj h
def wordL (c a b : Nat) (short : Bool) (b0 st k : Nat) : List Nat := List.replicate a c ++ [sgAt ((b0 + st * k) % 36)] ++ (if short = true ∧ k % 2 = 1 then [] else List.replicate b c)
theorem word_ok {c a b : Nat} {short : Bool} {b0 st k : Nat} (hc : c ∈ signs.cps.toList) (hl : a + b ≤ 7) : WordOk (T (wordL c a b short b0 st k)) := by
  unfold wordL
  refine ⟨?_, ?_, ?_⟩
  · rw [T_len]; simp only [List.length_append, List.length_cons, List.length_nil]; omega
  · rw [T_len]; split <;> simp <;> omega
  · rw [T_list]
    intro z hz
    rcases List.mem_append.mp hz with hz | hz
    · rcases List.mem_append.mp hz with hz | hz
      · rw [List.eq_of_mem_replicate hz]; exact hc
      · rw [List.mem_singleton.mp hz]; exact sg_mem (Nat.mod_lt _ (by decide))
    · split at hz
      · cases hz
      · rw [List.eq_of_mem_replicate hz]; exact hc
theorem word_inj {c a b : Nat} {short : Bool} {b0 st k k' : Nat} (hs : st = 1 ∨ st = 5 ∨ st = 7 ∨ st = 11 ∨ st = 13 ∨ st = 17) (hk : k < 36) (hk' : k' < 36) (h : wordL c a b short b0 st k = wordL c a b short b0 st k') : k = k' := by
  have g : ∀ k, (wordL c a b short b0 st k)[a]? = some (sgAt ((b0 + st * k) % 36)) := fun k => by
    unfold wordL
    rw [List.append_assoc, List.getElem?_append_right (by simp)]
    simp
  have e := g k
  rw [h, g k'] at e
  have e2 := sg_inj (Nat.mod_lt _ (by decide)) (Nat.mod_lt _ (by decide)) (Option.some.inj e)
  rcases hs with rfl | rfl | rfl | rfl | rfl | rfl <;> omega
theorem words_ok {c a b : Nat} {short : Bool} {b0 st n : Nat} (hs : st = 1 ∨ st = 5 ∨ st = 7 ∨ st = 11 ∨ st = 13 ∨ st = 17) (hn : n ≤ 36) (hc : c ∈ signs.cps.toList) (hl : a + b ≤ 7) : WsOk ((List.range n).map fun k => T (wordL c a b short b0 st k)) := by
  have g : ∀ k, (T (wordL c a b short b0 st k)).cps.toList[a]? = some (sgAt ((b0 + st * k) % 36)) := fun k => by
    show (wordL c a b short b0 st k).toArray.toList[a]? = _
    unfold wordL
    rw [List.append_assoc, List.toList_toArray, List.getElem?_append_right (by simp)]
    simp
  refine ⟨?_, fun w hw => ?_, a, fun w hw => ?_, ?_⟩
  · refine List.pairwise_map.mpr ((show (List.range n).Pairwise (· ≠ ·) from List.nodup_range).imp_of_mem fun {x y} hx hy z e => z (word_inj hs ?_ ?_ (T_inj e)))
    · have := List.mem_range.mp hx; omega
    · have := List.mem_range.mp hy; omega
  · obtain ⟨k, _, rfl⟩ := List.mem_map.mp hw
    exact word_ok hc hl
  · obtain ⟨k, _, rfl⟩ := List.mem_map.mp hw
    rw [g]
    rfl
  · refine List.pairwise_map.mpr ((show (List.range n).Pairwise (· ≠ ·) from List.nodup_range).imp_of_mem fun {x y} hx hy z e => z ?_)
    have kx := List.mem_range.mp hx
    have ky := List.mem_range.mp hy
    rw [g, g] at e
    have e2 := sg_inj (Nat.mod_lt _ (by decide)) (Nat.mod_lt _ (by decide)) (Option.some.inj e)
    rcases hs with rfl | rfl | rfl | rfl | rfl | rfl <;> omega
theorem WsOk.take {ws : List Str} (h : WsOk ws) (k : Nat) : WsOk (ws.take k) := by
  obtain ⟨a, h1, h2⟩ := h.ap
  exact ⟨h.nd.sublist (List.take_sublist _ _), fun w hw => h.ok w (List.mem_of_mem_take hw), a, fun w hw => h1 w (List.mem_of_mem_take hw), h2.sublist (List.take_sublist _ _)⟩
def S_law_words : SpD := fun as Q _ => ∃ (h : Hd) (n : Nat) (m : Int), as = [hc h, .v (.int m)] ∧ h.ok n ∧ n ≤ 800000 ∧ 0 ≤ m ∧ m ≤ 36 ∧ ∀ (h' : Hd) (ws : List Str), h'.ok (n + 10) → (ws.length : Int) = m → WsOk ws → Q (.own 0 (.lst (ws.map PyData.str))) [hc h', .v (.int m)]
theorem len_law_words : ∀ as QD ED, S_law_words as QD ED → as.length = 2 := by
  rintro as QD ED ⟨_, _, _, rfl, _⟩
  rfl
end CFWd

set_option Elab.async false
set_option linter.all false
set_option maxRecDepth 100000
set_option maxHeartbeats 4000000
/-! CFCh: the laws' helpers about the clock -/
namespace CFCh
open PySem PySem.Spec PyProof.Rows L2 DL CFH CFCl
end CFCh

set_option Elab.async false
set_option linter.all false
set_option maxRecDepth 100000
set_option maxHeartbeats 4000000
/-! CFBk: turns, layers, changes, books as data -/
namespace CFBk
open PySem PySem.Spec PyProof.Rows L2 DL CFH CFCl CFRu CFWd
abbrev Trn := Int × Int × Str
@[reducible] def trnD (t : Trn) : D := .tuple [.int t.1, .int t.2.1, .str t.2.2]
@[reducible] def trnsD (ts : List Trn) : D := .tuple (ts.map trnD)
structure Lyr where
  word : Str
  start : Int
  days : Int
  turns : List Trn
@[reducible] def lyrD (l : Lyr) : D := .tuple [.str l.word, .int l.start, .int l.days, trnsD l.turns]
@[reducible] def lyrsD (ls : List Lyr) : D := .tuple (ls.map lyrD)
def TrnsOk (most : Int) : Int → List Trn → Prop
  | _, [] => True
  | lo, t :: ts => lo ≤ t.1 ∧ t.1 < t.2.1 ∧ t.2.1 ≤ most ∧ WordOk t.2.2 ∧ TrnsOk most t.2.1 ts
structure LyrOk (l : Lyr) : Prop where
  wd : WordOk l.word
  d1 : 1 ≤ l.days
  d60 : l.days ≤ 60
  s0 : 0 ≤ l.start
  s1 : l.start < 1440 * l.days
  n12 : l.turns.length ≤ 12
  ts : TrnsOk (1440 * l.days) 0 l.turns
theorem lf_trns {ts : List Trn} : lfree (trnsD ts) = true := lfree_tup fun d hd => by
  obtain ⟨x, _, rfl⟩ := List.mem_map.mp hd
  rfl
theorem lf_lyr0 {l : Lyr} : lfree (lyrD l) = true := lfree_tup fun d hd => by
  simp only [List.mem_cons, List.not_mem_nil, or_false] at hd
  rcases hd with rfl | rfl | rfl | rfl
  · rfl
  · rfl
  · rfl
  · exact lf_trns
theorem lf_lyr {l : Lyr} : C.lf (.v (lyrD l)) = true := lf_lyr0
theorem lf_lyrs {ls : List Lyr} : lfree (lyrsD ls) = true := lfree_tup fun d hd => by
  obtain ⟨x, _, rfl⟩ := List.mem_map.mp hd
  exact lf_lyr0
inductive Chg where
  | away (h : Str) (b : Int) (e : Option Int)
  | on (h : Str) (b : Int) (e : Option Int)
  | stand (h o : Str) (b : Int) (e : Option Int)
def Chg.b : Chg → Int
  | away _ b _ => b
  | on _ b _ => b
  | stand _ _ b _ => b
def Chg.e : Chg → Option Int
  | away _ _ e => e
  | on _ _ e => e
  | stand _ _ _ e => e
def Chg.h : Chg → Str
  | away h _ _ => h
  | on h _ _ => h
  | stand h _ _ _ => h
def Chg.kind : Chg → Str
  | away _ _ _ => "away"
  | on _ _ _ => "on"
  | stand _ _ _ _ => "for"
def chgL : Chg → List D
  | .away h b e => [.str "away", .str h, .int b, optD e]
  | .on h b e => [.str "on", .str h, .int b, optD e]
  | .stand h o b e => [.str "for", .str h, .str o, .int b, optD e]
@[reducible] def chgD (c : Chg) : D := .tuple (chgL c)
@[reducible] def chgsD (cs : List Chg) : D := .tuple (cs.map chgD)
def Chg.Hands (c : Chg) (p : Str → Prop) : Prop := match c with
  | away h _ _ => p h
  | on h _ _ => p h
  | stand h o _ _ => p h ∧ p o ∧ h ≠ o
structure ChgOk (c : Chg) : Prop where
  hs : c.Hands WordOk
  b0 : 0 ≤ c.b
  b1 : c.b < big
  e1 : ∀ e, c.e = some e → c.b < e ∧ e < big
structure Bk where
  js : List Pr
  ls : List Lyr
  cs : List Chg
end CFBk

set_option Elab.async false
set_option linter.all false
set_option maxRecDepth 100000
set_option maxHeartbeats 4000000
/-! CFCg: a drawn change -/
namespace CFCg
open PySem PySem.Spec PyProof.Rows L2 DL CFH CFCl CFRu CFWd CFBk
abbrev wsD (ws : List Str) : D := .list (ws.map PyData.str)
end CFCg

set_option Elab.async false
set_option linter.all false
set_option maxRecDepth 100000
set_option maxHeartbeats 4000000
/-! CFLy: a drawn layer -/
namespace CFLy
open PySem PySem.Spec PyProof.Rows L2 DL CFH CFCl CFRu CFWd CFBk CFCg
def S_law_minute : SpD := fun as Q _ => ∃ (h : Hd) (n : Nat) (m : Int), as = [hc h, .v (.int m)] ∧ h.ok n ∧ n ≤ 800000 ∧ 1 ≤ m ∧ m ≤ 1000 ∧ ∀ (h' : Hd) (x : Int), h'.ok (n + 4) → 0 ≤ x → x ≤ 1440 * m → Q (.v (.int x)) [hc h', .v (.int m)]
structure LyrW (l : Lyr) : Prop where
  wd : WordOk l.word
  d1 : 1 ≤ l.days
  d60 : l.days ≤ 60
  s0 : 0 ≤ l.start
  s1 : l.start < 1440 * l.days
  ts : TrnsOk (1440 * l.days) 0 l.turns
def S_law_layer : SpD := fun as Q _ => ∃ (h : Hd) (n : Nat) (wd : Str) (ws : List Str) (days most : Int), as = [hc h, .v (.str wd), .v (wsD ws), .v (.int days), .v (.int most)] ∧ h.ok n ∧ n ≤ 600000 ∧ WordOk wd ∧ 0 < ws.length ∧ ws.length ≤ 1000 ∧ (∀ w ∈ ws, WordOk w) ∧ 1 ≤ days ∧ days ≤ 60 ∧ 0 ≤ most ∧ most ≤ 15 ∧
  ∀ (h' : Hd) (l : Lyr), h'.ok (n + 200) → LyrW l → l.word = wd → l.days = days → (∀ t ∈ l.turns, t.2.2 ∈ ws) → ((l.turns.length : Int) ≤ most ∨ l.turns.length ≤ 1) → Q (.v (lyrD l)) [hc h', .v (.str wd), .v (wsD ws), .v (.int days), .v (.int most)]
theorem minute_i {h : Hd} {n : Nat} {m : Int} {Q E} (o : h.ok n) (hn : n ≤ 800000) (m1 : 1 ≤ m) (m2 : m ≤ 1000) (q : ∀ (h' : Hd) (x : Int), h'.ok (n + 4) → 0 ≤ x → x ≤ 1440 * m → Q (.v (.int x)) [hc h', .v (.int m)]) : S_law_minute [hc h, .v (.int m)] Q E := ⟨h, n, m, rfl, o, hn, m1, m2, q⟩
theorem layer_i {h : Hd} {n : Nat} {wd : Str} {ws : List Str} {days most : Int} {Q E} (o : h.ok n) (hn : n ≤ 600000) (hw : WordOk wd) (w0 : 0 < ws.length) (w1 : ws.length ≤ 1000) (hws : ∀ w ∈ ws, WordOk w) (d1 : 1 ≤ days) (d2 : days ≤ 60) (m0 : 0 ≤ most) (m1 : most ≤ 12)
  (q : ∀ (h' : Hd) (l : Lyr), h'.ok (n + 200) → LyrOk l → l.word = wd → l.days = days → (∀ t ∈ l.turns, t.2.2 ∈ ws) → ((l.turns.length : Int) ≤ most ∨ l.turns.length ≤ 1) → Q (.v (lyrD l)) [hc h', .v (.str wd), .v (wsD ws), .v (.int days), .v (.int most)]) : S_law_layer [hc h, .v (.str wd), .v (wsD ws), .v (.int days), .v (.int most)] Q E := ⟨h, n, wd, ws, days, most, rfl, o, hn, hw, w0, w1, hws, d1, d2, m0, by omega, fun h' l o' w e1 e2 hm hl => q h' l o' ⟨w.wd, w.d1, w.d60, w.s0, w.s1, by omega, w.ts⟩ e1 e2 hm hl⟩
theorem len_law_minute : ∀ as QD ED, S_law_minute as QD ED → as.length = 2 := by
  rintro as QD ED ⟨_, _, _, rfl, _⟩
  rfl
theorem len_law_layer : ∀ as QD ED, S_law_layer as QD ED → as.length = 5 := by
  rintro as QD ED ⟨_, _, _, _, _, _, rfl, _⟩
  rfl
theorem trns_app {most : Int} : ∀ {lo : Int} {ts : List Trn} {t : Trn}, TrnsOk most lo ts → (∀ u ∈ ts, u.2.1 ≤ t.1) → lo ≤ t.1 → t.1 < t.2.1 → t.2.1 ≤ most → WordOk t.2.2 → TrnsOk most lo (ts ++ [t])
  | _, [], _, _, _, h1, h2, h3, h4 => ⟨h1, h2, h3, h4, trivial⟩
  | _, u :: ts, t, h, hu, h1, h2, h3, h4 => ⟨h.1, h.2.1, h.2.2.1, h.2.2.2.1, trns_app h.2.2.2.2 (fun v hv => hu v (.tail _ hv)) (hu u (.head _)) h2 h3 h4⟩
end CFLy

set_option Elab.async false
set_option linter.all false
set_option maxRecDepth 100000
set_option maxHeartbeats 4000000
/-! CFLs: drawn layers -/
namespace CFLs
open PySem PySem.Spec PyProof.Rows L2 DL CFH CFCl CFRu CFWd CFBk CFCg CFLy
def menus : Bool → List (List Int)
  | false => [[1, 2, 3, 4, 6, 12], [7], [1, 2], [1, 7], [2, 5, 10], [3, 9]]
  | true => [[1, 2, 3, 4, 6, 12], [7, 14, 28], [1, 2, 4, 7, 14, 28], [3, 5, 15, 30, 60], [8, 9], [5, 11]]
theorem menus_ok : ∀ b : Bool, ∀ m ∈ menus b, 0 < m.length ∧ m.length ≤ 6 ∧ ∀ x ∈ m, 1 ≤ x ∧ x ≤ 60 := by decide
structure LsOk (bg : Bool) (ws : List Str) (ls : List Lyr) : Prop where
  l4 : ls.length ≤ 4
  ok : ∀ l ∈ ls, LyrOk l
  wd : (ls.map (·.word)).Nodup
  hs : ∀ l ∈ ls, ∀ t ∈ l.turns, t.2.2 ∈ ws
  mn : ∃ m ∈ menus bg, ∀ l ∈ ls, l.days ∈ m
  tn : ∀ l ∈ ls, l.turns.length * ls.length ≤ if bg then 12 else 6
def S_law_layers : SpD := fun as Q _ => ∃ (h : Hd) (n : Nat) (ws : List Str) (bg : Bool), as = [hc h, .v (wsD ws), .v (.bool bg)] ∧ h.ok n ∧ n ≤ 500000 ∧ 0 < ws.length ∧ ws.length ≤ 1000 ∧ (∀ w ∈ ws, WordOk w) ∧
  ∀ (h' : Hd) (ls : List Lyr), h'.ok (n + 1000) → LsOk bg ws ls → Q (.v (lyrsD ls)) [hc h', .v (wsD ws), .v (.bool bg)]
theorem layers_i {h : Hd} {n : Nat} {ws : List Str} {bg : Bool} {Q E} (o : h.ok n) (hn : n ≤ 500000) (w0 : 0 < ws.length) (w1 : ws.length ≤ 1000) (hws : ∀ w ∈ ws, WordOk w)
  (q : ∀ (h' : Hd) (ls : List Lyr), h'.ok (n + 1000) → LsOk bg ws ls → Q (.v (lyrsD ls)) [hc h', .v (wsD ws), .v (.bool bg)]) : S_law_layers [hc h, .v (wsD ws), .v (.bool bg)] Q E := ⟨h, n, ws, bg, rfl, o, hn, w0, w1, hws, q⟩
theorem len_law_layers : ∀ as QD ED, S_law_layers as QD ED → as.length = 3 := by
  rintro as QD ED ⟨_, _, _, _, rfl, _⟩
  rfl
end CFLs

set_option Elab.async false
set_option linter.all false
set_option maxRecDepth 100000
set_option maxHeartbeats 4000000
/-! CFTu: turns of numbers -/
namespace CFTu
open PySem PySem.Spec PyProof.Rows L2 DL CFH CFCl CFRu CFWd CFBk
def turnG (p : Int) : Nat → List Trn → Option Nat
  | _, [] => none
  | j, t :: ts => if t.1 ≤ p ∧ p < t.2.1 then some j else turnG p (j + 1) ts
@[reducible] def optN : Option Nat → D
  | none => .none
  | some j => .int (j : Nat)
def placeL (l : Lyr) (r : Int) : Int := (r - l.start) % (1440 * l.days)
def turnL (l : Lyr) (r : Int) : Option Nat := turnG (placeL l r) 0 l.turns
theorem turnG_some {p : Int} : ∀ {ts : List Trn} {j k : Nat}, turnG p j ts = some k → ∃ i t, k = j + i ∧ ts[i]? = some t ∧ t.1 ≤ p ∧ p < t.2.1
  | t :: ts, j, k, h => by
    unfold turnG at h
    split at h
    · rename_i z
      cases h
      exact ⟨0, t, rfl, rfl, z⟩
    · obtain ⟨i, t', e, g, z⟩ := turnG_some h
      exact ⟨i + 1, t', by omega, by simpa using g, z⟩
def S_place_of : SpD := fun as Q _ => ∃ (l : Lyr) (r : Int), as = [.v (lyrD l), .v (.int r)] ∧ 1 ≤ l.days ∧ Q (.v (.int (placeL l r))) as
def S_turn_at : SpD := fun as Q _ => ∃ (l : Lyr) (r : Int), as = [.v (lyrD l), .v (.int r)] ∧ 1 ≤ l.days ∧ l.turns.length ≤ 1000 ∧ Q (.v (optN (turnL l r))) as
theorem place_i {l : Lyr} {r : Int} {Q E} (h : 1 ≤ l.days) (q : Q (.v (.int (placeL l r))) [.v (lyrD l), .v (.int r)]) : S_place_of [.v (lyrD l), .v (.int r)] Q E := ⟨l, r, rfl, h, q⟩
theorem turn_i {l : Lyr} {r : Int} {Q E} (h : 1 ≤ l.days) (hl : l.turns.length ≤ 1000) (q : Q (.v (optN (turnL l r))) [.v (lyrD l), .v (.int r)]) : S_turn_at [.v (lyrD l), .v (.int r)] Q E := ⟨l, r, rfl, h, hl, q⟩
theorem len_place_of : ∀ as QD ED, S_place_of as QD ED → as.length = 2 := by
  rintro as QD ED ⟨_, _, rfl, _⟩
  rfl
theorem len_turn_at : ∀ as QD ED, S_turn_at as QD ED → as.length = 2 := by
  rintro as QD ED ⟨_, _, rfl, _⟩
  rfl
end CFTu

set_option Elab.async false
set_option linter.all false
set_option maxRecDepth 100000
set_option maxHeartbeats 4000000
/-! CFRa: first_from, how_many -/
namespace CFRa
open PySem PySem.Spec PyProof.Rows L2 DL CFH
@[reducible] def ff (rest by_ low : Int) : Int := low + (rest - low) % by_
def hm (rest by_ low high : Int) : Int := if high ≤ ff rest by_ low then 0 else (high - 1 - ff rest by_ low) / by_ + 1
/-! the plain law -/
end CFRa

set_option Elab.async false
set_option linter.all false
set_option maxRecDepth 100000
set_option maxHeartbeats 4000000
/-! CFRb: gcd, inverse, agree, clash_of, joined: promises and their mathematics -/
namespace CFRb
open PySem PySem.Spec PyProof.Rows L2 DL CFH
def zg (a b : Int) : Int := ((Int.gcd a b : Nat) : Int)
def zl (a b : Int) : Int := ((Int.lcm a b : Nat) : Int)
def Sm (x : Int) : Prop := x.natAbs < 2 ^ 8900
theorem Sm.log {x : Int} (h : Sm x) : x.natAbs.log2 < 9000 := log2_lt h (by decide) (by decide)
theorem Sm.of_le {x y : Int} (h : Sm y) (l : x.natAbs ≤ y.natAbs) : Sm x := Nat.lt_of_le_of_lt l h
theorem Sm.of {x y : Int} (h : Sm y) (h0 : 0 ≤ x) (l : x ≤ y) : Sm x := h.of_le (by omega)
theorem bits_of {x : Int} {k : Nat} (h : x.natAbs < 2 ^ k) : Builtin.Int.intBits x ≤ k := intBits_le_iff.mpr h
theorem mul_of {a b : Int} {k l : Nat} (ha : a.natAbs < 2 ^ k) (hb : b.natAbs < 2 ^ l) (h : k ≤ 2 ^ 20) (h' : l ≤ 2 ^ 20) : MulOk a b := IntMulOk.of_bits (Nat.le_trans (bits_of ha) h) (Nat.le_trans (bits_of hb) h')
theorem Sm.mul {a b : Int} (ha : Sm a) (hb : Sm b) : MulOk a b := mul_of ha hb (by decide) (by decide)
theorem Sm.big {x : Int} (h0 : 0 ≤ x) (h : x ≤ big) : Sm x := by
  have e : (2 : Nat) ^ 200 ≤ 2 ^ 8900 := Nat.pow_le_pow_right (by decide) (by decide)
  refine Nat.lt_of_lt_of_le (m := 2 ^ 200) ?_ e
  unfold CFH.big at h
  omega

theorem zg_left (a b : Int) : zg a b ∣ a := Int.gcd_dvd_left a b
theorem zg_right (a b : Int) : zg a b ∣ b := Int.gcd_dvd_right a b
theorem zg_pos {a b : Int} (h : 0 < b) : 0 < zg a b := by
  have := Int.gcd_pos_of_ne_zero_right a (show b ≠ 0 by omega)
  unfold zg; omega
theorem zg_le {a b : Int} (h : 0 < b) : zg a b ≤ b := Int.le_of_dvd h (zg_right a b)
theorem zg_mod {a b : Int} : Int.gcd b (a % b) = Int.gcd a b := by
  have e : a % b = a - b * (a / b) := by have := Int.emod_add_mul_ediv a b; omega
  rw [e, Int.gcd_sub_mul_left_right, Int.gcd_comm]
theorem zl_left (a b : Int) : a ∣ zl a b := Int.dvd_lcm_left a b
theorem zl_right (a b : Int) : b ∣ zl a b := Int.dvd_lcm_right a b
theorem zl_dvd {a b c : Int} (h : a ∣ c) (h' : b ∣ c) : zl a b ∣ c := Int.coe_lcm_dvd h h'
theorem zl_pos {a b : Int} (h : 0 < a) (h' : 0 < b) : 0 < zl a b := by
  have e : zl a b ≠ 0 := fun z => by
    have q : Nat.lcm a.natAbs b.natAbs = 0 := by unfold zl at z; exact Int.ofNat.inj z
    have := Nat.lcm_pos (show 0 < a.natAbs by omega) (show 0 < b.natAbs by omega)
    omega
  unfold zl at e ⊢; omega
theorem zl_mul {a b : Int} (h : 0 < a) (h' : 0 < b) : zl a b = a / zg a b * b := by
  have p := zg_pos (a := a) h'
  have q : zg a b * zl a b = a * b := by
    have := Int.gcd_mul_lcm a b
    unfold zg zl
    have e : ((Int.gcd a b * Int.lcm a b : Nat) : Int) = ((a.natAbs * b.natAbs : Nat) : Int) := by rw [this]
    rw [Int.natCast_mul, Int.natCast_mul] at e
    rw [e, Int.natAbs_of_nonneg (by omega), Int.natAbs_of_nonneg (by omega)]
  obtain ⟨k, hk⟩ := zg_left a b
  have e1 : a / zg a b = k := by
    conv => lhs; lhs; rw [hk]
    exact Int.mul_ediv_cancel_left k (by omega)
  rw [e1]
  have : zg a b * zl a b = zg a b * (k * b) := by rw [q, ← Int.mul_assoc, ← hk]
  exact Int.eq_of_mul_eq_mul_left (by omega) this
theorem zl_mul2 {a b : Int} (h : 0 < a) (h' : 0 < b) : zl a b = a * (b / zg a b) := by
  have e : zl a b = zl b a := by unfold zl; rw [Int.lcm_comm]
  have e2 : zg a b = zg b a := by unfold zg; rw [Int.gcd_comm]
  rw [e, zl_mul h' h, e2, Int.mul_comm]
theorem nat_distrib {a b c d : Nat} (hc : 0 < c) (h1 : Nat.gcd a c ∣ d) (h2 : Nat.gcd b c ∣ d) : Nat.gcd (Nat.lcm a b) c ∣ d := by
  have w0 : 0 < Nat.gcd (Nat.gcd a b) c := Nat.gcd_pos_of_pos_right _ hc
  have ew : Nat.gcd (Nat.gcd a c) (Nat.gcd b c) = Nat.gcd (Nat.gcd a b) c := by
    apply Nat.dvd_antisymm
    · refine Nat.dvd_gcd (Nat.dvd_gcd ?_ ?_) ?_
      · exact Nat.dvd_trans (Nat.gcd_dvd_left _ _) (Nat.gcd_dvd_left _ _)
      · exact Nat.dvd_trans (Nat.gcd_dvd_right _ _) (Nat.gcd_dvd_left _ _)
      · exact Nat.dvd_trans (Nat.gcd_dvd_right _ _) (Nat.gcd_dvd_right _ _)
    · refine Nat.dvd_gcd (Nat.dvd_gcd ?_ ?_) (Nat.dvd_gcd ?_ ?_)
      · exact Nat.dvd_trans (Nat.gcd_dvd_left _ _) (Nat.gcd_dvd_left _ _)
      · exact Nat.gcd_dvd_right _ _
      · exact Nat.dvd_trans (Nat.gcd_dvd_left _ _) (Nat.gcd_dvd_right _ _)
      · exact Nat.gcd_dvd_right _ _
  have l1 : Nat.gcd (Nat.lcm a b) c ∣ c := Nat.gcd_dvd_right _ _
  have l2 : Nat.gcd (Nat.lcm a b) c ∣ Nat.lcm a b := Nat.gcd_dvd_left _ _
  have g1 : Nat.gcd (Nat.gcd a b) c ∣ a := Nat.dvd_trans (Nat.gcd_dvd_left _ _) (Nat.gcd_dvd_left _ _)
  have g2 : Nat.gcd (Nat.gcd a b) c ∣ b := Nat.dvd_trans (Nat.gcd_dvd_left _ _) (Nat.gcd_dvd_right _ _)
  have g3 : Nat.gcd (Nat.gcd a b) c ∣ c := Nat.gcd_dvd_right _ _
  have key : Nat.gcd (Nat.lcm a b) c * Nat.gcd (Nat.gcd a b) c ∣ Nat.gcd a c * Nat.gcd b c := by
    have er : Nat.gcd a c * Nat.gcd b c = Nat.gcd (Nat.gcd (a * b) (c * b)) (Nat.gcd (a * c) (c * c)) := by rw [Nat.gcd_mul_right, Nat.gcd_mul_right, Nat.gcd_mul_left]
    rw [er]
    refine Nat.dvd_gcd (Nat.dvd_gcd ?_ ?_) (Nat.dvd_gcd ?_ ?_)
    · have := Nat.mul_dvd_mul l2 (Nat.gcd_dvd_left (Nat.gcd a b) c)
      rw [Nat.mul_comm (Nat.lcm a b), Nat.gcd_mul_lcm] at this
      exact this
    · exact Nat.mul_dvd_mul l1 g2
    · rw [Nat.mul_comm a c]; exact Nat.mul_dvd_mul l1 g1
    · exact Nat.mul_dvd_mul l1 g3
  rw [← Nat.gcd_mul_lcm (Nat.gcd a c) (Nat.gcd b c), ew, Nat.mul_comm] at key
  exact Nat.dvd_trans (Nat.dvd_of_mul_dvd_mul_left w0 key) (Nat.lcm_dvd h1 h2)
theorem zg_distrib {a b c d : Int} (hc : 0 < c) (h1 : zg a c ∣ d) (h2 : zg b c ∣ d) : zg (zl a b) c ∣ d := by
  unfold zg at h1 h2 ⊢
  rw [Int.ofNat_dvd_left] at h1 h2 ⊢
  exact nat_distrib (c := c.natAbs) (by omega) h1 h2

/-! ### pairs -/
abbrev Pr := Int × Int
@[reducible] def cplD (p : Pr) : D := .tuple [.int p.1, .int p.2]
@[reducible] def psD (ps : List Pr) : D := .tuple (ps.map cplD)
def Lf (l : Int) (ps : List Pr) : Int := ps.foldl (fun l p => zl l p.2) l
abbrev Lp (ps : List Pr) : Int := Lf 1 ps
def agr (p q : Pr) : Bool := decide ((p.1 - q.1) % zg p.2 q.2 = 0)
theorem agr_iff {p q : Pr} : agr p q = true ↔ zg p.2 q.2 ∣ p.1 - q.1 := by
  unfold agr
  rw [decide_eq_true_eq, ← Int.dvd_iff_emod_eq_zero]
def OkP (p : Pr) : Prop := 0 ≤ p.1 ∧ p.1 < p.2
def Sol (ps : List Pr) (r : Int) : Prop := ∀ p ∈ ps, p.2 ∣ r - p.1
theorem Lf_app {l : Int} {ps qs : List Pr} : Lf l (ps ++ qs) = Lf (Lf l ps) qs := List.foldl_append
theorem Lf_self : ∀ {l : Int} {ps : List Pr}, l ∣ Lf l ps
  | l, [] => Int.dvd_refl l
  | l, p :: ps => Int.dvd_trans (zl_left l p.2) Lf_self
theorem Lf_mem : ∀ {l : Int} {ps : List Pr}, ∀ p ∈ ps, p.2 ∣ Lf l ps
  | l, q :: ps, p, h => by
    rcases List.mem_cons.mp h with e | h
    · subst e; exact Int.dvd_trans (zl_right l p.2) Lf_self
    · exact Lf_mem (l := zl l q.2) p h
theorem Lf_pos : ∀ {l : Int} {ps : List Pr}, 0 < l → (∀ p ∈ ps, OkP p) → 0 < Lf l ps
  | l, [], h, _ => h
  | l, p :: ps, h, hp => Lf_pos (l := zl l p.2) (zl_pos h (by have := hp p (.head _); unfold OkP at this; omega)) fun q hq => hp q (.tail _ hq)
theorem Lf_zg : ∀ {l c d : Int} {ps : List Pr}, 0 < c → zg l c ∣ d → (∀ p ∈ ps, zg p.2 c ∣ d) → zg (Lf l ps) c ∣ d
  | l, c, d, [], _, h, _ => h
  | l, c, d, p :: ps, hc, h, hp => Lf_zg (l := zl l p.2) hc (zg_distrib hc h (hp p (.head _))) fun q hq => hp q (.tail _ hq)
theorem dvd_sub3 {g a b c : Int} (h : g ∣ a - b) (h' : g ∣ b - c) : g ∣ a - c := by
  have e : a - c = (a - b) + (b - c) := by omega
  rw [e]; exact Int.dvd_add h h'
theorem dvd_sub_comm {g a b : Int} (h : g ∣ a - b) : g ∣ b - a := by
  have e : b - a = -(a - b) := by omega
  rw [e]; exact Int.dvd_neg.mpr h
theorem agree_all {ps : List Pr} {q : Pr} {r : Int} (hq : 0 < q.2) (hs : Sol ps r) (h : ∀ p ∈ ps, agr p q = true) : agr (r, Lp ps) q = true := by
  refine agr_iff.mpr (Lf_zg hq ?_ fun p hp => ?_)
  · have e : zg 1 q.2 = 1 := by unfold zg; rw [Int.one_gcd]; rfl
    rw [e]; exact Int.one_dvd _
  · exact dvd_sub3 (Int.dvd_trans (zg_left p.2 q.2) (hs p hp)) (agr_iff.mp (h p hp))
theorem step_sol {ps : List Pr} {q : Pr} {r o x : Int} (hs : Sol ps r) (ha : agr (r, Lp ps) q = true) (hl : 0 < Lp ps) (hq : OkP q)
    (hx : q.2 / zg (Lp ps) q.2 ∣ Lp ps / zg (Lp ps) q.2 * x - 1) (ho : q.2 / zg (Lp ps) q.2 ∣ (q.1 - r) / zg (Lp ps) q.2 * x - o) : Sol (ps ++ [q]) (r + Lp ps * o) := by
  have hq2 : 0 < q.2 := by unfold OkP at hq; omega
  have gp := zg_pos (a := Lp ps) hq2
  generalize hg : zg (Lp ps) q.2 = g at *
  obtain ⟨t, ht⟩ : g ∣ q.1 - r := dvd_sub_comm (by have := agr_iff.mp ha; rw [← hg]; exact this)
  obtain ⟨b, hb⟩ : g ∣ Lp ps := by rw [← hg]; exact zg_left _ _
  obtain ⟨s, hs2⟩ : g ∣ q.2 := by rw [← hg]; exact zg_right _ _
  have e1 : q.2 / g = s := by rw [hs2]; exact Int.mul_ediv_cancel_left s (by omega)
  have e2 : Lp ps / g = b := by rw [hb]; exact Int.mul_ediv_cancel_left b (by omega)
  have e3 : (q.1 - r) / g = t := by rw [ht]; exact Int.mul_ediv_cancel_left t (by omega)
  rw [e1, e2] at hx
  rw [e1, e3] at ho
  intro p hp
  rcases List.mem_append.mp hp with h | h
  · have e : r + Lp ps * o - p.1 = (r - p.1) + Lp ps * o := by omega
    rw [e]
    exact Int.dvd_add (hs p h) (Int.dvd_trans (Lf_mem p h) (Int.dvd_mul_right _ _))
  · rw [List.mem_singleton.mp h]
    obtain ⟨u, hu⟩ := hx
    obtain ⟨v, hv⟩ := ho
    -- b * o - t = s * (..)
    refine ⟨t * u - b * v, ?_⟩
    have k1 : r + Lp ps * o - q.1 = g * (b * o - t) := by
      rw [Int.mul_sub, ← ht, hb, Int.mul_assoc]; omega
    have k2 : b * o - t = s * (t * u - b * v) := by
      have m1 : t * (b * x - 1) = t * (s * u) := by rw [hu]
      have m2 : b * (t * x - o) = b * (s * v) := by rw [hv]
      have m3 : t * (b * x) = b * (t * x) := by rw [← Int.mul_assoc, ← Int.mul_assoc, Int.mul_comm t b]
      have m4 : s * (t * u - b * v) = t * (s * u) - b * (s * v) := by
        rw [Int.mul_sub, ← Int.mul_assoc, ← Int.mul_assoc, ← Int.mul_assoc, ← Int.mul_assoc, Int.mul_comm s t, Int.mul_comm s b]
      rw [Int.mul_sub, Int.mul_one] at m1
      rw [Int.mul_sub] at m2
      omega
    rw [k1, k2, ← Int.mul_assoc, ← hs2]
theorem Lp_snoc {ps : List Pr} {q : Pr} : Lp (ps ++ [q]) = zl (Lp ps) q.2 := by unfold Lp; rw [Lf_app]; rfl
theorem Lp_pre {ps qs : List Pr} : Lp ps ∣ Lp (ps ++ qs) := by unfold Lp; rw [Lf_app]; exact Lf_self
theorem gcd_parts {a b : Int} (h : 0 < b) : Int.gcd (a / zg a b) (b / zg a b) = 1 := by
  have := Int.gcd_pos_of_ne_zero_right a (show b ≠ 0 by omega)
  exact Int.gcd_ediv_gcd_ediv_gcd this
/-! ### promises -/
def S_gcd : SpD := fun as Q _ => ∃ a b : Int, as = [.v (.int a), .v (.int b)] ∧ 0 ≤ a ∧ 0 ≤ b ∧ Q (.v (.int (zg a b))) as
def S_inverse : SpD := fun as Q _ => ∃ a m : Int, as = [.v (.int a), .v (.int m)] ∧ 0 < m ∧ Int.gcd a m = 1 ∧ Sm m ∧ ∀ x, 0 ≤ x → x < m → m ∣ a * x - 1 → Q (.v (.int x)) as
def S_agree : SpD := fun as Q _ => ∃ p q : Pr, as = [.v (cplD p), .v (cplD q)] ∧ 0 ≤ p.2 ∧ 0 < q.2 ∧ Q (.v (.bool (agr p q))) as
@[reducible] def clashD (i j : Int) : D := .tuple [.str "clash", .int i, .int j]
@[reducible] def allD (r m : Int) : D := .tuple [.str "all", .int r, .int m]
def S_clash_of : SpD := fun as Q _ => ∃ (ps : List Pr) (j i0 : Nat) (p q : Pr), as = [.v (psD ps), .v (.int (j : Nat))] ∧ (∀ p ∈ ps, OkP p) ∧ ps[j]? = some q ∧ ps[i0]? = some p ∧ i0 < j ∧ agr p q = false ∧
  ∀ (i : Nat) (p' : Pr), i < j → ps[i]? = some p' → agr p' q = false → Q (.v (clashD (i : Nat) (j : Nat))) as
def S_joined : SpD := fun as Q _ => ∃ (ps : List Pr), as = [.v (psD ps)] ∧ (∀ p ∈ ps, OkP p) ∧ Sm (Lp ps) ∧
  (∀ (i j : Nat) (p q : Pr), i < j → ps[i]? = some p → ps[j]? = some q → agr p q = false → Q (.v (clashD (i : Nat) (j : Nat))) as) ∧
  ∀ r, 0 ≤ r → r < Lp ps → Sol ps r → Q (.v (allD r (Lp ps))) as
theorem len_gcd : ∀ as QD ED, S_gcd as QD ED → as.length = 2 := by
  rintro as QD ED ⟨_, _, rfl, _⟩
  rfl
theorem len_inverse : ∀ as QD ED, S_inverse as QD ED → as.length = 2 := by
  rintro as QD ED ⟨_, _, rfl, _⟩
  rfl
theorem len_agree : ∀ as QD ED, S_agree as QD ED → as.length = 2 := by
  rintro as QD ED ⟨_, _, rfl, _⟩
  rfl
theorem len_clash_of : ∀ as QD ED, S_clash_of as QD ED → as.length = 2 := by
  rintro as QD ED ⟨_, _, _, _, _, rfl, _⟩
  rfl
theorem len_joined : ∀ as QD ED, S_joined as QD ED → as.length = 1 := by
  rintro as QD ED ⟨_, rfl, _⟩
  rfl
end CFRb

set_option Elab.async false
set_option linter.all false
set_option maxRecDepth 100000
set_option maxHeartbeats 4000000
/-! CFTd: who is called: told, stand, first -/
namespace CFTd
open PySem PySem.Spec PyProof.Rows L2 DL CFH CFCl CFRu CFWd CFBk CFTu
theorem sg_small : ∀ c ∈ signs.cps.toList, c < 0x110000 := by decide +kernel
theorem word_ok {x : Str} (h : WordOk x) : PyData.canLay0 (.str x) = true := by
  show x.cps.all (· < 0x110000) = true
  rw [Array.all_eq_true]
  intro i hi
  have := sg_small _ (h.sg x.cps[i] (by simp))
  simpa using this
inductive Rw where
  | non (w : Str)
  | turn (h w : Str) (j : Nat)
  | sub (h w : Str) (j k : Nat)
  | on (h : Str) (k : Nat)
  | away (m : Nat) (r : Rw)
def rwL : Rw → List D
  | .non w => [.str "none", .str w]
  | .turn h w j => [.str "turn", .str h, .str w, .int (j : Nat)]
  | .sub h w j k => [.str "for", .str h, .str w, .int (j : Nat), .int (k : Nat)]
  | .on h k => [.str "on", .str h, .int (k : Nat)]
  | .away m r => [.str "away", .int (m : Nat), .tuple (rwL r)]
@[reducible] def rwD (r : Rw) : D := .tuple (rwL r)
def Rw.hand : Rw → Option Str
  | .turn h _ _ => some h
  | .sub h _ _ _ => some h
  | .on h _ => some h
  | _ => none
def Rw.kind : Rw → Str
  | .non _ => "none"
  | .turn _ _ _ => "turn"
  | .sub _ _ _ _ => "for"
  | .on _ _ => "on"
  | .away _ _ => "away"
def Rw.Ok : Rw → Prop
  | .non w => WordOk w
  | .turn h w _ => WordOk h ∧ WordOk w
  | .sub h w _ _ => WordOk h ∧ WordOk w
  | .on h _ => WordOk h
  | .away _ r => r.Ok
theorem Rw.Ok.hand {r : Rw} {h : Str} (o : r.Ok) (e : r.hand = some h) : WordOk h := by
  cases r <;> cases e
  · exact o.1
  · exact o.1
  · exact o
/-! what is told -/
def coversL (c : Chg) (t : Int) : Bool := decide (c.b ≤ t) && (match c.e with
  | none => true
  | some e => decide (t < e))
def covAt (cs : List Chg) (t : Int) (k : Nat) : Bool := match cs[k]? with
  | some c => coversL c t
  | none => false
def coveringL (cs : List Chg) (t : Int) : List Nat := (List.range cs.length).reverse.filter (covAt cs t)
def isAway (cs : List Chg) (h : Str) (k : Nat) : Bool := match cs[k]? with
  | some (.away h' _ _) => decide (h' = h)
  | _ => false
def isStand (cs : List Chg) (h : Str) (k : Nat) : Bool := match cs[k]? with
  | some (.stand _ o _ _) => decide (o = h)
  | _ => false
def onHand (cs : List Chg) (k : Nat) : Option Str := match cs[k]? with
  | some (.on h _ _) => some h
  | _ => none
def handOf (cs : List Chg) (k : Nat) : Option Str := (cs[k]?).map Chg.h
def lookL (cs : List Chg) (ks : List Nat) (r : Rw) (h : Str) : Rw := match ks.find? (isAway cs h) with
  | none => r
  | some m => .away m r
def layerRowL (cs : List Chg) (ks : List Nat) (l : Lyr) (r : Int) : Rw := match turnL l r with
  | none => .non l.word
  | some j => match l.turns[j]? with
    | none => .non l.word
    | some t => match ks.find? (isStand cs t.2.2) with
      | none => lookL cs ks (.turn t.2.2 l.word j) t.2.2
      | some k => match handOf cs k with
        | none => .non l.word
        | some g => lookL cs ks (.sub g l.word j k) g
def onsL (cs : List Chg) (ks : List Nat) : List Rw := ks.filterMap fun k => (onHand cs k).map fun h => lookL cs ks (.on h k) h
def toldL (b : Bk) (t : Int) : List Rw := onsL b.cs (coveringL b.cs t) ++ b.ls.map fun l => layerRowL b.cs (coveringL b.cs t) l (readingL b.js t)
/-! facts -/
/-! promises -/
end CFTd

set_option Elab.async false
set_option linter.all false
set_option maxRecDepth 100000
set_option maxHeartbeats 4000000
/-! CFRd: the laws' reading by the last moments ahead of jumps, one sum kept -/
namespace CFRd
open PySem PySem.Spec PyProof.Rows L2 DL CFH CFCl CFCh
end CFRd

set_option Elab.async false
set_option linter.all false
set_option maxRecDepth 100000
set_option maxHeartbeats 4000000
/-! CFRw: the laws' own rows -/
namespace CFRw
open PySem PySem.Spec PyProof.Rows L2 DL CFH CFCl CFRu CFWd CFBk CFTu CFTd
def gone (cs : List Chg) (ks : List Nat) (r : Rw) : Rw := match r.hand with
  | none => r
  | some h => lookL cs ks r h
def rowOf (cs : List Chg) (ks : List Nat) (w : Str) (t : Trn) (j : Nat) : Rw := match ks.find? (isStand cs t.2.2) with
  | none => .turn t.2.2 w j
  | some k => match handOf cs k with
    | none => .non w
    | some g => .sub g w j k
def rawG (cs : List Chg) (ks : List Nat) (w : Str) (p : Int) : Nat → List Trn → Rw
  | _, [] => .non w
  | j, t :: ts => if t.1 ≤ p ∧ p < t.2.1 then rowOf cs ks w t j else rawG cs ks w p (j + 1) ts
def rawRow (cs : List Chg) (ks : List Nat) (l : Lyr) (r : Int) : Rw := rawG cs ks l.word (placeL l r) 0 l.turns
def onsRaw (cs : List Chg) (ks : List Nat) : List Rw := ks.filterMap fun k => (onHand cs k).map fun h => .on h k
def rawL (b : Bk) (t : Int) : List Rw := onsRaw b.cs (coveringL b.cs t) ++ b.ls.map fun l => rawRow b.cs (coveringL b.cs t) l (readingL b.js t)
end CFRw

set_option Elab.async false
set_option linter.all false
set_option maxRecDepth 100000
set_option maxHeartbeats 4000000
/-! CFLa: what can be laid: changes, rows, layers, books; kinds of changes -/
namespace CFLa
open PySem PySem.Spec PyProof.Rows L2 DL CFH CFCl CFRu CFWd CFBk CFCg CFTu CFTd CFRw
end CFLa

set_option Elab.async false
set_option linter.all false
set_option maxRecDepth 100000
set_option maxHeartbeats 4000000
/-! CFPl: the plain layers of a moment's span -/
namespace CFPl
open PySem PySem.Spec PyProof.Rows L2 DL CFH CFCl CFRu CFWd CFBk CFCg CFTu CFTd CFLa
end CFPl

set_option Elab.async false
set_option linter.all false
set_option maxRecDepth 100000
set_option maxHeartbeats 4000000
/-! CFEd: edges -/
namespace CFEd
open PySem PySem.Spec PyProof.Rows L2 DL CFH CFCl CFRu CFWd CFBk
def ChE (cs : List Chg) (k : Int) : Prop := ∃ c ∈ cs, k = c.b ∨ c.e = some k
structure EsOk (js : List Pr) (cs : List Chg) (es : List Int) : Prop where
  up : es.Pairwise (· < ·)
  mem : ∀ k, k ∈ es ↔ k ∈ (runsL js).map (·.1) ∨ ChE cs k
theorem up_uniq : ∀ {xs ys : List Int}, xs.Pairwise (· < ·) → ys.Pairwise (· < ·) → (∀ k, k ∈ xs ↔ k ∈ ys) → xs = ys
  | [], [], _, _, _ => rfl
  | [], y :: ys, _, _, h => by have := (h y).mpr (.head _); cases this
  | x :: xs, [], _, _, h => by have := (h x).mp (.head _); cases this
  | x :: xs, y :: ys, h1, h2, h => by
    obtain ⟨a1, a2⟩ := List.pairwise_cons.mp h1
    obtain ⟨b1, b2⟩ := List.pairwise_cons.mp h2
    have e : x = y := by
      rcases List.mem_cons.mp ((h x).mp (.head _)) with z | z
      · exact z
      · rcases List.mem_cons.mp ((h y).mpr (.head _)) with z2 | z2
        · exact z2.symm
        · have := b1 x z; have := a1 y z2; omega
    subst e
    rw [up_uniq a2 b2 fun k => ⟨fun hk => ?_, fun hk => ?_⟩]
    · rcases List.mem_cons.mp ((h k).mp (.tail _ hk)) with z | z
      · have := a1 k hk; omega
      · exact z
    · rcases List.mem_cons.mp ((h k).mpr (.tail _ hk)) with z | z
      · have := b1 k hk; omega
      · exact z
theorem EsOk.uniq {js : List Pr} {cs : List Chg} {es es' : List Int} (h : EsOk js cs es) (h' : EsOk js cs es') : es = es' := up_uniq h.up h'.up fun k => (h.mem k).trans (h'.mem k).symm
end CFEd

set_option Elab.async false
set_option linter.all false
set_option maxRecDepth 100000
set_option maxHeartbeats 4000000
/-! CFLe: the laws' own edges; where runs begin -/
namespace CFLe
open PySem PySem.Spec PyProof.Rows L2 DL CFH CFCl CFRu CFWd CFBk CFEd
instance {R : Int → Int} {t : Int} : Decidable (CFRu.St R t) := inferInstanceAs (Decidable (0 < t ∧ R t = R (t - 1)))
instance {R : Int → Int} {t : Int} : Decidable (Beg R t) := inferInstanceAs (Decidable (t = 0 ∨ ¬ (CFRu.St R t ↔ CFRu.St R (t - 1)) ∨ R t > R (t - 1) + 1))
end CFLe

set_option Elab.async false
set_option linter.all false
set_option maxRecDepth 100000
set_option maxHeartbeats 4000000
/-! CFSp: plain spans: what stays alike from edge to edge -/
namespace CFSp
open PySem PySem.Spec PyProof.Rows L2 DL CFH CFCl CFRu CFWd CFBk CFCg CFTu CFTd CFLa CFPl CFEd CFLe
def inP (p : Int) (t : Trn) : Bool := decide (t.1 ≤ p ∧ p < t.2.1)
theorem inP_yes {p : Int} {t : Trn} (h : t.1 ≤ p ∧ p < t.2.1) : inP p t = true := decide_eq_true h
theorem inP_no {p : Int} {t : Trn} (h : ¬ (t.1 ≤ p ∧ p < t.2.1)) : ¬ inP p t = true := by unfold inP; rw [decide_eq_false h]; exact Bool.false_ne_true
end CFSp

set_option Elab.async false
set_option linter.all false
set_option maxRecDepth 100000
set_option maxHeartbeats 4000000
/-! CFLo: lots: who is called, by pieces of the day and rests of its number -/
namespace CFLo
open PySem PySem.Spec PyProof.Rows L2 DL CFH CFCl CFRu CFWd CFBk CFTu CFRb CFSp
/-! ### a layer's hand at a number -/
structure LoOk (l : Lyr) : Prop where
  wd : WordOk l.word
  hs : ∀ u ∈ l.turns, WordOk u.2.2
  d1 : 1 ≤ l.days
  d60 : l.days ≤ 60
  tl : l.turns.length ≤ 12
  bd : ∀ u ∈ l.turns, 0 ≤ u.1 ∧ u.1 < u.2.1 ∧ u.2.1 ≤ 1440 * l.days
def whoL (l : Lyr) (r : Int) : Option Str := (l.turns.find? (inP (placeL l r))).map (·.2.2)
theorem turn_who {l : Lyr} {r : Int} : whoL l r = match turnL l r with
  | none => none
  | some j => (l.turns[j]?).map (·.2.2) := by
  have go : ∀ (ts : List Trn) (j : Nat) (all : List Trn), all.drop j = ts → (ts.find? (inP (placeL l r))).map (·.2.2) = match turnG (placeL l r) j ts with
      | none => none
      | some j => (all[j]?).map (·.2.2) := by
    intro ts
    induction ts with
    | nil => intro j all _; rfl
    | cons t ts ih =>
      intro j all e
      have ej : all[j]? = some t := by
        have := congrArg (fun l => l[0]?) e
        simpa using this
      have et : all.drop (j + 1) = ts := by
        have := congrArg (List.drop 1) e
        rwa [List.drop_drop, List.drop_succ_cons, List.drop_zero] at this
      unfold turnG
      by_cases z : t.1 ≤ placeL l r ∧ placeL l r < t.2.1
      · rw [if_pos z, List.find?_cons_of_pos (inP_yes z)]
        show some t.2.2 = (all[j]?).map (·.2.2)
        rw [ej]
        rfl
      · rw [if_neg z, List.find?_cons_of_neg (inP_no z)]
        exact ih (j + 1) all et
  exact go l.turns 0 l.turns rfl
theorem who_ok {l : Lyr} (h : LoOk l) {r : Int} {w : Str} (e : whoL l r = some w) : WordOk w := by
  unfold whoL at e
  cases z : l.turns.find? (inP (placeL l r)) with
  | none => rw [z] at e; cases e
  | some u =>
    rw [z] at e
    cases e
    exact h.hs u (List.mem_of_find?_eq_some z)
theorem place_day {l : Lyr} {m d : Int} : placeL l (1440 * (d % l.days) + m) = placeL l (1440 * d + m) := by
  unfold placeL
  have e : 1440 * d + m - l.start = (1440 * (d % l.days) + m - l.start) + (1440 * l.days) * (d / l.days) := by
    have := Int.mul_ediv_add_emod d l.days
    have e2 : 1440 * l.days * (d / l.days) = 1440 * (l.days * (d / l.days)) := Int.mul_assoc _ _ _
    omega
  rw [e, Int.add_mul_emod_self_left]
theorem who_day {l : Lyr} {m d : Int} : whoL l (1440 * (d % l.days) + m) = whoL l (1440 * d + m) := by
  unfold whoL
  rw [place_day]
/-! ### the lot of a day -/
abbrev Lt := List Int × Option Str
def lotOf : List Lyr → Int → Int → Lt
  | [], _, _ => ([], none)
  | l :: ls, m, d => match whoL l (1440 * d + m) with
    | some h => ([d % l.days], some h)
    | none => (d % l.days :: (lotOf ls m d).1, (lotOf ls m d).2)
theorem lot_cons_some {l : Lyr} {ls : List Lyr} {m d : Int} {h : Str} (e : whoL l (1440 * d + m) = some h) : lotOf (l :: ls) m d = ([d % l.days], some h) := by
  show (match whoL l (1440 * d + m) with
    | some h => ([d % l.days], some h)
    | none => (d % l.days :: (lotOf ls m d).1, (lotOf ls m d).2)) = _
  rw [e]
theorem lot_cons_none {l : Lyr} {ls : List Lyr} {m d : Int} (e : whoL l (1440 * d + m) = none) : lotOf (l :: ls) m d = (d % l.days :: (lotOf ls m d).1, (lotOf ls m d).2) := by
  show (match whoL l (1440 * d + m) with
    | some h => ([d % l.days], some h)
    | none => (d % l.days :: (lotOf ls m d).1, (lotOf ls m d).2)) = _
  rw [e]
theorem lot_snoc {l : Lyr} {m d : Int} : ∀ {ls : List Lyr}, lotOf (ls ++ [l]) m d = match (lotOf ls m d).2 with
    | some h => lotOf ls m d
    | none => ((lotOf ls m d).1 ++ [d % l.days], whoL l (1440 * d + m))
  | [] => by
    cases e : whoL l (1440 * d + m) with
    | some h => rw [List.nil_append, lot_cons_some e]; rfl
    | none => rw [List.nil_append, lot_cons_none e]; rfl
  | k :: ls => by
    rw [List.cons_append]
    cases e : whoL k (1440 * d + m) with
    | some h => rw [lot_cons_some e, lot_cons_some e]
    | none =>
      rw [lot_cons_none e, lot_cons_none e, lot_snoc (ls := ls)]
      cases e2 : (lotOf ls m d).2 with
      | some h => show (_, _) = (_, _); rw [e2]
      | none => rfl
theorem lot_same {m d d' : Int} : ∀ {ls : List Lyr}, (lotOf ls m d).1 = (lotOf ls m d').1 → (lotOf ls m d).2 = (lotOf ls m d').2
  | [], _ => rfl
  | l :: ls, h => by
    have hd : d % l.days = d' % l.days := by
      cases e : whoL l (1440 * d + m) with
      | some w =>
        cases e' : whoL l (1440 * d' + m) with
        | some w' => rw [lot_cons_some e, lot_cons_some e'] at h; exact (List.cons.inj h).1
        | none => rw [lot_cons_some e, lot_cons_none e'] at h; exact (List.cons.inj h).1
      | none =>
        cases e' : whoL l (1440 * d' + m) with
        | some w' => rw [lot_cons_none e, lot_cons_some e'] at h; exact (List.cons.inj h).1
        | none => rw [lot_cons_none e, lot_cons_none e'] at h; exact (List.cons.inj h).1
    have ew : whoL l (1440 * d + m) = whoL l (1440 * d' + m) := by rw [← who_day (d := d), ← who_day (d := d'), hd]
    cases e : whoL l (1440 * d + m) with
    | some w => rw [lot_cons_some e, lot_cons_some (ew ▸ e)]
    | none =>
      have e' : whoL l (1440 * d' + m) = none := ew ▸ e
      rw [lot_cons_none e, lot_cons_none e'] at h ⊢
      exact lot_same (List.cons.inj h).2
theorem lot_ext {m d d' : Int} {ls : List Lyr} (h : (lotOf ls m d).1 = (lotOf ls m d').1) : lotOf ls m d = lotOf ls m d' := Prod.ext h (lot_same h)
theorem lot_pre {m d d' : Int} {x : Int} {xs : List Int} : ∀ {ls : List Lyr}, (lotOf ls m d).1 ≠ (lotOf ls m d').1 ++ x :: xs
  | [], h => by simp [lotOf] at h
  | l :: ls, h => by
    have key : d % l.days = d' % l.days → False := fun hd => by
      have ew : whoL l (1440 * d + m) = whoL l (1440 * d' + m) := by rw [← who_day (d := d), ← who_day (d := d'), hd]
      cases e : whoL l (1440 * d + m) with
      | some w =>
        rw [lot_cons_some e, lot_cons_some (ew ▸ e)] at h
        simp at h
      | none =>
        have e' : whoL l (1440 * d' + m) = none := ew ▸ e
        rw [lot_cons_none e, lot_cons_none e'] at h
        exact lot_pre (ls := ls) (List.cons.inj h).2
    cases e : whoL l (1440 * d + m) with
    | some w =>
      cases e' : whoL l (1440 * d' + m) with
      | some w' => rw [lot_cons_some e, lot_cons_some e'] at h; exact key (List.cons.inj h).1
      | none => rw [lot_cons_some e, lot_cons_none e'] at h; exact key (List.cons.inj h).1
    | none =>
      cases e' : whoL l (1440 * d' + m) with
      | some w' => rw [lot_cons_none e, lot_cons_some e'] at h; exact key (List.cons.inj h).1
      | none => rw [lot_cons_none e, lot_cons_none e'] at h; exact key (List.cons.inj h).1
theorem lot_len {m d : Int} : ∀ {ls : List Lyr}, (lotOf ls m d).1.length ≤ ls.length
  | [] => Nat.le_refl _
  | l :: ls => by
    cases e : whoL l (1440 * d + m) with
    | some w => rw [lot_cons_some e]; simp
    | none =>
      rw [lot_cons_none e]
      have := lot_len (m := m) (d := d) (ls := ls)
      simp only [List.length_cons]
      omega
def rnd (ls : List Lyr) : Int := ls.foldl (fun n l => zl n l.days) 1
theorem rnd_snoc {ls : List Lyr} {l : Lyr} : rnd (ls ++ [l]) = zl (rnd ls) l.days := by
  unfold rnd
  rw [List.foldl_append]
  rfl
theorem rnd_pos' {ls : List Lyr} (h : ∀ l ∈ ls, 1 ≤ l.days) : ∀ {n : Int}, 0 < n → 0 < ls.foldl (fun n l => zl n l.days) n := by
  induction ls with
  | nil => exact fun h => h
  | cons l ls ih => exact fun {n} hn => ih (fun l hl => h l (.tail _ hl)) (zl_pos hn (by have := h l (.head _); omega))
theorem rnd_pos {ls : List Lyr} (h : ∀ l ∈ ls, 1 ≤ l.days) : 0 < rnd ls := rnd_pos' h (by decide)
theorem rnd_least' {x : Int} : ∀ {ls : List Lyr} {n : Int}, n ∣ x → (∀ l ∈ ls, l.days ∣ x) → ls.foldl (fun n l => zl n l.days) n ∣ x
  | [], _, h, _ => h
  | l :: ls, n, h, hl => rnd_least' (ls := ls) (zl_dvd h (hl l (.head _))) fun k hk => hl k (.tail _ hk)
theorem rnd_least {ls : List Lyr} {x : Int} (h : ∀ l ∈ ls, l.days ∣ x) : rnd ls ∣ x := rnd_least' (Int.one_dvd _) h
theorem rnd_self' : ∀ {ls : List Lyr} {n : Int}, n ∣ ls.foldl (fun n l => zl n l.days) n
  | [], n => Int.dvd_refl n
  | l :: ls, n => Int.dvd_trans (zl_left n l.days) rnd_self'
theorem rnd_mem' : ∀ {ls : List Lyr} {n : Int} {l : Lyr}, l ∈ ls → l.days ∣ ls.foldl (fun n l => zl n l.days) n
  | k :: ls, n, l, h => by
    rcases List.mem_cons.mp h with e | h
    · rw [e]; exact Int.dvd_trans (zl_right n k.days) rnd_self'
    · exact rnd_mem' (ls := ls) h
theorem rnd_mem {ls : List Lyr} {l : Lyr} (h : l ∈ ls) : l.days ∣ rnd ls := rnd_mem' h
@[reducible] def L60 : Int := 9690712164777231700912800
theorem div60 {x : Int} (h : 1 ≤ x) (h' : x ≤ 60) : x ∣ L60 := by
  obtain ⟨n, rfl⟩ := Int.eq_ofNat_of_zero_le (show 0 ≤ x by omega)
  have h1 : n ≤ 60 := by omega
  have h0 : 1 ≤ n := by omega
  have all : ∀ n : Nat, n ≤ 60 → 1 ≤ n → L60 % (n : Int) = 0 := by decide
  exact Int.dvd_of_emod_eq_zero (all n h1 h0)
theorem rnd_60 {ls : List Lyr} (h : ∀ l ∈ ls, LoOk l) : rnd ls ∣ L60 := rnd_least fun l hl => div60 (h l hl).d1 (h l hl).d60
theorem sm60 {x : Int} (h0 : 0 ≤ x) (h : x ∣ L60) : Sm x := Sm.big h0 (Int.le_trans (Int.le_of_dvd (by decide) h) (by decide))
theorem lot_round {m d d' : Int} : ∀ {ls : List Lyr}, (∀ l ∈ ls, d % l.days = d' % l.days) → lotOf ls m d = lotOf ls m d'
  | [], _ => rfl
  | l :: ls, h => by
    have hd := h l (.head _)
    have ew : whoL l (1440 * d + m) = whoL l (1440 * d' + m) := by rw [← who_day (d := d), ← who_day (d := d'), hd]
    have ih := lot_round (m := m) (d := d) (d' := d') (ls := ls) fun k hk => h k (.tail _ hk)
    cases e : whoL l (1440 * d + m) with
    | some w => rw [lot_cons_some e, lot_cons_some (ew ▸ e), hd]
    | none => rw [lot_cons_none e, lot_cons_none (ew ▸ e), hd, ih]
theorem mod_dvd {d n k : Int} (h : k ∣ n) : (d % n) % k = d % k := Int.emod_emod_of_dvd d h
theorem lot_mod {m d n : Int} {ls : List Lyr} (h : ∀ l ∈ ls, l.days ∣ n) : lotOf ls m (d % n) = lotOf ls m d := lot_round fun l hl => mod_dvd (h l hl)
/-! ### the order of the rests -/
def rlt : List Int → List Int → Bool
  | [], [] => false
  | [], _ :: _ => true
  | _ :: _, [] => false
  | x :: xs, y :: ys => if x = y then rlt xs ys else decide (x < y)
theorem rlt_irr : ∀ {xs : List Int}, rlt xs xs = false
  | [] => rfl
  | x :: xs => by unfold rlt; rw [if_pos rfl]; exact rlt_irr
theorem rlt_trans : ∀ {xs ys zs : List Int}, rlt xs ys = true → rlt ys zs = true → rlt xs zs = true
  | [], [], _, h, _ => by cases h
  | [], _ :: _, [], _, h => by cases h
  | [], _ :: _, _ :: _, _, _ => rfl
  | _ :: _, [], _, h, _ => by cases h
  | _ :: _, _ :: _, [], _, h => by cases h
  | x :: xs, y :: ys, z :: zs, h, h' => by
    unfold rlt at h h' ⊢
    split at h
    · rename_i e
      subst e
      split at h'
      · rename_i e; subst e; rw [if_pos rfl]; exact rlt_trans h h'
      · rename_i e; rw [if_neg e]; exact h'
    · rename_i e
      have l1 := of_decide_eq_true h
      split at h'
      · rename_i e2; subst e2; rw [if_neg e]; exact h
      · rename_i e2
        have l2 := of_decide_eq_true h'
        rw [if_neg (by omega)]
        exact decide_eq_true (by omega)
theorem rlt_tri : ∀ {xs ys : List Int}, xs ≠ ys → rlt xs ys = true ∨ rlt ys xs = true
  | [], [], h => absurd rfl h
  | [], _ :: _, _ => .inl rfl
  | _ :: _, [], _ => .inr rfl
  | x :: xs, y :: ys, h => by
    by_cases e : x = y
    · subst e
      have := rlt_tri (xs := xs) (ys := ys) fun z => h (by rw [z])
      unfold rlt
      rw [if_pos rfl, if_pos rfl]
      exact this
    · unfold rlt
      rw [if_neg e, if_neg fun z => e z.symm]
      rcases Int.lt_or_gt_of_ne e with z | z
      · exact .inl (decide_eq_true z)
      · exact .inr (decide_eq_true z)
theorem rlt_asym {xs ys : List Int} (h : rlt xs ys = true) : rlt ys xs = false := by
  cases e : rlt ys xs with
  | false => rfl
  | true => have := rlt_trans h e; rw [rlt_irr] at this; cases this
def Up (xs : List Lt) : Prop := xs.Pairwise fun x y => rlt x.1 y.1 = true
theorem Up.uniq : ∀ {xs ys : List Lt}, Up xs → Up ys → (∀ k, k ∈ xs ↔ k ∈ ys) → xs = ys
  | [], [], _, _, _ => rfl
  | [], y :: ys, _, _, h => by have := (h y).mpr (.head _); cases this
  | x :: xs, [], _, _, h => by have := (h x).mp (.head _); cases this
  | x :: xs, y :: ys, h1, h2, h => by
    obtain ⟨a1, a2⟩ := List.pairwise_cons.mp h1
    obtain ⟨b1, b2⟩ := List.pairwise_cons.mp h2
    have e : x = y := by
      rcases List.mem_cons.mp ((h x).mp (.head _)) with z | z
      · exact z
      · rcases List.mem_cons.mp ((h y).mpr (.head _)) with z2 | z2
        · exact z2.symm
        · have q := rlt_trans (b1 x z) (a1 y z2); rw [rlt_irr] at q; cases q
    subst e
    rw [Up.uniq a2 b2 fun k => ⟨fun hk => ?_, fun hk => ?_⟩]
    · rcases List.mem_cons.mp ((h k).mp (.tail _ hk)) with z | z
      · have q := a1 k hk; rw [z, rlt_irr] at q; cases q
      · exact z
    · rcases List.mem_cons.mp ((h k).mpr (.tail _ hk)) with z | z
      · have q := b1 k hk; rw [z, rlt_irr] at q; cases q
      · exact z
structure IsPc (ls : List Lyr) (m : Int) (res : List Lt) : Prop where
  up : Up res
  mem : ∀ x, x ∈ res ↔ ∃ d, lotOf ls m d = x
theorem IsPc.uniq {ls : List Lyr} {m : Int} {r r' : List Lt} (h : IsPc ls m r) (h' : IsPc ls m r') : r = r' := Up.uniq h.up h'.up fun k => (h.mem k).trans (h'.mem k).symm
/-! ### joining -/
theorem bez (a b : Nat) : ∃ u v : Int, (a : Int) * u + b * v = (Nat.gcd a b : Nat) := by
  induction a, b using Nat.gcd.induction with
  | H0 n => exact ⟨0, 1, by rw [Nat.gcd_zero_left]; simp⟩
  | H1 m n h ih =>
    obtain ⟨u, v, e⟩ := ih
    refine ⟨v - (n / m : Nat) * u, u, ?_⟩
    rw [Nat.gcd_rec m n, ← e]
    have e1 : (n : Int) = m * (n / m : Nat) + (n % m : Nat) := by
      have := Nat.div_add_mod n m
      exact_mod_cast this.symm
    have e2 : (m : Int) * ((n / m : Nat) * u) = (m * (n / m : Nat)) * u := (Int.mul_assoc _ _ _).symm
    have e3 : (n : Int) * u = (m * (n / m : Nat)) * u + (n % m : Nat) * u := by rw [← Int.add_mul, ← e1]
    rw [Int.mul_sub, e2, e3]
    omega
theorem crt_ex {m n r s : Int} (hm : 0 < m) (hn : 0 < n) (h : zg m n ∣ r - s) : ∃ x, 0 ≤ x ∧ x < zl m n ∧ m ∣ x - r ∧ n ∣ x - s := by
  obtain ⟨t, ht⟩ := h
  obtain ⟨u, v, e⟩ : ∃ u v : Int, m * u + n * v = zg m n := by
    obtain ⟨a, rfl⟩ := Int.eq_ofNat_of_zero_le (Int.le_of_lt hm)
    obtain ⟨b, rfl⟩ := Int.eq_ofNat_of_zero_le (Int.le_of_lt hn)
    exact bez a b
  have lp := zl_pos hm hn
  have e1 : m * (u * t) + n * (v * t) = r - s := by rw [ht, ← e, Int.add_mul, Int.mul_assoc, Int.mul_assoc]
  refine ⟨(r - m * (u * t)) % zl m n, Int.emod_nonneg _ (by omega), Int.emod_lt_of_pos _ lp, ?_, ?_⟩
  · have d1 : zl m n ∣ (r - m * (u * t)) % zl m n - (r - m * (u * t)) := by
      refine dvd_sub_comm ⟨(r - m * (u * t)) / zl m n, ?_⟩
      have := Int.mul_ediv_add_emod (r - m * (u * t)) (zl m n)
      omega
    exact dvd_sub3 (Int.dvd_trans (zl_left m n) d1) ⟨-(u * t), by rw [Int.mul_neg]; omega⟩
  · have d1 : zl m n ∣ (r - m * (u * t)) % zl m n - (r - m * (u * t)) := by
      refine dvd_sub_comm ⟨(r - m * (u * t)) / zl m n, ?_⟩
      have := Int.mul_ediv_add_emod (r - m * (u * t)) (zl m n)
      omega
    exact dvd_sub3 (Int.dvd_trans (zl_right m n) d1) ⟨v * t, by omega⟩
noncomputable def crt (r m s n : Int) : Int := open Classical in if h : ∃ x, 0 ≤ x ∧ x < zl m n ∧ m ∣ x - r ∧ n ∣ x - s then h.choose else 0
theorem crt_ok {m n r s : Int} (hm : 0 < m) (hn : 0 < n) (h : zg m n ∣ r - s) : 0 ≤ crt r m s n ∧ crt r m s n < zl m n ∧ m ∣ crt r m s n - r ∧ n ∣ crt r m s n - s := by
  have e := crt_ex hm hn h
  unfold crt
  rw [dif_pos e]
  exact e.choose_spec
/-! ### layer by layer -/
structure Ah where
  rs : List Int
  r : Int
  n : Int
noncomputable def ahN (a : Ah) (n one : Int) : Ah := ⟨a.rs ++ [one], crt a.r a.n one n, zl a.n n⟩
def onesL (r g n : Int) : List Int := (List.range ((n - r % g + g - 1) / g).toNat).map fun k => r % g + (k : Nat) * g
theorem ones_mem {r g n x : Int} (hg : 0 < g) (hn : g ∣ n) (n0 : 0 < n) : x ∈ onesL r g n ↔ 0 ≤ x ∧ x < n ∧ g ∣ r - x := by
  have e0 := Int.emod_nonneg r (b := g) (by omega)
  have e1 := Int.emod_lt_of_pos r hg
  have er := Int.mul_ediv_add_emod r g
  unfold onesL
  constructor
  · intro h
    obtain ⟨k, hk, rfl⟩ := List.mem_map.mp h
    have hk' := List.mem_range.mp hk
    have k0 : (0 : Int) ≤ (k : Nat) * g := Int.mul_nonneg (by omega) (by omega)
    have hq : ((k : Nat) : Int) < (n - r % g + g - 1) / g := by omega
    have hm : ((k : Nat) : Int) + 1 ≤ (n - r % g + g - 1) / g := hq
    have h2 : (((k : Nat) : Int) + 1) * g ≤ n - r % g + g - 1 := by
      have a := Int.mul_le_mul_of_nonneg_right hm (by omega : 0 ≤ g)
      have b := Int.ediv_mul_le (n - r % g + g - 1) (by omega : g ≠ 0)
      omega
    rw [Int.add_mul, Int.one_mul] at h2
    refine ⟨by omega, by omega, ⟨r / g - (k : Nat), ?_⟩⟩
    rw [Int.mul_sub, Int.mul_comm g ((k : Nat) : Int)]
    omega
  · rintro ⟨x0, x1, ⟨q, hq⟩⟩
    -- x = r - g q, and r % g ≤ x
    have ex : x = r % g + (r / g - q) * g := by rw [Int.sub_mul, Int.mul_comm (r / g) g, Int.mul_comm q g]; omega
    have hk0 : 0 ≤ r / g - q := by
      rcases Int.lt_or_le (r / g - q) 0 with z | z
      · have : (r / g - q) * g ≤ (-1) * g := Int.mul_le_mul_of_nonneg_right (by omega) (by omega)
        omega
      · exact z
    obtain ⟨k, ek⟩ := Int.eq_ofNat_of_zero_le hk0
    refine List.mem_map.mpr ⟨k, List.mem_range.mpr ?_, by rw [ex, ek]⟩
    have h3 : ((k : Nat) : Int) + 1 ≤ (n - r % g + g - 1) / g := by
      refine (Int.le_ediv_iff_mul_le hg).mpr ?_
      rw [Int.add_mul, Int.one_mul, ← ek]
      omega
    omega
theorem ones_nodup {r g n : Int} (hg : 0 < g) : (onesL r g n).Nodup := by
  unfold onesL
  refine List.pairwise_map.mpr (List.Pairwise.imp (fun {a b} ne e => ne ?_) List.nodup_range)
  have e2 : ((a : Nat) : Int) * g = (b : Nat) * g := by omega
  have := Int.eq_of_mul_eq_mul_right (by omega : g ≠ 0) e2
  omega
def hdL (l : Lyr) (m one : Int) : Option Str := whoL l (1440 * one + m)
noncomputable def fdL (l : Lyr) (m : Int) (a : Ah) : List Lt := ((onesL a.r (zg a.n l.days) l.days).filter fun o => (hdL l m o).isSome).map fun o => (a.rs ++ [o], hdL l m o)
noncomputable def bhL (l : Lyr) (m : Int) (a : Ah) : List Ah := ((onesL a.r (zg a.n l.days) l.days).filter fun o => (hdL l m o).isNone).map fun o => ahN a l.days o
noncomputable def stgF (m : Int) : List Lyr → List Lt × List Ah → List Lt × List Ah
  | [], s => s
  | l :: ls, s => stgF m ls (s.1 ++ s.2.flatMap (fdL l m), s.2.flatMap (bhL l m))
structure Inv (ls : List Lyr) (m : Int) (s : List Lt × List Ah) : Prop where
  nd : (s.1.map (·.1) ++ s.2.map (·.rs)).Nodup
  fd : ∀ x ∈ s.1, x.2.isSome = true ∧ ∃ d, lotOf ls m d = x
  ah : ∀ a ∈ s.2, 0 ≤ a.r ∧ a.r < a.n ∧ a.n = rnd ls ∧ a.rs.length = ls.length ∧ ∀ d, d % a.n = a.r ↔ lotOf ls m d = (a.rs, none)
  al : ∀ d, lotOf ls m d ∈ s.1 ∨ ∃ a ∈ s.2, lotOf ls m d = (a.rs, none)
theorem inv_nil {m : Int} : Inv [] m ([], [⟨[], 0, 1⟩]) := by
  refine ⟨by simp, (fun x h => nomatch h), fun a h => ?_, fun d => .inr ⟨_, List.mem_singleton.mpr rfl, rfl⟩⟩
  rw [List.mem_singleton.mp h]
  exact ⟨Int.le_refl 0, by decide, rfl, rfl, fun d => ⟨fun _ => rfl, fun _ => by show d % 1 = 0; omega⟩⟩
theorem inv_step {ls : List Lyr} {l : Lyr} {m : Int} {s : List Lt × List Ah} (hl : 1 ≤ l.days) (h : Inv ls m s) (hls : ∀ l ∈ ls, 1 ≤ l.days) : Inv (ls ++ [l]) m (s.1 ++ s.2.flatMap (fdL l m), s.2.flatMap (bhL l m)) := by
  have np := rnd_pos hls
  -- a day of a lot on its way
  have day : ∀ a ∈ s.2, ∀ o ∈ onesL a.r (zg a.n l.days) l.days, ∀ d, (d % (zl a.n l.days) = crt a.r a.n o l.days ↔ lotOf ls m d = (a.rs, none) ∧ d % l.days = o) := by
    intro a ha o ho d
    obtain ⟨a0, a1, an, _, ad⟩ := h.ah a ha
    have np' : 0 < a.n := by omega
    have gp : 0 < zg a.n l.days := zg_pos (by omega)
    obtain ⟨o0, o1, og⟩ := (ones_mem gp (zg_right a.n l.days) (by omega)).mp ho
    obtain ⟨c0, c1, c2, c3⟩ := crt_ok np' (by omega : 0 < l.days) og
    rw [← ad d]
    have lp := zl_pos np' (by omega : 0 < l.days)
    constructor
    · intro e
      constructor
      · have e1 : d % a.n = crt a.r a.n o l.days % a.n := by rw [← e, mod_dvd (zl_left a.n l.days)]
        rw [e1]
        have e2 : crt a.r a.n o l.days % a.n = a.r % a.n := (Int.emod_eq_emod_iff_emod_sub_eq_zero).mpr (Int.emod_eq_zero_of_dvd c2)
        rw [e2, Int.emod_eq_of_lt a0 a1]
      · have e1 : d % l.days = crt a.r a.n o l.days % l.days := by rw [← e, mod_dvd (zl_right a.n l.days)]
        rw [e1]
        have e2 : crt a.r a.n o l.days % l.days = o % l.days := (Int.emod_eq_emod_iff_emod_sub_eq_zero).mpr (Int.emod_eq_zero_of_dvd c3)
        rw [e2, Int.emod_eq_of_lt o0 o1]
    · rintro ⟨e1, e2⟩
      have d1 : a.n ∣ d - crt a.r a.n o l.days := by
        have : a.n ∣ d - a.r := ⟨d / a.n, by have := Int.mul_ediv_add_emod d a.n; omega⟩
        exact dvd_sub3 this (dvd_sub_comm c2)
      have d2 : l.days ∣ d - crt a.r a.n o l.days := by
        have : l.days ∣ d - o := ⟨d / l.days, by have := Int.mul_ediv_add_emod d l.days; omega⟩
        exact dvd_sub3 this (dvd_sub_comm c3)
      have d3 : zl a.n l.days ∣ d - crt a.r a.n o l.days := zl_dvd d1 d2
      have e3 := (Int.emod_eq_emod_iff_emod_sub_eq_zero).mpr (Int.emod_eq_zero_of_dvd d3)
      rw [e3, Int.emod_eq_of_lt c0 c1]
  -- its first day
  have some_day : ∀ a ∈ s.2, ∀ o ∈ onesL a.r (zg a.n l.days) l.days, ∃ d, lotOf ls m d = (a.rs, none) ∧ d % l.days = o := by
    intro a ha o ho
    obtain ⟨a0, a1, an, _, ad⟩ := h.ah a ha
    have np' : 0 < a.n := by omega
    have gp : 0 < zg a.n l.days := zg_pos (by omega)
    obtain ⟨o0, o1, og⟩ := (ones_mem gp (zg_right a.n l.days) (by omega)).mp ho
    obtain ⟨c0, c1, _, _⟩ := crt_ok np' (by omega : 0 < l.days) og
    exact ⟨crt a.r a.n o l.days, (day a ha o ho _).mp (Int.emod_eq_of_lt c0 c1)⟩
  have snoc : ∀ d a, lotOf ls m d = (a, none) → lotOf (ls ++ [l]) m d = (a ++ [d % l.days], whoL l (1440 * d + m)) := fun d a e => by rw [lot_snoc, e]
  have inF : ∀ x ∈ s.2.flatMap (fdL l m), ∃ a ∈ s.2, ∃ o ∈ onesL a.r (zg a.n l.days) l.days, (hdL l m o).isSome = true ∧ x.1 = a.rs ++ [o] := fun x hx => by
    obtain ⟨a, ha, z⟩ := List.mem_flatMap.mp hx
    obtain ⟨o, ho, rfl⟩ := List.mem_map.mp z
    exact ⟨a, ha, o, (List.mem_filter.mp ho).1, (List.mem_filter.mp ho).2, rfl⟩
  have inB : ∀ x ∈ s.2.flatMap (bhL l m), ∃ a ∈ s.2, ∃ o ∈ onesL a.r (zg a.n l.days) l.days, (hdL l m o).isNone = true ∧ x.rs = a.rs ++ [o] := fun x hx => by
    obtain ⟨a, ha, z⟩ := List.mem_flatMap.mp hx
    obtain ⟨o, ho, rfl⟩ := List.mem_map.mp z
    exact ⟨a, ha, o, (List.mem_filter.mp ho).1, (List.mem_filter.mp ho).2, rfl⟩
  have out : ∀ x ∈ s.1, ∀ a ∈ s.2, ∀ o ∈ onesL a.r (zg a.n l.days) l.days, x.1 ≠ a.rs ++ [o] := fun x hx a ha o ho e => by
    obtain ⟨_, d, hd⟩ := h.fd x hx
    obtain ⟨d', hd', _⟩ := some_day a ha o ho
    refine lot_pre (ls := ls) (m := m) (d := d) (d' := d') (x := o) (xs := []) ?_
    rw [hd, hd', e]
  obtain ⟨n1, n2, n3⟩ := List.nodup_append.mp h.nd
  have nodT : ∀ (q : Int → Bool), (s.2.flatMap fun a => ((onesL a.r (zg a.n l.days) l.days).filter q).map fun o => a.rs ++ [o]).Nodup := fun q => by
    refine List.pairwise_flatMap.mpr ⟨fun a ha => ?_, ?_⟩
    · have nf : ((onesL a.r (zg a.n l.days) l.days).filter q).Nodup := List.Pairwise.filter q (ones_nodup (zg_pos (by omega)))
      exact List.pairwise_map.mpr (List.Pairwise.imp (fun {x y} ne e => ne (List.cons.inj (List.append_cancel_left e)).1) nf)
    · have := List.pairwise_map.mp n2
      refine List.Pairwise.imp (fun {a b} ne x hx y hy e => ?_) this
      obtain ⟨o, _, rfl⟩ := List.mem_map.mp hx
      obtain ⟨o', _, rfl⟩ := List.mem_map.mp hy
      exact ne (List.append_inj' e rfl).1
  refine ⟨?_, fun x hx => ?_, fun b hb => ?_, fun d => ?_⟩
  · have eF : (s.2.flatMap (fdL l m)).map (·.1) = s.2.flatMap fun a => ((onesL a.r (zg a.n l.days) l.days).filter fun o => (hdL l m o).isSome).map fun o => a.rs ++ [o] := by
      rw [List.map_flatMap]
      congr 1
      funext a
      unfold fdL
      rw [List.map_map]
      rfl
    have eB : (s.2.flatMap (bhL l m)).map (·.rs) = s.2.flatMap fun a => ((onesL a.r (zg a.n l.days) l.days).filter fun o => (hdL l m o).isNone).map fun o => a.rs ++ [o] := by
      rw [List.map_flatMap]
      congr 1
      funext a
      unfold bhL
      rw [List.map_map]
      rfl
    rw [List.map_append]
    refine List.nodup_append.mpr ⟨List.nodup_append.mpr ⟨n1, by rw [eF]; exact nodT _, fun x hx y hy e => ?_⟩, by rw [eB]; exact nodT _, fun x hx y hy e => ?_⟩
    · obtain ⟨u, hu, rfl⟩ := List.mem_map.mp hx
      obtain ⟨v, hv, rfl⟩ := List.mem_map.mp hy
      obtain ⟨a, ha, o, ho, _, ev⟩ := inF v hv
      exact out u hu a ha o ho (e.trans ev)
    · obtain ⟨v, hv, rfl⟩ := List.mem_map.mp hy
      obtain ⟨a, ha, o, ho, hn, ev⟩ := inB v hv
      rcases List.mem_append.mp hx with z | z
      · obtain ⟨u, hu, rfl⟩ := List.mem_map.mp z
        exact out u hu a ha o ho (e.trans ev)
      · obtain ⟨u, hu, rfl⟩ := List.mem_map.mp z
        obtain ⟨a', ha', o', ho', hn', ev'⟩ := inF u hu
        have e2 := (ev'.symm.trans e).trans ev
        have e3 := (List.cons.inj (List.append_inj' e2 rfl).2).1
        rw [e3] at hn'
        rw [Option.isNone_iff_eq_none.mp hn] at hn'
        cases hn'
  · rcases List.mem_append.mp hx with z | z
    · obtain ⟨e, d, hd⟩ := h.fd x z
      refine ⟨e, d, ?_⟩
      rw [lot_snoc, hd]
      cases ex : x.2 with
      | none => rw [ex] at e; cases e
      | some w => rfl
    · obtain ⟨a, ha, z⟩ := List.mem_flatMap.mp z
      obtain ⟨o, ho, rfl⟩ := List.mem_map.mp z
      obtain ⟨ho, hs⟩ := List.mem_filter.mp ho
      obtain ⟨d, hd, ed⟩ := some_day a ha o ho
      refine ⟨hs, d, ?_⟩
      rw [snoc d _ hd, ed]
      unfold hdL
      rw [← who_day (d := d), ed]
  · obtain ⟨a, ha, z⟩ := List.mem_flatMap.mp hb
    obtain ⟨o, ho, rfl⟩ := List.mem_map.mp z
    obtain ⟨ho, hs⟩ := List.mem_filter.mp ho
    obtain ⟨a0, a1, an, al, ad⟩ := h.ah a ha
    have np' : 0 < a.n := by omega
    have gp : 0 < zg a.n l.days := zg_pos (by omega)
    obtain ⟨o0, o1, og⟩ := (ones_mem gp (zg_right a.n l.days) (by omega)).mp ho
    obtain ⟨c0, c1, _, _⟩ := crt_ok np' (by omega : 0 < l.days) og
    refine ⟨c0, c1, by show zl a.n l.days = _; rw [rnd_snoc, an], by show (a.rs ++ [o]).length = _; rw [List.length_append, List.length_append, al]; rfl, fun d => ?_⟩
    show d % (zl a.n l.days) = crt a.r a.n o l.days ↔ lotOf (ls ++ [l]) m d = (a.rs ++ [o], none)
    rw [day a ha o ho d]
    constructor
    · rintro ⟨e1, e2⟩
      rw [snoc d _ e1, e2]
      have : whoL l (1440 * d + m) = none := by
        rw [← who_day (d := d), e2]
        exact Option.isNone_iff_eq_none.mp hs
      rw [this]
    · intro e
      rw [lot_snoc] at e
      cases e2 : (lotOf ls m d).2 with
      | some w =>
        rw [e2] at e
        have e' : lotOf ls m d = (a.rs ++ [o], none) := e
        rw [e'] at e2
        cases e2
      | none =>
        rw [e2] at e
        have e3 := (Prod.mk.inj e).1
        obtain ⟨e4, e5⟩ := List.append_inj' e3 rfl
        exact ⟨Prod.ext e4 e2, (List.cons.inj e5).1⟩
  · rcases h.al d with z | ⟨a, ha, z⟩
    · left
      have e := (h.fd _ z).1
      rw [lot_snoc]
      cases e2 : (lotOf ls m d).2 with
      | none => rw [e2] at e; cases e
      | some w => exact List.mem_append_left _ z
    · obtain ⟨a0, a1, an, al, ad⟩ := h.ah a ha
      have np' : 0 < a.n := by omega
      have gp : 0 < zg a.n l.days := zg_pos (by omega)
      have ho : d % l.days ∈ onesL a.r (zg a.n l.days) l.days := by
        refine (ones_mem gp (zg_right a.n l.days) (by omega)).mpr ⟨Int.emod_nonneg _ (by omega), Int.emod_lt_of_pos _ (by omega), ?_⟩
        have e1 := (ad d).mpr z
        have g1 : zg a.n l.days ∣ d - a.r := Int.dvd_trans (zg_left a.n l.days) ⟨d / a.n, by have := Int.mul_ediv_add_emod d a.n; omega⟩
        have g2 : zg a.n l.days ∣ d - d % l.days := Int.dvd_trans (zg_right a.n l.days) ⟨d / l.days, by have := Int.mul_ediv_add_emod d l.days; omega⟩
        exact dvd_sub3 (dvd_sub_comm g1) g2
      rw [snoc d _ z]
      cases e : whoL l (1440 * d + m) with
      | some w =>
        left
        refine List.mem_append_right _ (List.mem_flatMap.mpr ⟨a, ha, List.mem_map.mpr ⟨d % l.days, List.mem_filter.mpr ⟨ho, ?_⟩, ?_⟩⟩)
        · unfold hdL; rw [who_day, e]; rfl
        · unfold hdL; rw [who_day, e]
      | none =>
        right
        refine ⟨ahN a l.days (d % l.days), List.mem_flatMap.mpr ⟨a, ha, List.mem_map.mpr ⟨d % l.days, List.mem_filter.mpr ⟨ho, ?_⟩, rfl⟩⟩, rfl⟩
        unfold hdL; rw [who_day, e]; rfl
theorem inv_stg {m : Int} : ∀ {ls pre : List Lyr} {s : List Lt × List Ah}, (∀ l ∈ pre ++ ls, 1 ≤ l.days) → Inv pre m s → Inv (pre ++ ls) m (stgF m ls s)
  | [], pre, s, _, h => by rw [List.append_nil]; exact h
  | l :: ls, pre, s, hd, h => by
    have := inv_stg (ls := ls) (pre := pre ++ [l]) (s := (s.1 ++ s.2.flatMap (fdL l m), s.2.flatMap (bhL l m))) (by rw [List.append_assoc]; exact hd) (inv_step (hd l (List.mem_append_right _ (.head _))) h fun k hk => hd k (List.mem_append_left _ hk))
    rw [List.append_assoc] at this
    exact this
noncomputable def rawL (ls : List Lyr) (m : Int) : List Lt := (stgF m ls ([], [⟨[], 0, 1⟩])).1 ++ (stgF m ls ([], [⟨[], 0, 1⟩])).2.map fun a => (a.rs, none)
theorem raw_inv {ls : List Lyr} {m : Int} (hd : ∀ l ∈ ls, 1 ≤ l.days) : Inv ls m (stgF m ls ([], [⟨[], 0, 1⟩])) := inv_stg (pre := []) hd inv_nil
theorem raw_nodup {ls : List Lyr} {m : Int} (hd : ∀ l ∈ ls, 1 ≤ l.days) : ((rawL ls m).map (·.1)).Nodup := by
  have := (raw_inv (m := m) hd).nd
  unfold rawL
  rw [List.map_append, List.map_map]
  exact this
theorem raw_mem {ls : List Lyr} {m : Int} (hd : ∀ l ∈ ls, 1 ≤ l.days) (x : Lt) : x ∈ rawL ls m ↔ ∃ d, lotOf ls m d = x := by
  have v := raw_inv (m := m) hd
  unfold rawL
  constructor
  · intro h
    rcases List.mem_append.mp h with z | z
    · exact (v.fd x z).2
    · obtain ⟨a, ha, rfl⟩ := List.mem_map.mp z
      obtain ⟨a0, a1, _, _, ad⟩ := v.ah a ha
      exact ⟨a.r, (ad a.r).mp (Int.emod_eq_of_lt a0 a1)⟩
  · rintro ⟨d, rfl⟩
    rcases v.al d with z | ⟨a, ha, z⟩
    · exact List.mem_append_left _ z
    · rw [z]; exact List.mem_append_right _ (List.mem_map.mpr ⟨a, ha, rfl⟩)
theorem rlt_eq : ∀ {xs ys : List Int}, HT.lexLt xs ys = rlt xs ys
  | [], [] => rfl
  | [], _ :: _ => rfl
  | _ :: _, [] => rfl
  | x :: xs, y :: ys => by
    rw [HT.lexLt_cons]
    unfold rlt
    rw [rlt_eq]
noncomputable def pcL (ls : List Lyr) (m : Int) : List Lt := (rawL ls m).mergeSort fun x y => !rlt y.1 x.1
theorem pc_perm {ls : List Lyr} {m : Int} : (pcL ls m).Perm (rawL ls m) := List.mergeSort_perm _ _
theorem up_of {xs : List Lt} (h : xs.Pairwise fun x y => (!rlt y.1 x.1) = true) (n : (xs.map (·.1)).Nodup) : Up xs := by
  have n' : xs.Pairwise fun x y => x.1 ≠ y.1 := List.pairwise_map.mp n
  refine List.Pairwise.imp (fun {x y} hh => ?_) (h.and n')
  rcases rlt_tri hh.2 with z | z
  · exact z
  · have := hh.1
    rw [z] at this
    cases this
theorem pc_ok {ls : List Lyr} {m : Int} (hd : ∀ l ∈ ls, 1 ≤ l.days) : IsPc ls m (pcL ls m) := by
  have n : ((pcL ls m).map (·.1)).Nodup := (pc_perm.map (·.1)).nodup_iff.mpr (raw_nodup hd)
  refine ⟨up_of (List.pairwise_mergeSort (fun a b c h h' => ?_) (fun a b => ?_) _) n, fun x => (pc_perm.mem_iff).trans (raw_mem hd x)⟩
  · cases e : rlt c.1 a.1 with
    | false => rfl
    | true =>
      have h1 : rlt b.1 a.1 = false := by simpa using h
      have h2 : rlt c.1 b.1 = false := by simpa using h'
      by_cases z : a.1 = b.1
      · rw [z, h2] at e; cases e
      · rcases rlt_tri z with y | y
        · rw [rlt_trans e y] at h2; cases h2
        · rw [y] at h1; cases h1
  · cases e : rlt b.1 a.1 with
    | false => rfl
    | true => rw [rlt_asym e]; rfl
theorem pc_len {ls : List Lyr} {m : Int} : (pcL ls m).length = (rawL ls m).length := pc_perm.length_eq
theorem pc_of {ls : List Lyr} {m : Int} (hd : ∀ l ∈ ls, 1 ≤ l.days) {xs : List Lt} (p : xs.Perm (rawL ls m)) (h : xs.Pairwise fun x y => HT.lexLt x.1 y.1 = true) : xs = pcL ls m := by
  refine IsPc.uniq (ls := ls) (m := m) ⟨List.Pairwise.imp (fun {x y} z => by rw [← rlt_eq]; exact z) h, fun x => p.mem_iff.trans (raw_mem hd x)⟩ (pc_ok hd)
/-! ### how many at each time -/
def cntS (s : List Lt × List Ah) : Nat := s.1.length + s.2.length
theorem stg_app {m : Int} : ∀ {ls ks : List Lyr} {s : List Lt × List Ah}, stgF m (ls ++ ks) s = stgF m ks (stgF m ls s)
  | [], _, _ => rfl
  | l :: ls, ks, s => stg_app (ls := ls) (ks := ks)
theorem fb_pos {l : Lyr} (hl : 1 ≤ l.days) {m : Int} {a : Ah} (hn : 0 < a.n) : 1 ≤ (fdL l m a).length + (bhL l m a).length := by
  have gp : 0 < zg a.n l.days := zg_pos (by omega)
  have e0 := Int.emod_nonneg a.r (b := zg a.n l.days) (by omega)
  have e1 := Int.emod_lt_of_pos a.r gp
  have e2 := zg_le (a := a.n) (b := l.days) (by omega)
  have mo : a.r % zg a.n l.days ∈ onesL a.r (zg a.n l.days) l.days := (ones_mem gp (zg_right _ _) (by omega)).mpr ⟨e0, by omega, ⟨a.r / zg a.n l.days, by have := Int.mul_ediv_add_emod a.r (zg a.n l.days); omega⟩⟩
  unfold fdL bhL
  rw [List.length_map, List.length_map]
  cases e : hdL l m (a.r % zg a.n l.days) with
  | some w =>
    have : 0 < ((onesL a.r (zg a.n l.days) l.days).filter fun o => (hdL l m o).isSome).length := List.length_pos_of_mem (List.mem_filter.mpr ⟨mo, by rw [e]; rfl⟩)
    omega
  | none =>
    have : 0 < ((onesL a.r (zg a.n l.days) l.days).filter fun o => (hdL l m o).isNone).length := List.length_pos_of_mem (List.mem_filter.mpr ⟨mo, by rw [e]; rfl⟩)
    omega
theorem flat_len {α β γ : Type} {f : α → List β} {g : α → List γ} : ∀ {xs : List α}, (∀ x ∈ xs, 1 ≤ (f x).length + (g x).length) → xs.length ≤ (xs.flatMap f).length + (xs.flatMap g).length
  | [], _ => Nat.zero_le _
  | x :: xs, h => by
    have ih := flat_len (f := f) (g := g) (xs := xs) fun y hy => h y (.tail _ hy)
    have := h x (.head _)
    rw [List.flatMap_cons, List.flatMap_cons, List.length_append, List.length_append, List.length_cons]
    omega
theorem cnt_part {l : Lyr} (hl : 1 ≤ l.days) {m : Int} {s : List Lt × List Ah} (hn : ∀ a ∈ s.2, 0 < a.n) {A B : List Ah} (e : s.2 = A ++ B) :
    (s.1 ++ A.flatMap (fdL l m)).length + (A.flatMap (bhL l m)).length ≤ cntS (s.1 ++ s.2.flatMap (fdL l m), s.2.flatMap (bhL l m)) := by
  unfold cntS
  rw [e, List.flatMap_append, List.flatMap_append]
  simp only [List.length_append]
  omega
theorem cnt_step {l : Lyr} (hl : 1 ≤ l.days) {m : Int} {s : List Lt × List Ah} (hn : ∀ a ∈ s.2, 0 < a.n) : cntS s ≤ cntS (s.1 ++ s.2.flatMap (fdL l m), s.2.flatMap (bhL l m)) := by
  have := flat_len (f := fdL l m) (g := bhL l m) (xs := s.2) fun a ha => fb_pos hl (hn a ha)
  unfold cntS
  simp only [List.length_append]
  omega
theorem bh_pos {l : Lyr} (hl : 1 ≤ l.days) {m : Int} {s : List Ah} (hn : ∀ a ∈ s, 0 < a.n) : ∀ a ∈ s.flatMap (bhL l m), 0 < a.n := fun b hb => by
  obtain ⟨a, ha, z⟩ := List.mem_flatMap.mp hb
  obtain ⟨o, _, rfl⟩ := List.mem_map.mp z
  exact zl_pos (hn a ha) (by omega)
theorem cnt_mono {m : Int} : ∀ {ls : List Lyr} {s : List Lt × List Ah}, (∀ l ∈ ls, 1 ≤ l.days) → (∀ a ∈ s.2, 0 < a.n) → cntS s ≤ cntS (stgF m ls s)
  | [], _, _, _ => Nat.le_refl _
  | l :: ls, s, hd, hn => Nat.le_trans (cnt_step (hd l (.head _)) hn) (cnt_mono (ls := ls) (fun k hk => hd k (.tail _ hk)) (bh_pos (hd l (.head _)) hn))
abbrev s0 : List Lt × List Ah := ([], [⟨[], 0, 1⟩])
theorem raw_cnt {ls : List Lyr} {m : Int} : (rawL ls m).length = cntS (stgF m ls s0) := by
  unfold rawL cntS
  rw [List.length_append, List.length_map]
theorem pc_cnt {ls : List Lyr} {m : Int} : (pcL ls m).length = cntS (stgF m ls s0) := pc_len.trans raw_cnt
/-! ### data -/
@[reducible] def optS : Option Str → D
  | none => .none
  | some h => .str h
@[reducible] def intsD (ns : List Int) : D := .tuple (ns.map PyData.int)
@[reducible] def ltD (x : Lt) : D := .tuple [intsD x.1, optS x.2]
@[reducible] def ahD (a : Ah) : D := .tuple [intsD a.rs, .int a.r, .int a.n]
def hdsL (l : Lyr) (m : Int) : List D := (List.range l.days.toNat).map fun k => optS (hdL l m (k : Nat))
@[reducible] noncomputable def lgD (a : Ah) (l : Lyr) (m o : Int) : D := .tuple [intsD (a.rs ++ [o]), .int (crt a.r a.n o l.days), .int (zl a.n l.days), optS (hdL l m o)]
structure Lot where
  lo : Int
  hi : Int
  x : Lt
@[reducible] def lotD (q : Lot) : D := .tuple [.int q.lo, .int q.hi, intsD q.x.1, optS q.x.2]
theorem lf_optS {o : Option Str} : lfree (optS o) = true := by cases o <;> rfl
theorem lf_intsD {ns : List Int} : lfree (intsD ns) = true := lfree_tup fun d hd => by
  obtain ⟨x, _, rfl⟩ := List.mem_map.mp hd
  rfl
theorem lf_lot {q : Lot} : lfree (lotD q) = true := lfree_tup fun d hd => by
  simp only [List.mem_cons, List.not_mem_nil, or_false] at hd
  rcases hd with rfl | rfl | rfl | rfl
  · rfl
  · rfl
  · exact lf_intsD
  · exact lf_optS
theorem lf_lots {qs : List Lot} : lfree (.tuple (qs.map lotD)) = true := lfree_tup fun d hd => by
  obtain ⟨x, _, rfl⟩ := List.mem_map.mp hd
  exact lf_lot
/-! ### cuts -/
structure CutsOk (ls : List Lyr) (cs : List Int) : Prop where
  up : cs.Pairwise (· < ·)
  mem : ∀ k, k ∈ cs ↔ k = 0 ∨ k = 1440 ∨ ∃ l ∈ ls, ∃ u ∈ l.turns, k = (l.start + u.1) % 1440 ∨ k = (l.start + u.2.1) % 1440
theorem CutsOk.uniq {ls : List Lyr} {cs cs' : List Int} (h : CutsOk ls cs) (h' : CutsOk ls cs') : cs = cs' := CFEd.up_uniq h.up h'.up fun k => (h.mem k).trans (h'.mem k).symm
def cutsR (ls : List Lyr) : List Int := [0, 1440] ++ ls.flatMap fun l => l.turns.flatMap fun u => [(l.start + u.1) % 1440, (l.start + u.2.1) % 1440]
theorem cutsR_mem {ls : List Lyr} {k : Int} : k ∈ cutsR ls ↔ k = 0 ∨ k = 1440 ∨ ∃ l ∈ ls, ∃ u ∈ l.turns, k = (l.start + u.1) % 1440 ∨ k = (l.start + u.2.1) % 1440 := by
  unfold cutsR
  simp only [List.mem_append, List.mem_cons, List.not_mem_nil, or_false, List.mem_flatMap, or_assoc]
theorem cutsR_len {ls : List Lyr} (h : ∀ l ∈ ls, l.turns.length ≤ 12) : (cutsR ls).length ≤ 2 + 24 * ls.length := by
  unfold cutsR
  rw [List.length_append]
  have a : ∀ ts : List Trn, ∀ s : Int, (ts.flatMap fun u => [(s + u.1) % 1440, (s + u.2.1) % 1440]).length = 2 * ts.length := fun ts s => by
    induction ts with
    | nil => rfl
    | cons t ts ih => rw [List.flatMap_cons, List.length_append, ih, List.length_cons]; simp only [List.length_cons, List.length_nil]; omega
  have b : (ls.flatMap fun l => l.turns.flatMap fun u => [(l.start + u.1) % 1440, (l.start + u.2.1) % 1440]).length ≤ 24 * ls.length := by
    induction ls with
    | nil => exact Nat.zero_le _
    | cons l ls ih =>
      rw [List.flatMap_cons, List.length_append, a, List.length_cons]
      have := ih fun k hk => h k (.tail _ hk)
      have := h l (.head _)
      omega
  simp only [List.length_cons, List.length_nil]
  omega
/-! ### all pieces -/
noncomputable def cellL (ls : List Lyr) : List Int → List Lot
  | a :: b :: cs => (pcL ls a).map (fun x => ⟨a, b, x⟩) ++ cellL ls (b :: cs)
  | _ => []
theorem lot_rests {m d : Int} : ∀ {ls : List Lyr}, (lotOf ls m d).1 = (ls.take (lotOf ls m d).1.length).map fun l => d % l.days
  | [] => rfl
  | l :: ls => by
    cases e : whoL l (1440 * d + m) with
    | some w => rw [lot_cons_some e]; rfl
    | none =>
      rw [lot_cons_none e]
      show _ :: _ = _ :: _
      exact congrArg _ lot_rests
/-! ### promises -/
def S_hand_at : SpD := fun as Q _ => ∃ (l : Lyr) (r : Int), as = [.v (lyrD l), .v (.int r)] ∧ 1 ≤ l.days ∧ l.turns.length ≤ 1000 ∧ Q (.v (optS (whoL l r))) as
def S_cuts_of : SpD := fun as Q _ => ∃ (ls : List Lyr), as = [.v (lyrsD ls)] ∧ (∀ l ∈ ls, l.turns.length ≤ 12) ∧ ls.length ≤ 100 ∧ ∀ cs : List Int, CutsOk ls cs → cs.length ≤ 2402 → cs.length ≤ 2 + 24 * ls.length → Q (.own 0 (.lst (cs.map PyData.int))) as
def S_rests_of : SpD := fun as Q _ => ∃ (l : Lyr) (m : Int), as = [.v (lyrD l), .v (.int m)] ∧ LoOk l ∧ Q (.own 0 (.lst (hdsL l m))) as
def S_longer : SpD := fun as Q _ => ∃ (a : Ah) (l : Lyr) (m : Int), as = [.v (ahD a), .v (.list (hdsL l m))] ∧ LoOk l ∧ 0 ≤ a.r ∧ a.r < a.n ∧ a.n ∣ L60 ∧ a.rs.length ≤ 500 ∧
  Q (.own 0 (.lst ((onesL a.r (zg a.n l.days) l.days).map (lgD a l m)))) as
def S_in_piece : SpD := fun as Q E => ∃ (ls : List Lyr) (m room : Int), as = [.v (lyrsD ls), .v (.int m), .v (.int room)] ∧ (∀ l ∈ ls, LoOk l) ∧ ls.length ≤ 200 ∧ (ls ≠ [] ∨ 0 < room) ∧ room ≤ 2000 ∧
  (((pcL ls m).length : Int) ≤ room → Q (.own 0 (.lst ((pcL ls m).map ltD))) as) ∧ (room < ((pcL ls m).length : Int) → E ⟨"TooMany", []⟩ as)
def S_cells : SpD := fun as Q E => ∃ (ls : List Lyr) (cs : List Int), as = [.v (lyrsD ls), .v (.list (cs.map PyData.int))] ∧ (∀ l ∈ ls, LoOk l) ∧ ls.length ≤ 200 ∧ (ls ≠ [] ∨ cs.length ≤ 2000) ∧ cs.length ≤ 10000 ∧ 1 ≤ cs.length ∧
  ((cellL ls cs).length ≤ 2000 → Q (.v (.tuple ((cellL ls cs).map lotD))) as) ∧ (2000 < (cellL ls cs).length → E ⟨"TooMany", []⟩ as)
def S_lots : SpD := fun as Q E => ∃ (ls : List Lyr), as = [.v (lyrsD ls)] ∧ (∀ l ∈ ls, LoOk l) ∧ ls.length ≤ 100 ∧ ∀ cs : List Int, CutsOk ls cs →
  ((cellL ls cs).length ≤ 2000 → Q (.v (.tuple ((cellL ls cs).map lotD))) as) ∧ (2000 < (cellL ls cs).length → E ⟨"TooMany", []⟩ as)
theorem hand_at_i {l : Lyr} {r : Int} {Q E} (h : 1 ≤ l.days) (ht : l.turns.length ≤ 1000) (q : Q (.v (optS (whoL l r))) [.v (lyrD l), .v (.int r)]) : S_hand_at [.v (lyrD l), .v (.int r)] Q E := ⟨l, r, rfl, h, ht, q⟩
theorem len_hand_at : ∀ as QD ED, S_hand_at as QD ED → as.length = 2 := by
  rintro as QD ED ⟨_, _, rfl, _⟩
  rfl
theorem len_cuts_of : ∀ as QD ED, S_cuts_of as QD ED → as.length = 1 := by
  rintro as QD ED ⟨_, rfl, _⟩
  rfl
theorem len_rests_of : ∀ as QD ED, S_rests_of as QD ED → as.length = 2 := by
  rintro as QD ED ⟨_, _, rfl, _⟩
  rfl
theorem len_longer : ∀ as QD ED, S_longer as QD ED → as.length = 2 := by
  rintro as QD ED ⟨_, _, _, rfl, _⟩
  rfl
theorem len_in_piece : ∀ as QD ED, S_in_piece as QD ED → as.length = 3 := by
  rintro as QD ED ⟨_, _, _, rfl, _⟩
  rfl
theorem len_cells : ∀ as QD ED, S_cells as QD ED → as.length = 2 := by
  rintro as QD ED ⟨_, _, rfl, _⟩
  rfl
theorem len_lots : ∀ as QD ED, S_lots as QD ED → as.length = 1 := by
  rintro as QD ED ⟨_, rfl, _⟩
  rfl
end CFLo

set_option Elab.async false
set_option linter.all false
set_option maxRecDepth 100000
set_option maxHeartbeats 4000000
/-! CFLc: the laws' own cuts of the day; within a piece a layer has one turn -/
namespace CFLc
open PySem PySem.Spec PyProof.Rows L2 DL CFH CFCl CFRu CFWd CFBk CFTu CFRb CFSp CFLo
def S_law_cuts : SpD := fun as Q _ => ∃ (ls : List Lyr), as = [.v (lyrsD ls)] ∧ (∀ l ∈ ls, l.turns.length ≤ 12) ∧ ls.length ≤ 100 ∧ ∀ cs : List Int, CutsOk ls cs → cs.length ≤ 2402 → cs.length ≤ 2 + 24 * ls.length → Q (.own 0 (.lst (cs.map PyData.int))) as
theorem len_law_cuts : ∀ as QD ED, S_law_cuts as QD ED → as.length = 1 := by
  rintro as QD ED ⟨_, rfl, _⟩
  rfl
def TrnIn (M : Int) (u : Trn) : Prop := 0 ≤ u.1 ∧ u.1 < u.2.1 ∧ u.2.1 ≤ M
theorem lo_of {l : Lyr} (h : LyrOk l) : LoOk l := by
  have go : ∀ (ts : List Trn) (lo : Int), 0 ≤ lo → TrnsOk (1440 * l.days) lo ts → (∀ u ∈ ts, WordOk u.2.2) ∧ ∀ u ∈ ts, TrnIn (1440 * l.days) u := by
    intro ts
    induction ts with
    | nil => exact fun lo _ _ => ⟨(fun u hu => nomatch hu), (fun u hu => nomatch hu)⟩
    | cons t ts ih =>
      rintro lo h0 ⟨a1, a2, a3, a4, a5⟩
      obtain ⟨b1, b2⟩ := ih t.2.1 (by omega) a5
      refine ⟨fun u hu => ?_, fun u hu => ?_⟩
      · rcases List.mem_cons.mp hu with e | hu
        · rw [e]; exact a4
        · exact b1 u hu
      · rcases List.mem_cons.mp hu with e | hu
        · rw [e]; exact ⟨by omega, a2, a3⟩
        · exact b2 u hu
  obtain ⟨b1, b2⟩ := go l.turns 0 (Int.le_refl 0) h.ts
  exact ⟨h.wd, b1, h.d1, h.d60, h.n12, b2⟩
def Next (cs : List Int) (a b : Int) : Prop := a ∈ cs ∧ b ∈ cs ∧ a < b ∧ ∀ c ∈ cs, ¬ (a < c ∧ c < b)
theorem cuts_bd {ls : List Lyr} {cs : List Int} (h : CutsOk ls cs) : ∀ c ∈ cs, 0 ≤ c ∧ c ≤ 1440 := fun c hc => by
  rcases (h.mem c).mp hc with e | e | ⟨l, _, u, _, e | e⟩
  · omega
  · omega
  · rw [e]; have := Int.emod_nonneg (l.start + u.1) (b := 1440) (by decide); have := Int.emod_lt_of_pos (l.start + u.1) (b := 1440) (by decide); omega
  · rw [e]; have := Int.emod_nonneg (l.start + u.2.1) (b := 1440) (by decide); have := Int.emod_lt_of_pos (l.start + u.2.1) (b := 1440) (by decide); omega
theorem zip_next : ∀ {cs : List Int}, cs.Pairwise (· < ·) → ∀ p ∈ cs.zip (cs.drop 1), Next cs p.1 p.2
  | [], _, p, h => by cases h
  | [_], _, p, h => by cases h
  | a :: b :: cs, hp, p, h => by
    obtain ⟨h1, h2⟩ := List.pairwise_cons.mp hp
    obtain ⟨h3, h4⟩ := List.pairwise_cons.mp h2
    rcases List.mem_cons.mp (show p ∈ (a, b) :: (b :: cs).zip ((b :: cs).drop 1) from h) with e | h
    · rw [e]
      refine ⟨.head _, .tail _ (.head _), h1 b (.head _), fun c hc z => ?_⟩
      rcases List.mem_cons.mp hc with y | hc
      · have := z.1; omega
      · rcases List.mem_cons.mp hc with y | hc
        · have := z.2; omega
        · have := h3 c hc; have := z.2; show False; omega
    · obtain ⟨n1, n2, n3, n4⟩ := zip_next (cs := b :: cs) h2 p h
      refine ⟨.tail _ n1, .tail _ n2, n3, fun c hc z => ?_⟩
      rcases List.mem_cons.mp hc with y | hc
      · have : a < p.1 := h1 _ n1
        have := z.1
        omega
      · exact n4 c hc z
theorem words_at {ws : List Str} {j : Int} (h0 : 0 ≤ j) (h1 : j < ws.length) : ∃ w, atI (ws.map PyData.str) j = some (.str w) ∧ w ∈ ws := by
  obtain ⟨d, e, m⟩ := atI_mem (ds := ws.map PyData.str) h0 (by rw [List.length_map]; exact h1)
  obtain ⟨w, hw, rfl⟩ := List.mem_map.mp m
  exact ⟨w, e, hw⟩
theorem cs_at {cs : List Int} {k : Nat} (h : k < cs.length) : atI (cs.map PyData.int) (k : Int) = some (.int (cs.getD k 0)) := by
  refine L2.atI_nat ?_
  rw [List.getElem?_map, List.getD_eq_getElem?_getD, List.getElem?_eq_getElem h]
  rfl
end CFLc

set_option Elab.async false
set_option linter.all false
set_option maxRecDepth 100000
set_option maxHeartbeats 4000000
/-! CFCr: a crowded book -/
namespace CFCr
open PySem PySem.Spec PyProof.Rows L2 DL CFH CFCl CFRu CFWd CFBk CFCg CFLy CFTd CFLa
end CFCr

set_option Elab.async false
set_option linter.all false
set_option maxRecDepth 100000
set_option maxHeartbeats 4000000
/-! CFNr: moments near a book's edges -/
namespace CFNr
open PySem PySem.Spec PyProof.Rows L2 DL CFH CFCl CFRu CFWd CFBk
end CFNr

set_option Elab.async false
set_option linter.all false
set_option maxRecDepth 100000
set_option maxHeartbeats 4000000
/-! k22: the promises -/
namespace K22
open PySem PySem.Spec PyProof.Rows L2 DL CFH CFCl CFRu CFWd CFBk CFCg CFTu CFTd CFRw
abbrev ksA (cs : List Chg) : List Nat := (List.range cs.length).reverse
def awayH : Chg → Option Str
  | .away h _ _ => some h
  | _ => none
def onH : Chg → Option Str
  | .on h _ _ => some h
  | _ => none
def forH (o : Str) : Chg → Option Str
  | .stand h o' _ _ => if o' = o then some h else none
  | _ => none
abbrev covF (cs : List Chg) (t : Int) : List Chg := cs.filter fun c => coversL c t
def goneW (cs : List Chg) : List Str := cs.filterMap awayH
def forsW (cs : List Chg) (h : Str) : Str := (cs.filterMap (forH h)).getLast?.getD h
/-! the law's books -/
def rawW (cs : List Chg) (ks : List Nat) (ts : List Str) : List Rw := onsRaw cs ks ++ (List.range ts.length).map fun i => rowOf cs ks (DL.T [97 + i]) (0, 1440, ts.getD i "") 0
def dueW (cs : List Chg) (ts : List Str) : List Rw := (rawW cs (ksA cs) ts).map (gone cs (ksA cs))
def S_law_due : SpD := fun as Q _ => ∃ (cs : List Chg) (ts : List Str), as = [.v (chgsD cs), .v (wsD ts)] ∧ (∀ c ∈ cs, ChgOk c) ∧ cs.length ≤ 100 ∧ ts.length ≤ 4 ∧ (∀ w ∈ ts, WordOk w) ∧ Q (.v (.tuple ((dueW cs ts).map rwD))) as
def S_law : SpD := fun as Q _ => ∃ ns : List Int, as = [.v (.list (ns.map PyData.int))] ∧ ns.length ≤ 63 ∧ ∀ rs, Q (.v (.bool true)) rs
theorem law_in : ∀ ns : List Int, ns.length ≤ 63 → S_law [.v (.list (ns.map PyData.int))] (fun c _ => c = .v (.bool true)) (fun _ _ => False) := fun ns h => ⟨ns, rfl, h, fun _ => rfl⟩
theorem len_law_due : ∀ as QD ED, S_law_due as QD ED → as.length = 2 := by
  rintro as QD ED ⟨_, _, rfl, _⟩
  rfl
theorem len_law : ∀ as QD ED, S_law as QD ED → as.length = 1 := by
  rintro as QD ED ⟨_, rfl, _⟩
  rfl
end K22

set_option Elab.async false
set_option linter.all false
set_option maxRecDepth 100000
set_option maxHeartbeats 4000000
/-! k25: the promises -/
namespace K25
open PySem PySem.Spec PyProof.Rows L2 DL CFH CFCl CFRu CFWd CFBk CFCg CFTu CFTd CFLa CFPl CFSp CFEd CFLe CFRw
open K22 (covF goneW forsW awayH forH)
def S_law : SpD := fun as Q _ => ∃ ns : List Int, as = [.v (.list (ns.map PyData.int))] ∧ ns.length ≤ 63 ∧ ∀ rs, Q (.v (.bool true)) rs
theorem law_in : ∀ ns : List Int, ns.length ≤ 63 → S_law [.v (.list (ns.map PyData.int))] (fun c _ => c = .v (.bool true)) (fun _ _ => False) := fun ns h => ⟨ns, rfl, h, fun _ => rfl⟩
theorem len_law : ∀ as QD ED, S_law as QD ED → as.length = 1 := by
  rintro as QD ED ⟨_, rfl, _⟩
  rfl
end K25

set_option Elab.async false
set_option linter.all false
set_option maxRecDepth 100000
set_option maxHeartbeats 4000000
/-! CFRh: who is there, by the laws' own look at changes and layers -/
namespace CFRh
open PySem PySem.Spec PyProof.Rows L2 DL CFH CFCl CFRu CFWd CFBk CFCg CFTu CFTd CFLa CFPl CFSp
open K22 (covF goneW forsW awayH forH onH)
def thereL (b : Bk) (t : Int) : List Str := (toldL b t).filterMap Rw.hand
def notIn (gn : List Str) (h : Str) : Bool := decide (h ∉ gn)
end CFRh

set_option Elab.async false
set_option linter.all false
set_option maxRecDepth 100000
set_option maxHeartbeats 4000000
/-! CFNn: who is called next that isn't named: spans, soonest, chains -/
namespace CFNn
open PySem PySem.Spec PyProof.Rows L2 DL CFH CFCl CFRu CFWd CFBk CFCg CFTu CFTd CFLa CFPl CFSp CFEd CFLe CFRh
/-! plain layers in order -/
/-! the first moment in a turn -/
/-! the soonest that isn't named -/
def newH (hs nm : List Str) : Option Str := hs.find? (notIn nm)
/-! the next that isn't named -/
def IsNew (b : Bk) (t : Int) (nm : List Str) : Option (Int × Str) → Prop
  | none => ∀ x, t ≤ x → newH (thereL b x) nm = none
  | some p => t ≤ p.1 ∧ newH (thereL b p.1) nm = some p.2 ∧ ∀ x, t ≤ x → x < p.1 → newH (thereL b x) nm = none
theorem IsNew.uniq {b : Bk} {t : Int} {nm : List Str} : ∀ {o p : Option (Int × Str)}, IsNew b t nm o → IsNew b t nm p → o = p
  | none, none, _, _ => rfl
  | none, some p, h, h' => by
    have := h p.1 h'.1
    rw [h'.2.1] at this
    cases this
  | some p, none, h, h' => by
    have := h' p.1 h.1
    rw [h.2.1] at this
    cases this
  | some p, some q, h, h' => by
    have e : p.1 = q.1 := by
      rcases Int.lt_trichotomy p.1 q.1 with z | z | z
      · have := h'.2.2 p.1 h.1 z
        rw [h.2.1] at this
        cases this
      · exact z
      · have := h.2.2 q.1 h'.1 z
        rw [h'.2.1] at this
        cases this
    have e2 := h.2.1
    rw [e, h'.2.1] at e2
    rw [Prod.ext e (Option.some.inj e2).symm]
/-! the spans from a moment on -/
abbrev Sp := Int × Option Int × List Lyr
/-! the rows that stand, each hand once -/
/-! chains -/
def IsCh (b : Bk) (w : Int) : Int → List Str → List (Int × Str) → Prop
  | t, nm, [] => IsNew b t nm none
  | t, nm, p :: l => IsNew b t nm (some p) ∧ IsCh b w (p.1 + w) (nm ++ [p.2]) l
theorem IsCh.uniq {b : Bk} {w : Int} : ∀ {t : Int} {nm : List Str} {l l' : List (Int × Str)}, IsCh b w t nm l → IsCh b w t nm l' → l = l'
  | _, _, [], [], _, _ => rfl
  | _, _, [], p :: l', h, h' => by cases IsNew.uniq h h'.1
  | _, _, p :: l, [], h, h' => by cases IsNew.uniq h.1 h'
  | t, nm, p :: l, q :: l', h, h' => by
    have e := Option.some.inj (IsNew.uniq h.1 h'.1)
    subst e
    rw [IsCh.uniq h.2 h'.2]
end CFNn

set_option Elab.async false
set_option linter.all false
set_option maxRecDepth 100000
set_option maxHeartbeats 4000000
/-! CFFr: the next gap, the next moment of a hand -/
namespace CFFr
open PySem PySem.Spec PyProof.Rows L2 DL CFH CFCl CFRu CFWd CFBk CFTu CFTd CFPl CFRa CFRb CFSp CFEd CFRh CFNn CFLo CFLc
/-! ### one day's lot, by moments -/
theorem pc_round {ls : List Lyr} (hd : ∀ l ∈ ls, 1 ≤ l.days) {m : Int} : (pcL ls m).length ≤ (rnd ls).toNat := by
  have hp := rnd_pos hd
  have n : ((pcL ls m).map (·.1)).Nodup := (pc_perm.map (·.1)).nodup_iff.mpr (raw_nodup hd)
  have n2 : (pcL ls m).Nodup := by
    have := List.pairwise_map.mp n
    exact List.Pairwise.imp (fun {x y} h e => h (by rw [e])) this
  have sub : ∀ x ∈ pcL ls m, x ∈ (List.range (rnd ls).toNat).map fun k => lotOf ls m (k : Nat) := fun x hx => by
    obtain ⟨d, hd'⟩ := ((pc_ok hd).mem x).mp hx
    have e := lot_mod (ls := ls) (m := m) (d := d) (n := rnd ls) fun l hl => rnd_mem hl
    have a0 := Int.emod_nonneg d (b := rnd ls) (by omega)
    have a1 := Int.emod_lt_of_pos d hp
    obtain ⟨k, hk⟩ := Int.eq_ofNat_of_zero_le a0
    refine List.mem_map.mpr ⟨k, List.mem_range.mpr (by omega), ?_⟩
    rw [← hk, e, hd']
  have := nodup_sub n2 sub
  rwa [List.length_map, List.length_range] at this
where
  nodup_sub : ∀ {l m : List Lt}, l.Nodup → (∀ x ∈ l, x ∈ m) → l.length ≤ m.length
    | [], _, _, _ => Nat.zero_le _
    | x :: l, m, h, s => by
      obtain ⟨h1, h2⟩ := List.nodup_cons.mp h
      obtain ⟨a, b, rfl⟩ := List.append_of_mem (s x (.head _))
      have ih := nodup_sub (l := l) (m := a ++ b) h2 fun y hy => by
        rcases List.mem_append.mp (s y (.tail _ hy)) with z | z
        · exact List.mem_append_left _ z
        · rcases List.mem_cons.mp z with e | z
          · rw [e] at hy; exact absurd hy h1
          · exact List.mem_append_right _ z
      rw [List.length_append] at ih
      rw [List.length_append, List.length_cons, List.length_cons]
      omega
theorem cell_len {ls : List Lyr} (hd : ∀ l ∈ ls, 1 ≤ l.days) : ∀ {cs : List Int}, (cellL ls cs).length ≤ (cs.length - 1) * (rnd ls).toNat
  | [] => Nat.zero_le _
  | [_] => Nat.zero_le _
  | a :: b :: cs => by
    have ih := cell_len hd (cs := b :: cs)
    have := pc_round hd (m := a)
    show ((pcL ls a).map (fun x => (⟨a, b, x⟩ : Lot)) ++ cellL ls (b :: cs)).length ≤ _
    rw [List.length_append, List.length_map, List.length_cons, Nat.add_sub_cancel]
    rw [List.length_cons] at ih ⊢
    rw [Nat.add_sub_cancel] at ih
    rw [Nat.succ_mul]
    omega
/-! ### the first moment of a lot -/
def IsFm (f : Int → Option Str) (low : Int) (h : Option Str) : Option Int → Prop
  | none => ∀ x, low ≤ x → f x ≠ h
  | some m => low ≤ m ∧ f m = h ∧ ∀ x, low ≤ x → x < m → f x ≠ h
theorem IsFm.uniq {f : Int → Option Str} {low : Int} {h : Option Str} : ∀ {o p : Option Int}, IsFm f low h o → IsFm f low h p → o = p
  | none, none, _, _ => rfl
  | none, some p, a, b => absurd b.2.1 (a p b.1)
  | some p, none, a, b => absurd a.2.1 (b p a.1)
  | some p, some q, a, b => by
    rcases Int.lt_trichotomy p q with z | z | z
    · exact absurd a.2.1 (b.2.2 p a.1 z)
    · rw [z]
    · exact absurd b.2.1 (a.2.2 q b.1 z)
/-! ### spans -/
def insU (a : Int) : List Int → List Int
  | [] => [a]
  | c :: cs => if a < c then a :: c :: cs else if a = c then c :: cs else c :: insU a cs
theorem insU_mem {a k : Int} : ∀ {cs : List Int}, k ∈ insU a cs ↔ k = a ∨ k ∈ cs
  | [] => List.mem_cons
  | c :: cs => by
    unfold insU
    split
    · exact List.mem_cons
    · split
      · rename_i e
        subst e
        rw [List.mem_cons]
        exact ⟨.inr, fun h => h.elim .inl id⟩
      · rw [List.mem_cons, List.mem_cons, insU_mem (cs := cs)]
        exact ⟨fun h => h.elim (fun x => .inr (.inl x)) (fun h => h.elim .inl fun x => .inr (.inr x)), fun h => h.elim (fun x => .inr (.inl x)) (fun h => h.elim .inl fun x => .inr (.inr x))⟩
theorem insU_up {a : Int} : ∀ {cs : List Int}, cs.Pairwise (· < ·) → (insU a cs).Pairwise (· < ·)
  | [], _ => List.pairwise_singleton _ _
  | c :: cs, h => by
    obtain ⟨h1, h2⟩ := List.pairwise_cons.mp h
    unfold insU
    split
    · rename_i z
      refine List.pairwise_cons.mpr ⟨fun y hy => ?_, h⟩
      rcases List.mem_cons.mp hy with e | e
      · rw [e]; exact z
      · exact Int.lt_trans z (h1 y e)
    · split
      · exact h
      · refine List.pairwise_cons.mpr ⟨fun y hy => ?_, insU_up h2⟩
        rcases insU_mem.mp hy with e | e
        · rw [e]; omega
        · exact h1 y e
theorem cuts_ex {ls : List Lyr} : ∃ cs, CutsOk ls cs := by
  have go : ∀ l : List Int, ∃ cs : List Int, cs.Pairwise (· < ·) ∧ ∀ k, k ∈ cs ↔ k ∈ l := fun l => by
    induction l with
    | nil => exact ⟨[], List.Pairwise.nil, fun _ => Iff.rfl⟩
    | cons a l ih =>
      obtain ⟨cs, h1, h2⟩ := ih
      exact ⟨insU a cs, insU_up h1, fun k => by rw [insU_mem, h2 k, List.mem_cons]⟩
  obtain ⟨cs, h1, h2⟩ := go (cutsR ls)
  exact ⟨cs, h1, fun k => (h2 k).trans cutsR_mem⟩
end CFFr

set_option Elab.async false
set_option linter.all false
set_option maxRecDepth 100000
set_option maxHeartbeats 4000000
/-! CFCn: counting moments; sums by names -/
namespace CFCn
open PySem PySem.Spec PyProof.Rows L2 DL CFH CFCl CFRu CFWd CFBk CFTu CFTd CFPl CFRa CFRb CFSp CFEd CFRh CFNn CFLo CFLc CFFr
/-! ### sums by names -/
abbrev RwI := Str × Int
def wsum (l : List RwI) (n : Str) : Int := ((l.filter fun r => decide (r.1 = n)).map (·.2)).sum
structure IsRows (l : List RwI) (rows : List RwI) : Prop where
  up : rows.Pairwise (fun x y => sLt x.1 y.1 = true)
  mem : ∀ n v, (n, v) ∈ rows ↔ n ∈ l.map (·.1) ∧ v = wsum l n
theorem IsRows.uniq {l m rows rows' : List RwI} (h : IsRows l rows) (h' : IsRows m rows') (e1 : ∀ n, n ∈ l.map (·.1) ↔ n ∈ m.map (·.1)) (e2 : ∀ n, wsum l n = wsum m n) : rows = rows' :=
  sorted_uniq (k := fun r : RwI => r.1) h.up h'.up fun x => by rw [h.mem x.1 x.2, h'.mem x.1 x.2, e1, e2]
end CFCn

set_option Elab.async false
set_option linter.all false
set_option maxRecDepth 100000
set_option maxHeartbeats 4000000
/-! CFRo: one round of layers, minutes by hands -/
namespace CFRo
open PySem PySem.Spec PyProof.Rows L2 DL CFH CFCl CFRu CFWd CFBk CFTu CFTd CFPl CFRa CFRb CFSp CFEd CFRh CFNn CFLo CFLc CFFr CFCn
structure IsCnt (c : Str → Int) (rows : List RwI) : Prop where
  up : rows.Pairwise (fun x y => sLt x.1 y.1 = true)
  mem : ∀ n v, (n, v) ∈ rows ↔ v = c n ∧ 0 < v
theorem IsCnt.uniq {c d : Str → Int} {rows rows' : List RwI} (h : IsCnt c rows) (h' : IsCnt d rows') (e : ∀ n, c n = d n) : rows = rows' :=
  sorted_uniq (k := fun r : RwI => r.1) h.up h'.up fun x => by rw [h.mem x.1 x.2, h'.mem x.1 x.2, e]
theorem IsCnt.of {c d : Str → Int} {rows : List RwI} (h : IsCnt c rows) (e : ∀ n, c n = d n) : IsCnt d rows := ⟨h.up, fun n v => by rw [h.mem, e]⟩
/-! ### residues -/
/-! ### the rows that the program gathers -/
end CFRo

set_option Elab.async false
set_option linter.all false
set_option maxRecDepth 100000
set_option maxHeartbeats 4000000
/-! CFFw: drawn layers have few lots; what rows of counts add up to -/
namespace CFFw
open PySem PySem.Spec PyProof.Rows L2 DL CFH CFCl CFRu CFWd CFBk CFTu CFTd CFPl CFRa CFRb CFSp CFEd CFRh CFNn CFLo CFLc CFFr CFCn CFRo CFLs
theorem sub_len {α : Type} : ∀ {l m : List α}, l.Nodup → (∀ x ∈ l, x ∈ m) → l.length ≤ m.length
  | [], _, _, _ => Nat.zero_le _
  | x :: l, m, h, s => by
    obtain ⟨h1, h2⟩ := List.nodup_cons.mp h
    obtain ⟨a, b, rfl⟩ := List.append_of_mem (s x (.head _))
    have ih := sub_len (l := l) (m := a ++ b) h2 fun y hy => by
      rcases List.mem_append.mp (s y (.tail _ hy)) with z | z
      · exact List.mem_append_left _ z
      · rcases List.mem_cons.mp z with e | z
        · rw [e] at hy; exact absurd hy h1
        · exact List.mem_append_right _ z
    rw [List.length_append] at ih
    rw [List.length_append, List.length_cons, List.length_cons]
    omega
theorem up_nodup {cs : List Int} (h : cs.Pairwise (· < ·)) : cs.Nodup := List.Pairwise.imp (fun z e => by omega) h
def nTurns (ls : List Lyr) : Nat := (ls.map fun l => l.turns.length).sum
theorem cutsR_num {ls : List Lyr} : (cutsR ls).length = 2 + 2 * nTurns ls := by
  unfold cutsR nTurns
  rw [List.length_append]
  have go : ∀ ls : List Lyr, (ls.flatMap fun l => l.turns.flatMap fun u => [(l.start + u.1) % 1440, (l.start + u.2.1) % 1440]).length = 2 * (ls.map fun l => l.turns.length).sum := fun ls => by
    induction ls with
    | nil => rfl
    | cons l ls ih =>
      rw [List.flatMap_cons, List.length_append, ih, List.map_cons, List.sum_cons]
      have gt : ∀ ts : List Trn, (ts.flatMap fun u : Trn => [(l.start + u.1) % 1440, (l.start + u.2.1) % 1440]).length = 2 * ts.length := fun ts => by
        induction ts with
        | nil => rfl
        | cons t ts ih =>
          rw [List.flatMap_cons, List.length_append, ih]
          show 2 + 2 * ts.length = 2 * (ts.length + 1)
          omega
      rw [gt]
      omega
  rw [go]
  rfl
theorem cuts_num {ls : List Lyr} {cs : List Int} (hc : CutsOk ls cs) : cs.length ≤ 2 + 2 * nTurns ls := by
  rw [← cutsR_num]
  exact sub_len (up_nodup hc.up) fun k hk => cutsR_mem.mpr ((hc.mem k).mp hk)
theorem few_of {ls : List Lyr} {cs : List Int} {T R : Nat} (hd : ∀ l ∈ ls, 1 ≤ l.days) (hc : CutsOk ls cs) (ht : nTurns ls ≤ T) (hr : rnd ls ≤ R) (h : (1 + 2 * T) * R ≤ 2000) : (cellL ls cs).length ≤ 2000 := by
  have a := cell_len hd (cs := cs)
  have b := cuts_num hc
  have c : (cs.length - 1) * (rnd ls).toNat ≤ (1 + 2 * T) * R := Nat.mul_le_mul (by omega) (by omega)
  omega
theorem menu_lcm : ∀ b : Bool, ∀ m ∈ menus b, ∃ L ∈ ([12, 28, 60, 72, 55, 7, 2, 10, 9] : List Int), ∀ x ∈ m, x ∣ L := by decide
theorem sum_le {α : Type} {f : α → Nat} {c : Nat} : ∀ {l : List α}, (∀ x ∈ l, f x ≤ c) → (l.map f).sum ≤ l.length * c
  | [], _ => Nat.zero_le _
  | x :: l, h => by
    rw [List.map_cons, List.sum_cons, List.length_cons, Nat.add_mul]
    have := sum_le (l := l) fun y hy => h y (.tail _ hy)
    have := h x (.head _)
    omega
theorem ls_rnd {bg : Bool} {ws : List Str} {ls : List Lyr} (h : LsOk bg ws ls) : rnd ls ≤ 72 := by
  obtain ⟨m, hm, hd⟩ := h.mn
  obtain ⟨L, hL, hx⟩ := menu_lcm bg m hm
  have dv : rnd ls ∣ L := rnd_least fun l hl => hx _ (hd l hl)
  have Lb : 0 < L ∧ L ≤ 72 := by
    simp only [List.mem_cons, List.not_mem_nil, or_false] at hL
    rcases hL with rfl | rfl | rfl | rfl | rfl | rfl | rfl | rfl | rfl <;> decide
  have := Int.le_of_dvd Lb.1 dv
  omega
theorem ls_turns {bg : Bool} {ws : List Str} {ls : List Lyr} (h : LsOk bg ws ls) : nTurns ls ≤ 12 := by
  have l4 := h.l4
  have t : ∀ l ∈ ls, l.turns.length * ls.length ≤ 12 := fun l hl => Nat.le_trans (h.tn l hl) (by split <;> decide)
  unfold nTurns
  rcases Nat.eq_zero_or_pos ls.length with z | z
  · have : ls = [] := List.length_eq_zero_iff.mp z
    rw [this]; exact Nat.zero_le _
  · have := sum_le (l := ls) (f := fun l => l.turns.length) (c := 12 / ls.length) fun l hl => (Nat.le_div_iff_mul_le z).mpr (t l hl)
    have := Nat.mul_div_le 12 ls.length
    omega
theorem ls_few {bg : Bool} {ws : List Str} {ls : List Lyr} {cs : List Int} (h : LsOk bg ws ls) (hc : CutsOk ls cs) : (cellL ls cs).length ≤ 2000 :=
  few_of (T := 12) (R := 72) (fun l hl => (h.ok l hl).d1) hc (ls_turns h) (by have := ls_rnd h; omega) (by decide)
/-! ### the sum of rows of counts -/
theorem shn_word {n : Nat} {w : Str} (h : w = "" ∨ WordOk w) : Shn n 82 (.str w) := by
  rcases h with rfl | h
  · exact (Shn.str (n := n) (x := "") (by decide)).up (Nat.le_refl _) (by decide)
  · have l8 := h.l8
    have big : ∀ c ∈ signs.cps.toList, c < 16 ^ 8 := by decide +kernel
    exact (Shn.str (n := n) (x := w) fun c hc => big c (h.sg c hc)).up (Nat.le_refl _) (by omega)
end CFFw

set_option Elab.async false
set_option linter.all false
set_option maxRecDepth 100000
set_option maxHeartbeats 4000000
/-! CFWh: whom a layer calls; the round that layers have in common -/
namespace CFWh
open PySem PySem.Spec PyProof.Rows L2 DL CFH CFCl CFRu CFWd CFBk CFTu CFTd CFPl CFRa CFRb CFSp CFEd CFLo CFLc
def S_law_whom : SpD := fun as Q _ => ∃ (l : Lyr) (r : Int), as = [.v (lyrD l), .v (.int r)] ∧ 1 ≤ l.days ∧ l.turns.length ≤ 1000 ∧ Q (.v (optS (whoL l r))) as
def S_law_common : SpD := fun as Q _ => ∃ (ls : List Lyr), as = [.v (lyrsD ls)] ∧ (∀ l ∈ ls, 1 ≤ l.days ∧ l.days ≤ 60) ∧ ls.length ≤ 200 ∧ Q (.v (.int (rnd ls))) as
theorem whom_i {l : Lyr} {r : Int} {Q E} (h : 1 ≤ l.days) (ht : l.turns.length ≤ 1000) (q : Q (.v (optS (whoL l r))) [.v (lyrD l), .v (.int r)]) : S_law_whom [.v (lyrD l), .v (.int r)] Q E := ⟨l, r, rfl, h, ht, q⟩
theorem len_law_whom : ∀ as QD ED, S_law_whom as QD ED → as.length = 2 := by
  rintro as QD ED ⟨_, _, rfl, _⟩
  rfl
theorem len_law_common : ∀ as QD ED, S_law_common as QD ED → as.length = 1 := by
  rintro as QD ED ⟨_, rfl, _⟩
  rfl
theorem who_head {l : Lyr} {r : Int} : atI ((l.turns.filterMap fun u => if inP (placeL l r) u = true then some (PyData.str u.2.2) else none) ++ [PyData.none]) 0 = some (optS (whoL l r)) := by
  unfold whoL
  generalize placeL l r = p
  have go : ∀ ts : List Trn, ((ts.filterMap fun u => if inP p u = true then some (PyData.str u.2.2) else none) ++ [PyData.none]).head? = some (optS ((ts.find? (inP p)).map (·.2.2))) := fun ts => by
    induction ts with
    | nil => rfl
    | cons t ts ih =>
      rw [List.filterMap_cons, List.find?_cons]
      by_cases z : inP p t = true
      · rw [if_pos z, z]; rfl
      · rw [if_neg z, Bool.eq_false_iff.mpr z]; exact ih
  have e := go l.turns
  generalize (l.turns.filterMap fun u => if inP p u = true then some (PyData.str u.2.2) else none) ++ [PyData.none] = ds at e ⊢
  cases ds with
  | nil => cases e
  | cons d ds =>
    rw [atI_0]
    exact e
end CFWh

set_option Elab.async false
set_option linter.all false
set_option maxRecDepth 100000
set_option maxHeartbeats 4000000
/-! DLDtt: own dicts whose keys are tuples of whole numbers: {}, d[k], d[k] = v, sorted(d). -/
namespace DL
open PySem PySem.Spec PyProof.Rows L2
/-! ### sorted of tuples of whole numbers -/
def TupI (h : Heap) (v : Value) (ns : List Int) : Prop := ∃ (t : Addr) (its : Array Value), v = .ref t ∧ h.IsTuple t its ∧ IntsAre its.toList ns
theorem TupI.keeps {h h' : Heap} {v : Value} {ns : List Int} (x : TupI h v ns) (k : ∀ b o, h.get? b = some o → o.cls = .type "tuple" → h'.get? b = some o) : TupI h' v ns := by
  obtain ⟨t, its, e, h1, h2⟩ := x
  exact ⟨t, its, e, isTuple_keeps h1 k, h2⟩
def lexF (fin : Bool) : List Int → List Int → Bool
  | x :: xs, y :: ys => if x = y then lexF fin xs ys else decide (x < y)
  | _, _ => fin
theorem lexF_lt : ∀ (xs ys : List Int), lexF (decide (xs.length < ys.length)) xs ys = HT.lexLt xs ys
  | [], [] => rfl
  | [], y :: ys => by rw [HT.lexLt_nil_cons]; exact decide_eq_true (Nat.zero_lt_succ _)
  | x :: xs, [] => by rw [HT.lexLt_cons_nil]; exact decide_eq_false (Nat.not_lt_zero _)
  | x :: xs, y :: ys => by
    rw [HT.lexLt_cons, ← lexF_lt xs ys]
    show (if x = y then lexF (decide (xs.length + 1 < ys.length + 1)) xs ys else decide (x < y)) = _
    rw [show decide (xs.length + 1 < ys.length + 1) = decide (xs.length < ys.length) from decide_eq_decide.mpr Nat.succ_lt_succ_iff]
section
variable {prog : Program} {w : World} {A : Around} {s : Shared}
theorem kat_ints {fin : Bool} {Q : Bool → Shared → Prop} : ∀ {us vs : List Value} {ns ms : List Int} {i : Nat}, IntsAre us ns → IntsAre vs ms → Q (lexF fin ns ms) s → PySem.W.KatLex prog w A true fin Q (us.zip vs) i s
  | [], _, _, _, _, h1, h2, q => by cases h1; exact PySem.W.kat_nil q
  | _ :: _, [], _, _, _, h1, h2, q => by cases h1; cases h2; exact PySem.W.kat_nil q
  | _ :: us, _ :: vs, _, _, i, h1, h2, q => by
    cases h1 with
    | cons x t a => cases h2 with
      | cons y u b =>
        refine PySem.W.kat_cons (SeqAt.EqAt.int_int x t y u prog w _ _ ?_)
        refine PySem.W.kat_go (fun e1 => ?_) (fun e1 => ?_)
        · have ex : x = y := by simpa using e1
          refine PySem.W.kat_yes (kat_ints a b ?_)
          unfold lexF at q
          rw [if_pos ex] at q
          exact q
        · have ex : ¬ x = y := by simpa using e1
          unfold lexF at q
          rw [if_neg ex] at q
          refine PySem.W.kat_no ?_
          cases i with
          | zero => exact PyProof.Rows.oneLt_int q
          | succ i => exact PySem.W.kat_one _ _ (PyProof.Rows.lt_int q)
theorem itLen : ∀ {vs : List Value} {ns : List Int}, IntsAre vs ns → vs.length = ns.length
  | _, _, .nil => rfl
  | _, _, .cons _ _ h => by rw [List.length_cons, List.length_cons, itLen h]
theorem tint_cmp {vs : List Value} {k : Value → List Int} (hv : ∀ v ∈ vs, TupI s.heap v (k v)) :
    SrtO.Cmp prog w A s (tuples' true) (fun p => p.1 ∈ vs) (SrtO.lt2 fun v u => HT.lexLt (k v) (k u)) := by
  intro p q hm hm'
  show wpAny (model prog w) A (keyLt' (tuples' true) p.1 q.1) (fun r s' => s' = s ∧ r = HT.lexLt (k p.1) (k q.1)) (fun _ _ => False) s
  obtain ⟨t, its, e1, ⟨o, g1, g2, n, g3⟩, h4⟩ := hv _ hm
  obtain ⟨t', its', e1', ⟨o', g1', g2', n', g3'⟩, h4'⟩ := hv _ hm'
  generalize k p.1 = ns at *
  generalize k q.1 = ms at *
  rw [e1, e1']
  refine PySem.W.kat_lt g1 g3 g1' g3' (kat_ints h4 h4' ⟨rfl, ?_⟩)
  rw [← lexF_lt ns ms, ← itLen h4, ← itLen h4', Array.length_toList, Array.length_toList]
theorem tint_tups {h : Heap} {k : Value → List Int} : ∀ {vs : List Value}, (∀ v ∈ vs, TupI h v (k v) ∧ k v ≠ []) → ∃ fs, PySem.W.KatTups h vs fs ∧ fs.length = vs.length ∧ ∀ f ∈ fs, ∃ x t, f = Value.int x t
  | [], _ => ⟨[], trivial, rfl, fun f hf => nomatch hf⟩
  | v :: vs, hv => by
    obtain ⟨fs, a1, a2, a3⟩ := tint_tups (vs := vs) fun u hu => hv u (.tail _ hu)
    obtain ⟨⟨t, its, e1, ⟨o, g1, g2, n, g3⟩, h4⟩, ne⟩ := hv v (.head _)
    generalize k v = ns at h4 ne
    obtain ⟨l, hl⟩ : ∃ l, its.toList = l := ⟨_, rfl⟩
    rw [hl] at h4
    cases h4 with
    | nil => exact absurd rfl ne
    | cons x tk r =>
      have e0 : its[0]? = some (.int x tk) := by rw [← Array.getElem?_toList, hl]; rfl
      refine ⟨.int x tk :: fs, ?_, by rw [List.length_cons, List.length_cons, a2], fun q hq => ?_⟩
      · rw [e1]; exact ⟨⟨t, o, its, n, rfl, g1, g2, g3, e0⟩, a1⟩
      · rcases List.mem_cons.mp hq with e | hq
        · exact ⟨x, tk, e⟩
        · exact a3 q hq
theorem tint_sortable {a : Addr} {vs : List Value} {k : Value → List Int} (h2 : 2 ≤ vs.length) (hv : ∀ v ∈ vs, TupI s.heap v (k v) ∧ k v ≠ []) (ha : ∀ o, s.heap.get? a = some o → o.cls ≠ .type "tuple") :
    SrtO.SortableO prog w A s a vs fun v u => HT.lexLt (k v) (k u) := by
  intro h' keep
  have kt : ∀ b o, s.heap.get? b = some o → o.cls = .type "tuple" → h'.get? b = some o := fun b o e c => keep b o (fun z => ha o (z ▸ e) c) e
  have hv' : ∀ v ∈ vs, TupI h' v (k v) ∧ k v ≠ [] := fun v hm => ⟨(hv v hm).1.keeps kt, (hv v hm).2⟩
  obtain ⟨fs, t1, t2, t3⟩ := tint_tups hv'
  refine ⟨tuples' true, fun Q E hq => ?_, tint_cmp (s := { s with heap := h' }) fun v hm => (hv' v hm).1⟩
  refine PySem.W.kat_kind (s := { s with heap := h' }) (T := .type "int") t1 (by omega) (fun f hm => ?_) (by rfl) ?_
  · obtain ⟨x, t, rfl⟩ := t3 f hm
    exact PySem.W.Looks.now
  · have e : (Value.type "int" != Value.type "tuple") = true := by first | decide +kernel | rfl | decide
    rw [e]
    exact hq
end
/-! ### rows -/
abbrev Row := List Int × Addr × V
def rPut (rows : List Row) (k : List Int) (b : Addr) (v : V) : List Row :=
  if (rows.any fun x => decide (x.1 = k)) = true then rows.map (fun x => if x.1 = k then (x.1, x.2.1, v) else x) else rows ++ [(k, b, v)]
def tGet (kvs : List (List Int × D)) (k : List Int) : Option D := (kvs.find? fun kv => decide (kv.1 = k)).map (·.2)
def tPut (kvs : List (List Int × D)) (k : List Int) (d : D) : List (List Int × D) :=
  if (kvs.any fun kv => decide (kv.1 = k)) = true then kvs.map (fun kv => if kv.1 = k then (kv.1, d) else kv) else kvs ++ [(k, d)]
theorem rput_len {rows : List Row} {k : List Int} {b : Addr} {v : V} : (rPut rows k b v).length ≤ rows.length + 1 := by
  unfold rPut
  split
  · rw [List.length_map]; omega
  · rw [List.length_append, List.length_cons, List.length_nil]; omega
section
variable {K : PySem.W.Frag} {B : Hp}
theorem rel_any (k : List Int) : ∀ {rows : List Row} {ys : List (List Int × Addr × Value)}, Paired dtRel rows ys → (rows.any fun x => decide (x.1 = k)) = (atKey ys k).isSome
  | _, _, .nil => rfl
  | p :: ps, q :: qs, .cons h t => by
    obtain ⟨h1, _, _⟩ := h
    rw [List.any_cons]
    by_cases e : p.1 = k
    · rw [decide_eq_true e, Bool.true_or]
      have b : atKey (q :: qs) k = some q.2 := by simp [atKey, List.find?_cons, h1.symm.trans e]
      rw [b]; rfl
    · rw [decide_eq_false e, Bool.false_or, rel_any k t]
      have e' : ¬ q.1 = k := fun z => e (h1.trans z)
      have b : atKey (q :: qs) k = atKey qs k := by simp [atKey, List.find?_cons, e']
      rw [b]
theorem rel_map (k : List Int) {v : V} {u : Value} (rv : RelV v u) : ∀ {rows : List Row} {ys : List (List Int × Addr × Value)}, Paired dtRel rows ys → Paired dtRel (rows.map fun x => if x.1 = k then (x.1, x.2.1, v) else x) (ys.map (putAt k u))
  | _, _, .nil => .nil
  | p :: ps, q :: qs, .cons h t => by
    rw [List.map_cons, List.map_cons]
    refine .cons ?_ (rel_map k rv t)
    obtain ⟨h1, h2, h3⟩ := h
    unfold putAt
    by_cases e : p.1 = k
    · rw [if_pos e, if_pos (h1.symm.trans e)]; exact ⟨h1, h2, rv⟩
    · rw [if_neg e, if_neg fun z => e (h1.trans z)]; exact ⟨h1, h2, h3⟩
theorem rel_put (k : List Int) {b : Addr} {v : V} {u : Value} (rv : RelV v u) {rows : List Row} {ys : List (List Int × Addr × Value)} (r : Paired dtRel rows ys) : Paired dtRel (rPut rows k b v) (storedH ys k b u) := by
  unfold rPut storedH
  rw [rel_any k r]
  by_cases q : (atKey ys k).isSome = true
  · rw [if_pos q, if_pos q]; exact rel_map k rv r
  · rw [if_neg q, if_neg q]; exact Paired.snoc r ⟨rfl, rfl, rv⟩
theorem rel_find (k : List Int) : ∀ {rows : List Row} {ys : List (List Int × Addr × Value)} {x : Row}, Paired dtRel rows ys → (rows.find? fun x => decide (x.1 = k)) = some x → ∃ p, atKey ys k = some p ∧ RelV x.2.2 p.2
  | _, _, _, .nil, e => by cases e
  | p :: ps, q :: qs, x, .cons h t, e => by
    obtain ⟨h1, h2, h3⟩ := h
    rw [List.find?_cons] at e
    by_cases z : p.1 = k
    · rw [decide_eq_true z] at e
      cases e
      exact ⟨q.2, by simp [atKey, List.find?_cons, h1.symm.trans z], h3⟩
    · rw [decide_eq_false z] at e
      obtain ⟨r, e1, e2⟩ := rel_find k t e
      have e' : ¬ q.1 = k := fun y => z (h1.trans y)
      exact ⟨r, by rw [← e1]; simp [atKey, List.find?_cons, e'], e2⟩
theorem rel_mem : ∀ {rows : List Row} {ys : List (List Int × Addr × Value)}, Paired dtRel rows ys → ∀ y ∈ ys, ∃ x ∈ rows, x.1 = y.1 ∧ x.2.1 = y.2.1
  | _, _, .nil, y, h => nomatch h
  | p :: ps, q :: qs, .cons h t, y, hy => by
    rcases List.mem_cons.mp hy with e | hy
    · rw [e]; exact ⟨p, .head _, h.1, h.2.1⟩
    · obtain ⟨x, m, e⟩ := rel_mem t y hy
      exact ⟨x, .tail _ m, e⟩
theorem rel_keys : ∀ {rows : List Row} {ys : List (List Int × Addr × Value)}, Paired dtRel rows ys → ys.map (fun y => (y.1, y.2.1)) = rows.map fun x => (x.1, x.2.1)
  | _, _, .nil => rfl
  | p :: ps, q :: qs, .cons h t => by rw [List.map_cons, List.map_cons, rel_keys t, h.1, h.2.1]
theorem dtv_any (k : List Int) : ∀ {rows : List Row} {kvs : List (List Int × D)}, DpTV K B rows kvs → (rows.any fun x => decide (x.1 = k)) = (kvs.any fun kv => decide (kv.1 = k))
  | [], [], _ => rfl
  | p :: ps, q :: qs, h => by rw [List.any_cons, List.any_cons, h.1, dtv_any k h.2.2.2]
  | [], _ :: _, h => h.elim
  | _ :: _, [], h => h.elim
theorem dtv_len : ∀ {rows : List Row} {kvs : List (List Int × D)}, DpTV K B rows kvs → rows.length = kvs.length
  | [], [], _ => rfl
  | p :: ps, q :: qs, h => by rw [List.length_cons, List.length_cons, dtv_len h.2.2.2]
  | [], _ :: _, h => h.elim
  | _ :: _, [], h => h.elim
theorem dtv_keys : ∀ {rows : List Row} {kvs : List (List Int × D)}, DpTV K B rows kvs → rows.map (·.1) = kvs.map (·.1)
  | [], [], _ => rfl
  | p :: ps, q :: qs, h => by rw [List.map_cons, List.map_cons, h.1, dtv_keys h.2.2.2]
  | [], _ :: _, h => h.elim
  | _ :: _, [], h => h.elim
theorem dtv_mem : ∀ {rows : List Row} {kvs : List (List Int × D)}, DpTV K B rows kvs → ∀ x ∈ rows, SqT K B x.2.1 (x.1.map V.int)
  | [], [], _, x, h => nomatch h
  | p :: ps, q :: qs, h, x, hx => by
    rcases List.mem_cons.mp hx with e | hx
    · rw [e]; exact h.2.1
    · exact dtv_mem h.2.2.2 x hx
  | [], _ :: _, h, _, _ => h.elim
  | _ :: _, [], h, _, _ => h.elim
theorem dtv_map {k : List Int} {x : V} {d : D} (hx : Dp K B x d) : ∀ {rows : List Row} {kvs : List (List Int × D)}, DpTV K B rows kvs → DpTV K B (rows.map fun r => if r.1 = k then (r.1, r.2.1, x) else r) (kvs.map fun kv => if kv.1 = k then (kv.1, d) else kv)
  | [], [], h => h
  | p :: ps, q :: qs, h => by
    obtain ⟨h1, h2, h3, h4⟩ := h
    rw [List.map_cons, List.map_cons]
    by_cases e : p.1 = k
    · rw [if_pos e, if_pos (h1.symm.trans e)]; exact ⟨h1, h2, hx, dtv_map hx h4⟩
    · rw [if_neg e, if_neg fun z => e (h1.trans z)]; exact ⟨h1, h2, h3, dtv_map hx h4⟩
  | [], _ :: _, h => h.elim
  | _ :: _, [], h => h.elim
theorem dtv_snoc {k : List Int} {b : Addr} {x : V} {d : D} (hb : SqT K B b (k.map V.int)) (hx : Dp K B x d) : ∀ {rows : List Row} {kvs : List (List Int × D)}, DpTV K B rows kvs → DpTV K B (rows ++ [(k, b, x)]) (kvs ++ [(k, d)])
  | [], [], _ => ⟨rfl, hb, hx, trivial⟩
  | p :: ps, q :: qs, h => ⟨h.1, h.2.1, h.2.2.1, dtv_snoc hb hx h.2.2.2⟩
  | [], _ :: _, h => h.elim
  | _ :: _, [], h => h.elim
theorem dtv_put {k : List Int} {b : Addr} {x : V} {d : D} {rows : List Row} {kvs : List (List Int × D)} (hb : SqT K B b (k.map V.int)) (hx : Dp K B x d) (h : DpTV K B rows kvs) : DpTV K B (rPut rows k b x) (tPut kvs k d) := by
  unfold rPut tPut
  rw [dtv_any k h]
  split
  · exact dtv_map hx h
  · exact dtv_snoc hb hx h
theorem dtv_find (k : List Int) : ∀ {rows : List Row} {kvs : List (List Int × D)} {d : D}, DpTV K B rows kvs → tGet kvs k = some d → ∃ x, (rows.find? fun x => decide (x.1 = k)) = some x ∧ Dp K B x.2.2 d
  | [], [], _, _, e => by cases e
  | p :: ps, q :: qs, d, h, e => by
    obtain ⟨h1, h2, h3, h4⟩ := h
    unfold tGet at e
    rw [List.find?_cons] at e
    by_cases z : p.1 = k
    · rw [decide_eq_true (h1.symm.trans z)] at e
      cases e
      exact ⟨p, by rw [List.find?_cons, decide_eq_true z], h3⟩
    · rw [decide_eq_false fun y => z (h1.trans y)] at e
      obtain ⟨x, e1, e2⟩ := dtv_find k h4 e
      exact ⟨x, by rw [List.find?_cons, decide_eq_false z]; exact e1, e2⟩
  | [], _ :: _, _, h, _ => h.elim
  | _ :: _, [], _, h, _ => h.elim
end
/-! ### the machine -/
theorem dtEnt_eq (P : Program) (w : World) : (dtEnt : List Int × Addr × Value → DictEntry) = entryOfKey (tupleKind (intKind P w)) := rfl
section
variable {X : Cx} {pins : List (Addr × Obj)} {σ : L2.St} {H : Hp} {s : Shared} {a : Addr} {rows : List Row}
theorem dt_at (I : Inv X pins σ H s) (e : H a = some (dtO a rows)) : dtAt s.heap a rows := (show ObjOk X.prog X.w H s.heap a (dtO a rows) from I.hok a _ e).1
theorem dt_full (I : Inv X pins σ H s) (e : H a = some (dtO a rows)) (hk : ∀ x ∈ rows, SqT X.K H x.2.1 (x.1.map V.int)) :
    rows.length ≤ sizeLine ∧ (a == sysModules) = false ∧ ∃ ys : List (List Int × Addr × Value), Paired dtRel rows ys ∧ s.heap.DictOfH (tupleKind (intKind X.prog X.w)) a ys := by
  obtain ⟨z, lo, ys, rel, o, es, ep, h1, h2, h3, h4, h5⟩ := dt_at I e
  refine ⟨z, lo, ys, rel, o, es, ep, h1, h2, h3, by rw [h4, dtEnt_eq X.prog X.w], fun y hy => ?_, h5⟩
  obtain ⟨x, m, e1, e2⟩ := rel_mem rel y hy
  rw [← e1, ← e2]
  exact I.isT (hk x m)
theorem t_getItem {A : Around} {E : Value → Shared → Prop} {Q : Value → Shared → Prop} {k : List Int} {b : Addr} {x : Row} (hu : A.units + 1 < cLine) (I : Inv X pins σ H s) (e : H a = some (dtO a rows)) (hk : ∀ x ∈ rows, SqT X.K H x.2.1 (x.1.map V.int)) (hb : SqT X.K H b (k.map V.int))
    (hx : (rows.find? fun x => decide (x.1 = k)) = some x) (h : ∀ w' s', Inv X pins σ H s' → RelV x.2.2 w' → Q w' s') : wpAny (model X.prog X.w) A (getItem (.ref a) (.ref b)) Q E s := by
  obtain ⟨_, _, ys, rel, dd⟩ := dt_full I e hk
  obtain ⟨p, e1, e2⟩ := rel_find k rel hx
  exact wpAny_getItem_heap (tupleKind_room_in1 hu) (I.isT hb) dd e1 (h _ _ (I.tok _) e2)
theorem t_setItem {A : Around} {E : Value → Shared → Prop} {Q : Unit → Shared → Prop} {k : List Int} {b : Addr} {v : V} {r : Value} (hu : A.units + 1 < cLine) (I : Inv X pins σ H s) (e : H a = some (dtO a rows)) (hk : ∀ x ∈ rows, SqT X.K H x.2.1 (x.1.map V.int)) (hb : SqT X.K H b (k.map V.int))
    (hl : rows.length < sizeLine) (rv : RelV v r) (h : ∀ s', Inv X pins σ (upd H a (dtO a (rPut rows k b v))) s' → Q () s') : wpAny (model X.prog X.w) A (setItem (.ref a) (.ref b) r) Q E s := by
  obtain ⟨z, lo, ys, rel, dd⟩ := dt_full I e hk
  refine wpAny_setItem_heap (hsz := by rw [← Paired.length rel]; exact z) (tupleKind_room_in1 hu) (I.isT hb) dd fun h' dd' hs => h _ ?_
  obtain ⟨q, es, ep, hq, h2, h3, h4, _, h5⟩ := dd'
  refine d_write I (by rw [e]; exact True.intro) hs ⟨q, hq⟩ (dtO_new ⟨?_, lo, _, rel_put k rv rel, q, es, ep, hq, h2, h3, h4, h5⟩)
  have := rput_len (rows := rows) (k := k) (b := b) (v := v)
  omega
end
def tTNew : TE := fun _ H Q => ∀ p, H p = none → Q (.ref p) (upd H p (dtO p []))
section
variable {X : Cx} {pos pos' : Pos} {o i value : Expr} {td ty tv : TE}
theorem pe_tnew : PE X (.Dict [] [] pos) tTNew := ⟨fun pins s σ H Q I h =>
  wpAny_Dict_empty ⟨.ref s.heap.objs.size, _, I.laid (a := s.heap.objs.size) (o := dtO s.heap.objs.size []) (t' := s.toks) (fun _ _ q => Heap.get?_push_of_some _ q) (Nat.le_refl _)
    (dtO_new ⟨Nat.zero_le _, beq_eq_false_iff_ne.mpr (Ne.symm (Nat.ne_of_lt I.big)), [], .nil, _, #[], 0, Heap.get?_push_size _ rfl, ⟨rfl, rfl, rfl⟩, rfl, rfl, List.nodup_nil⟩), rfl, h _ (I.hok.fresh (Nat.le_refl _))⟩⟩
def rTGet (K : PySem.W.Frag) (td ty : TE) : TE := fun σ H Q => td σ H fun x H1 => ty σ H1 fun y H2 => ∃ (a b : Addr) (rows : List Row) (k : List Int) (r : Row), x = .ref a ∧ y = .ref b ∧ H2 a = some (dtO a rows) ∧ (∀ x ∈ rows, SqT K H2 x.2.1 (x.1.map V.int)) ∧ SqT K H2 b (k.map V.int) ∧
  (rows.find? fun x => decide (x.1 = k)) = some r ∧ Q r.2.2 H2
def sTPut (K : PySem.W.Frag) (td ty tv : TE) : TS := fun D σ H => tv σ H fun v H1 => td σ H1 fun x H2 => ty σ H2 fun y H3 => ∃ (a b : Addr) (rows : List Row) (k : List Int), x = .ref a ∧ y = .ref b ∧ H3 a = some (dtO a rows) ∧ (∀ x ∈ rows, SqT K H3 x.2.1 (x.1.map V.int)) ∧ SqT K H3 b (k.map V.int) ∧
  rows.length < sizeLine ∧ D.nx σ (upd H3 a (dtO a (rPut rows k b v)))
theorem pe_tget (hu : X.A.units + 1 < cLine) (ho : PE X o td) (hi : PE X i ty) (hs : NoSl i) : PE X (.Subscript o i pos) (rTGet X.K td ty) := by
  refine ⟨fun pins s σ H Q I h => ?_⟩
  refine subD_of PySem.F.slot_dict_getitem.lookup hs (thn (ho.run pins s σ H _ I h) fun u s1 ⟨x, H1, I1, rx, q1⟩ => thn (hi.run pins s1 σ H1 _ I1 q1) fun iv s2 ⟨y, H2, I2, ry, a, b, rows, k, r, ex, ey, e, hk, hb, hx, q2⟩ => ?_)
  subst ex ey
  obtain rfl : u = Value.ref a := rx
  obtain rfl : iv = Value.ref b := ry
  obtain ⟨_, _, ys, _, dd⟩ := dt_full I2 e hk
  exact ⟨dd.typeIs, t_getItem hu I2 e hk hb hx fun w' s3 I3 rw' => ⟨_, H2, I3, rw', q2⟩⟩
theorem ps_tput (hu : X.A.units + 1 < cLine) (ho : PE X o td) (hi : PE X i ty) (hv : PE X value tv) (hs : swapsWith value (some (.Subscript o i pos')) pos.line X.env = pure false) :
    PS X (.Assign [.Subscript o i pos'] value pos) (sTPut X.K td ty tv) := by
  refine ⟨fun pins s σ H D I h => ?_⟩
  refine wpAny_Assign_Subscript (thn (hv.run pins s σ H _ I h) fun r s1 ⟨v, H1, I1, rv, q1⟩ => thn (ho.run pins s1 σ H1 _ I1 q1) fun u s2 ⟨x, H2, I2, rx, q2⟩ => thn (hi.run pins s2 σ H2 _ I2 q2) fun iv s3 ⟨y, H3, I3, ry, a, b, rows, k, ex, ey, e, hk, hb, hl, q3⟩ => ?_) hs
  subst ex ey
  obtain rfl : u = Value.ref a := rx
  obtain rfl : iv = Value.ref b := ry
  exact t_setItem hu I3 e hk hb hl rv fun s4 I4 => ⟨σ, _, I4, q3⟩
end
/-! ### sorted(d) -/
section
variable {X : Cx}
open Classical in
theorem cr_sortDT (hcalm : X.calm = true) : CallR X (.builtin "sorted") (fun xs H Q => ∃ (a : Addr) (rows : List Row), xs = [.ref a] ∧ H a = some (dtO a rows) ∧ (∀ x ∈ rows, SqT X.K H x.2.1 (x.1.map V.int)) ∧ (2 ≤ rows.length → ∀ x ∈ rows, x.1 ≠ []) ∧
    ∀ (ys : List Row) (p : Addr), (rows.map (·.1)).Nodup → ys.Perm rows → ys.Pairwise (fun x y => HT.lexLt x.1 y.1 = true) → H p = none → Q (.ref p) (upd H p (.lst (ys.map fun x => V.ref x.2.1)))) := by
  intro pins s σ H xs us Q I r q
  obtain ⟨a, rows, ex, hd, hk, hne, q⟩ := q
  subst ex
  obtain ⟨u, eu, rx⟩ := vals1 r
  subst eu
  cases rx
  obtain ⟨z, lo, ys, rel, o, es, ep, ho, hx, hdat, hes, hnd⟩ := dt_at I hd
  have hl : rows.length = ys.length := Paired.length rel
  have hesl : es.size = ys.length := by rw [← Array.length_toList, hes, List.length_map]
  have nd : (rows.map (·.1)).Nodup := by
    have e := rel_keys rel
    have e1 : (ys.map (fun y => (y.1, y.2.1))).map (·.1) = (rows.map fun x => (x.1, x.2.1)).map (·.1) := congrArg _ e
    rw [List.map_map, List.map_map] at e1
    have e2 : ys.map (·.1) = rows.map (·.1) := e1
    rw [← e2]; exact hnd
  have raw : s.heap.DictRaw a es ep := ⟨o, ho, hx, hdat⟩
  let f : Row → Value := fun x => Value.ref x.2.1
  let k : Value → List Int := fun v => if h : ∃ x ∈ rows, f x = v then h.choose.1 else []
  have key : ∀ x ∈ rows, k (f x) = x.1 := fun x hm => by
    have ex : ∃ y ∈ rows, f y = f x := ⟨x, hm, rfl⟩
    show (if h : ∃ y ∈ rows, f y = f x then h.choose.1 else []) = x.1
    rw [dif_pos ex]
    obtain ⟨m, e⟩ := ex.choose_spec
    generalize ex.choose = y at m e ⊢
    have e0 : y.2.1 = x.2.1 := Value.ref.inj e
    have h1 := hk y m
    have h2 := hk x hm
    rw [e0] at h1
    have e3 := I.tuple_inj h1 h2
    exact List.map_inj_right (fun _ _ z => V.int.inj z) |>.mp e3
  refine Calls.call_function_entry PyProof.Rows.kind_sorted PyProof.Rows.plain_sorted PyProof.Rows.entry_sorted (PyProof.Rows.args_sorted1 _) ?_
  unfold Builtin.«sorted»
  refine wpAny_bind (m := checkCount "sorted" 1 1 _) (wpAny_pure ?_)
  refine wpAny_bind (PySem.W.kdu_collect (A := X.A.in1) (PySem.KdlSrc.rawDict lo) (I.ok.hd hcalm) raw (by omega) fun h' tk acc hk' hacc => ?_)
  have hal : acc.toList = rows.map f := by
    refine List.ext_getElem? fun j => ?_
    by_cases hj : j < acc.toList.length
    · obtain ⟨v, hv⟩ : ∃ v, acc.toList[j]? = some v := ⟨_, List.getElem?_eq_getElem hj⟩
      obtain ⟨hi, ev⟩ := hacc.2 j v (by rw [← Array.getElem?_toList]; exact hv)
      have ekj : es.toList[j]? = some es[j] := by rw [Array.getElem?_toList]; exact Array.getElem?_eq_getElem hi
      rw [hes, List.getElem?_map] at ekj
      cases ey : ys[j]? with
      | none => rw [ey] at ekj; cases ekj
      | some y =>
        rw [ey] at ekj
        have e2 : dtEnt y = es[j] := Option.some.inj ekj
        have e3 := congrArg (fun l => l[j]?) (rel_keys rel)
        simp only [List.getElem?_map, ey, Option.map_some] at e3
        rw [hv, List.getElem?_map]
        cases er : rows[j]? with
        | none => rw [er] at e3; cases e3
        | some x =>
          rw [er] at e3
          have e4 : y.2.1 = x.2.1 := (Prod.mk.inj (Option.some.inj e3)).2
          rw [Option.map_some, ev, ← e2]
          show some (Value.ref y.2.1) = some (Value.ref x.2.1)
          rw [e4]
    · have hsz : acc.toList.length = rows.length := by rw [Array.length_toList, hacc.1, hesl, hl]
      rw [List.getElem?_eq_none (by omega), List.getElem?_eq_none (by rw [List.length_map]; omega)]
  rw [hal]
  have hzl : (rows.map f).length ≤ sizeLine := by rw [List.length_map]; exact z
  have I1 : Inv X pins σ H { s with heap := h', toks := tk } := I.kept hk'
  refine wpAny_bind (wpAny_newList ?_ hzl)
  have hoL : (h'.push (seqObj "list" (rows.map f).toArray 0)).get? h'.objs.size = some (seqObj "list" (rows.map f).toArray 0) := Heap.get?_push_size _ rfl
  show wpAny _ _ _ _ _ { s with heap := h'.push (seqObj "list" (rows.map f).toArray 0), toks := tk }
  have tup : ∀ v ∈ rows.map f, ∃ x ∈ rows, v = f x ∧ TupI (h'.push (seqObj "list" (rows.map f).toArray 0)) v (k v) := fun v hv => by
    obtain ⟨x, hm, rfl⟩ := List.mem_map.mp hv
    refine ⟨x, hm, rfl, ?_⟩
    rw [key x hm]
    obtain ⟨its, rv, ⟨oo, g1, g2, n, g3⟩, _⟩ := I1.tuple (hk x hm)
    exact ⟨x.2.1, its.toArray, rfl, ⟨oo, Heap.get?_push_of_some _ g1, g2, n, g3⟩, vals_int_are rv⟩
  refine wpAny_bind (wpAny_holding (wpAny_call_entry PyProof.Rows.slot_list_sort ⟨_, hoL, rfl⟩ PyProof.Rows.entry_list_sort
    (SrtO.list_sort_ord (s := { s with heap := h'.push (seqObj "list" (rows.map f).toArray 0), toks := tk }) (ltv := fun v u => HT.lexLt (k v) (k u)) (NtL.swo_lexL k) hoL hzl (fun h2 => ?_) fun out hs hb => ⟨_, rfl, ?_⟩)
    (PyProof.Rows.args_list_sort _)))
  · refine tint_sortable h2 (fun v hv => ?_) fun oo e => ?_
    · obtain ⟨x, hm, ev, ht⟩ := tup v hv
      refine ⟨ht, ?_⟩
      rw [ev, key x hm]
      exact hne (by rw [List.length_map] at h2; exact h2) x hm
    · have e' : some oo = some (seqObj "list" (rows.map f).toArray 0) := e.symm.trans hoL
      cases e'
      intro c
      exact absurd (Value.type.inj c) (by decide)
  obtain ⟨e', he'⟩ := PyProof.Rows.sortedHeap_at (vs := rows.map f) (out := out.toArray) hoL
  obtain ⟨zs, p1, p2⟩ := perm_lift hb.perm rows rfl
  have inz : ∀ x ∈ zs, x ∈ rows := fun x m => p1.mem_iff.mp m
  have pw : zs.Pairwise (fun x y => HT.lexLt x.1 y.1 = true) := by
    have c : (zs.map f).Pairwise fun x y => HT.lexLt (k y) (k x) = false := by rw [p2]; exact hs
    have c2 := List.pairwise_map.mp c
    have ndz : (zs.map (·.1)).Nodup := ((p1.map (·.1)).nodup_iff).mpr nd
    refine List.Pairwise.imp_of_mem (fun {x y} hx' hy' h => ?_) (c2.and (List.pairwise_map.mp ndz))
    have h1 := h.1
    rw [key x (inz x hx'), key y (inz y hy')] at h1
    exact lexLt_tri h.2 h1
  have hlen : (zs.map fun x => V.ref x.2.1).length ≤ sizeLine := by
    rw [List.length_map, p1.length_eq]
    exact z
  have rv : Vals (zs.map fun x => V.ref x.2.1) out := by
    rw [← p2]
    have go : ∀ l : List Row, Vals (l.map fun x => V.ref x.2.1) (l.map f) := fun l => by
      induction l with
      | nil => exact .nil
      | cons x l ih => exact .cons rfl ih
    exact go zs
  refine wpAny_pure ⟨_, rfl, .ref h'.objs.size, upd H h'.objs.size (.lst (zs.map fun x => V.ref x.2.1)), I1.laid (t' := tk) (fun b u e => ?_) (Nat.le_refl _)
    (show ObjOk X.prog X.w _ _ _ (.lst (zs.map fun x => V.ref x.2.1)) from ⟨hlen, out, e', rv, he'⟩), rfl, q zs _ nd p1 pw (I1.hok.fresh (Nat.le_refl _))⟩
  have hb' : b < h'.objs.size := Heap.lt_size e
  rw [PyProof.Rows.sortedHeap_old (Nat.ne_of_lt hb') (by rw [size_push']; exact Nat.lt_succ_of_lt hb')]
  exact Heap.get?_push_of_some _ e
end
/-! ### the level of data -/
@[reducible] def itD (ns : List Int) : D := .tuple (ns.map PyData.int)
theorem itOf_some : ∀ {ds : List D} {ns : List Int}, intsOf ds = some ns → ds = ns.map PyData.int
  | [], ns, h => by cases h; rfl
  | .int i :: ds, ns, h => by
    have h : (intsOf ds).map (i :: ·) = some ns := h
    obtain ⟨l, h1, h2⟩ := Option.map_eq_some_iff.mp h
    subst h2
    rw [List.map_cons, itOf_some h1]
  | .none :: _, _, h => by cases h
  | .bool _ :: _, _, h => by cases h
  | .str _ :: _, _, h => by cases h
  | .list _ :: _, _, h => by cases h
  | .tuple _ :: _, _, h => by cases h
  | .dict _ :: _, _, h => by cases h
theorem intsT_some {d : D} {ns : List Int} (h : intsT d = some ns) : d = itD ns := by
  unfold intsT at h
  split at h
  · rw [itOf_some h]
  · cases h
@[reducible] def wJNew : WE := fun ρ Q _ => Q (.own 0 (.dtt [])) ρ
@[reducible] def wJIx (i : Nat) (wk : WE) : WE := fun ρ Q E => match rget ρ i with
  | .own _ (.dtt _) => wk ρ (fun c1 ρ1 => match c1, rget ρ1 i with
    | .v k, .own _ (.dtt kvs) => optK (intsT k) fun kk => optK (tGet kvs kk) fun d => Q (.v d) ρ1
    | _, _ => False) E
  | _ => False
@[reducible] def wJPut (i : Nat) (we wk : WE) : WS := fun DD ρ => we ρ (fun c ρ1 => match rget ρ1 i with
  | .own _ (.dtt _) => wk ρ1 (fun c2 ρ2 => match frzC c, c2, rget ρ2 i with
    | .v d, .v k, .own t (.dtt kvs) => optK (intsT k) fun kk => kvs.length < sizeLine ∧ DD.nx (rset ρ2 i (.own t (.dtt (tPut kvs kk d))))
    | _, _, _ => False) DD.ex
  | _ => False) DD.ex
@[reducible] def wJSort (i : Nat) : WE := fun ρ Q _ => match rget ρ i with
  | .own _ (.dtt kvs) => (2 ≤ kvs.length → ∀ k ∈ kvs.map (·.1), k ≠ []) ∧ ∀ ys : List (List Int), (kvs.map (·.1)).Nodup → ys.Perm (kvs.map (·.1)) → ys.Pairwise (fun x y => HT.lexLt x y = true) → Q (.own 0 (.lst (ys.map itD))) ρ
  | _ => False
section
variable {K : PySem.W.Frag} {g : G} {σ : L2.St} {vs : List V} {H H' : Hp} {ρ : Rho} {cs : List C} {i t : Nat}
theorem own_dtt {kvs : List (List Int × D)} (h : SR K g σ vs H ρ cs) (e : rget ρ i = .own t (.dtt kvs)) : ∃ a ks, σ[i]? = some (some (.ref a)) ∧ H a = some (dtO a ks) ∧ DpTV K (hide H (tot σ vs ρ cs ++ g.P0)) ks kvs := by
  obtain ⟨a, e1, _, ⟨ks, q1, q2⟩, _⟩ := h.own e
  exact ⟨a, ks, e1, q1, q2⟩
theorem key_tup {B : Hp} {x : V} {kd : D} {ns : List Int} (h : Dp K B x kd) (e : intsT kd = some ns) : ∃ b, x = .ref b ∧ SqT K B b (ns.map V.int) := by
  rw [intsT_some e] at h
  cases h with
  | tup hs hd =>
    have e2 := DpAll.of_ints hd
    rw [e2] at hs
    exact ⟨_, rfl, hs⟩
end
section
variable {X : Cx} {g : G} {W : WX} {e k d : Expr} {we wk wd : WE} {i : Nat} {x : Str} {p apos pos p2 : Pos}
theorem ee_jnew : EE X g W (.Dict [] [] pos) wJNew := ⟨_, pe_tnew, fun σ vs H ρ cs QD ED Q hS hw hX hQ => fun a n =>
  hQ _ _ _ ρ (SR.res (c := .own 0 (.dtt [])) hS (same_new n) ⟨rfl, a, rfl, n, [], upd_same, trivial⟩) hw⟩
theorem ee_jix (hu : X.A.units + 65 < cLine) (hx : PE X (.Name x p) (tVar i)) (hk : EE X g W k wk) (hs : NoSl k := by exact fun _ _ => rfl) : EE X g W (.Subscript (.Name x p) k pos) (wJIx i wk) := by
  obtain ⟨t1, p1, s1⟩ := hk.ex
  refine ⟨_, pe_tget (by omega) hx p1 hs, fun σ vs H ρ cs QD ED Q hS hw hX hQ => ?_⟩
  unfold wJIx at hw
  split at hw
  · rename_i t0 kvs0 e0
    obtain ⟨a, ks, e1, e2, _⟩ := own_dtt hS e0
    refine ⟨.ref a, e1, ?_⟩
    refine s1 σ vs H ρ cs _ ED _ hS hw hX fun y H1 c1 ρ1 S1 q1 => ?_
    split at q1
    · rename_i kd t' kvs eo
      obtain ⟨a', ks', e3, e4, e5⟩ := own_dtt S1 eo
      rw [e1] at e3
      cases e3
      cases ek : intsT kd with
      | none => rw [ek] at q1; exact q1.elim
      | some kk =>
        rw [ek] at q1
        cases eg : tGet kvs kk with
        | none =>
          have q1 : optK (tGet kvs kk) _ := q1
          rw [eg] at q1
          exact q1.elim
        | some dd =>
          have q1 : optK (tGet kvs kk) fun d => QD (.v d) ρ1 := q1
          rw [eg] at q1
          have q1 : QD (.v dd) ρ1 := q1
          obtain ⟨b, rfl, hb⟩ := key_tup S1.top ek
          obtain ⟨r, h1, h2⟩ := dtv_find kk e5 eg
          refine ⟨a, b, ks', kk, r, rfl, rfl, e4, fun z hz => seqT_same same_hide (dtv_mem e5 z hz), seqT_same same_hide hb, h1, hQ _ _ (.v dd) ρ1 (SR.resV S1.pop (Same.refl _) (dp_up h2)) q1⟩
    · exact q1.elim
  · exact hw.elim
theorem es_jput (hu : X.A.units + 65 < cLine) (hL : g.L i = true) (hx : PE X (.Name x p) (tVar i)) (h : EE X g W e we) (hk : EE X g W k wk) (hs : swapsWith e (some (.Subscript (.Name x p) k p2)) pos.line X.env = pure false := by rfl) :
    ES X g W (.Assign [.Subscript (.Name x p) k p2] e pos) (wJPut i we wk) := by
  obtain ⟨t, q, s⟩ := h.ex
  obtain ⟨t2, q2, s2⟩ := hk.ex
  refine ⟨_, ps_tput (by omega) hx q2 q hs, fun σ vs H ρ cs DD D hS hp hw hE => ?_⟩
  refine s σ vs H ρ cs _ _ _ hS hw (hE.ex σ) fun y H1 c ρ1 S1 z1 => ?_
  split at z1
  · rename_i t0 ds0 e0
    obtain ⟨a, ks, e1, _, _⟩ := own_dtt S1 e0
    refine ⟨.ref a, e1, ?_⟩
    refine s2 σ (y :: vs) H1 ρ1 (c :: cs) _ _ _ S1 z1 (hE.ex σ) fun z H2 c2 ρ2 S2 z2 => ?_
    split at z2
    · rename_i dd kd t' kvs ec eo
      have e5 := S2.top
      have S3 : SR X.K g σ (y :: vs) H2 ρ2 (.v dd :: cs) := by
        have := S2.pop.frzTop
        rw [ec] at this
        exact this
      obtain ⟨a', ks', e3, e4, e6⟩ := own_dtt S3.pop eo
      rw [e1] at e3
      cases e3
      cases ek : intsT kd with
      | none => rw [ek] at z2; exact z2.elim
      | some kk =>
        rw [ek] at z2
        have z2 : kvs.length < sizeLine ∧ DD.nx (rset ρ2 i (.own t' (.dtt (tPut kvs kk dd)))) := z2
        obtain ⟨b, rfl, hb⟩ := key_tup e5 ek
        refine ⟨a, b, ks', kk, rfl, rfl, e4, fun z hz => seqT_same same_hide (dtv_mem e6 z hz), seqT_same same_hide hb, by rw [dtv_len e6]; exact z2.1, ?_⟩
        have hb2 : SqT X.K (hide H2 (tot σ vs ρ2 cs ++ g.P0)) b (kk.map V.int) := by
          obtain ⟨b', eb, hb'⟩ := key_tup (dp_up e5) ek
          cases eb
          exact hb'
        have S4 := S3.pop.mutSlot (H' := upd H2 a (dtO a (rPut ks' kk b y))) eo e1 hL (fun b u n z => by rw [upd_ne n]; exact z) (o' := .dtt (tPut kvs kk dd)) ⟨_, upd_same, dtv_put hb2 S3.top e6⟩
        exact hE.nx σ _ _ S4 z2.2
    · exact z2.elim
  · exact z1.elim
theorem ee_jsort (hc : X.calm = true) (hg : Gl X "sorted") (hm : X.mg "sorted" = none) (hx : PE X (.Name x p) (tVar i)) (he : starEach [.Name x p] X.env = (false, eval (.Name x p) X.env) :: starEach [] X.env := by rfl) (hpl : (backTo pos (starEach [] X.env)).any (·.1) = false := by rfl) :
    EE X g W (.Call (.Name "sorted" p2) [.Name x p] [] pos) (wJSort i) := by
  refine ⟨_, pe_callB (cr_sortDT hc) hg hm (by decide +kernel) (pa_cons hx pa_nil he) (by decide) (by decide) he hpl, fun σ vs H ρ cs QD ED Q hS hw hX hQ => ?_⟩
  unfold wJSort at hw
  split at hw
  · rename_i t0 kvs e0
    obtain ⟨a, ks, e1, e2, e3⟩ := own_dtt hS e0
    refine ⟨.ref a, e1, a, ks, rfl, e2, fun z hz => seqT_same same_hide (dtv_mem e3 z hz), fun h2 z hz => ?_, fun ys pp nd q1 q2 n => ?_⟩
    · exact hw.1 (by rw [← dtv_len e3]; exact h2) _ (by rw [← dtv_keys e3]; exact List.mem_map.mpr ⟨z, hz, rfl⟩)
    · have pk : (ys.map (·.1)).Perm (kvs.map (·.1)) := by rw [← dtv_keys e3]; exact q1.map _
      have r := hw.2 (ys.map (·.1)) (by rw [← dtv_keys e3]; exact nd) pk (List.pairwise_map.mpr q2)
      refine hQ _ _ _ ρ (SR.res hS (same_new n) (new_lst n ?_)) r
      have all : ∀ l : List Row, (∀ x ∈ l, x ∈ ks) → DpAll X.K (hide H (tot σ vs ρ cs ++ g.P0)) (l.map fun x => V.ref x.2.1) ((l.map (·.1)).map itD) := fun l => by
        induction l with
        | nil => exact fun _ => .nil
        | cons x l ih => exact fun h => .cons (.tup (dtv_mem e3 x (h x (.head _))) (DpAll.ints _)) (ih fun z hz => h z (.tail _ hz))
      exact all ys fun x m => q1.mem_iff.mp m
  · exact hw.elim
end
end DL

set_option Elab.async false
set_option linter.all false
set_option maxRecDepth 100000
set_option maxHeartbeats 4000000
/-! k40: lots by all days -/
namespace K40
open PySem PySem.Spec PyProof.Rows L2 DL CFH CFCl CFRu CFWd CFBk CFTu CFTd CFPl CFRa CFRb CFSp CFEd CFRh CFNn CFLo CFLc CFFr CFCn CFRo CFLs CFFw CFWh CFCg CFLy
structure Fit (ls : List Lyr) : Prop where
  ok : ∀ l ∈ ls, LyrOk l
  l80 : ls.length ≤ 80
  r72 : rnd ls ≤ 72
  cn : ∀ cs, CutsOk ls cs → cs.length ≤ 26
  few : ∀ cs, CutsOk ls cs → (cellL ls cs).length ≤ 2000
theorem fit_ls {bg : Bool} {ws : List Str} {ls : List Lyr} (h : LsOk bg ws ls) : Fit ls := ⟨h.ok, by have := h.l4; omega, ls_rnd h, fun cs hc => by have := cuts_num hc; have := ls_turns h; omega, fun cs hc => ls_few h hc⟩
structure TwL (l : Lyr) : Prop where
  ok : LyrOk l
  d3 : l.days = 1 ∨ l.days = 2 ∨ l.days = 3
  s6 : l.start % 360 = 0
  t6 : ∀ t ∈ l.turns, t.1 % 360 = 0 ∧ t.2.1 % 360 = 0
theorem fit_tw {ls : List Lyr} (h : ∀ l ∈ ls, TwL l) (l80 : ls.length ≤ 80) : Fit ls := by
  have dv : rnd ls ∣ 6 := rnd_least fun l hl => by
    rcases (h l hl).d3 with e | e | e <;> rw [e] <;> decide
  have r6 : rnd ls ≤ 6 := Int.le_of_dvd (by decide) dv
  have c5 : ∀ cs, CutsOk ls cs → cs.length ≤ 5 := fun cs hc => by
    refine Nat.le_trans (sub_len (m := [0, 360, 720, 1080, 1440]) (up_nodup hc.up) fun k hk => ?_) (Nat.le_refl _)
    have six : k = 0 ∨ k = 1440 ∨ (k % 360 = 0 ∧ 0 ≤ k ∧ k < 1440) := by
      rcases (hc.mem k).mp hk with e | e | ⟨l, hl, t, ht, e⟩
      · exact .inl e
      · exact .inr (.inl e)
      · obtain ⟨a, b⟩ := (h l hl).t6 t ht
        have s := (h l hl).s6
        refine .inr (.inr ?_)
        rcases e with e | e <;> omega
    simp only [List.mem_cons, List.not_mem_nil, or_false]
    omega
  refine ⟨fun l hl => (h l hl).ok, l80, by omega, fun cs hc => by have := c5 cs hc; omega, fun cs hc => ?_⟩
  have a := cell_len (fun l hl => (h l hl).ok.d1) (cs := cs)
  have b := c5 cs hc
  have c : (cs.length - 1) * (rnd ls).toNat ≤ 4 * 6 := Nat.mul_le_mul (by omega) (by omega)
  omega
theorem tw_none {w : Str} {days x : Int} (hw : WordOk w) (d3 : days = 1 ∨ days = 2 ∨ days = 3) (x0 : 0 ≤ x) (x1 : x < 4 * days) : TwL ⟨w, 360 * x, days, []⟩ :=
  ⟨⟨hw, by show 1 ≤ days; omega, by show days ≤ 60; omega, by show 0 ≤ 360 * x; omega, by show 360 * x < 1440 * days; omega, Nat.zero_le _, trivial⟩, d3, by show 360 * x % 360 = 0; omega, fun t ht => nomatch ht⟩
theorem tw_one {w v : Str} {days x y : Int} (hw : WordOk w) (hv : WordOk v) (d3 : days = 1 ∨ days = 2 ∨ days = 3) (x0 : 0 ≤ x) (x1 : x < 4 * days) (y0 : 0 ≤ y) (y1 : y < 4 * days) : TwL ⟨w, 360 * x, days, [(360 * y, 360 * y + 360, v)]⟩ :=
  ⟨⟨hw, by show 1 ≤ days; omega, by show days ≤ 60; omega, by show 0 ≤ 360 * x; omega, by show 360 * x < 1440 * days; omega, by show 1 ≤ 12; omega, by show 0 ≤ 360 * y; omega, by show 360 * y < 360 * y + 360; omega, by show 360 * y + 360 ≤ 1440 * days; omega, hv, trivial⟩, d3, by show 360 * x % 360 = 0; omega, fun t ht => by
    rw [List.mem_singleton.mp ht]
    exact ⟨by show 360 * y % 360 = 0; omega, by show (360 * y + 360) % 360 = 0; omega⟩⟩
theorem tw_last {w v : Str} {days x : Int} (hw : WordOk w) (hv : WordOk v) (d3 : days = 1 ∨ days = 2 ∨ days = 3) (x0 : 0 ≤ x) (x1 : x < 4 * days) : TwL ⟨w, 360 * x, days, [(0, 720 * days, v)]⟩ :=
  ⟨⟨hw, by show 1 ≤ days; omega, by show days ≤ 60; omega, by show 0 ≤ 360 * x; omega, by show 360 * x < 1440 * days; omega, by show 1 ≤ 12; omega, Int.le_refl _, by show 0 < 720 * days; omega, by show 720 * days ≤ 1440 * days; omega, hv, trivial⟩, d3, by show 360 * x % 360 = 0; omega, fun t ht => by
    rw [List.mem_singleton.mp ht]
    exact ⟨rfl, by show (720 * days) % 360 = 0; omega⟩⟩
theorem cut80 {ls : List Lyr} (h : ls.length ≤ 81) : ∃ ks : List Lyr, DL.cutD (ls.map lyrD) (some (-80)) none = ks.map lyrD ∧ (∀ l ∈ ks, l ∈ ls) ∧ ks.length ≤ 80 := by
  refine ⟨(ls.drop (HT.sIx (ls.map lyrD).length 0 (some (-80)))).take (HT.sIx (ls.map lyrD).length (ls.map lyrD).length none - HT.sIx (ls.map lyrD).length 0 (some (-80))), ?_, fun l hl => List.mem_of_mem_drop (List.mem_of_mem_take hl), ?_⟩
  · unfold DL.cutD
    rw [List.map_take, List.map_drop]
  · rw [List.length_take, List.length_drop]
    by_cases z : ls.length ≤ 80
    · omega
    · have e : ls.length = 81 := by omega
      have e1 : HT.sIx (ls.map lyrD).length 0 (some (-80)) = 1 := by rw [List.length_map, e]; rfl
      rw [e1, e]
      exact Nat.min_le_right _ _
/-! ### a dict by all days -/
structure Met (ls : List Lyr) (lo hi : Int) (n : Nat) (kvs : List (List Int × D)) : Prop where
  nd : (kvs.map (·.1)).Nodup
  len : kvs.length ≤ n
  mem : ∀ k, k ∈ kvs.map (·.1) ↔ ∃ d : Nat, d < n ∧ (lotOf ls lo (d : Int)).1 = k
  val : ∀ d : Nat, d < n → tGet kvs (lotOf ls lo (d : Int)).1 = some (lotD ⟨lo, hi, lotOf ls lo (d : Int)⟩)
theorem met_nil {ls : List Lyr} {lo hi : Int} : Met ls lo hi 0 [] := ⟨List.nodup_nil, Nat.le_refl _, fun k => ⟨(fun h => nomatch h), fun ⟨d, h, _⟩ => absurd h (Nat.not_lt_zero _)⟩, fun d h => absurd h (Nat.not_lt_zero _)⟩
theorem tget_pos {p : List Int × D} {r : List (List Int × D)} {k : List Int} (e : p.1 = k) : tGet (p :: r) k = some p.2 := by simp [tGet, List.find?_cons, e]
theorem tget_neg {p : List Int × D} {r : List (List Int × D)} {k : List Int} (e : ¬ p.1 = k) : tGet (p :: r) k = tGet r k := by simp [tGet, List.find?_cons, e]
theorem tget_mem {k : List Int} : ∀ {kvs : List (List Int × D)}, (kvs.any fun kv => decide (kv.1 = k)) = true ↔ k ∈ kvs.map (·.1)
  | [] => ⟨(fun h => nomatch h), (fun h => nomatch h)⟩
  | p :: r => by
    rw [List.any_cons, Bool.or_eq_true, List.map_cons, List.mem_cons, tget_mem (kvs := r), decide_eq_true_eq]
    exact ⟨fun h => h.imp Eq.symm id, fun h => h.imp Eq.symm id⟩
theorem tget_map (k j : List Int) (y : D) : ∀ kvs : List (List Int × D), tGet (kvs.map fun kv => if kv.1 = k then (kv.1, y) else kv) j = (tGet kvs j).map fun x => if j = k then y else x
  | [] => rfl
  | p :: r => by
    have ih := tget_map k j y r
    rw [List.map_cons]
    by_cases h : p.1 = k
    · rw [if_pos h]
      by_cases e : p.1 = j
      · rw [tget_pos (p := (p.1, y)) e, tget_pos e, Option.map_some, if_pos (e.symm.trans h)]
      · rw [tget_neg (p := (p.1, y)) e, tget_neg e, ih]
    · rw [if_neg h]
      by_cases e : p.1 = j
      · rw [tget_pos (p := p) e, tget_pos e, Option.map_some, if_neg (fun z => h (e.trans z))]
      · rw [tget_neg (p := p) e, tget_neg e, ih]
theorem tget_snoc (k j : List Int) (y : D) : ∀ kvs : List (List Int × D), ¬ k ∈ kvs.map (·.1) → tGet (kvs ++ [(k, y)]) j = if j = k then some y else tGet kvs j
  | [], _ => by
    by_cases e : k = j
    · rw [if_pos e.symm]; exact tget_pos (p := (k, y)) e
    · rw [if_neg (fun z => e z.symm)]; exact tget_neg (p := (k, y)) e
  | p :: r, hn => by
    rw [List.cons_append]
    rw [List.map_cons, List.mem_cons, not_or] at hn
    have ih := tget_snoc k j y r hn.2
    by_cases e : p.1 = j
    · rw [tget_pos e, tget_pos e, if_neg (fun z => hn.1 (e.trans z).symm)]
    · rw [tget_neg e, tget_neg e, ih]
theorem tput_get {kvs : List (List Int × D)} {k j : List Int} {y : D} (h : k ∈ kvs.map (·.1) → (tGet kvs k).isSome = true) : tGet (tPut kvs k y) j = if j = k then some y else tGet kvs j := by
  unfold tPut
  by_cases a : (kvs.any fun kv => decide (kv.1 = k)) = true
  · rw [if_pos a, tget_map]
    have hm := h (tget_mem.mp a)
    by_cases e : j = k
    · obtain ⟨x, hx⟩ := Option.isSome_iff_exists.mp hm
      rw [if_pos e, e, hx, Option.map_some, if_pos rfl]
    · rw [if_neg e]
      cases tGet kvs j with
      | none => rfl
      | some x => rw [Option.map_some, if_neg e]
  · rw [if_neg a]
    exact tget_snoc k j y kvs fun z => a (tget_mem.mpr z)
theorem tput_keys {kvs : List (List Int × D)} {k : List Int} {y : D} : (tPut kvs k y).map (·.1) = if k ∈ kvs.map (·.1) then kvs.map (·.1) else kvs.map (·.1) ++ [k] := by
  unfold tPut
  by_cases a : (kvs.any fun kv => decide (kv.1 = k)) = true
  · rw [if_pos a, if_pos (tget_mem.mp a), List.map_map]
    refine List.map_congr_left fun p _ => ?_
    show (if p.1 = k then (p.1, y) else p).1 = p.1
    split <;> rfl
  · rw [if_neg a, if_neg fun z => a (tget_mem.mpr z), List.map_append]; rfl
theorem met_put {ls : List Lyr} {lo hi : Int} {n : Nat} {kvs : List (List Int × D)} (h : Met ls lo hi n kvs) : Met ls lo hi (n + 1) (tPut kvs (lotOf ls lo (n : Int)).1 (lotD ⟨lo, hi, lotOf ls lo (n : Int)⟩)) := by
  have isv : ∀ k, k ∈ kvs.map (·.1) → (tGet kvs k).isSome = true := fun k hk => by
    obtain ⟨d, hd, e⟩ := (h.mem k).mp hk
    rw [← e, h.val d hd]; rfl
  refine ⟨?_, ?_, fun k => ?_, fun d hd => ?_⟩
  · rw [tput_keys]
    split
    · exact h.nd
    · rename_i z
      refine List.nodup_append.mpr ⟨h.nd, by simp, fun a ha b hb e => ?_⟩
      rw [List.mem_singleton.mp hb] at e
      exact z (e ▸ ha)
  · have e := congrArg List.length (tput_keys (kvs := kvs) (k := (lotOf ls lo (n : Int)).1) (y := lotD ⟨lo, hi, lotOf ls lo (n : Int)⟩))
    rw [List.length_map] at e
    rw [e]
    have := h.len
    split
    · rw [List.length_map]; omega
    · rw [List.length_append, List.length_map, List.length_singleton]; omega
  · rw [tput_keys]
    have key : k ∈ (if (lotOf ls lo (n : Int)).1 ∈ kvs.map (·.1) then kvs.map (·.1) else kvs.map (·.1) ++ [(lotOf ls lo (n : Int)).1]) ↔ k ∈ kvs.map (·.1) ∨ k = (lotOf ls lo (n : Int)).1 := by
      split
      · rename_i z
        exact ⟨.inl, fun y => y.elim id fun e => e ▸ z⟩
      · rw [List.mem_append, List.mem_singleton]
    rw [key, h.mem]
    constructor
    · rintro (⟨d, hd, e⟩ | e)
      · exact ⟨d, by omega, e⟩
      · exact ⟨n, by omega, e.symm⟩
    · rintro ⟨d, hd, e⟩
      rcases Nat.lt_or_ge d n with z | z
      · exact .inl ⟨d, z, e⟩
      · have : d = n := by omega
        subst this
        exact .inr e.symm
  · rw [tput_get (isv _)]
    by_cases e : (lotOf ls lo (d : Int)).1 = (lotOf ls lo (n : Int)).1
    · rw [if_pos e, lot_ext e]
    · rw [if_neg e]
      refine h.val d ?_
      rcases Nat.lt_or_ge d n with z | z
      · exact z
      · exfalso
        have : d = n := by omega
        subst this
        exact e rfl
theorem lift_keys {α : Type} {P : Lt → Prop} : ∀ {ys : List (List Int)}, (∀ y ∈ ys, ∃ z : Lt, P z ∧ z.1 = y) → ∃ zs : List Lt, zs.map (·.1) = ys ∧ ∀ z ∈ zs, P z
  | [], _ => ⟨[], rfl, fun z h => nomatch h⟩
  | y :: ys, h => by
    obtain ⟨z, hz, e⟩ := h y (.head _)
    obtain ⟨zs, e1, e2⟩ := lift_keys (α := α) (P := P) (ys := ys) fun u hu => h u (.tail _ hu)
    refine ⟨z :: zs, by rw [List.map_cons, e, e1], fun u hu => ?_⟩
    rcases List.mem_cons.mp hu with e3 | hu
    · rw [e3]; exact hz
    · exact e2 u hu
theorem met_all {ls : List Lyr} {lo hi : Int} {kvs : List (List Int × D)} (hd : ∀ l ∈ ls, 1 ≤ l.days) (h : Met ls lo hi (rnd ls).toNat kvs) {ys : List (List Int)} (p : ys.Perm (kvs.map (·.1))) (u : ys.Pairwise fun x y => HT.lexLt x y = true) :
    ys = (pcL ls lo).map (·.1) ∧ ∀ x ∈ pcL ls lo, tGet kvs x.1 = some (lotD ⟨lo, hi, x⟩) := by
  have rp := rnd_pos hd
  have pc := pc_ok hd (m := lo)
  have day : ∀ x ∈ pcL ls lo, ∃ d : Nat, d < (rnd ls).toNat ∧ lotOf ls lo (d : Int) = x := fun x hx => by
    obtain ⟨d, e⟩ := (pc.mem x).mp hx
    refine ⟨(d % rnd ls).toNat, ?_, ?_⟩
    · have := Int.emod_lt_of_pos d rp
      have := Int.emod_nonneg d (Int.ne_of_gt rp)
      omega
    · rw [Int.toNat_of_nonneg (Int.emod_nonneg d (Int.ne_of_gt rp)), lot_mod fun l hl => rnd_mem hl]
      exact e
  obtain ⟨zs, e1, e2⟩ := lift_keys (α := Unit) (P := fun z => z ∈ pcL ls lo) (ys := ys) fun y hy => by
    obtain ⟨d, hd, e⟩ := (h.mem y).mp (p.mem_iff.mp hy)
    exact ⟨lotOf ls lo (d : Int), (pc.mem _).mpr ⟨_, rfl⟩, e⟩
  have uz : Up zs := by
    have c := u
    rw [← e1] at c
    exact List.Pairwise.imp (fun {x y} h => by rw [← rlt_eq]; exact h) (List.pairwise_map.mp c)
  have ez : zs = pcL ls lo := Up.uniq uz pc.up fun k => ⟨e2 k, fun hk => by
    obtain ⟨d, hd, e⟩ := day k hk
    have m : k.1 ∈ ys := p.mem_iff.mpr ((h.mem _).mpr ⟨d, hd, by rw [e]⟩)
    rw [← e1] at m
    obtain ⟨z, hz, e3⟩ := List.mem_map.mp m
    obtain ⟨d2, hd2, e4⟩ := day z (e2 z hz)
    have : z = k := by
      rw [← e4, ← e] at e3 ⊢
      exact lot_ext e3
    rw [← this]; exact hz⟩
  refine ⟨by rw [← e1, ez], fun x hx => ?_⟩
  obtain ⟨d, hd, e⟩ := day x hx
  have := h.val d hd
  rw [e] at this
  exact this
theorem met_ne {ls : List Lyr} {lo hi : Int} {n : Nat} {kvs : List (List Int × D)} (h : Met ls lo hi n kvs) (h2 : 2 ≤ kvs.length) : ∀ k ∈ kvs.map (·.1), k ≠ [] := by
  cases ls with
  | nil =>
    exfalso
    have : (kvs.map (·.1)).length ≤ [([] : List Int)].length := sub_len h.nd fun k hk => by
      obtain ⟨d, _, e⟩ := (h.mem k).mp hk
      rw [← e]; exact .head _
    rw [List.length_map, List.length_singleton] at this
    omega
  | cons l ls =>
    intro k hk e
    obtain ⟨d, _, e2⟩ := (h.mem k).mp hk
    rw [e] at e2
    cases z : whoL l (1440 * (d : Int) + lo) with
    | none => rw [lot_cons_none z] at e2; cases e2
    | some w => rw [lot_cons_some z] at e2; cases e2
/-! ### the pieces -/
def ckP (cs : List Int) (k : Nat) : Int × Int := (cs.getD k 0, cs.getD (k + 1) 0)
noncomputable def pcs (ls : List Lyr) (p : Int × Int) : List Lot := (pcL ls p.1).map fun x => ⟨p.1, p.2, x⟩
noncomputable def upL (ls : List Lyr) (cs : List Int) (k : Nat) : List Lot := (List.range k).flatMap fun j => pcs ls (ckP cs j)
theorem upl_snoc {ls : List Lyr} {cs : List Int} {k : Nat} : upL ls cs (k + 1) = upL ls cs k ++ pcs ls (ckP cs k) := by
  unfold upL
  rw [List.range_succ, List.flatMap_append, List.flatMap_cons, List.flatMap_nil, List.append_nil]
theorem cell_zip {ls : List Lyr} : ∀ {cs : List Int}, cellL ls cs = (cs.zip (cs.drop 1)).flatMap (pcs ls)
  | [] => rfl
  | [_] => rfl
  | a :: b :: cs => by
    have ih := cell_zip (ls := ls) (cs := b :: cs)
    show pcs ls (a, b) ++ cellL ls (b :: cs) = pcs ls (a, b) ++ ((b :: cs).zip cs).flatMap (pcs ls)
    rw [ih]; rfl
theorem upl_all {ls : List Lyr} {cs : List Int} : upL ls cs (cs.length - 1) = cellL ls cs := by
  have pr : (List.range (cs.length - 1)).map (ckP cs) = cs.zip (cs.drop 1) := by
    refine List.ext_getElem? fun i => ?_
    rw [List.getElem?_map]
    by_cases h : i < cs.length - 1
    · rw [List.getElem?_range h, List.getElem?_eq_getElem (l := cs.zip (cs.drop 1)) (by rw [List.length_zip, List.length_drop]; omega)]
      rw [List.getElem_zip, List.getElem_drop, Option.map_some]
      have e1 : cs.getD i 0 = cs[i] := by rw [List.getD_eq_getElem?_getD, List.getElem?_eq_getElem (by omega)]; rfl
      have e2 : cs.getD (i + 1) 0 = cs[1 + i] := by rw [List.getD_eq_getElem?_getD, List.getElem?_eq_getElem (by omega)]; show cs[i + 1] = _; congr 1; omega
      unfold ckP
      rw [e1, e2]
    · rw [List.getElem?_eq_none (by rw [List.length_range]; omega), List.getElem?_eq_none (by rw [List.length_zip, List.length_drop]; omega)]
      rfl
  unfold upL
  rw [cell_zip, ← pr, List.flatMap_map]
theorem upl_len {ls : List Lyr} {cs : List Int} (hd : ∀ l ∈ ls, 1 ≤ l.days) : ∀ {k : Nat}, (upL ls cs k).length ≤ k * (rnd ls).toNat
  | 0 => by rw [Nat.zero_mul]; exact Nat.le_refl _
  | k + 1 => by
    rw [upl_snoc, List.length_append, Nat.succ_mul]
    have := upl_len hd (cs := cs) (k := k)
    have b : (pcs ls (ckP cs k)).length ≤ (rnd ls).toNat := by
      have := cell_len hd (cs := [(ckP cs k).1, (ckP cs k).2])
      have e : cellL ls [(ckP cs k).1, (ckP cs k).2] = pcs ls (ckP cs k) ++ [] := rfl
      rw [e, List.append_nil] at this
      simpa using this
    omega
theorem shn_lots {ls : List Lyr} {cs : List Int} (hf : Fit ls) (hc : CutsOk ls cs) : Shw (.tuple ((cellL ls cs).map lotD)) := by
  have bd : ∀ q ∈ cellL ls cs, ∃ m d : Int, q.x = lotOf ls m d ∧ q.lo.natAbs < 10 ^ 4 ∧ q.hi.natAbs < 10 ^ 4 := fun q hq => by
    rw [cell_zip] at hq
    obtain ⟨p, hp, h⟩ := List.mem_flatMap.mp hq
    obtain ⟨x, hx, rfl⟩ := List.mem_map.mp h
    obtain ⟨d, e⟩ := ((pc_ok (fun l hl => (hf.ok l hl).d1)).mem x).mp hx
    have nx := zip_next hc.up p hp
    have b0 := cuts_bd hc p.1 nx.1
    have b1 := cuts_bd hc p.2 nx.2.1
    exact ⟨p.1, d, e.symm, by show p.1.natAbs < 10 ^ 4; omega, by show p.2.natAbs < 10 ^ 4; omega⟩
  refine (Shn.tuple (n := 2) (m := 8000) fun d hd => ?_).shw (by decide) (by rw [List.length_map]; have := hf.few cs hc; omega)
  obtain ⟨q, hm, rfl⟩ := List.mem_map.mp hd
  obtain ⟨m, dd, ex, b0, b1⟩ := bd q hm
  refine (Shn.tuple (n := 1) (m := 1900) fun d hd => ?_).up (by decide) (by simp only [List.length_cons, List.length_nil]; omega)
  simp only [List.mem_cons, List.not_mem_nil, or_false] at hd
  rcases hd with rfl | rfl | rfl | rfl
  · exact (Shn.int (n := 1) (k := 4) (by decide) b0 (by decide)).up (Nat.le_refl _) (by decide)
  · exact (Shn.int (n := 1) (k := 4) (by decide) b1 (by decide)).up (Nat.le_refl _) (by decide)
  · have ln : (lotOf ls m dd).1.length ≤ 80 := Nat.le_trans lot_len hf.l80
    refine (Shn.tuple (n := 0) (m := 20) fun d hd => ?_).up (Nat.le_refl _) (by rw [List.length_map, ex]; omega)
    obtain ⟨i, hi, rfl⟩ := List.mem_map.mp hd
    rw [ex, lot_rests] at hi
    obtain ⟨l, hl, rfl⟩ := List.mem_map.mp hi
    have o := hf.ok l (List.mem_of_mem_take hl)
    have := Int.emod_nonneg dd (Int.ne_of_gt (show 0 < l.days by have := o.d1; omega))
    have := Int.emod_lt_of_pos dd (show 0 < l.days by have := o.d1; omega)
    have := o.d60
    exact (Shn.int (n := 0) (k := 4) (by decide) (by omega) (by decide)).up (Nat.le_refl _) (by decide)
  · rw [ex]
    cases e : (lotOf ls m dd).2 with
    | none => exact Shn.none (by decide)
    | some w =>
      have lw : ∀ {ls : List Lyr}, (∀ l ∈ ls, LoOk l) → (lotOf ls m dd).2 = some w → WordOk w := fun {ls} => by
        induction ls with
        | nil => intro _ e; cases e
        | cons l ls ih =>
          intro h e
          cases z : whoL l (1440 * dd + m) with
          | none => rw [lot_cons_none z] at e; exact ih (fun k hk => h k (.tail _ hk)) e
          | some v => rw [lot_cons_some z] at e; cases e; exact who_ok (h l (.head _)) z
      exact (shn_word (n := 1) (.inr (lw (fun l hl => lo_of (hf.ok l hl)) e))).up (Nat.le_refl _) (by decide)
/-! ### promises -/
def S_law_tower : SpD := fun as Q _ => ∃ (h : Hd) (n : Nat) (ws : List Str), as = [hc h, .v (wsD ws)] ∧ h.ok n ∧ n ≤ 500000 ∧ 2 ≤ ws.length ∧ ws.length ≤ 1000 ∧ (∀ w ∈ ws, WordOk w) ∧
  ∀ (h' : Hd) (ls : List Lyr), h'.ok (n + 1000) → (∀ l ∈ ls, TwL l) → ls.length ≤ 80 → Q (.v (lyrsD ls)) [hc h', .v (wsD ws)]
def S_law_lot : SpD := fun as Q _ => ∃ (ls : List Lyr) (lo hi d : Int), as = [.v (lyrsD ls), .v (.int lo), .v (.int hi), .v (.int d)] ∧ (∀ l ∈ ls, LyrOk l) ∧ ls.length ≤ 80 ∧ 0 ≤ d ∧ d ≤ 100 ∧ Q (.v (lotD ⟨lo, hi, lotOf ls lo d⟩)) as
def S_law_due : SpD := fun as Q _ => ∃ (ls : List Lyr), as = [.v (lyrsD ls)] ∧ Fit ls ∧ ∀ cs, CutsOk ls cs → Q (.v (.tuple ((cellL ls cs).map lotD))) as
def S_law : SpD := fun as Q _ => ∃ ns : List Int, as = [.v (.list (ns.map PyData.int))] ∧ ns.length ≤ 63 ∧ ∀ rs, Q (.v (.bool true)) rs
theorem law_in : ∀ ns : List Int, ns.length ≤ 63 → S_law [.v (.list (ns.map PyData.int))] (fun c _ => c = .v (.bool true)) (fun _ _ => False) := fun ns h => ⟨ns, rfl, h, fun _ => rfl⟩
theorem len_law_tower : ∀ as QD ED, S_law_tower as QD ED → as.length = 2 := by
  rintro as QD ED ⟨_, _, _, rfl, _⟩
  rfl
theorem len_law_lot : ∀ as QD ED, S_law_lot as QD ED → as.length = 4 := by
  rintro as QD ED ⟨_, _, _, _, rfl, _⟩
  rfl
theorem len_law_due : ∀ as QD ED, S_law_due as QD ED → as.length = 1 := by
  rintro as QD ED ⟨_, rfl, _⟩
  rfl
theorem len_law : ∀ as QD ED, S_law as QD ED → as.length = 1 := by
  rintro as QD ED ⟨_, rfl, _⟩
  rfl
end K40

set_option Elab.async false
set_option linter.all false
set_option maxRecDepth 100000
set_option maxHeartbeats 4000000

/-! generated: the readings of the defs of k40 -/
namespace K40
open PySem PySem.Spec PyProof.Rows L2 DL CFTu CFLo CFRb CFH CFWd CFLy CFLs CFWh CFLc
def L_law_tower : Nat → Bool := fun j => [0, 2].contains j
def w_law_tower : WS := wSeq (wSet 2 (wL oLst wNil))
    (wSeq (wFor (wIR1 (wCons (wCall CFH.S_law_pick (wCons (wPk 0) (wCons (wL oLst (wCons (wC (.int 80)) (wCons (wC (.int 79)) (wCons (wC (.int 12)) (wCons (wC (.int 40)) wNil))))) wNil))) wNil)) (wgName 3)
    (wSeq (wPar 4 5 (wCons (wCall CFH.S_law_pick (wCons (wPk 0) (wCons (wL oLst (wCons (wC (.int 1)) (wCons (wC (.int 2)) (wCons (wC (.int 3)) wNil)))) wNil))) (wCons (wL oTup wNil) wNil)))
    (wSeq (wIf (wTst (wB oEq (wCall CFH.S_law_take (wCons (wPk 0) (wCons (wC (.int 12)) wNil))) (wC (.int 0))))
    (wSeq (wSetF 6 (wB oMul (wC (.int 360)) (wCall CFH.S_law_take (wCons (wPk 0) (wCons (wB oMul (wC (.int 4)) (wVar 4)) wNil)))))
    (wSetF 5 (wL oTup (wCons (wL oTup (wCons (wVar 6) (wCons (wB oAdd (wVar 6) (wC (.int 360))) (wCons (wCall CFH.S_law_pick (wCons (wPk 0) (wCons (wVar 1) wNil))) wNil)))) wNil))))
    wNext)
    (wDrop (wApp 2 (wL oTup (wCons (wB oIx (wVar 1) (wC (.int 0))) (wCons (wB oMul (wC (.int 360)) (wCall CFH.S_law_take (wCons (wPk 0) (wCons (wB oMul (wC (.int 4)) (wVar 4)) wNil)))) (wCons (wVar 4) (wCons (wVar 5) wNil))))))))))
    (wSeq (wSetF 4 (wCall CFH.S_law_pick (wCons (wPk 0) (wCons (wL oLst (wCons (wC (.int 1)) (wCons (wC (.int 2)) (wCons (wC (.int 3)) wNil)))) wNil))))
    (wSeq (wSetF 5 (wL oTup (wCons (wL oTup (wCons (wC (.int 0)) (wCons (wB oMul (wC (.int 720)) (wVar 4)) (wCons (wCall CFH.S_law_pick (wCons (wPk 0) (wCons (wVar 1) wNil))) wNil)))) wNil)))
    (wRet (wSl (wL oTuple (wCons (wCat (wLn 2) (wL oLst (wCons (wL oTup (wCons (wB oIx (wVar 1) (wC (.int 1))) (wCons (wB oMul (wC (.int 360)) (wCall CFH.S_law_take (wCons (wPk 0) (wCons (wB oMul (wC (.int 4)) (wVar 4)) wNil)))) (wCons (wVar 4) (wCons (wVar 5) wNil))))) wNil))) wNil)) (wPart (wU oNeg (wC (.int 80)))) wNoPart)))))
def n_law_tower : Nat := 7
def L_law_lot : Nat → Bool := fun j => [4].contains j
def w_law_lot : WS := wSeq (wSet 4 (wL oLst wNil))
    (wSeq (wFor (wISeq (wVar 0)) (wgName 5)
    (wSeq (wDrop (wApp 4 (wB oMod (wVar 3) (wB oIx (wVar 5) (wC (.int 2))))))
    (wSeq (wSetF 6 (wCall CFWh.S_law_whom (wCons (wVar 5) (wCons (wB oAdd (wB oMul (wC (.int 1440)) (wVar 3)) (wVar 1)) wNil))))
    (wIf (wTst (wU oNotN (wVar 6)))
    (wRet (wL oTup (wCons (wVar 1) (wCons (wVar 2) (wCons (wL oTuple (wCons (wLn 4) wNil)) (wCons (wVar 6) wNil))))))
    wNext))))
    (wRet (wL oTup (wCons (wVar 1) (wCons (wVar 2) (wCons (wL oTuple (wCons (wLn 4) wNil)) (wCons (wC .none) wNil)))))))
def n_law_lot : Nat := 7
def L_law_due : Nat → Bool := fun j => [1, 5].contains j
def w_law_due : WS := wSeq (wParO true false 1 2 (wCons (wL oLst wNil) (wCons (wCall CFWh.S_law_common (wCons (wVar 0) wNil)) wNil)))
    (wSeq (wSetF 3 (wCall CFLc.S_law_cuts (wCons (wVar 0) wNil)))
    (wSeq (wFor (wIR1 (wCons (wB oSub (wL oLen (wCons (wVar 3) wNil)) (wC (.int 1))) wNil)) (wgName 4)
    (wSeq (wSet 5 wJNew)
    (wSeq (wFor (wIR1 (wCons (wVar 2) wNil)) (wgName 6)
    (wSeq (wSetF 7 (wCall S_law_lot (wCons (wVar 0) (wCons (wB oIx (wVar 3) (wVar 4)) (wCons (wB oIx (wVar 3) (wB oAdd (wVar 4) (wC (.int 1)))) (wCons (wVar 6) wNil))))))
    (wJPut 5 (wVar 7) (wB oIx (wVar 7) (wC (.int 2))))))
    (wDrop (wExt 1 (wLcB [9] (wIL (wJSort 5)) (wgName 9) wYes (wJIx 5 (wVar 9))))))))
    (wRet (wL oTuple (wCons (wLn 1) wNil)))))
def n_law_due : Nat := 10
def L_law : Nat → Bool := fun j => [2].contains j
def w_law : WS := wSeq (wFor (wIR1 (wCons (wL oMax2 (wCons (wC (.int 1)) (wCons (wL oMin2 (wCons (wC (.int 2)) (wCons (wL oLen (wCons (wVar 0) wNil)) wNil))) wNil))) wNil)) (wgName 1)
    (wSeq (wSet 2 (wCall CFH.S_law_hand (wCons (wVar 0) (wCons (wVar 1) wNil))))
    (wSeq (wSetF 3 (wCall CFH.S_law_take (wCons (wPk 2) (wCons (wC (.int 6)) wNil))))
    (wSeq (wSetF 4 (wCall CFWd.S_law_words (wCons (wPk 2) (wCons (wC (.int 5)) wNil))))
    (wSeq (wSetF 5 (wCall CFLs.S_law_layers (wCons (wPk 2) (wCons (wVar 4) (wCons (wB oLt (wVar 3) (wC (.int 2))) wNil)))))
    (wSeq (wIf (wTst (wB oEq (wVar 3) (wC (.int 5))))
    (wSetF 5 (wCall S_law_tower (wCons (wPk 2) (wCons (wVar 4) wNil))))
    wNext)
    (wSeq (wSetF 6 (wCall CFLo.S_lots (wCons (wVar 5) wNil)))
    (wIf (wTst (wB oNeS (wL oRepr (wCons (wVar 6) wNil)) (wL oRepr (wCons (wCall S_law_due (wCons (wVar 5) wNil)) wNil))))
    (wRet (wC (.bool false)))
    wNext))))))))
    (wRet (wC (.bool true)))
def n_law : Nat := 7
end K40

set_option Elab.async false
set_option linter.all false
set_option maxRecDepth 100000
set_option maxHeartbeats 4000000

/-! generated: readings shared by laws -/
namespace CFLc
open PySem PySem.Spec PyProof.Rows L2 DL CFLo
def L_law_cuts : Nat → Bool := fun j => [1].contains j
def w_law_cuts : WS := wSeq (wSet 1 (wL oLst (wCons (wC (.int 0)) (wCons (wC (.int 1440)) wNil))))
    (wSeq (wFor (wISeq (wVar 0)) (wgTup 4 (wgCons (wgName 2) (wgCons (wgName 3) (wgCons (wgName 4) (wgCons (wgName 5) wgNil)))))
    (wFor (wISeq (wVar 5)) (wgTup 3 (wgCons (wgName 6) (wgCons (wgName 7) (wgCons (wgName 8) wgNil))))
    (wDrop (wExt 1 (wL oLst (wCons (wB oMod (wB oAdd (wVar 3) (wVar 6)) (wC (.int 1440))) (wCons (wB oMod (wB oAdd (wVar 3) (wVar 7)) (wC (.int 1440))) wNil)))))))
    (wRet (wU oSortSet (wLn 1))))
def n_law_cuts : Nat := 9
end CFLc

set_option Elab.async false
set_option linter.all false
set_option maxRecDepth 100000
set_option maxHeartbeats 4000000

/-! generated: readings shared by laws -/
namespace CFWh
open PySem PySem.Spec PyProof.Rows L2 DL CFLc
def L_law_whom : Nat → Bool := fun j => ([] : List Nat).contains j
def w_law_whom : WS := wSeq (wSetF 2 (wB oMod (wB oSub (wVar 1) (wB oIx (wVar 0) (wC (.int 1)))) (wB oMul (wC (.int 1440)) (wB oIx (wVar 0) (wC (.int 2))))))
    (wRet (wB oIx (wCat (wLcB [4, 5, 6] (wISeq (wB oIx (wVar 0) (wC (.int 3)))) (wgTup 3 (wgCons (wgName 4) (wgCons (wgName 5) (wgCons (wgName 6) wgNil)))) (wTst (wCh (oI fun i j => .bool ((fun i j => decide (i ≤ j)) i j)) (oI fun i j => .bool ((fun i j => decide (i < j)) i j)) (wVar 4) (wVar 2) (wVar 5))) (wVar 6)) (wL oLst (wCons (wC .none) wNil))) (wC (.int 0))))
def n_law_whom : Nat := 7
def L_law_common : Nat → Bool := fun j => ([] : List Nat).contains j
def w_law_common : WS := wSeq (wSetF 1 (wC (.int 1)))
    (wSeq (wFor (wISeq (wVar 0)) (wgTup 4 (wgCons (wgName 2) (wgCons (wgName 3) (wgCons (wgName 4) (wgCons (wgName 5) wgNil)))))
    (wSeq (wSetF 6 (wVar 1))
    (wWhile (wTst (wB oNe (wB oMod (wVar 1) (wVar 4)) (wC (.int 0))))
    (wSetF 1 (wB oAdd (wVar 1) (wVar 6))))))
    (wRet (wVar 1)))
def n_law_common : Nat := 7
end CFWh

set_option Elab.async false
set_option linter.all false
set_option maxRecDepth 100000
set_option maxHeartbeats 4000000

/-! generated: readings shared by laws -/
namespace CFLs
open PySem PySem.Spec PyProof.Rows L2 DL CFH CFWd CFLy
def L_law_layers : Nat → Bool := fun j => [0].contains j
def w_law_layers : WS := wSeq (wSetF 3 (wCall CFH.S_law_pick (wCons (wPk 0) (wCons (wL oLst (wCons (wC (.int 1)) (wCons (wC (.int 2)) (wCons (wC (.int 3)) (wCons (wC (.int 2)) (wCons (wC (.int 4)) (wCons (wC (.int 0)) wNil))))))) wNil))))
    (wSeq (wSetF 4 (wCall CFWd.S_law_words (wCons (wPk 0) (wCons (wC (.int 4)) wNil))))
    (wSeq (wSetF 5 (wL oLst (wCons (wL oLst (wCons (wC (.int 1)) (wCons (wC (.int 2)) (wCons (wC (.int 3)) (wCons (wC (.int 4)) (wCons (wC (.int 6)) (wCons (wC (.int 12)) wNil))))))) (wCons (wL oLst (wCons (wC (.int 7)) wNil)) (wCons (wL oLst (wCons (wC (.int 1)) (wCons (wC (.int 2)) wNil))) (wCons (wL oLst (wCons (wC (.int 1)) (wCons (wC (.int 7)) wNil))) (wCons (wL oLst (wCons (wC (.int 2)) (wCons (wC (.int 5)) (wCons (wC (.int 10)) wNil)))) (wCons (wL oLst (wCons (wC (.int 3)) (wCons (wC (.int 9)) wNil))) wNil))))))))
    (wSeq (wIf (wTst (wVar 2))
    (wSetF 5 (wL oLst (wCons (wL oLst (wCons (wC (.int 1)) (wCons (wC (.int 2)) (wCons (wC (.int 3)) (wCons (wC (.int 4)) (wCons (wC (.int 6)) (wCons (wC (.int 12)) wNil))))))) (wCons (wL oLst (wCons (wC (.int 7)) (wCons (wC (.int 14)) (wCons (wC (.int 28)) wNil)))) (wCons (wL oLst (wCons (wC (.int 1)) (wCons (wC (.int 2)) (wCons (wC (.int 4)) (wCons (wC (.int 7)) (wCons (wC (.int 14)) (wCons (wC (.int 28)) wNil))))))) (wCons (wL oLst (wCons (wC (.int 3)) (wCons (wC (.int 5)) (wCons (wC (.int 15)) (wCons (wC (.int 30)) (wCons (wC (.int 60)) wNil)))))) (wCons (wL oLst (wCons (wC (.int 8)) (wCons (wC (.int 9)) wNil))) (wCons (wL oLst (wCons (wC (.int 5)) (wCons (wC (.int 11)) wNil))) wNil))))))))
    wNext)
    (wSeq (wSetF 6 (wCall CFH.S_law_pick (wCons (wPk 0) (wCons (wVar 5) wNil))))
    (wSeq (wSetF 7 (wB oMul (wB oIx (wL oLst (wCons (wC (.int 0)) (wCons (wC (.int 6)) (wCons (wC (.int 3)) (wCons (wC (.int 2)) (wCons (wC (.int 1)) wNil)))))) (wVar 3)) (wB oAdd (wC (.int 1)) (wL oInt1 (wCons (wVar 2) wNil)))))
    (wRet (wL oTuple (wCons (wLcB [9] (wIR1 (wCons (wVar 3) wNil)) (wgName 9) wYes (wCall CFLy.S_law_layer (wCons (wPk 0) (wCons (wB oIx (wVar 4) (wVar 9)) (wCons (wVar 1) (wCons (wCall CFH.S_law_pick (wCons (wPk 0) (wCons (wVar 6) wNil))) (wCons (wVar 7) wNil))))))) wNil))))))))
def n_law_layers : Nat := 10
end CFLs

set_option Elab.async false
set_option linter.all false
set_option maxRecDepth 100000
set_option maxHeartbeats 4000000

/-! generated: readings shared by laws -/
namespace CFLo
open PySem PySem.Spec PyProof.Rows L2 DL CFTu CFRb
def L_hand_at : Nat → Bool := fun j => ([] : List Nat).contains j
def w_hand_at : WS := wSeq (wSetF 2 (wCall CFTu.S_turn_at (wCons (wVar 0) (wCons (wVar 1) wNil))))
    (wSeq (wIf (wTst (wU oIsN (wVar 2)))
    (wRet (wC .none))
    wNext)
    (wRet (wB oIx (wB oIx (wB oIx (wVar 0) (wC (.int 3))) (wVar 2)) (wC (.int 2)))))
def n_hand_at : Nat := 3
def L_cuts_of : Nat → Bool := fun j => [1].contains j
def w_cuts_of : WS := wSeq (wSet 1 (wL oLst (wCons (wC (.int 0)) (wCons (wC (.int 1440)) wNil))))
    (wSeq (wFor (wISeq (wVar 0)) (wgTup 4 (wgCons (wgName 2) (wgCons (wgName 3) (wgCons (wgName 4) (wgCons (wgName 5) wgNil)))))
    (wFor (wISeq (wVar 5)) (wgTup 3 (wgCons (wgName 6) (wgCons (wgName 7) (wgCons (wgName 8) wgNil))))
    (wSeq (wDrop (wApp 1 (wB oMod (wB oAdd (wVar 3) (wVar 6)) (wC (.int 1440)))))
    (wDrop (wApp 1 (wB oMod (wB oAdd (wVar 3) (wVar 7)) (wC (.int 1440))))))))
    (wRet (wU oSortSet (wLn 1))))
def n_cuts_of : Nat := 9
def L_rests_of : Nat → Bool := fun j => ([] : List Nat).contains j
def w_rests_of : WS := wRet (wLcB [3] (wIR1 (wCons (wB oIx (wVar 0) (wC (.int 2))) wNil)) (wgName 3) wYes (wCall S_hand_at (wCons (wVar 0) (wCons (wB oAdd (wB oMul (wC (.int 1440)) (wVar 3)) (wVar 1)) wNil))))
def n_rests_of : Nat := 4
def L_longer : Nat → Bool := fun j => [6].contains j
def w_longer : WS := wSeq (wAsg (wVar 0) (wgTup 3 (wgCons (wgName 2) (wgCons (wgName 3) (wgCons (wgName 4) wgNil)))))
    (wSeq (wSetF 5 (wCall CFRb.S_gcd (wCons (wVar 4) (wCons (wL oLen (wCons (wVar 1) wNil)) wNil))))
    (wSeq (wSet 6 (wL oLst wNil))
    (wSeq (wFor (wIR3 (wCons (wB oMod (wVar 3) (wVar 5)) (wCons (wL oLen (wCons (wVar 1) wNil)) (wCons (wVar 5) wNil)))) (wgName 7)
    (wSeq (wSetF 8 (wCall CFRb.S_joined (wCons (wL oTup (wCons (wL oTup (wCons (wVar 3) (wCons (wVar 4) wNil))) (wCons (wL oTup (wCons (wVar 7) (wCons (wL oLen (wCons (wVar 1) wNil)) wNil))) wNil))) wNil)))
    (wDrop (wApp 6 (wL oTup (wCons (wB oPlus (wVar 2) (wL oTup (wCons (wVar 7) wNil))) (wCons (wB oIx (wVar 8) (wC (.int 1))) (wCons (wB oIx (wVar 8) (wC (.int 2))) (wCons (wB oIx (wVar 1) (wVar 7)) wNil)))))))))
    (wRetO 6))))
def n_longer : Nat := 9
def L_in_piece : Nat → Bool := fun j => [4, 7].contains j
def w_in_piece : WS := wSeq (wParO false true 3 4 (wCons (wL oLst (wCons (wL oTup (wCons (wL oTup wNil) (wCons (wC (.int 0)) (wCons (wC (.int 1)) wNil)))) wNil)) (wCons (wL oLst wNil) wNil)))
    (wSeq (wFor (wISeq (wVar 0)) (wgName 5)
    (wSeq (wSetF 6 (wCall S_rests_of (wCons (wVar 5) (wCons (wVar 1) wNil))))
    (wSeq (wSet 7 (wL oLst wNil))
    (wSeq (wFor (wISeq (wVar 3)) (wgName 8)
    (wSeq (wFor (wISeq (wCall S_longer (wCons (wVar 8) (wCons (wVar 6) wNil)))) (wgTup 4 (wgCons (wgName 9) (wgCons (wgName 10) (wgCons (wgName 11) (wgCons (wgName 12) wgNil)))))
    (wIf (wTst (wU oIsN (wVar 12)))
    (wDrop (wApp 7 (wL oTup (wCons (wVar 9) (wCons (wVar 10) (wCons (wVar 11) wNil))))))
    (wDrop (wApp 4 (wL oTup (wCons (wVar 9) (wCons (wVar 12) wNil)))))))
    (wIf (wTst (wB oGt (wB oAdd (wL oLen (wCons (wLn 4) wNil)) (wL oLen (wCons (wLn 7) wNil))) (wVar 2)))
    (wRaise "TooMany")
    wNext)))
    (wSetF 3 (wFrz 7))))))
    (wRet (wL oSortF (wCons (wCat (wLn 4) (wLcB [9, 10, 11] (wISeq (wVar 3)) (wgTup 3 (wgCons (wgName 9) (wgCons (wgName 10) (wgCons (wgName 11) wgNil)))) wYes (wL oTup (wCons (wVar 9) (wCons (wC .none) wNil))))) wNil))))
def n_in_piece : Nat := 14
def L_cells : Nat → Bool := fun j => [2].contains j
def w_cells : WS := wSeq (wSet 2 (wL oLst wNil))
    (wSeq (wFor (wIZip (wCons (wVar 1) (wCons (wSl (wVar 1) (wPart (wC (.int 1))) wNoPart) wNil))) (wgTup 2 (wgCons (wgName 3) (wgCons (wgName 4) wgNil)))
    (wFor (wISeq (wCall S_in_piece (wCons (wVar 0) (wCons (wVar 3) (wCons (wB oSub (wC (.int 2000)) (wL oLen (wCons (wLn 2) wNil))) wNil))))) (wgTup 2 (wgCons (wgName 5) (wgCons (wgName 6) wgNil)))
    (wDrop (wApp 2 (wL oTup (wCons (wVar 3) (wCons (wVar 4) (wCons (wVar 5) (wCons (wVar 6) wNil)))))))))
    (wRet (wL oTuple (wCons (wLn 2) wNil))))
def n_cells : Nat := 7
def L_lots : Nat → Bool := fun j => ([] : List Nat).contains j
def w_lots : WS := wRet (wCall S_cells (wCons (wVar 0) (wCons (wCall S_cuts_of (wCons (wVar 0) wNil)) wNil)))
def n_lots : Nat := 1
end CFLo

set_option Elab.async false
set_option linter.all false
set_option maxRecDepth 100000
set_option maxHeartbeats 4000000

/-! generated: readings shared by laws -/
namespace CFTu
open PySem PySem.Spec PyProof.Rows L2 DL CFWd CFBk
def L_place_of : Nat → Bool := fun j => ([] : List Nat).contains j
def w_place_of : WS := wRet (wB oMod (wB oSub (wVar 1) (wB oIx (wVar 0) (wC (.int 1)))) (wB oMul (wC (.int 1440)) (wB oIx (wVar 0) (wC (.int 2)))))
def n_place_of : Nat := 2
def L_turn_at : Nat → Bool := fun j => ([] : List Nat).contains j
def w_turn_at : WS := wSeq (wSetF 2 (wCall S_place_of (wCons (wVar 0) (wCons (wVar 1) wNil))))
    (wSeq (wFor (wIEnum (wCons (wB oIx (wVar 0) (wC (.int 3))) wNil)) (wgTup 2 (wgCons (wgName 3) (wgCons (wgName 4) wgNil)))
    (wIf (wTst (wCh (oI fun i j => .bool ((fun i j => decide (i ≤ j)) i j)) (oI fun i j => .bool ((fun i j => decide (i < j)) i j)) (wB oIx (wVar 4) (wC (.int 0))) (wVar 2) (wB oIx (wVar 4) (wC (.int 1)))))
    (wRet (wVar 3))
    wNext))
    (wRet (wC .none)))
def n_turn_at : Nat := 5
end CFTu

set_option Elab.async false
set_option linter.all false
set_option maxRecDepth 100000
set_option maxHeartbeats 4000000

/-! generated: readings shared by laws -/
namespace CFH
open PySem PySem.Spec PyProof.Rows L2 DL
def L_law_hand : Nat → Bool := fun j => ([] : List Nat).contains j
def w_law_hand : WS := wSeq (wSetF 2 (wC (.int 0)))
    (wSeq (wIf (wTst (wB oLt (wVar 1) (wL oLen (wCons (wVar 0) wNil))))
    (wSetF 2 (wB oIx (wVar 0) (wVar 1)))
    wNext)
    (wRet (wL oLst (wCons (wB oMul (wVar 2) (wL oInt1 (wCons (wB oGe (wVar 2) (wB oPow (wC (.int 10)) (wC (.int 18)))) wNil))) (wCons (wB oAdd (wB oAdd (wB oMod (wVar 2) (wC (.int 2305843009213693951))) (wB oMul (wC (.int 7919)) (wVar 1))) (wC (.int 3))) (wCons (wC (.int 0)) wNil))))))
def n_law_hand : Nat := 3
def L_law_take : Nat → Bool := fun j => [0].contains j
def w_law_take : WS := wSeq (wIf (wTst (wB oGt (wB oIx (wLn 0) (wC (.int 0))) (wC (.int 0))))
    (wSeq (wSetF 2 (wB oMod (wB oIx (wLn 0) (wC (.int 0))) (wVar 1)))
    (wSeq (wSetIx 0 (wB oDiv (wB oIx (wLn 0) (wC (.int 0))) (wVar 1)) (wC (.int 0)))
    (wRet (wVar 2))))
    wNext)
    (wSeq (wSetIx 0 (wB oAdd (wB oIx (wLn 0) (wC (.int 2))) (wC (.int 1))) (wC (.int 2)))
    (wSeq (wSetF 3 (wB oIx (wLn 0) (wC (.int 2))))
    (wSeq (wSetF 4 (wB oAdd (wB oAdd (wC (.int 48271)) (wB oMul (wB oMul (wC (.int 2)) (wVar 3)) (wVar 3))) (wB oMul (wC (.int 65537)) (wVar 3))))
    (wSeq (wSetF 5 (wB oMod (wB oMul (wB oAdd (wB oIx (wLn 0) (wC (.int 1))) (wB oMul (wC (.int 1299709)) (wVar 3))) (wVar 4)) (wC (.int 2305843009213693921))))
    (wSeq (wSetF 6 (wB oAdd (wB oAdd (wB oMod (wVar 5) (wC (.int 1000003))) (wB oMul (wVar 3) (wC (.int 99991)))) (wC (.int 11))))
    (wSeq (wSetF 5 (wB oMod (wB oMul (wVar 5) (wVar 6)) (wC (.int 2305843009213693907))))
    (wRet (wB oMod (wB oAdd (wB oDiv (wVar 5) (wC (.int 97))) (wB oDiv (wVar 5) (wC (.int 1000033)))) (wVar 1)))))))))
def n_law_take : Nat := 7
def L_law_pick : Nat → Bool := fun j => [0].contains j
def w_law_pick : WS := wRet (wB oIx (wVar 1) (wCall S_law_take (wCons (wPk 0) (wCons (wL oLen (wCons (wVar 1) wNil)) wNil))))
def n_law_pick : Nat := 2
end CFH

set_option Elab.async false
set_option linter.all false
set_option maxRecDepth 100000
set_option maxHeartbeats 4000000

/-! generated: readings shared by laws -/
namespace CFRa
open PySem PySem.Spec PyProof.Rows L2 DL CFH
end CFRa

set_option Elab.async false
set_option linter.all false
set_option maxRecDepth 100000
set_option maxHeartbeats 4000000

/-! generated: readings shared by laws -/
namespace CFRb
open PySem PySem.Spec PyProof.Rows L2 DL CFH CFRa
def L_gcd : Nat → Bool := fun j => ([] : List Nat).contains j
def w_gcd : WS := wSeq (wWhile (wTst (wB oGt (wVar 1) (wC (.int 0))))
    (wPar 0 1 (wCons (wVar 1) (wCons (wB oMod (wVar 0) (wVar 1)) wNil))))
    (wRet (wVar 0))
def n_gcd : Nat := 2
def L_inverse : Nat → Bool := fun j => ([] : List Nat).contains j
def w_inverse : WS := wSeq (wPar 2 3 (wCons (wVar 1) (wCons (wB oMod (wVar 0) (wVar 1)) wNil)))
    (wSeq (wAsg (wL oTup (wCons (wC (.int 0)) (wCons (wC (.int 1)) wNil))) (wgTup 2 (wgCons (wgName 4) (wgCons (wgName 5) wgNil))))
    (wSeq (wWhile (wTst (wB oGt (wVar 3) (wC (.int 0))))
    (wSeq (wSetF 6 (wB oDiv (wVar 2) (wVar 3)))
    (wSeq (wPar 2 3 (wCons (wVar 3) (wCons (wB oSub (wVar 2) (wB oMul (wVar 6) (wVar 3))) wNil)))
    (wPar 4 5 (wCons (wVar 5) (wCons (wB oSub (wVar 4) (wB oMul (wVar 6) (wVar 5))) wNil))))))
    (wRet (wB oMod (wVar 4) (wVar 1)))))
def n_inverse : Nat := 7
def L_agree : Nat → Bool := fun j => ([] : List Nat).contains j
def w_agree : WS := wRet (wB oEq (wB oMod (wB oSub (wB oIx (wVar 0) (wC (.int 0))) (wB oIx (wVar 1) (wC (.int 0)))) (wCall S_gcd (wCons (wB oIx (wVar 0) (wC (.int 1))) (wCons (wB oIx (wVar 1) (wC (.int 1))) wNil)))) (wC (.int 0)))
def n_agree : Nat := 2
def L_clash_of : Nat → Bool := fun j => ([] : List Nat).contains j
def w_clash_of : WS := wSeq (wSetF 2 (wC (.int 0)))
    (wSeq (wWhile (wTst (wCall S_agree (wCons (wB oIx (wVar 0) (wVar 2)) (wCons (wB oIx (wVar 0) (wVar 1)) wNil))))
    (wAug 2 oAdd (wC (.int 1))))
    (wRet (wL oTup (wCons (wC (.str "clash")) (wCons (wVar 2) (wCons (wVar 1) wNil))))))
def n_clash_of : Nat := 3
def L_joined : Nat → Bool := fun j => ([] : List Nat).contains j
def w_joined : WS := wSeq (wAsg (wL oTup (wCons (wC (.int 0)) (wCons (wC (.int 1)) wNil))) (wgTup 2 (wgCons (wgName 1) (wgCons (wgName 2) wgNil))))
    (wSeq (wFor (wIEnum (wCons (wVar 0) wNil)) (wgTup 2 (wgCons (wgName 3) (wgCons (wgTup 2 (wgCons (wgName 4) (wgCons (wgName 5) wgNil))) wgNil)))
    (wSeq (wIf (wNot (wTst (wCall S_agree (wCons (wL oTup (wCons (wVar 1) (wCons (wVar 2) wNil))) (wCons (wL oTup (wCons (wVar 4) (wCons (wVar 5) wNil))) wNil)))))
    (wRet (wCall S_clash_of (wCons (wVar 0) (wCons (wVar 3) wNil))))
    wNext)
    (wSeq (wSetF 6 (wCall S_gcd (wCons (wVar 2) (wCons (wVar 5) wNil))))
    (wSeq (wSetF 7 (wB oDiv (wVar 5) (wVar 6)))
    (wSeq (wSetF 8 (wB oMod (wB oMul (wB oDiv (wB oSub (wVar 4) (wVar 1)) (wVar 6)) (wCall S_inverse (wCons (wB oDiv (wVar 2) (wVar 6)) (wCons (wVar 7) wNil)))) (wVar 7)))
    (wPar 1 2 (wCons (wB oAdd (wVar 1) (wB oMul (wVar 2) (wVar 8))) (wCons (wB oMul (wVar 2) (wVar 7)) wNil))))))))
    (wRet (wL oTup (wCons (wC (.str "all")) (wCons (wVar 1) (wCons (wVar 2) wNil))))))
def n_joined : Nat := 9
end CFRb

set_option Elab.async false
set_option linter.all false
set_option maxRecDepth 100000
set_option maxHeartbeats 4000000

/-! generated: readings shared by laws -/
namespace CFWd
open PySem PySem.Spec PyProof.Rows L2 DL CFH
def L_law_words : Nat → Bool := fun j => [0, 8].contains j
def w_law_words : WS := wSeq (wSetF 2 (wC (.str "abcdefghijklmnopqrstuvwxyz0123456789")))
    (wSeq (wPar 3 4 (wCons (wCall CFH.S_law_take (wCons (wPk 0) (wCons (wC (.int 36)) wNil))) (wCons (wCall CFH.S_law_pick (wCons (wPk 0) (wCons (wL oLst (wCons (wC (.int 1)) (wCons (wC (.int 5)) (wCons (wC (.int 7)) (wCons (wC (.int 11)) (wCons (wC (.int 13)) (wCons (wC (.int 17)) wNil))))))) wNil))) wNil)))
    (wSeq (wSetF 5 (wB oMulS (wB oIx (wVar 2) (wCall CFH.S_law_take (wCons (wPk 0) (wCons (wC (.int 36)) wNil)))) (wCall CFH.S_law_pick (wCons (wPk 0) (wCons (wL oLst (wCons (wC (.int 0)) (wCons (wC (.int 1)) (wCons (wC (.int 0)) (wCons (wC (.int 2)) (wCons (wC (.int 7)) wNil)))))) wNil)))))
    (wSeq (wSetF 6 (wCall CFH.S_law_take (wCons (wPk 0) (wCons (wB oAdd (wL oLen (wCons (wVar 5) wNil)) (wC (.int 1))) wNil))))
    (wSeq (wSetF 7 (wCall CFH.S_law_take (wCons (wPk 0) (wCons (wC (.int 2)) wNil))))
    (wSeq (wSet 8 (wL oLst wNil))
    (wSeq (wFor (wIR1 (wCons (wVar 1) wNil)) (wgName 9)
    (wSeq (wSetF 10 (wSl (wVar 5) (wPart (wVar 6)) wNoPart))
    (wSeq (wIf (wAnd (wTst (wB oEq (wVar 7) (wC (.int 1)))) (wTst (wB oEq (wB oMod (wVar 9) (wC (.int 2))) (wC (.int 1)))))
    (wSetF 10 (wC (.str "")))
    wNext)
    (wSeq (wSetF 11 (wB oIx (wVar 2) (wB oMod (wB oAdd (wVar 3) (wB oMul (wVar 4) (wVar 9))) (wC (.int 36)))))
    (wDrop (wApp 8 (wB oPlus (wB oPlus (wSl (wVar 5) wNoPart (wPart (wVar 6))) (wVar 11)) (wVar 10))))))))
    (wRetO 8)))))))
def n_law_words : Nat := 12
end CFWd

set_option Elab.async false
set_option linter.all false
set_option maxRecDepth 100000
set_option maxHeartbeats 4000000

/-! generated: readings shared by laws -/
namespace CFLy
open PySem PySem.Spec PyProof.Rows L2 DL CFH CFWd CFCg
def L_law_minute : Nat → Bool := fun j => [0].contains j
def w_law_minute : WS := wSeq (wSetF 2 (wCall CFH.S_law_take (wCons (wPk 0) (wCons (wC (.int 3)) wNil))))
    (wSeq (wSetF 3 (wCall CFH.S_law_take (wCons (wPk 0) (wCons (wVar 1) wNil))))
    (wSeq (wIf (wTst (wB oEq (wVar 2) (wC (.int 0))))
    (wRet (wB oMul (wC (.int 1440)) (wB oAdd (wVar 3) (wCall CFH.S_law_take (wCons (wPk 0) (wCons (wC (.int 2)) wNil))))))
    wNext)
    (wSeq (wIf (wTst (wB oEq (wVar 2) (wC (.int 1))))
    (wRet (wB oAdd (wB oMul (wC (.int 1440)) (wVar 3)) (wCall CFH.S_law_pick (wCons (wPk 0) (wCons (wL oLst (wCons (wC (.int 480)) (wCons (wC (.int 540)) (wCons (wC (.int 1020)) (wCons (wC (.int 1080)) (wCons (wC (.int 1320)) (wCons (wC (.int 360)) wNil))))))) wNil)))))
    wNext)
    (wRet (wB oAdd (wB oMul (wC (.int 1440)) (wVar 3)) (wCall CFH.S_law_take (wCons (wPk 0) (wCons (wC (.int 1441)) wNil))))))))
def n_law_minute : Nat := 4
def L_law_layer : Nat → Bool := fun j => [0, 8].contains j
def w_law_layer : WS := wSeq (wSetF 5 (wB oMul (wCall CFH.S_law_take (wCons (wPk 0) (wCons (wB oMul (wC (.int 1440)) (wVar 3)) wNil))) (wCall CFH.S_law_take (wCons (wPk 0) (wCons (wC (.int 2)) wNil)))))
    (wSeq (wIf (wTst (wB oEq (wCall CFH.S_law_take (wCons (wPk 0) (wCons (wC (.int 8)) wNil))) (wC (.int 0))))
    (wRet (wL oTup (wCons (wVar 1) (wCons (wVar 5) (wCons (wVar 3) (wCons (wL oTup (wCons (wL oTup (wCons (wC (.int 0)) (wCons (wB oMul (wC (.int 1440)) (wVar 3)) (wCons (wCall CFH.S_law_pick (wCons (wPk 0) (wCons (wVar 2) wNil))) wNil)))) wNil)) wNil))))))
    wNext)
    (wSeq (wSetF 7 (wU oSortSet (wLcB [6] (wIR1 (wCons (wB oAdd (wC (.int 1)) (wVar 4)) wNil)) (wgName 6) wYes (wCall S_law_minute (wCons (wPk 0) (wCons (wVar 3) wNil))))))
    (wSeq (wSet 8 (wL oLst wNil))
    (wSeq (wFor (wIR1 (wCons (wB oSub (wL oLen (wCons (wVar 7) wNil)) (wC (.int 1))) wNil)) (wgName 6)
    (wIf (wTst (wB oGt (wCall CFH.S_law_take (wCons (wPk 0) (wCons (wC (.int 4)) wNil))) (wC (.int 0))))
    (wDrop (wApp 8 (wL oTup (wCons (wB oIx (wVar 7) (wVar 6)) (wCons (wB oIx (wVar 7) (wB oAdd (wVar 6) (wC (.int 1)))) (wCons (wCall CFH.S_law_pick (wCons (wPk 0) (wCons (wVar 2) wNil))) wNil))))))
    wNext))
    (wRet (wL oTup (wCons (wVar 1) (wCons (wVar 5) (wCons (wVar 3) (wCons (wL oTuple (wCons (wLn 8) wNil)) wNil))))))))))
def n_law_layer : Nat := 10
end CFLy

section
open PySem PySem.Spec PyProof.Rows L2 DL CFH
local macro_rules | `(tactic| tm_at "dw") => `(tactic| with_reducible (conv => whnf))
local macro_rules | `(tactic| tm_at "dside") => `(tactic| first | with_reducible assumption | ((with_reducible show CDivW _ _); exact ⟨by omega, log2_sm (by omega)⟩) | exact rfl | exact True.intro | exact Nat.le_of_ble_eq_true rfl | (intro z; first | exact rfl | exact (Bool.false_ne_true z).elim) | (intro _; (with_reducible refine And.intro ?_ ?_) <;> first | exact rfl | assumption) | (intro _; assumption) | (intro _; with_reducible exact lf_ints) | (intro _; with_reducible exact lf_strs) | ((with_reducible show SeqAt.shaped (PyData.str _) = true); exact (Lay.str (k := 0) (by first | assumption | decide +kernel)).shaped) | omega | (simp only [List.length_map, List.length_reverse, List.length_append, List.length_cons, List.length_nil]; omega) | exact And.intro (by omega) (by with_reducible assumption) | exact And.intro (by omega) (by decide +kernel) | exact And.intro (by omega) (And.intro (by omega) (by omega)) | exact MulOk.left ⟨by omega, by omega⟩ | exact MulOk.right ⟨by omega, by omega⟩ | exact le1000 (by first | omega | (simp only [List.length_map, List.length_reverse, List.length_append, List.length_cons, List.length_nil, rangeD_len, enumF_len]; omega)) | with_reducible exact lf_ints | with_reducible exact lf_strs | assumption | decide)
local macro_rules | `(tactic| tm_at "do") => `(tactic| first | with_reducible exact intsOf_map _ | with_reducible exact boolsOf_map _ | ((with_reducible show lstOf _ _ = _); with_unfolding_all exact rfl) | ((with_reducible show intsOf _ = _); with_unfolding_all exact rfl) | ((with_reducible show itemsD _ = _); with_unfolding_all exact rfl) | ((with_reducible show itemsLT _ = _); with_unfolding_all exact rfl) | ((with_reducible show boolsOf _ = _); with_unfolding_all exact rfl) | ((with_reducible show strsOf _ = _); with_unfolding_all exact rfl) | ((with_reducible show keyD _ = _); with_unfolding_all exact rfl) | with_reducible exact atI_0 | with_reducible exact atI_1 | with_reducible exact atI_2 | with_reducible exact atI_3 | with_reducible exact atI_4 | with_reducible exact setI_0 | with_reducible exact setI_1 | with_reducible exact setI_2 | with_reducible exact setI_3)
local macro_rules | `(tactic| tm_at "dz") => `(tactic| (intro z; (try simp only [decide_eq_true_eq, decide_eq_false_iff_not, eqv_int, Bool.not_eq_true', Bool.not_eq_false', Bool.not_not, Bool.false_eq_true, reduceCtorEq, Int.not_lt, Int.not_le, wholeD, List.length_cons, List.length_nil, List.length_map, isT_tuple_none, isT_tuple_bool, isT_tuple_int, isT_tuple_str, isT_tuple_list, isT_tuple_tuple, isT_int_none, isT_int_bool, isT_int_int, isT_int_str, isT_int_list, isT_int_tuple, isT_bool_none, isT_bool_bool, isT_bool_int, isT_bool_str, isT_bool_list, isT_bool_tuple, isT_str_none, isT_str_bool, isT_str_int, isT_str_str, isT_str_list, isT_str_tuple, isT_list_none, isT_list_bool, isT_list_int, isT_list_str, isT_list_list, isT_list_tuple] at z); try (first | (exfalso; omega) | exact (Bool.false_ne_true z).elim | (cases z; done))))
local macro_rules | `(tactic| tm_at "dnorm") => `(tactic| first | ((simp only [rset, rget, frzC, retag, clr, back]); done) | ((simp only [rset, rget, frzC, retag, clr, back]); exact rfl) | exact rfl)
local macro_rules | `(tactic| tm_at "dh") => `(tactic| first | ((with_reducible show wSeq _ _ _ _); with_reducible refine wSeq_i (by tm_at "dnorm") ?_) | ((with_reducible show optK _ _); with_reducible refine optK_of (by tm_at "do") ?_) | (with_reducible refine ifb ?_ ?_) <;> tm_at "dz" | ((with_reducible refine And.intro ?_ ?_); tm_at "dside") | fail "dh")
local macro_rules | `(tactic| tm_at "dc") => `(tactic| fail "dc")
local macro_rules | `(tactic| tm_at "dt") => `(tactic| first | (tm_at "dh" <;> (try tm_at "dw")) | (tm_at "dc" <;> (try tm_at "dw")))
local macro_rules | `(tactic| tm_at "dstart") => `(tactic| simp only [startD, List.length_cons, List.length_nil, Nat.reduceAdd, Nat.reduceSub, List.replicate, List.cons_append, List.nil_append])
local macro_rules | `(tactic| tm_at "dl") => `(tactic| ((try tm_at "dw"); repeat' tm_at "dt"))
local macro_rules | `(tactic| tm_at "dlc") => `(tactic| first | with_reducible refine lcK_eq (by tm_at "dnorm") ?_ | with_reducible refine forK_eq (by tm_at "dnorm") ?_)

section
set_option Elab.async false
set_option linter.all false
set_option maxRecDepth 100000
set_option maxHeartbeats 4000000
namespace CFLc
open PySem PySem.Spec PyProof.Rows L2 DL CFH CFCl CFRu CFWd CFBk CFTu CFRb CFSp CFLo
local macro_rules | `(tactic| tm_at "do") => `(tactic| with_reducible assumption)
theorem ok_law_cuts : ∀ as QD ED, S_law_cuts as QD ED → w_law_cuts (bodyEnds as QD fun _ _ => False) (startD n_law_cuts as) := by
  rintro as QD ED ⟨ls, rfl, ht, hl, q⟩
  unfold n_law_cuts w_law_cuts
  tm_at "dstart"
  tm_at "dl"
  refine forK_xs ls (fun done ρ => ∃ c2 c3 c4 c5 c6 c7 c8 : C, ρ = [.v (lyrsD ls), .own 0 (.lst ((cutsR done).map PyData.int)), c2, c3, c4, c5, c6, c7, c8]) ⟨_, _, _, _, _, _, _, rfl⟩ ?_ ?_
  · rintro ρ ⟨c2, c3, c4, c5, c6, c7, c8, rfl⟩
    have cl := cutsR_len ht
    have sz : (cutsR ls).length ≤ 4000 := by omega
    tm_at "dl"
    intro ms up mem ml
    tm_at "dl"
    exact q ms ⟨up, fun k => (mem k).trans cutsR_mem⟩ (by omega) (by omega)
  · rintro done l rest ρ next e hnx ⟨c2, c3, c4, c5, c6, c7, c8, rfl⟩
    clear q
    have dl : done.length < ls.length := by rw [e, List.length_append, List.length_cons]; omega
    have hld : ∀ k ∈ done, k.turns.length ≤ 12 := fun k hk => ht k (by rw [e]; exact List.mem_append_left _ hk)
    have hlt := ht l (by rw [e]; exact List.mem_append_right _ (.head _))
    have cl := cutsR_len hld
    tm_at "dl"
    refine forK_xs l.turns (fun dn ρ => ∃ c6 c7 c8 : C, ρ = [.v (lyrsD ls), .own 0 (.lst ((cutsR done ++ dn.flatMap fun u => [(l.start + u.1) % 1440, (l.start + u.2.1) % 1440]).map PyData.int)), .v (.str l.word), .v (.int l.start), .v (.int l.days), .v (trnsD l.turns), c6, c7, c8]) ⟨_, _, _, by rw [List.flatMap_nil, List.append_nil]⟩ ?_ ?_
    · rintro ρ ⟨c6, c7, c8, rfl⟩
      have ee : cutsR (done ++ [l]) = cutsR done ++ l.turns.flatMap fun u => [(l.start + u.1) % 1440, (l.start + u.2.1) % 1440] := by
        unfold cutsR
        rw [List.flatMap_append, List.flatMap_singleton, List.append_assoc]
      rw [← ee]
      exact hnx _ ⟨_, _, _, _, _, _, _, rfl⟩
    · rintro dn u rs ρ next2 e2 hnx2 ⟨c6, c7, c8, rfl⟩
      have dl2 : dn.length < l.turns.length := by rw [e2, List.length_append, List.length_cons]; omega
      have sl : (dn.flatMap fun u : Trn => [(l.start + u.1) % 1440, (l.start + u.2.1) % 1440]).length = 2 * dn.length := by
        clear e2 hnx2 dl2
        induction dn with
        | nil => rfl
        | cons t ts ih => rw [List.flatMap_cons, List.length_append, ih, List.length_cons]; simp only [List.length_cons, List.length_nil]; omega
      have s1 : ((cutsR done ++ dn.flatMap fun u => [(l.start + u.1) % 1440, (l.start + u.2.1) % 1440]).map PyData.int).length < 3000 := by rw [List.length_map, List.length_append, sl]; omega
      have sz1 : ((cutsR done ++ dn.flatMap fun u => [(l.start + u.1) % 1440, (l.start + u.2.1) % 1440]).map PyData.int).length + [PyData.int ((l.start + u.1) % 1440), PyData.int ((l.start + u.2.1) % 1440)].length ≤ sizeLine := by rw [sizeLine_eq]; simp only [List.length_cons, List.length_nil]; omega
      tm_at "dl"
      have ee : (cutsR done ++ (dn ++ [u]).flatMap fun u => [(l.start + u.1) % 1440, (l.start + u.2.1) % 1440]).map PyData.int = (cutsR done ++ dn.flatMap fun u => [(l.start + u.1) % 1440, (l.start + u.2.1) % 1440]).map PyData.int ++ [PyData.int ((l.start + u.1) % 1440), PyData.int ((l.start + u.2.1) % 1440)] := by
        rw [List.flatMap_append, List.flatMap_singleton, ← List.append_assoc, List.map_append]
        rfl
      rw [← ee]
      exact hnx2 _ ⟨_, _, _, rfl⟩
end CFLc
end

section
set_option Elab.async false
set_option linter.all false
set_option maxRecDepth 100000
set_option maxHeartbeats 4000000
namespace CFWh
open PySem PySem.Spec PyProof.Rows L2 DL CFH CFCl CFRu CFWd CFBk CFTu CFTd CFPl CFRa CFRb CFSp CFEd CFLo CFLc
local macro_rules | `(tactic| tm_at "dpos") => `(tactic| first | omega | decide)
local macro_rules | `(tactic| tm_at "dlog") => `(tactic| first | exact log2_sm (by omega) | exact CFH.big_log (by omega) (by omega) | assumption | exact log2_sm (by decide))
local macro_rules | `(tactic| tm_at "dc") => `(tactic| ((with_reducible show CFH.S_law_take _ _ _); refine CFH.take_i (by assumption) (by omega) (by tm_at "dpos") (by tm_at "dlog") (fun _ _ _ _ _ => ?_)))
local macro_rules | `(tactic| tm_at "dc") => `(tactic| ((with_reducible show CFH.S_law_great _ _ _); refine CFH.great_i (by assumption) (by omega) (fun _ _ _ _ _ => ?_)))
local macro_rules | `(tactic| tm_at "dc") => `(tactic| ((with_reducible show CFH.S_law_whole _ _ _); refine CFH.whole_i ?_))
local macro_rules | `(tactic| tm_at "dh") => `(tactic| first | ((with_reducible show ite _ _ _); first | (with_reducible refine DL.ifb_t (by with_reducible assumption) ?_) | (with_reducible refine DL.ifb_f (by with_reducible assumption) ?_)) | fail "dk")
theorem ok_law_whom : ∀ as QD ED, S_law_whom as QD ED → w_law_whom (bodyEnds as QD fun _ _ => False) (startD n_law_whom as) := by
  rintro as QD ED ⟨l, r, rfl, h1, ht, q⟩
  unfold n_law_whom w_law_whom
  tm_at "dstart"
  have mo : MulOk 1440 l.days := MulOk.left ⟨by decide, by decide⟩
  tm_at "dl"
  tm_at "dlc"
  refine lcK_xs (inj := trnD) (fun u => if inP (placeL l r) u = true then some (PyData.str u.2.2) else none) l.turns [] (fun u hu nx hnx => ?_) ?_
  · clear q
    tm_at "dl"
    all_goals first
      | (rw [if_pos (inP_yes ⟨by unfold placeL; assumption, by unfold placeL; assumption⟩)] at hnx; exact hnx)
      | (rw [if_neg (inP_no fun z => by have z1 := z.1; have z2 := z.2; unfold placeL at z1 z2; omega)] at hnx; exact hnx)
  rw [List.nil_append]
  have wh := who_head (l := l) (r := r)
  have le : (l.turns.filterMap fun u => if inP (placeL l r) u = true then some (PyData.str u.2.2) else none).length ≤ 1000 := Nat.le_trans (List.length_filterMap_le _ _) ht
  generalize (l.turns.filterMap fun u => if inP (placeL l r) u = true then some (PyData.str u.2.2) else none) = es at wh le ⊢
  have sz : es.length + [PyData.none].length ≤ sizeLine := by rw [List.length_singleton, sizeLine_eq]; omega
  tm_at "dl"
  refine optK_of wh ?_
  tm_at "dl"
  exact q
theorem ok_law_common : ∀ as QD ED, S_law_common as QD ED → w_law_common (bodyEnds as QD fun _ _ => False) (startD n_law_common as) := by
  rintro as QD ED ⟨ls, rfl, hl, hn, q⟩
  unfold n_law_common w_law_common
  tm_at "dstart"
  tm_at "dl"
  refine forK_xs (inj := lyrD) ls (fun done ρ => ∃ c2 c3 c4 c5 c6 : C, ρ = [.v (lyrsD ls), .v (.int (rnd done)), c2, c3, c4, c5, c6]) ⟨_, _, _, _, _, rfl⟩ ?_ ?_
  · rintro ρ ⟨c2, c3, c4, c5, c6, rfl⟩
    tm_at "dl"
    exact q
  rintro done l rest ρ next e hnx ⟨c2, c3, c4, c5, c6, rfl⟩
  have lm : l ∈ ls := by rw [e]; exact List.mem_append_right _ (.head _)
  have rp := rnd_pos fun k hk => (hl k (by rw [e]; exact List.mem_append_left _ hk)).1
  obtain ⟨d1, d60⟩ := hl l lm
  rw [rnd_snoc] at hnx
  obtain ⟨j, hj⟩ := zl_left (rnd done) l.days
  have zp := zl_pos rp (show 0 < l.days by omega)
  have zr := zl_right (rnd done) l.days
  have j0 : 0 < j := by
    rcases Int.lt_or_le 0 j with z | z
    · exact z
    · have := Int.mul_le_mul_of_nonneg_left z (Int.le_of_lt rp)
      rw [Int.mul_zero] at this
      omega
  clear q hl
  tm_at "dl"
  refine ⟨fun k ρ => ∃ (i : Int), ρ = [.v (lyrsD ls), .v (.int (rnd done * i)), .v (.str l.word), .v (.int l.start), .v (.int l.days), .v (trnsD l.turns), .v (.int (rnd done))] ∧ 1 ≤ i ∧ i ≤ j ∧ k = (j - i).toNat, ⟨_, 1, by rw [Int.mul_one], by omega, by omega, rfl⟩, ?_⟩
  rintro k ρ ⟨i, rfl, i1, i2, rfl⟩
  have dv : l.days ∣ rnd done * i → i = j := fun h => by
    have := zl_dvd (Int.dvd_mul_right (rnd done) i) h
    rw [hj] at this
    have := Int.le_of_dvd i1 ((Int.mul_dvd_mul_iff_left (by omega)).mp this)
    omega
  by_cases z : rnd done * i % l.days = 0
  · have ij := dv (Int.dvd_of_emod_eq_zero z)
    subst ij
    rw [hj] at hnx
    have ez : (!PyData.eqv (.int (rnd done * i % l.days)) (.int 0)) = false := by rw [z]; rfl
    tm_at "dl"
    exact hnx _ ⟨_, _, _, _, _, rfl⟩
  · have ij : i < j := by
      rcases Int.lt_or_le i j with y | y
      · exact y
      · exfalso
        have : i = j := by omega
        rw [this, ← hj] at z
        exact z (Int.emod_eq_zero_of_dvd zr)
    have ez : (!PyData.eqv (.int (rnd done * i % l.days)) (.int 0)) = true := by rw [eqv_int]; simpa using z
    tm_at "dl"
    exact ⟨(j - (i + 1)).toNat, by omega, i + 1, by rw [Int.mul_add, Int.mul_one], by omega, by omega, rfl⟩
end CFWh
end

section
set_option Elab.async false
set_option linter.all false
set_option maxRecDepth 100000
set_option maxHeartbeats 4000000
namespace CFLs
open PySem PySem.Spec PyProof.Rows L2 DL CFH CFCl CFRu CFWd CFBk CFCg CFLy
local macro_rules | `(tactic| tm_at "dpos") => `(tactic| first | omega | decide)
local macro_rules | `(tactic| tm_at "dlog") => `(tactic| first | exact log2_sm (by omega) | exact CFH.big_log (by omega) (by omega) | assumption | exact log2_sm (by decide))
local macro_rules | `(tactic| tm_at "dc") => `(tactic| ((with_reducible show CFH.S_law_take _ _ _); refine CFH.take_i (by assumption) (by omega) (by tm_at "dpos") (by tm_at "dlog") (fun _ _ _ _ _ => ?_)))
local macro_rules | `(tactic| tm_at "dc") => `(tactic| ((with_reducible show CFH.S_law_great _ _ _); refine CFH.great_i (by assumption) (by omega) (fun _ _ _ _ _ => ?_)))
local macro_rules | `(tactic| tm_at "dc") => `(tactic| ((with_reducible show CFH.S_law_whole _ _ _); refine CFH.whole_i ?_))
local macro_rules | `(tactic| tm_at "do") => `(tactic| with_reducible assumption)
theorem way_ok {w : Int} (h : w ∈ [1, 2, 3, 2, 4, (0 : Int)]) : ∃ (k : Nat) (m : Int), w = k ∧ k ≤ 4 ∧ atI [PyData.int 0, .int 6, .int 3, .int 2, .int 1] (k : Int) = some (.int m) ∧ 0 ≤ m ∧ m ≤ 6 ∧ (1 ≤ k → 1 ≤ m) ∧ m * k ≤ 6 := by
  simp only [List.mem_cons, List.not_mem_nil, or_false] at h
  rcases h with z | z | z | z | z | z
  · exact ⟨1, 6, z, by omega, rfl, by omega, by omega, by omega, by omega⟩
  · exact ⟨2, 3, z, by omega, rfl, by omega, by omega, by omega, by omega⟩
  · exact ⟨3, 2, z, by omega, rfl, by omega, by omega, by omega, by omega⟩
  · exact ⟨2, 3, z, by omega, rfl, by omega, by omega, by omega, by omega⟩
  · exact ⟨4, 1, z, by omega, rfl, by omega, by omega, by omega, by omega⟩
  · exact ⟨0, 0, z, by omega, rfl, by omega, by omega, by omega, by omega⟩
theorem turns_ok {k t b : Nat} {m : Int} (mk : m * k ≤ 6) (m1 : 1 ≤ k → 1 ≤ m) (k4 : k ≤ 4) (hk : 1 ≤ k) (hb : b = 1 ∨ b = 2) (h : (t : Int) ≤ m * b ∨ t ≤ 1) : t * k ≤ 6 * b := by
  have h1 := m1 hk
  have h' : (t : Int) ≤ m * b := by
    rcases h with z | z
    · exact z
    · rcases hb with rfl | rfl <;> omega
  have : (t : Int) * k ≤ m * b * k := Int.mul_le_mul_of_nonneg_right h' (by omega)
  have e : m * (b : Int) * k = (m * k) * b := by rw [Int.mul_assoc, Int.mul_comm (b : Int), ← Int.mul_assoc]
  rw [e] at this
  have : (t : Int) * k ≤ 6 * b := Int.le_trans this (Int.mul_le_mul_of_nonneg_right mk (by omega))
  exact_mod_cast this
theorem ok_law_layers : ∀ as QD ED, S_law_layers as QD ED → w_law_layers (bodyEnds as QD fun _ _ => False) (startD n_law_layers as) := by
  rintro as QD ED ⟨h, n, ws, bg, rfl, ho, hn, w0, w1, hws, q⟩
  unfold n_law_layers w_law_layers
  tm_at "dstart"
  tm_at "dl"
  refine pick_z [1, 2, 3, 2, 4, 0] rfl (by assumption) (by omega) (by decide) (by decide) fun h1 way o1 hway => ?_
  obtain ⟨k, m, rfl, k4, em, m0, m6, m1, mk⟩ := way_ok hway
  clear hway
  tm_at "dl"
  refine ⟨h1, _, 4, rfl, o1, by omega, by omega, by omega, fun h2 vs o2 vl vok => ?_⟩
  have mo1 : DL.MulOk m (1 + 0) := MulOk.right ⟨by omega, by omega⟩
  have mo2 : DL.MulOk m (1 + 1) := MulOk.right ⟨by omega, by omega⟩
  cases bg
  · tm_at "dl"
    refine pick_i (by assumption) (by omega) (Nat.le_of_ble_eq_true rfl) (Nat.le_of_ble_eq_true rfl) fun h3 mv o3 hmv => ?_
    obtain ⟨ms, rfl, hms⟩ : ∃ ms : List Int, mv = .list (ms.map PyData.int) ∧ ms ∈ menus false := by
      simp only [List.mem_cons, List.not_mem_nil, or_false] at hmv
      rcases hmv with z | z | z | z | z | z
      · exact ⟨[1, 2, 3, 4, 6, 12], z, by decide⟩
      · exact ⟨[7], z, by decide⟩
      · exact ⟨[1, 2], z, by decide⟩
      · exact ⟨[1, 7], z, by decide⟩
      · exact ⟨[2, 5, 10], z, by decide⟩
      · exact ⟨[3, 9], z, by decide⟩
    clear hmv
    obtain ⟨k0, k6, kb⟩ := menus_ok _ ms hms
    tm_at "dl"
    tm_at "dlc"
    obtain ⟨mt, emt⟩ : ∃ mt, mt = m * (1 + if false = true then 1 else 0) := ⟨_, rfl⟩
    have hmt : mt = m * (1 : Nat) := by rw [emt]; rfl
    rw [← emt]
    clear emt
    refine lcK_ind (fun es acc ρ => ∃ (h : Hd) (kk j : Nat) (ls : List Lyr) (c5 : C), h.ok kk ∧ es = rangeD (j : Int) (k - j) ∧ j ≤ k ∧ kk + 201 * (k - j) ≤ n + 900 ∧ acc = ls.map lyrD ∧ ls.map (·.word) = vs.take j ∧ (∀ l ∈ ls, LyrOk l ∧ l.days ∈ ms ∧ (∀ t ∈ l.turns, t.2.2 ∈ ws) ∧ ((l.turns.length : Int) ≤ mt ∨ l.turns.length ≤ 1)) ∧ ρ = [.own 1 (.lst (CFH.hd h)), .v (wsD ws), .v (.bool false), .v (.int k), .v (.list (vs.map PyData.str)), c5, .v (.list (ms.map PyData.int)), .v (.int mt), .no, .no]) ?_ ?_ _ _ _ ⟨h3, _, 0, [], _, o3, by rw [Nat.sub_zero, Int.toNat_natCast]; rfl, Nat.zero_le _, by omega, rfl, rfl, (fun l hl => by cases hl), rfl⟩
    · rintro acc ρ ⟨h4, kk, j, ls, c5, o4, he, hj, hk, rfl, hw, hl, rfl⟩
      have ej : j = k := by
        rcases Nat.lt_or_ge j k with z | z
        · rw [show k - j = (k - (j + 1)) + 1 by omega, rangeD_cons] at he
          cases he
        · omega
      subst ej
      have ll : ls.length = j := by
        have := congrArg List.length hw
        rw [List.length_map, List.length_take] at this
        omega
      have lf : C.lf (.own 0 (.lst (ls.map lyrD))) = true := lfreeAll_of fun d hd => by
        obtain ⟨x, _, rfl⟩ := List.mem_map.mp hd
        exact lf_lyr0
      have sz : (ls.map lyrD).length < sizeLine := by rw [List.length_map, sizeLine_eq]; omega
      tm_at "dl"
      refine q h4 ls (o4.up (by omega)) ⟨by omega, fun l h => (hl l h).1, by rw [hw]; exact vok.nd.sublist (List.take_sublist _ _), fun l h => (hl l h).2.2.1, ⟨ms, hms, fun l h => (hl l h).2.1⟩, fun l h => ?_⟩
      have z := (hl l h).2.2.2
      rw [hmt] at z
      rw [ll]
      have k1 : 1 ≤ j := by
        have := List.length_pos_of_mem h
        omega
      exact turns_ok (b := 1) mk m1 k4 k1 (by omega) z
    · rintro d es acc ρ nx hnx ⟨h4, kk, j, ls, c5, o4, he, hj, hk, rfl, hw, hl, rfl⟩
      have hjk : j < k := by
        rcases Nat.lt_or_ge j k with z | z
        · exact z
        · rw [show k - j = 0 by omega, rangeD_zero] at he; cases he
      rw [show k - j = (k - (j + 1)) + 1 by omega, rangeD_cons] at he
      obtain ⟨rfl, rfl⟩ : d = .int (j : Nat) ∧ es = rangeD ((j : Int) + 1) (k - (j + 1)) := by
        cases he
        exact ⟨rfl, rfl⟩
      have hv : j < vs.length := by omega
      have gj : atI (vs.map PyData.str) (j : Int) = some (.str vs[j]) := L2.atI_nat (by rw [List.getElem?_map, List.getElem?_eq_getElem hv]; rfl)
      have wj := vok.ok _ (List.getElem_mem hv)
      have mt0 : 0 ≤ mt ∧ mt ≤ 12 := by omega
      tm_at "dl"
      refine pick_z ms rfl o4 (by omega) k0 (by omega) fun h5 dy o5 hdy => ?_
      have hb := kb dy hdy
      tm_at "dl"
      refine layer_i (ws := ws) o5 (by omega) wj w0 w1 hws hb.1 hb.2 mt0.1 mt0.2 fun h6 l o6 ok ew ed eh et => ?_
      have lf := lf_lyr (l := l)
      tm_at "dl"
      refine hnx _ _ ⟨h6, _, j + 1, ls ++ [l], c5, o6, by push_cast; rfl, hjk, by omega, by rw [List.map_append]; rfl, ?_, ?_, rfl⟩
      · rw [List.map_append, hw, List.take_add_one, List.getElem?_eq_getElem hv, ← ew]
        rfl
      · intro l' h
        rcases List.mem_append.mp h with z | z
        · exact hl l' z
        · rw [List.mem_singleton.mp z, ed]
          exact ⟨ok, hdy, eh, et⟩
  · tm_at "dl"
    refine pick_i (by assumption) (by omega) (Nat.le_of_ble_eq_true rfl) (Nat.le_of_ble_eq_true rfl) fun h3 mv o3 hmv => ?_
    obtain ⟨ms, rfl, hms⟩ : ∃ ms : List Int, mv = .list (ms.map PyData.int) ∧ ms ∈ menus true := by
      simp only [List.mem_cons, List.not_mem_nil, or_false] at hmv
      rcases hmv with z | z | z | z | z | z
      · exact ⟨[1, 2, 3, 4, 6, 12], z, by decide⟩
      · exact ⟨[7, 14, 28], z, by decide⟩
      · exact ⟨[1, 2, 4, 7, 14, 28], z, by decide⟩
      · exact ⟨[3, 5, 15, 30, 60], z, by decide⟩
      · exact ⟨[8, 9], z, by decide⟩
      · exact ⟨[5, 11], z, by decide⟩
    clear hmv
    obtain ⟨k0, k6, kb⟩ := menus_ok _ ms hms
    tm_at "dl"
    tm_at "dlc"
    obtain ⟨mt, emt⟩ : ∃ mt, mt = m * (1 + if True then 1 else 0) := ⟨_, rfl⟩
    have hmt : mt = m * (2 : Nat) := by rw [emt]; rfl
    rw [← emt]
    clear emt
    refine lcK_ind (fun es acc ρ => ∃ (h : Hd) (kk j : Nat) (ls : List Lyr) (c5 : C), h.ok kk ∧ es = rangeD (j : Int) (k - j) ∧ j ≤ k ∧ kk + 201 * (k - j) ≤ n + 900 ∧ acc = ls.map lyrD ∧ ls.map (·.word) = vs.take j ∧ (∀ l ∈ ls, LyrOk l ∧ l.days ∈ ms ∧ (∀ t ∈ l.turns, t.2.2 ∈ ws) ∧ ((l.turns.length : Int) ≤ mt ∨ l.turns.length ≤ 1)) ∧ ρ = [.own 1 (.lst (CFH.hd h)), .v (wsD ws), .v (.bool true), .v (.int k), .v (.list (vs.map PyData.str)), c5, .v (.list (ms.map PyData.int)), .v (.int mt), .no, .no]) ?_ ?_ _ _ _ ⟨h3, _, 0, [], _, o3, by rw [Nat.sub_zero, Int.toNat_natCast]; rfl, Nat.zero_le _, by omega, rfl, rfl, (fun l hl => by cases hl), rfl⟩
    · rintro acc ρ ⟨h4, kk, j, ls, c5, o4, he, hj, hk, rfl, hw, hl, rfl⟩
      have ej : j = k := by
        rcases Nat.lt_or_ge j k with z | z
        · rw [show k - j = (k - (j + 1)) + 1 by omega, rangeD_cons] at he
          cases he
        · omega
      subst ej
      have ll : ls.length = j := by
        have := congrArg List.length hw
        rw [List.length_map, List.length_take] at this
        omega
      have lf : C.lf (.own 0 (.lst (ls.map lyrD))) = true := lfreeAll_of fun d hd => by
        obtain ⟨x, _, rfl⟩ := List.mem_map.mp hd
        exact lf_lyr0
      have sz : (ls.map lyrD).length < sizeLine := by rw [List.length_map, sizeLine_eq]; omega
      tm_at "dl"
      refine q h4 ls (o4.up (by omega)) ⟨by omega, fun l h => (hl l h).1, by rw [hw]; exact vok.nd.sublist (List.take_sublist _ _), fun l h => (hl l h).2.2.1, ⟨ms, hms, fun l h => (hl l h).2.1⟩, fun l h => ?_⟩
      have z := (hl l h).2.2.2
      rw [hmt] at z
      rw [ll]
      have k1 : 1 ≤ j := by
        have := List.length_pos_of_mem h
        omega
      exact turns_ok (b := 2) mk m1 k4 k1 (by omega) z
    · rintro d es acc ρ nx hnx ⟨h4, kk, j, ls, c5, o4, he, hj, hk, rfl, hw, hl, rfl⟩
      have hjk : j < k := by
        rcases Nat.lt_or_ge j k with z | z
        · exact z
        · rw [show k - j = 0 by omega, rangeD_zero] at he; cases he
      rw [show k - j = (k - (j + 1)) + 1 by omega, rangeD_cons] at he
      obtain ⟨rfl, rfl⟩ : d = .int (j : Nat) ∧ es = rangeD ((j : Int) + 1) (k - (j + 1)) := by
        cases he
        exact ⟨rfl, rfl⟩
      have hv : j < vs.length := by omega
      have gj : atI (vs.map PyData.str) (j : Int) = some (.str vs[j]) := L2.atI_nat (by rw [List.getElem?_map, List.getElem?_eq_getElem hv]; rfl)
      have wj := vok.ok _ (List.getElem_mem hv)
      have mt0 : 0 ≤ mt ∧ mt ≤ 12 := by omega
      tm_at "dl"
      refine pick_z ms rfl o4 (by omega) k0 (by omega) fun h5 dy o5 hdy => ?_
      have hb := kb dy hdy
      tm_at "dl"
      refine layer_i (ws := ws) o5 (by omega) wj w0 w1 hws hb.1 hb.2 mt0.1 mt0.2 fun h6 l o6 ok ew ed eh et => ?_
      have lf := lf_lyr (l := l)
      tm_at "dl"
      refine hnx _ _ ⟨h6, _, j + 1, ls ++ [l], c5, o6, by push_cast; rfl, hjk, by omega, by rw [List.map_append]; rfl, ?_, ?_, rfl⟩
      · rw [List.map_append, hw, List.take_add_one, List.getElem?_eq_getElem hv, ← ew]
        rfl
      · intro l' h
        rcases List.mem_append.mp h with z | z
        · exact hl l' z
        · rw [List.mem_singleton.mp z, ed]
          exact ⟨ok, hdy, eh, et⟩
end CFLs
end

section
set_option Elab.async false
set_option linter.all false
set_option maxRecDepth 100000
set_option maxHeartbeats 4000000
namespace CFLo
open PySem PySem.Spec PyProof.Rows L2 DL CFH CFCl CFRu CFWd CFBk CFTu CFRb CFSp
local macro_rules | `(tactic| tm_at "do") => `(tactic| with_reducible assumption)
theorem ok_hand_at : ∀ as QD ED, S_hand_at as QD ED → w_hand_at (bodyEnds as QD fun _ _ => False) (startD n_hand_at as) := by
  rintro as QD ED ⟨l, r, rfl, hd, ht, q⟩
  unfold n_hand_at w_hand_at
  tm_at "dstart"
  tm_at "dl"
  refine turn_i hd ht ?_
  have e := turn_who (l := l) (r := r)
  cases ej : turnL l r with
  | none =>
    rw [ej] at e
    rw [e] at q
    tm_at "dl"
    exact q
  | some j =>
    rw [ej] at e
    obtain ⟨i, t, e1, e2, _⟩ := turnG_some (show turnG (placeL l r) 0 l.turns = some j from ej)
    rw [Nat.zero_add] at e1
    subst e1
    rw [show whoL l r = some t.2.2 from by rw [e]; show (l.turns[j]?).map (·.2.2) = _; rw [e2]; rfl] at q
    have g1 : atI (l.turns.map trnD) (j : Int) = some (trnD t) := L2.atI_nat (by rw [List.getElem?_map, e2]; rfl)
    tm_at "dl"
    exact q
theorem ok_cuts_of : ∀ as QD ED, S_cuts_of as QD ED → w_cuts_of (bodyEnds as QD fun _ _ => False) (startD n_cuts_of as) := by
  rintro as QD ED ⟨ls, rfl, ht, hl, q⟩
  unfold n_cuts_of w_cuts_of
  tm_at "dstart"
  tm_at "dl"
  refine forK_xs ls (fun done ρ => ∃ c2 c3 c4 c5 c6 c7 c8 : C, ρ = [.v (lyrsD ls), .own 0 (.lst ((cutsR done).map PyData.int)), c2, c3, c4, c5, c6, c7, c8]) ⟨_, _, _, _, _, _, _, rfl⟩ ?_ ?_
  · rintro ρ ⟨c2, c3, c4, c5, c6, c7, c8, rfl⟩
    have cl := cutsR_len ht
    have sz : (cutsR ls).length ≤ 4000 := by omega
    tm_at "dl"
    intro ms up mem ml
    tm_at "dl"
    exact q ms ⟨up, fun k => (mem k).trans cutsR_mem⟩ (by omega) (by omega)
  · rintro done l rest ρ next e hnx ⟨c2, c3, c4, c5, c6, c7, c8, rfl⟩
    clear q
    have dl : done.length < ls.length := by rw [e, List.length_append, List.length_cons]; omega
    have hld : ∀ k ∈ done, k.turns.length ≤ 12 := fun k hk => ht k (by rw [e]; exact List.mem_append_left _ hk)
    have hlt := ht l (by rw [e]; exact List.mem_append_right _ (.head _))
    have cl := cutsR_len hld
    tm_at "dl"
    refine forK_xs l.turns (fun dn ρ => ∃ c6 c7 c8 : C, ρ = [.v (lyrsD ls), .own 0 (.lst ((cutsR done ++ dn.flatMap fun u => [(l.start + u.1) % 1440, (l.start + u.2.1) % 1440]).map PyData.int)), .v (.str l.word), .v (.int l.start), .v (.int l.days), .v (trnsD l.turns), c6, c7, c8]) ⟨_, _, _, by rw [List.flatMap_nil, List.append_nil]⟩ ?_ ?_
    · rintro ρ ⟨c6, c7, c8, rfl⟩
      have ee : cutsR (done ++ [l]) = cutsR done ++ l.turns.flatMap fun u => [(l.start + u.1) % 1440, (l.start + u.2.1) % 1440] := by
        unfold cutsR
        rw [List.flatMap_append, List.flatMap_singleton, List.append_assoc]
      rw [← ee]
      exact hnx _ ⟨_, _, _, _, _, _, _, rfl⟩
    · rintro dn u rs ρ next2 e2 hnx2 ⟨c6, c7, c8, rfl⟩
      have dl2 : dn.length < l.turns.length := by rw [e2, List.length_append, List.length_cons]; omega
      have sl : (dn.flatMap fun u : Trn => [(l.start + u.1) % 1440, (l.start + u.2.1) % 1440]).length = 2 * dn.length := by
        clear e2 hnx2 dl2
        induction dn with
        | nil => rfl
        | cons t ts ih => rw [List.flatMap_cons, List.length_append, ih, List.length_cons]; simp only [List.length_cons, List.length_nil]; omega
      have s1 : ((cutsR done ++ dn.flatMap fun u => [(l.start + u.1) % 1440, (l.start + u.2.1) % 1440]).map PyData.int).length < 3000 := by rw [List.length_map, List.length_append, sl]; omega
      have sz1 := Nat.lt_of_lt_of_le s1 (show 3000 ≤ sizeLine by rw [sizeLine_eq]; decide)
      have sz2 : ((cutsR done ++ dn.flatMap fun u => [(l.start + u.1) % 1440, (l.start + u.2.1) % 1440]).map PyData.int ++ [PyData.int ((l.start + u.1) % 1440)]).length < sizeLine := by rw [List.length_append, sizeLine_eq]; simp only [List.length_cons, List.length_nil]; omega
      tm_at "dl"
      have ee : (cutsR done ++ (dn ++ [u]).flatMap fun u => [(l.start + u.1) % 1440, (l.start + u.2.1) % 1440]).map PyData.int = (cutsR done ++ dn.flatMap fun u => [(l.start + u.1) % 1440, (l.start + u.2.1) % 1440]).map PyData.int ++ [PyData.int ((l.start + u.1) % 1440)] ++ [PyData.int ((l.start + u.2.1) % 1440)] := by
        rw [List.flatMap_append, List.flatMap_singleton, ← List.append_assoc, List.map_append, List.append_assoc]
        rfl
      rw [← ee]
      exact hnx2 _ ⟨_, _, _, rfl⟩
theorem ok_rests_of : ∀ as QD ED, S_rests_of as QD ED → w_rests_of (bodyEnds as QD fun _ _ => False) (startD n_rests_of as) := by
  rintro as QD ED ⟨l, m, rfl, hl, q⟩
  have d1 := hl.d1
  have d60 := hl.d60
  unfold n_rests_of w_rests_of
  tm_at "dstart"
  tm_at "dl"
  tm_at "dlc"
  refine lcK_r0 (fun k => some (optS (hdL l m (k : Nat)))) l.days.toNat ?_ ?_
  · intro x hx next nx
    clear q
    tm_at "dl"
    refine hand_at_i d1 (by have := hl.tl; omega) ?_
    have lf : lfree (optS (whoL l (1440 * (x : Int) + m))) = true := lf_optS
    tm_at "dl"
    exact nx
  · have e : (List.range l.days.toNat).filterMap (fun k => some (optS (hdL l m (k : Nat)))) = hdsL l m := by
      unfold hdsL
      rw [List.filterMap_eq_map']
    rw [e]
    tm_at "dl"
    exact q
theorem hds_len {l : Lyr} {m : Int} : (hdsL l m).length = l.days.toNat := by unfold hdsL; rw [List.length_map, List.length_range]
theorem hds_at {l : Lyr} {m o : Int} (h0 : 0 ≤ o) (h1 : o < l.days) : atI (hdsL l m) o = some (optS (hdL l m o)) := by
  obtain ⟨k, rfl⟩ := Int.eq_ofNat_of_zero_le h0
  refine L2.atI_nat ?_
  unfold hdsL
  rw [List.getElem?_map, List.getElem?_range (by omega)]
  rfl
theorem rgc_up {a b c : Int} (ha : -(2 ^ 40) ≤ a) (ha' : a < 2 ^ 40) (hb : -(2 ^ 40) ≤ b) (hb' : b < 2 ^ 40) (hc : 0 < c) (hc' : c < 2 ^ 29) : RgC a b c ((b - a + c - 1) / c).toNat := by
  have e : Builtin.Range.rangeSize a b c = (((b - a + c - 1) / c).toNat : Int) := by
    unfold Builtin.Range.rangeSize
    rw [if_pos (by omega)]
    split
    · have e1 : b - a + c - 1 = (b - a - 1) + 1 * c := by omega
      have p : 0 ≤ (b - a - 1) / c := Int.ediv_nonneg (by omega) (by omega)
      rw [e1, Int.add_mul_ediv_right _ _ (by omega)]
      omega
    · have p : (b - a + c - 1) / c < 1 := Int.ediv_lt_of_lt_mul hc (by omega)
      omega
  have bd : (b - a + c - 1) / c < 2 ^ 42 := Int.ediv_lt_of_lt_mul hc (by
    have : (2 : Int) ^ 42 * 1 ≤ 2 ^ 42 * c := Int.mul_le_mul_of_nonneg_left (by omega) (by decide)
    omega)
  refine ⟨by omega, by omega, ?_, e⟩
  unfold Builtin.Range.small
  rw [e]
  simp only [Builtin.Range.rangeFitsLong, Bool.and_eq_true, Bool.or_eq_true, decide_eq_true_eq, beq_iff_eq, if_pos (show c > 0 by omega)]
  omega
theorem stepD_ones {r g n : Int} : stepD (r % g) g (((n - r % g + g - 1) / g).toNat) = (onesL r g n).map PyData.int := by
  unfold stepD onesL
  rw [List.map_map]
  rfl
theorem zl_one {n : Int} (h : 0 < n) : zl 1 n = n := by
  unfold zl
  obtain ⟨k, rfl⟩ := Int.eq_ofNat_of_zero_le (Int.le_of_lt h)
  show ((Nat.lcm 1 k : Nat) : Int) = k
  rw [Nat.lcm_one_left]
theorem crt_uniq {m n r s x : Int} (hm : 0 < m) (hn : 0 < n) (h : zg m n ∣ r - s) (x0 : 0 ≤ x) (x1 : x < zl m n) (h1 : m ∣ x - r) (h2 : n ∣ x - s) : x = crt r m s n := by
  obtain ⟨c0, c1, c2, c3⟩ := crt_ok hm hn h
  have d1 : zl m n ∣ x - crt r m s n := zl_dvd (dvd_sub3 h1 (dvd_sub_comm c2)) (dvd_sub3 h2 (dvd_sub_comm c3))
  have e := (Int.emod_eq_emod_iff_emod_sub_eq_zero).mpr (Int.emod_eq_zero_of_dvd d1)
  rwa [Int.emod_eq_of_lt x0 x1, Int.emod_eq_of_lt c0 c1] at e
theorem ones_len {r g n : Int} (hg : 0 < g) (hn : g ∣ n) (n0 : 0 < n) : (onesL r g n).length ≤ n.toNat := by
  have e0 := Int.emod_nonneg r (b := g) (by omega)
  have bd : (n - r % g + g - 1) / g < n + 1 := Int.ediv_lt_of_lt_mul hg (by
    have : n + 1 ≤ (n + 1) * g - g + 1 := by
      rw [Int.add_mul, Int.one_mul]
      have : n * 1 ≤ n * g := Int.mul_le_mul_of_nonneg_left (by omega) (by omega)
      omega
    omega)
  unfold onesL
  rw [List.length_map, List.length_range]
  omega
theorem ok_longer : ∀ as QD ED, S_longer as QD ED → w_longer (bodyEnds as QD fun _ _ => False) (startD n_longer as) := by
  rintro as QD ED ⟨a, l, m, rfl, hl, r0, r1, an, ars, q⟩
  have d1 := hl.d1
  have d60 := hl.d60
  have np : 0 < a.n := by omega
  have gp : 0 < zg a.n l.days := zg_pos (by omega)
  have hlen : ((hdsL l m).length : Int) = l.days := by rw [hds_len]; omega
  unfold n_longer w_longer
  tm_at "dstart"
  tm_at "dl"
  refine ⟨a.n, ((hdsL l m).length : Nat), rfl, by omega, by omega, ?_⟩
  rw [hlen]
  tm_at "dl"
  rw [hlen]
  have gl := zg_le (a := a.n) (b := l.days) (by omega)
  have q0 := Int.emod_nonneg a.r (b := zg a.n l.days) (by omega)
  have q1 := Int.emod_lt_of_pos a.r gp
  refine ⟨_, rgc_up (by omega) (by omega) (by omega) (by omega) gp (by omega), ?_⟩
  rw [stepD_ones]
  tm_at "dl"
  refine forK_xs (inj := PyData.int) (onesL a.r (zg a.n l.days) l.days) (fun done ρ => ∃ c7 c8 : C, ρ = [.v (ahD a), .v (.list (hdsL l m)), .v (intsD a.rs), .v (.int a.r), .v (.int a.n), .v (.int (zg a.n l.days)), .own 0 (.lst (done.map (lgD a l m))), c7, c8]) ⟨_, _, rfl⟩ ?_ ?_
  · rintro ρ ⟨c7, c8, rfl⟩
    tm_at "dl"
    exact q
  rintro done o rest ρ next e hnx ⟨c7, c8, rfl⟩
  have om : o ∈ onesL a.r (zg a.n l.days) l.days := by rw [e]; exact List.mem_append_right _ (.head _)
  obtain ⟨o0, o1, og⟩ := (ones_mem gp (zg_right a.n l.days) (by omega)).mp om
  have dlen : done.length < l.days.toNat := by
    have : (onesL a.r (zg a.n l.days) l.days).length ≤ l.days.toNat := ones_len gp (zg_right a.n l.days) (by omega)
    rw [e, List.length_append, List.length_cons] at this
    omega
  have sz : (done.map (lgD a l m)).length < sizeLine := by rw [List.length_map, sizeLine_eq]; omega
  have at1 := hds_at (m := m) o0 o1
  have sz2 : (a.rs.map PyData.int).length + [PyData.int o].length ≤ sizeLine := by rw [List.length_map, sizeLine_eq]; simp only [List.length_cons, List.length_nil]; omega
  clear q e
  tm_at "dl"
  rw [hlen]
  have lp2 : Lp [(a.r, a.n), (o, l.days)] = zl a.n l.days := by
    show zl (zl 1 a.n) l.days = _
    rw [zl_one np]
  refine ⟨[(a.r, a.n), (o, l.days)], rfl, fun p hp => ?_, ?_, fun i j p q' hij hi hj hagr => ?_, fun x x0 x1 hs => ?_⟩
  · simp only [List.mem_cons, List.not_mem_nil, or_false] at hp
    rcases hp with rfl | rfl
    · exact ⟨r0, r1⟩
    · exact ⟨o0, o1⟩
  · rw [lp2]
    exact sm60 (by have := zl_pos np (by omega : 0 < l.days); omega) (zl_dvd an (div60 d1 d60))
  · exfalso
    have ag : agr (a.r, a.n) (o, l.days) = true := agr_iff.mpr og
    match i, j, hij, hi, hj with
    | 0, 1, _, hi, hj =>
      cases hi
      cases hj
      rw [ag] at hagr
      cases hagr
    | 0, j + 2, _, _, hj => cases hj
    | 1, j + 2, _, _, hj => cases hj
    | i + 2, _, _, hi, _ => cases hi
  · rw [lp2] at x1 ⊢
    have ec : x = crt a.r a.n o l.days := crt_uniq np (by omega) og x0 x1 (hs (a.r, a.n) (.head _)) (hs (o, l.days) (.tail _ (.head _)))
    subst ec
    have lfo : lfree (optS (hdL l m o)) = true := lf_optS
    tm_at "dl"
    have ee : (done ++ [o]).map (lgD a l m) = done.map (lgD a l m) ++ [PyData.tuple [PyData.tuple (a.rs.map PyData.int ++ [PyData.int o]), PyData.int (crt a.r a.n o l.days), PyData.int (zl a.n l.days), optS (hdL l m o)]] := by
      rw [List.map_append]
      unfold lgD intsD
      rw [List.map_cons, List.map_nil, List.map_append]
      rfl
    rw [← ee]
    exact hnx _ ⟨_, _, rfl⟩
theorem ltD_ok {x : Lt} : FstOk (ltD x) := by
  show (intsOf (x.1.map PyData.int)).isSome = true
  rw [intsOf_map]
  rfl
theorem ltD_fst {x : Lt} : fstI (ltD x) = x.1 := by
  show (intsOf (x.1.map PyData.int)).getD [] = x.1
  rw [intsOf_map]
  rfl
theorem ok_in_piece : ∀ as QD ED, S_in_piece as QD ED → w_in_piece (bodyEnds as QD ED) (startD n_in_piece as) := by
  rintro as QD ED ⟨ls, m, room, rfl, hls, l200, hne, r2, q, qe⟩
  have hd : ∀ l ∈ ls, 1 ≤ l.days := fun l hl => (hls l hl).d1
  unfold n_in_piece w_in_piece
  tm_at "dstart"
  tm_at "dl"
  refine forK_xs ls (fun done ρ => ∃ c5 c6 c7 c8 c9 c10 c11 c12 : C, (done ≠ [] → (cntS (stgF m done s0) : Int) ≤ room) ∧ ρ = [.v (lyrsD ls), .v (.int m), .v (.int room), .v (.list ((stgF m done s0).2.map ahD)), .own 0 (.lst ((stgF m done s0).1.map ltD)), c5, c6, c7, c8, c9, c10, c11, c12, .no]) ⟨_, _, _, _, _, _, _, _, fun z => absurd rfl z, rfl⟩ ?_ ?_
  · rintro ρ ⟨c5, c6, c7, c8, c9, c10, c11, c12, hr, rfl⟩
    have l2 : ((stgF m ls s0).2.map ahD).length = (stgF m ls s0).2.length := List.length_map ..
    have cb : cntS (stgF m ls s0) ≤ 2000 := by
      by_cases z : ls = []
      · subst z; exact Nat.le_of_ble_eq_true rfl
      · have := hr z; omega
    have pl : ((pcL ls m).length : Int) ≤ room := by
      rw [pc_cnt]
      by_cases z : ls = []
      · subst z
        have : cntS (stgF m [] s0) = 1 := rfl
        rcases hne with y | y
        · exact absurd rfl y
        · omega
      · exact hr z
    have qq := q pl
    have szL : ((stgF m ls s0).2.map ahD).length ≤ sizeLine := by
      rw [l2, sizeLine_eq]
      unfold cntS at cb
      omega
    clear q qe hr
    tm_at "dl"
    tm_at "dlc"
    refine lcK_ys (inj := ahD) (fun a => ltD (a.rs, none)) (stgF m ls s0).2 (fun x hx nx hnx => ?_) ?_
    · clear qq
      tm_at "dl"
      exact hnx
    have sz : ((stgF m ls s0).1.map ltD).length + ((stgF m ls s0).2.map fun a => ltD (a.rs, none)).length ≤ sizeLine := by
      rw [List.length_map, List.length_map, sizeLine_eq]
      unfold cntS at cb
      omega
    have er : (stgF m ls s0).1.map ltD ++ (stgF m ls s0).2.map (fun a => ltD (a.rs, none)) = (rawL ls m).map ltD := by
      unfold rawL
      rw [List.map_append, List.map_map]
      rfl
    tm_at "dl"
    rw [er]
    refine ⟨fun d hd' => ?_, ?_, fun es' p pw => ?_⟩
    · obtain ⟨x, _, rfl⟩ := List.mem_map.mp hd'
      exact ltD_ok
    · rw [List.map_map]
      have := raw_nodup (m := m) hd
      refine Eq.mpr ?_ this
      congr 1
      refine List.map_congr_left fun x _ => ?_
      exact ltD_fst
    · obtain ⟨xs, p1, p2⟩ := perm_lift p (rawL ls m) rfl
      have e := pc_of hd p1 (List.Pairwise.imp (fun {x y} z => by rw [ltD_fst, ltD_fst] at z; exact z) (List.pairwise_map.mp (p2.symm ▸ pw)))
      rw [← p2, e]
      tm_at "dl"
      exact qq
  rintro done l rest ρ next e hnx ⟨c5, c6, c7, c8, c9, c10, c11, c12, hr, rfl⟩
  have hl := hls l (by rw [e]; exact List.mem_append_right _ (.head _))
  have hld : ∀ k ∈ done, LoOk k := fun k hk => hls k (by rw [e]; exact List.mem_append_left _ hk)
  have d1 := hl.d1
  have d60 := hl.d60
  have dl : done.length < ls.length := by rw [e, List.length_append, List.length_cons]; omega
  have inv : CFLo.Inv done m (stgF m done s0) := inv_stg (pre := []) (fun k hk => (hld k hk).d1) inv_nil
  have es : stgF m (done ++ [l]) s0 = ((stgF m done s0).1 ++ (stgF m done s0).2.flatMap (fdL l m), (stgF m done s0).2.flatMap (bhL l m)) := stg_app
  have pos : ∀ a ∈ (stgF m done s0).2, 0 < a.n := fun a ha => by have := inv.ah a ha; omega
  have tot : cntS (stgF m (done ++ [l]) s0) ≤ (pcL ls m).length := by
    rw [pc_cnt, e, show done ++ l :: rest = (done ++ [l]) ++ rest by rw [List.append_assoc]; rfl, stg_app (ls := done ++ [l])]
    refine cnt_mono (fun k hk => hd k (by rw [e]; exact List.mem_append_right _ (.tail _ hk))) ?_
    rw [es]
    exact bh_pos d1 pos
  have n60 : rnd done ∣ L60 := rnd_60 hld
  have sb : cntS (stgF m done s0) ≤ 2000 := by
    by_cases z : done = []
    · subst z; exact Nat.le_of_ble_eq_true rfl
    · have := hr z; omega
  have ne2 : (stgF m done s0).2 = [] → done ≠ [] := fun z y => by
    subst y
    cases z
  generalize stgF m done s0 = s at *
  clear q hne e
  tm_at "dl"
  refine ⟨l, m, rfl, hl, ?_⟩
  tm_at "dl"
  refine forK_xs (inj := ahD) s.2 (fun dn ρ => ∃ c8 c9 c10 c11 c12 : C, (dn ≠ [] → (((s.1 ++ dn.flatMap (fdL l m)).length + (dn.flatMap (bhL l m)).length : Nat) : Int) ≤ room) ∧ ρ = [.v (lyrsD ls), .v (.int m), .v (.int room), .v (.list (s.2.map ahD)), .own 0 (.lst ((s.1 ++ dn.flatMap (fdL l m)).map ltD)), .v (lyrD l), .v (.list (hdsL l m)), .own 0 (.lst ((dn.flatMap (bhL l m)).map ahD)), c8, c9, c10, c11, c12, .no]) ⟨_, _, _, _, _, fun z => absurd rfl z, by rw [List.flatMap_nil, List.append_nil]; rfl⟩ ?_ ?_
  · rintro ρ ⟨c8, c9, c10, c11, c12, hr2, rfl⟩
    clear qe
    tm_at "dl"
    refine hnx _ ⟨_, _, _, _, _, _, _, _, fun _ => ?_, by rw [es]⟩
    rw [es]
    unfold cntS
    by_cases z : s.2 = []
    · have := hr (ne2 z)
      unfold cntS at this
      rw [z] at this ⊢
      rw [List.flatMap_nil, List.flatMap_nil, List.append_nil]
      exact this
    · exact hr2 z
  rintro dn a rs ρ next2 e2 hnx2 ⟨c8, c9, c10, c11, c12, hr2, rfl⟩
  have am : a ∈ s.2 := by rw [e2]; exact List.mem_append_right _ (.head _)
  obtain ⟨a0, a1, an, al, _⟩ := inv.ah a am
  have gp : 0 < zg a.n l.days := zg_pos (by omega)
  have ol := ones_len (r := a.r) gp (zg_right a.n l.days) (by omega)
  have part := cnt_part d1 pos (A := dn ++ [a]) (B := rs) (m := m) (by rw [e2, List.append_assoc]; rfl)
  rw [← es] at part
  have cb : (s.1 ++ dn.flatMap (fdL l m)).length + (dn.flatMap (bhL l m)).length ≤ 2000 := by
    by_cases z : dn = []
    · subst z
      rw [List.flatMap_nil, List.flatMap_nil, List.append_nil]
      unfold cntS at sb
      show s.1.length + 0 ≤ 2000
      omega
    · have := hr2 z; omega
  clear hr2 e2 hnx
  tm_at "dl"
  refine ⟨a, l, m, rfl, hl, a0, a1, by rw [an]; exact n60, by omega, ?_⟩
  tm_at "dl"
  refine forK_xs (inj := lgD a l m) (onesL a.r (zg a.n l.days) l.days) (fun os ρ => ∃ c9 c10 c11 c12 : C, ρ = [.v (lyrsD ls), .v (.int m), .v (.int room), .v (.list (s.2.map ahD)), .own 0 (.lst ((s.1 ++ dn.flatMap (fdL l m) ++ (os.filter fun o => (hdL l m o).isSome).map fun o => (a.rs ++ [o], hdL l m o)).map ltD)), .v (lyrD l), .v (.list (hdsL l m)), .own 0 (.lst ((dn.flatMap (bhL l m) ++ (os.filter fun o => (hdL l m o).isNone).map (ahN a l.days)).map ahD)), .v (ahD a), c9, c10, c11, c12, .no]) ⟨_, _, _, _, by rw [List.filter_nil, List.map_nil, List.append_nil, List.filter_nil, List.map_nil, List.append_nil]⟩ ?_ ?_
  · rintro ρ ⟨c9, c10, c11, c12, rfl⟩
    have ef : (dn ++ [a]).flatMap (fdL l m) = dn.flatMap (fdL l m) ++ (((onesL a.r (zg a.n l.days) l.days).filter fun o => (hdL l m o).isSome).map fun o => (a.rs ++ [o], hdL l m o)) := by rw [List.flatMap_append, List.flatMap_singleton]; rfl
    have eb : (dn ++ [a]).flatMap (bhL l m) = dn.flatMap (bhL l m) ++ (((onesL a.r (zg a.n l.days) l.days).filter fun o => (hdL l m o).isNone).map (ahN a l.days)) := by rw [List.flatMap_append, List.flatMap_singleton]; rfl
    rw [← eb, List.append_assoc, ← ef]
    generalize hx : s.1 ++ (dn ++ [a]).flatMap (fdL l m) = X at *
    generalize hy : (dn ++ [a]).flatMap (bhL l m) = Y at *
    have cX : ((X.map ltD).length : Int) = X.length := by rw [List.length_map]
    have cY : ((Y.map ahD).length : Int) = Y.length := by rw [List.length_map]
    have cc : ((X.length + Y.length : Nat) : Int) = ((X.map ltD).length : Int) + ((Y.map ahD).length : Int) := by rw [cX, cY]; omega
    tm_at "dl"
    · exact qe (by omega)
    · refine hnx2 _ ⟨_, _, _, _, _, fun _ => ?_, rfl⟩
      (try rw [hx, hy])
      omega
  rintro os o os2 ρ next3 e3 hnx3 ⟨c9, c10, c11, c12, rfl⟩
  have ol2 : os.length < l.days.toNat := by
    rw [e3, List.length_append, List.length_cons] at ol
    omega
  have fl1 := List.length_filter_le (fun o => (hdL l m o).isSome) os
  have fl2 := List.length_filter_le (fun o => (hdL l m o).isNone) os
  have sz4 : ((s.1 ++ dn.flatMap (fdL l m) ++ (os.filter fun o => (hdL l m o).isSome).map fun o => (a.rs ++ [o], hdL l m o)).map ltD).length < sizeLine := by
    rw [List.length_map, List.length_append, List.length_map, sizeLine_eq]; omega
  have sz7 : ((dn.flatMap (bhL l m) ++ (os.filter fun o => (hdL l m o).isNone).map (ahN a l.days)).map ahD).length < sizeLine := by
    rw [List.length_map, List.length_append, List.length_map, sizeLine_eq]; omega
  clear qe hnx2 part tot e3
  cases eh : hdL l m o with
  | some w =>
    have e1 : ((os ++ [o]).filter fun o => (hdL l m o).isSome) = (os.filter fun o => (hdL l m o).isSome) ++ [o] := by rw [List.filter_append]; simp [eh]
    have e2 : ((os ++ [o]).filter fun o => (hdL l m o).isNone) = os.filter fun o => (hdL l m o).isNone := by rw [List.filter_append]; simp [eh]
    have e4 : (s.1 ++ dn.flatMap (fdL l m) ++ ((os ++ [o]).filter fun o => (hdL l m o).isSome).map fun o => (a.rs ++ [o], hdL l m o)).map ltD = (s.1 ++ dn.flatMap (fdL l m) ++ (os.filter fun o => (hdL l m o).isSome).map fun o => (a.rs ++ [o], hdL l m o)).map ltD ++ [.tuple [intsD (a.rs ++ [o]), .str w]] := by
      rw [e1, List.map_append (f := fun o => (a.rs ++ [o], hdL l m o)), ← List.append_assoc, List.map_append (f := ltD)]
      show _ ++ [ltD (a.rs ++ [o], hdL l m o)] = _
      rw [eh]
    rw [e4, e2] at hnx3
    have el : lgD a l m o = .tuple [intsD (a.rs ++ [o]), .int (crt a.r a.n o l.days), .int (zl a.n l.days), .str w] := by unfold lgD; rw [eh]
    rw [el]
    tm_at "dl"
    exact hnx3 _ ⟨_, _, _, _, rfl⟩
  | none =>
    have e1 : ((os ++ [o]).filter fun o => (hdL l m o).isSome) = os.filter fun o => (hdL l m o).isSome := by rw [List.filter_append]; simp [eh]
    have e2 : ((os ++ [o]).filter fun o => (hdL l m o).isNone) = (os.filter fun o => (hdL l m o).isNone) ++ [o] := by rw [List.filter_append]; simp [eh]
    have e7 : (dn.flatMap (bhL l m) ++ ((os ++ [o]).filter fun o => (hdL l m o).isNone).map (ahN a l.days)).map ahD = (dn.flatMap (bhL l m) ++ (os.filter fun o => (hdL l m o).isNone).map (ahN a l.days)).map ahD ++ [.tuple [intsD (a.rs ++ [o]), .int (crt a.r a.n o l.days), .int (zl a.n l.days)]] := by
      rw [e2, List.map_append (f := ahN a l.days), ← List.append_assoc, List.map_append (f := ahD)]
      rfl
    rw [e7, e1] at hnx3
    have el : lgD a l m o = .tuple [intsD (a.rs ++ [o]), .int (crt a.r a.n o l.days), .int (zl a.n l.days), .none] := by unfold lgD; rw [eh]
    rw [el]
    tm_at "dl"
    exact hnx3 _ ⟨_, _, _, _, rfl⟩
theorem zipF_map {α β : Type} {f : α → D} {g : β → D} : ∀ {xs : List α} {ys : List β}, zipF (xs.map f) (ys.map g) = (xs.zip ys).map fun p => .tuple [f p.1, g p.2]
  | [], _ => by cases ‹List β› <;> rfl
  | _ :: _, [] => rfl
  | x :: xs, y :: ys => by
    show _ :: zipF (xs.map f) (ys.map g) = _
    rw [zipF_map]
    rfl
noncomputable def cellG (ls : List Lyr) (p : Int × Int) : List Lot := (pcL ls p.1).map fun x => ⟨p.1, p.2, x⟩
theorem cell_eq {ls : List Lyr} : ∀ {cs : List Int}, cellL ls cs = (cs.zip (cs.drop 1)).flatMap (cellG ls)
  | [] => rfl
  | [_] => rfl
  | a :: b :: cs => by
    show (pcL ls a).map (fun x => ⟨a, b, x⟩) ++ cellL ls (b :: cs) = _
    rw [cell_eq (cs := b :: cs)]
    rfl
theorem pc_nil {m : Int} : (pcL [] m).length = 1 := pc_cnt
theorem ok_cells : ∀ as QD ED, S_cells as QD ED → w_cells (bodyEnds as QD ED) (startD n_cells as) := by
  rintro as QD ED ⟨ls, cs, rfl, hls, l200, hne, c4, c1, q, qe⟩
  rw [cell_eq] at q qe
  have cl : (cs.map PyData.int).length ≤ 10000 := by rw [List.length_map]; exact c4
  unfold n_cells w_cells
  tm_at "dstart"
  tm_at "dl"
  rw [cut_from (by decide) (by rw [List.length_map]; omega), show Int.toNat 1 = 1 from rfl, ← List.map_drop, zipF_map]
  have zl' : (cs.zip (cs.drop 1)).length ≤ cs.length - 1 := by rw [List.length_zip, List.length_drop]; omega
  generalize cs.zip (cs.drop 1) = ps at q qe zl' ⊢
  refine forK_xs ps (fun done ρ => ∃ c3 c4 c5 c6 : C, (done.flatMap (cellG ls)).length ≤ 2000 ∧ ρ = [.v (lyrsD ls), .v (.list (cs.map PyData.int)), .own 0 (.lst ((done.flatMap (cellG ls)).map lotD)), c3, c4, c5, c6]) ⟨_, _, _, _, Nat.zero_le _, rfl⟩ ?_ ?_
  · rintro ρ ⟨c3, c4, c5, c6, hb, rfl⟩
    have qq := q hb
    have lf := lf_lots (qs := ps.flatMap (cellG ls))
    tm_at "dl"
    exact qq
  rintro done p rest ρ next e hnx ⟨c3, c4, c5, c6, hb, rfl⟩
  have lm : ((done.flatMap (cellG ls)).map lotD).length = (done.flatMap (cellG ls)).length := List.length_map ..
  have dn : done.length < ps.length := by rw [e, List.length_append, List.length_cons]; omega
  have ep : ps.flatMap (cellG ls) = done.flatMap (cellG ls) ++ cellG ls p ++ rest.flatMap (cellG ls) := by rw [e, List.flatMap_append, List.flatMap_cons, List.append_assoc]
  have gl : (cellG ls p).length = (pcL ls p.1).length := List.length_map ..
  rw [ep, List.length_append, List.length_append, gl] at qe
  have pos : ls ≠ [] ∨ (0 : Int) < 2000 - (((done.flatMap (cellG ls)).map lotD).length : Nat) := by
    rcases hne with z | z
    · exact .inl z
    · by_cases y : ls = []
      · right
        subst y
        have : (done.flatMap (cellG [])).length = done.length := by
          clear e hb lm dn hnx ep gl qe
          induction done with
          | nil => rfl
          | cons x xs ih => rw [List.flatMap_cons, List.length_append, ih, List.length_cons]; unfold cellG; rw [List.length_map, pc_nil]; omega
        rw [lm]
        omega
      · exact .inl y
  clear q ep
  tm_at "dl"
  refine ⟨ls, p.1, 2000 - (((done.flatMap (cellG ls)).map lotD).length : Nat), rfl, hls, by omega, pos, by omega, fun hp => ?_, fun hp => ?_⟩
  · have hb2 : (done.flatMap (cellG ls)).length + (pcL ls p.1).length ≤ 2000 := by rw [lm] at hp; omega
    clear qe
    tm_at "dl"
    refine forK_xs (inj := ltD) (pcL ls p.1) (fun xs ρ => ∃ c5 c6 : C, ρ = [.v (lyrsD ls), .v (.list (cs.map PyData.int)), .own 0 (.lst ((done.flatMap (cellG ls) ++ xs.map fun x => (⟨p.1, p.2, x⟩ : Lot)).map lotD)), .v (.int p.1), .v (.int p.2), c5, c6]) ⟨_, _, by rw [List.map_nil, List.append_nil]⟩ ?_ ?_
    · rintro ρ ⟨c5, c6, rfl⟩
      have ee : (done ++ [p]).flatMap (cellG ls) = done.flatMap (cellG ls) ++ (pcL ls p.1).map fun x => (⟨p.1, p.2, x⟩ : Lot) := by rw [List.flatMap_append, List.flatMap_singleton]; rfl
      rw [← ee]
      refine hnx _ ⟨_, _, _, _, ?_, rfl⟩
      rw [ee, List.length_append, List.length_map]
      exact hb2
    rintro xs x ys ρ next2 e2 hnx2 ⟨c5, c6, rfl⟩
    have xl : xs.length < (pcL ls p.1).length := by rw [e2, List.length_append, List.length_cons]; omega
    have sz : ((done.flatMap (cellG ls) ++ xs.map fun x => (⟨p.1, p.2, x⟩ : Lot)).map lotD).length < sizeLine := by rw [List.length_map, List.length_append, List.length_map, sizeLine_eq]; omega
    have ee : (done.flatMap (cellG ls) ++ (xs ++ [x]).map fun x => (⟨p.1, p.2, x⟩ : Lot)).map lotD = (done.flatMap (cellG ls) ++ xs.map fun x => (⟨p.1, p.2, x⟩ : Lot)).map lotD ++ [.tuple [.int p.1, .int p.2, intsD x.1, optS x.2]] := by
      rw [List.map_append (l₁ := xs), ← List.append_assoc, List.map_append (f := lotD)]
      rfl
    rw [ee] at hnx2
    have lfo : lfree (optS x.2) = true := lf_optS
    clear e2 hnx
    tm_at "dl"
    exact hnx2 _ ⟨_, _, rfl⟩
  · tm_at "dl"
    exact qe (by rw [lm] at hp; omega)
theorem ok_lots : ∀ as QD ED, S_lots as QD ED → w_lots (bodyEnds as QD ED) (startD n_lots as) := by
  rintro as QD ED ⟨ls, rfl, hls, l100, q⟩
  unfold n_lots w_lots
  tm_at "dstart"
  tm_at "dl"
  refine ⟨ls, rfl, fun l hl => (hls l hl).tl, l100, fun cs hc c1 c2 => ?_⟩
  obtain ⟨q1, q2⟩ := q cs hc
  have c0 : 1 ≤ cs.length := List.length_pos_of_mem ((hc.mem 0).mpr (.inl rfl))
  tm_at "dl"
  have ne : ls ≠ [] ∨ cs.length ≤ 2000 := by
    by_cases z : ls = []
    · right
      subst z
      exact Nat.le_trans c2 (by decide)
    · exact .inl z
  refine ⟨ls, cs, rfl, hls, by omega, ne, by omega, c0, fun h => ?_, fun h => ?_⟩
  · have qq := q1 h
    tm_at "dl"
    exact qq
  · tm_at "dl"
    exact q2 h
end CFLo
end

section
set_option Elab.async false
set_option linter.all false
set_option maxRecDepth 100000
set_option maxHeartbeats 4000000
namespace K40
open PySem PySem.Spec PyProof.Rows L2 DL CFH CFCl CFRu CFWd CFBk CFTu CFTd CFPl CFRa CFRb CFSp CFEd CFRh CFNn CFLo CFLc CFFr CFCn CFRo CFLs CFFw CFWh CFCg CFLy
local macro_rules | `(tactic| tm_at "dpos") => `(tactic| first | omega | decide)
local macro_rules | `(tactic| tm_at "dlog") => `(tactic| first | exact log2_sm (by omega) | exact CFH.big_log (by omega) (by omega) | assumption | exact log2_sm (by decide))
local macro_rules | `(tactic| tm_at "dc") => `(tactic| ((with_reducible show CFH.S_law_take _ _ _); refine CFH.take_i (by assumption) (by omega) (by tm_at "dpos") (by tm_at "dlog") (fun _ _ _ _ _ => ?_)))
local macro_rules | `(tactic| tm_at "dc") => `(tactic| ((with_reducible show CFH.S_law_great _ _ _); refine CFH.great_i (by assumption) (by omega) (fun _ _ _ _ _ => ?_)))
local macro_rules | `(tactic| tm_at "dc") => `(tactic| ((with_reducible show CFH.S_law_whole _ _ _); refine CFH.whole_i ?_))
local macro_rules | `(tactic| tm_at "dh") => `(tactic| first | ((with_reducible show ite _ _ _); first | (with_reducible refine DL.ifb_t (by with_reducible assumption) ?_) | (with_reducible refine DL.ifb_f (by with_reducible assumption) ?_)) | fail "dk")
local macro_rules | `(tactic| tm_at "do") => `(tactic| with_reducible assumption)
theorem ok_law_lot : ∀ as QD ED, S_law_lot as QD ED → w_law_lot (bodyEnds as QD fun _ _ => False) (startD n_law_lot as) := by
  rintro as QD ED ⟨ls, lo, hi, d, rfl, hl, l80, d0, d1, q⟩
  unfold n_law_lot w_law_lot
  tm_at "dstart"
  tm_at "dl"
  refine forK_ind (fun ds ρ => ∃ (rest : List Lyr) (rs : List Int) (c5 c6 : C), ds = rest.map lyrD ∧ (∀ l ∈ rest, LyrOk l) ∧ rs.length + rest.length ≤ 80 ∧ (rs ++ (lotOf rest lo d).1, (lotOf rest lo d).2) = lotOf ls lo d ∧
    ρ = [.v (lyrsD ls), .v (.int lo), .v (.int hi), .v (.int d), .own 0 (.lst (rs.map PyData.int)), c5, c6]) ?_ ?_ _ _ ⟨ls, [], _, _, rfl, hl, by rw [List.length_nil]; omega, rfl, rfl⟩
  · rintro ρ ⟨rest, rs, c5, c6, e, hr, h80, eq, rfl⟩
    cases rest with
    | cons l rest => cases e
    | nil =>
      have lfr := lf_intsD (ns := rs)
      have sz : (rs.map PyData.int).length ≤ sizeLine := by rw [List.length_map, sizeLine_eq]; omega
      rw [← eq, show lotOf [] lo d = ([], none) from rfl, List.append_nil] at q
      tm_at "dl"
      exact q
  · rintro x ds ρ next hnx ⟨rest, rs, c5, c6, e, hr, h80, eq, rfl⟩
    cases rest with
    | nil => cases e
    | cons l rest =>
      rw [List.map_cons] at e
      obtain ⟨rfl, rfl⟩ := List.cons.inj e
      have ok := hr l (.head _)
      have lf2 := lf_lyr (l := l)
      have dp : 0 < l.days := by have := ok.d1; omega
      rw [List.length_cons] at h80
      have sz : (rs.map PyData.int).length < sizeLine := by rw [List.length_map, sizeLine_eq]; omega
      tm_at "dl"
      refine whom_i ok.d1 (by have := ok.n12; omega) ?_
      have em : rs.map PyData.int ++ [PyData.int (d % l.days)] = (rs ++ [d % l.days]).map PyData.int := by rw [List.map_append]; rfl
      rw [em]
      have lfr := lf_intsD (ns := rs ++ [d % l.days])
      have sz2 : ((rs ++ [d % l.days]).map PyData.int).length ≤ sizeLine := by rw [List.length_map, List.length_append, List.length_singleton, sizeLine_eq]; omega
      cases z : whoL l (1440 * d + lo) with
      | none =>
        rw [lot_cons_none z] at eq
        tm_at "dl"
        exact hnx _ ⟨rest, rs ++ [d % l.days], _, _, rfl, fun k hk => hr k (.tail _ hk), by rw [List.length_append, List.length_singleton]; omega, by rw [← eq, List.append_assoc]; rfl, rfl⟩
      | some w =>
        rw [lot_cons_some z] at eq
        rw [← eq] at q
        tm_at "dl"
        exact q
theorem ok_law_due : ∀ as QD ED, S_law_due as QD ED → w_law_due (bodyEnds as QD fun _ _ => False) (startD n_law_due as) := by
  rintro as QD ED ⟨ls, rfl, fit, q⟩
  unfold n_law_due w_law_due
  have l80 := fit.l80
  have r72 := fit.r72
  have hl := fit.ok
  have hd : ∀ l ∈ ls, 1 ≤ l.days := fun l h => (hl l h).d1
  have rp := rnd_pos hd
  tm_at "dstart"
  tm_at "dl"
  refine ⟨ls, rfl, fun l h => ⟨(hl l h).d1, (hl l h).d60⟩, by omega, ?_⟩
  tm_at "dl"
  refine ⟨ls, rfl, fun l h => (hl l h).n12, by omega, fun cs hc c1 c2 => ?_⟩
  have cn := fit.cn cs hc
  have few := fit.few cs hc
  have qq := q cs hc
  clear q
  have cl : (cs.map PyData.int).length = cs.length := List.length_map ..
  have c0 : 1 ≤ cs.length := List.length_pos_of_mem ((hc.mem 0).mpr (.inl rfl))
  tm_at "dl"
  rw [show (((cs.map PyData.int).length : Int) - 1).toNat = cs.length - 1 by omega]
  refine forK_r0 _ (fun k ρ => ∃ (c4 c5 c6 c7 : C), ρ = [.v (lyrsD ls), .own 0 (.lst ((upL ls cs k).map lotD)), .v (.int (rnd ls)), .v (.list (cs.map PyData.int)), c4, c5, c6, c7, .no, .no]) ⟨_, _, _, _, rfl⟩ ?_ ?_
  · rintro ρ ⟨c4, c5, c6, c7, rfl⟩
    rw [upl_all]
    have sz : ((cellL ls cs).map lotD).length ≤ sizeLine := by rw [List.length_map, sizeLine_eq]; omega
    have lf := lf_lots (qs := cellL ls cs)
    tm_at "dl"
    exact qq
  rintro k ρ next hk hnx ⟨c4, c5, c6, c7, rfl⟩
  clear qq
  have g1 := cs_at (cs := cs) (k := k) (by omega)
  have g2 : atI (cs.map PyData.int) ((k : Int) + 1) = some (.int (cs.getD (k + 1) 0)) := cs_at (cs := cs) (k := k + 1) (by omega)
  tm_at "dl"
  refine forK_r0 _ (fun d ρ => ∃ (kvs : List (List Int × D)) (c6 c7 : C), Met ls (ckP cs k).1 (ckP cs k).2 d kvs ∧ ρ = [.v (lyrsD ls), .own 0 (.lst ((upL ls cs k).map lotD)), .v (.int (rnd ls)), .v (.list (cs.map PyData.int)), .v (.int k), .own 0 (.dtt kvs), c6, c7, .no, .no]) ⟨[], _, _, met_nil, rfl⟩ ?_ ?_
  · rintro ρ ⟨kvs, c6, c7, m, rfl⟩
    tm_at "dl"
    refine ⟨met_ne m, fun ys nd pm pw => ?_⟩
    obtain ⟨rfl, gv⟩ := met_all hd m pm pw
    have pl : (pcL ls (ckP cs k).1).length ≤ 72 := by
      have e := pm.length_eq
      rw [List.length_map, List.length_map] at e
      have := m.len
      omega
    have ul := upl_len hd (cs := cs) (k := k)
    have ub : k * (rnd ls).toNat ≤ 26 * 72 := Nat.mul_le_mul (by omega) (by omega)
    clear nd pm pw m
    rw [List.map_map]
    have sl : ((pcL ls (ckP cs k).1).map (itD ∘ fun x => x.1)).length ≤ sizeLine := by rw [List.length_map, sizeLine_eq]; omega
    tm_at "dl"
    refine lcK_ys (inj := itD ∘ fun x : Lt => x.1) (fun x => lotD ⟨(ckP cs k).1, (ckP cs k).2, x⟩) (pcL ls (ckP cs k).1) (fun x hx nx hnx => ?_) ?_
    · have lf := lf_intsD (ns := x.1)
      have gx := gv x hx
      tm_at "dl"
      refine optK_of (intsOf_map x.1 : intsT (itD x.1) = some x.1) (optK_of gx ?_)
      exact hnx
    have em : (upL ls cs k).map lotD ++ (pcL ls (ckP cs k).1).map (fun x => lotD ⟨(ckP cs k).1, (ckP cs k).2, x⟩) = (upL ls cs (k + 1)).map lotD := by
      rw [upl_snoc, List.map_append]
      unfold pcs
      rw [List.map_map]; rfl
    have sz : ((upL ls cs k).map lotD).length + ((pcL ls (ckP cs k).1).map (fun x => lotD ⟨(ckP cs k).1, (ckP cs k).2, x⟩)).length ≤ sizeLine := by rw [List.length_map, List.length_map, sizeLine_eq]; omega
    tm_at "dl"
    refine hnx _ ⟨.v (.int k), .own 0 (.dtt kvs), c6, c7, ?_⟩
    rw [← em] <;> rfl
  rintro d ρ next2 hd2 hnx2 ⟨kvs, c6, c7, m, rfl⟩
  clear hnx
  have kl : kvs.length < sizeLine := by
    have := m.len
    rw [sizeLine_eq]
    omega
  tm_at "dl"
  refine ⟨ls, _, _, (d : Int), rfl, hl, l80, by omega, by omega, ?_⟩
  have lf := lf_lot (q := ⟨cs.getD k 0, cs.getD (k + 1) 0, lotOf ls (cs.getD k 0) (d : Int)⟩)
  tm_at "dl"
  refine optK_of (intsOf_map (lotOf ls (cs.getD k 0) (d : Int)).1 : intsT (itD _) = some _) ⟨kl, ?_⟩
  exact hnx2 _ ⟨_, _, _, met_put m, rfl⟩
theorem ok_law_tower : ∀ as QD ED, S_law_tower as QD ED → w_law_tower (bodyEnds as QD fun _ _ => False) (startD n_law_tower as) := by
  rintro as QD ED ⟨h, n, ws, rfl, ho, hn, w2, w1, hw, q⟩
  unfold n_law_tower w_law_tower
  obtain ⟨a0, g0, m0⟩ := words_at (ws := ws) (j := 0) (by omega) (by omega)
  obtain ⟨a1, g1, m1⟩ := words_at (ws := ws) (j := 1) (by omega) (by omega)
  have wl : (ws.map PyData.str).length ≤ 1000 := by rw [List.length_map]; exact w1
  tm_at "dstart"
  tm_at "dl"
  refine pick_z [80, 79, 12, 40] rfl ho (by omega) (by decide) (by decide) fun h2 many o2 hmany => ?_
  have nb : 0 ≤ many ∧ many ≤ 80 := by simp only [List.mem_cons, List.not_mem_nil, or_false] at hmany; omega
  clear hmany
  tm_at "dl"
  refine forK_n _ (fun k ρ => ∃ (h : Hd) (ls : List Lyr) (c3 c4 c5 c6 : C), h.ok (n + 1 + 8 * k) ∧ (∀ l ∈ ls, TwL l) ∧ ls.length = k ∧ ρ = [.own 1 (.lst (CFH.hd h)), .v (wsD ws), .own 0 (.lst (ls.map lyrD)), c3, c4, c5, c6]) ⟨h2, [], _, _, _, _, o2, (fun l h => nomatch h), rfl, rfl⟩ ?_ ?_
  · rintro ρ ⟨h3, ls, c3, c4, c5, c6, o3, hls, hl, rfl⟩
    rw [rangeD_len] at o3 hl
    tm_at "dl"
    refine pick_z [1, 2, 3] rfl o3 (by omega) (by decide) (by decide) fun h4 days o4 hdays => ?_
    have d3 : days = 1 ∨ days = 2 ∨ days = 3 := by simpa using hdays
    have db : 1 ≤ days ∧ days ≤ 3 := by omega
    clear hdays
    tm_at "dl"
    refine pick_i o4 (by omega) (by rw [List.length_map]; omega) (by omega) fun h5 w o5 hw5 => ?_
    obtain ⟨w, hwm, rfl⟩ := List.mem_map.mp hw5
    tm_at "dl"
    rename_i h6 x o6 x0 x1
    obtain ⟨ks, e1, e2, e3⟩ := cut80 (ls := ls ++ [⟨a1, 360 * x, days, [(0, 720 * days, w)]⟩]) (by rw [List.length_append, List.length_singleton]; omega)
    rw [List.map_append] at e1
    have tw := tw_last (hw a1 m1) (hw w hwm) d3 x0 x1
    have qq := q h6 ks (o6.up (by omega)) (fun l hl => by
      rcases List.mem_append.mp (e2 l hl) with z | z
      · exact hls l z
      · rw [List.mem_singleton.mp z]; exact tw) e3
    unfold lyrsD at qq
    rw [← e1] at qq
    exact qq
  rintro k d ρ next hk hd hnx ⟨h3, ls, c3, c4, c5, c6, o3, hls, hl, rfl⟩
  rw [rangeD_len] at hk
  obtain ⟨j, rfl, j0, j1⟩ := mem_range hd
  clear hd q
  have sz : (ls.map lyrD).length < sizeLine := by rw [List.length_map, sizeLine_eq]; omega
  tm_at "dl"
  refine pick_z [1, 2, 3] rfl o3 (by omega) (by decide) (by decide) fun h4 days o4 hdays => ?_
  have d3 : days = 1 ∨ days = 2 ∨ days = 3 := by simpa using hdays
  have db : 1 ≤ days ∧ days ≤ 3 := by omega
  clear hdays
  have fin : ∀ (h' : Hd) (c4 c5 c6 : C) (l : Lyr), h'.ok (n + 1 + 8 * (k + 1)) → TwL l → next [.own 1 (.lst (CFH.hd h')), .v (wsD ws), .own 0 (.lst (ls.map lyrD ++ [lyrD l])), .v (.int j), c4, c5, c6] := fun h' c4 c5 c6 l o tw => by
    have em : ls.map lyrD ++ [lyrD l] = (ls ++ [l]).map lyrD := by rw [List.map_append]; rfl
    rw [em]
    refine hnx _ ⟨h', ls ++ [l], _, _, _, _, o, fun l' h' => ?_, by rw [List.length_append, List.length_singleton, hl], rfl⟩
    rcases List.mem_append.mp h' with z | z
    · exact hls l' z
    · rw [List.mem_singleton.mp z]; exact tw
  clear hnx
  tm_at "dl"
  · rename_i h5 y o5 y0 y1 z h6 b o6 b0 b1
    refine pick_i o6 (by omega) (by rw [List.length_map]; omega) (by omega) fun h7 w o7 hw7 => ?_
    obtain ⟨w, hwm, rfl⟩ := List.mem_map.mp hw7
    tm_at "dl"
    rename_i h8 x o8 x0 x1
    exact fin _ _ _ _ ⟨a0, 360 * x, days, [(360 * b, 360 * b + 360, w)]⟩ (o8.up (by omega)) (tw_one (hw a0 m0) (hw w hwm) d3 x0 x1 b0 (by omega))
  rename_i h5 y o5 y0 y1 z h6 x o6 x0 x1
  exact fin _ _ _ _ ⟨a0, 360 * x, days, []⟩ (o6.up (by omega)) (tw_none (hw a0 m0) d3 x0 x1)
theorem ok_law : ∀ as QD ED, S_law as QD ED → w_law (bodyEnds as QD fun _ _ => False) (startD n_law as) := by
  rintro as QD ED ⟨ns, rfl, hns, q⟩
  unfold n_law w_law
  tm_at "dstart"
  tm_at "dl"
  refine forK_st _ (fun ρ => ∃ c1 c2 c3 c4 c5 c6 : C, ρ = [.v (.list (ns.map PyData.int)), c1, c2, c3, c4, c5, c6]) ⟨_, _, _, _, _, _, rfl⟩ ?_ ?_
  · rintro ρ ⟨c1, c2, c3, c4, c5, c6, rfl⟩
    tm_at "dl"
    exact q _
  rintro d hd ρ next hn ⟨c1, c2, c3, c4, c5, c6, rfl⟩
  obtain ⟨k, rfl, k0, k1⟩ : ∃ k : Int, d = .int k ∧ 0 ≤ k ∧ k ≤ 1000 := by
    obtain ⟨k, e, k0, k1⟩ := mem_range hd
    exact ⟨k, e, k0, by omega⟩
  clear hd q
  tm_at "dl"
  refine hand_i k0 k1 fun h0 o0 => ?_
  tm_at "dl"
  refine ⟨_, _, 5, rfl, by assumption, by omega, by omega, by omega, fun h2 vs o2 vl vok => ?_⟩
  tm_at "dl"
  refine layers_i (ws := vs) o2 (by omega) (by omega) (by omega) vok.ok fun h3 ls o3 ok => ?_
  have lfl := lf_lyrs (ls := ls)
  tm_at "dl"
  · clear lfl ok
    refine ⟨h3, _, vs, rfl, o3, by omega, by omega, by omega, vok.ok, fun h4 ls o4 tw l80 => ?_⟩
    have lfl := lf_lyrs (ls := ls)
    have fit := fit_tw tw l80
    tm_at "dl"
    obtain ⟨cs, hc⟩ := cuts_ex (ls := ls)
    refine ⟨ls, rfl, fun l h => lo_of (fit.ok l h), by have := fit.l80; omega, fun cs' hc' => ?_⟩
    obtain rfl := hc.uniq hc'
    refine ⟨fun _ => ?_, fun z => by have := fit.few cs hc; omega⟩
    have lfr := lf_lots (qs := cellL ls cs)
    have shw := shn_lots fit hc
    tm_at "dl"
    refine ⟨ls, rfl, fit, fun cs' hc' => ?_⟩
    obtain rfl := hc.uniq hc'
    have en : ((PyData.tuple ((cellL ls cs).map lotD)).shown != (PyData.tuple ((cellL ls cs).map lotD)).shown) = false := str_ne_self
    tm_at "dl"
    exact hn _ ⟨_, _, _, _, _, _, rfl⟩
  have fit := fit_ls ok
  obtain ⟨cs, hc⟩ := cuts_ex (ls := ls)
  refine ⟨ls, rfl, fun l h => lo_of (fit.ok l h), by have := fit.l80; omega, fun cs' hc' => ?_⟩
  obtain rfl := hc.uniq hc'
  refine ⟨fun _ => ?_, fun z => by have := fit.few cs hc; omega⟩
  have lfr := lf_lots (qs := cellL ls cs)
  have shw := shn_lots fit hc
  tm_at "dl"
  refine ⟨ls, rfl, fit, fun cs' hc' => ?_⟩
  obtain rfl := hc.uniq hc'
  have en : ((PyData.tuple ((cellL ls cs).map lotD)).shown != (PyData.tuple ((cellL ls cs).map lotD)).shown) = false := str_ne_self
  tm_at "dl"
  exact hn _ ⟨_, _, _, _, _, _, rfl⟩
end K40
end

section
set_option Elab.async false
set_option linter.all false
set_option maxRecDepth 100000
set_option maxHeartbeats 4000000
namespace CFTu
open PySem PySem.Spec PyProof.Rows L2 DL CFH CFCl CFRu CFWd CFBk
theorem ok_place_of : ∀ as QD ED, S_place_of as QD ED → w_place_of (bodyEnds as QD fun _ _ => False) (startD n_place_of as) := by
  rintro as QD ED ⟨l, r, rfl, h1, q⟩
  unfold n_place_of w_place_of
  have mo : ∀ x : Int, MulOk 1440 x := fun x => MulOk.left (by decide)
  have mo1 := mo l.days
  tm_at "dstart"
  tm_at "dl"
  exact q
theorem ok_turn_at : ∀ as QD ED, S_turn_at as QD ED → w_turn_at (bodyEnds as QD fun _ _ => False) (startD n_turn_at as) := by
  rintro as QD ED ⟨l, r, rfl, h1, hl, q⟩
  unfold n_turn_at w_turn_at
  unfold turnL at q
  tm_at "dstart"
  tm_at "dl"
  refine place_i h1 ?_
  tm_at "dl"
  revert q
  generalize placeL l r = p
  intro q
  generalize eR : turnG p 0 l.turns = R at q
  refine forK_ind (fun ds ρ => ∃ (j : Nat) (rest : List Trn) (c3 c4 : C), ds = enumF j (rest.map trnD) ∧ turnG p j rest = R ∧ ρ = [.v (lyrD l), .v (.int r), .v (.int p), c3, c4]) ?_ ?_ _ _ ⟨0, l.turns, _, _, rfl, eR, rfl⟩
  · rintro ρ ⟨j, rest, c3, c4, hd, he, rfl⟩
    have e1 : rest = [] := by cases rest with
      | nil => rfl
      | cons _ _ => cases hd
    subst e1
    rw [← he] at q
    tm_at "dl"
    exact q
  · rintro d ds ρ next hnx ⟨j, rest, c3, c4, hd, he, rfl⟩
    cases rest with
    | nil => cases hd
    | cons t rest =>
      obtain ⟨rfl, rfl⟩ : d = .tuple [.int (j : Nat), trnD t] ∧ ds = enumF (j + 1) (rest.map trnD) := by
        cases hd
        exact ⟨rfl, rfl⟩
      unfold turnG at he
      tm_at "dl"
      · rename_i z1 z2
        rw [if_pos (by omega)] at he
        rw [← he] at q
        exact q
      · rw [if_neg (by omega)] at he
        exact hnx _ ⟨j + 1, rest, _, _, rfl, he, rfl⟩
      · rw [if_neg (by omega)] at he
        exact hnx _ ⟨j + 1, rest, _, _, rfl, he, rfl⟩
end CFTu
end

section
set_option Elab.async false
set_option linter.all false
set_option maxRecDepth 100000
set_option maxHeartbeats 4000000
namespace CFH
open PySem PySem.Spec PyProof.Rows L2 DL
theorem ok_law_take : ∀ as QD ED, S_law_take as QD ED → w_law_take (bodyEnds as QD fun _ _ => False) (startD n_law_take as) := by
  rintro as QD ED ⟨h, n, m, rfl, ho, hn, hm, hl, q⟩
  obtain ⟨a0, b0, b1, c0, c1⟩ := ho
  unfold n_law_take w_law_take
  tm_at "dstart"
  tm_at "dl"
  · exact q ⟨h.a / m, h.b, h.c⟩ (h.a % m) ⟨Int.ediv_nonneg a0 (by omega), b0, b1, c0, by show h.c ≤ _; omega⟩ (Int.emod_nonneg _ (by omega)) (Int.emod_lt_of_pos _ hm)
  · exact q ⟨h.a, h.b, h.c + 1⟩ _ ⟨a0, b0, b1, by show 0 ≤ h.c + 1; omega, by show h.c + 1 ≤ _; omega⟩ (Int.emod_nonneg _ (by omega)) (Int.emod_lt_of_pos _ hm)
theorem ok_law_pick : ∀ as QD ED, S_law_pick as QD ED → w_law_pick (bodyEnds as QD fun _ _ => False) (startD n_law_pick as) := by
  rintro as QD ED ⟨h, n, b, ds, rfl, ho, hn, h0, h1, bx, q⟩
  unfold n_law_pick w_law_pick
  rcases bx with rfl | rfl | ⟨s, rfl, rfl, sl⟩
  · tm_at "dstart"
    tm_at "dl"
    refine ⟨h, n, ds.length, rfl, ho, hn, by omega, log2_sm (by omega), fun h' x ho' x0 x1 => ?_⟩
    tm_at "dl"
    obtain ⟨d, e, hd⟩ := atI_mem x0 x1
    refine optK_of e ?_
    tm_at "dl"
    exact q h' d ho' hd
  · tm_at "dstart"
    tm_at "dl"
    refine ⟨h, n, ds.length, rfl, ho, hn, by omega, log2_sm (by omega), fun h' x ho' x0 x1 => ?_⟩
    tm_at "dl"
    obtain ⟨d, e, hd⟩ := atI_mem x0 x1
    refine optK_of e ?_
    tm_at "dl"
    exact q h' d ho' hd
  · rw [strD_len] at h0 h1
    tm_at "dstart"
    tm_at "dl"
    refine ⟨h, n, s.length, rfl, ho, hn, by omega, log2_sm (by omega), fun h' x ho' x0 x1 => ?_⟩
    tm_at "dl"
    have xl : x.toNat < s.cps.toList.length := by
      show x.toNat < s.cps.size
      have : s.length = s.cps.size := rfl
      omega
    have e : atI s.cps.toList x = some (s.cps.toList[x.toNat]) := by
      have := L2.atI_nat (xs := s.cps.toList) (j := x.toNat) (List.getElem?_eq_getElem xl)
      rwa [show ((x.toNat : Nat) : Int) = x by omega] at this
    refine optK_of e ?_
    tm_at "dl"
    exact q h' _ ho' (List.mem_map_of_mem (f := fun c => PyData.str ⟨#[c]⟩) (List.getElem_mem xl))
theorem ok_law_hand : ∀ as QD ED, S_law_hand as QD ED → w_law_hand (bodyEnds as QD fun _ _ => False) (startD n_law_hand as) := by
  rintro as QD ED ⟨ns, k, rfl, h0, h1, q⟩
  unfold n_law_hand w_law_hand
  tm_at "dstart"
  have e : ∀ c : Int, (0 ≤ c * (if decide ((10:Int) ^ Int.toNat 18 ≤ c) = true then 1 else 0)) := by
    intro c
    by_cases h : (10:Int) ^ Int.toNat 18 ≤ c
    · rw [if_pos (decide_eq_true h), Int.mul_one]
      exact Int.le_trans (by decide) h
    · rw [if_neg (fun z => h (of_decide_eq_true z)), Int.mul_zero]
      exact Int.le_refl 0
  have mo : ∀ c : Int, MulOk c (if decide ((10:Int) ^ Int.toNat 18 ≤ c) = true then 1 else 0) := by
    intro c
    refine MulOk.right ?_
    split <;> decide
  have fin : ∀ c : Int, (Hd.mk (c * (if decide ((10:Int) ^ Int.toNat 18 ≤ c) = true then 1 else 0)) (c % 2305843009213693951 + 7919 * k + 3) 0).ok 0 := fun c => ⟨e c, by show 0 ≤ c % 2305843009213693951 + 7919 * k + 3; omega, by show c % 2305843009213693951 + 7919 * k + 3 < _; omega, Int.le_refl 0, Int.le_refl 0⟩
  tm_at "dl"
  · obtain ⟨d, e1, e2⟩ := atI_mem (ds := ns.map PyData.int) h0 (by rename_i z; first | exact z | exact of_decide_eq_true z | (rw [List.length_map]; exact z) | (rw [List.length_map]; exact of_decide_eq_true z) | (simp only [decide_eq_true_eq, List.length_map] at z; rw [List.length_map]; exact z))
    obtain ⟨c, _, rfl⟩ := List.mem_map.mp e2
    refine optK_of e1 ?_
    have m := mo c
    tm_at "dl"
    exact q _ (fin c)
  · have m := mo 0
    tm_at "dl"
    exact q _ (fin 0)
end CFH
end

section
set_option Elab.async false
set_option linter.all false
set_option maxRecDepth 100000
set_option maxHeartbeats 4000000
namespace CFRa
open PySem PySem.Spec PyProof.Rows L2 DL CFH
local macro_rules | `(tactic| tm_at "dpos") => `(tactic| first | omega | decide)
local macro_rules | `(tactic| tm_at "dlog") => `(tactic| first | exact log2_sm (by omega) | exact CFH.big_log (by omega) (by omega) | assumption | exact log2_sm (by decide))
local macro_rules | `(tactic| tm_at "dc") => `(tactic| ((with_reducible show CFH.S_law_take _ _ _); refine CFH.take_i (by assumption) (by omega) (by tm_at "dpos") (by tm_at "dlog") (fun _ _ _ _ _ => ?_)))
local macro_rules | `(tactic| tm_at "dc") => `(tactic| ((with_reducible show CFH.S_law_great _ _ _); refine CFH.great_i (by assumption) (by omega) (fun _ _ _ _ _ => ?_)))
local macro_rules | `(tactic| tm_at "dc") => `(tactic| ((with_reducible show CFH.S_law_whole _ _ _); refine CFH.whole_i ?_))
end CFRa
end

section
set_option Elab.async false
set_option linter.all false
set_option maxRecDepth 100000
set_option maxHeartbeats 4000000
namespace CFRb
open PySem PySem.Spec PyProof.Rows L2 DL CFH
local macro_rules | `(tactic| tm_at "dpos") => `(tactic| first | omega | decide)
local macro_rules | `(tactic| tm_at "dlog") => `(tactic| first | exact log2_sm (by omega) | exact CFH.big_log (by omega) (by omega) | assumption | exact log2_sm (by decide))
local macro_rules | `(tactic| tm_at "dc") => `(tactic| ((with_reducible show CFH.S_law_take _ _ _); refine CFH.take_i (by assumption) (by omega) (by tm_at "dpos") (by tm_at "dlog") (fun _ _ _ _ _ => ?_)))
local macro_rules | `(tactic| tm_at "dc") => `(tactic| ((with_reducible show CFH.S_law_great _ _ _); refine CFH.great_i (by assumption) (by omega) (fun _ _ _ _ _ => ?_)))
local macro_rules | `(tactic| tm_at "dc") => `(tactic| ((with_reducible show CFH.S_law_whole _ _ _); refine CFH.whole_i ?_))
theorem ok_gcd : ∀ as QD ED, S_gcd as QD ED → w_gcd (bodyEnds as QD fun _ _ => False) (startD n_gcd as) := by
  rintro as QD ED ⟨a, b, rfl, ha, hb, q⟩
  unfold n_gcd w_gcd
  tm_at "dstart"
  tm_at "dl"
  refine ⟨fun k ρ => ∃ x y : Int, ρ = [.v (.int x), .v (.int y)] ∧ 0 ≤ x ∧ 0 ≤ y ∧ k = y.toNat ∧ Int.gcd x y = Int.gcd a b, ⟨_, a, b, rfl, ha, hb, rfl, rfl⟩, ?_⟩
  rintro k ρ ⟨x, y, rfl, hx, hy, rfl, hg⟩
  tm_at "dl"
  · have f1 := Int.emod_nonneg x (show y ≠ 0 by omega)
    have f2 := Int.emod_lt_of_pos x (show 0 < y by omega)
    exact ⟨(x % y).toNat, by omega, y, x % y, rfl, hy, f1, rfl, by rw [zg_mod, hg]⟩
  · have e : y = 0 := by omega
    subst e
    rw [Int.gcd_zero] at hg
    have e2 : zg a b = x := by unfold zg; rw [← hg]; omega
    rw [e2] at q
    exact q
theorem ok_agree : ∀ as QD ED, S_agree as QD ED → w_agree (bodyEnds as QD fun _ _ => False) (startD n_agree as) := by
  rintro as QD ED ⟨p, q, rfl, hp, hq, k⟩
  unfold n_agree w_agree
  tm_at "dstart"
  tm_at "dl"
  refine ⟨p.2, q.2, rfl, by omega, by omega, ?_⟩
  have g0 := zg_pos (a := p.2) hq
  tm_at "dl"
  have e : PyData.eqv (.int ((p.1 - q.1) % zg p.2 q.2)) (.int 0) = agr p q := eqv_int
  rw [e]
  exact k
theorem ok_inverse : ∀ as QD ED, S_inverse as QD ED → w_inverse (bodyEnds as QD fun _ _ => False) (startD n_inverse as) := by
  rintro as QD ED ⟨a, m, rfl, hm, hg, sm, q⟩
  unfold n_inverse w_inverse
  tm_at "dstart"
  tm_at "dl"
  have f1 := Int.emod_nonneg a (show m ≠ 0 by omega)
  have f2 := Int.emod_lt_of_pos a hm
  refine ⟨fun k ρ => ∃ (o n b f s B F : Int) (c : C), ρ = [.v (.int a), .v (.int m), .v (.int o), .v (.int n), .v (.int b), .v (.int f), c] ∧ k = n.toNat ∧ 0 ≤ n ∧ 0 < o ∧ o ≤ m ∧ n ≤ m ∧ Int.gcd o n = 1 ∧ m ∣ b * a - o ∧ m ∣ f * a - n ∧ (s = 1 ∨ s = -1) ∧ b = -s * B ∧ f = s * F ∧ 0 ≤ B ∧ 0 ≤ F ∧ o * F + n * B = m,
    ⟨_, m, a % m, 0, 1, 1, 0, 1, _, rfl, rfl, f1, hm, by omega, by omega, by rw [zg_mod]; exact hg, ?_, ?_, .inl rfl, rfl, rfl, by omega, by omega, by omega⟩, ?_⟩
  · exact ⟨-1, by omega⟩
  · refine ⟨a / m, ?_⟩
    have := Int.emod_add_mul_ediv a m
    omega
  rintro k ρ ⟨o, n, b, f, s, B, F, c, rfl, rfl, n0, o0, om, nm, g, d1, d2, hs, hb, hf, B0, F0, hm2⟩
  have so : Sm o := sm.of (by omega) om
  have sn : Sm n := sm.of n0 nm
  have ln := sn.log
  have Fm : F ≤ m := by
    have : 1 * F ≤ o * F := Int.mul_le_mul_of_nonneg_right (by omega) F0
    have : 0 ≤ n * B := Int.mul_nonneg n0 B0
    omega
  have sf : Sm f := by
    refine (sm.of F0 Fm).of_le ?_
    rcases hs with e | e <;> (rw [hf, e]; omega)
  have q0 : 0 ≤ o / n := Int.ediv_nonneg (by omega) n0
  have q1 : o / n ≤ o := Int.ediv_le_self n (by omega)
  have sq : Sm (o / n) := so.of q0 q1
  have k1 := sq.mul sn
  have k2 := sq.mul sf
  tm_at "dl"
  · rename_i hn
    have e : o - o / n * n = o % n := by have := Int.emod_add_mul_ediv o n; rw [Int.mul_comm (o / n)]; omega
    have r0 := Int.emod_nonneg o (show n ≠ 0 by omega)
    have r1 := Int.emod_lt_of_pos o (show 0 < n by omega)
    refine ⟨(o % n).toNat, by omega, n, o - o / n * n, f, b - o / n * f, -s, F, B + o / n * F, _, rfl, by rw [e], by omega, by omega, nm, by omega, ?_, d2, ?_, ?_, ?_, ?_, F0, ?_, ?_⟩
    · rw [e, zg_mod]; exact g
    · obtain ⟨u, hu⟩ := d1
      obtain ⟨v, hv⟩ := d2
      refine ⟨u - o / n * v, ?_⟩
      have m1 : o / n * (f * a - n) = o / n * (m * v) := by rw [hv]
      have m2 : m * (u - o / n * v) = m * u - o / n * (m * v) := by
        rw [Int.mul_sub, ← Int.mul_assoc, ← Int.mul_assoc, Int.mul_comm m (o / n)]
      have m3 : (b - o / n * f) * a = b * a - o / n * (f * a) := by rw [Int.sub_mul, Int.mul_assoc]
      rw [Int.mul_sub] at m1
      rw [m2, m3]
      omega
    · omega
    · rw [hf, Int.neg_neg]
    · rw [hb, hf, Int.mul_add, Int.neg_mul, Int.neg_mul, ← Int.mul_assoc, ← Int.mul_assoc, Int.mul_comm (o / n) s]
      omega
    · have := Int.mul_nonneg q0 F0
      omega
    · have m1 : n * (B + o / n * F) = n * B + (o / n * n) * F := by
        rw [Int.mul_add, ← Int.mul_assoc, Int.mul_comm n (o / n)]
      have m2 : (o - o / n * n) * F = o * F - (o / n * n) * F := Int.sub_mul ..
      omega
  · have e : n = 0 := by omega
    subst e
    rw [Int.gcd_zero] at g
    have e1 : o = 1 := by omega
    subst e1
    have r0 := Int.emod_nonneg b (show m ≠ 0 by omega)
    have r1 := Int.emod_lt_of_pos b hm
    refine q _ r0 r1 ?_
    obtain ⟨u, hu⟩ := d1
    refine ⟨u - a * (b / m), ?_⟩
    have := Int.emod_add_mul_ediv b m
    have e2 : b % m = b - m * (b / m) := by omega
    have m1 : a * (b - m * (b / m)) = b * a - m * (a * (b / m)) := by
      rw [Int.mul_sub, Int.mul_comm a b, ← Int.mul_assoc, ← Int.mul_assoc, Int.mul_comm a m]
    rw [e2, m1, Int.mul_sub]
    omega
theorem at_ps {ps : List Pr} {i : Nat} {p : Pr} (h : ps[i]? = some p) : atI (ps.map cplD) (i : Nat) = some (cplD p) := L2.atI_nat (by rw [List.getElem?_map, h]; rfl)
theorem ok_clash_of : ∀ as QD ED, S_clash_of as QD ED → w_clash_of (bodyEnds as QD fun _ _ => False) (startD n_clash_of as) := by
  rintro as QD ED ⟨ps, j, i0, p, q, rfl, hok, hj, hi, hij, ha, k⟩
  unfold n_clash_of w_clash_of
  tm_at "dstart"
  tm_at "dl"
  refine ⟨fun m ρ => ∃ i : Nat, ρ = [.v (psD ps), .v (.int (j : Nat)), .v (.int (i : Nat))] ∧ i ≤ i0 ∧ m = i0 - i, ⟨_, 0, rfl, by omega, rfl⟩, ?_⟩
  rintro m ρ ⟨i, rfl, hi0, rfl⟩
  have hlt : i < ps.length := by
    have := (List.getElem?_eq_some_iff.mp hi).1
    omega
  have ei : ps[i]? = some ps[i] := List.getElem?_eq_getElem hlt
  have o1 := hok ps[i] (List.getElem_mem hlt)
  have o2 := hok q (List.mem_of_getElem? hj)
  unfold OkP at o1 o2
  tm_at "dw"
  refine optK_of (at_ps ei) ?_
  tm_at "dl"
  refine optK_of (at_ps hj) ?_
  tm_at "dl"
  refine ⟨ps[i], q, rfl, by omega, by omega, ?_⟩
  tm_at "dl"
  · rename_i z
    have ne : i ≠ i0 := fun e => by
      subst e
      rw [hi] at ei
      cases ei
      rw [ha] at z
      cases z
    exact ⟨i0 - (i + 1), by omega, i + 1, rfl, by omega, rfl⟩
  · rename_i z
    exact k i _ (by omega) ei z
theorem le_of_dvd {a b : Int} (h : a ∣ b) (hb : 0 < b) : a ≤ b := Int.le_of_dvd hb h
theorem ok_joined : ∀ as QD ED, S_joined as QD ED → w_joined (bodyEnds as QD fun _ _ => False) (startD n_joined as) := by
  rintro as QD ED ⟨ps, rfl, hok, sm, kc, ka⟩
  unfold n_joined w_joined
  tm_at "dstart"
  tm_at "dl"
  have lp0 : 0 < Lp ps := Lf_pos (by decide) hok
  refine forK_ind (fun ds ρ => ∃ (pre post : List Pr) (r : Int) (c3 c4 c5 c6 c7 c8 : C), ps = pre ++ post ∧ ds = enumF pre.length (post.map cplD) ∧ ρ = [.v (psD ps), .v (.int r), .v (.int (Lp pre)), c3, c4, c5, c6, c7, c8] ∧ 0 ≤ r ∧ r < Lp pre ∧ Sol pre r) ?_ ?_ _ _ ⟨[], ps, 0, _, _, _, _, _, _, rfl, rfl, rfl, by decide, by decide, fun p hp => by cases hp⟩
  · rintro ρ ⟨pre, post, r, c3, c4, c5, c6, c7, c8, e, hd, rfl, r0, r1, hs⟩
    cases post with
    | nil =>
      rw [List.append_nil] at e
      subst e
      tm_at "dl"
      exact ka r r0 r1 hs
    | cons q post => cases hd
  · rintro d ds ρ next hn ⟨pre, post, r, c3, c4, c5, c6, c7, c8, e, hd, rfl, r0, r1, hs⟩
    cases post with
    | nil => cases hd
    | cons q post =>
      obtain ⟨rfl, rfl⟩ : d = .tuple [.int (pre.length : Nat), cplD q] ∧ ds = enumF (pre.length + 1) (post.map cplD) := by
        cases hd
        exact ⟨rfl, rfl⟩
      have hq : OkP q := hok q (by rw [e]; simp)
      have q2 : 0 < q.2 := by unfold OkP at hq; omega
      have hpre : ∀ p ∈ pre, OkP p := fun p hp => hok p (by rw [e]; simp [hp])
      have lp1 : 0 < Lp pre := Lf_pos (by decide) hpre
      have d1 : Lp (pre ++ [q]) ∣ Lp ps := by rw [e, show pre ++ q :: post = (pre ++ [q]) ++ post by simp]; exact Lp_pre
      have l1 : Lp (pre ++ [q]) ≤ Lp ps := le_of_dvd d1 lp0
      have l2 : Lp pre ≤ Lp ps := le_of_dvd (Int.dvd_trans Lp_pre d1) lp0
      have l3 : q.2 ≤ Lp ps := le_of_dvd (Lf_mem q (by rw [e]; simp)) lp0
      have gp := zg_pos (a := Lp pre) q2
      have gl := zg_le (a := Lp pre) q2
      have hat : ps[pre.length]? = some q := by rw [e]; simp
      tm_at "dl"
      refine ⟨(r, Lp pre), q, rfl, by show 0 ≤ Lp pre; omega, q2, ?_⟩
      have pd := gcd_parts (a := Lp pre) q2
      have sg : Sm (zg (Lp pre) q.2) := sm.of (by omega) (by omega)
      have sglog := sg.log
      have el := zl_mul2 lp1 q2
      rw [← Lp_snoc] at el
      have pp : 0 < q.2 / zg (Lp pre) q.2 := by
        rcases Int.lt_or_le 0 (q.2 / zg (Lp pre) q.2) with h | h
        · exact h
        · have z : 0 < Lp (pre ++ [q]) := Lf_pos (by decide) fun p hp => by
            rcases List.mem_append.mp hp with h | h
            · exact hpre p h
            · rw [List.mem_singleton.mp h]; exact hq
          have := Int.mul_le_mul_of_nonneg_left h (show 0 ≤ Lp pre by omega)
          rw [Int.mul_zero] at this
          omega
      have spart : Sm (q.2 / zg (Lp pre) q.2) := sm.of (by omega) (by have := Int.ediv_le_self (a := q.2) (zg (Lp pre) q.2) (by omega); omega)
      tm_at "dl"
      · rename_i z
        have ex : ∃ p ∈ pre, agr p q = false := by
          apply Classical.byContradiction
          intro h
          have := agree_all q2 hs (fun p hp => by
            cases hc : agr p q with
            | true => rfl
            | false => exact absurd ⟨p, hp, hc⟩ h)
          rw [this] at z
          cases z
        obtain ⟨p, hp, hc⟩ := ex
        obtain ⟨i0, hi, hpi⟩ := List.getElem_of_mem hp
        have hi0 : ps[i0]? = some p := by rw [e, List.getElem?_append_left hi, List.getElem?_eq_getElem hi, hpi]
        refine ⟨ps, pre.length, i0, p, q, rfl, hok, hat, hi0, hi, hc, fun i p' h1 h2 h3 => ?_⟩
        tm_at "dl"
        exact kc i _ p' q h1 h2 hat h3
      · rename_i z
        refine ⟨Lp pre, q.2, rfl, by omega, by omega, ?_⟩
        have st : Sm ((q.1 - r) / zg (Lp pre) q.2) := by
          obtain ⟨t, ht⟩ : zg (Lp pre) q.2 ∣ q.1 - r := dvd_sub_comm (agr_iff.mp z)
          have e3 : (q.1 - r) / zg (Lp pre) q.2 = t := by
            conv => lhs; lhs; rw [ht]
            exact Int.mul_ediv_cancel_left t (by omega)
          rw [e3]
          refine sm.of_le ?_
          have h1 : (q.1 - r).natAbs = (zg (Lp pre) q.2).natAbs * t.natAbs := by rw [ht, Int.natAbs_mul]
          have h2 : 1 * t.natAbs ≤ (zg (Lp pre) q.2).natAbs * t.natAbs := Nat.mul_le_mul_right _ (by omega)
          have h3 : q.1 < q.2 ∧ 0 ≤ q.1 := ⟨hq.2, hq.1⟩
          omega
        tm_at "dl"
        refine ⟨Lp pre / zg (Lp pre) q.2, q.2 / zg (Lp pre) q.2, rfl, pp, pd, spart, fun x x0 x1 hx => ?_⟩
        have sx : Sm x := spart.of x0 (by omega)
        have k1 := st.mul sx
        have o0 := Int.emod_nonneg ((q.1 - r) / zg (Lp pre) q.2 * x) (show q.2 / zg (Lp pre) q.2 ≠ 0 by omega)
        have o1 := Int.emod_lt_of_pos ((q.1 - r) / zg (Lp pre) q.2 * x) pp
        have slp : Sm (Lp pre) := sm.of (by omega) l2
        have k2 := slp.mul (spart.of o0 (by omega))
        have k3 := slp.mul spart
        tm_at "dl"
        refine hn _ ⟨pre ++ [q], post, _, _, _, _, _, _, _, by rw [e]; simp, by rw [List.length_append]; rfl, by rw [el], ?_, ?_, ?_⟩
        · have := Int.mul_nonneg (show 0 ≤ Lp pre by omega) o0
          show 0 ≤ r + Lp pre * _
          omega
        · rw [el]
          have h1 := Int.mul_le_mul_of_nonneg_left (show (q.1 - r) / zg (Lp pre) q.2 * x % (q.2 / zg (Lp pre) q.2) ≤ q.2 / zg (Lp pre) q.2 - 1 by omega) (show 0 ≤ Lp pre by omega)
          rw [Int.mul_sub, Int.mul_one] at h1
          show r + Lp pre * _ < _
          omega
        · refine step_sol hs z lp1 hq hx ?_
          refine ⟨(q.1 - r) / zg (Lp pre) q.2 * x / (q.2 / zg (Lp pre) q.2), ?_⟩
          have := Int.emod_add_mul_ediv ((q.1 - r) / zg (Lp pre) q.2 * x) (q.2 / zg (Lp pre) q.2)
          omega
end CFRb
end

section
set_option Elab.async false
set_option linter.all false
set_option maxRecDepth 100000
set_option maxHeartbeats 4000000
namespace CFWd
open PySem PySem.Spec PyProof.Rows L2 DL CFH
local macro_rules | `(tactic| tm_at "dpos") => `(tactic| first | omega | decide)
local macro_rules | `(tactic| tm_at "dlog") => `(tactic| first | exact log2_sm (by omega) | exact CFH.big_log (by omega) (by omega) | assumption | exact log2_sm (by decide))
local macro_rules | `(tactic| tm_at "dc") => `(tactic| ((with_reducible show CFH.S_law_take _ _ _); refine CFH.take_i (by assumption) (by omega) (by tm_at "dpos") (by tm_at "dlog") (fun _ _ _ _ _ => ?_)))
local macro_rules | `(tactic| tm_at "dc") => `(tactic| ((with_reducible show CFH.S_law_great _ _ _); refine CFH.great_i (by assumption) (by omega) (fun _ _ _ _ _ => ?_)))
local macro_rules | `(tactic| tm_at "dc") => `(tactic| ((with_reducible show CFH.S_law_whole _ _ _); refine CFH.whole_i ?_))
theorem ok_law_words : ∀ as QD ED, S_law_words as QD ED → w_law_words (bodyEnds as QD fun _ _ => False) (startD n_law_words as) := by
  rintro as QD ED ⟨h, n, m, rfl, ho, hn, m0, m1, q⟩
  unfold n_law_words w_law_words
  have sz : (Str.ofString "abcdefghijklmnopqrstuvwxyz0123456789").length ≤ sizeLine := sg_sz
  tm_at "dstart"
  tm_at "dl"
  rename_i h1 b0 o1 b00 b01
  refine pick_z [1, 5, 7, 11, 13, 17] rfl o1 (by omega) (by decide) (by decide) fun h2 st o2 hst => ?_
  obtain ⟨st, rfl, hs6, st17⟩ : ∃ k : Nat, st = k ∧ (fun k : Nat => k = 1 ∨ k = 5 ∨ k = 7 ∨ k = 11 ∨ k = 13 ∨ k = 17) k ∧ k ≤ 17 := by
    have hst : st = 1 ∨ st = 5 ∨ st = 7 ∨ st = 11 ∨ st = 13 ∨ st = 17 := by simpa using hst
    exact ⟨st.toNat, by omega, by show _ ∨ _; omega, by omega⟩
  clear hst
  tm_at "dl"
  rename_i h3 x o3 x0 x1
  obtain ⟨x, rfl⟩ := Int.eq_ofNat_of_zero_le x0
  have hx : x < 36 := by omega
  refine optK_of (L2.atI_nat (sg_at hx)) ?_
  have hc := sg_mem hx
  generalize sgAt x = c at hc
  tm_at "dl"
  refine pick_z [0, 1, 0, 2, 7] rfl o3 (by omega) (by decide) (by decide) fun h4 r o4 hr => ?_
  obtain ⟨r, rfl, hr7⟩ : ∃ k : Nat, r = k ∧ k ≤ 7 := by
    simp only [List.mem_cons, List.not_mem_nil, or_false] at hr
    exact ⟨r.toNat, by omega, by omega⟩
  clear hr
  have l1 : (⟨#[c]⟩ : Str).length ≤ 1000 := by show (T [c]).length ≤ 1000; rw [T_len]; exact Nat.le_of_ble_eq_true rfl
  have er : repS ⟨#[c]⟩ (r : Int).toNat = T (List.replicate r c) := by
    rw [Int.toNat_natCast]
    show repS (T [c]) r = _
    rw [T_rep, flat_rep]
  have el : (T (List.replicate r c)).length = r := by rw [T_len, List.length_replicate]
  tm_at "dl"
  rw [er, el]
  tm_at "dl"
  rename_i h5 a o5 a0 a1 h6 s o6 s0 s1
  obtain ⟨a, rfl⟩ := Int.eq_ofNat_of_zero_le a0
  have har : a ≤ r := by omega
  have sz2 : (T (List.replicate r c)).length ≤ sizeLine := by rw [el, sizeLine_eq]; omega
  have ea : cutS (T (List.replicate r c)) (some (a : Int)) none = T (List.replicate (r - a) c) := by
    rw [T_drop (by rw [List.length_replicate]; exact har), List.drop_replicate]
  have eb : cutS (T (List.replicate r c)) none (some (a : Int)) = T (List.replicate a c) := by
    rw [T_take (by rw [List.length_replicate]; exact har), List.take_replicate, Nat.min_eq_left har]
  obtain ⟨b0, rfl⟩ := Int.eq_ofNat_of_zero_le b00
  obtain ⟨m, rfl⟩ := Int.eq_ofNat_of_zero_le m0
  have fin := fun k (hk : k ≤ 36) => words_ok (c := c) (a := a) (b := r - a) (short := decide (s = 1)) (b0 := b0) (st := st) (n := k) hs6 hk hc (by omega)
  refine forK_ind (fun ds ρ => ∃ (k : Nat) (c9 c10 c11 : C), ds = rangeD (k : Int) (m - k) ∧ k ≤ m ∧ ρ = [CFH.hc h6, .v (.int m), .v (.str (Str.ofString "abcdefghijklmnopqrstuvwxyz0123456789")), .v (.int b0), .v (.int st), .v (.str (T (List.replicate r c))), .v (.int a), .v (.int s), .own 0 (.lst (((List.range k).map fun i => T (wordL c a (r - a) (decide (s = 1)) b0 st i)).map PyData.str)), c9, c10, c11]) ?_ ?_ _ _ ⟨0, _, _, _, by rw [Int.toNat_natCast]; rfl, Nat.zero_le _, rfl⟩
  · rintro ρ ⟨k, c9, c10, c11, hd, hk, rfl⟩
    have : k = m := by
      rcases Nat.lt_or_ge k m with z | z
      · rw [show m - k = (m - k - 1) + 1 by omega, rangeD_cons] at hd; cases hd
      · omega
    subst this
    tm_at "dl"
    exact q h6 _ (o6.up (by omega)) (by simp) (fin k (by omega))
  · rintro d ds ρ next hnx ⟨k, c9, c10, c11, hd, hk, rfl⟩
    have hkm : k < m := by
      rcases Nat.lt_or_ge k m with z | z
      · exact z
      · rw [show m - k = 0 by omega, rangeD_zero] at hd; cases hd
    rw [show m - k = (m - (k + 1)) + 1 by omega, rangeD_cons] at hd
    obtain ⟨rfl, rfl⟩ : d = .int (k : Nat) ∧ ds = rangeD ((k : Int) + 1) (m - (k + 1)) := by
      cases hd
      exact ⟨rfl, rfl⟩
    clear hd
    have mo : MulOk (st : Int) (k : Int) := MulOk.left ⟨by omega, by omega⟩
    have ei : ((b0 : Int) + (st : Int) * (k : Int)) % 36 = (((b0 + st * k) % 36 : Nat) : Int) := by push_cast; rfl
    have hj : (b0 + st * k) % 36 < 36 := Nat.mod_lt _ (by decide)
    have hsg := sg_at hj
    have leaf : ∀ (c9 c10 c11 : C) (w : Str), w = T (wordL c a (r - a) (decide (s = 1)) b0 st k) → next [CFH.hc h6, .v (.int m), .v (.str (Str.ofString "abcdefghijklmnopqrstuvwxyz0123456789")), .v (.int b0), .v (.int st), .v (.str (T (List.replicate r c))), .v (.int a), .v (.int s), .own 0 (.lst (((List.range k).map fun i => T (wordL c a (r - a) (decide (s = 1)) b0 st i)).map PyData.str ++ [.str w])), c9, c10, c11] := fun c9 c10 c11 w hw => hnx _ ⟨k + 1, c9, c10, c11, by push_cast; rfl, hkm, by rw [List.range_succ, List.map_append, List.map_append, hw]; rfl⟩
    clear hnx fin q
    have lf : (((List.range k).map fun i => T (wordL c a (r - a) (decide (s = 1)) b0 st i)).map PyData.str).length < sizeLine := by
      rw [List.length_map, List.length_map, List.length_range, sizeLine_eq]
      omega
    tm_at "dl"
    all_goals
      refine optK_of (by rw [ei]; exact L2.atI_nat hsg) ?_
      tm_at "dl"
    all_goals
      rw [eb]
      refine ⟨le1000 (by show (T (List.replicate a c)).length + (T [sgAt ((b0 + st * k) % 36)]).length ≤ 1000; rw [T_len, T_len, List.length_replicate]; show a + 1 ≤ 1000; omega), ?_⟩
      have e1 : T (List.replicate a c) ++ (⟨#[sgAt ((b0 + st * k) % 36)]⟩ : Str) = T (List.replicate a c ++ [sgAt ((b0 + st * k) % 36)]) := T_app
      tm_at "dl"
      rw [e1]
      try rw [ea]
      refine ⟨le1000 ?_, ?_⟩
    · show (T _).length + (T []).length ≤ 1000
      rw [T_len, T_len, List.length_append, List.length_replicate]
      show a + 1 + 0 ≤ 1000
      omega
    rotate_left
    · rw [T_len, T_len, List.length_append, List.length_replicate, List.length_replicate]
      show a + 1 + (r - a) ≤ 1000
      omega
    rotate_left
    · rw [T_len, T_len, List.length_append, List.length_replicate, List.length_replicate]
      show a + 1 + (r - a) ≤ 1000
      omega
    rotate_left
    all_goals
      tm_at "dl"
      refine leaf _ _ _ _ ?_
      unfold wordL
    · rename_i z1 z2
      have e2 : k % 2 = 1 := by omega
      rw [if_pos ⟨decide_eq_true z1, e2⟩]
      exact T_app
    · rename_i z1 z2
      rw [if_neg (fun z => by omega)]
      exact T_app
    · rename_i z1 _
      rw [if_neg (fun z => z1 (of_decide_eq_true z.1))]
      exact T_app
end CFWd
end

section
set_option Elab.async false
set_option linter.all false
set_option maxRecDepth 100000
set_option maxHeartbeats 4000000
namespace CFLy
open PySem PySem.Spec PyProof.Rows L2 DL CFH CFCl CFRu CFWd CFBk CFCg
local macro_rules | `(tactic| tm_at "dpos") => `(tactic| first | omega | decide)
local macro_rules | `(tactic| tm_at "dlog") => `(tactic| first | exact log2_sm (by omega) | exact CFH.big_log (by omega) (by omega) | assumption | exact log2_sm (by decide))
local macro_rules | `(tactic| tm_at "dc") => `(tactic| ((with_reducible show CFH.S_law_take _ _ _); refine CFH.take_i (by assumption) (by omega) (by tm_at "dpos") (by tm_at "dlog") (fun _ _ _ _ _ => ?_)))
local macro_rules | `(tactic| tm_at "dc") => `(tactic| ((with_reducible show CFH.S_law_great _ _ _); refine CFH.great_i (by assumption) (by omega) (fun _ _ _ _ _ => ?_)))
local macro_rules | `(tactic| tm_at "dc") => `(tactic| ((with_reducible show CFH.S_law_whole _ _ _); refine CFH.whole_i ?_))
theorem ok_law_minute : ∀ as QD ED, S_law_minute as QD ED → w_law_minute (bodyEnds as QD fun _ _ => False) (startD n_law_minute as) := by
  rintro as QD ED ⟨h, n, m, rfl, ho, hn, m1, m2, q⟩
  unfold n_law_minute w_law_minute
  have mo : ∀ x : Int, MulOk 1440 x := fun x => MulOk.left (by decide)
  tm_at "dstart"
  tm_at "dl"
  · exact q _ _ (Hd.ok.up (by assumption) (by omega)) (by omega) (by omega)
  · refine pick_z [480, 540, 1020, 1080, 1320, 360] rfl (by assumption) (by omega) (by decide) (by decide) fun h4 r o4 e4 => ?_
    obtain ⟨r0, r1⟩ : 0 ≤ r ∧ r ≤ 1440 := by
      simp only [List.mem_cons, List.not_mem_nil, or_false] at e4
      omega
    clear e4
    tm_at "dl"
    exact q _ _ (Hd.ok.up (by assumption) (by omega)) (by omega) (by omega)
  · exact q _ _ (Hd.ok.up (by assumption) (by omega)) (by omega) (by omega)
theorem ok_law_layer : ∀ as QD ED, S_law_layer as QD ED → w_law_layer (bodyEnds as QD fun _ _ => False) (startD n_law_layer as) := by
  rintro as QD ED ⟨h, n, wd, ws, days, most, rfl, ho, hn, hw, w0, w1, hws, d1, d2, m0, m1, q⟩
  unfold n_law_layer w_law_layer
  have mo : ∀ x : Int, MulOk 1440 x := fun x => MulOk.left (by decide)
  tm_at "dstart"
  tm_at "dl"
  · rename_i h1 x o1 x0 x1 h2 y o2 y0 y1 h3 w o3 w2 w3 z
    obtain ⟨s0, s1⟩ : 0 ≤ x * y ∧ x * y < 1440 * days := by
      rcases (show y = 0 ∨ y = 1 by omega) with rfl | rfl
      · rw [Int.mul_zero]; omega
      · rw [Int.mul_one]; omega
    generalize x * y = st at s0 s1 ⊢
    refine pick_i o3 (by omega) (by rw [List.length_map]; exact w0) (by rw [List.length_map]; omega) fun h4 nm o4 hnm => ?_
    obtain ⟨v, hv, rfl⟩ := List.mem_map.mp hnm
    tm_at "dl"
    exact q h4 ⟨wd, st, days, [(0, 1440 * days, v)]⟩ (o4.up (by omega)) ⟨hw, d1, d2, s0, s1, ⟨Int.le_refl _, by show (0 : Int) < 1440 * days; omega, Int.le_refl _, hws v hv, trivial⟩⟩ rfl rfl (fun t ht => by rw [List.mem_singleton.mp ht]; exact hv) (.inr (Nat.le_refl 1))
  · rename_i h1 x o1 x0 x1 h2 y o2 y0 y1 h3 w o3 w2 w3 z
    obtain ⟨s0, s1⟩ : 0 ≤ x * y ∧ x * y < 1440 * days := by
      rcases (show y = 0 ∨ y = 1 by omega) with rfl | rfl
      · rw [Int.mul_zero]; omega
      · rw [Int.mul_one]; omega
    generalize x * y = st at s0 s1 ⊢
    tm_at "dlc"
    have rl : (rangeD 0 (1 + most).toNat).length = (1 + most).toNat := rangeD_len
    refine lcK_ind (fun es acc ρ => ∃ (h : Hd) (kk : Nat) (ms : List Int), h.ok kk ∧ kk + 4 * es.length ≤ n + 100 ∧ acc = ms.map PyData.int ∧ ((ms.length + es.length : Nat) : Int) = 1 + most ∧ (∀ m ∈ ms, 0 ≤ m ∧ m ≤ 1440 * days) ∧ ρ = [.own 1 (.lst (CFH.hd h)), .v (.str wd), .v (wsD ws), .v (.int days), .v (.int most), .v (.int st), .no, .no, .no, .no]) ?_ ?_ _ _ _ ⟨h3, _, [], o3, by omega, rfl, by rw [List.length_nil]; omega, (fun m hm => by cases hm), rfl⟩
    · rintro acc ρ ⟨h4, kk, ms, o4, hk, rfl, hms, hb, rfl⟩
      rw [List.length_nil] at hms hk
      have lm : ms.length ≤ 4000 := by omega
      tm_at "dl"
      intro es p1 p2 p3
      have eb : ∀ m ∈ es, 0 ≤ m ∧ m ≤ 1440 * days := fun m hm => hb m ((p2 m).mp hm)
      have el : ((es.length : Nat) : Int) ≤ 1 + most := by omega
      have em : (es.map PyData.int).length = es.length := List.length_map ..
      have g : ∀ k, k + 1 < es.length → ∃ a b, (es.map PyData.int)[k]? = some (.int a) ∧ (es.map PyData.int)[k + 1]? = some (.int b) ∧ a < b ∧ 0 ≤ a ∧ b ≤ 1440 * days ∧ es[k]? = some a ∧ es[k + 1]? = some b := fun k hk => by
        refine ⟨es[k], es[k + 1], ?_, ?_, List.pairwise_iff_getElem.mp p1 k (k + 1) (by omega) hk (by omega), (eb _ (List.getElem_mem _)).1, (eb _ (List.getElem_mem _)).2, List.getElem?_eq_getElem (by omega), List.getElem?_eq_getElem hk⟩
        · rw [List.getElem?_map, List.getElem?_eq_getElem (by omega)]; rfl
        · rw [List.getElem?_map, List.getElem?_eq_getElem hk]; rfl
      clear p1 p2 p3 hb eb
      tm_at "dl"
      refine forK_ind (fun ds ρ => ∃ (h : Hd) (kk k : Nat) (ts : List Trn) (c6 : C), ds = rangeD (k : Int) (es.length - 1 - k) ∧ k ≤ es.length - 1 ∧ h.ok kk ∧ kk + 2 * (es.length - 1 - k) ≤ n + 190 ∧ TrnsOk (1440 * days) 0 ts ∧ (∀ a, es[k]? = some a → ∀ u ∈ ts, u.2.1 ≤ a) ∧ ts.length ≤ k ∧ (∀ t ∈ ts, t.2.2 ∈ ws) ∧ ρ = [.own 1 (.lst (CFH.hd h)), .v (.str wd), .v (wsD ws), .v (.int days), .v (.int most), .v (.int st), c6, .v (.list (es.map PyData.int)), .own 0 (.lst (ts.map trnD)), .no]) ?_ ?_ _ _ ⟨h4, kk, 0, [], _, ?_, Nat.zero_le _, o4, by omega, trivial, (fun a _ u hu => by cases hu), Nat.zero_le _, (fun u hu => by cases hu), rfl⟩
      · rintro ρ ⟨h5, kk5, k, ts, c6, hd, hk5, o5, hkk, ht, _, hl, hh, rfl⟩
        have lf : C.lf (.own 0 (.lst (ts.map trnD))) = true := lfreeAll_of fun d hd => by
          obtain ⟨x, _, rfl⟩ := List.mem_map.mp hd
          rfl
        clear g
        tm_at "dl"
        exact q h5 ⟨wd, st, days, ts⟩ (o5.up (by omega)) ⟨hw, d1, d2, s0, s1, ht⟩ rfl rfl hh (.inl (by show ((ts.length : Nat) : Int) ≤ most; omega))
      · rintro d ds ρ next hnx ⟨h5, kk5, k, ts, c6, hd, hk5, o5, hkk, ht, hu, hl, hh, rfl⟩
        have hkl : k + 1 < es.length := by
          rcases Nat.lt_or_ge (k + 1) es.length with z | z
          · exact z
          · rw [show es.length - 1 - k = 0 by omega, rangeD_zero] at hd; cases hd
        rw [show es.length - 1 - k = (es.length - 1 - (k + 1)) + 1 by omega, rangeD_cons] at hd
        obtain ⟨rfl, rfl⟩ : d = .int (k : Nat) ∧ ds = rangeD ((k : Int) + 1) (es.length - 1 - (k + 1)) := by
          cases hd
          exact ⟨rfl, rfl⟩
        clear hd q
        obtain ⟨a, b, g1, g2, ab, a0, b1, ea, eb⟩ := g k hkl
        have leaf : ∀ (h6 : Hd) (k6 : Nat) (v : Str) (c6 : C), h6.ok k6 → k6 ≤ kk5 + 2 → (v ∈ ws → next [.own 1 (.lst (CFH.hd h6)), .v (.str wd), .v (wsD ws), .v (.int days), .v (.int most), .v (.int st), c6, .v (.list (es.map PyData.int)), .own 0 (.lst (ts.map trnD ++ [.tuple [.int a, .int b, .str v]])), .no]) ∧ next [.own 1 (.lst (CFH.hd h6)), .v (.str wd), .v (wsD ws), .v (.int days), .v (.int most), .v (.int st), c6, .v (.list (es.map PyData.int)), .own 0 (.lst (ts.map trnD)), .no] := fun h6 k6 v c6 o6 hk6 => by
          refine ⟨fun hv => hnx _ ⟨h6, k6, k + 1, ts ++ [(a, b, v)], c6, by push_cast; rfl, by omega, o6, by omega, trns_app ht (hu a ea) a0 ab b1 (hws v hv), fun a' e' u hu' => ?_, by rw [List.length_append, List.length_singleton]; omega, fun t ht' => ?_, by rw [List.map_append]; rfl⟩, hnx _ ⟨h6, k6, k + 1, ts, c6, by push_cast; rfl, by omega, o6, by omega, ht, fun a' e' u hu' => ?_, by omega, hh, rfl⟩⟩
          · rw [eb] at e'
            cases e'
            rcases List.mem_append.mp hu' with z | z
            · have := hu a ea u z; omega
            · rw [List.mem_singleton.mp z]; exact Int.le_refl _
          · rcases List.mem_append.mp ht' with z | z
            · exact hh t z
            · rw [List.mem_singleton.mp z]; exact hv
          · rw [eb] at e'
            cases e'
            have := hu a ea u hu'
            omega
        have sz : (ts.map trnD).length < sizeLine := by rw [List.length_map, sizeLine_eq]; omega
        clear hnx g hu ht hh
        tm_at "dl"
        · refine optK_of (L2.atI_nat g1) ?_
          tm_at "dl"
          refine optK_of (show atI (es.map PyData.int) ((k : Int) + 1) = some (.int b) from L2.atI_nat g2) ?_
          tm_at "dl"
          refine pick_i (by assumption) (by omega) (by rw [List.length_map]; exact w0) (by rw [List.length_map]; omega) fun h7 nm o7 hnm => ?_
          obtain ⟨v, hv, rfl⟩ := List.mem_map.mp hnm
          tm_at "dl"
          exact (leaf h7 _ v _ o7 (by omega)).1 hv
        · exact (leaf _ _ wd _ (by assumption) (by omega)).2
      · rw [em]
        show rangeD 0 _ = _
        congr 1
        omega
    · rintro d es acc ρ nx hnx ⟨h4, kk, ms, o4, hk, rfl, hms, hb, rfl⟩
      rw [List.length_cons] at hms hk
      tm_at "dl"
      refine minute_i o4 (by omega) d1 (by omega) fun h5 x5 o5 x50 x51 => ?_
      tm_at "dl"
      refine hnx _ _ ⟨h5, _, ms ++ [x5], o5, by omega, by rw [List.map_append]; rfl, by rw [List.length_append, List.length_singleton]; omega, fun m hm => ?_, rfl⟩
      rcases List.mem_append.mp hm with z | z
      · exact hb m z
      · rw [List.mem_singleton.mp z]; exact ⟨x50, x51⟩
end CFLy
end

end

set_option Elab.async false
set_option linter.all false
set_option maxRecDepth 100000
set_option maxHeartbeats 4000000

/-! generated: the derivations, the end -/
namespace K40
open PySem PySem.Spec PyProof.Rows L2 DL K40H CFTu CFLo CFRb CFH CFWd CFLy CFLs CFWh CFLc
abbrev N_place_of : List Str := ["layer", "r"]
abbrev P_place_of : List Str := ["layer", "r"]
theorem sc_place_of : FnScope N_place_of P_place_of (defScope st_place_of) := ⟨rfl, rfl, rfl, by decide +kernel, rfl, by decide +kernel, by decide +kernel⟩
abbrev N_turn_at : List Str := ["layer", "r", "place", "j", "turn"]
abbrev P_turn_at : List Str := ["layer", "r"]
theorem sc_turn_at : FnScope N_turn_at P_turn_at (defScope st_turn_at) := ⟨rfl, rfl, rfl, by decide +kernel, rfl, by decide +kernel, by decide +kernel⟩
abbrev N_hand_at : List Str := ["layer", "r", "j"]
abbrev P_hand_at : List Str := ["layer", "r"]
theorem sc_hand_at : FnScope N_hand_at P_hand_at (defScope st_hand_at) := ⟨rfl, rfl, rfl, by decide +kernel, rfl, by decide +kernel, by decide +kernel⟩
abbrev N_gcd : List Str := ["one", "other"]
abbrev P_gcd : List Str := ["one", "other"]
theorem sc_gcd : FnScope N_gcd P_gcd (defScope st_gcd) := ⟨rfl, rfl, rfl, by decide +kernel, rfl, by decide +kernel, by decide +kernel⟩
abbrev N_inverse : List Str := ["one", "by", "old", "new", "before", "found", "often"]
abbrev P_inverse : List Str := ["one", "by"]
theorem sc_inverse : FnScope N_inverse P_inverse (defScope st_inverse) := ⟨rfl, rfl, rfl, by decide +kernel, rfl, by decide +kernel, by decide +kernel⟩
abbrev N_agree : List Str := ["one", "other"]
abbrev P_agree : List Str := ["one", "other"]
theorem sc_agree : FnScope N_agree P_agree (defScope st_agree) := ⟨rfl, rfl, rfl, by decide +kernel, rfl, by decide +kernel, by decide +kernel⟩
abbrev N_clash_of : List Str := ["pairs", "j", "i"]
abbrev P_clash_of : List Str := ["pairs", "j"]
theorem sc_clash_of : FnScope N_clash_of P_clash_of (defScope st_clash_of) := ⟨rfl, rfl, rfl, by decide +kernel, rfl, by decide +kernel, by decide +kernel⟩
abbrev N_joined : List Str := ["pairs", "rest", "by", "j", "one", "step", "common", "part", "often"]
abbrev P_joined : List Str := ["pairs"]
theorem sc_joined : FnScope N_joined P_joined (defScope st_joined) := ⟨rfl, rfl, rfl, by decide +kernel, rfl, by decide +kernel, by decide +kernel⟩
abbrev N_cuts_of : List Str := ["layers", "found", "word", "start", "days", "turns", "begin", "end", "hand"]
abbrev P_cuts_of : List Str := ["layers"]
theorem sc_cuts_of : FnScope N_cuts_of P_cuts_of (defScope st_cuts_of) := ⟨rfl, rfl, rfl, by decide +kernel, rfl, by decide +kernel, by decide +kernel⟩
abbrev N_rests_of : List Str := ["layer", "minute", "#0", "rest"]
abbrev P_rests_of : List Str := ["layer", "minute"]
theorem sc_rests_of : FnScope N_rests_of P_rests_of (defScope st_rests_of) := ⟨rfl, rfl, rfl, by decide +kernel, rfl, by decide +kernel, by decide +kernel⟩
abbrev N_longer : List Str := ["begun", "hands", "rests", "rest", "by", "step", "found", "one", "both"]
abbrev P_longer : List Str := ["begun", "hands"]
theorem sc_longer : FnScope N_longer P_longer (defScope st_longer) := ⟨rfl, rfl, rfl, by decide +kernel, rfl, by decide +kernel, by decide +kernel⟩
abbrev N_in_piece : List Str := ["layers", "minute", "room", "ahead", "found", "layer", "hands", "behind", "begun", "rests", "rest", "by", "hand", "#0"]
abbrev P_in_piece : List Str := ["layers", "minute", "room"]
theorem sc_in_piece : FnScope N_in_piece P_in_piece (defScope st_in_piece) := ⟨rfl, rfl, rfl, by decide +kernel, rfl, by decide +kernel, by decide +kernel⟩
abbrev N_cells : List Str := ["layers", "cuts", "found", "low", "high", "rests", "hand"]
abbrev P_cells : List Str := ["layers", "cuts"]
theorem sc_cells : FnScope N_cells P_cells (defScope st_cells) := ⟨rfl, rfl, rfl, by decide +kernel, rfl, by decide +kernel, by decide +kernel⟩
abbrev N_lots : List Str := ["layers"]
abbrev P_lots : List Str := ["layers"]
theorem sc_lots : FnScope N_lots P_lots (defScope st_lots) := ⟨rfl, rfl, rfl, by decide +kernel, rfl, by decide +kernel, by decide +kernel⟩
abbrev N_law_hand : List Str := ["_law_script", "_law_k", "_law_cell"]
abbrev P_law_hand : List Str := ["_law_script", "_law_k"]
theorem sc_law_hand : FnScope N_law_hand P_law_hand (defScope st_law_hand) := ⟨rfl, rfl, rfl, by decide +kernel, rfl, by decide +kernel, by decide +kernel⟩
abbrev N_law_take : List Str := ["_law_hand_here", "_law_many", "_law_digit", "_law_turn", "_law_factor", "_law_mixed", "_law_other"]
abbrev P_law_take : List Str := ["_law_hand_here", "_law_many"]
theorem sc_law_take : FnScope N_law_take P_law_take (defScope st_law_take) := ⟨rfl, rfl, rfl, by decide +kernel, rfl, by decide +kernel, by decide +kernel⟩
abbrev N_law_pick : List Str := ["_law_hand_here", "_law_some"]
abbrev P_law_pick : List Str := ["_law_hand_here", "_law_some"]
theorem sc_law_pick : FnScope N_law_pick P_law_pick (defScope st_law_pick) := ⟨rfl, rfl, rfl, by decide +kernel, rfl, by decide +kernel, by decide +kernel⟩
abbrev N_law_words : List Str := ["_law_hand_here", "_law_many", "_law_signs", "_law_start", "_law_step", "_law_stem", "_law_at", "_law_short", "_law_words_here", "_law_k", "_law_rest", "_law_sign"]
abbrev P_law_words : List Str := ["_law_hand_here", "_law_many"]
theorem sc_law_words : FnScope N_law_words P_law_words (defScope st_law_words) := ⟨rfl, rfl, rfl, by decide +kernel, rfl, by decide +kernel, by decide +kernel⟩
abbrev N_law_minute : List Str := ["_law_hand_here", "_law_days", "_law_way", "_law_day"]
abbrev P_law_minute : List Str := ["_law_hand_here", "_law_days"]
theorem sc_law_minute : FnScope N_law_minute P_law_minute (defScope st_law_minute) := ⟨rfl, rfl, rfl, by decide +kernel, rfl, by decide +kernel, by decide +kernel⟩
abbrev N_law_layer : List Str := ["_law_hand_here", "_law_word", "_law_names", "_law_days", "_law_most", "_law_start", "_law_k", "_law_ends", "_law_turns", "#0"]
abbrev P_law_layer : List Str := ["_law_hand_here", "_law_word", "_law_names", "_law_days", "_law_most"]
theorem sc_law_layer : FnScope N_law_layer P_law_layer (defScope st_law_layer) := ⟨rfl, rfl, rfl, by decide +kernel, rfl, by decide +kernel, by decide +kernel⟩
abbrev N_law_layers : List Str := ["_law_hand_here", "_law_names", "_law_big", "_law_way", "_law_words_here", "_law_menus", "_law_days", "_law_most", "#0", "_law_k"]
abbrev P_law_layers : List Str := ["_law_hand_here", "_law_names", "_law_big"]
theorem sc_law_layers : FnScope N_law_layers P_law_layers (defScope st_law_layers) := ⟨rfl, rfl, rfl, by decide +kernel, rfl, by decide +kernel, by decide +kernel⟩
abbrev N_law_whom : List Str := ["_law_layer_here", "_law_r", "_law_place", "#0", "_law_begin", "_law_end", "_law_one"]
abbrev P_law_whom : List Str := ["_law_layer_here", "_law_r"]
theorem sc_law_whom : FnScope N_law_whom P_law_whom (defScope st_law_whom) := ⟨rfl, rfl, rfl, by decide +kernel, rfl, by decide +kernel, by decide +kernel⟩
abbrev N_law_cuts : List Str := ["_law_layers_here", "_law_found", "_law_word", "_law_start", "_law_days", "_law_turns", "_law_begin", "_law_end", "_law_one"]
abbrev P_law_cuts : List Str := ["_law_layers_here"]
theorem sc_law_cuts : FnScope N_law_cuts P_law_cuts (defScope st_law_cuts) := ⟨rfl, rfl, rfl, by decide +kernel, rfl, by decide +kernel, by decide +kernel⟩
abbrev N_law_common : List Str := ["_law_layers_here", "_law_found", "_law_word", "_law_start", "_law_days", "_law_turns", "_law_step"]
abbrev P_law_common : List Str := ["_law_layers_here"]
theorem sc_law_common : FnScope N_law_common P_law_common (defScope st_law_common) := ⟨rfl, rfl, rfl, by decide +kernel, rfl, by decide +kernel, by decide +kernel⟩
abbrev N_law_tower : List Str := ["_law_hand_here", "_law_names", "_law_found", "_law_k", "_law_days", "_law_turns", "_law_begin"]
abbrev P_law_tower : List Str := ["_law_hand_here", "_law_names"]
theorem sc_law_tower : FnScope N_law_tower P_law_tower (defScope st_law_tower) := ⟨rfl, rfl, rfl, by decide +kernel, rfl, by decide +kernel, by decide +kernel⟩
abbrev N_law_lot : List Str := ["_law_layers_here", "_law_low", "_law_high", "_law_day", "_law_rests", "_law_layer_here", "_law_one"]
abbrev P_law_lot : List Str := ["_law_layers_here", "_law_low", "_law_high", "_law_day"]
theorem sc_law_lot : FnScope N_law_lot P_law_lot (defScope st_law_lot) := ⟨rfl, rfl, rfl, by decide +kernel, rfl, by decide +kernel, by decide +kernel⟩
abbrev N_law_due : List Str := ["_law_layers_here", "_law_found", "_law_many", "_law_cuts_here", "_law_k", "_law_met", "_law_day", "_law_lot_here", "#0", "_law_rests"]
abbrev P_law_due : List Str := ["_law_layers_here"]
theorem sc_law_due : FnScope N_law_due P_law_due (defScope st_law_due) := ⟨rfl, rfl, rfl, by decide +kernel, rfl, by decide +kernel, by decide +kernel⟩
abbrev N_law : List Str := ["_law_script", "_law_k", "_law_hand_here", "_law_way", "_law_names", "_law_layers_here", "_law_found"]
abbrev P_law : List Str := ["_law_script"]
theorem sc_law : FnScope N_law P_law (defScope st_law) := ⟨rfl, rfl, rfl, by decide +kernel, rfl, by decide +kernel, by decide +kernel⟩
section
variable {P : Program} {w : World} {K : PySem.W.Frag} {mg : Str → Option Value} {base : Heap}
theorem has_place_of {a : Addr} {fd : FuncData} (F : FunD K "place_of" "place_of" (defArgs st_place_of) (defBody st_place_of) (defScope st_place_of) [] [] a fd) (gl : mg "place_of" = some (.ref a)) (c_DAY : ∃ t, mg "DAY" = some (.int 1440 t)) : Has P w K mg base 1 "place_of" CFTu.S_place_of :=
  ⟨a, fd, P_place_of, fn0 (k := 0) (L := CFTu.L_place_of) (ww := CFTu.w_place_of) F sc_place_of rfl CFTu.len_place_of (by
      intro cdv A outer s H E hr g hgL
      unfold CFTu.w_place_of
      refine eb_one ?_
      refine es_ret ?_
      refine ee_mod ?_ ?_
      refine ee_sub ?_ ?_
      exact ee_var (pv 1)
      refine ee_ix ?_ ?_
      exact ee_var (pv 0)
      exact ee_int
      refine ee_mul ?_ ?_
      exact ee_gint (by rfl) c_DAY.choose_spec
      refine ee_ix ?_ ?_
      exact ee_var (pv 0)
      exact ee_int) CFTu.ok_place_of, gl, F.kp, F.bindsN (fun _ _ _ _ _ _ us hl => match us, hl with | [_, _], _ => rfl)⟩
theorem has_turn_at {a : Addr} {fd : FuncData} (F : FunD K "turn_at" "turn_at" (defArgs st_turn_at) (defBody st_turn_at) (defScope st_turn_at) [] [] a fd) (gl : mg "turn_at" = some (.ref a)) (h_place_of : Has P w K mg base 1 "place_of" CFTu.S_place_of) (m_enumerate : mg "enumerate" = none) : Has P w K mg base 2 "turn_at" CFTu.S_turn_at :=
  ⟨a, fd, P_turn_at, fn0 (k := 1) (L := CFTu.L_turn_at) (ww := CFTu.w_turn_at) F sc_turn_at rfl CFTu.len_turn_at (by
      intro cdv A outer s H E hr g hgL
      unfold CFTu.w_turn_at
      refine eb_cons ?_ ?_
      refine es_setF (i := 2) sc_turn_at.nd rfl (Or.inl rfl) ?_
      refine ee_has h_place_of (hr.mono (by decide)) (by rfl) ?_
      refine ea_cons ?_ ?_
      exact ee_var (pv 0)
      refine ea_cons ?_ ?_
      exact ee_var (pv 1)
      exact ea_nil
      refine eb_cons ?_ ?_
      refine es_for PassesOwn.never rfl ?_ (eg_tup rfl (egs_cons (eg_name (i := 3) sc_turn_at.nd rfl (Or.inl rfl)) (egs_cons (eg_name (i := 4) sc_turn_at.nd rfl (Or.inl rfl)) egs_nil))) ?_
      refine ei_enumerate (by rfl) m_enumerate ?_
      refine ea_cons ?_ ?_
      refine ee_ix ?_ ?_
      exact ee_var (pv 0)
      exact ee_int
      exact ea_nil
      refine eb_one ?_
      refine es_if ?_ ?_ ?_
      refine et_chain (f := fun i j => decide (i ≤ j)) (f' := fun i j => decide (i < j)) op_le op_lt ?_ ?_ ?_
      refine ee_ix ?_ ?_
      exact ee_var (pv 4)
      exact ee_int
      exact ee_var (pv 2)
      refine ee_ix ?_ ?_
      exact ee_var (pv 4)
      exact ee_int
      refine eb_one ?_
      refine es_ret ?_
      exact ee_var (pv 3)
      exact eb_nil
      refine eb_one ?_
      refine es_ret ?_
      exact ee_non) CFTu.ok_turn_at, gl, F.kp, F.bindsN (fun _ _ _ _ _ _ us hl => match us, hl with | [_, _], _ => rfl)⟩
theorem has_hand_at {a : Addr} {fd : FuncData} (F : FunD K "hand_at" "hand_at" (defArgs st_hand_at) (defBody st_hand_at) (defScope st_hand_at) [] [] a fd) (gl : mg "hand_at" = some (.ref a)) (h_turn_at : Has P w K mg base 2 "turn_at" CFTu.S_turn_at) : Has P w K mg base 3 "hand_at" CFLo.S_hand_at :=
  ⟨a, fd, P_hand_at, fn0 (k := 2) (L := CFLo.L_hand_at) (ww := CFLo.w_hand_at) F sc_hand_at rfl CFLo.len_hand_at (by
      intro cdv A outer s H E hr g hgL
      unfold CFLo.w_hand_at
      refine eb_cons ?_ ?_
      refine es_setF (i := 2) sc_hand_at.nd rfl (Or.inl rfl) ?_
      refine ee_has h_turn_at (hr.mono (by decide)) (by rfl) ?_
      refine ea_cons ?_ ?_
      exact ee_var (pv 0)
      refine ea_cons ?_ ?_
      exact ee_var (pv 1)
      exact ea_nil
      refine eb_cons ?_ ?_
      refine es_if ?_ ?_ ?_
      refine et_isN ?_
      exact ee_var (pv 2)
      refine eb_one ?_
      refine es_ret ?_
      exact ee_non
      exact eb_nil
      refine eb_one ?_
      refine es_ret ?_
      refine ee_ix ?_ ?_
      refine ee_ix ?_ ?_
      refine ee_ix ?_ ?_
      exact ee_var (pv 0)
      exact ee_int
      exact ee_var (pv 2)
      exact ee_int) CFLo.ok_hand_at, gl, F.kp, F.bindsN (fun _ _ _ _ _ _ us hl => match us, hl with | [_, _], _ => rfl)⟩
theorem has_gcd {a : Addr} {fd : FuncData} (F : FunD K "gcd" "gcd" (defArgs st_gcd) (defBody st_gcd) (defScope st_gcd) [] [] a fd) (gl : mg "gcd" = some (.ref a))  : Has P w K mg base 1 "gcd" CFRb.S_gcd :=
  ⟨a, fd, P_gcd, fn0 (k := 0) (L := CFRb.L_gcd) (ww := CFRb.w_gcd) F sc_gcd rfl CFRb.len_gcd (by
      intro cdv A outer s H E hr g hgL
      unfold CFRb.w_gcd
      refine eb_cons ?_ ?_
      refine es_while PassesOwn.never ?_ ?_
      refine et_gt ?_ ?_
      exact ee_var (pv 1)
      exact ee_int
      refine eb_one ?_
      refine es_par (i := 0) (j := 1) rfl sc_gcd.nd rfl rfl (by decide) rfl rfl ?_ (by rfl)
      refine ea_cons ?_ ?_
      exact ee_var (pv 1)
      refine ea_cons ?_ ?_
      refine ee_mod ?_ ?_
      exact ee_var (pv 0)
      exact ee_var (pv 1)
      exact ea_nil
      refine eb_one ?_
      refine es_ret ?_
      exact ee_var (pv 0)) CFRb.ok_gcd, gl, F.kp, F.bindsN (fun _ _ _ _ _ _ us hl => match us, hl with | [_, _], _ => rfl)⟩
theorem has_inverse {a : Addr} {fd : FuncData} (F : FunD K "inverse" "inverse" (defArgs st_inverse) (defBody st_inverse) (defScope st_inverse) [] [] a fd) (gl : mg "inverse" = some (.ref a))  : Has P w K mg base 1 "inverse" CFRb.S_inverse :=
  ⟨a, fd, P_inverse, fn0 (k := 0) (L := CFRb.L_inverse) (ww := CFRb.w_inverse) F sc_inverse rfl CFRb.len_inverse (by
      intro cdv A outer s H E hr g hgL
      unfold CFRb.w_inverse
      refine eb_cons ?_ ?_
      refine es_par (i := 2) (j := 3) rfl sc_inverse.nd rfl rfl (by decide) rfl rfl ?_ (by rfl)
      refine ea_cons ?_ ?_
      exact ee_var (pv 1)
      refine ea_cons ?_ ?_
      refine ee_mod ?_ ?_
      exact ee_var (pv 0)
      exact ee_var (pv 1)
      exact ea_nil
      refine eb_cons ?_ ?_
      refine es_asg ?_ (eg_tup rfl (egs_cons (eg_name (i := 4) sc_inverse.nd rfl (Or.inl rfl)) (egs_cons (eg_name (i := 5) sc_inverse.nd rfl (Or.inl rfl)) egs_nil)))
      refine ee_tup ?_
      refine ea_cons ?_ ?_
      exact ee_int
      refine ea_cons ?_ ?_
      exact ee_int
      exact ea_nil
      refine eb_cons ?_ ?_
      refine es_while PassesOwn.never ?_ ?_
      refine et_gt ?_ ?_
      exact ee_var (pv 3)
      exact ee_int
      refine eb_cons ?_ ?_
      refine es_setF (i := 6) sc_inverse.nd rfl (Or.inl rfl) ?_
      refine ee_div ?_ ?_
      exact ee_var (pv 2)
      exact ee_var (pv 3)
      refine eb_cons ?_ ?_
      refine es_par (i := 2) (j := 3) rfl sc_inverse.nd rfl rfl (by decide) rfl rfl ?_ (by rfl)
      refine ea_cons ?_ ?_
      exact ee_var (pv 3)
      refine ea_cons ?_ ?_
      refine ee_sub ?_ ?_
      exact ee_var (pv 2)
      refine ee_mul ?_ ?_
      exact ee_var (pv 6)
      exact ee_var (pv 3)
      exact ea_nil
      refine eb_one ?_
      refine es_par (i := 4) (j := 5) rfl sc_inverse.nd rfl rfl (by decide) rfl rfl ?_ (by rfl)
      refine ea_cons ?_ ?_
      exact ee_var (pv 5)
      refine ea_cons ?_ ?_
      refine ee_sub ?_ ?_
      exact ee_var (pv 4)
      refine ee_mul ?_ ?_
      exact ee_var (pv 6)
      exact ee_var (pv 5)
      exact ea_nil
      refine eb_one ?_
      refine es_ret ?_
      refine ee_mod ?_ ?_
      exact ee_var (pv 4)
      exact ee_var (pv 1)) CFRb.ok_inverse, gl, F.kp, F.bindsN (fun _ _ _ _ _ _ us hl => match us, hl with | [_, _], _ => rfl)⟩
theorem has_agree {a : Addr} {fd : FuncData} (F : FunD K "agree" "agree" (defArgs st_agree) (defBody st_agree) (defScope st_agree) [] [] a fd) (gl : mg "agree" = some (.ref a)) (h_gcd : Has P w K mg base 1 "gcd" CFRb.S_gcd) : Has P w K mg base 2 "agree" CFRb.S_agree :=
  ⟨a, fd, P_agree, fn0 (k := 1) (L := CFRb.L_agree) (ww := CFRb.w_agree) F sc_agree rfl CFRb.len_agree (by
      intro cdv A outer s H E hr g hgL
      unfold CFRb.w_agree
      refine eb_one ?_
      refine es_ret ?_
      refine ee_eq hr.units ?_ ?_
      refine ee_mod ?_ ?_
      refine ee_sub ?_ ?_
      refine ee_ix ?_ ?_
      exact ee_var (pv 0)
      exact ee_int
      refine ee_ix ?_ ?_
      exact ee_var (pv 1)
      exact ee_int
      refine ee_has h_gcd (hr.mono (by decide)) (by rfl) ?_
      refine ea_cons ?_ ?_
      refine ee_ix ?_ ?_
      exact ee_var (pv 0)
      exact ee_int
      refine ea_cons ?_ ?_
      refine ee_ix ?_ ?_
      exact ee_var (pv 1)
      exact ee_int
      exact ea_nil
      exact ee_int) CFRb.ok_agree, gl, F.kp, F.bindsN (fun _ _ _ _ _ _ us hl => match us, hl with | [_, _], _ => rfl)⟩
theorem has_clash_of {a : Addr} {fd : FuncData} (F : FunD K "clash_of" "clash_of" (defArgs st_clash_of) (defBody st_clash_of) (defScope st_clash_of) [] [] a fd) (gl : mg "clash_of" = some (.ref a)) (h_agree : Has P w K mg base 2 "agree" CFRb.S_agree) : Has P w K mg base 3 "clash_of" CFRb.S_clash_of :=
  ⟨a, fd, P_clash_of, fn0 (k := 2) (L := CFRb.L_clash_of) (ww := CFRb.w_clash_of) F sc_clash_of rfl CFRb.len_clash_of (by
      intro cdv A outer s H E hr g hgL
      unfold CFRb.w_clash_of
      refine eb_cons ?_ ?_
      refine es_setF (i := 2) sc_clash_of.nd rfl (Or.inl rfl) ?_
      exact ee_int
      refine eb_cons ?_ ?_
      refine es_while PassesOwn.never ?_ ?_
      refine et_val ?_
      refine ee_has h_agree (hr.mono (by decide)) (by rfl) ?_
      refine ea_cons ?_ ?_
      refine ee_ix ?_ ?_
      exact ee_var (pv 0)
      exact ee_var (pv 2)
      refine ea_cons ?_ ?_
      refine ee_ix ?_ ?_
      exact ee_var (pv 0)
      exact ee_var (pv 1)
      exact ea_nil
      refine eb_one ?_
      refine es_augAdd (i := 2) sc_clash_of.nd rfl (Or.inl rfl) ?_
      exact ee_int
      refine eb_one ?_
      refine es_ret ?_
      refine ee_tup ?_
      refine ea_cons ?_ ?_
      exact ee_str
      refine ea_cons ?_ ?_
      exact ee_var (pv 2)
      refine ea_cons ?_ ?_
      exact ee_var (pv 1)
      exact ea_nil) CFRb.ok_clash_of, gl, F.kp, F.bindsN (fun _ _ _ _ _ _ us hl => match us, hl with | [_, _], _ => rfl)⟩
theorem has_joined {a : Addr} {fd : FuncData} (F : FunD K "joined" "joined" (defArgs st_joined) (defBody st_joined) (defScope st_joined) [] [] a fd) (gl : mg "joined" = some (.ref a)) (m_enumerate : mg "enumerate" = none) (h_agree : Has P w K mg base 2 "agree" CFRb.S_agree) (h_clash_of : Has P w K mg base 3 "clash_of" CFRb.S_clash_of) (h_gcd : Has P w K mg base 1 "gcd" CFRb.S_gcd) (h_inverse : Has P w K mg base 1 "inverse" CFRb.S_inverse) : Has P w K mg base 4 "joined" CFRb.S_joined :=
  ⟨a, fd, P_joined, fn0 (k := 3) (L := CFRb.L_joined) (ww := CFRb.w_joined) F sc_joined rfl CFRb.len_joined (by
      intro cdv A outer s H E hr g hgL
      unfold CFRb.w_joined
      refine eb_cons ?_ ?_
      refine es_asg ?_ (eg_tup rfl (egs_cons (eg_name (i := 1) sc_joined.nd rfl (Or.inl rfl)) (egs_cons (eg_name (i := 2) sc_joined.nd rfl (Or.inl rfl)) egs_nil)))
      refine ee_tup ?_
      refine ea_cons ?_ ?_
      exact ee_int
      refine ea_cons ?_ ?_
      exact ee_int
      exact ea_nil
      refine eb_cons ?_ ?_
      refine es_for PassesOwn.never rfl ?_ (eg_tup rfl (egs_cons (eg_name (i := 3) sc_joined.nd rfl (Or.inl rfl)) (egs_cons (eg_tup rfl (egs_cons (eg_name (i := 4) sc_joined.nd rfl (Or.inl rfl)) (egs_cons (eg_name (i := 5) sc_joined.nd rfl (Or.inl rfl)) egs_nil))) egs_nil))) ?_
      refine ei_enumerate (by rfl) m_enumerate ?_
      refine ea_cons ?_ ?_
      exact ee_var (pv 0)
      exact ea_nil
      refine eb_cons ?_ ?_
      refine es_if ?_ ?_ ?_
      refine et_not ?_
      refine et_val ?_
      refine ee_has h_agree (hr.mono (by decide)) (by rfl) ?_
      refine ea_cons ?_ ?_
      refine ee_tup ?_
      refine ea_cons ?_ ?_
      exact ee_var (pv 1)
      refine ea_cons ?_ ?_
      exact ee_var (pv 2)
      exact ea_nil
      refine ea_cons ?_ ?_
      refine ee_tup ?_
      refine ea_cons ?_ ?_
      exact ee_var (pv 4)
      refine ea_cons ?_ ?_
      exact ee_var (pv 5)
      exact ea_nil
      exact ea_nil
      refine eb_one ?_
      refine es_ret ?_
      refine ee_has h_clash_of (hr.mono (by decide)) (by rfl) ?_
      refine ea_cons ?_ ?_
      exact ee_var (pv 0)
      refine ea_cons ?_ ?_
      exact ee_var (pv 3)
      exact ea_nil
      exact eb_nil
      refine eb_cons ?_ ?_
      refine es_setF (i := 6) sc_joined.nd rfl (Or.inl rfl) ?_
      refine ee_has h_gcd (hr.mono (by decide)) (by rfl) ?_
      refine ea_cons ?_ ?_
      exact ee_var (pv 2)
      refine ea_cons ?_ ?_
      exact ee_var (pv 5)
      exact ea_nil
      refine eb_cons ?_ ?_
      refine es_setF (i := 7) sc_joined.nd rfl (Or.inl rfl) ?_
      refine ee_div ?_ ?_
      exact ee_var (pv 5)
      exact ee_var (pv 6)
      refine eb_cons ?_ ?_
      refine es_setF (i := 8) sc_joined.nd rfl (Or.inl rfl) ?_
      refine ee_mod ?_ ?_
      refine ee_mul ?_ ?_
      refine ee_div ?_ ?_
      refine ee_sub ?_ ?_
      exact ee_var (pv 4)
      exact ee_var (pv 1)
      exact ee_var (pv 6)
      refine ee_has h_inverse (hr.mono (by decide)) (by rfl) ?_
      refine ea_cons ?_ ?_
      refine ee_div ?_ ?_
      exact ee_var (pv 2)
      exact ee_var (pv 6)
      refine ea_cons ?_ ?_
      exact ee_var (pv 7)
      exact ea_nil
      exact ee_var (pv 7)
      refine eb_one ?_
      refine es_par (i := 1) (j := 2) rfl sc_joined.nd rfl rfl (by decide) rfl rfl ?_ (by rfl)
      refine ea_cons ?_ ?_
      refine ee_add ?_ ?_
      exact ee_var (pv 1)
      refine ee_mul ?_ ?_
      exact ee_var (pv 2)
      exact ee_var (pv 8)
      refine ea_cons ?_ ?_
      refine ee_mul ?_ ?_
      exact ee_var (pv 2)
      exact ee_var (pv 7)
      exact ea_nil
      refine eb_one ?_
      refine es_ret ?_
      refine ee_tup ?_
      refine ea_cons ?_ ?_
      exact ee_str
      refine ea_cons ?_ ?_
      exact ee_var (pv 1)
      refine ea_cons ?_ ?_
      exact ee_var (pv 2)
      exact ea_nil) CFRb.ok_joined, gl, F.kp, F.bindsN (fun _ _ _ _ _ _ us hl => match us, hl with | [_], _ => rfl)⟩
theorem has_cuts_of {a : Addr} {fd : FuncData} (F : FunD K "cuts_of" "cuts_of" (defArgs st_cuts_of) (defBody st_cuts_of) (defScope st_cuts_of) [] [] a fd) (gl : mg "cuts_of" = some (.ref a)) (c_DAY : ∃ t, mg "DAY" = some (.int 1440 t)) (m_sorted : mg "sorted" = none) (m_set : mg "set" = none) : Has P w K mg base 1 "cuts_of" CFLo.S_cuts_of :=
  ⟨a, fd, P_cuts_of, fn0 (k := 0) (L := CFLo.L_cuts_of) (ww := CFLo.w_cuts_of) F sc_cuts_of rfl CFLo.len_cuts_of (by
      intro cdv A outer s H E hr g hgL
      unfold CFLo.w_cuts_of
      refine eb_cons ?_ ?_
      refine es_set (i := 1) sc_cuts_of.nd rfl (Or.inl rfl) ?_
      refine ee_lst ?_
      refine ea_cons ?_ ?_
      exact ee_int
      refine ea_cons ?_ ?_
      exact ee_gint (by rfl) c_DAY.choose_spec
      exact ea_nil
      refine eb_cons ?_ ?_
      refine es_for PassesOwn.never rfl ?_ (eg_tup rfl (egs_cons (eg_name (i := 2) sc_cuts_of.nd rfl (Or.inl rfl)) (egs_cons (eg_name (i := 3) sc_cuts_of.nd rfl (Or.inl rfl)) (egs_cons (eg_name (i := 4) sc_cuts_of.nd rfl (Or.inl rfl)) (egs_cons (eg_name (i := 5) sc_cuts_of.nd rfl (Or.inl rfl)) egs_nil))))) ?_
      refine ei_seq ?_
      exact ee_var (pv 0)
      refine eb_one ?_
      refine es_for PassesOwn.never rfl ?_ (eg_tup rfl (egs_cons (eg_name (i := 6) sc_cuts_of.nd rfl (Or.inl rfl)) (egs_cons (eg_name (i := 7) sc_cuts_of.nd rfl (Or.inl rfl)) (egs_cons (eg_name (i := 8) sc_cuts_of.nd rfl (Or.inl rfl)) egs_nil)))) ?_
      refine ei_seq ?_
      exact ee_var (pv 5)
      refine eb_cons ?_ ?_
      refine es_expr ?_
      refine ee_app (i := 1) (lt_ hgL rfl) (pv 1) ?_
      refine ee_mod ?_ ?_
      refine ee_add ?_ ?_
      exact ee_var (pv 3)
      exact ee_var (pv 6)
      exact ee_gint (by rfl) c_DAY.choose_spec
      refine eb_one ?_
      refine es_expr ?_
      refine ee_app (i := 1) (lt_ hgL rfl) (pv 1) ?_
      refine ee_mod ?_ ?_
      refine ee_add ?_ ?_
      exact ee_var (pv 3)
      exact ee_var (pv 7)
      exact ee_gint (by rfl) c_DAY.choose_spec
      refine eb_one ?_
      refine es_ret ?_
      refine ee_sortSet rfl (by rfl) m_sorted (by rfl) m_set ?_
      exact ee_ln (i := 1) (lt_ hgL rfl) (pv 1)) CFLo.ok_cuts_of, gl, F.kp, F.bindsN (fun _ _ _ _ _ _ us hl => match us, hl with | [_], _ => rfl)⟩
theorem has_rests_of {a : Addr} {fd : FuncData} (F : FunD K "rests_of" "rests_of" (defArgs st_rests_of) (defBody st_rests_of) (defScope st_rests_of) [] [] a fd) (gl : mg "rests_of" = some (.ref a)) (m_range : mg "range" = none) (h_hand_at : Has P w K mg base 3 "hand_at" CFLo.S_hand_at) (c_DAY : ∃ t, mg "DAY" = some (.int 1440 t)) : Has P w K mg base 4 "rests_of" CFLo.S_rests_of :=
  ⟨a, fd, P_rests_of, fn0 (k := 3) (L := CFLo.L_rests_of) (ww := CFLo.w_rests_of) F sc_rests_of rfl CFLo.len_rests_of (by
      intro cdv A outer s H E hr g hgL
      unfold CFLo.w_rests_of
      refine eb_one ?_
      refine es_ret ?_
      refine ee_lc (own := [("rest", 3)]) rfl sc_rests_of.nd (lf_ hgL rfl) ?_ (blkOk_by (own := [("rest", 3)]) (N := N_rests_of) (sc := defScope st_rests_of) (by decide +kernel)) (fun _ _ _ _ _ => eg_name (i := 3) sc_rests_of.nd rfl (Or.inl rfl)) (fun _ _ _ _ _ => ets_nil) (fun _ _ _ _ _ => ee_has h_hand_at (hr.mono (by decide)) (by rfl) (ea_cons (ee_var (pv 0)) (ea_cons (ee_add (ee_mul (ee_gint (by rfl) c_DAY.choose_spec) (ee_var (pv 3))) (ee_var (pv 1))) ea_nil)))
      refine ei_range1 (by rfl) m_range ?_
      refine ea_cons ?_ ?_
      refine ee_ix ?_ ?_
      exact ee_var (pv 0)
      exact ee_int
      exact ea_nil) CFLo.ok_rests_of, gl, F.kp, F.bindsN (fun _ _ _ _ _ _ us hl => match us, hl with | [_, _], _ => rfl)⟩
theorem has_longer {a : Addr} {fd : FuncData} (F : FunD K "longer" "longer" (defArgs st_longer) (defBody st_longer) (defScope st_longer) [] [] a fd) (gl : mg "longer" = some (.ref a)) (h_gcd : Has P w K mg base 1 "gcd" CFRb.S_gcd) (m_len : mg "len" = none) (m_range : mg "range" = none) (h_joined : Has P w K mg base 4 "joined" CFRb.S_joined) : Has P w K mg base 5 "longer" CFLo.S_longer :=
  ⟨a, fd, P_longer, fn0 (k := 4) (L := CFLo.L_longer) (ww := CFLo.w_longer) F sc_longer rfl CFLo.len_longer (by
      intro cdv A outer s H E hr g hgL
      unfold CFLo.w_longer
      refine eb_cons ?_ ?_
      refine es_asg ?_ (eg_tup rfl (egs_cons (eg_name (i := 2) sc_longer.nd rfl (Or.inl rfl)) (egs_cons (eg_name (i := 3) sc_longer.nd rfl (Or.inl rfl)) (egs_cons (eg_name (i := 4) sc_longer.nd rfl (Or.inl rfl)) egs_nil))))
      exact ee_var (pv 0)
      refine eb_cons ?_ ?_
      refine es_setF (i := 5) sc_longer.nd rfl (Or.inl rfl) ?_
      refine ee_has h_gcd (hr.mono (by decide)) (by rfl) ?_
      refine ea_cons ?_ ?_
      exact ee_var (pv 4)
      refine ea_cons ?_ ?_
      refine ee_len (by rfl) m_len ?_
      refine ea_cons ?_ ?_
      exact ee_var (pv 1)
      exact ea_nil
      exact ea_nil
      refine eb_cons ?_ ?_
      refine es_set (i := 6) sc_longer.nd rfl (Or.inl rfl) ?_
      refine ee_lst ?_
      exact ea_nil
      refine eb_cons ?_ ?_
      refine es_for PassesOwn.never rfl ?_ (eg_name (i := 7) sc_longer.nd rfl (Or.inl rfl)) ?_
      refine ei_range3 (by rfl) m_range ?_
      refine ea_cons ?_ ?_
      refine ee_mod ?_ ?_
      exact ee_var (pv 3)
      exact ee_var (pv 5)
      refine ea_cons ?_ ?_
      refine ee_len (by rfl) m_len ?_
      refine ea_cons ?_ ?_
      exact ee_var (pv 1)
      exact ea_nil
      refine ea_cons ?_ ?_
      exact ee_var (pv 5)
      exact ea_nil
      refine eb_cons ?_ ?_
      refine es_setF (i := 8) sc_longer.nd rfl (Or.inl rfl) ?_
      refine ee_has h_joined (hr.mono (by decide)) (by rfl) ?_
      refine ea_cons ?_ ?_
      refine ee_tup ?_
      refine ea_cons ?_ ?_
      refine ee_tup ?_
      refine ea_cons ?_ ?_
      exact ee_var (pv 3)
      refine ea_cons ?_ ?_
      exact ee_var (pv 4)
      exact ea_nil
      refine ea_cons ?_ ?_
      refine ee_tup ?_
      refine ea_cons ?_ ?_
      exact ee_var (pv 7)
      refine ea_cons ?_ ?_
      refine ee_len (by rfl) m_len ?_
      refine ea_cons ?_ ?_
      exact ee_var (pv 1)
      exact ea_nil
      exact ea_nil
      exact ea_nil
      exact ea_nil
      refine eb_one ?_
      refine es_expr ?_
      refine ee_app (i := 6) (lt_ hgL rfl) (pv 6) ?_
      refine ee_tup ?_
      refine ea_cons ?_ ?_
      refine ee_plus hr.units ?_ ?_
      exact ee_var (pv 2)
      refine ee_tup ?_
      refine ea_cons ?_ ?_
      exact ee_var (pv 7)
      exact ea_nil
      refine ea_cons ?_ ?_
      refine ee_ix ?_ ?_
      exact ee_var (pv 8)
      exact ee_int
      refine ea_cons ?_ ?_
      refine ee_ix ?_ ?_
      exact ee_var (pv 8)
      exact ee_int
      refine ea_cons ?_ ?_
      refine ee_ix ?_ ?_
      exact ee_var (pv 1)
      exact ee_var (pv 7)
      exact ea_nil
      refine eb_one ?_
      exact es_retO (i := 6) (lt_ hgL rfl) (pv 6)) CFLo.ok_longer, gl, F.kp, F.bindsN (fun _ _ _ _ _ _ us hl => match us, hl with | [_, _], _ => rfl)⟩
theorem has_in_piece {a : Addr} {fd : FuncData} (F : FunD K "in_piece" "in_piece" (defArgs st_in_piece) (defBody st_in_piece) (defScope st_in_piece) [] [] a fd) (gl : mg "in_piece" = some (.ref a)) (h_rests_of : Has P w K mg base 4 "rests_of" CFLo.S_rests_of) (h_longer : Has P w K mg base 5 "longer" CFLo.S_longer) (m_len : mg "len" = none) (x_TooMany : ExcG K mg "TooMany") (m_sorted : mg "sorted" = none) : Has P w K mg base 6 "in_piece" CFLo.S_in_piece :=
  ⟨a, fd, P_in_piece, fnX (k := 5) (L := CFLo.L_in_piece) (ww := CFLo.w_in_piece) F sc_in_piece rfl CFLo.len_in_piece (by
      intro cdv A outer s H E hr g hgL
      refine eb_tk rfl rfl rfl rfl fun tk => ?_
      unfold CFLo.w_in_piece
      refine eb_cons ?_ ?_
      refine es_parO (oi := false) (oj := true) (i := 3) (j := 4) rfl sc_in_piece.nd rfl rfl (by decide) rfl rfl ?_ (by rfl)
      refine ea_cons ?_ ?_
      refine ee_lst ?_
      refine ea_cons ?_ ?_
      refine ee_tup ?_
      refine ea_cons ?_ ?_
      refine ee_tup ?_
      exact ea_nil
      refine ea_cons ?_ ?_
      exact ee_int
      refine ea_cons ?_ ?_
      exact ee_int
      exact ea_nil
      exact ea_nil
      refine ea_cons ?_ ?_
      refine ee_lst ?_
      exact ea_nil
      exact ea_nil
      refine eb_cons ?_ ?_
      refine es_for (passes_of rfl) rfl ?_ (eg_name (i := 5) sc_in_piece.nd rfl (Or.inl rfl)) ?_
      refine ei_seq ?_
      exact ee_var (pv 0)
      refine eb_cons ?_ ?_
      refine es_setF (i := 6) sc_in_piece.nd rfl (Or.inl rfl) ?_
      refine ee_hasX h_rests_of (hr.mono (by decide)) (by rfl) tk ?_
      refine ea_cons ?_ ?_
      exact ee_var (pv 5)
      refine ea_cons ?_ ?_
      exact ee_var (pv 1)
      exact ea_nil
      refine eb_cons ?_ ?_
      refine es_set (i := 7) sc_in_piece.nd rfl (Or.inl rfl) ?_
      refine ee_lst ?_
      exact ea_nil
      refine eb_cons ?_ ?_
      refine es_for (passes_of rfl) rfl ?_ (eg_name (i := 8) sc_in_piece.nd rfl (Or.inl rfl)) ?_
      refine ei_seq ?_
      exact ee_var (pv 3)
      refine eb_cons ?_ ?_
      refine es_for (passes_of rfl) rfl ?_ (eg_tup rfl (egs_cons (eg_name (i := 9) sc_in_piece.nd rfl (Or.inl rfl)) (egs_cons (eg_name (i := 10) sc_in_piece.nd rfl (Or.inl rfl)) (egs_cons (eg_name (i := 11) sc_in_piece.nd rfl (Or.inl rfl)) (egs_cons (eg_name (i := 12) sc_in_piece.nd rfl (Or.inl rfl)) egs_nil))))) ?_
      refine ei_seq ?_
      refine ee_hasX h_longer (hr.mono (by decide)) (by rfl) tk ?_
      refine ea_cons ?_ ?_
      exact ee_var (pv 8)
      refine ea_cons ?_ ?_
      exact ee_var (pv 6)
      exact ea_nil
      refine eb_one ?_
      refine es_if ?_ ?_ ?_
      refine et_isN ?_
      exact ee_var (pv 12)
      refine eb_one ?_
      refine es_expr ?_
      refine ee_app (i := 7) (lt_ hgL rfl) (pv 7) ?_
      refine ee_tup ?_
      refine ea_cons ?_ ?_
      exact ee_var (pv 9)
      refine ea_cons ?_ ?_
      exact ee_var (pv 10)
      refine ea_cons ?_ ?_
      exact ee_var (pv 11)
      exact ea_nil
      refine eb_one ?_
      refine es_expr ?_
      refine ee_app (i := 4) (lt_ hgL rfl) (pv 4) ?_
      refine ee_tup ?_
      refine ea_cons ?_ ?_
      exact ee_var (pv 9)
      refine ea_cons ?_ ?_
      exact ee_var (pv 12)
      exact ea_nil
      refine eb_one ?_
      refine es_if ?_ ?_ ?_
      refine et_gt ?_ ?_
      refine ee_add ?_ ?_
      refine ee_len (by rfl) m_len ?_
      refine ea_cons ?_ ?_
      exact ee_ln (i := 4) (lt_ hgL rfl) (pv 4)
      exact ea_nil
      refine ee_len (by rfl) m_len ?_
      refine ea_cons ?_ ?_
      exact ee_ln (i := 7) (lt_ hgL rfl) (pv 7)
      exact ea_nil
      exact ee_var (pv 2)
      refine eb_one ?_
      exact es_raise rfl tk x_TooMany (by rfl)
      exact eb_nil
      refine eb_one ?_
      refine es_setF (i := 3) sc_in_piece.nd rfl (Or.inl rfl) ?_
      exact ee_frz (i := 7) (lt_ hgL rfl) (pv 7)
      refine eb_one ?_
      refine es_ret ?_
      refine ee_sortF (units70 hr) (by rfl) m_sorted ?_
      refine ea_cons ?_ ?_
      refine ee_cat ?_ ?_
      exact ee_ln (i := 4) (lt_ hgL rfl) (pv 4)
      refine ee_lc (own := [("rests", 9), ("rest", 10), ("by", 11)]) rfl sc_in_piece.nd (lf_ hgL rfl) ?_ (blkOk_by (own := [("rests", 9), ("rest", 10), ("by", 11)]) (N := N_in_piece) (sc := defScope st_in_piece) (by decide +kernel)) (fun _ _ _ _ _ => eg_tup rfl (egs_cons (eg_name (i := 9) sc_in_piece.nd rfl (Or.inl rfl)) (egs_cons (eg_name (i := 10) sc_in_piece.nd rfl (Or.inl rfl)) (egs_cons (eg_name (i := 11) sc_in_piece.nd rfl (Or.inl rfl)) egs_nil)))) (fun _ _ _ _ _ => ets_nil) (fun _ _ _ _ _ => ee_tup (ea_cons (ee_var (pv 9)) (ea_cons ee_non ea_nil)))
      refine ei_seq ?_
      exact ee_var (pv 3)
      exact ea_nil) CFLo.ok_in_piece, gl, F.kp, F.bindsN (fun _ _ _ _ _ _ us hl => match us, hl with | [_, _, _], _ => rfl)⟩
theorem has_cells {a : Addr} {fd : FuncData} (F : FunD K "cells" "cells" (defArgs st_cells) (defBody st_cells) (defScope st_cells) [] [] a fd) (gl : mg "cells" = some (.ref a)) (m_zip : mg "zip" = none) (h_in_piece : Has P w K mg base 6 "in_piece" CFLo.S_in_piece) (c_MOST_LOTS : ∃ t, mg "MOST_LOTS" = some (.int 2000 t)) (m_len : mg "len" = none) (m_tuple : mg "tuple" = none) : Has P w K mg base 7 "cells" CFLo.S_cells :=
  ⟨a, fd, P_cells, fnX (k := 6) (L := CFLo.L_cells) (ww := CFLo.w_cells) F sc_cells rfl CFLo.len_cells (by
      intro cdv A outer s H E hr g hgL
      refine eb_tk rfl rfl rfl rfl fun tk => ?_
      unfold CFLo.w_cells
      refine eb_cons ?_ ?_
      refine es_set (i := 2) sc_cells.nd rfl (Or.inl rfl) ?_
      refine ee_lst ?_
      exact ea_nil
      refine eb_cons ?_ ?_
      refine es_for (passes_of rfl) rfl ?_ (eg_tup rfl (egs_cons (eg_name (i := 3) sc_cells.nd rfl (Or.inl rfl)) (egs_cons (eg_name (i := 4) sc_cells.nd rfl (Or.inl rfl)) egs_nil))) ?_
      refine ei_zip (by rfl) m_zip ?_
      refine ea_cons ?_ ?_
      exact ee_var (pv 1)
      refine ea_cons ?_ ?_
      refine ee_sl ?_ ?_ ?_
      exact ee_var (pv 1)
      refine eo_some ?_
      exact ee_int
      exact eo_none
      exact ea_nil
      refine eb_one ?_
      refine es_for (passes_of rfl) rfl ?_ (eg_tup rfl (egs_cons (eg_name (i := 5) sc_cells.nd rfl (Or.inl rfl)) (egs_cons (eg_name (i := 6) sc_cells.nd rfl (Or.inl rfl)) egs_nil))) ?_
      refine ei_seq ?_
      refine ee_hasX h_in_piece (hr.mono (by decide)) (by rfl) tk ?_
      refine ea_cons ?_ ?_
      exact ee_var (pv 0)
      refine ea_cons ?_ ?_
      exact ee_var (pv 3)
      refine ea_cons ?_ ?_
      refine ee_sub ?_ ?_
      exact ee_gint (by rfl) c_MOST_LOTS.choose_spec
      refine ee_len (by rfl) m_len ?_
      refine ea_cons ?_ ?_
      exact ee_ln (i := 2) (lt_ hgL rfl) (pv 2)
      exact ea_nil
      exact ea_nil
      refine eb_one ?_
      refine es_expr ?_
      refine ee_app (i := 2) (lt_ hgL rfl) (pv 2) ?_
      refine ee_tup ?_
      refine ea_cons ?_ ?_
      exact ee_var (pv 3)
      refine ea_cons ?_ ?_
      exact ee_var (pv 4)
      refine ea_cons ?_ ?_
      exact ee_var (pv 5)
      refine ea_cons ?_ ?_
      exact ee_var (pv 6)
      exact ea_nil
      refine eb_one ?_
      refine es_ret ?_
      refine ee_tuple (by rfl) m_tuple ?_
      refine ea_cons ?_ ?_
      exact ee_ln (i := 2) (lt_ hgL rfl) (pv 2)
      exact ea_nil) CFLo.ok_cells, gl, F.kp, F.bindsN (fun _ _ _ _ _ _ us hl => match us, hl with | [_, _], _ => rfl)⟩
theorem has_lots {a : Addr} {fd : FuncData} (F : FunD K "lots" "lots" (defArgs st_lots) (defBody st_lots) (defScope st_lots) [] [] a fd) (gl : mg "lots" = some (.ref a)) (h_cells : Has P w K mg base 7 "cells" CFLo.S_cells) (h_cuts_of : Has P w K mg base 1 "cuts_of" CFLo.S_cuts_of) : Has P w K mg base 8 "lots" CFLo.S_lots :=
  ⟨a, fd, P_lots, fnX (k := 7) (L := CFLo.L_lots) (ww := CFLo.w_lots) F sc_lots rfl CFLo.len_lots (by
      intro cdv A outer s H E hr g hgL
      refine eb_tk rfl rfl rfl rfl fun tk => ?_
      unfold CFLo.w_lots
      refine eb_one ?_
      refine es_ret ?_
      refine ee_hasX h_cells (hr.mono (by decide)) (by rfl) tk ?_
      refine ea_cons ?_ ?_
      exact ee_var (pv 0)
      refine ea_cons ?_ ?_
      refine ee_hasX h_cuts_of (hr.mono (by decide)) (by rfl) tk ?_
      refine ea_cons ?_ ?_
      exact ee_var (pv 0)
      exact ea_nil
      exact ea_nil) CFLo.ok_lots, gl, F.kp, F.bindsN (fun _ _ _ _ _ _ us hl => match us, hl with | [_], _ => rfl)⟩
theorem has_law_hand {a : Addr} {fd : FuncData} (F : FunD K "_law_hand" "_law_hand" (defArgs st_law_hand) (defBody st_law_hand) (defScope st_law_hand) [] [] a fd) (gl : mg "_law_hand" = some (.ref a)) (m_len : mg "len" = none) (m_int : mg "int" = none) : Has P w K mg base 1 "_law_hand" CFH.S_law_hand :=
  ⟨a, fd, P_law_hand, fn0 (k := 0) (L := CFH.L_law_hand) (ww := CFH.w_law_hand) F sc_law_hand rfl CFH.len_law_hand (by
      intro cdv A outer s H E hr g hgL
      unfold CFH.w_law_hand
      refine eb_cons ?_ ?_
      refine es_setF (i := 2) sc_law_hand.nd rfl (Or.inl rfl) ?_
      exact ee_int
      refine eb_cons ?_ ?_
      refine es_if ?_ ?_ ?_
      refine et_lt ?_ ?_
      exact ee_var (pv 1)
      refine ee_len (by rfl) m_len ?_
      refine ea_cons ?_ ?_
      exact ee_var (pv 0)
      exact ea_nil
      refine eb_one ?_
      refine es_setF (i := 2) sc_law_hand.nd rfl (Or.inl rfl) ?_
      refine ee_ix ?_ ?_
      exact ee_var (pv 0)
      exact ee_var (pv 1)
      exact eb_nil
      refine eb_one ?_
      refine es_ret ?_
      refine ee_lst ?_
      refine ea_cons ?_ ?_
      refine ee_mul ?_ ?_
      exact ee_var (pv 2)
      refine ee_int1 (by rfl) m_int ?_
      refine ea_cons ?_ ?_
      refine ee_ge ?_ ?_
      exact ee_var (pv 2)
      refine ee_pow ?_ ?_
      exact ee_int
      exact ee_int
      exact ea_nil
      refine ea_cons ?_ ?_
      refine ee_add ?_ ?_
      refine ee_add ?_ ?_
      refine ee_mod ?_ ?_
      exact ee_var (pv 2)
      exact ee_int
      refine ee_mul ?_ ?_
      exact ee_int
      exact ee_var (pv 1)
      exact ee_int
      refine ea_cons ?_ ?_
      exact ee_int
      exact ea_nil) CFH.ok_law_hand, gl, F.kp, F.bindsN (fun _ _ _ _ _ _ us hl => match us, hl with | [_, _], _ => rfl)⟩
theorem has_law_take {a : Addr} {fd : FuncData} (F : FunD K "_law_take" "_law_take" (defArgs st_law_take) (defBody st_law_take) (defScope st_law_take) [] [] a fd) (gl : mg "_law_take" = some (.ref a))  : Has P w K mg base 1 "_law_take" CFH.S_law_take :=
  ⟨a, fd, P_law_take, fn0 (k := 0) (L := CFH.L_law_take) (ww := CFH.w_law_take) F sc_law_take rfl CFH.len_law_take (by
      intro cdv A outer s H E hr g hgL
      unfold CFH.w_law_take
      refine eb_cons ?_ ?_
      refine es_if ?_ ?_ ?_
      refine et_gt ?_ ?_
      refine ee_ix ?_ ?_
      exact ee_ln (i := 0) (lt_ hgL rfl) (pv 0)
      exact ee_int
      exact ee_int
      refine eb_cons ?_ ?_
      refine es_setF (i := 2) sc_law_take.nd rfl (Or.inl rfl) ?_
      refine ee_mod ?_ ?_
      refine ee_ix ?_ ?_
      exact ee_ln (i := 0) (lt_ hgL rfl) (pv 0)
      exact ee_int
      exact ee_var (pv 1)
      refine eb_cons ?_ ?_
      refine es_setIx (i := 0) (lt_ hgL rfl) (pv 0) ?_ ?_
      refine ee_div ?_ ?_
      refine ee_ix ?_ ?_
      exact ee_ln (i := 0) (lt_ hgL rfl) (pv 0)
      exact ee_int
      exact ee_var (pv 1)
      exact ee_int
      refine eb_one ?_
      refine es_ret ?_
      exact ee_var (pv 2)
      exact eb_nil
      refine eb_cons ?_ ?_
      refine es_setIx (i := 0) (lt_ hgL rfl) (pv 0) ?_ ?_
      refine ee_add ?_ ?_
      refine ee_ix ?_ ?_
      exact ee_ln (i := 0) (lt_ hgL rfl) (pv 0)
      exact ee_int
      exact ee_int
      exact ee_int
      refine eb_cons ?_ ?_
      refine es_setF (i := 3) sc_law_take.nd rfl (Or.inl rfl) ?_
      refine ee_ix ?_ ?_
      exact ee_ln (i := 0) (lt_ hgL rfl) (pv 0)
      exact ee_int
      refine eb_cons ?_ ?_
      refine es_setF (i := 4) sc_law_take.nd rfl (Or.inl rfl) ?_
      refine ee_add ?_ ?_
      refine ee_add ?_ ?_
      exact ee_int
      refine ee_mul ?_ ?_
      refine ee_mul ?_ ?_
      exact ee_int
      exact ee_var (pv 3)
      exact ee_var (pv 3)
      refine ee_mul ?_ ?_
      exact ee_int
      exact ee_var (pv 3)
      refine eb_cons ?_ ?_
      refine es_setF (i := 5) sc_law_take.nd rfl (Or.inl rfl) ?_
      refine ee_mod ?_ ?_
      refine ee_mul ?_ ?_
      refine ee_add ?_ ?_
      refine ee_ix ?_ ?_
      exact ee_ln (i := 0) (lt_ hgL rfl) (pv 0)
      exact ee_int
      refine ee_mul ?_ ?_
      exact ee_int
      exact ee_var (pv 3)
      exact ee_var (pv 4)
      exact ee_int
      refine eb_cons ?_ ?_
      refine es_setF (i := 6) sc_law_take.nd rfl (Or.inl rfl) ?_
      refine ee_add ?_ ?_
      refine ee_add ?_ ?_
      refine ee_mod ?_ ?_
      exact ee_var (pv 5)
      exact ee_int
      refine ee_mul ?_ ?_
      exact ee_var (pv 3)
      exact ee_int
      exact ee_int
      refine eb_cons ?_ ?_
      refine es_setF (i := 5) sc_law_take.nd rfl (Or.inl rfl) ?_
      refine ee_mod ?_ ?_
      refine ee_mul ?_ ?_
      exact ee_var (pv 5)
      exact ee_var (pv 6)
      exact ee_int
      refine eb_one ?_
      refine es_ret ?_
      refine ee_mod ?_ ?_
      refine ee_add ?_ ?_
      refine ee_div ?_ ?_
      exact ee_var (pv 5)
      exact ee_int
      refine ee_div ?_ ?_
      exact ee_var (pv 5)
      exact ee_int
      exact ee_var (pv 1)) CFH.ok_law_take, gl, F.kp, F.bindsN (fun _ _ _ _ _ _ us hl => match us, hl with | [_, _], _ => rfl)⟩
theorem has_law_pick {a : Addr} {fd : FuncData} (F : FunD K "_law_pick" "_law_pick" (defArgs st_law_pick) (defBody st_law_pick) (defScope st_law_pick) [] [] a fd) (gl : mg "_law_pick" = some (.ref a)) (h_law_take : Has P w K mg base 1 "_law_take" CFH.S_law_take) (m_len : mg "len" = none) : Has P w K mg base 2 "_law_pick" CFH.S_law_pick :=
  ⟨a, fd, P_law_pick, fn0 (k := 1) (L := CFH.L_law_pick) (ww := CFH.w_law_pick) F sc_law_pick rfl CFH.len_law_pick (by
      intro cdv A outer s H E hr g hgL
      unfold CFH.w_law_pick
      refine eb_one ?_
      refine es_ret ?_
      refine ee_ix ?_ ?_
      exact ee_var (pv 1)
      refine ee_has h_law_take (hr.mono (by decide)) (by rfl) ?_
      refine ea_cons ?_ ?_
      exact ee_pk (i := 0) (lt_ hgL rfl) (pv 0)
      refine ea_cons ?_ ?_
      refine ee_len (by rfl) m_len ?_
      refine ea_cons ?_ ?_
      exact ee_var (pv 1)
      exact ea_nil
      exact ea_nil) CFH.ok_law_pick, gl, F.kp, F.bindsN (fun _ _ _ _ _ _ us hl => match us, hl with | [_, _], _ => rfl)⟩
theorem has_law_words {a : Addr} {fd : FuncData} (F : FunD K "_law_words" "_law_words" (defArgs st_law_words) (defBody st_law_words) (defScope st_law_words) [] [] a fd) (gl : mg "_law_words" = some (.ref a)) (h_law_pick : Has P w K mg base 2 "_law_pick" CFH.S_law_pick) (h_law_take : Has P w K mg base 1 "_law_take" CFH.S_law_take) (m_len : mg "len" = none) (m_range : mg "range" = none) : Has P w K mg base 3 "_law_words" CFWd.S_law_words :=
  ⟨a, fd, P_law_words, fn0 (k := 2) (L := CFWd.L_law_words) (ww := CFWd.w_law_words) F sc_law_words rfl CFWd.len_law_words (by
      intro cdv A outer s H E hr g hgL
      unfold CFWd.w_law_words
      refine eb_cons ?_ ?_
      refine es_setF (i := 2) sc_law_words.nd rfl (Or.inl rfl) ?_
      exact ee_str
      refine eb_cons ?_ ?_
      refine es_par (i := 3) (j := 4) rfl sc_law_words.nd rfl rfl (by decide) rfl rfl ?_ (by rfl)
      refine ea_cons ?_ ?_
      refine ee_has h_law_take (hr.mono (by decide)) (by rfl) ?_
      refine ea_cons ?_ ?_
      exact ee_pk (i := 0) (lt_ hgL rfl) (pv 0)
      refine ea_cons ?_ ?_
      exact ee_int
      exact ea_nil
      refine ea_cons ?_ ?_
      refine ee_has h_law_pick (hr.mono (by decide)) (by rfl) ?_
      refine ea_cons ?_ ?_
      exact ee_pk (i := 0) (lt_ hgL rfl) (pv 0)
      refine ea_cons ?_ ?_
      refine ee_lst ?_
      refine ea_cons ?_ ?_
      exact ee_int
      refine ea_cons ?_ ?_
      exact ee_int
      refine ea_cons ?_ ?_
      exact ee_int
      refine ea_cons ?_ ?_
      exact ee_int
      refine ea_cons ?_ ?_
      exact ee_int
      refine ea_cons ?_ ?_
      exact ee_int
      exact ea_nil
      exact ea_nil
      exact ea_nil
      refine eb_cons ?_ ?_
      refine es_setF (i := 5) sc_law_words.nd rfl (Or.inl rfl) ?_
      refine ee_mulS ?_ ?_
      refine ee_ix ?_ ?_
      exact ee_var (pv 2)
      refine ee_has h_law_take (hr.mono (by decide)) (by rfl) ?_
      refine ea_cons ?_ ?_
      exact ee_pk (i := 0) (lt_ hgL rfl) (pv 0)
      refine ea_cons ?_ ?_
      exact ee_int
      exact ea_nil
      refine ee_has h_law_pick (hr.mono (by decide)) (by rfl) ?_
      refine ea_cons ?_ ?_
      exact ee_pk (i := 0) (lt_ hgL rfl) (pv 0)
      refine ea_cons ?_ ?_
      refine ee_lst ?_
      refine ea_cons ?_ ?_
      exact ee_int
      refine ea_cons ?_ ?_
      exact ee_int
      refine ea_cons ?_ ?_
      exact ee_int
      refine ea_cons ?_ ?_
      exact ee_int
      refine ea_cons ?_ ?_
      exact ee_int
      exact ea_nil
      exact ea_nil
      refine eb_cons ?_ ?_
      refine es_setF (i := 6) sc_law_words.nd rfl (Or.inl rfl) ?_
      refine ee_has h_law_take (hr.mono (by decide)) (by rfl) ?_
      refine ea_cons ?_ ?_
      exact ee_pk (i := 0) (lt_ hgL rfl) (pv 0)
      refine ea_cons ?_ ?_
      refine ee_add ?_ ?_
      refine ee_len (by rfl) m_len ?_
      refine ea_cons ?_ ?_
      exact ee_var (pv 5)
      exact ea_nil
      exact ee_int
      exact ea_nil
      refine eb_cons ?_ ?_
      refine es_setF (i := 7) sc_law_words.nd rfl (Or.inl rfl) ?_
      refine ee_has h_law_take (hr.mono (by decide)) (by rfl) ?_
      refine ea_cons ?_ ?_
      exact ee_pk (i := 0) (lt_ hgL rfl) (pv 0)
      refine ea_cons ?_ ?_
      exact ee_int
      exact ea_nil
      refine eb_cons ?_ ?_
      refine es_set (i := 8) sc_law_words.nd rfl (Or.inl rfl) ?_
      refine ee_lst ?_
      exact ea_nil
      refine eb_cons ?_ ?_
      refine es_for PassesOwn.never rfl ?_ (eg_name (i := 9) sc_law_words.nd rfl (Or.inl rfl)) ?_
      refine ei_range1 (by rfl) m_range ?_
      refine ea_cons ?_ ?_
      exact ee_var (pv 1)
      exact ea_nil
      refine eb_cons ?_ ?_
      refine es_setF (i := 10) sc_law_words.nd rfl (Or.inl rfl) ?_
      refine ee_sl ?_ ?_ ?_
      exact ee_var (pv 5)
      refine eo_some ?_
      exact ee_var (pv 6)
      exact eo_none
      refine eb_cons ?_ ?_
      refine es_if ?_ ?_ ?_
      refine et_w ?_
      refine ew_and ?_ ?_
      refine et_eq hr.units ?_ ?_
      exact ee_var (pv 7)
      exact ee_int
      refine ew_and1 ?_
      refine et_eq hr.units ?_ ?_
      refine ee_mod ?_ ?_
      exact ee_var (pv 9)
      exact ee_int
      exact ee_int
      refine eb_one ?_
      refine es_setF (i := 10) sc_law_words.nd rfl (Or.inl rfl) ?_
      exact ee_str
      exact eb_nil
      refine eb_cons ?_ ?_
      refine es_setF (i := 11) sc_law_words.nd rfl (Or.inl rfl) ?_
      refine ee_ix ?_ ?_
      exact ee_var (pv 2)
      refine ee_mod ?_ ?_
      refine ee_add ?_ ?_
      exact ee_var (pv 3)
      refine ee_mul ?_ ?_
      exact ee_var (pv 4)
      exact ee_var (pv 9)
      exact ee_int
      refine eb_one ?_
      refine es_expr ?_
      refine ee_app (i := 8) (lt_ hgL rfl) (pv 8) ?_
      refine ee_plus hr.units ?_ ?_
      refine ee_plus hr.units ?_ ?_
      refine ee_sl ?_ ?_ ?_
      exact ee_var (pv 5)
      exact eo_none
      refine eo_some ?_
      exact ee_var (pv 6)
      exact ee_var (pv 11)
      exact ee_var (pv 10)
      refine eb_one ?_
      exact es_retO (i := 8) (lt_ hgL rfl) (pv 8)) CFWd.ok_law_words, gl, F.kp, F.bindsN (fun _ _ _ _ _ _ us hl => match us, hl with | [_, _], _ => rfl)⟩
theorem has_law_minute {a : Addr} {fd : FuncData} (F : FunD K "_law_minute" "_law_minute" (defArgs st_law_minute) (defBody st_law_minute) (defScope st_law_minute) [] [] a fd) (gl : mg "_law_minute" = some (.ref a)) (h_law_take : Has P w K mg base 1 "_law_take" CFH.S_law_take) (h_law_pick : Has P w K mg base 2 "_law_pick" CFH.S_law_pick) : Has P w K mg base 3 "_law_minute" CFLy.S_law_minute :=
  ⟨a, fd, P_law_minute, fn0 (k := 2) (L := CFLy.L_law_minute) (ww := CFLy.w_law_minute) F sc_law_minute rfl CFLy.len_law_minute (by
      intro cdv A outer s H E hr g hgL
      unfold CFLy.w_law_minute
      refine eb_cons ?_ ?_
      refine es_setF (i := 2) sc_law_minute.nd rfl (Or.inl rfl) ?_
      refine ee_has h_law_take (hr.mono (by decide)) (by rfl) ?_
      refine ea_cons ?_ ?_
      exact ee_pk (i := 0) (lt_ hgL rfl) (pv 0)
      refine ea_cons ?_ ?_
      exact ee_int
      exact ea_nil
      refine eb_cons ?_ ?_
      refine es_setF (i := 3) sc_law_minute.nd rfl (Or.inl rfl) ?_
      refine ee_has h_law_take (hr.mono (by decide)) (by rfl) ?_
      refine ea_cons ?_ ?_
      exact ee_pk (i := 0) (lt_ hgL rfl) (pv 0)
      refine ea_cons ?_ ?_
      exact ee_var (pv 1)
      exact ea_nil
      refine eb_cons ?_ ?_
      refine es_if ?_ ?_ ?_
      refine et_eq hr.units ?_ ?_
      exact ee_var (pv 2)
      exact ee_int
      refine eb_one ?_
      refine es_ret ?_
      refine ee_mul ?_ ?_
      exact ee_int
      refine ee_add ?_ ?_
      exact ee_var (pv 3)
      refine ee_has h_law_take (hr.mono (by decide)) (by rfl) ?_
      refine ea_cons ?_ ?_
      exact ee_pk (i := 0) (lt_ hgL rfl) (pv 0)
      refine ea_cons ?_ ?_
      exact ee_int
      exact ea_nil
      exact eb_nil
      refine eb_cons ?_ ?_
      refine es_if ?_ ?_ ?_
      refine et_eq hr.units ?_ ?_
      exact ee_var (pv 2)
      exact ee_int
      refine eb_one ?_
      refine es_ret ?_
      refine ee_add ?_ ?_
      refine ee_mul ?_ ?_
      exact ee_int
      exact ee_var (pv 3)
      refine ee_has h_law_pick (hr.mono (by decide)) (by rfl) ?_
      refine ea_cons ?_ ?_
      exact ee_pk (i := 0) (lt_ hgL rfl) (pv 0)
      refine ea_cons ?_ ?_
      refine ee_lst ?_
      refine ea_cons ?_ ?_
      exact ee_int
      refine ea_cons ?_ ?_
      exact ee_int
      refine ea_cons ?_ ?_
      exact ee_int
      refine ea_cons ?_ ?_
      exact ee_int
      refine ea_cons ?_ ?_
      exact ee_int
      refine ea_cons ?_ ?_
      exact ee_int
      exact ea_nil
      exact ea_nil
      exact eb_nil
      refine eb_one ?_
      refine es_ret ?_
      refine ee_add ?_ ?_
      refine ee_mul ?_ ?_
      exact ee_int
      exact ee_var (pv 3)
      refine ee_has h_law_take (hr.mono (by decide)) (by rfl) ?_
      refine ea_cons ?_ ?_
      exact ee_pk (i := 0) (lt_ hgL rfl) (pv 0)
      refine ea_cons ?_ ?_
      exact ee_int
      exact ea_nil) CFLy.ok_law_minute, gl, F.kp, F.bindsN (fun _ _ _ _ _ _ us hl => match us, hl with | [_, _], _ => rfl)⟩
theorem has_law_layer {a : Addr} {fd : FuncData} (F : FunD K "_law_layer" "_law_layer" (defArgs st_law_layer) (defBody st_law_layer) (defScope st_law_layer) [] [] a fd) (gl : mg "_law_layer" = some (.ref a)) (h_law_take : Has P w K mg base 1 "_law_take" CFH.S_law_take) (h_law_pick : Has P w K mg base 2 "_law_pick" CFH.S_law_pick) (m_sorted : mg "sorted" = none) (m_set : mg "set" = none) (m_range : mg "range" = none) (h_law_minute : Has P w K mg base 3 "_law_minute" CFLy.S_law_minute) (m_len : mg "len" = none) (m_tuple : mg "tuple" = none) : Has P w K mg base 4 "_law_layer" CFLy.S_law_layer :=
  ⟨a, fd, P_law_layer, fn0 (k := 3) (L := CFLy.L_law_layer) (ww := CFLy.w_law_layer) F sc_law_layer rfl CFLy.len_law_layer (by
      intro cdv A outer s H E hr g hgL
      unfold CFLy.w_law_layer
      refine eb_cons ?_ ?_
      refine es_setF (i := 5) sc_law_layer.nd rfl (Or.inl rfl) ?_
      refine ee_mul ?_ ?_
      refine ee_has h_law_take (hr.mono (by decide)) (by rfl) ?_
      refine ea_cons ?_ ?_
      exact ee_pk (i := 0) (lt_ hgL rfl) (pv 0)
      refine ea_cons ?_ ?_
      refine ee_mul ?_ ?_
      exact ee_int
      exact ee_var (pv 3)
      exact ea_nil
      refine ee_has h_law_take (hr.mono (by decide)) (by rfl) ?_
      refine ea_cons ?_ ?_
      exact ee_pk (i := 0) (lt_ hgL rfl) (pv 0)
      refine ea_cons ?_ ?_
      exact ee_int
      exact ea_nil
      refine eb_cons ?_ ?_
      refine es_if ?_ ?_ ?_
      refine et_eq hr.units ?_ ?_
      refine ee_has h_law_take (hr.mono (by decide)) (by rfl) ?_
      refine ea_cons ?_ ?_
      exact ee_pk (i := 0) (lt_ hgL rfl) (pv 0)
      refine ea_cons ?_ ?_
      exact ee_int
      exact ea_nil
      exact ee_int
      refine eb_one ?_
      refine es_ret ?_
      refine ee_tup ?_
      refine ea_cons ?_ ?_
      exact ee_var (pv 1)
      refine ea_cons ?_ ?_
      exact ee_var (pv 5)
      refine ea_cons ?_ ?_
      exact ee_var (pv 3)
      refine ea_cons ?_ ?_
      refine ee_tup ?_
      refine ea_cons ?_ ?_
      refine ee_tup ?_
      refine ea_cons ?_ ?_
      exact ee_int
      refine ea_cons ?_ ?_
      refine ee_mul ?_ ?_
      exact ee_int
      exact ee_var (pv 3)
      refine ea_cons ?_ ?_
      refine ee_has h_law_pick (hr.mono (by decide)) (by rfl) ?_
      refine ea_cons ?_ ?_
      exact ee_pk (i := 0) (lt_ hgL rfl) (pv 0)
      refine ea_cons ?_ ?_
      exact ee_var (pv 2)
      exact ea_nil
      exact ea_nil
      exact ea_nil
      exact ea_nil
      exact eb_nil
      refine eb_cons ?_ ?_
      refine es_setF (i := 7) sc_law_layer.nd rfl (Or.inl rfl) ?_
      refine ee_sortSet rfl (by rfl) m_sorted (by rfl) m_set ?_
      refine ee_lc (own := [("_law_k", 6)]) rfl sc_law_layer.nd (lf_ hgL rfl) ?_ (blkOk_by (own := [("_law_k", 6)]) (N := N_law_layer) (sc := defScope st_law_layer) (by decide +kernel)) (fun _ _ _ _ _ => eg_name (i := 6) sc_law_layer.nd rfl (Or.inl rfl)) (fun _ _ _ _ _ => ets_nil) (fun _ _ _ _ _ => ee_has h_law_minute (hr.mono (by decide)) (by rfl) (ea_cons (ee_pk (i := 0) (lt_ hgL rfl) (pv 0)) (ea_cons (ee_var (pv 3)) ea_nil)))
      refine ei_range1 (by rfl) m_range ?_
      refine ea_cons ?_ ?_
      refine ee_add ?_ ?_
      exact ee_int
      exact ee_var (pv 4)
      exact ea_nil
      refine eb_cons ?_ ?_
      refine es_set (i := 8) sc_law_layer.nd rfl (Or.inl rfl) ?_
      refine ee_lst ?_
      exact ea_nil
      refine eb_cons ?_ ?_
      refine es_for PassesOwn.never rfl ?_ (eg_name (i := 6) sc_law_layer.nd rfl (Or.inl rfl)) ?_
      refine ei_range1 (by rfl) m_range ?_
      refine ea_cons ?_ ?_
      refine ee_sub ?_ ?_
      refine ee_len (by rfl) m_len ?_
      refine ea_cons ?_ ?_
      exact ee_var (pv 7)
      exact ea_nil
      exact ee_int
      exact ea_nil
      refine eb_one ?_
      refine es_if ?_ ?_ ?_
      refine et_gt ?_ ?_
      refine ee_has h_law_take (hr.mono (by decide)) (by rfl) ?_
      refine ea_cons ?_ ?_
      exact ee_pk (i := 0) (lt_ hgL rfl) (pv 0)
      refine ea_cons ?_ ?_
      exact ee_int
      exact ea_nil
      exact ee_int
      refine eb_one ?_
      refine es_expr ?_
      refine ee_app (i := 8) (lt_ hgL rfl) (pv 8) ?_
      refine ee_tup ?_
      refine ea_cons ?_ ?_
      refine ee_ix ?_ ?_
      exact ee_var (pv 7)
      exact ee_var (pv 6)
      refine ea_cons ?_ ?_
      refine ee_ix ?_ ?_
      exact ee_var (pv 7)
      refine ee_add ?_ ?_
      exact ee_var (pv 6)
      exact ee_int
      refine ea_cons ?_ ?_
      refine ee_has h_law_pick (hr.mono (by decide)) (by rfl) ?_
      refine ea_cons ?_ ?_
      exact ee_pk (i := 0) (lt_ hgL rfl) (pv 0)
      refine ea_cons ?_ ?_
      exact ee_var (pv 2)
      exact ea_nil
      exact ea_nil
      exact eb_nil
      refine eb_one ?_
      refine es_ret ?_
      refine ee_tup ?_
      refine ea_cons ?_ ?_
      exact ee_var (pv 1)
      refine ea_cons ?_ ?_
      exact ee_var (pv 5)
      refine ea_cons ?_ ?_
      exact ee_var (pv 3)
      refine ea_cons ?_ ?_
      refine ee_tuple (by rfl) m_tuple ?_
      refine ea_cons ?_ ?_
      exact ee_ln (i := 8) (lt_ hgL rfl) (pv 8)
      exact ea_nil
      exact ea_nil) CFLy.ok_law_layer, gl, F.kp, F.bindsN (fun _ _ _ _ _ _ us hl => match us, hl with | [_, _, _, _, _], _ => rfl)⟩
theorem has_law_layers {a : Addr} {fd : FuncData} (F : FunD K "_law_layers" "_law_layers" (defArgs st_law_layers) (defBody st_law_layers) (defScope st_law_layers) [] [] a fd) (gl : mg "_law_layers" = some (.ref a)) (h_law_pick : Has P w K mg base 2 "_law_pick" CFH.S_law_pick) (h_law_words : Has P w K mg base 3 "_law_words" CFWd.S_law_words) (m_int : mg "int" = none) (m_tuple : mg "tuple" = none) (m_range : mg "range" = none) (h_law_layer : Has P w K mg base 4 "_law_layer" CFLy.S_law_layer) : Has P w K mg base 5 "_law_layers" CFLs.S_law_layers :=
  ⟨a, fd, P_law_layers, fn0 (k := 4) (L := CFLs.L_law_layers) (ww := CFLs.w_law_layers) F sc_law_layers rfl CFLs.len_law_layers (by
      intro cdv A outer s H E hr g hgL
      unfold CFLs.w_law_layers
      refine eb_cons ?_ ?_
      refine es_setF (i := 3) sc_law_layers.nd rfl (Or.inl rfl) ?_
      refine ee_has h_law_pick (hr.mono (by decide)) (by rfl) ?_
      refine ea_cons ?_ ?_
      exact ee_pk (i := 0) (lt_ hgL rfl) (pv 0)
      refine ea_cons ?_ ?_
      refine ee_lst ?_
      refine ea_cons ?_ ?_
      exact ee_int
      refine ea_cons ?_ ?_
      exact ee_int
      refine ea_cons ?_ ?_
      exact ee_int
      refine ea_cons ?_ ?_
      exact ee_int
      refine ea_cons ?_ ?_
      exact ee_int
      refine ea_cons ?_ ?_
      exact ee_int
      exact ea_nil
      exact ea_nil
      refine eb_cons ?_ ?_
      refine es_setF (i := 4) sc_law_layers.nd rfl (Or.inr rfl) ?_
      refine ee_has h_law_words (hr.mono (by decide)) (by rfl) ?_
      refine ea_cons ?_ ?_
      exact ee_pk (i := 0) (lt_ hgL rfl) (pv 0)
      refine ea_cons ?_ ?_
      exact ee_int
      exact ea_nil
      refine eb_cons ?_ ?_
      refine es_setF (i := 5) sc_law_layers.nd rfl (Or.inl rfl) ?_
      refine ee_lst ?_
      refine ea_cons ?_ ?_
      refine ee_lst ?_
      refine ea_cons ?_ ?_
      exact ee_int
      refine ea_cons ?_ ?_
      exact ee_int
      refine ea_cons ?_ ?_
      exact ee_int
      refine ea_cons ?_ ?_
      exact ee_int
      refine ea_cons ?_ ?_
      exact ee_int
      refine ea_cons ?_ ?_
      exact ee_int
      exact ea_nil
      refine ea_cons ?_ ?_
      refine ee_lst ?_
      refine ea_cons ?_ ?_
      exact ee_int
      exact ea_nil
      refine ea_cons ?_ ?_
      refine ee_lst ?_
      refine ea_cons ?_ ?_
      exact ee_int
      refine ea_cons ?_ ?_
      exact ee_int
      exact ea_nil
      refine ea_cons ?_ ?_
      refine ee_lst ?_
      refine ea_cons ?_ ?_
      exact ee_int
      refine ea_cons ?_ ?_
      exact ee_int
      exact ea_nil
      refine ea_cons ?_ ?_
      refine ee_lst ?_
      refine ea_cons ?_ ?_
      exact ee_int
      refine ea_cons ?_ ?_
      exact ee_int
      refine ea_cons ?_ ?_
      exact ee_int
      exact ea_nil
      refine ea_cons ?_ ?_
      refine ee_lst ?_
      refine ea_cons ?_ ?_
      exact ee_int
      refine ea_cons ?_ ?_
      exact ee_int
      exact ea_nil
      exact ea_nil
      refine eb_cons ?_ ?_
      refine es_if ?_ ?_ ?_
      refine et_val ?_
      exact ee_var (pv 2)
      refine eb_one ?_
      refine es_setF (i := 5) sc_law_layers.nd rfl (Or.inl rfl) ?_
      refine ee_lst ?_
      refine ea_cons ?_ ?_
      refine ee_lst ?_
      refine ea_cons ?_ ?_
      exact ee_int
      refine ea_cons ?_ ?_
      exact ee_int
      refine ea_cons ?_ ?_
      exact ee_int
      refine ea_cons ?_ ?_
      exact ee_int
      refine ea_cons ?_ ?_
      exact ee_int
      refine ea_cons ?_ ?_
      exact ee_int
      exact ea_nil
      refine ea_cons ?_ ?_
      refine ee_lst ?_
      refine ea_cons ?_ ?_
      exact ee_int
      refine ea_cons ?_ ?_
      exact ee_int
      refine ea_cons ?_ ?_
      exact ee_int
      exact ea_nil
      refine ea_cons ?_ ?_
      refine ee_lst ?_
      refine ea_cons ?_ ?_
      exact ee_int
      refine ea_cons ?_ ?_
      exact ee_int
      refine ea_cons ?_ ?_
      exact ee_int
      refine ea_cons ?_ ?_
      exact ee_int
      refine ea_cons ?_ ?_
      exact ee_int
      refine ea_cons ?_ ?_
      exact ee_int
      exact ea_nil
      refine ea_cons ?_ ?_
      refine ee_lst ?_
      refine ea_cons ?_ ?_
      exact ee_int
      refine ea_cons ?_ ?_
      exact ee_int
      refine ea_cons ?_ ?_
      exact ee_int
      refine ea_cons ?_ ?_
      exact ee_int
      refine ea_cons ?_ ?_
      exact ee_int
      exact ea_nil
      refine ea_cons ?_ ?_
      refine ee_lst ?_
      refine ea_cons ?_ ?_
      exact ee_int
      refine ea_cons ?_ ?_
      exact ee_int
      exact ea_nil
      refine ea_cons ?_ ?_
      refine ee_lst ?_
      refine ea_cons ?_ ?_
      exact ee_int
      refine ea_cons ?_ ?_
      exact ee_int
      exact ea_nil
      exact ea_nil
      exact eb_nil
      refine eb_cons ?_ ?_
      refine es_setF (i := 6) sc_law_layers.nd rfl (Or.inr rfl) ?_
      refine ee_has h_law_pick (hr.mono (by decide)) (by rfl) ?_
      refine ea_cons ?_ ?_
      exact ee_pk (i := 0) (lt_ hgL rfl) (pv 0)
      refine ea_cons ?_ ?_
      exact ee_var (pv 5)
      exact ea_nil
      refine eb_cons ?_ ?_
      refine es_setF (i := 7) sc_law_layers.nd rfl (Or.inr rfl) ?_
      refine ee_mul ?_ ?_
      refine ee_ix ?_ ?_
      refine ee_lst ?_
      refine ea_cons ?_ ?_
      exact ee_int
      refine ea_cons ?_ ?_
      exact ee_int
      refine ea_cons ?_ ?_
      exact ee_int
      refine ea_cons ?_ ?_
      exact ee_int
      refine ea_cons ?_ ?_
      exact ee_int
      exact ea_nil
      exact ee_var (pv 3)
      refine ee_add ?_ ?_
      exact ee_int
      refine ee_int1 (by rfl) m_int ?_
      refine ea_cons ?_ ?_
      exact ee_var (pv 2)
      exact ea_nil
      refine eb_one ?_
      refine es_ret ?_
      refine ee_tuple (by rfl) m_tuple ?_
      refine ea_cons ?_ ?_
      refine ee_lc (own := [("_law_k", 9)]) rfl sc_law_layers.nd (lf_ hgL rfl) ?_ (blkOk_by (own := [("_law_k", 9)]) (N := N_law_layers) (sc := defScope st_law_layers) (by decide +kernel)) (fun _ _ _ _ _ => eg_name (i := 9) sc_law_layers.nd rfl (Or.inl rfl)) (fun _ _ _ _ _ => ets_nil) (fun _ _ _ _ _ => ee_has h_law_layer (hr.mono (by decide)) (by rfl) (ea_cons (ee_pk (i := 0) (lt_ hgL rfl) (pv 0)) (ea_cons (ee_ix (ee_var (pv 4)) (ee_var (pv 9))) (ea_cons (ee_var (pv 1)) (ea_cons (ee_has h_law_pick (hr.mono (by decide)) (by rfl) (ea_cons (ee_pk (i := 0) (lt_ hgL rfl) (pv 0)) (ea_cons (ee_var (pv 6)) ea_nil))) (ea_cons (ee_var (pv 7)) ea_nil))))))
      refine ei_range1 (by rfl) m_range ?_
      refine ea_cons ?_ ?_
      exact ee_var (pv 3)
      exact ea_nil
      exact ea_nil) CFLs.ok_law_layers, gl, F.kp, F.bindsN (fun _ _ _ _ _ _ us hl => match us, hl with | [_, _, _], _ => rfl)⟩
theorem has_law_whom {a : Addr} {fd : FuncData} (F : FunD K "_law_whom" "_law_whom" (defArgs st_law_whom) (defBody st_law_whom) (defScope st_law_whom) [] [] a fd) (gl : mg "_law_whom" = some (.ref a))  : Has P w K mg base 1 "_law_whom" CFWh.S_law_whom :=
  ⟨a, fd, P_law_whom, fn0 (k := 0) (L := CFWh.L_law_whom) (ww := CFWh.w_law_whom) F sc_law_whom rfl CFWh.len_law_whom (by
      intro cdv A outer s H E hr g hgL
      unfold CFWh.w_law_whom
      refine eb_cons ?_ ?_
      refine es_setF (i := 2) sc_law_whom.nd rfl (Or.inr rfl) ?_
      refine ee_mod ?_ ?_
      refine ee_sub ?_ ?_
      exact ee_var (pv 1)
      refine ee_ix ?_ ?_
      exact ee_var (pv 0)
      exact ee_int
      refine ee_mul ?_ ?_
      exact ee_int
      refine ee_ix ?_ ?_
      exact ee_var (pv 0)
      exact ee_int
      refine eb_one ?_
      refine es_ret ?_
      refine ee_ix ?_ ?_
      refine ee_cat ?_ ?_
      refine ee_lc (own := [("_law_begin", 4), ("_law_end", 5), ("_law_one", 6)]) rfl sc_law_whom.nd (lf_ hgL rfl) ?_ (blkOk_by (own := [("_law_begin", 4), ("_law_end", 5), ("_law_one", 6)]) (N := N_law_whom) (sc := defScope st_law_whom) (by decide +kernel)) (fun _ _ _ _ _ => eg_tup rfl (egs_cons (eg_name (i := 4) sc_law_whom.nd rfl (Or.inl rfl)) (egs_cons (eg_name (i := 5) sc_law_whom.nd rfl (Or.inl rfl)) (egs_cons (eg_name (i := 6) sc_law_whom.nd rfl (Or.inl rfl)) egs_nil)))) (fun _ _ _ _ _ => ets_one (et_chain (f := fun i j => decide (i ≤ j)) (f' := fun i j => decide (i < j)) op_le op_lt (ee_var (pv 4)) (ee_var (pv 2)) (ee_var (pv 5)))) (fun _ _ _ _ _ => ee_var (pv 6))
      refine ei_seq ?_
      refine ee_ix ?_ ?_
      exact ee_var (pv 0)
      exact ee_int
      refine ee_lst ?_
      refine ea_cons ?_ ?_
      exact ee_non
      exact ea_nil
      exact ee_int) CFWh.ok_law_whom, gl, F.kp, F.bindsN (fun _ _ _ _ _ _ us hl => match us, hl with | [_, _], _ => rfl)⟩
theorem has_law_cuts {a : Addr} {fd : FuncData} (F : FunD K "_law_cuts" "_law_cuts" (defArgs st_law_cuts) (defBody st_law_cuts) (defScope st_law_cuts) [] [] a fd) (gl : mg "_law_cuts" = some (.ref a)) (m_sorted : mg "sorted" = none) (m_set : mg "set" = none) : Has P w K mg base 1 "_law_cuts" CFLc.S_law_cuts :=
  ⟨a, fd, P_law_cuts, fn0 (k := 0) (L := CFLc.L_law_cuts) (ww := CFLc.w_law_cuts) F sc_law_cuts rfl CFLc.len_law_cuts (by
      intro cdv A outer s H E hr g hgL
      unfold CFLc.w_law_cuts
      refine eb_cons ?_ ?_
      refine es_set (i := 1) sc_law_cuts.nd rfl (Or.inl rfl) ?_
      refine ee_lst ?_
      refine ea_cons ?_ ?_
      exact ee_int
      refine ea_cons ?_ ?_
      exact ee_int
      exact ea_nil
      refine eb_cons ?_ ?_
      refine es_for PassesOwn.never rfl ?_ (eg_tup rfl (egs_cons (eg_name (i := 2) sc_law_cuts.nd rfl (Or.inl rfl)) (egs_cons (eg_name (i := 3) sc_law_cuts.nd rfl (Or.inl rfl)) (egs_cons (eg_name (i := 4) sc_law_cuts.nd rfl (Or.inl rfl)) (egs_cons (eg_name (i := 5) sc_law_cuts.nd rfl (Or.inl rfl)) egs_nil))))) ?_
      refine ei_seq ?_
      exact ee_var (pv 0)
      refine eb_one ?_
      refine es_for PassesOwn.never rfl ?_ (eg_tup rfl (egs_cons (eg_name (i := 6) sc_law_cuts.nd rfl (Or.inl rfl)) (egs_cons (eg_name (i := 7) sc_law_cuts.nd rfl (Or.inl rfl)) (egs_cons (eg_name (i := 8) sc_law_cuts.nd rfl (Or.inl rfl)) egs_nil)))) ?_
      refine ei_seq ?_
      exact ee_var (pv 5)
      refine eb_one ?_
      refine es_expr ?_
      refine ee_ext (i := 1) (lt_ hgL rfl) (pv 1) ?_
      refine ee_lst ?_
      refine ea_cons ?_ ?_
      refine ee_mod ?_ ?_
      refine ee_add ?_ ?_
      exact ee_var (pv 3)
      exact ee_var (pv 6)
      exact ee_int
      refine ea_cons ?_ ?_
      refine ee_mod ?_ ?_
      refine ee_add ?_ ?_
      exact ee_var (pv 3)
      exact ee_var (pv 7)
      exact ee_int
      exact ea_nil
      refine eb_one ?_
      refine es_ret ?_
      refine ee_sortSet rfl (by rfl) m_sorted (by rfl) m_set ?_
      exact ee_ln (i := 1) (lt_ hgL rfl) (pv 1)) CFLc.ok_law_cuts, gl, F.kp, F.bindsN (fun _ _ _ _ _ _ us hl => match us, hl with | [_], _ => rfl)⟩
theorem has_law_common {a : Addr} {fd : FuncData} (F : FunD K "_law_common" "_law_common" (defArgs st_law_common) (defBody st_law_common) (defScope st_law_common) [] [] a fd) (gl : mg "_law_common" = some (.ref a))  : Has P w K mg base 1 "_law_common" CFWh.S_law_common :=
  ⟨a, fd, P_law_common, fn0 (k := 0) (L := CFWh.L_law_common) (ww := CFWh.w_law_common) F sc_law_common rfl CFWh.len_law_common (by
      intro cdv A outer s H E hr g hgL
      unfold CFWh.w_law_common
      refine eb_cons ?_ ?_
      refine es_setF (i := 1) sc_law_common.nd rfl (Or.inl rfl) ?_
      exact ee_int
      refine eb_cons ?_ ?_
      refine es_for PassesOwn.never rfl ?_ (eg_tup rfl (egs_cons (eg_name (i := 2) sc_law_common.nd rfl (Or.inl rfl)) (egs_cons (eg_name (i := 3) sc_law_common.nd rfl (Or.inl rfl)) (egs_cons (eg_name (i := 4) sc_law_common.nd rfl (Or.inl rfl)) (egs_cons (eg_name (i := 5) sc_law_common.nd rfl (Or.inl rfl)) egs_nil))))) ?_
      refine ei_seq ?_
      exact ee_var (pv 0)
      refine eb_cons ?_ ?_
      refine es_setF (i := 6) sc_law_common.nd rfl (Or.inl rfl) ?_
      exact ee_var (pv 1)
      refine eb_one ?_
      refine es_while PassesOwn.never ?_ ?_
      refine et_ne hr.units ?_ ?_
      refine ee_mod ?_ ?_
      exact ee_var (pv 1)
      exact ee_var (pv 4)
      exact ee_int
      refine eb_one ?_
      refine es_setF (i := 1) sc_law_common.nd rfl (Or.inl rfl) ?_
      refine ee_add ?_ ?_
      exact ee_var (pv 1)
      exact ee_var (pv 6)
      refine eb_one ?_
      refine es_ret ?_
      exact ee_var (pv 1)) CFWh.ok_law_common, gl, F.kp, F.bindsN (fun _ _ _ _ _ _ us hl => match us, hl with | [_], _ => rfl)⟩
theorem has_law_tower {a : Addr} {fd : FuncData} (F : FunD K "_law_tower" "_law_tower" (defArgs st_law_tower) (defBody st_law_tower) (defScope st_law_tower) [] [] a fd) (gl : mg "_law_tower" = some (.ref a)) (m_range : mg "range" = none) (h_law_pick : Has P w K mg base 2 "_law_pick" CFH.S_law_pick) (h_law_take : Has P w K mg base 1 "_law_take" CFH.S_law_take) (m_tuple : mg "tuple" = none) : Has P w K mg base 3 "_law_tower" S_law_tower :=
  ⟨a, fd, P_law_tower, fn0 (k := 2) (L := L_law_tower) (ww := w_law_tower) F sc_law_tower rfl len_law_tower (by
      intro cdv A outer s H E hr g hgL
      unfold w_law_tower
      refine eb_cons ?_ ?_
      refine es_set (i := 2) sc_law_tower.nd rfl (Or.inl rfl) ?_
      refine ee_lst ?_
      exact ea_nil
      refine eb_cons ?_ ?_
      refine es_for PassesOwn.never rfl ?_ (eg_name (i := 3) sc_law_tower.nd rfl (Or.inl rfl)) ?_
      refine ei_range1 (by rfl) m_range ?_
      refine ea_cons ?_ ?_
      refine ee_has h_law_pick (hr.mono (by decide)) (by rfl) ?_
      refine ea_cons ?_ ?_
      exact ee_pk (i := 0) (lt_ hgL rfl) (pv 0)
      refine ea_cons ?_ ?_
      refine ee_lst ?_
      refine ea_cons ?_ ?_
      exact ee_int
      refine ea_cons ?_ ?_
      exact ee_int
      refine ea_cons ?_ ?_
      exact ee_int
      refine ea_cons ?_ ?_
      exact ee_int
      exact ea_nil
      exact ea_nil
      exact ea_nil
      refine eb_cons ?_ ?_
      refine es_par (i := 4) (j := 5) rfl sc_law_tower.nd rfl rfl (by decide) rfl rfl ?_ (by rfl)
      refine ea_cons ?_ ?_
      refine ee_has h_law_pick (hr.mono (by decide)) (by rfl) ?_
      refine ea_cons ?_ ?_
      exact ee_pk (i := 0) (lt_ hgL rfl) (pv 0)
      refine ea_cons ?_ ?_
      refine ee_lst ?_
      refine ea_cons ?_ ?_
      exact ee_int
      refine ea_cons ?_ ?_
      exact ee_int
      refine ea_cons ?_ ?_
      exact ee_int
      exact ea_nil
      exact ea_nil
      refine ea_cons ?_ ?_
      refine ee_tup ?_
      exact ea_nil
      exact ea_nil
      refine eb_cons ?_ ?_
      refine es_if ?_ ?_ ?_
      refine et_eq hr.units ?_ ?_
      refine ee_has h_law_take (hr.mono (by decide)) (by rfl) ?_
      refine ea_cons ?_ ?_
      exact ee_pk (i := 0) (lt_ hgL rfl) (pv 0)
      refine ea_cons ?_ ?_
      exact ee_int
      exact ea_nil
      exact ee_int
      refine eb_cons ?_ ?_
      refine es_setF (i := 6) sc_law_tower.nd rfl (Or.inl rfl) ?_
      refine ee_mul ?_ ?_
      exact ee_int
      refine ee_has h_law_take (hr.mono (by decide)) (by rfl) ?_
      refine ea_cons ?_ ?_
      exact ee_pk (i := 0) (lt_ hgL rfl) (pv 0)
      refine ea_cons ?_ ?_
      refine ee_mul ?_ ?_
      exact ee_int
      exact ee_var (pv 4)
      exact ea_nil
      refine eb_one ?_
      refine es_setF (i := 5) sc_law_tower.nd rfl (Or.inl rfl) ?_
      refine ee_tup ?_
      refine ea_cons ?_ ?_
      refine ee_tup ?_
      refine ea_cons ?_ ?_
      exact ee_var (pv 6)
      refine ea_cons ?_ ?_
      refine ee_add ?_ ?_
      exact ee_var (pv 6)
      exact ee_int
      refine ea_cons ?_ ?_
      refine ee_has h_law_pick (hr.mono (by decide)) (by rfl) ?_
      refine ea_cons ?_ ?_
      exact ee_pk (i := 0) (lt_ hgL rfl) (pv 0)
      refine ea_cons ?_ ?_
      exact ee_var (pv 1)
      exact ea_nil
      exact ea_nil
      exact ea_nil
      exact eb_nil
      refine eb_one ?_
      refine es_expr ?_
      refine ee_app (i := 2) (lt_ hgL rfl) (pv 2) ?_
      refine ee_tup ?_
      refine ea_cons ?_ ?_
      refine ee_ix ?_ ?_
      exact ee_var (pv 1)
      exact ee_int
      refine ea_cons ?_ ?_
      refine ee_mul ?_ ?_
      exact ee_int
      refine ee_has h_law_take (hr.mono (by decide)) (by rfl) ?_
      refine ea_cons ?_ ?_
      exact ee_pk (i := 0) (lt_ hgL rfl) (pv 0)
      refine ea_cons ?_ ?_
      refine ee_mul ?_ ?_
      exact ee_int
      exact ee_var (pv 4)
      exact ea_nil
      refine ea_cons ?_ ?_
      exact ee_var (pv 4)
      refine ea_cons ?_ ?_
      exact ee_var (pv 5)
      exact ea_nil
      refine eb_cons ?_ ?_
      refine es_setF (i := 4) sc_law_tower.nd rfl (Or.inl rfl) ?_
      refine ee_has h_law_pick (hr.mono (by decide)) (by rfl) ?_
      refine ea_cons ?_ ?_
      exact ee_pk (i := 0) (lt_ hgL rfl) (pv 0)
      refine ea_cons ?_ ?_
      refine ee_lst ?_
      refine ea_cons ?_ ?_
      exact ee_int
      refine ea_cons ?_ ?_
      exact ee_int
      refine ea_cons ?_ ?_
      exact ee_int
      exact ea_nil
      exact ea_nil
      refine eb_cons ?_ ?_
      refine es_setF (i := 5) sc_law_tower.nd rfl (Or.inl rfl) ?_
      refine ee_tup ?_
      refine ea_cons ?_ ?_
      refine ee_tup ?_
      refine ea_cons ?_ ?_
      exact ee_int
      refine ea_cons ?_ ?_
      refine ee_mul ?_ ?_
      exact ee_int
      exact ee_var (pv 4)
      refine ea_cons ?_ ?_
      refine ee_has h_law_pick (hr.mono (by decide)) (by rfl) ?_
      refine ea_cons ?_ ?_
      exact ee_pk (i := 0) (lt_ hgL rfl) (pv 0)
      refine ea_cons ?_ ?_
      exact ee_var (pv 1)
      exact ea_nil
      exact ea_nil
      exact ea_nil
      refine eb_one ?_
      refine es_ret ?_
      refine ee_sl ?_ ?_ ?_
      refine ee_tuple (by rfl) m_tuple ?_
      refine ea_cons ?_ ?_
      refine ee_cat ?_ ?_
      exact ee_ln (i := 2) (lt_ hgL rfl) (pv 2)
      refine ee_lst ?_
      refine ea_cons ?_ ?_
      refine ee_tup ?_
      refine ea_cons ?_ ?_
      refine ee_ix ?_ ?_
      exact ee_var (pv 1)
      exact ee_int
      refine ea_cons ?_ ?_
      refine ee_mul ?_ ?_
      exact ee_int
      refine ee_has h_law_take (hr.mono (by decide)) (by rfl) ?_
      refine ea_cons ?_ ?_
      exact ee_pk (i := 0) (lt_ hgL rfl) (pv 0)
      refine ea_cons ?_ ?_
      refine ee_mul ?_ ?_
      exact ee_int
      exact ee_var (pv 4)
      exact ea_nil
      refine ea_cons ?_ ?_
      exact ee_var (pv 4)
      refine ea_cons ?_ ?_
      exact ee_var (pv 5)
      exact ea_nil
      exact ea_nil
      exact ea_nil
      refine eo_some ?_
      refine ee_neg ?_
      exact ee_int
      exact eo_none) ok_law_tower, gl, F.kp, F.bindsN (fun _ _ _ _ _ _ us hl => match us, hl with | [_, _], _ => rfl)⟩
theorem has_law_lot {a : Addr} {fd : FuncData} (F : FunD K "_law_lot" "_law_lot" (defArgs st_law_lot) (defBody st_law_lot) (defScope st_law_lot) [] [] a fd) (gl : mg "_law_lot" = some (.ref a)) (h_law_whom : Has P w K mg base 1 "_law_whom" CFWh.S_law_whom) (m_tuple : mg "tuple" = none) : Has P w K mg base 2 "_law_lot" S_law_lot :=
  ⟨a, fd, P_law_lot, fn0 (k := 1) (L := L_law_lot) (ww := w_law_lot) F sc_law_lot rfl len_law_lot (by
      intro cdv A outer s H E hr g hgL
      unfold w_law_lot
      refine eb_cons ?_ ?_
      refine es_set (i := 4) sc_law_lot.nd rfl (Or.inl rfl) ?_
      refine ee_lst ?_
      exact ea_nil
      refine eb_cons ?_ ?_
      refine es_for PassesOwn.never rfl ?_ (eg_name (i := 5) sc_law_lot.nd rfl (Or.inl rfl)) ?_
      refine ei_seq ?_
      exact ee_var (pv 0)
      refine eb_cons ?_ ?_
      refine es_expr ?_
      refine ee_app (i := 4) (lt_ hgL rfl) (pv 4) ?_
      refine ee_mod ?_ ?_
      exact ee_var (pv 3)
      refine ee_ix ?_ ?_
      exact ee_var (pv 5)
      exact ee_int
      refine eb_cons ?_ ?_
      refine es_setF (i := 6) sc_law_lot.nd rfl (Or.inl rfl) ?_
      refine ee_has h_law_whom (hr.mono (by decide)) (by rfl) ?_
      refine ea_cons ?_ ?_
      exact ee_var (pv 5)
      refine ea_cons ?_ ?_
      refine ee_add ?_ ?_
      refine ee_mul ?_ ?_
      exact ee_int
      exact ee_var (pv 3)
      exact ee_var (pv 1)
      exact ea_nil
      refine eb_one ?_
      refine es_if ?_ ?_ ?_
      refine et_notN ?_
      exact ee_var (pv 6)
      refine eb_one ?_
      refine es_ret ?_
      refine ee_tup ?_
      refine ea_cons ?_ ?_
      exact ee_var (pv 1)
      refine ea_cons ?_ ?_
      exact ee_var (pv 2)
      refine ea_cons ?_ ?_
      refine ee_tuple (by rfl) m_tuple ?_
      refine ea_cons ?_ ?_
      exact ee_ln (i := 4) (lt_ hgL rfl) (pv 4)
      exact ea_nil
      refine ea_cons ?_ ?_
      exact ee_var (pv 6)
      exact ea_nil
      exact eb_nil
      refine eb_one ?_
      refine es_ret ?_
      refine ee_tup ?_
      refine ea_cons ?_ ?_
      exact ee_var (pv 1)
      refine ea_cons ?_ ?_
      exact ee_var (pv 2)
      refine ea_cons ?_ ?_
      refine ee_tuple (by rfl) m_tuple ?_
      refine ea_cons ?_ ?_
      exact ee_ln (i := 4) (lt_ hgL rfl) (pv 4)
      exact ea_nil
      refine ea_cons ?_ ?_
      exact ee_non
      exact ea_nil) ok_law_lot, gl, F.kp, F.bindsN (fun _ _ _ _ _ _ us hl => match us, hl with | [_, _, _, _], _ => rfl)⟩
theorem has_law_due {a : Addr} {fd : FuncData} (F : FunD K "_law_due" "_law_due" (defArgs st_law_due) (defBody st_law_due) (defScope st_law_due) [] [] a fd) (gl : mg "_law_due" = some (.ref a)) (h_law_common : Has P w K mg base 1 "_law_common" CFWh.S_law_common) (h_law_cuts : Has P w K mg base 1 "_law_cuts" CFLc.S_law_cuts) (m_range : mg "range" = none) (m_len : mg "len" = none) (h_law_lot : Has P w K mg base 2 "_law_lot" S_law_lot) (m_sorted : mg "sorted" = none) (m_tuple : mg "tuple" = none) : Has P w K mg base 3 "_law_due" S_law_due :=
  ⟨a, fd, P_law_due, fn0 (k := 2) (L := L_law_due) (ww := w_law_due) F sc_law_due rfl len_law_due (by
      intro cdv A outer s H E hr g hgL
      unfold w_law_due
      refine eb_cons ?_ ?_
      refine es_parO (oi := true) (oj := false) (i := 1) (j := 2) rfl sc_law_due.nd rfl rfl (by decide) rfl rfl ?_ (by rfl)
      refine ea_cons ?_ ?_
      refine ee_lst ?_
      exact ea_nil
      refine ea_cons ?_ ?_
      refine ee_has h_law_common (hr.mono (by decide)) (by rfl) ?_
      refine ea_cons ?_ ?_
      exact ee_var (pv 0)
      exact ea_nil
      exact ea_nil
      refine eb_cons ?_ ?_
      refine es_setF (i := 3) sc_law_due.nd rfl (Or.inl rfl) ?_
      refine ee_has h_law_cuts (hr.mono (by decide)) (by rfl) ?_
      refine ea_cons ?_ ?_
      exact ee_var (pv 0)
      exact ea_nil
      refine eb_cons ?_ ?_
      refine es_for PassesOwn.never rfl ?_ (eg_name (i := 4) sc_law_due.nd rfl (Or.inl rfl)) ?_
      refine ei_range1 (by rfl) m_range ?_
      refine ea_cons ?_ ?_
      refine ee_sub ?_ ?_
      refine ee_len (by rfl) m_len ?_
      refine ea_cons ?_ ?_
      exact ee_var (pv 3)
      exact ea_nil
      exact ee_int
      exact ea_nil
      refine eb_cons ?_ ?_
      refine es_set (i := 5) sc_law_due.nd rfl (Or.inr rfl) ?_
      exact ee_jnew
      refine eb_cons ?_ ?_
      refine es_for PassesOwn.never rfl ?_ (eg_name (i := 6) sc_law_due.nd rfl (Or.inl rfl)) ?_
      refine ei_range1 (by rfl) m_range ?_
      refine ea_cons ?_ ?_
      exact ee_var (pv 2)
      exact ea_nil
      refine eb_cons ?_ ?_
      refine es_setF (i := 7) sc_law_due.nd rfl (Or.inl rfl) ?_
      refine ee_has h_law_lot (hr.mono (by decide)) (by rfl) ?_
      refine ea_cons ?_ ?_
      exact ee_var (pv 0)
      refine ea_cons ?_ ?_
      refine ee_ix ?_ ?_
      exact ee_var (pv 3)
      exact ee_var (pv 4)
      refine ea_cons ?_ ?_
      refine ee_ix ?_ ?_
      exact ee_var (pv 3)
      refine ee_add ?_ ?_
      exact ee_var (pv 4)
      exact ee_int
      refine ea_cons ?_ ?_
      exact ee_var (pv 6)
      exact ea_nil
      refine eb_one ?_
      refine es_jput (i := 5) (units65 hr) (lt_ hgL rfl) (pv 5) ?_ ?_
      exact ee_var (pv 7)
      refine ee_ix ?_ ?_
      exact ee_var (pv 7)
      exact ee_int
      refine eb_one ?_
      refine es_expr ?_
      refine ee_ext (i := 1) (lt_ hgL rfl) (pv 1) ?_
      refine ee_lc (own := [("_law_rests", 9)]) rfl sc_law_due.nd (lf_ hgL rfl) ?_ (blkOk_by (own := [("_law_rests", 9)]) (N := N_law_due) (sc := defScope st_law_due) (by decide +kernel)) (fun _ _ _ _ _ => eg_name (i := 9) sc_law_due.nd rfl (Or.inl rfl)) (fun _ _ _ _ _ => ets_nil) (fun _ _ _ _ _ => ee_jix (i := 5) (units65 hr) (pv 5) (ee_var (pv 9)))
      refine ei_lst ?_
      exact ee_jsort (i := 5) rfl (by rfl) m_sorted (pv 5)
      refine eb_one ?_
      refine es_ret ?_
      refine ee_tuple (by rfl) m_tuple ?_
      refine ea_cons ?_ ?_
      exact ee_ln (i := 1) (lt_ hgL rfl) (pv 1)
      exact ea_nil) ok_law_due, gl, F.kp, F.bindsN (fun _ _ _ _ _ _ us hl => match us, hl with | [_], _ => rfl)⟩
theorem fn_law {a : Addr} {fd : FuncData} (F : FunD K "law" "law" (defArgs st_law) (defBody st_law) (defScope st_law) [] [] a fd) (m_range : mg "range" = none) (m_max : mg "max" = none) (m_min : mg "min" = none) (m_len : mg "len" = none) (h_law_hand : Has P w K mg base 1 "_law_hand" CFH.S_law_hand) (h_law_take : Has P w K mg base 1 "_law_take" CFH.S_law_take) (h_law_words : Has P w K mg base 3 "_law_words" CFWd.S_law_words) (h_law_layers : Has P w K mg base 5 "_law_layers" CFLs.S_law_layers) (h_law_tower : Has P w K mg base 3 "_law_tower" S_law_tower) (h_lots : Has P w K mg base 8 "lots" CFLo.S_lots) (m_repr : mg "repr" = none) (h_law_due : Has P w K mg base 3 "_law_due" S_law_due) : FnG P w K mg base (L2.CX P w) 9 a fd P_law (spOf K S_law) :=
  fnG0 (k := 8) (L := L_law) (ww := w_law) F sc_law rfl len_law (by
      intro cdv A outer s H E gd hr g hgL
      unfold w_law
      refine eb_cons ?_ ?_
      refine es_for PassesOwn.never rfl ?_ (eg_name (i := 1) sc_law.nd rfl (Or.inl rfl)) ?_
      refine ei_range1 (by rfl) m_range ?_
      refine ea_cons ?_ ?_
      refine ee_max2 rfl (by rfl) m_max ?_
      refine ea_cons ?_ ?_
      exact ee_int
      refine ea_cons ?_ ?_
      refine ee_min2 rfl (by rfl) m_min ?_
      refine ea_cons ?_ ?_
      exact ee_int
      refine ea_cons ?_ ?_
      refine ee_len (by rfl) m_len ?_
      refine ea_cons ?_ ?_
      exact ee_var (pv 0)
      exact ea_nil
      exact ea_nil
      exact ea_nil
      exact ea_nil
      refine eb_cons ?_ ?_
      refine es_set (i := 2) sc_law.nd rfl (Or.inl rfl) ?_
      refine ee_has h_law_hand (hr.mono (by decide)) (by rfl) ?_
      refine ea_cons ?_ ?_
      exact ee_var (pv 0)
      refine ea_cons ?_ ?_
      exact ee_var (pv 1)
      exact ea_nil
      refine eb_cons ?_ ?_
      refine es_setF (i := 3) sc_law.nd rfl (Or.inl rfl) ?_
      refine ee_has h_law_take (hr.mono (by decide)) (by rfl) ?_
      refine ea_cons ?_ ?_
      exact ee_pk (i := 2) (lt_ hgL rfl) (pv 2)
      refine ea_cons ?_ ?_
      exact ee_int
      exact ea_nil
      refine eb_cons ?_ ?_
      refine es_setF (i := 4) sc_law.nd rfl (Or.inl rfl) ?_
      refine ee_has h_law_words (hr.mono (by decide)) (by rfl) ?_
      refine ea_cons ?_ ?_
      exact ee_pk (i := 2) (lt_ hgL rfl) (pv 2)
      refine ea_cons ?_ ?_
      exact ee_int
      exact ea_nil
      refine eb_cons ?_ ?_
      refine es_setF (i := 5) sc_law.nd rfl (Or.inl rfl) ?_
      refine ee_has h_law_layers (hr.mono (by decide)) (by rfl) ?_
      refine ea_cons ?_ ?_
      exact ee_pk (i := 2) (lt_ hgL rfl) (pv 2)
      refine ea_cons ?_ ?_
      exact ee_var (pv 4)
      refine ea_cons ?_ ?_
      refine ee_lt ?_ ?_
      exact ee_var (pv 3)
      exact ee_int
      exact ea_nil
      refine eb_cons ?_ ?_
      refine es_if ?_ ?_ ?_
      refine et_eq hr.units ?_ ?_
      exact ee_var (pv 3)
      exact ee_int
      refine eb_one ?_
      refine es_setF (i := 5) sc_law.nd rfl (Or.inl rfl) ?_
      refine ee_has h_law_tower (hr.mono (by decide)) (by rfl) ?_
      refine ea_cons ?_ ?_
      exact ee_pk (i := 2) (lt_ hgL rfl) (pv 2)
      refine ea_cons ?_ ?_
      exact ee_var (pv 4)
      exact ea_nil
      exact eb_nil
      refine eb_cons ?_ ?_
      refine es_setF (i := 6) sc_law.nd rfl (Or.inl rfl) ?_
      refine ee_has h_lots (hr.mono (by decide)) (by rfl) ?_
      refine ea_cons ?_ ?_
      exact ee_var (pv 5)
      exact ea_nil
      refine eb_one ?_
      refine es_if ?_ ?_ ?_
      refine et_neS ?_ ?_
      refine ee_repr gd hr.units (by rfl) m_repr ?_
      refine ea_cons ?_ ?_
      exact ee_var (pv 6)
      exact ea_nil
      refine ee_repr gd hr.units (by rfl) m_repr ?_
      refine ea_cons ?_ ?_
      refine ee_has h_law_due (hr.mono (by decide)) (by rfl) ?_
      refine ea_cons ?_ ?_
      exact ee_var (pv 5)
      exact ea_nil
      exact ea_nil
      refine eb_one ?_
      refine es_ret ?_
      exact ee_bl
      exact eb_nil
      refine eb_one ?_
      refine es_ret ?_
      exact ee_bl) ok_law
end
theorem facts {P : Program} {w : World} {K : PySem.W.Frag} {h : Heap} {mg : Str → Option Value} {f : Addr} (X : K.In h) (G : h.Ns mainGlobals mg) (hfa : mg ("law" : Str) = some (.ref f)) (c : He.SaysD fa fn K) :
    ∃ fd : FuncData, (∀ (s : Shared) (v : Value), BindsTo s fd ⟨[v], []⟩ [("_law_script", v)]) ∧ ∀ base : Heap, K.In base → base.Ns mainGlobals mg → FnG P w K mg base (L2.CX P w) 9 f fd ["_law_script"] (spOf K S_law) := by
  obtain ⟨fd_place_of, F_place_of⟩ := c.def_ 0 (d := dd_place_of) rfl
  obtain ⟨fd_turn_at, F_turn_at⟩ := c.def_ 1 (d := dd_turn_at) rfl
  obtain ⟨fd_hand_at, F_hand_at⟩ := c.def_ 2 (d := dd_hand_at) rfl
  obtain ⟨fd_gcd, F_gcd⟩ := c.def_ 3 (d := dd_gcd) rfl
  obtain ⟨fd_inverse, F_inverse⟩ := c.def_ 4 (d := dd_inverse) rfl
  obtain ⟨fd_agree, F_agree⟩ := c.def_ 5 (d := dd_agree) rfl
  obtain ⟨fd_clash_of, F_clash_of⟩ := c.def_ 6 (d := dd_clash_of) rfl
  obtain ⟨fd_joined, F_joined⟩ := c.def_ 7 (d := dd_joined) rfl
  obtain ⟨fd_cuts_of, F_cuts_of⟩ := c.def_ 8 (d := dd_cuts_of) rfl
  obtain ⟨fd_rests_of, F_rests_of⟩ := c.def_ 9 (d := dd_rests_of) rfl
  obtain ⟨fd_longer, F_longer⟩ := c.def_ 10 (d := dd_longer) rfl
  obtain ⟨fd_in_piece, F_in_piece⟩ := c.def_ 11 (d := dd_in_piece) rfl
  obtain ⟨fd_cells, F_cells⟩ := c.def_ 12 (d := dd_cells) rfl
  obtain ⟨fd_lots, F_lots⟩ := c.def_ 13 (d := dd_lots) rfl
  obtain ⟨fd_law_hand, F_law_hand⟩ := c.def_ 14 (d := dd_law_hand) rfl
  obtain ⟨fd_law_take, F_law_take⟩ := c.def_ 15 (d := dd_law_take) rfl
  obtain ⟨fd_law_pick, F_law_pick⟩ := c.def_ 16 (d := dd_law_pick) rfl
  obtain ⟨fd_law_words, F_law_words⟩ := c.def_ 17 (d := dd_law_words) rfl
  obtain ⟨fd_law_minute, F_law_minute⟩ := c.def_ 18 (d := dd_law_minute) rfl
  obtain ⟨fd_law_layer, F_law_layer⟩ := c.def_ 19 (d := dd_law_layer) rfl
  obtain ⟨fd_law_layers, F_law_layers⟩ := c.def_ 20 (d := dd_law_layers) rfl
  obtain ⟨fd_law_whom, F_law_whom⟩ := c.def_ 21 (d := dd_law_whom) rfl
  obtain ⟨fd_law_cuts, F_law_cuts⟩ := c.def_ 22 (d := dd_law_cuts) rfl
  obtain ⟨fd_law_common, F_law_common⟩ := c.def_ 23 (d := dd_law_common) rfl
  obtain ⟨fd_law_tower, F_law_tower⟩ := c.def_ 24 (d := dd_law_tower) rfl
  obtain ⟨fd_law_lot, F_law_lot⟩ := c.def_ 25 (d := dd_law_lot) rfl
  obtain ⟨fd_law_due, F_law_due⟩ := c.def_ 26 (d := dd_law_due) rfl
  obtain ⟨fd_law, F_law⟩ := c.def_ 27 (d := dd_law) rfl
  have g_place_of := He.glo_ok X G (c.fact 0 (f := .glo "place_of") rfl)
  have g_turn_at := He.glo_ok X G (c.fact 1 (f := .glo "turn_at") rfl)
  have g_hand_at := He.glo_ok X G (c.fact 2 (f := .glo "hand_at") rfl)
  have g_gcd := He.glo_ok X G (c.fact 3 (f := .glo "gcd") rfl)
  have g_inverse := He.glo_ok X G (c.fact 4 (f := .glo "inverse") rfl)
  have g_agree := He.glo_ok X G (c.fact 5 (f := .glo "agree") rfl)
  have g_clash_of := He.glo_ok X G (c.fact 6 (f := .glo "clash_of") rfl)
  have g_joined := He.glo_ok X G (c.fact 7 (f := .glo "joined") rfl)
  have g_cuts_of := He.glo_ok X G (c.fact 8 (f := .glo "cuts_of") rfl)
  have g_rests_of := He.glo_ok X G (c.fact 9 (f := .glo "rests_of") rfl)
  have g_longer := He.glo_ok X G (c.fact 10 (f := .glo "longer") rfl)
  have g_in_piece := He.glo_ok X G (c.fact 11 (f := .glo "in_piece") rfl)
  have g_cells := He.glo_ok X G (c.fact 12 (f := .glo "cells") rfl)
  have g_lots := He.glo_ok X G (c.fact 13 (f := .glo "lots") rfl)
  have g_law_hand := He.glo_ok X G (c.fact 14 (f := .glo "_law_hand") rfl)
  have g_law_take := He.glo_ok X G (c.fact 15 (f := .glo "_law_take") rfl)
  have g_law_pick := He.glo_ok X G (c.fact 16 (f := .glo "_law_pick") rfl)
  have g_law_words := He.glo_ok X G (c.fact 17 (f := .glo "_law_words") rfl)
  have g_law_minute := He.glo_ok X G (c.fact 18 (f := .glo "_law_minute") rfl)
  have g_law_layer := He.glo_ok X G (c.fact 19 (f := .glo "_law_layer") rfl)
  have g_law_layers := He.glo_ok X G (c.fact 20 (f := .glo "_law_layers") rfl)
  have g_law_whom := He.glo_ok X G (c.fact 21 (f := .glo "_law_whom") rfl)
  have g_law_cuts := He.glo_ok X G (c.fact 22 (f := .glo "_law_cuts") rfl)
  have g_law_common := He.glo_ok X G (c.fact 23 (f := .glo "_law_common") rfl)
  have g_law_tower := He.glo_ok X G (c.fact 24 (f := .glo "_law_tower") rfl)
  have g_law_lot := He.glo_ok X G (c.fact 25 (f := .glo "_law_lot") rfl)
  have g_law_due := He.glo_ok X G (c.fact 26 (f := .glo "_law_due") rfl)
  have g_law := He.glo_ok X G (c.fact 27 (f := .glo "law") rfl)
  have m_enumerate := He.free_ok X G (c.fact 28 (f := .free "enumerate") rfl)
  have m_sorted := He.free_ok X G (c.fact 29 (f := .free "sorted") rfl)
  have m_set := He.free_ok X G (c.fact 30 (f := .free "set") rfl)
  have m_range := He.free_ok X G (c.fact 31 (f := .free "range") rfl)
  have m_len := He.free_ok X G (c.fact 32 (f := .free "len") rfl)
  have m_zip := He.free_ok X G (c.fact 33 (f := .free "zip") rfl)
  have m_tuple := He.free_ok X G (c.fact 34 (f := .free "tuple") rfl)
  have m_int := He.free_ok X G (c.fact 35 (f := .free "int") rfl)
  have m_max := He.free_ok X G (c.fact 36 (f := .free "max") rfl)
  have m_min := He.free_ok X G (c.fact 37 (f := .free "min") rfl)
  have m_repr := He.free_ok X G (c.fact 38 (f := .free "repr") rfl)
  have c_DAY := He.int_ok X G (c.fact 39 (f := .int "DAY" 1440) rfl)
  have c_MOST_LOTS := He.int_ok X G (c.fact 40 (f := .int "MOST_LOTS" 2000) rfl)
  have x_TooMany := ExcG.of X G (He.glo_ok X G (c.fact 41 (f := .glo "TooMany") rfl)) (c.fact 42 (f := .exc "TooMany") rfl)
  have e := hfa.symm.trans g_law
  cases e
  have b := FunD.bindsA (ps := ["_law_script"]) F_law fun _ _ _ _ _ _ us hl => match us, hl with | [_], _ => rfl
  refine ⟨fd_law, fun s v => b s [v] rfl, fun base _ _ => ?_⟩
  have h_place_of : Has P w K mg base 1 "place_of" CFTu.S_place_of := has_place_of F_place_of g_place_of c_DAY
  have h_turn_at : Has P w K mg base 2 "turn_at" CFTu.S_turn_at := has_turn_at F_turn_at g_turn_at h_place_of m_enumerate
  have h_hand_at : Has P w K mg base 3 "hand_at" CFLo.S_hand_at := has_hand_at F_hand_at g_hand_at h_turn_at
  have h_gcd : Has P w K mg base 1 "gcd" CFRb.S_gcd := has_gcd F_gcd g_gcd 
  have h_inverse : Has P w K mg base 1 "inverse" CFRb.S_inverse := has_inverse F_inverse g_inverse 
  have h_agree : Has P w K mg base 2 "agree" CFRb.S_agree := has_agree F_agree g_agree h_gcd
  have h_clash_of : Has P w K mg base 3 "clash_of" CFRb.S_clash_of := has_clash_of F_clash_of g_clash_of h_agree
  have h_joined : Has P w K mg base 4 "joined" CFRb.S_joined := has_joined F_joined g_joined m_enumerate h_agree h_clash_of h_gcd h_inverse
  have h_cuts_of : Has P w K mg base 1 "cuts_of" CFLo.S_cuts_of := has_cuts_of F_cuts_of g_cuts_of c_DAY m_sorted m_set
  have h_rests_of : Has P w K mg base 4 "rests_of" CFLo.S_rests_of := has_rests_of F_rests_of g_rests_of m_range h_hand_at c_DAY
  have h_longer : Has P w K mg base 5 "longer" CFLo.S_longer := has_longer F_longer g_longer h_gcd m_len m_range h_joined
  have h_in_piece : Has P w K mg base 6 "in_piece" CFLo.S_in_piece := has_in_piece F_in_piece g_in_piece h_rests_of h_longer m_len x_TooMany m_sorted
  have h_cells : Has P w K mg base 7 "cells" CFLo.S_cells := has_cells F_cells g_cells m_zip h_in_piece c_MOST_LOTS m_len m_tuple
  have h_lots : Has P w K mg base 8 "lots" CFLo.S_lots := has_lots F_lots g_lots h_cells h_cuts_of
  have h_law_hand : Has P w K mg base 1 "_law_hand" CFH.S_law_hand := has_law_hand F_law_hand g_law_hand m_len m_int
  have h_law_take : Has P w K mg base 1 "_law_take" CFH.S_law_take := has_law_take F_law_take g_law_take 
  have h_law_pick : Has P w K mg base 2 "_law_pick" CFH.S_law_pick := has_law_pick F_law_pick g_law_pick h_law_take m_len
  have h_law_words : Has P w K mg base 3 "_law_words" CFWd.S_law_words := has_law_words F_law_words g_law_words h_law_pick h_law_take m_len m_range
  have h_law_minute : Has P w K mg base 3 "_law_minute" CFLy.S_law_minute := has_law_minute F_law_minute g_law_minute h_law_take h_law_pick
  have h_law_layer : Has P w K mg base 4 "_law_layer" CFLy.S_law_layer := has_law_layer F_law_layer g_law_layer h_law_take h_law_pick m_sorted m_set m_range h_law_minute m_len m_tuple
  have h_law_layers : Has P w K mg base 5 "_law_layers" CFLs.S_law_layers := has_law_layers F_law_layers g_law_layers h_law_pick h_law_words m_int m_tuple m_range h_law_layer
  have h_law_whom : Has P w K mg base 1 "_law_whom" CFWh.S_law_whom := has_law_whom F_law_whom g_law_whom 
  have h_law_cuts : Has P w K mg base 1 "_law_cuts" CFLc.S_law_cuts := has_law_cuts F_law_cuts g_law_cuts m_sorted m_set
  have h_law_common : Has P w K mg base 1 "_law_common" CFWh.S_law_common := has_law_common F_law_common g_law_common 
  have h_law_tower : Has P w K mg base 3 "_law_tower" S_law_tower := has_law_tower F_law_tower g_law_tower m_range h_law_pick h_law_take m_tuple
  have h_law_lot : Has P w K mg base 2 "_law_lot" S_law_lot := has_law_lot F_law_lot g_law_lot h_law_whom m_tuple
  have h_law_due : Has P w K mg base 3 "_law_due" S_law_due := has_law_due F_law_due g_law_due h_law_common h_law_cuts m_range m_len h_law_lot m_sorted m_tuple
  exact fn_law F_law m_range m_max m_min m_len h_law_hand h_law_take h_law_words h_law_layers h_law_tower h_lots m_repr h_law_due
end K40
open PySem PySem.W PySem.Calls PyProof.Rows
set_option maxHeartbeats 0 in
theorem PySem.Challenge.cw_calledfirst_k40_whole_lots_by_all_days_holds : PySem.Challenge.rw_calledfirst_k40_whole_lots_by_all_days.Holds := by
  refine K40H.fin ?hc
  case hc =>
    refine DL.walk_dlG (l := PySem.Challenge.rw_calledfirst_k40_whole_lots_by_all_days) (n := 63) (k := 9) (x := "_law_script") rfl (by decide) (by kernel_rfl) ⟨rfl, by decide, by decide⟩ (S := K40.S_law) ?F K40.law_in
    intro w mg fa h Y G hmg0
    obtain ⟨K, KX, c⟩ := Y
    have hmg : mg ("law" : PySem.Str) = some (.ref fa) := by
      have e : (HandSHeadRun.topDef (OpenLaw.row PySem.Challenge.rw_calledfirst_k40_whole_lots_by_all_days).prog 36).name = ("law" : PySem.Str) := by kernel_rfl
      rw [← e]
      exact hmg0
    obtain ⟨fd, hb, hF⟩ := K40.facts (P := (PySem.Challenge.rw_calledfirst_k40_whole_lots_by_all_days).prog) (w := w) KX G hmg c
    exact ⟨K, fd, KX, hb, hF⟩
