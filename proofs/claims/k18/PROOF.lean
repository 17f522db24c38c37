import PyProof.Rows.All
import HandS.ForExc
import HandS.ForMost
import HandS.Wide
import HandS.Defaults
import HandS.TupAny
import HandS.WordsExc
import HandS.IsInst
import HandS.Head0
import HandS.Head1
import HandS.Head2
import HandS.HeadEnd
import HandS.HeadHook1
import HandS.HeadHook2
import PySem.Challenge.RW_calledfirst_k18_changes_looked_at
import Wide.Once
import HandS.Deep
import HandS.Style
import HandS.Text
import HandS.Zip
import HandS.Rev
import HandS.RevRange
import KE.GoesEnum
import HandS.SortInts
import HandS.NoneIn
import PyProof.StrOps2
import HandS.StrMore
import HandS.SortKw
import HandS.DictEq
import HandS.SetFor
import PyProof.LongRange
import HandS.More
import HandS.RaiseMore
import HandS.Small
import PyProof.ExcBaseAll.ValueError
import PyProof.ReprRoads
import PyProof.StrLawsRepr
import HandS.SortRule
import HandS.SortOrd
import HandS.NamedTupSort
import KE.KSortTup
import HandS.DictTup
import HandS.Dict
import HandS.TryOnly
import HandS.ExcIs
import HandS.CallSlots
import HandS.ExcValue
import KE.GoesMore
import HandS.Iter
import HandS.List
import HandS.Sort
import KE.DataCmp
import PyProof.ListRange
import HandS.Conv
import KE.KDictZip
import HandS.ListItems
import HandS.FStr
import PyProof.EqKinds
import PyProof.EqLayable
import KE.KEqDict
import PyProof.Rows.IntBool
import KE.IntBitsLaws
import KE.KDictPairs
import HandS.SetTxt0
import HandS.Codes
set_option Elab.async false
set_option linter.all false
set_option maxRecDepth 100000
set_option maxHeartbeats 4000000

/-! generated: the head -/
namespace K18H
open PySem PySem.Spec PyProof.Rows L2
def topS (i : Nat) : Stmt := PySem.Challenge.pw_calledfirst_k18_changes_looked_at.main.body.getD i (.Pass ⟨0, 0, 0, 0⟩)
abbrev st_is_whole : Stmt := topS 3
abbrev st_is_moment : Stmt := topS 4
abbrev st_is_word : Stmt := topS 5
abbrev st_is_span : Stmt := topS 7
abbrev st_is_change : Stmt := topS 8
abbrev st_covers : Stmt := topS 9
abbrev st_law_hand : Stmt := topS 11
abbrev st_law_take : Stmt := topS 12
abbrev st_law_pick : Stmt := topS 13
abbrev st_law_great : Stmt := topS 14
abbrev st_law_moment : Stmt := topS 15
abbrev st_law_word : Stmt := topS 16
abbrev st_law_good : Stmt := topS 17
abbrev st_law_odd : Stmt := topS 18
abbrev st_law_spoilt : Stmt := topS 19
abbrev st_law_is_whole : Stmt := topS 20
abbrev st_law_is_word : Stmt := topS 21
abbrev st_law_is_so : Stmt := topS 22
abbrev st_law_covered : Stmt := topS 23
abbrev st_law : Stmt := topS 24
def dd_is_whole : He.DefD := ⟨("is_whole", none), "is_whole", "is_whole", defArgs st_is_whole, defBody st_is_whole, defScope st_is_whole, [], []⟩
def dd_is_moment : He.DefD := ⟨("is_moment", none), "is_moment", "is_moment", defArgs st_is_moment, defBody st_is_moment, defScope st_is_moment, [], []⟩
def dd_is_word : He.DefD := ⟨("is_word", none), "is_word", "is_word", defArgs st_is_word, defBody st_is_word, defScope st_is_word, [], []⟩
def dd_is_span : He.DefD := ⟨("is_span", none), "is_span", "is_span", defArgs st_is_span, defBody st_is_span, defScope st_is_span, [], []⟩
def dd_is_change : He.DefD := ⟨("is_change", none), "is_change", "is_change", defArgs st_is_change, defBody st_is_change, defScope st_is_change, [], []⟩
def dd_covers : He.DefD := ⟨("covers", none), "covers", "covers", defArgs st_covers, defBody st_covers, defScope st_covers, [], []⟩
def dd_law_hand : He.DefD := ⟨("_law_hand", none), "_law_hand", "_law_hand", defArgs st_law_hand, defBody st_law_hand, defScope st_law_hand, [], []⟩
def dd_law_take : He.DefD := ⟨("_law_take", none), "_law_take", "_law_take", defArgs st_law_take, defBody st_law_take, defScope st_law_take, [], []⟩
def dd_law_pick : He.DefD := ⟨("_law_pick", none), "_law_pick", "_law_pick", defArgs st_law_pick, defBody st_law_pick, defScope st_law_pick, [], []⟩
def dd_law_great : He.DefD := ⟨("_law_great", none), "_law_great", "_law_great", defArgs st_law_great, defBody st_law_great, defScope st_law_great, [], []⟩
def dd_law_moment : He.DefD := ⟨("_law_moment", none), "_law_moment", "_law_moment", defArgs st_law_moment, defBody st_law_moment, defScope st_law_moment, [], []⟩
def dd_law_word : He.DefD := ⟨("_law_word", none), "_law_word", "_law_word", defArgs st_law_word, defBody st_law_word, defScope st_law_word, [], []⟩
def dd_law_good : He.DefD := ⟨("_law_good", none), "_law_good", "_law_good", defArgs st_law_good, defBody st_law_good, defScope st_law_good, [], []⟩
def dd_law_odd : He.DefD := ⟨("_law_odd", none), "_law_odd", "_law_odd", defArgs st_law_odd, defBody st_law_odd, defScope st_law_odd, [], []⟩
def dd_law_spoilt : He.DefD := ⟨("_law_spoilt", none), "_law_spoilt", "_law_spoilt", defArgs st_law_spoilt, defBody st_law_spoilt, defScope st_law_spoilt, [], []⟩
def dd_law_is_whole : He.DefD := ⟨("_law_is_whole", none), "_law_is_whole", "_law_is_whole", defArgs st_law_is_whole, defBody st_law_is_whole, defScope st_law_is_whole, [], []⟩
def dd_law_is_word : He.DefD := ⟨("_law_is_word", none), "_law_is_word", "_law_is_word", defArgs st_law_is_word, defBody st_law_is_word, defScope st_law_is_word, [], []⟩
def dd_law_is_so : He.DefD := ⟨("_law_is_so", none), "_law_is_so", "_law_is_so", defArgs st_law_is_so, defBody st_law_is_so, defScope st_law_is_so, [], []⟩
def dd_law_covered : He.DefD := ⟨("_law_covered", none), "_law_covered", "_law_covered", defArgs st_law_covered, defBody st_law_covered, defScope st_law_covered, [], []⟩
def dd_law : He.DefD := ⟨("law", none), "law", "law", defArgs st_law, defBody st_law, defScope st_law, [], []⟩
def fn : List He.DefD := [dd_is_whole, dd_is_moment, dd_is_word, dd_is_span, dd_is_change, dd_covers, dd_law_hand, dd_law_take, dd_law_pick, dd_law_great, dd_law_moment, dd_law_word, dd_law_good, dd_law_odd, dd_law_spoilt, dd_law_is_whole, dd_law_is_word, dd_law_is_so, dd_law_covered, dd_law]
def fa : List He.Fa := [.glo "is_whole", .glo "is_moment", .glo "is_word", .glo "is_span", .glo "is_change", .glo "covers", .glo "_law_hand", .glo "_law_take", .glo "_law_pick", .glo "_law_great", .glo "_law_moment", .glo "_law_word", .glo "_law_good", .glo "_law_odd", .glo "_law_spoilt", .glo "_law_is_whole", .glo "_law_is_word", .glo "_law_is_so", .glo "_law_covered", .glo "law", .free "isinstance", .free "int", .free "bool", .free "str", .free "len", .free "all", .free "tuple", .free "range", .free "list", .free "max", .free "min", .int "LATEST" 1000000000000000000000000000000000000000000000000000000000000, .str "SIGNS" "abcdefghijklmnopqrstuvwxyz0123456789"]
abbrev R : PySem.W.OpenRow := PySem.W.OpenLaw.row PySem.Challenge.rw_calledfirst_k18_changes_looked_at
abbrev hk : PySem.W.Hook := He.hookD 2 fa fn
def ob (s : PySem.W.SharedT) : He.AlD := He.obsDG 2 fa fn (HandSHeadRun.getT s)
theorem ob_eq (s : PySem.W.SharedT) : ob s = hk.obs s.abs := He.obsDG_eq (HandSHeadRun.getT_eq s)
def loose : List Str := (["SIGNS", "LATEST", "is_whole", "is_moment", "is_word", "is_span", "is_change", "covers", "_law_hand", "_law_take", "_law_pick", "_law_great", "_law_moment", "_law_word", "_law_good", "_law_odd", "_law_spoilt", "_law_is_whole", "_law_is_word", "_law_is_so", "_law_covered"] : List Str)
theorem run (w : World) : HandSHeadRun.RunEq R (PySem.W.view R.prog [24]) hk ob 1400 loose w := by
  intro os
  kernel_rfl
open PySem PySem.W PySem.Calls PyProof.Rows in
set_option maxHeartbeats 0 in
theorem pre (h : PySem.Challenge.rw_calledfirst_k18_changes_looked_at.row.wellSaid = true → PySem.Challenge.rw_calledfirst_k18_changes_looked_at.row.Holds) : PySem.Challenge.rw_calledfirst_k18_changes_looked_at.Holds := by
  w_on; o_law
  exact h (by assumption)
open PySem PySem.W PySem.Calls PyProof.Rows in
set_option maxHeartbeats 0 in
theorem fin (call : WalkO (view (OpenLaw.row PySem.Challenge.rw_calledfirst_k18_changes_looked_at).prog [24]) loose (XL (view (OpenLaw.row PySem.Challenge.rw_calledfirst_k18_changes_looked_at).prog [24]) []) hk.says (OpenLaw.row PySem.Challenge.rw_calledfirst_k18_changes_looked_at).toRowW (HandSHeadRun.topDef (OpenLaw.row PySem.Challenge.rw_calledfirst_k18_changes_looked_at).prog 24) [] fun f vs => PySem.call f vs) : PySem.Challenge.rw_calledfirst_k18_changes_looked_at.Holds := by
  refine pre fun said => ?_
  refine HandSHeadRun.head_any (r := OpenLaw.row PySem.Challenge.rw_calledfirst_k18_changes_looked_at) (q := view (OpenLaw.row PySem.Challenge.rw_calledfirst_k18_changes_looked_at).prog [24]) (H := hk) (ob := ob) (M := 1400) (loose := loose) (d := HandSHeadRun.topDef (OpenLaw.row PySem.Challenge.rw_calledfirst_k18_changes_looked_at).prog 24) (kwd := []) ob_eq
    (by kernel_rfl) (fun s => by kernel_rfl) run (by kernel_rfl) (by kernel_rfl) (by kernel_rfl) (by rfl) (by exact said) (by decide +kernel) ⟨rfl, rfl, rfl, rfl, rfl, by decide +kernel⟩ ?hw call
  case hw => w_witness2
end K18H

set_option Elab.async false
set_option linter.all false
set_option maxRecDepth 100000
set_option maxHeartbeats 4000000
/-! DL: a level of plain data over the hand layer. A def's slots hold data (numbers, texts, tuples, lists that nobody changes any more) or a list or dict of its own; what stands at which address is proved away once, here. -/
namespace DL
open PySem PySem.Spec PyProof.Rows L2

abbrev D := PyData
structure XD where
  cls : Str
  fs : List (Str × D)
inductive Tre where
  | dat (d : D)
  | hole (k : Addr)
  | ld (a : Addr) (ds : List D)
  | lst (a : Addr) (xs : List Tre)
  | tup (a : Addr) (xs : List Tre)
  | ins (a dx : Addr) (cls : Str) (ns : List Str) (xs : List Tre)
  | exc (a : Addr) (da : Option Addr) (x : XD)
@[reducible] def Tre.root : Tre → Option Addr
  | .ld a _ => some a
  | .lst a _ => some a
  | .tup a _ => some a
  | .ins a _ _ _ _ => some a
  | .exc a _ _ => some a
  | _ => none
mutual
def Tre.foot : Tre → List Addr
  | .dat _ => []
  | .hole _ => []
  | .ld a _ => [a]
  | .lst a xs => a :: Tre.foots xs
  | .tup a xs => a :: Tre.foots xs
  | .ins a dx _ _ xs => a :: dx :: Tre.foots xs
  | .exc a da _ => a :: da.toList
def Tre.foots : List Tre → List Addr
  | [] => []
  | x :: xs => x.foot ++ Tre.foots xs
end
@[reducible] def Tre.kids : Tre → List Tre
  | .lst _ xs => xs
  | .tup _ xs => xs
  | .ins _ _ _ _ xs => xs
  | _ => []
@[reducible] def Tre.get : Tre → List Nat → Option Tre
  | l, [] => some l
  | l, i :: p => match l.kids[i]? with
    | some m => m.get p
    | none => none
inductive OD where
  | lst (ds : List D)
  | dct (kvs : List (Key × D))
  | dtt (kvs : List (List Key × D))
  | lck (at_ : Addr) (ob : Obj) (ks : List (Key × V)) (kvs : List (Key × D))
  | tre (l : Tre)
  | prp (x y : D)
@[reducible] def OD.fp : OD → Addr → List Addr
  | .tre l, _ => l.foot
  | .lst _, a => [a]
  | .dct _, a => [a]
  | .dtt _, a => [a]
  | .lck _ _ _ _, a => [a]
  | .prp _ _, a => [a]
inductive C where
  | no
  | v (d : D)
  | p (d : D)
  | own (t : Nat) (o : OD)
  | pk (i : Nat)
  | ln (i : Nat)
  | sub (i : Nat) (p : List Nat) (k : Addr)
abbrev Rho := List C

def hide (H : Hp) (O : List Addr) : Hp := fun a => if a ∈ O then none else H a
theorem hide_some {H : Hp} {O : List Addr} {a : Addr} {o : HO} : hide H O a = some o ↔ a ∉ O ∧ H a = some o := by
  unfold hide
  by_cases h : a ∈ O
  · simp [h]
  · simp [h]
theorem hide_congr {H : Hp} {O O' : List Addr} (h : ∀ a, a ∈ O ↔ a ∈ O') : hide H O = hide H O' := by
  funext a
  unfold hide
  by_cases q : a ∈ O
  · rw [if_pos q, if_pos ((h a).mp q)]
  · rw [if_neg q, if_neg fun z => q ((h a).mpr z)]

theorem seqT_same {K : PySem.W.Frag} {H H' : Hp} {a : Addr} {xs : List V} (e : Same H H') (h : SqT K H a xs) : SqT K H' a xs := by
  rcases h with (h | ⟨o, h⟩) | h
  · exact .inl (.inl (e _ _ h))
  · exact .inl (.inr ⟨o, e _ _ h⟩)
  · exact .inr h
/-! ### data as the heap holds it: as the kit has it, and besides empty dicts that nobody changes -/
mutual
inductive Dp (K : PySem.W.Frag) (B : Hp) : V → D → Prop
  | non : Dp K B V.non PyData.none
  | bl (t : Bool) : Dp K B (V.bl t) (PyData.bool t)
  | int (n : Int) : Dp K B (V.int n) (PyData.int n)
  | str (z : Str) : Dp K B (V.str z) (PyData.str z)
  | lst {p : Addr} {vs : List V} {es : List D} : SqL K B p vs → DpAll K B vs es → Dp K B (V.ref p) (PyData.list es)
  | tup {p : Addr} {vs : List V} {es : List D} : SqT K B p vs → DpAll K B vs es → Dp K B (V.ref p) (PyData.tuple es)
  | dic {p : Addr} : B p = some (.dK []) → Dp K B (V.ref p) (PyData.dict [])
inductive DpAll (K : PySem.W.Frag) (B : Hp) : List V → List D → Prop
  | nil : DpAll K B [] []
  | cons {x : V} {xs : List V} {e : D} {es : List D} : Dp K B x e → DpAll K B xs es → DpAll K B (x :: xs) (e :: es)
end
section
variable {X : Cx} {pins : List (Addr × Obj)} {σ : L2.St} {H : Hp} {s : Shared}
mutual
theorem Dp.reads (I : Inv X pins σ H s) : ∀ (d : D) (x : V) (u : Value), Dp X.K H x d → RelV x u → ∃ bs, Reads s.heap u d bs
  | .none, _, _, h, r => by cases h; cases r; exact ⟨_, .none⟩
  | .bool b, _, _, h, r => by cases h; cases r; exact ⟨_, .bool b⟩
  | .int i, _, _, h, r => by cases h; obtain ⟨t, rfl⟩ := r; exact ⟨_, .int i t⟩
  | .str x, _, _, h, r => by cases h; obtain ⟨t, rfl⟩ := r; exact ⟨_, .str x t⟩
  | .list es, _, _, h, r => by
    cases h with
    | lst h1 h2 =>
      cases r
      obtain ⟨us, rv, ⟨o, m, e1, e2, _, e3⟩, _⟩ := I.list h1
      obtain ⟨bs, q⟩ := Dp.readsAll I es _ us h2 rv
      exact ⟨_, .list e1 e2 e3 q⟩
  | .tuple es, _, _, h, r => by
    cases h with
    | tup h1 h2 =>
      cases r
      obtain ⟨us, rv, ⟨o, e1, e2, m, e3⟩, _⟩ := I.tuple h1
      obtain ⟨bs, q⟩ := Dp.readsAll I es _ us h2 rv
      exact ⟨_, .tuple e1 e2 e3 q⟩
  | .dict kvs, _, _, h, r => by
    cases h with
    | dic h1 =>
      cases r
      obtain ⟨_, _, us, rel, o, es, ep, e1, e2, e3, _, e4, _⟩ := dk_rd I.hok (.inl h1)
      have z : us = [] := by
        cases us with
        | nil => rfl
        | cons _ _ => cases rel
      subst z
      have z : es.toList = [] := by
        cases e : es.toList with
        | nil => rfl
        | cons _ _ => rw [e] at e4; cases e4
      refine ⟨_, Reads.dict (as := []) (bs := []) e1 e2.1 e3 ?_ ?_⟩
      · rw [z]; exact .nil
      · rw [z]; exact .nil
theorem Dp.readsAll (I : Inv X pins σ H s) : ∀ (ds : List D) (xs : List V) (us : List Value), DpAll X.K H xs ds → Vals xs us → ∃ bs, ReadsAll s.heap us ds bs
  | [], _, _, h, r => by cases h; cases r; exact ⟨_, .nil⟩
  | d :: ds, _, _, h, r => by
    cases h with
    | cons h1 h2 =>
      cases r with
      | cons r1 r2 =>
        obtain ⟨bs, q1⟩ := Dp.reads I d _ _ h1 r1
        obtain ⟨cs, q2⟩ := Dp.readsAll I ds _ _ h2 r2
        exact ⟨_, .cons q1 q2⟩
end
end
mutual
theorem Dp.l2 {K : PySem.W.Frag} {B : Hp} : ∀ (d : D) (x : V), PyData.canLay0 d = true → Dp K B x d → L2.Dp K B x d
  | .none, _, _, h => by cases h; exact .non
  | .bool b, _, _, h => by cases h; exact .bl b
  | .int i, _, _, h => by cases h; exact .int i
  | .str x, _, _, h => by cases h; exact .str x
  | .list es, _, c, h => by
    cases h with
    | lst h1 h2 => exact .lst h1 (DpAll.l2 es _ c h2)
  | .tuple es, _, c, h => by
    cases h with
    | tup h1 h2 => exact .tup h1 (DpAll.l2 es _ c h2)
  | .dict _, _, c, _ => by cases c
theorem DpAll.l2 {K : PySem.W.Frag} {B : Hp} : ∀ (ds : List D) (xs : List V), PyData.canLayAll0 ds = true → DpAll K B xs ds → L2.DpAll K B xs ds
  | [], _, _, h => by cases h; exact .nil
  | d :: ds, _, c, h => by
    have c := Bool.and_eq_true_iff.mp c
    cases h with
    | cons h1 h2 => exact .cons (Dp.l2 d _ c.1 h1) (DpAll.l2 ds _ c.2 h2)
end
def rEqD (K : PySem.W.Frag) : R2 := fun x y H Q => ∃ d1 d2, Dp K H x d1 ∧ Dp K H y d2 ∧ SeqAt.shaped d1 = true ∧ SeqAt.shaped d2 = true ∧ Q (.bl (PyData.eqv d1 d2)) H
def rNeD (K : PySem.W.Frag) : R2 := fun x y H Q => ∃ d1 d2, Dp K H x d1 ∧ Dp K H y d2 ∧ SeqAt.shaped d1 = true ∧ SeqAt.shaped d2 = true ∧ Q (.bl (!PyData.eqv d1 d2)) H
theorem op_eqD {X : Cx} (hu : X.A.units + 64 < cLine) : OpR X (compareOp .Eq) (rEqD X.K) := by
  intro pins s σ H x y v u Q I rx ry ⟨d1, d2, h1, h2, s1, s2, q⟩
  obtain ⟨_, r1⟩ := Dp.reads I d1 x v h1 rx
  obtain ⟨_, r2⟩ := Dp.reads I d2 y u h2 ry
  exact SeqAt.compareEq_shaped r1 r2 s1 s2 hu ⟨.bl _, H, I, rfl, q⟩
theorem op_neD {X : Cx} (hu : X.A.units + 64 < cLine) : OpR X (compareOp .NotEq) (rNeD X.K) := by
  intro pins s σ H x y v u Q I rx ry ⟨d1, d2, h1, h2, s1, s2, q⟩
  obtain ⟨_, r1⟩ := Dp.reads I d1 x v h1 rx
  obtain ⟨_, r2⟩ := Dp.reads I d2 y u h2 ry
  exact SeqAt.compareNe_shaped r1 r2 s1 s2 hu ⟨.bl _, H, I, rfl, q⟩
mutual
theorem dp_mono {K : PySem.W.Frag} {B B' : Hp} (e : Same B B') : ∀ (d : D) (v : V), Dp K B v d → Dp K B' v d
  | .none, _, h => by cases h; exact .non
  | .bool b, _, h => by cases h; exact .bl b
  | .int i, _, h => by cases h; exact .int i
  | .str x, _, h => by cases h; exact .str x
  | .list ds, _, h => by
    cases h with
    | lst hs ha => exact .lst (e.seq hs) (dpAll_mono e ds _ ha)
  | .tuple ds, _, h => by
    cases h with
    | tup hs ha => exact .tup (seqT_same e hs) (dpAll_mono e ds _ ha)
  | .dict _, _, h => by
    cases h with
    | dic h1 => exact .dic (e _ _ h1)
theorem dpAll_mono {K : PySem.W.Frag} {B B' : Hp} (e : Same B B') : ∀ (ds : List D) (vs : List V), DpAll K B vs ds → DpAll K B' vs ds
  | [], _, h => by cases h; exact .nil
  | d :: ds, _, h => by
    cases h with
    | cons h1 h2 => exact .cons (dp_mono e d _ h1) (dpAll_mono e ds _ h2)
end
theorem DpAll.len {K : PySem.W.Frag} {B : Hp} : ∀ {vs : List V} {ds : List D}, DpAll K B vs ds → vs.length = ds.length
  | _, [], h => by cases h; rfl
  | _, d :: ds, h => by
    cases h with
    | cons h1 h2 => rw [List.length_cons, List.length_cons, DpAll.len h2]
theorem DpAll.get {K : PySem.W.Frag} {B : Hp} : ∀ {vs : List V} {ds : List D} {i : Nat} {d : D}, DpAll K B vs ds → ds[i]? = some d → ∃ v, vs[i]? = some v ∧ Dp K B v d
  | _, [], _, _, _, e => by simp at e
  | _, d' :: ds, i, d, h, e => by
    cases h with
    | cons h1 h2 =>
      cases i with
      | zero =>
        have e' : d' = d := by simpa using e
        subst e'
        exact ⟨_, rfl, h1⟩
      | succ i =>
        obtain ⟨v, q1, q2⟩ := DpAll.get (i := i) (d := d) h2 (by simpa using e)
        exact ⟨v, by simpa using q1, q2⟩
theorem DpAll.app {K : PySem.W.Frag} {B : Hp} : ∀ {vs us : List V} {ds es : List D}, DpAll K B vs ds → DpAll K B us es → DpAll K B (vs ++ us) (ds ++ es)
  | _, _, [], _, h, h' => by cases h; exact h'
  | _, _, d :: ds, _, h, h' => by
    cases h with
    | cons h1 h2 => exact .cons h1 (DpAll.app h2 h')
theorem DpAll.setAt {K : PySem.W.Frag} {B : Hp} {x : V} {d : D} (hx : Dp K B x d) : ∀ {vs : List V} {ds : List D} (i : Nat), DpAll K B vs ds → DpAll K B (vs.set i x) (ds.set i d)
  | _, [], _, h => by cases h; exact .nil
  | _, d' :: ds, i, h => by
    cases h with
    | cons h1 h2 =>
      cases i with
      | zero => exact .cons hx h2
      | succ i => exact .cons h1 (DpAll.setAt hx i h2)
theorem DpAll.takeN {K : PySem.W.Frag} {B : Hp} : ∀ {vs : List V} {ds : List D} (n : Nat), DpAll K B vs ds → DpAll K B (vs.take n) (ds.take n)
  | _, [], n, h => by cases h; simp; exact .nil
  | _, d :: ds, n, h => by
    cases h with
    | cons h1 h2 =>
      cases n with
      | zero => exact .nil
      | succ n => exact .cons h1 (DpAll.takeN n h2)
theorem DpAll.dropN {K : PySem.W.Frag} {B : Hp} : ∀ {vs : List V} {ds : List D} (n : Nat), DpAll K B vs ds → DpAll K B (vs.drop n) (ds.drop n)
  | _, [], n, h => by cases h; simp; exact .nil
  | _, d :: ds, n, h => by
    cases h with
    | cons h1 h2 =>
      cases n with
      | zero => exact .cons h1 h2
      | succ n => exact DpAll.dropN n h2
def DpKV (K : PySem.W.Frag) (B : Hp) : List (Key × V) → List (Key × D) → Prop
  | [], [] => True
  | p :: ps, q :: qs => p.1 = q.1 ∧ Dp K B p.2 q.2 ∧ DpKV K B ps qs
  | _, _ => False
theorem DpKV.mono {K : PySem.W.Frag} {B B' : Hp} (e : Same B B') : ∀ {ps : List (Key × V)} {qs : List (Key × D)}, DpKV K B ps qs → DpKV K B' ps qs
  | [], [], h => h
  | p :: ps, q :: qs, h => ⟨h.1, dp_mono e _ _ h.2.1, DpKV.mono e h.2.2⟩
  | [], _ :: _, h => h.elim
  | _ :: _, [], h => h.elim
def DpTV (K : PySem.W.Frag) (B : Hp) : List (List Key × V) → List (List Key × D) → Prop
  | [], [] => True
  | p :: ps, q :: qs => p.1 = q.1 ∧ Dp K B p.2 q.2 ∧ DpTV K B ps qs
  | _, _ => False
theorem DpTV.mono {K : PySem.W.Frag} {B B' : Hp} (e : Same B B') : ∀ {ps : List (List Key × V)} {qs : List (List Key × D)}, DpTV K B ps qs → DpTV K B' ps qs
  | [], [], h => h
  | p :: ps, q :: qs, h => ⟨h.1, dp_mono e _ _ h.2.1, DpTV.mono e h.2.2⟩
  | [], _ :: _, h => h.elim
  | _ :: _, [], h => h.elim
def XFs (K : PySem.W.Frag) (B : Hp) : List (Str × V) → List (Str × D) → Prop
  | [], [] => True
  | p :: ps, q :: qs => p.1 = q.1 ∧ Dp K B p.2 q.2 ∧ XFs K B ps qs
  | _, _ => False
theorem XFs.mono {K : PySem.W.Frag} {B B' : Hp} (e : Same B B') : ∀ {fs : List (Str × V)} {gs : List (Str × D)}, XFs K B fs gs → XFs K B' fs gs
  | [], [], h => h
  | p :: ps, q :: qs, h => ⟨h.1, dp_mono e _ _ h.2.1, XFs.mono e h.2.2⟩
  | [], _ :: _, h => h.elim
  | _ :: _, [], h => h.elim
def ExcO (cls : Value) (d : Option Addr) (a : Addr) : HO := .ext fun h => ∃ (oe : Obj) (vs : Array Value), h.get? a = some oe ∧ Zc cls d oe ∧ oe.data = .fields vs
mutual
def TreAt (K : PySem.W.Frag) (B H : Hp) : Tre → V → Prop
  | .dat d, v => Dp K B v d
  | .hole k, v => v = .ref k
  | .ld a ds, v => v = .ref a ∧ ∃ vs, H a = some (.lst vs) ∧ DpAll K B vs ds
  | .lst a xs, v => v = .ref a ∧ ∃ vs, H a = some (.lst vs) ∧ TreAll K B H xs vs
  | .tup a xs, v => v = .ref a ∧ ∃ vs, H a = some (.tup vs) ∧ TreAll K B H xs vs
  | .ins a dx cls ns xs, v => v = .ref a ∧ ∃ vs, H a = some (.ins (He.ga K cls) dx (ns.zip vs)) ∧ H dx = some (.own a) ∧ ns.length = vs.length ∧ TreAll K B H xs vs
  | .exc a da x, v => v = .ref a ∧ H a = some (ExcO (.ref (He.ga K x.cls)) da a) ∧ ((da = none ∧ x.fs = []) ∨ (x.fs ≠ [] ∧ ∃ b fs, da = some b ∧ H b = some (.xd fs) ∧ XFs K B fs x.fs))
def TreAll (K : PySem.W.Frag) (B H : Hp) : List Tre → List V → Prop
  | [], vs => vs = []
  | x :: xs, vs => ∃ v ws, vs = v :: ws ∧ TreAt K B H x v ∧ TreAll K B H xs ws
end
mutual
theorem TreAt.mono {K : PySem.W.Frag} {B B' H H' : Hp} (e : Same B B') : ∀ (l : Tre) (v : V), (∀ a ∈ l.foot, ∀ u, H a = some u → H' a = some u) → TreAt K B H l v → TreAt K B' H' l v
  | .dat d, v, _, h => dp_mono e _ _ h
  | .hole k, v, _, h => h
  | .ld a ds, v, k, h => by
    obtain ⟨h1, vs, h2, h3⟩ := h
    exact ⟨h1, vs, k a (by simp [Tre.foot]) _ h2, dpAll_mono e _ _ h3⟩
  | .lst a xs, v, k, h => by
    obtain ⟨h1, vs, h2, h3⟩ := h
    exact ⟨h1, vs, k a (by simp [Tre.foot]) _ h2, TreAll.mono e xs vs (fun b hb => k b (by simp [Tre.foot, hb])) h3⟩
  | .tup a xs, v, k, h => by
    obtain ⟨h1, vs, h2, h3⟩ := h
    exact ⟨h1, vs, k a (by simp [Tre.foot]) _ h2, TreAll.mono e xs vs (fun b hb => k b (by simp [Tre.foot, hb])) h3⟩
  | .ins a dx cls ns xs, v, k, h => by
    obtain ⟨h1, vs, h2, h4, h5, h3⟩ := h
    exact ⟨h1, vs, k a (by simp [Tre.foot]) _ h2, k dx (by simp [Tre.foot]) _ h4, h5, TreAll.mono e xs vs (fun b hb => k b (by simp [Tre.foot, hb])) h3⟩
  | .exc a da x, v, k, h => by
    obtain ⟨h1, h2, h3⟩ := h
    refine ⟨h1, k a (by simp [Tre.foot]) _ h2, h3.imp id fun ⟨q1, b, fs, q2, q3, q4⟩ => ⟨q1, b, fs, q2, k b ?_ _ q3, q4.mono e⟩⟩
    rw [q2]; simp [Tre.foot]
theorem TreAll.mono {K : PySem.W.Frag} {B B' H H' : Hp} (e : Same B B') : ∀ (xs : List Tre) (vs : List V), (∀ a ∈ Tre.foots xs, ∀ u, H a = some u → H' a = some u) → TreAll K B H xs vs → TreAll K B' H' xs vs
  | [], vs, _, h => h
  | x :: xs, vs, k, h => by
    obtain ⟨v, ws, h1, h2, h3⟩ := h
    exact ⟨v, ws, h1, TreAt.mono e x v (fun b hb => k b (by simp [Tre.foots, hb])) h2, TreAll.mono e xs ws (fun b hb => k b (by simp [Tre.foots, hb])) h3⟩
end
mutual
theorem TreAt.there {K : PySem.W.Frag} {B H : Hp} : ∀ (l : Tre) (v : V), TreAt K B H l v → ∀ a ∈ l.foot, ∃ u, H a = some u
  | .dat d, v, h, a, ha => by simp [Tre.foot] at ha
  | .hole k, v, h, a, ha => by simp [Tre.foot] at ha
  | .ld b ds, v, h, a, ha => by
    obtain ⟨h1, vs, h2, h3⟩ := h
    rw [Tre.foot, List.mem_singleton] at ha
    exact ⟨_, by rw [ha]; exact h2⟩
  | .lst b xs, v, h, a, ha => by
    obtain ⟨h1, vs, h2, h3⟩ := h
    rw [Tre.foot, List.mem_cons] at ha
    rcases ha with rfl | ha
    · exact ⟨_, h2⟩
    · exact TreAll.there xs vs h3 a ha
  | .tup b xs, v, h, a, ha => by
    obtain ⟨h1, vs, h2, h3⟩ := h
    rw [Tre.foot, List.mem_cons] at ha
    rcases ha with rfl | ha
    · exact ⟨_, h2⟩
    · exact TreAll.there xs vs h3 a ha
  | .ins b dx cls ns xs, v, h, a, ha => by
    obtain ⟨h1, vs, h2, h4, h5, h3⟩ := h
    rw [Tre.foot, List.mem_cons, List.mem_cons] at ha
    rcases ha with rfl | rfl | ha
    · exact ⟨_, h2⟩
    · exact ⟨_, h4⟩
    · exact TreAll.there xs vs h3 a ha
  | .exc b da x, v, h, a, ha => by
    obtain ⟨h1, h2, h3⟩ := h
    rw [Tre.foot, List.mem_cons] at ha
    rcases ha with rfl | ha
    · exact ⟨_, h2⟩
    · rcases h3 with ⟨q, _⟩ | ⟨_, c, fs, q2, q3, _⟩
      · rw [q] at ha; simp at ha
      · rw [q2] at ha
        have e : a = c := by simpa using ha
        subst e
        exact ⟨_, q3⟩
theorem TreAll.there {K : PySem.W.Frag} {B H : Hp} : ∀ (xs : List Tre) (vs : List V), TreAll K B H xs vs → ∀ a ∈ Tre.foots xs, ∃ u, H a = some u
  | [], vs, h, a, ha => by simp [Tre.foots] at ha
  | x :: xs, vs, h, a, ha => by
    obtain ⟨v, ws, h1, h2, h3⟩ := h
    rw [Tre.foots, List.mem_append] at ha
    rcases ha with ha | ha
    · exact TreAt.there x v h2 a ha
    · exact TreAll.there xs ws h3 a ha
end
theorem TreAt.root {K : PySem.W.Frag} {B H : Hp} {l : Tre} {v : V} {a : Addr} (h : TreAt K B H l v) (e : l.root = some a) : v = .ref a ∧ a ∈ l.foot := by
  cases l with
  | dat d => cases e
  | hole k => cases e
  | ld b ds => cases e; exact ⟨h.1, by simp [Tre.foot]⟩
  | lst b xs => cases e; exact ⟨h.1, by simp [Tre.foot]⟩
  | tup b xs => cases e; exact ⟨h.1, by simp [Tre.foot]⟩
  | ins b dx cls ns xs => cases e; exact ⟨h.1, by simp [Tre.foot]⟩
  | exc b da x => cases e; exact ⟨h.1, by simp [Tre.foot]⟩
def PlainT (B : Hp) (x : V) : Prop := ∃ a o xs, x = .ref a ∧ B a = some (.frz o (.tup xs)) ∧ o.dict = none
theorem PlainT.mono {B B' : Hp} (e : Same B B') {x : V} : PlainT B x → PlainT B' x := fun ⟨a, o, xs, h1, h2, h3⟩ => ⟨a, o, xs, h1, e _ _ h2, h3⟩
def OwnF (K : PySem.W.Frag) (B H : Hp) (a : Addr) : OD → Prop
  | .lst ds => ∃ xs, H a = some (.lst xs) ∧ DpAll K B xs ds
  | .dct kvs => ∃ ks, H a = some (.dK ks) ∧ DpKV K B ks kvs
  | .dtt kvs => ∃ ks, H a = some (.dT ks) ∧ DpTV K B ks kvs
  | .lck k ob ks kvs => a = k ∧ H a = some (.frz ob (.dK ks)) ∧ DpKV K B ks kvs
  | .prp x y => ∃ v w, H a = some (.tup [v, w]) ∧ Dp K B v x ∧ Dp K B w y ∧ PlainT B w
  | .tre _ => False
def OwnAt (K : PySem.W.Frag) (B H : Hp) (a : Addr) : OD → Prop
  | .lst ds => ∃ xs, H a = some (.lst xs) ∧ DpAll K B xs ds
  | .dct kvs => ∃ ks, H a = some (.dK ks) ∧ DpKV K B ks kvs
  | .dtt kvs => ∃ ks, H a = some (.dT ks) ∧ DpTV K B ks kvs
  | .lck k ob ks kvs => a = k ∧ H a = some (.frz ob (.dK ks)) ∧ DpKV K B ks kvs
  | .prp x y => ∃ v w, H a = some (.tup [v, w]) ∧ Dp K B v x ∧ Dp K B w y ∧ PlainT B w
  | .tre l => l.root = some a ∧ TreAt K B H l (.ref a)
theorem OwnF.at_ {K : PySem.W.Frag} {B H : Hp} {a : Addr} {o : OD} (h : OwnF K B H a o) : OwnAt K B H a o ∧ o.fp a = [a] := by
  cases o with
  | lst ds => exact ⟨h, rfl⟩
  | dct kvs => exact ⟨h, rfl⟩
  | dtt kvs => exact ⟨h, rfl⟩
  | lck _ ob ks kvs => exact ⟨h, rfl⟩
  | prp x y => exact ⟨h, rfl⟩
  | tre l => exact h.elim
theorem OwnAt.root_mem {K : PySem.W.Frag} {B H : Hp} {a : Addr} {o : OD} (h : OwnAt K B H a o) : a ∈ o.fp a := by
  cases o with
  | lst ds => exact List.mem_singleton.mpr rfl
  | dct kvs => exact List.mem_singleton.mpr rfl
  | dtt kvs => exact List.mem_singleton.mpr rfl
  | lck _ ob ks kvs => exact List.mem_singleton.mpr rfl
  | prp x y => exact List.mem_singleton.mpr rfl
  | tre l => exact (h.2.root h.1).2
theorem OwnAt.mono {K : PySem.W.Frag} {B B' H H' : Hp} {a : Addr} {o : OD} (e : Same B B') (k : ∀ b ∈ o.fp a, ∀ u, H b = some u → H' b = some u) (h : OwnAt K B H a o) : OwnAt K B' H' a o := by
  cases o with
  | lst ds => obtain ⟨xs, h1, h2⟩ := h; exact ⟨xs, k a (List.mem_singleton.mpr rfl) _ h1, dpAll_mono e _ _ h2⟩
  | dct kvs => obtain ⟨ks, h1, h2⟩ := h; exact ⟨ks, k a (List.mem_singleton.mpr rfl) _ h1, h2.mono e⟩
  | dtt kvs => obtain ⟨ks, h1, h2⟩ := h; exact ⟨ks, k a (List.mem_singleton.mpr rfl) _ h1, h2.mono e⟩
  | lck _ ob ks kvs => obtain ⟨h0, h1, h2⟩ := h; exact ⟨h0, k a (List.mem_singleton.mpr rfl) _ h1, h2.mono e⟩
  | prp x y => obtain ⟨v, w, h1, h2, h3, h4⟩ := h; exact ⟨v, w, k a (List.mem_singleton.mpr rfl) _ h1, dp_mono e _ _ h2, dp_mono e _ _ h3, h4.mono e⟩
  | tre l => exact ⟨h.1, TreAt.mono e l _ k h.2⟩
theorem OwnAt.theres {K : PySem.W.Frag} {B H : Hp} {a : Addr} {o : OD} (h : OwnAt K B H a o) : ∀ b ∈ o.fp a, ∃ u, H b = some u := fun b hb => by
  cases o with
  | lst ds => obtain ⟨xs, h1, h2⟩ := h; rw [List.mem_singleton.mp hb]; exact ⟨_, h1⟩
  | dct kvs => obtain ⟨ks, h1, h2⟩ := h; rw [List.mem_singleton.mp hb]; exact ⟨_, h1⟩
  | dtt kvs => obtain ⟨ks, h1, h2⟩ := h; rw [List.mem_singleton.mp hb]; exact ⟨_, h1⟩
  | lck _ ob ks kvs => obtain ⟨h0, h1, h2⟩ := h; rw [List.mem_singleton.mp hb]; exact ⟨_, h1⟩
  | prp x y => obtain ⟨v, w, h1, h2⟩ := h; rw [List.mem_singleton.mp hb]; exact ⟨_, h1⟩
  | tre l => exact TreAt.there l _ h.2 b hb
theorem OwnAt.there {K : PySem.W.Frag} {B H : Hp} {a : Addr} {o : OD} (h : OwnAt K B H a o) : ∃ u, H a = some u := h.theres a h.root_mem

structure G where
  H0 : Hp
  tg : Nat → Addr
  Oa : List Addr
  P0 : List Addr
  L : Nat → Bool
  /-- from here on a tag is an address -/
  tn : Nat
  tn0 : 0 < tn
  tgA : ∀ a, tg (tn + a) = a

def RC (K : PySem.W.Frag) (g : G) (σ : L2.St) (B H : Hp) (ov : Option V) : C → Prop
  | .no => True
  | .v d => ∃ x, ov = some x ∧ Dp K B x d
  | .p d => ∃ x, ov = some x ∧ Dp K B x d ∧ PlainT B x
  | .own t o => ∃ a, ov = some (.ref a) ∧ OwnAt K B H a o ∧ (t ≠ 0 → g.tg t = a) ∧ (t = 0 → g.H0 a = none)
  | .pk i => ∃ x, ov = some x ∧ σ[i]? = some (some x)
  | .ln i => ∃ x, ov = some x ∧ σ[i]? = some (some x)
  | .sub _ _ k => ov = some (.ref k)
def RCs (K : PySem.W.Frag) (g : G) (σ : L2.St) (B H : Hp) : List (Option V) → List C → Prop
  | [], [] => True
  | v :: vs, c :: cs => RC K g σ B H v c ∧ RCs K g σ B H vs cs
  | _, _ => False
def footC : Option V → C → List Addr
  | some (.ref a), .own _ o => o.fp a
  | _, _ => []
def foot : List (Option V) → List C → List Addr
  | v :: vs, c :: cs => footC v c ++ foot vs cs
  | _, _ => []
abbrev tot (σ : L2.St) (vs : List V) (ρ : Rho) (cs : List C) : List Addr := foot (vs.map some) cs ++ foot σ ρ

structure SR (K : PySem.W.Frag) (g : G) (σ : L2.St) (vs : List V) (H : Hp) (ρ : Rho) (cs : List C) : Prop where
  fr : ∀ a o, g.H0 a = some o → a ∉ g.Oa → H a = some o
  dm : ∀ a o, g.H0 a = some o → ∃ o', H a = some o'
  pr : ∀ a ∈ g.P0, a ∉ g.Oa ∧ ∃ o, g.H0 a = some o
  nw : ∀ a ∈ tot σ vs ρ cs, a ∈ g.Oa ∨ g.H0 a = none
  nd : (tot σ vs ρ cs).Nodup
  sl : RCs K g [] (hide H (tot σ vs ρ cs ++ g.P0)) H σ ρ
  tp : RCs K g σ (hide H (tot σ vs ρ cs ++ g.P0)) H (vs.map some) cs
  pk : ∀ i, (C.pk i ∈ cs ∨ C.ln i ∈ cs) → g.L i = true

section
variable {K : PySem.W.Frag} {g : G} {σ σ' : L2.St} {B B' H H' : Hp} {v : Option V} {c : C}
theorem RC.mono (e : Same B B') (k : ∀ a ∈ footC v c, ∀ u, H a = some u → H' a = some u) (h : RC K g σ B H v c) : RC K g σ B' H' v c := by
  cases c with
  | no => trivial
  | v d => obtain ⟨x, h1, h2⟩ := h; exact ⟨x, h1, dp_mono e _ _ h2⟩
  | p d => obtain ⟨x, h1, h2, h3⟩ := h; exact ⟨x, h1, dp_mono e _ _ h2, h3.mono e⟩
  | own t o =>
    obtain ⟨a, h1, h2, h3⟩ := h
    subst h1
    exact ⟨a, rfl, h2.mono e k, h3⟩
  | pk i => exact h
  | ln i => exact h
  | sub i p k => exact h
theorem RCs.mono (e : Same B B') : ∀ {vs : List (Option V)} {cs : List C}, (∀ a ∈ foot vs cs, ∀ u, H a = some u → H' a = some u) → RCs K g σ B H vs cs → RCs K g σ B' H' vs cs
  | [], [], _, h => h
  | v :: vs, c :: cs, k, h => ⟨h.1.mono e fun a ha => k a (by simp [foot, ha]), RCs.mono e (fun a ha => k a (by simp [foot, ha])) h.2⟩
  | [], _ :: _, _, h => h.elim
  | _ :: _, [], _, h => h.elim
theorem RCs.len : ∀ {vs : List (Option V)} {cs : List C}, RCs K g σ B H vs cs → vs.length = cs.length
  | [], [], _ => rfl
  | _ :: _, _ :: _, h => by rw [List.length_cons, List.length_cons, RCs.len h.2]
  | [], _ :: _, h => h.elim
  | _ :: _, [], h => h.elim
theorem RCs.there : ∀ {vs : List (Option V)} {cs : List C}, RCs K g σ B H vs cs → ∀ a ∈ foot vs cs, ∃ u, H a = some u
  | [], [], _, a, ha => by simp [foot] at ha
  | v :: vs, c :: cs, h, a, ha => by
    rw [foot, List.mem_append] at ha
    rcases ha with ha | ha
    · cases c with
      | own t o =>
        obtain ⟨b, e, q, _⟩ := h.1
        subst e
        exact q.theres a ha
      | no => cases v with
        | none => simp [footC] at ha
        | some x => cases x <;> simp [footC] at ha
      | v d => cases v with
        | none => simp [footC] at ha
        | some x => cases x <;> simp [footC] at ha
      | p d => cases v with
        | none => simp [footC] at ha
        | some x => cases x <;> simp [footC] at ha
      | pk i => cases v with
        | none => simp [footC] at ha
        | some x => cases x <;> simp [footC] at ha
      | ln i => cases v with
        | none => simp [footC] at ha
        | some x => cases x <;> simp [footC] at ha
      | sub i p k => cases v with
        | none => simp [footC] at ha
        | some x => cases x <;> simp [footC] at ha
    · exact RCs.there h.2 a ha
  | [], _ :: _, h, _, _ => h.elim
  | _ :: _, [], h, _, _ => h.elim
theorem foot_app : ∀ {vs us : List (Option V)} {cs ds : List C}, vs.length = cs.length → foot (vs ++ us) (cs ++ ds) = foot vs cs ++ foot us ds
  | [], _, [], _, _ => rfl
  | v :: vs, us, c :: cs, ds, h => by
    show footC v c ++ foot (vs ++ us) (cs ++ ds) = (footC v c ++ foot vs cs) ++ foot us ds
    rw [foot_app (by simpa using h), List.append_assoc]
  | [], _, _ :: _, _, h => by simp at h
  | _ :: _, _, [], _, h => by simp at h
theorem RCs.app : ∀ {vs us : List (Option V)} {cs ds : List C}, RCs K g σ B H vs cs → RCs K g σ B H us ds → RCs K g σ B H (vs ++ us) (cs ++ ds)
  | [], _, [], _, _, h => h
  | _ :: _, _, _ :: _, _, h, h' => ⟨h.1, RCs.app h.2 h'⟩
  | [], _, _ :: _, _, h, _ => h.elim
  | _ :: _, _, [], _, h, _ => h.elim
theorem RCs.split : ∀ {vs us : List (Option V)} {cs ds : List C}, vs.length = cs.length → RCs K g σ B H (vs ++ us) (cs ++ ds) → RCs K g σ B H vs cs ∧ RCs K g σ B H us ds
  | [], _, [], _, _, h => ⟨trivial, h⟩
  | _ :: _, _, _ :: _, _, hl, h => ⟨⟨h.1, (RCs.split (by simpa using hl) h.2).1⟩, (RCs.split (by simpa using hl) h.2).2⟩
  | [], _, _ :: _, _, h, _ => by simp at h
  | _ :: _, _, [], _, h, _ => by simp at h
end

section
variable {K : PySem.W.Frag} {g : G} {σ σ' : L2.St} {vs vs' : List V} {H H' : Hp} {ρ ρ' : Rho} {cs cs' : List C}
theorem SR.there (h : SR K g σ vs H ρ cs) : ∀ a ∈ tot σ vs ρ cs, ∃ u, H a = some u := fun a ha => by
  rcases List.mem_append.mp ha with q | q
  · exact h.tp.there a q
  · exact h.sl.there a q
theorem SR.pdom (h : SR K g σ vs H ρ cs) : ∀ a ∈ g.P0, ∃ u, H a = some u := fun a ha => by
  obtain ⟨h1, o, h2⟩ := h.pr a ha
  exact ⟨o, h.fr a o h2 h1⟩
theorem SR.domO (h : SR K g σ vs H ρ cs) : ∀ a ∈ tot σ vs ρ cs ++ g.P0, ∃ u, H a = some u := fun a ha => (List.mem_append.mp ha).elim (h.there a) (h.pdom a)
theorem SR.pout (h : SR K g σ vs H ρ cs) : ∀ a ∈ tot σ vs ρ cs, a ∉ g.P0 := fun a ha hp => by
  obtain ⟨h1, o, h2⟩ := h.pr a hp
  rcases h.nw a ha with q | q
  · exact h1 q
  · rw [h2] at q; cases q
theorem hide_step {F F' P : List Addr} (keep : ∀ a o, a ∉ F → H a = some o → H' a = some o) (new : ∀ a ∈ F', a ∈ F ∨ H a = none) : Same (hide H (F ++ P)) (hide H' (F' ++ P)) := fun a o e => by
  obtain ⟨h1, h2⟩ := hide_some.mp e
  have hF : a ∉ F := fun z => h1 (List.mem_append_left _ z)
  have hP : a ∉ P := fun z => h1 (List.mem_append_right _ z)
  refine hide_some.mpr ⟨fun z => ?_, keep a o hF h2⟩
  rcases List.mem_append.mp z with z | z
  · rcases new a z with q | q
    · exact hF q
    · rw [h2] at q; cases q
  · exact hP z
theorem SR.gen (h : SR K g σ vs H ρ cs) (keep : ∀ a o, a ∉ tot σ vs ρ cs → H a = some o → H' a = some o) (dom : ∀ a o, H a = some o → ∃ o', H' a = some o') (new : ∀ a ∈ tot σ' vs' ρ' cs', a ∈ tot σ vs ρ cs ∨ H a = none) (nd : (tot σ' vs' ρ' cs').Nodup)
    (sl : Same (hide H (tot σ vs ρ cs ++ g.P0)) (hide H' (tot σ' vs' ρ' cs' ++ g.P0)) → RCs K g [] (hide H' (tot σ' vs' ρ' cs' ++ g.P0)) H' σ' ρ')
    (tp : Same (hide H (tot σ vs ρ cs ++ g.P0)) (hide H' (tot σ' vs' ρ' cs' ++ g.P0)) → RCs K g σ' (hide H' (tot σ' vs' ρ' cs' ++ g.P0)) H' (vs'.map some) cs')
    (pk : ∀ i, (C.pk i ∈ cs' ∨ C.ln i ∈ cs') → g.L i = true) : SR K g σ' vs' H' ρ' cs' := by
  have hB : Same (hide H (tot σ vs ρ cs ++ g.P0)) (hide H' (tot σ' vs' ρ' cs' ++ g.P0)) := hide_step keep new
  refine ⟨fun a o e n => ?_, fun a o e => ?_, h.pr, fun a ha => ?_, nd, sl hB, tp hB, pk⟩
  · refine keep a o (fun z => ?_) (h.fr a o e n)
    rcases h.nw a z with q | q
    · exact n q
    · rw [e] at q; cases q
  · obtain ⟨o', q⟩ := h.dm a o e
    exact dom a o' q
  · rcases new a ha with q | q
    · exact h.nw a q
    · cases e : g.H0 a with
      | none => exact .inr rfl
      | some o =>
        by_cases n : a ∈ g.Oa
        · exact .inl n
        · rw [h.fr a o e n] at q; cases q
def NewRes (K : PySem.W.Frag) (O : List Addr) (H H' : Hp) (v : V) : C → Prop
  | .v d => Dp K (hide H' O) v d
  | .p d => Dp K (hide H' O) v d ∧ PlainT (hide H' O) v
  | .own t o => t = 0 ∧ ∃ a, v = .ref a ∧ H a = none ∧ OwnF K (hide H' (a :: O)) H' a o
  | _ => False
theorem foot_cons_v {x : V} {d : D} : tot σ (x :: vs) ρ (.v d :: cs) = tot σ vs ρ cs := by
  show (footC (some x) (.v d) ++ foot (vs.map some) cs) ++ foot σ ρ = _
  have e : footC (some x) (.v d) = [] := by cases x <;> rfl
  rw [e]; rfl
theorem foot_cons_own {a : Addr} {t : Nat} {o : OD} : tot σ (.ref a :: vs) ρ (.own t o :: cs) = o.fp a ++ tot σ vs ρ cs := by
  show (o.fp a ++ foot (vs.map some) cs) ++ foot σ ρ = _
  rw [List.append_assoc]
theorem foot_cons_pk {x : V} {i : Nat} : tot σ (x :: vs) ρ (.pk i :: cs) = tot σ vs ρ cs := by
  show (footC (some x) (.pk i) ++ foot (vs.map some) cs) ++ foot σ ρ = _
  have e : footC (some x) (.pk i) = [] := by cases x <;> rfl
  rw [e]; rfl
theorem SR.res {v : V} {c : C} (h : SR K g σ vs H ρ cs) (e : Same H H') (r : NewRes K (tot σ vs ρ cs ++ g.P0) H H' v c) : SR K g σ (v :: vs) H' ρ (c :: cs) := by
  cases c with
  | no => exact r.elim
  | pk i => exact r.elim
  | ln i => exact r.elim
  | sub i p k => exact r.elim
  | v d =>
    have ft : tot σ (v :: vs) ρ (.v d :: cs) = tot σ vs ρ cs := foot_cons_v
    refine h.gen (fun a o _ q => e a o q) (fun a o q => ⟨o, e a o q⟩) (fun a ha => .inl (by rw [ft] at ha; exact ha)) (by rw [ft]; exact h.nd) (fun hB => h.sl.mono hB fun a _ u q => e a u q) (fun hB => ?_) (fun i hi => h.pk i (by simpa using hi))
    refine ⟨⟨v, rfl, ?_⟩, h.tp.mono hB fun a _ u q => e a u q⟩
    rw [ft]; exact r
  | p d =>
    have ft : tot σ (v :: vs) ρ (.p d :: cs) = tot σ vs ρ cs := by
      rw [show tot σ (v :: vs) ρ (.p d :: cs) = footC (some v) (.p d) ++ tot σ vs ρ cs from by
        show (footC (some v) (.p d) ++ foot (vs.map some) cs) ++ foot σ ρ = _
        rw [List.append_assoc]]
      cases v <;> rfl
    refine h.gen (fun a o _ q => e a o q) (fun a o q => ⟨o, e a o q⟩) (fun a ha => .inl (by rw [ft] at ha; exact ha)) (by rw [ft]; exact h.nd) (fun hB => h.sl.mono hB fun a _ u q => e a u q) (fun hB => ?_) (fun i hi => h.pk i (by simpa using hi))
    refine ⟨⟨v, rfl, ?_⟩, h.tp.mono hB fun a _ u q => e a u q⟩
    rw [ft]; exact r
  | own t o =>
    obtain ⟨rfl, a, rfl, na, oa⟩ := r
    obtain ⟨oa, fpa⟩ := oa.at_
    have ft : tot σ (.ref a :: vs) ρ (.own 0 o :: cs) = a :: tot σ vs ρ cs := by rw [foot_cons_own, fpa]; rfl
    refine h.gen (fun a o _ q => e a o q) (fun a o q => ⟨o, e a o q⟩) (fun b hb => ?_) ?_ (fun hB => h.sl.mono hB fun a _ u q => e a u q) (fun hB => ?_) (fun i hi => h.pk i (by simpa using hi))
    · rw [ft] at hb
      rcases List.mem_cons.mp hb with q | q
      · subst q; exact .inr na
      · exact .inl q
    · rw [ft]
      refine List.nodup_cons.mpr ⟨fun z => ?_, h.nd⟩
      obtain ⟨u, q⟩ := h.there a z
      rw [na] at q; cases q
    · refine ⟨⟨a, rfl, ?_, fun z => absurd rfl z, fun _ => ?_⟩, h.tp.mono hB fun a _ u q => e a u q⟩
      · rw [ft]; exact oa
      · cases z : g.H0 a with
        | none => rfl
        | some o =>
          obtain ⟨o', q⟩ := h.dm a o z
          rw [na] at q; cases q
theorem SR.grow (h : SR K g σ vs H ρ cs) (e : Same H H') : SR K g σ vs H' ρ cs :=
  h.gen (fun a o _ q => e a o q) (fun a o q => ⟨o, e a o q⟩) (fun a ha => .inl ha) h.nd (fun hB => h.sl.mono hB fun a _ u q => e a u q) (fun hB => h.tp.mono hB fun a _ u q => e a u q) h.pk
theorem tot_cons {x : V} {c : C} : tot σ (x :: vs) ρ (c :: cs) = footC (some x) c ++ tot σ vs ρ cs := by
  show (footC (some x) c ++ foot (vs.map some) cs) ++ foot σ ρ = _
  rw [List.append_assoc]
theorem SR.pop {x : V} {c : C} (h : SR K g σ (x :: vs) H ρ (c :: cs)) : SR K g σ vs H ρ cs := by
  have ft := tot_cons (σ := σ) (vs := vs) (ρ := ρ) (cs := cs) (x := x) (c := c)
  refine h.gen (fun _ _ _ q => q) (fun _ o q => ⟨o, q⟩) (fun a ha => .inl (by rw [ft]; exact List.mem_append_right _ ha)) ?_ (fun hB => h.sl.mono hB fun _ _ _ q => q) (fun hB => (RCs.mono hB (fun _ _ _ q => q) h.tp).2) (fun i hi => h.pk i (hi.imp (List.mem_cons_of_mem _) (List.mem_cons_of_mem _)))
  have q := h.nd
  rw [ft] at q
  exact (List.nodup_append.mp q).2.1
theorem SR.top {x : V} {d : D} (h : SR K g σ (x :: vs) H ρ (.v d :: cs)) : Dp K (hide H (tot σ vs ρ cs ++ g.P0)) x d := by
  obtain ⟨x', e, q⟩ := h.tp.1
  cases e
  rw [foot_cons_v] at q
  exact q
theorem SR.len (h : SR K g σ vs H ρ cs) : σ.length = ρ.length := h.sl.len
theorem SR.pops : ∀ {xs : List V} {ccs : List C}, xs.length = ccs.length → SR K g σ (xs ++ vs) H ρ (ccs ++ cs) → SR K g σ vs H ρ cs
  | [], [], _, h => h
  | _ :: xs, _ :: ccs, hl, h => SR.pops (xs := xs) (ccs := ccs) (by simpa using hl) h.pop
  | [], _ :: _, hl, _ => by simp at hl
  | _ :: _, [], hl, _ => by simp at hl
theorem tot_app {xs : List V} {ccs : List C} (hl : xs.length = ccs.length) : tot σ (xs ++ vs) ρ (ccs ++ cs) = foot (xs.map some) ccs ++ tot σ vs ρ cs := by
  show foot ((xs ++ vs).map some) (ccs ++ cs) ++ foot σ ρ = _
  rw [List.map_append, foot_app (by simpa using hl), List.append_assoc]
theorem SR.rot {x : V} {c : C} {xs : List V} {ccs : List C} (hl : xs.length = ccs.length) (h : SR K g σ (xs ++ x :: vs) H ρ (ccs ++ c :: cs)) : SR K g σ (x :: (xs ++ vs)) H ρ (c :: (ccs ++ cs)) := by
  have e1 : tot σ (xs ++ x :: vs) ρ (ccs ++ c :: cs) = foot (xs.map some) ccs ++ (footC (some x) c ++ tot σ vs ρ cs) := by rw [tot_app hl, tot_cons]
  have e2 : tot σ (x :: (xs ++ vs)) ρ (c :: (ccs ++ cs)) = footC (some x) c ++ (foot (xs.map some) ccs ++ tot σ vs ρ cs) := by rw [tot_cons, tot_app hl]
  have pm : (foot (xs.map some) ccs ++ (footC (some x) c ++ tot σ vs ρ cs)).Perm (footC (some x) c ++ (foot (xs.map some) ccs ++ tot σ vs ρ cs)) := by
    exact List.perm_append_comm_assoc _ _ _
  refine h.gen (fun _ _ _ q => q) (fun _ o q => ⟨o, q⟩) (fun a ha => .inl ?_) ?_ (fun hB => h.sl.mono hB fun _ _ _ q => q) (fun hB => ?_) (fun i hi => h.pk i ?_)
  · rw [e1]; rw [e2] at ha; exact pm.mem_iff.mpr ha
  · rw [e2]; have q := h.nd; rw [e1] at q; exact pm.nodup_iff.mp q
  · have q := RCs.mono hB (fun _ _ _ q => q) h.tp
    rw [List.map_append] at q
    obtain ⟨q1, q2, q3⟩ := RCs.split (by simpa using hl) q
    rw [List.map_cons, List.map_append]
    exact ⟨q2, q1.app q3⟩
  · simp only [List.mem_append, List.mem_cons] at hi ⊢
    rcases hi with (h1 | h1 | h1) | (h1 | h1 | h1) <;> simp [h1]
theorem SR.unrot {x : V} {c : C} {xs : List V} {ccs : List C} (hl : xs.length = ccs.length) (h : SR K g σ (x :: (xs ++ vs)) H ρ (c :: (ccs ++ cs))) : SR K g σ (xs ++ x :: vs) H ρ (ccs ++ c :: cs) := by
  have e1 : tot σ (xs ++ x :: vs) ρ (ccs ++ c :: cs) = foot (xs.map some) ccs ++ (footC (some x) c ++ tot σ vs ρ cs) := by rw [tot_app hl, tot_cons]
  have e2 : tot σ (x :: (xs ++ vs)) ρ (c :: (ccs ++ cs)) = footC (some x) c ++ (foot (xs.map some) ccs ++ tot σ vs ρ cs) := by rw [tot_cons, tot_app hl]
  have pm : (foot (xs.map some) ccs ++ (footC (some x) c ++ tot σ vs ρ cs)).Perm (footC (some x) c ++ (foot (xs.map some) ccs ++ tot σ vs ρ cs)) := by
    exact List.perm_append_comm_assoc _ _ _
  refine h.gen (fun _ _ _ q => q) (fun _ o q => ⟨o, q⟩) (fun a ha => .inl ?_) ?_ (fun hB => h.sl.mono hB fun _ _ _ q => q) (fun hB => ?_) (fun i hi => h.pk i ?_)
  · rw [e2]; rw [e1] at ha; exact pm.mem_iff.mp ha
  · rw [e1]; have q := h.nd; rw [e2] at q; exact pm.nodup_iff.mpr q
  · have q := RCs.mono hB (fun _ _ _ q => q) h.tp
    rw [List.map_cons, List.map_append] at q
    obtain ⟨q2, q1⟩ := q
    obtain ⟨q1, q3⟩ := RCs.split (by simpa using hl) q1
    rw [List.map_append, List.map_cons]
    exact q1.app ⟨q2, q3⟩
  · simp only [List.mem_append, List.mem_cons] at hi ⊢
    rcases hi with (h1 | h1 | h1) | (h1 | h1 | h1) <;> simp [h1]
end

/-! ### slots -/
@[reducible] def rget : Rho → Nat → C
  | [], _ => .no
  | c :: _, 0 => c
  | _ :: ρ, n + 1 => rget ρ n
@[reducible] def rset : Rho → Nat → C → Rho
  | [], _, _ => []
  | _ :: ρ, 0, c => c :: ρ
  | c' :: ρ, n + 1, c => c' :: rset ρ n c
@[simp] theorem rget_zero {c : C} {ρ : Rho} : rget (c :: ρ) 0 = c := rfl
@[simp] theorem rget_succ {c : C} {ρ : Rho} {n : Nat} : rget (c :: ρ) (n + 1) = rget ρ n := rfl
@[simp] theorem rset_zero {c c' : C} {ρ : Rho} : rset (c' :: ρ) 0 c = c :: ρ := rfl
@[simp] theorem rset_succ {c c' : C} {ρ : Rho} {n : Nat} : rset (c' :: ρ) (n + 1) c = c' :: rset ρ n c := rfl
@[reducible] def dat (ρ : Rho) : C → Option D
  | .v d => some d
  | .p d => some d
  | .own _ (.lst ds) => some (.list ds)
  | .ln i => match rget ρ i with
    | .own _ (.lst ds) => some (.list ds)
    | .v d => some d
    | .p d => some d
    | _ => none
  | _ => none
@[reducible] def lfree : D → Bool
  | .list _ => false
  | .dict _ => false
  | .tuple ds => lfreeAll ds
  | _ => true
where lfreeAll : List D → Bool
  | [] => true
  | d :: ds => lfree d && lfreeAll ds
@[reducible] def C.lf : C → Bool
  | .v d => lfree d
  | .p d => lfree d
  | .own _ (.lst ds) => lfree.lfreeAll ds
  | _ => false
section
variable {K : PySem.W.Frag} {g : G} {σ σ' : L2.St} {vs vs' : List V} {B B' H H' : Hp} {ρ ρ' : Rho} {cs cs' : List C}
theorem seqT_lf {A O : List Addr} (hA : ∀ a ∈ A, ∃ xs, H a = some (.lst xs)) {a : Addr} {xs : List V} (h : SqT K (hide H O) a xs) : SqT K (hide H (A ++ O)) a xs := by
  rcases h with (h | ⟨o, h⟩) | h
  · obtain ⟨h1, h2⟩ := hide_some.mp h
    refine .inl (.inl (hide_some.mpr ⟨fun z => ?_, h2⟩))
    rcases List.mem_append.mp z with z | z
    · obtain ⟨ys, e⟩ := hA a z
      rw [h2] at e; cases e
    · exact h1 z
  · obtain ⟨h1, h2⟩ := hide_some.mp h
    refine .inl (.inr ⟨o, hide_some.mpr ⟨fun z => ?_, h2⟩⟩)
    rcases List.mem_append.mp z with z | z
    · obtain ⟨ys, e⟩ := hA a z
      rw [h2] at e; cases e
    · exact h1 z
  · exact .inr h
mutual
theorem dp_lf {A O : List Addr} (hA : ∀ a ∈ A, ∃ xs, H a = some (.lst xs)) : ∀ (d : D) (v : V), lfree d = true → Dp K (hide H O) v d → Dp K (hide H (A ++ O)) v d
  | .none, _, _, h => by cases h; exact .non
  | .bool b, _, _, h => by cases h; exact .bl b
  | .int i, _, _, h => by cases h; exact .int i
  | .str x, _, _, h => by cases h; exact .str x
  | .list ds, _, q, _ => by simp [lfree] at q
  | .tuple ds, _, q, h => by
    cases h with
    | tup hs ha => exact .tup (seqT_lf hA hs) (dpAll_lf hA ds _ (by simpa [lfree] using q) ha)
  | .dict _, _, q, _ => by simp [lfree] at q
theorem dpAll_lf {A O : List Addr} (hA : ∀ a ∈ A, ∃ xs, H a = some (.lst xs)) : ∀ (ds : List D) (vs : List V), lfree.lfreeAll ds = true → DpAll K (hide H O) vs ds → DpAll K (hide H (A ++ O)) vs ds
  | [], _, _, h => by cases h; exact .nil
  | d :: ds, _, q, h => by
    have q' : lfree d = true ∧ lfree.lfreeAll ds = true := by simpa [lfree.lfreeAll] using q
    cases h with
    | cons h1 h2 => exact .cons (dp_lf hA d _ q'.1 h1) (dpAll_lf hA ds _ q'.2 h2)
end
theorem NewRes.lent {A O : List Addr} {v : V} {c : C} (hA : ∀ a ∈ A, ∃ xs, H a = some (.lst xs)) (e : Same H H') (hc : c.lf = true) (r : NewRes K O H H' v c) : NewRes K (A ++ O) H H' v c := by
  have hA' : ∀ a ∈ A, ∃ xs, H' a = some (.lst xs) := fun a ha => let ⟨xs, q⟩ := hA a ha; ⟨xs, e _ _ q⟩
  cases c with
  | v d => exact dp_lf hA' d v hc r
  | p d =>
    refine ⟨dp_lf hA' d v hc r.1, ?_⟩
    obtain ⟨a, o, xs, e1, e2, e3⟩ := r.2
    obtain ⟨q1, q2⟩ := hide_some.mp e2
    refine ⟨a, o, xs, e1, hide_some.mpr ⟨fun z => ?_, q2⟩, e3⟩
    rcases List.mem_append.mp z with z | z
    · obtain ⟨ys, w⟩ := hA' a z
      rw [q2] at w; cases w
    · exact q1 z
  | own t o =>
    obtain ⟨h0, a, e1, na, oa⟩ := r
    refine ⟨h0, a, e1, na, ?_⟩
    cases o with
    | dct _ => cases hc
    | dtt _ => cases hc
    | lck _ _ _ _ => cases hc
    | prp _ _ => cases hc
    | tre _ => cases hc
    | lst ds =>
      obtain ⟨xs, h1, h2⟩ := oa
      refine ⟨xs, h1, ?_⟩
      have q := dpAll_lf hA' ds xs hc h2
      have e2 : hide H' (A ++ a :: O) = hide H' (a :: (A ++ O)) := hide_congr fun b => by
        simp only [List.mem_append, List.mem_cons]
        constructor
        · rintro (z | z | z) <;> simp [z]
        · rintro (z | z | z) <;> simp [z]
      rw [e2] at q
      exact q
  | no => exact r
  | pk i => exact r
  | ln i => exact r
  | sub i p k => exact r
theorem NewRes.congr {O O' : List Addr} {v : V} {c : C} (h : ∀ a, a ∈ O ↔ a ∈ O') (r : NewRes K O H H' v c) : NewRes K O' H H' v c := by
  cases c with
  | v d =>
    show Dp K (hide H' O') v d
    rw [← hide_congr h]; exact r
  | p d =>
    show Dp K (hide H' O') v d ∧ PlainT (hide H' O') v
    rw [← hide_congr h]; exact r
  | own t o =>
    obtain ⟨h0, a, e1, na, oa⟩ := r
    refine ⟨h0, a, e1, na, ?_⟩
    rw [← hide_congr (O := a :: O) (fun b => by simp [h b])]; exact oa
  | no => exact r
  | pk i => exact r
  | ln i => exact r
  | sub i p k => exact r
theorem RCs.at_ : ∀ {σ0 : List (Option V)} {ρ : Rho} {i : Nat}, RCs K g σ B H σ0 ρ → rget ρ i ≠ .no → ∃ ov, σ0[i]? = some ov ∧ RC K g σ B H ov (rget ρ i)
  | [], [], i, _, h => absurd rfl h
  | ov :: σ0, c :: ρ, 0, h, _ => ⟨ov, rfl, h.1⟩
  | ov :: σ0, c :: ρ, i + 1, h, hn => by
    obtain ⟨ov', e, q⟩ := RCs.at_ (i := i) h.2 hn
    exact ⟨ov', by simpa using e, q⟩
  | [], _ :: _, _, h, _ => h.elim
  | _ :: _, [], _, h, _ => h.elim
theorem foot_at : ∀ {σ0 : List (Option V)} {ρ : Rho} {i : Nat} {a : Addr} {t : Nat} {o : OD}, σ0[i]? = some (some (.ref a)) → rget ρ i = .own t o → ∀ b ∈ o.fp a, b ∈ foot σ0 ρ
  | [], _, i, _, _, _, h, _ => by simp at h
  | ov :: σ0, [], i, _, _, _, _, h => by cases h
  | ov :: σ0, c :: ρ, 0, a, t, o, h1, h2 => by
    have e1 : ov = some (.ref a) := by simpa using h1
    have e2 : c = .own t o := h2
    subst e1; subst e2
    intro b hb
    exact List.mem_append_left _ hb
  | ov :: σ0, c :: ρ, i + 1, a, t, o, h1, h2 => fun b hb => by
    show b ∈ footC ov c ++ foot σ0 ρ
    exact List.mem_append_right _ (foot_at (i := i) (by simpa using h1) h2 b hb)
theorem SR.own {i t : Nat} {o : OD} (h : SR K g σ vs H ρ cs) (e : rget ρ i = .own t o) : ∃ a, σ[i]? = some (some (.ref a)) ∧ a ∈ foot σ ρ ∧ OwnAt K (hide H (tot σ vs ρ cs ++ g.P0)) H a o ∧ (t ≠ 0 → g.tg t = a) ∧ (t = 0 → g.H0 a = none) := by
  obtain ⟨ov, e1, q⟩ := h.sl.at_ (i := i) (by rw [e]; exact fun z => nomatch z)
  rw [e] at q
  obtain ⟨a, e2, q1, q2⟩ := q
  subst e2
  exact ⟨a, e1, foot_at e1 e a q1.root_mem, q1, q2⟩
theorem SR.slot {i : Nat} {d : D} (h : SR K g σ vs H ρ cs) (e : rget ρ i = .v d) : ∃ x, σ[i]? = some (some x) ∧ Dp K (hide H (tot σ vs ρ cs ++ g.P0)) x d := by
  obtain ⟨ov, e1, q⟩ := h.sl.at_ (i := i) (by rw [e]; exact fun z => nomatch z)
  rw [e] at q
  obtain ⟨x, e2, q1⟩ := q
  subst e2
  exact ⟨x, e1, q1⟩
theorem SR.slotP {i : Nat} {d : D} (h : SR K g σ vs H ρ cs) (e : rget ρ i = .p d) : ∃ x, σ[i]? = some (some x) ∧ Dp K (hide H (tot σ vs ρ cs ++ g.P0)) x d ∧ PlainT (hide H (tot σ vs ρ cs ++ g.P0)) x := by
  obtain ⟨ov, e1, q⟩ := h.sl.at_ (i := i) (by rw [e]; exact fun z => nomatch z)
  rw [e] at q
  obtain ⟨x, e2, q1⟩ := q
  subst e2
  exact ⟨x, e1, q1⟩
def lentA (σ : L2.St) (ρ : Rho) : List C → List Addr
  | [] => []
  | .ln i :: cs => (match σ[i]?, rget ρ i with
    | some (some (.ref a)), .own _ (.lst _) => [a]
    | _, _ => []) ++ lentA σ ρ cs
  | _ :: cs => lentA σ ρ cs
theorem lentA_mem : ∀ {ccs : List C} {a : Addr}, a ∈ lentA σ ρ ccs → ∃ i t ds, C.ln i ∈ ccs ∧ σ[i]? = some (some (.ref a)) ∧ rget ρ i = .own t (.lst ds)
  | [], a, h => by simp [lentA] at h
  | c :: ccs, a, h => by
    have rec_ : a ∈ lentA σ ρ ccs → ∃ i t ds, C.ln i ∈ c :: ccs ∧ σ[i]? = some (some (.ref a)) ∧ rget ρ i = .own t (.lst ds) := fun z => by
      obtain ⟨i, t, ds, h1, h2⟩ := lentA_mem z
      exact ⟨i, t, ds, List.mem_cons_of_mem _ h1, h2⟩
    cases c with
    | ln i =>
      rw [lentA, List.mem_append] at h
      rcases h with h | h
      · revert h
        split
        · rename_i b t ds e1 e2
          intro h
          have e3 : a = b := by simpa using h
          subst e3
          exact ⟨i, t, ds, List.mem_cons_self, e1, e2⟩
        · intro h; simp at h
      · exact rec_ h
    | no => exact rec_ h
    | v d => exact rec_ h
    | p d => exact rec_ h
    | own t o => exact rec_ h
    | pk i => exact rec_ h
    | sub i p k => exact rec_ h
theorem mem_lentA : ∀ {ccs : List C} {a : Addr} {i t : Nat} {ds : List D}, C.ln i ∈ ccs → σ[i]? = some (some (.ref a)) → rget ρ i = .own t (.lst ds) → a ∈ lentA σ ρ ccs
  | [], _, _, _, _, h, _, _ => by simp at h
  | c :: ccs, a, i, t, ds, h, h1, h2 => by
    rcases List.mem_cons.mp h with e | h
    · subst e
      rw [lentA, h1, h2]
      simp
    · have q := mem_lentA h h1 h2
      cases c with
      | ln j => rw [lentA]; exact List.mem_append_right _ q
      | sub j p k => exact q
      | no => exact q
      | v d => exact q
      | p d => exact q
      | own t o => exact q
      | pk i => exact q
@[reducible] def C.isLn : C → Bool
  | .ln _ => true
  | _ => false
theorem lentA_none : ∀ {ccs : List C}, ccs.any C.isLn = false → lentA σ ρ ccs = []
  | [], _ => rfl
  | c :: ccs, h => by
    have h' : c.isLn = false ∧ ccs.any C.isLn = false := by simpa using h
    have r := lentA_none h'.2
    cases c with
    | ln i => simp [C.isLn] at h'
    | sub i p k => exact r
    | no => exact r
    | v d => exact r
    | p d => exact r
    | own t o => exact r
    | pk i => exact r
def dats (ρ : Rho) : List C → Option (List D)
  | [] => some []
  | c :: cs => match dat ρ c, dats ρ cs with
    | some d, some ds => some (d :: ds)
    | _, _ => none
theorem SR.use {xs : List V} {ccs : List C} {ds : List D} (h : SR K g σ (xs ++ vs) H ρ (ccs ++ cs)) (hl : xs.length = ccs.length) (hd : dats ρ ccs = some ds) :
    ∃ O, (∀ a ∈ O, a ∈ tot σ vs ρ cs ++ g.P0) ∧ DpAll K (hide H O) xs ds ∧ ∀ H' v c, Same H H' → NewRes K O H H' v c → (ccs.any C.isLn = true → c.lf = true) → NewRes K (tot σ vs ρ cs ++ g.P0) H H' v c := by
  refine ⟨(tot σ vs ρ cs ++ g.P0).filter fun a => decide (a ∉ lentA σ ρ ccs), fun a ha => (List.mem_filter.mp ha).1, ?_, fun H' v c e r hc => ?_⟩
  · -- every operand reads as its data
    have big : ∀ a, a ∈ (tot σ vs ρ cs ++ g.P0).filter (fun a => decide (a ∉ lentA σ ρ ccs)) → a ∈ tot σ (xs ++ vs) ρ (ccs ++ cs) ++ g.P0 := fun a ha => by
      rw [tot_app hl]
      rcases List.mem_append.mp (List.mem_filter.mp ha).1 with q | q
      · exact List.mem_append_left _ (List.mem_append_right _ q)
      · exact List.mem_append_right _ q
    have up : Same (hide H (tot σ (xs ++ vs) ρ (ccs ++ cs) ++ g.P0)) (hide H ((tot σ vs ρ cs ++ g.P0).filter fun a => decide (a ∉ lentA σ ρ ccs))) := fun a o q => by
      obtain ⟨h1, h2⟩ := hide_some.mp q
      exact hide_some.mpr ⟨fun z => h1 (big a z), h2⟩
    have tp := h.tp
    rw [List.map_append] at tp
    have tp1 := (RCs.split (by simpa using hl) tp).1
    have nd := h.nd
    rw [tot_app hl] at nd
    have key : ∀ (ys : List V) (qs : List C) (es : List D), ys.length = qs.length → (∀ c ∈ qs, c ∈ ccs) → (∀ a ∈ foot (ys.map some) qs, a ∈ foot (xs.map some) ccs) → RCs K g σ (hide H (tot σ (xs ++ vs) ρ (ccs ++ cs) ++ g.P0)) H (ys.map some) qs → dats ρ qs = some es →
        DpAll K (hide H ((tot σ vs ρ cs ++ g.P0).filter fun a => decide (a ∉ lentA σ ρ ccs))) ys es := by
      intro ys
      induction ys with
      | nil =>
        intro qs es hlen _ _ _ hds
        cases qs with
        | nil => cases hds; exact .nil
        | cons _ _ => simp at hlen
      | cons y ys ih =>
        intro qs es hlen hin hft hrc hds
        cases qs with
        | nil => simp at hlen
        | cons q qs =>
          rw [dats] at hds
          cases e1 : dat ρ q with
          | none => rw [e1] at hds; cases hds
          | some d =>
            cases e2 : dats ρ qs with
            | none => rw [e1, e2] at hds; cases hds
            | some es' =>
              rw [e1, e2] at hds
              cases hds
              refine .cons ?_ (ih qs es' (by simpa using hlen) (fun c hc => hin c (List.mem_cons_of_mem _ hc)) (fun a ha => hft a (by rw [List.map_cons, foot]; exact List.mem_append_right _ ha)) hrc.2 e2)
              have hq := hrc.1
              cases q with
              | no => cases e1
              | pk i => cases e1
              | sub i p k => cases e1
              | v d' =>
                cases e1
                obtain ⟨x, e3, q1⟩ := hq
                cases e3
                exact dp_mono up _ _ q1
              | p d' =>
                cases e1
                obtain ⟨x, e3, q1, _⟩ := hq
                cases e3
                exact dp_mono up _ _ q1
              | own t o =>
                cases o with
                | dct _ => cases e1
                | dtt _ => cases e1
                | lck _ _ _ _ => cases e1
                | prp _ _ => cases e1
                | tre _ => cases e1
                | lst zs =>
                  cases e1
                  obtain ⟨a, e3, ⟨us, q1, q2⟩, _⟩ := hq
                  cases e3
                  have ha : a ∈ foot (xs.map some) ccs := hft a (by rw [List.map_cons, foot]; exact List.mem_append_left _ (by simp [footC]))
                  refine .lst (.inl (.inl (hide_some.mpr ⟨fun z => ?_, q1⟩))) (dpAll_mono up _ _ q2)
                  rcases List.mem_append.mp (List.mem_filter.mp z).1 with z | z
                  · exact (List.nodup_append.mp nd).2.2 a ha a z rfl
                  · exact h.pout a (by rw [tot_app hl]; exact List.mem_append_left _ ha) z
              | ln i =>
                obtain ⟨x, e3, q1⟩ := hq
                cases e3
                have hin' := hin (.ln i) List.mem_cons_self
                revert e1
                show (match rget ρ i with
                  | .own _ (.lst ds) => some (PyData.list ds)
                  | .v d => some d
                  | .p d => some d
                  | _ => none) = some d → _
                split
                · rename_i t zs eo
                  intro e1
                  cases e1
                  obtain ⟨a, e4, _, ⟨us, q2, q3⟩, _⟩ := h.own eo
                  rw [q1] at e4
                  cases e4
                  refine .lst (.inl (.inl (hide_some.mpr ⟨fun z => ?_, q2⟩))) (dpAll_mono up _ _ q3)
                  exact of_decide_eq_true (List.mem_filter.mp z).2 (mem_lentA hin' q1 eo)
                · rename_i d' eo
                  intro e1
                  cases e1
                  obtain ⟨x', e4, q2⟩ := h.slot eo
                  rw [q1] at e4
                  cases e4
                  exact dp_mono up _ _ q2
                · rename_i d' eo
                  intro e1
                  cases e1
                  obtain ⟨x', e4, q2, _⟩ := h.slotP eo
                  rw [q1] at e4
                  cases e4
                  exact dp_mono up _ _ q2
                · intro e1; cases e1
    exact key xs ccs ds hl (fun _ q => q) (fun _ q => q) tp1 hd
  · -- the answer
    cases hb : ccs.any C.isLn with
    | false =>
      have e0 := lentA_none (σ := σ) (ρ := ρ) hb
      refine r.congr fun a => ?_
      rw [e0]
      simp
    | true =>
      have hlst : ∀ a ∈ lentA σ ρ ccs, ∃ xs, H a = some (.lst xs) := fun a ha => by
        obtain ⟨i, t, zs, h1, h2, h3⟩ := lentA_mem ha
        obtain ⟨b, e4, _, ⟨us, q2, _⟩, _⟩ := h.own h3
        rw [h2] at e4
        cases e4
        exact ⟨us, q2⟩
      refine (NewRes.lent hlst e (hc hb) r).congr fun a => ?_
      simp only [List.mem_append, List.mem_filter, decide_not, Bool.not_eq_true', decide_eq_false_iff_not]
      constructor
      · rintro (q | ⟨q, _⟩)
        · obtain ⟨i, t, zs, h1, h2, h3⟩ := lentA_mem q
          obtain ⟨b, e4, q5, _⟩ := h.own h3
          rw [h2] at e4
          cases e4
          exact .inl (.inr q5)
        · exact q
      · intro q
        by_cases z : a ∈ lentA σ ρ ccs
        · exact .inl z
        · exact .inr ⟨q, z⟩
end
end DL

set_option Elab.async false
set_option linter.all false
set_option maxRecDepth 100000
set_option maxHeartbeats 4000000
/-! DL, expressions: each rule of the hand layer, said over data. -/
namespace DL
open PySem PySem.Spec PyProof.Rows L2

abbrev KC := C → Rho → Prop
abbrev KX := XD → Rho → Prop
abbrev WE := Rho → KC → KX → Prop
abbrev WT := Rho → (Bool → Rho → Prop) → KX → Prop
abbrev WA := Rho → (List C → Rho → Prop) → KX → Prop
def XRep (K : PySem.W.Frag) (B H : Hp) (x : XD) (cls : Value) (d : Option Addr) : Prop :=
  Value.ref (He.ga K x.cls) = cls ∧ ((d = none ∧ x.fs = []) ∨ (x.fs ≠ [] ∧ ∃ a fs, d = some a ∧ H a = some (.xd fs) ∧ XFs K B fs x.fs))
def XEnds (K : PySem.W.Frag) (g : G) (W : WX) (σ : L2.St) (ED : KX) : Prop :=
  ∀ x ρ' cls d H', SR K g σ [] H' ρ' [] → XRep K (hide H' (tot σ [] ρ' [] ++ g.P0)) H' x cls d → ED x ρ' → W cls d σ H'
def Sem (K : PySem.W.Frag) (g : G) (W : WX) (t : TE) (w : WE) : Prop :=
  ∀ (σ : L2.St) (vs : List V) (H : Hp) (ρ : Rho) (cs : List C) (QD : KC) (ED : KX) (Q : VK), SR K g σ vs H ρ cs → w ρ QD ED → XEnds K g W σ ED →
    (∀ v H' c ρ', SR K g σ (v :: vs) H' ρ' (c :: cs) → QD c ρ' → Q v H') → t σ H Q
def SemT (K : PySem.W.Frag) (g : G) (W : WX) (t : TT) (w : WT) : Prop :=
  ∀ (σ : L2.St) (vs : List V) (H : Hp) (ρ : Rho) (cs : List C) (QD : Bool → Rho → Prop) (ED : KX) (Q : Bool → Hp → Prop), SR K g σ vs H ρ cs → w ρ QD ED → XEnds K g W σ ED →
    (∀ b H' ρ', SR K g σ vs H' ρ' cs → QD b ρ' → Q b H') → t σ H Q
def SemA (K : PySem.W.Frag) (g : G) (W : WX) (t : TA) (w : WA) : Prop :=
  ∀ (σ : L2.St) (vs : List V) (H : Hp) (ρ : Rho) (cs : List C) (QD : List C → Rho → Prop) (ED : KX) (Q : List V → Hp → Prop), SR K g σ vs H ρ cs → w ρ QD ED → XEnds K g W σ ED →
    (∀ xs H' ccs ρ', xs.length = ccs.length → SR K g σ (xs ++ vs) H' ρ' (ccs ++ cs) → QD ccs ρ' → Q xs H') → t σ H Q
structure EE (X : Cx) (g : G) (W : WX) (e : Expr) (w : WE) : Prop where
  ex : ∃ t, PE X e t ∧ Sem X.K g W t w
structure ET (X : Cx) (g : G) (W : WX) (e : Expr) (w : WT) : Prop where
  ex : ∃ t, PT X e t ∧ SemT X.K g W t w
structure EW (X : Cx) (g : G) (W : WX) (e : Expr) (w : WT) : Prop where
  ex : ∃ t, PW X e t ∧ SemT X.K g W t w
structure EA (X : Cx) (g : G) (W : WX) (es : List Expr) (w : WA) : Prop where
  ex : ∃ t, PA X es t ∧ SemA X.K g W t w

@[reducible] def useK (ρ : Rho) : List C → (List D → Prop) → Prop
  | [], k => k []
  | c :: cs, k => match dat ρ c with
    | some d => useK ρ cs fun ds => k (d :: ds)
    | none => False
theorem useK_dats {ρ : Rho} : ∀ {cs : List C} {k : List D → Prop}, useK ρ cs k → ∃ ds, dats ρ cs = some ds ∧ k ds
  | [], k, h => ⟨[], rfl, h⟩
  | c :: cs, k, h => by
    unfold useK at h
    cases e : dat ρ c with
    | none => rw [e] at h; exact h.elim
    | some d =>
      rw [e] at h
      obtain ⟨ds, e2, q⟩ := useK_dats h
      refine ⟨d :: ds, ?_, q⟩
      unfold dats
      rw [e, e2]
@[reducible] def okR (cs : List C) (c : C) : Prop := cs.any C.isLn = true → c.lf = true
abbrev O2 := D → D → (C → Prop) → Prop
abbrev O1 := D → (C → Prop) → Prop
abbrev OL := List D → (C → Prop) → Prop
def Lift2 (K : PySem.W.Frag) (r : R2) (o : O2) : Prop :=
  ∀ (O : List Addr) (H : Hp) (x y : V) (dx dy : D) (QD : C → Prop) (Q : VK), (∀ a ∈ O, ∃ u, H a = some u) → Dp K (hide H O) x dx → Dp K (hide H O) y dy → o dx dy QD →
    (∀ v H' c, Same H H' → NewRes K O H H' v c → QD c → Q v H') → r x y H Q
def Lift1 (K : PySem.W.Frag) (r : V → Hp → VK → Prop) (o : O1) : Prop :=
  ∀ (O : List Addr) (H : Hp) (x : V) (dx : D) (QD : C → Prop) (Q : VK), (∀ a ∈ O, ∃ u, H a = some u) → Dp K (hide H O) x dx → o dx QD →
    (∀ v H' c, Same H H' → NewRes K O H H' v c → QD c → Q v H') → r x H Q
def LiftL (K : PySem.W.Frag) (r : List V → Hp → VK → Prop) (o : OL) : Prop :=
  ∀ (O : List Addr) (H : Hp) (xs : List V) (ds : List D) (QD : C → Prop) (Q : VK), (∀ a ∈ O, ∃ u, H a = some u) → DpAll K (hide H O) xs ds → o ds QD →
    (∀ v H' c, Same H H' → NewRes K O H H' v c → QD c → Q v H') → r xs H Q
@[reducible] def use2 (ρ : Rho) (c1 c2 : C) (o : O2) (Q : KC) : Prop := useK ρ [c2, c1] fun ds => match ds with
  | [d2, d1] => o d1 d2 fun c => okR [c2, c1] c ∧ Q c ρ
  | _ => False
@[reducible] def use1 (ρ : Rho) (c1 : C) (o : O1) (Q : KC) : Prop := useK ρ [c1] fun ds => match ds with
  | [d1] => o d1 fun c => okR [c1] c ∧ Q c ρ
  | _ => False
@[reducible] def useL (ρ : Rho) (cs : List C) (o : OL) (Q : KC) : Prop := useK ρ cs fun ds => o ds fun c => okR cs c ∧ Q c ρ

section
variable {K : PySem.W.Frag} {g : G} {W : WX} {σ : L2.St} {vs : List V} {H H' : Hp} {ρ : Rho} {cs : List C}
theorem SR.resV {v : V} {d : D} (h : SR K g σ vs H ρ cs) (e : Same H H') (r : Dp K (hide H' (tot σ vs ρ cs ++ g.P0)) v d) : SR K g σ (v :: vs) H' ρ (.v d :: cs) := SR.res (c := .v d) h e r
theorem SR.use2 {x y : V} {c1 c2 : C} {o : O2} {r : R2} {QD : KC} {Q : VK} (l : Lift2 K r o) (h : SR K g σ (y :: x :: vs) H ρ (c2 :: c1 :: cs)) (q : DL.use2 ρ c1 c2 o QD)
    (hQ : ∀ v H' c, SR K g σ (v :: vs) H' ρ (c :: cs) → QD c ρ → Q v H') : r x y H Q := by
  obtain ⟨ds, e, q⟩ := useK_dats q
  obtain ⟨O, hO, hd, fin⟩ := SR.use (xs := [y, x]) (ccs := [c2, c1]) h rfl e
  cases hd with
  | cons h2 hd =>
    cases hd with
    | cons h1 hd =>
      cases hd
      refine l O H x y _ _ _ Q (fun a ha => (SR.pops (xs := [y, x]) (ccs := [c2, c1]) rfl h).domO a (hO a ha)) h1 h2 q fun v H' c sm nr ⟨ok, qd⟩ => ?_
      exact hQ v H' c (SR.res (SR.pops (xs := [y, x]) (ccs := [c2, c1]) rfl h) sm (fin H' v c sm nr ok)) qd
theorem SR.use1 {x : V} {c1 : C} {o : O1} {r : V → Hp → VK → Prop} {QD : KC} {Q : VK} (l : Lift1 K r o) (h : SR K g σ (x :: vs) H ρ (c1 :: cs)) (q : DL.use1 ρ c1 o QD)
    (hQ : ∀ v H' c, SR K g σ (v :: vs) H' ρ (c :: cs) → QD c ρ → Q v H') : r x H Q := by
  obtain ⟨ds, e, q⟩ := useK_dats q
  obtain ⟨O, hO, hd, fin⟩ := SR.use (xs := [x]) (ccs := [c1]) h rfl e
  cases hd with
  | cons h1 hd =>
    cases hd
    refine l O H x _ _ Q (fun a ha => (SR.pops (xs := [x]) (ccs := [c1]) rfl h).domO a (hO a ha)) h1 q fun v H' c sm nr ⟨ok, qd⟩ => ?_
    exact hQ v H' c (SR.res (SR.pops (xs := [x]) (ccs := [c1]) rfl h) sm (fin H' v c sm nr ok)) qd
theorem SR.useL {xs : List V} {ccs : List C} {o : OL} {r : List V → Hp → VK → Prop} {QD : KC} {Q : VK} (l : LiftL K r o) (hl : xs.length = ccs.length) (h : SR K g σ (xs ++ vs) H ρ (ccs ++ cs)) (q : DL.useL ρ ccs o QD)
    (hQ : ∀ v H' c, SR K g σ (v :: vs) H' ρ (c :: cs) → QD c ρ → Q v H') : r xs H Q := by
  obtain ⟨ds, e, q⟩ := useK_dats q
  obtain ⟨O, hO, hd, fin⟩ := SR.use h hl e
  refine l O H xs ds _ Q (fun a ha => (SR.pops hl h).domO a (hO a ha)) hd q fun v H' c sm nr ⟨ok, qd⟩ => ?_
  exact hQ v H' c (SR.res (SR.pops hl h) sm (fin H' v c sm nr ok)) qd
end

/-! ### names, constants -/
@[reducible] def wVar (i : Nat) : WE := fun ρ Q _ => match rget ρ i with
  | .v d => Q (.v d) ρ
  | .p d => Q (.v d) ρ
  | _ => False
@[reducible] def wLn (i : Nat) : WE := fun ρ Q _ => match rget ρ i with
  | .v d => Q (.v d) ρ
  | .p d => Q (.v d) ρ
  | .own _ _ => Q (.ln i) ρ
  | _ => False
@[reducible] def wC (d : D) : WE := fun ρ Q _ => Q (.v d) ρ
section
variable {X : Cx} {g : G} {W : WX} {pos : Pos}
theorem sem_var {K : PySem.W.Frag} {i : Nat} : Sem K g W (tVar i) (wVar i) := by
  intro σ vs H ρ cs QD ED Q hS hw hX hQ
  unfold wVar at hw
  split at hw
  · rename_i d e
    obtain ⟨x, e1, q1⟩ := hS.slot e
    exact ⟨x, e1, hQ x H _ ρ (SR.resV hS (Same.refl H) q1) hw⟩
  · rename_i d e
    obtain ⟨x, e1, q1, _⟩ := hS.slotP e
    exact ⟨x, e1, hQ x H _ ρ (SR.resV hS (Same.refl H) q1) hw⟩
  · exact hw.elim
theorem ee_var {i : Nat} {x : Str} (h : PE X (.Name x pos) (tVar i)) : EE X g W (.Name x pos) (wVar i) := ⟨_, h, sem_var⟩
theorem SR.pushLn {K : PySem.W.Frag} {σ : L2.St} {vs : List V} {H : Hp} {ρ : Rho} {cs : List C} {i : Nat} {x : V} (h : SR K g σ vs H ρ cs) (e : σ[i]? = some (some x)) (hL : g.L i = true) : SR K g σ (x :: vs) H ρ (.ln i :: cs) := by
  have ft : tot σ (x :: vs) ρ (.ln i :: cs) = tot σ vs ρ cs := by
    rw [tot_cons]
    have e : footC (some x) (.ln i) = [] := by cases x <;> rfl
    rw [e]; rfl
  refine h.gen (fun _ _ _ q => q) (fun _ o q => ⟨o, q⟩) (fun a ha => .inl (by rw [ft] at ha; exact ha)) (by rw [ft]; exact h.nd) (fun hB => h.sl.mono hB fun _ _ _ q => q) (fun hB => ⟨⟨x, rfl, e⟩, h.tp.mono hB fun _ _ _ q => q⟩) (fun j hj => ?_)
  simp only [List.mem_cons] at hj
  rcases hj with (z | z) | (z | z)
  · cases z
  · exact h.pk j (.inl z)
  · cases z; exact hL
  · exact h.pk j (.inr z)
theorem SR.pushPk {K : PySem.W.Frag} {σ : L2.St} {vs : List V} {H : Hp} {ρ : Rho} {cs : List C} {i : Nat} {x : V} (h : SR K g σ vs H ρ cs) (e : σ[i]? = some (some x)) (hL : g.L i = true) : SR K g σ (x :: vs) H ρ (.pk i :: cs) := by
  have ft : tot σ (x :: vs) ρ (.pk i :: cs) = tot σ vs ρ cs := foot_cons_pk
  refine h.gen (fun _ _ _ q => q) (fun _ o q => ⟨o, q⟩) (fun a ha => .inl (by rw [ft] at ha; exact ha)) (by rw [ft]; exact h.nd) (fun hB => h.sl.mono hB fun _ _ _ q => q) (fun hB => ⟨⟨x, rfl, e⟩, h.tp.mono hB fun _ _ _ q => q⟩) (fun j hj => ?_)
  simp only [List.mem_cons] at hj
  rcases hj with (z | z) | (z | z)
  · cases z; exact hL
  · exact h.pk j (.inl z)
  · cases z
  · exact h.pk j (.inr z)
theorem sem_ln {K : PySem.W.Frag} {i : Nat} (hL : g.L i = true) : Sem K g W (tVar i) (wLn i) := by
  intro σ vs H ρ cs QD ED Q hS hw hX hQ
  unfold wLn at hw
  split at hw
  · rename_i d e
    obtain ⟨x, e1, q1⟩ := hS.slot e
    exact ⟨x, e1, hQ x H _ ρ (SR.resV hS (Same.refl H) q1) hw⟩
  · rename_i d e
    obtain ⟨x, e1, q1, _⟩ := hS.slotP e
    exact ⟨x, e1, hQ x H _ ρ (SR.resV hS (Same.refl H) q1) hw⟩
  · rename_i t o e
    obtain ⟨a, e1, _⟩ := hS.own e
    exact ⟨_, e1, hQ _ H _ ρ (hS.pushLn e1 hL) hw⟩
  · exact hw.elim
theorem ee_ln {i : Nat} {x : Str} (hL : g.L i = true) (h : PE X (.Name x pos) (tVar i)) : EE X g W (.Name x pos) (wLn i) := ⟨_, h, sem_ln hL⟩
theorem sem_C {K : PySem.W.Frag} {v : V} {d : D} (h : ∀ B, Dp K B v d) : Sem K g W (tC v) (wC d) := fun σ vs H ρ cs QD ED Q hS hw hX hQ => hQ v H _ ρ (SR.resV hS (Same.refl H) (h _)) hw
theorem ee_int {i j} : EE X g W (.Constant (.int i) j pos) (wC (.int i)) := ⟨_, pe_int, sem_C fun _ => .int i⟩
theorem ee_bl {b j} : EE X g W (.Constant (.bool b) j pos) (wC (.bool b)) := ⟨_, pe_bl, sem_C fun _ => .bl b⟩
theorem ee_non {j} : EE X g W (.Constant .none j pos) (wC .none) := ⟨_, pe_non, sem_C fun _ => .non⟩
theorem ee_str {x j} : EE X g W (.Constant (.str x) j pos) (wC (.str x)) := ⟨_, pe_str, sem_C fun _ => .str x⟩
theorem ee_gint {i : Int} {x : Str} {t : Tok} (hg : Gl X x) (hm : X.mg x = some (.int i t)) (hd : (x == ("__debug__" : Str)) = false := by decide) : EE X g W (.Name x pos) (wC (.int i)) := ⟨_, pe_glob (v := .int i) hg hm ⟨_, rfl⟩ hd, sem_C fun _ => .int i⟩
theorem ee_gstr {z x : Str} {t : Tok} (hg : Gl X x) (hm : X.mg x = some (.str z t)) (hd : (x == ("__debug__" : Str)) = false := by decide) : EE X g W (.Name x pos) (wC (.str z)) := ⟨_, pe_glob (v := .str z) hg hm ⟨_, rfl⟩ hd, sem_C fun _ => .str z⟩
end

/-! ### operators -/
@[reducible] def wB (o : O2) (wa wb : WE) : WE := fun ρ Q E => wa ρ (fun c1 ρ1 => wb ρ1 (fun c2 ρ2 => use2 ρ2 c1 c2 o Q) E) E
@[reducible] def wU (o : O1) (wa : WE) : WE := fun ρ Q E => wa ρ (fun c1 ρ1 => use1 ρ1 c1 o Q) E
section
variable {K : PySem.W.Frag} {g : G} {W : WX} {ta tb : TE} {wa wb : WE} {r : R2} {o : O2}
theorem sem_op (l : Lift2 K r o) (ha : Sem K g W ta wa) (hb : Sem K g W tb wb) : Sem K g W (tOp r ta tb) (wB o wa wb) := by
  intro σ vs H ρ cs QD ED Q hS hw hX hQ
  refine ha σ vs H ρ cs _ ED _ hS hw hX fun x H1 c1 ρ1 S1 q1 => ?_
  refine hb σ (x :: vs) H1 ρ1 (c1 :: cs) _ ED _ S1 q1 hX fun y H2 c2 ρ2 S2 q2 => ?_
  exact S2.use2 l q2 fun v H' c S3 q3 => hQ v H' c ρ2 S3 q3
theorem sem_un {r : V → Hp → VK → Prop} {o : O1} (l : Lift1 K r o) (ha : Sem K g W ta wa) : Sem K g W (tUn r ta) (wU o wa) := by
  intro σ vs H ρ cs QD ED Q hS hw hX hQ
  refine ha σ vs H ρ cs _ ED _ hS hw hX fun x H1 c1 ρ1 S1 q1 => ?_
  exact S1.use1 l q1 fun v H' c S3 q3 => hQ v H' c ρ1 S3 q3
end
@[reducible] def oI (f : Int → Int → D) : O2 := fun d1 d2 k => match d1, d2 with
  | .int i, .int j => k (.v (f i j))
  | _, _ => False
@[reducible] def oIc (P : Int → Int → Prop) (f : Int → Int → D) : O2 := fun d1 d2 k => match d1, d2 with
  | .int i, .int j => P i j ∧ k (.v (f i j))
  | _, _ => False
@[simp] theorem oI_int {f : Int → Int → D} {i j : Int} {k : C → Prop} : oI f (.int i) (.int j) k = k (.v (f i j)) := rfl
@[simp] theorem oIc_int {P : Int → Int → Prop} {f : Int → Int → D} {i j : Int} {k : C → Prop} : oIc P f (.int i) (.int j) k = (P i j ∧ k (.v (f i j))) := rfl
theorem lift_I {K : PySem.W.Frag} {gv : Int → Int → V} {f : Int → Int → D} (h : ∀ i j B, Dp K B (gv i j) (f i j)) : Lift2 K (rI0 gv) (oI f) := by
  intro O H x y dx dy QD Q _ hx hy q fin
  cases hx <;> try exact q.elim
  cases hy <;> try exact q.elim
  exact ⟨_, _, rfl, rfl, fin _ H (.v _) (Same.refl H) (h _ _ _) q⟩
theorem lift_Ic {K : PySem.W.Frag} {P P' : Int → Int → Prop} {gv : Int → Int → V} {f : Int → Int → D} (hp : ∀ i j, P i j → P' i j) (h : ∀ i j B, Dp K B (gv i j) (f i j)) : Lift2 K (rI P' gv) (oIc P f) := by
  intro O H x y dx dy QD Q _ hx hy q fin
  cases hx <;> try exact q.elim
  cases hy <;> try exact q.elim
  exact ⟨_, _, rfl, rfl, hp _ _ q.1, fin _ H (.v _) (Same.refl H) (h _ _ _) q.2⟩
abbrev oAdd : O2 := oI fun i j => .int (i + j)
abbrev oSub : O2 := oI fun i j => .int (i - j)
def MulOk (i j : Int) : Prop := IntMulOk i j
abbrev oMul : O2 := oIc MulOk fun i j => .int (i * j)
abbrev oDiv : O2 := oIc CDivW fun i j => .int (i / j)
abbrev oMod : O2 := oIc (fun _ j => 0 < j) fun i j => .int (i % j)
abbrev oPow : O2 := oIc CPow fun i j => .int (i ^ j.toNat)
abbrev oLt : O2 := oI fun i j => .bool (decide (i < j))
abbrev oLe : O2 := oI fun i j => .bool (decide (i ≤ j))
abbrev oGt : O2 := oI fun i j => .bool (decide (j < i))
abbrev oGe : O2 := oI fun i j => .bool (decide (j ≤ i))
theorem op_mulX {X : Cx} : OpR X (binaryOp .Mult) (rI MulOk fun i j => .int (i * j)) := opI fun _ _ _ _ _ _ _ hc q => mul_int q hc
theorem MulOk.left {i j : Int} (h : -(2 ^ 64) < i ∧ i < 2 ^ 64) : MulOk i j := CMul.ok (.inl h)
theorem MulOk.right {i j : Int} (h : -(2 ^ 64) < j ∧ j < 2 ^ 64) : MulOk i j := CMul.ok (.inr h)
section
variable {X : Cx} {g : G} {W : WX} {a b : Expr} {wa wb : WE} {pos : Pos}
theorem ee_op {op : Operator} {r : R2} {o : O2} (ho : OpR X (binaryOp op) r) (l : Lift2 X.K r o) (ha : EE X g W a wa) (hb : EE X g W b wb) : EE X g W (.BinOp a op b pos) (wB o wa wb) := by
  obtain ⟨ta, p1, s1⟩ := ha.ex
  obtain ⟨tb, p2, s2⟩ := hb.ex
  exact ⟨_, pe_op ho p1 p2, sem_op l s1 s2⟩
theorem ee_add (ha : EE X g W a wa) (hb : EE X g W b wb) : EE X g W (.BinOp a .Add b pos) (wB oAdd wa wb) := ee_op op_add (lift_I fun i j _ => .int (i + j)) ha hb
theorem ee_sub (ha : EE X g W a wa) (hb : EE X g W b wb) : EE X g W (.BinOp a .Sub b pos) (wB oSub wa wb) := ee_op op_sub (lift_I fun i j _ => .int (i - j)) ha hb
theorem ee_mul (ha : EE X g W a wa) (hb : EE X g W b wb) : EE X g W (.BinOp a .Mult b pos) (wB oMul wa wb) := ee_op op_mulX (lift_Ic (fun _ _ h => h) fun i j _ => .int (i * j)) ha hb
theorem ee_div (ha : EE X g W a wa) (hb : EE X g W b wb) : EE X g W (.BinOp a .FloorDiv b pos) (wB oDiv wa wb) := ee_op op_fdivW (lift_Ic (fun _ _ h => h) fun i j _ => .int (i / j)) ha hb
theorem ee_mod (ha : EE X g W a wa) (hb : EE X g W b wb) : EE X g W (.BinOp a .Mod b pos) (wB oMod wa wb) := ee_op op_mod (lift_Ic (fun _ _ h => h) fun i j _ => .int (i % j)) ha hb
theorem ee_pow (ha : EE X g W a wa) (hb : EE X g W b wb) : EE X g W (.BinOp a .Pow b pos) (wB oPow wa wb) := ee_op op_pow (lift_Ic (fun _ _ h => h) fun i j _ => .int (i ^ j.toNat)) ha hb
end
/-! ### comparisons -/
@[reducible] def oEq : O2 := fun d1 d2 k => SeqAt.shaped d1 = true ∧ SeqAt.shaped d2 = true ∧ k (.v (.bool (PyData.eqv d1 d2)))
@[reducible] def oNe : O2 := fun d1 d2 k => SeqAt.shaped d1 = true ∧ SeqAt.shaped d2 = true ∧ k (.v (.bool (!PyData.eqv d1 d2)))
theorem dp_hide {K : PySem.W.Frag} {H : Hp} {O : List Addr} {v : V} {d : D} (h : Dp K (hide H O) v d) : Dp K H v d := dp_mono (fun _ _ e => (hide_some.mp e).2) _ _ h
theorem lift_eq {K : PySem.W.Frag} : Lift2 K (rEqD K) oEq := fun O H x y dx dy QD Q _ hx hy q fin =>
  ⟨dx, dy, dp_hide hx, dp_hide hy, q.1, q.2.1, fin _ H (.v _) (Same.refl H) (.bl _) q.2.2⟩
theorem lift_ne {K : PySem.W.Frag} : Lift2 K (rNeD K) oNe := fun O H x y dx dy QD Q _ hx hy q fin =>
  ⟨dx, dy, dp_hide hx, dp_hide hy, q.1, q.2.1, fin _ H (.v _) (Same.refl H) (.bl _) q.2.2⟩
@[reducible] def oIsN : O1 := fun d k => k (.v (.bool (match d with
  | .none => true
  | _ => false)))
@[reducible] def oNotN : O1 := fun d k => k (.v (.bool (match d with
  | .none => false
  | _ => true)))
section
variable {X : Cx} {g : G} {W : WX} {a b c : Expr} {wa wb wc : WE} {pos : Pos}
theorem ee_cmp {op : CmpOp} {r : R2} {o : O2} (ho : OpR X (compareOp op) r) (l : Lift2 X.K r o) (ha : EE X g W a wa) (hb : EE X g W b wb) (hm : behindInMarks op b = false) : EE X g W (.Compare a [op] [b] pos) (wB o wa wb) := by
  obtain ⟨ta, p1, s1⟩ := ha.ex
  obtain ⟨tb, p2, s2⟩ := hb.ex
  exact ⟨_, pe_cmpR ho p1 p2 hm, sem_op l s1 s2⟩
theorem ee_lt (ha : EE X g W a wa) (hb : EE X g W b wb) : EE X g W (.Compare a [.Lt] [b] pos) (wB oLt wa wb) := ee_cmp op_lt (lift_I fun i j _ => .bl _) ha hb (nomark _)
theorem ee_le (ha : EE X g W a wa) (hb : EE X g W b wb) : EE X g W (.Compare a [.LtE] [b] pos) (wB oLe wa wb) := ee_cmp op_le (lift_I fun i j _ => .bl _) ha hb (nomark _)
theorem ee_ge (ha : EE X g W a wa) (hb : EE X g W b wb) : EE X g W (.Compare a [.GtE] [b] pos) (wB oGe wa wb) := ee_cmp op_ge (lift_I fun i j _ => .bl _) ha hb (nomark _)
theorem ee_eq (hu : X.A.units + 64 < cLine) (ha : EE X g W a wa) (hb : EE X g W b wb) : EE X g W (.Compare a [.Eq] [b] pos) (wB oEq wa wb) := ee_cmp (op_eqD hu) lift_eq ha hb (nomark _)
@[reducible] def wCh (o o' : O2) (wa wb wc : WE) : WE := fun ρ Q E => wa ρ (fun c1 ρ1 => wb ρ1 (fun c2 ρ2 => useK ρ2 [c2, c1] fun ds => match ds with
  | [d2, d1] => [c2, c1].any C.isLn = false ∧ o d1 d2 fun cr => match cr with
    | .v (.bool k) => if k = true then wc ρ2 (fun c3 ρ3 => useK ρ3 [c3] fun es => match es with
      | [d3] => [c3].any C.isLn = false ∧ o' d2 d3 fun c => Q c ρ3
      | _ => False) E else Q (.v (.bool false)) ρ2
    | _ => False
  | _ => False) E) E
end
theorem SR.frzAt {K : PySem.W.Frag} {g : G} {σ : L2.St} {vs : List V} {H : Hp} {ρ : Rho} {cs : List C} {x : V} {c : C} {d : D} (h : SR K g σ (x :: vs) H ρ (c :: cs)) (e : dat ρ c = some d) (hn : c.isLn = false) : SR K g σ (x :: vs) H ρ (.v d :: cs) := by
  obtain ⟨O, _, hd, fin⟩ := SR.use (xs := [x]) (ccs := [c]) (ds := [d]) h rfl (by unfold dats; rw [e]; rfl)
  have e0 : lentA σ ρ [c] = [] := lentA_none (by simp [hn])
  refine SR.res h.pop (Same.refl H) ?_
  cases hd with
  | cons h1 _ =>
    exact fin H x (.v d) (Same.refl H) h1 (fun z => by simp [hn] at z)
section
variable {K : PySem.W.Frag} {g : G} {W : WX} {ta tb tc : TE} {wa wb wc : WE} {r r' : R2} {o o' : O2}
theorem sem_chain (l : Lift2 K r o) (l' : Lift2 K r' o') (hr : ∀ x y H Q Q', (∀ z H', Q z H' → Q' z H') → r x y H Q → r x y H Q') (ha : Sem K g W ta wa) (hb : Sem K g W tb wb) (hc : Sem K g W tc wc) : Sem K g W (tChain r r' ta tb tc) (wCh o o' wa wb wc) := by
  intro σ vs H ρ cs QD ED Q hS hw hX hQ
  refine ha σ vs H ρ cs _ ED _ hS hw hX fun x H1 c1 ρ1 S1 q1 => ?_
  refine hb σ (x :: vs) H1 ρ1 (c1 :: cs) _ ED _ S1 q1 hX fun y H2 c2 ρ2 S2 q2 => ?_
  obtain ⟨ds, e, q⟩ := useK_dats q2
  cases e1 : dat ρ2 c1 with
  | none => simp [dats, e1] at e
  | some d1 =>
    cases e2 : dat ρ2 c2 with
    | none => simp [dats, e2] at e
    | some d2 =>
      have e' : ds = [d2, d1] := by simpa [dats, e1, e2] using e.symm
      subst e'
      obtain ⟨nl, q⟩ := q
      have n2 : c2.isLn = false ∧ c1.isLn = false := by simpa using nl
      have S3 : SR K g σ (y :: x :: vs) H2 ρ2 (.v d2 :: c1 :: cs) := S2.frzAt e2 n2.1
      have S4 : SR K g σ (x :: y :: vs) H2 ρ2 (.v d1 :: .v d2 :: cs) := SR.frzAt (SR.rot (xs := [y]) (ccs := [.v d2]) rfl S3) e1 n2.2
      have hx : Dp K (hide H2 (tot σ (y :: vs) ρ2 (.v d2 :: cs) ++ g.P0)) x d1 := S4.top
      have hy : Dp K (hide H2 (tot σ (y :: vs) ρ2 (.v d2 :: cs) ++ g.P0)) y d2 := by
        have q := S4.pop.top
        rw [foot_cons_v]; exact q
      refine l _ H2 x y d1 d2 _ _ S4.pop.domO hx hy q fun z H3 c sm nr qd => ?_
      split at qd
      · rename_i k
        cases nr
        have S5 : SR K g σ (y :: vs) H3 ρ2 (.v d2 :: cs) := S4.pop.grow sm
        refine ⟨k, rfl, ?_⟩
        cases k with
        | false =>
          rw [if_neg Bool.false_ne_true] at qd ⊢
          exact hQ _ H3 _ ρ2 (SR.resV S5.pop (Same.refl H3) (.bl false)) qd
        | true =>
          rw [if_pos rfl] at qd ⊢
          refine hc σ (y :: vs) H3 ρ2 (.v d2 :: cs) _ ED _ S5 qd hX fun w' H4 c3 ρ3 S6 q6 => ?_
          obtain ⟨es, e3, q6⟩ := useK_dats q6
          cases e4 : dat ρ3 c3 with
          | none => simp [dats, e4] at e3
          | some d3 =>
            have e5 : es = [d3] := by simpa [dats, e4] using e3.symm
            subst e5
            obtain ⟨nl3, q6⟩ := q6
            have S7 : SR K g σ (w' :: y :: vs) H4 ρ3 (.v d3 :: .v d2 :: cs) := S6.frzAt e4 (by simpa using nl3)
            have hw' : Dp K (hide H4 (tot σ vs ρ3 cs ++ g.P0)) w' d3 := by
              have q := S7.top
              rw [foot_cons_v] at q; exact q
            refine l' _ H4 y w' d2 d3 _ _ S7.pop.pop.domO S7.pop.top hw' q6 fun z H5 c sm nr qd => ?_
            exact hQ z H5 c ρ3 (SR.res S7.pop.pop sm nr) qd
      · exact qd.elim
end
section
variable {X : Cx} {g : G} {W : WX} {a b c : Expr} {wa wb wc : WE} {pos : Pos}
theorem rI0_mono {gv : Int → Int → V} : ∀ x y H Q Q', (∀ z H', Q z H' → Q' z H') → rI0 gv x y H Q → rI0 gv x y H Q' := fun x y H Q Q' h ⟨i, j, e1, e2, q⟩ => ⟨i, j, e1, e2, h _ _ q⟩
theorem ee_chain {op op' : CmpOp} {f f' : Int → Int → Bool} (ho : OpR X (compareOp op) (rI0 fun i j => .bl (f i j))) (ho' : OpR X (compareOp op') (rI0 fun i j => .bl (f' i j))) (ha : EE X g W a wa) (hb : EE X g W b wb) (hc : EE X g W c wc)
    (hm : lastMarks [op, op'] [b, c] = false := by with_unfolding_all rfl) : EE X g W (.Compare a [op, op'] [b, c] pos) (wCh (oI fun i j => .bool (f i j)) (oI fun i j => .bool (f' i j)) wa wb wc) := by
  obtain ⟨ta, p1, s1⟩ := ha.ex
  obtain ⟨tb, p2, s2⟩ := hb.ex
  obtain ⟨tc, p3, s3⟩ := hc.ex
  exact ⟨_, pe_chain ho ho' p1 p2 p3 hm, sem_chain (lift_I fun i j _ => .bl _) (lift_I fun i j _ => .bl _) rI0_mono s1 s2 s3⟩
end
/-! ### tests -/
@[reducible] def wTst (w : WE) : WT := fun ρ Q E => w ρ (fun c ρ1 => match c with
  | .v (.bool b) => Q b ρ1
  | _ => False) E
@[reducible] def wAnd (wt wu : WT) : WT := fun ρ Q E => wt ρ (fun b ρ1 => if b = true then wu ρ1 Q E else Q false ρ1) E
@[reducible] def wOr (wt wu : WT) : WT := fun ρ Q E => wt ρ (fun b ρ1 => if b = true then Q true ρ1 else wu ρ1 Q E) E
@[reducible] def wNot (wt : WT) : WT := fun ρ Q E => wt ρ (fun b ρ1 => Q (!b) ρ1) E
@[reducible] def wAndV (wa wb : WE) : WE := fun ρ Q E => wa ρ (fun c ρ1 => match c with
  | .v (.bool b) => if b = true then wb ρ1 Q E else Q (.v (.bool false)) ρ1
  | _ => False) E
@[reducible] def wOrV (wa wb : WE) : WE := fun ρ Q E => wa ρ (fun c ρ1 => match c with
  | .v (.bool b) => if b = true then Q (.v (.bool true)) ρ1 else wb ρ1 Q E
  | _ => False) E
@[reducible] def wNotV (wa : WE) : WE := fun ρ Q E => wa ρ (fun c ρ1 => match c with
  | .v (.bool b) => Q (.v (.bool (!b))) ρ1
  | _ => False) E
section
variable {K : PySem.W.Frag} {g : G} {W : WX}
theorem sem_tst {t : TE} {w : WE} (h : Sem K g W t w) : SemT K g W (tTest t) (wTst w) := by
  intro σ vs H ρ cs QD ED Q hS hw hX hQ
  refine h σ vs H ρ cs _ ED _ hS hw hX fun x H1 c1 ρ1 S1 q1 => ?_
  split at q1
  · rename_i b
    have e := S1.top
    cases e
    exact ⟨b, rfl, hQ b H1 ρ1 S1.pop q1⟩
  · exact q1.elim
theorem sem_and {t u : TT} {wt wu : WT} (h : SemT K g W t wt) (h' : SemT K g W u wu) : SemT K g W (tAnd t u) (wAnd wt wu) := by
  intro σ vs H ρ cs QD ED Q hS hw hX hQ
  refine h σ vs H ρ cs _ ED _ hS hw hX fun b H1 ρ1 S1 q1 => ?_
  cases b with
  | true => exact h' σ vs H1 ρ1 cs QD ED Q S1 q1 hX hQ
  | false => exact hQ false H1 ρ1 S1 q1
theorem sem_or {t u : TT} {wt wu : WT} (h : SemT K g W t wt) (h' : SemT K g W u wu) : SemT K g W (tOr t u) (wOr wt wu) := by
  intro σ vs H ρ cs QD ED Q hS hw hX hQ
  refine h σ vs H ρ cs _ ED _ hS hw hX fun b H1 ρ1 S1 q1 => ?_
  cases b with
  | true => exact hQ true H1 ρ1 S1 q1
  | false => exact h' σ vs H1 ρ1 cs QD ED Q S1 q1 hX hQ
theorem sem_not {t : TT} {wt : WT} (h : SemT K g W t wt) : SemT K g W (tNot t) (wNot wt) := by
  intro σ vs H ρ cs QD ED Q hS hw hX hQ
  exact h σ vs H ρ cs _ ED _ hS hw hX fun b H1 ρ1 S1 q1 => hQ _ H1 ρ1 S1 q1
theorem sem_andV {ta tb : TE} {wa wb : WE} (h : Sem K g W ta wa) (h' : Sem K g W tb wb) : Sem K g W (tAndV ta tb) (wAndV wa wb) := by
  intro σ vs H ρ cs QD ED Q hS hw hX hQ
  refine h σ vs H ρ cs _ ED _ hS hw hX fun x H1 c1 ρ1 S1 q1 => ?_
  split at q1
  · rename_i b
    have e := S1.top
    cases e
    refine ⟨b, rfl, ?_⟩
    cases b with
    | true => exact h' σ vs H1 ρ1 cs QD ED Q S1.pop q1 hX hQ
    | false => exact hQ _ H1 _ ρ1 (SR.resV S1.pop (Same.refl H1) (.bl false)) q1
  · exact q1.elim
theorem sem_orV {ta tb : TE} {wa wb : WE} (h : Sem K g W ta wa) (h' : Sem K g W tb wb) : Sem K g W (tOrV ta tb) (wOrV wa wb) := by
  intro σ vs H ρ cs QD ED Q hS hw hX hQ
  refine h σ vs H ρ cs _ ED _ hS hw hX fun x H1 c1 ρ1 S1 q1 => ?_
  split at q1
  · rename_i b
    have e := S1.top
    cases e
    refine ⟨b, rfl, ?_⟩
    cases b with
    | false => exact h' σ vs H1 ρ1 cs QD ED Q S1.pop q1 hX hQ
    | true => exact hQ _ H1 _ ρ1 (SR.resV S1.pop (Same.refl H1) (.bl true)) q1
  · exact q1.elim
theorem sem_notV {ta : TE} {wa : WE} (h : Sem K g W ta wa) : Sem K g W (tNotV ta) (wNotV wa) := by
  intro σ vs H ρ cs QD ED Q hS hw hX hQ
  refine h σ vs H ρ cs _ ED _ hS hw hX fun x H1 c1 ρ1 S1 q1 => ?_
  split at q1
  · rename_i b
    have e := S1.top
    cases e
    exact ⟨b, rfl, hQ _ H1 _ ρ1 (SR.resV S1.pop (Same.refl H1) (.bl _)) q1⟩
  · exact q1.elim
end
section
variable {X : Cx} {g : G} {W : WX} {a b c : Expr} {rest : List Expr} {wa wb wc : WE} {wt wu : WT} {pos : Pos}
theorem et_val (h : EE X g W a wa) (he : ∀ whole, isTrue a X.env whole = (do let v ← whole; standAt a.pos; holding [v] (truthy v)) := by intro _; rfl) : ET X g W a (wTst wa) := by
  obtain ⟨t, p, s⟩ := h.ex
  exact ⟨_, pt_val p he, sem_tst s⟩
theorem et_cmp {op : CmpOp} {r : R2} {o : O2} (ho : OpR X (compareOp op) r) (l : Lift2 X.K r o) (ha : EE X g W a wa) (hb : EE X g W b wb) (hm : behindInMarks op b = false) : ET X g W (.Compare a [op] [b] pos) (wTst (wB o wa wb)) := by
  obtain ⟨ta, p1, s1⟩ := ha.ex
  obtain ⟨tb, p2, s2⟩ := hb.ex
  exact ⟨_, pt_cmpR ho p1 p2 hm, sem_tst (sem_op l s1 s2)⟩
theorem et_lt (ha : EE X g W a wa) (hb : EE X g W b wb) : ET X g W (.Compare a [.Lt] [b] pos) (wTst (wB oLt wa wb)) := et_cmp op_lt (lift_I fun i j _ => .bl _) ha hb (nomark _)
theorem et_gt (ha : EE X g W a wa) (hb : EE X g W b wb) : ET X g W (.Compare a [.Gt] [b] pos) (wTst (wB oGt wa wb)) := et_cmp op_gt (lift_I fun i j _ => .bl _) ha hb (nomark _)
theorem et_ge (ha : EE X g W a wa) (hb : EE X g W b wb) : ET X g W (.Compare a [.GtE] [b] pos) (wTst (wB oGe wa wb)) := et_cmp op_ge (lift_I fun i j _ => .bl _) ha hb (nomark _)
theorem et_eq (hu : X.A.units + 64 < cLine) (ha : EE X g W a wa) (hb : EE X g W b wb) : ET X g W (.Compare a [.Eq] [b] pos) (wTst (wB oEq wa wb)) := et_cmp (op_eqD hu) lift_eq ha hb (nomark _)
theorem et_ne (hu : X.A.units + 64 < cLine) (ha : EE X g W a wa) (hb : EE X g W b wb) : ET X g W (.Compare a [.NotEq] [b] pos) (wTst (wB oNe wa wb)) := et_cmp (op_neD hu) lift_ne ha hb (nomark _)
theorem et_chain {op op' : CmpOp} {f f' : Int → Int → Bool} (ho : OpR X (compareOp op) (rI0 fun i j => .bl (f i j))) (ho' : OpR X (compareOp op') (rI0 fun i j => .bl (f' i j))) (ha : EE X g W a wa) (hb : EE X g W b wb) (hc : EE X g W c wc)
    (hm : lastMarks [op, op'] [b, c] = false := by with_unfolding_all rfl) : ET X g W (.Compare a [op, op'] [b, c] pos) (wTst (wCh (oI fun i j => .bool (f i j)) (oI fun i j => .bool (f' i j)) wa wb wc)) := by
  obtain ⟨ta, p1, s1⟩ := ha.ex
  obtain ⟨tb, p2, s2⟩ := hb.ex
  obtain ⟨tc, p3, s3⟩ := hc.ex
  exact ⟨_, pt_chain ho ho' p1 p2 p3 hm, sem_tst (sem_chain (lift_I fun i j _ => .bl _) (lift_I fun i j _ => .bl _) rI0_mono s1 s2 s3)⟩
theorem et_isN {j pos'} (ha : EE X g W a wa) : ET X g W (.Compare a [.Is] [.Constant .none j pos'] pos) (wTst (wU oIsN wa)) := by
  obtain ⟨ta, p1, s1⟩ := ha.ex
  refine ⟨_, pt_cmp (pc_isN p1), ?_⟩
  refine sem_tst (t := tIsN ta) fun σ vs H ρ cs QD ED Q hS hw hX hQ => ?_
  refine s1 σ vs H ρ cs _ ED _ hS hw hX fun x H1 c1 ρ1 S1 q1 => ?_
  refine S1.use1 (r := fun x H Q => Q (.bl (decide (x = .non))) H) (fun O H x dx QD Q _ hx q fin => ?_) q1 fun v H' c S3 q3 => hQ v H' c ρ1 S3 q3
  refine fin _ H (.v _) (Same.refl H) ?_ q
  cases hx <;> exact .bl _
theorem et_notN {j pos'} (ha : EE X g W a wa) : ET X g W (.Compare a [.IsNot] [.Constant .none j pos'] pos) (wTst (wU oNotN wa)) := by
  obtain ⟨ta, p1, s1⟩ := ha.ex
  refine ⟨_, pt_cmp (pc_notN p1), ?_⟩
  refine sem_tst (t := tNotN ta) fun σ vs H ρ cs QD ED Q hS hw hX hQ => ?_
  refine s1 σ vs H ρ cs _ ED _ hS hw hX fun x H1 c1 ρ1 S1 q1 => ?_
  refine S1.use1 (r := fun x H Q => Q (.bl (!decide (x = .non))) H) (fun O H x dx QD Q _ hx q fin => ?_) q1 fun v H' c S3 q3 => hQ v H' c ρ1 S3 q3
  refine fin _ H (.v _) (Same.refl H) ?_ q
  cases hx <;> exact .bl _
theorem ee_isN {j pos'} (ha : EE X g W a wa) : EE X g W (.Compare a [.Is] [.Constant .none j pos'] pos) (wU oIsN wa) := by
  obtain ⟨ta, p1, s1⟩ := ha.ex
  refine ⟨_, pe_cmp (pc_isN p1), ?_⟩
  refine fun σ vs H ρ cs QD ED Q hS hw hX hQ => ?_
  refine s1 σ vs H ρ cs _ ED _ hS hw hX fun x H1 c1 ρ1 S1 q1 => ?_
  refine S1.use1 (r := fun x H Q => Q (.bl (decide (x = .non))) H) (fun O H x dx QD Q _ hx q fin => ?_) q1 fun v H' c S3 q3 => hQ v H' c ρ1 S3 q3
  refine fin _ H (.v _) (Same.refl H) ?_ q
  cases hx <;> exact .bl _
theorem ew_and1 (h : ET X g W a wt) : EW X g W (.BoolOp .And [a] pos) wt := by
  obtain ⟨t, p, s⟩ := h.ex
  exact ⟨_, pw_and1 p, s⟩
theorem ew_or1 (h : ET X g W a wt) : EW X g W (.BoolOp .Or [a] pos) wt := by
  obtain ⟨t, p, s⟩ := h.ex
  exact ⟨_, pw_or1 p, s⟩
theorem ew_and (h : ET X g W a wt) (h' : EW X g W (.BoolOp .And (b :: rest) pos) wu) : EW X g W (.BoolOp .And (a :: b :: rest) pos) (wAnd wt wu) := by
  obtain ⟨t, p, s⟩ := h.ex
  obtain ⟨t', p', s'⟩ := h'.ex
  exact ⟨_, pw_and p p', sem_and s s'⟩
theorem ew_or (h : ET X g W a wt) (h' : EW X g W (.BoolOp .Or (b :: rest) pos) wu) : EW X g W (.BoolOp .Or (a :: b :: rest) pos) (wOr wt wu) := by
  obtain ⟨t, p, s⟩ := h.ex
  obtain ⟨t', p', s'⟩ := h'.ex
  exact ⟨_, pw_or p p', sem_or s s'⟩
theorem et_w (h : EW X g W a wt) : ET X g W a wt := by
  obtain ⟨t, p, s⟩ := h.ex
  exact ⟨_, p.pt, s⟩
theorem et_not (h : ET X g W a wt) : ET X g W (.UnaryOp .Not a pos) (wNot wt) := by
  obtain ⟨t, p, s⟩ := h.ex
  exact ⟨_, pt_not p, sem_not s⟩
theorem ee_one {op} (h : EE X g W a wa) : EE X g W (.BoolOp op [a] pos) wa := by
  obtain ⟨t, p, s⟩ := h.ex
  exact ⟨_, pe_one p, s⟩
theorem ee_and (h : EE X g W a wa) (h' : EE X g W (.BoolOp .And (b :: rest) pos) wb) : EE X g W (.BoolOp .And (a :: b :: rest) pos) (wAndV wa wb) := by
  obtain ⟨t, p, s⟩ := h.ex
  obtain ⟨t', p', s'⟩ := h'.ex
  exact ⟨_, pe_and p p', sem_andV s s'⟩
theorem ee_or (h : EE X g W a wa) (h' : EE X g W (.BoolOp .Or (b :: rest) pos) wb) : EE X g W (.BoolOp .Or (a :: b :: rest) pos) (wOrV wa wb) := by
  obtain ⟨t, p, s⟩ := h.ex
  obtain ⟨t', p', s'⟩ := h'.ex
  exact ⟨_, pe_or p p', sem_orV s s'⟩
theorem ee_not (h : EE X g W a wa) : EE X g W (.UnaryOp .Not a pos) (wNotV wa) := by
  obtain ⟨t, p, s⟩ := h.ex
  exact ⟨_, pe_not p, sem_notV s⟩
end
end DL

set_option Elab.async false
set_option linter.all false
set_option maxRecDepth 100000
set_option maxHeartbeats 4000000
/-! DL, arguments and calls; slots emptied and filled. -/
namespace DL
open PySem PySem.Spec PyProof.Rows L2

/-! ### slots -/
theorem rget_rset : ∀ {ρ : Rho} {i : Nat} {c : C}, i < ρ.length → rget (rset ρ i c) i = c
  | [], _, _, h => by simp at h
  | _ :: _, 0, _, _ => rfl
  | _ :: ρ, i + 1, c, h => rget_rset (ρ := ρ) (i := i) (by simpa using h)
theorem rset_rset : ∀ {ρ : Rho} {i : Nat} {c c' : C}, rset (rset ρ i c) i c' = rset ρ i c'
  | [], _, _, _ => rfl
  | _ :: _, 0, _, _ => rfl
  | _ :: ρ, i + 1, c, c' => by show _ :: rset (rset ρ i c) i c' = _ :: rset ρ i c'; rw [rset_rset]
theorem rset_len : ∀ {ρ : Rho} {i : Nat} {c : C}, (rset ρ i c).length = ρ.length
  | [], _, _ => rfl
  | _ :: _, 0, _ => rfl
  | _ :: ρ, i + 1, c => by show (rset ρ i c).length + 1 = ρ.length + 1; rw [rset_len]
theorem rget_lt : ∀ {ρ : Rho} {i : Nat}, rget ρ i ≠ .no → i < ρ.length
  | [], _, h => absurd rfl h
  | _ :: _, 0, _ => by simp
  | _ :: ρ, i + 1, h => by have := rget_lt (ρ := ρ) (i := i) h; simpa using this
theorem footC_no (v : Option V) : footC v .no = [] := by
  cases v with
  | none => rfl
  | some x => cases x <;> rfl
theorem footC_v (v : Option V) (d : D) : footC v (.v d) = [] := by
  cases v with
  | none => rfl
  | some x => cases x <;> rfl
theorem foot_clear : ∀ {σ : List (Option V)} {ρ : Rho} {i : Nat}, (foot σ (rset ρ i .no)).Sublist (foot σ ρ)
  | [], ρ, _ => by
    have e : ∀ r : Rho, foot [] r = [] := fun r => by cases r <;> rfl
    rw [e, e]; exact List.Sublist.slnil
  | _ :: _, [], _ => List.Sublist.refl _
  | v :: σ, c :: ρ, 0 => by
    show (footC v .no ++ foot σ ρ).Sublist (footC v c ++ foot σ ρ)
    rw [footC_no]
    exact List.sublist_append_right _ _
  | v :: σ, c :: ρ, i + 1 => by
    show (footC v c ++ foot σ (rset ρ i .no)).Sublist (footC v c ++ foot σ ρ)
    exact (foot_clear (i := i)).append_left _
theorem foot_out : ∀ {σ : List (Option V)} {ρ : Rho} {i : Nat} {a : Addr} {t : Nat} {o : OD}, σ[i]? = some (some (.ref a)) → rget ρ i = .own t o → (foot σ ρ).Perm (o.fp a ++ foot σ (rset ρ i .no))
  | [], _, _, _, _, _, h, _ => by simp at h
  | _ :: _, [], _, _, _, _, _, h => by cases h
  | v :: σ, c :: ρ, 0, a, t, o, h, h2 => by
    have e1 : v = some (.ref a) := by simpa using h
    have e2 : c = .own t o := h2
    subst e1; subst e2
    show (o.fp a ++ foot σ ρ).Perm (o.fp a ++ (footC (some (.ref a)) .no ++ foot σ ρ))
    rw [footC_no]
    exact List.Perm.refl _
  | v :: σ, c :: ρ, i + 1, a, t, o, h, h2 => by
    show (footC v c ++ foot σ ρ).Perm (o.fp a ++ (footC v c ++ foot σ (rset ρ i .no)))
    refine (List.Perm.append_left _ (foot_out (i := i) (by simpa using h) h2)).trans ?_
    exact List.perm_append_comm_assoc _ _ _
theorem foot_in : ∀ {σ : List (Option V)} {ρ : Rho} {i : Nat} {x : V} {c : C}, σ[i]? = some (some x) → i < ρ.length → rget ρ i = .no → (foot σ (rset ρ i c)).Perm (footC (some x) c ++ foot σ ρ)
  | [], _, _, _, _, h, _, _ => by simp at h
  | _ :: _, [], _, _, _, _, h, _ => by simp at h
  | v :: σ, c' :: ρ, 0, x, c, h, _, h2 => by
    have e1 : v = some x := by simpa using h
    have e2 : c' = .no := h2
    subst e1; subst e2
    show (footC (some x) c ++ foot σ ρ).Perm (footC (some x) c ++ (footC (some x) .no ++ foot σ ρ))
    rw [footC_no]
    exact List.Perm.refl _
  | v :: σ, c' :: ρ, i + 1, x, c, h, hl, h2 => by
    show (footC v c' ++ foot σ (rset ρ i c)).Perm (footC (some x) c ++ (footC v c' ++ foot σ ρ))
    refine (List.Perm.append_left _ (foot_in (i := i) (by simpa using h) (by simpa using hl) h2)).trans ?_
    exact List.perm_append_comm_assoc _ _ _
theorem foot_setNo : ∀ {σ : List (Option V)} {ρ : Rho} {i : Nat} {v : Option V}, rget ρ i = .no → foot (σ.set i v) ρ = foot σ ρ
  | [], _, _, _, _ => by simp
  | _ :: _, [], 0, _, _ => rfl
  | _ :: _, [], _ + 1, _, _ => rfl
  | v' :: σ, c :: ρ, 0, v, h => by
    have e : c = .no := h
    subst e
    show footC v .no ++ foot σ ρ = footC v' .no ++ foot σ ρ
    rw [footC_no, footC_no]
  | v' :: σ, c :: ρ, i + 1, v, h => by
    show footC v' c ++ foot (σ.set i v) ρ = footC v' c ++ foot σ ρ
    rw [foot_setNo (i := i) h]
section
variable {K : PySem.W.Frag} {g : G} {s : L2.St} {B H : Hp}
theorem RCs.rset : ∀ {σ : List (Option V)} {ρ : Rho} {i : Nat} {c : C} {ov : Option V}, RCs K g s B H σ ρ → σ[i]? = some ov → RC K g s B H ov c → RCs K g s B H σ (DL.rset ρ i c)
  | [], [], _, _, _, _, h, _ => by simp at h
  | v :: σ, c' :: ρ, 0, c, ov, h, e, q => by
    have e1 : v = ov := by simpa using e
    subst e1
    exact ⟨q, h.2⟩
  | v :: σ, c' :: ρ, i + 1, c, ov, h, e, q => ⟨h.1, RCs.rset (i := i) h.2 (by simpa using e) q⟩
  | [], _ :: _, _, _, _, h, _, _ => h.elim
  | _ :: _, [], _, _, _, h, _, _ => h.elim
theorem RCs.rsetNo : ∀ {σ : List (Option V)} {ρ : Rho} {i : Nat}, RCs K g s B H σ ρ → RCs K g s B H σ (DL.rset ρ i .no)
  | [], [], _, h => h
  | v :: σ, c' :: ρ, 0, h => ⟨trivial, h.2⟩
  | v :: σ, c' :: ρ, i + 1, h => ⟨h.1, RCs.rsetNo (i := i) h.2⟩
  | [], _ :: _, _, h => h.elim
  | _ :: _, [], _, h => h.elim
theorem RCs.setNo : ∀ {σ : List (Option V)} {ρ : Rho} {i : Nat} {v : Option V}, RCs K g s B H σ ρ → rget ρ i = .no → RCs K g s B H (σ.set i v) ρ
  | [], [], _, _, h, _ => h
  | _ :: _, c :: ρ, 0, v, h, e => by
    have e1 : c = .no := e
    subst e1
    exact ⟨trivial, h.2⟩
  | _ :: _, c' :: ρ, i + 1, v, h, e => ⟨h.1, RCs.setNo (i := i) h.2 e⟩
  | [], _ :: _, _, _, h, _ => h.elim
  | _ :: _, [], _, _, h, _ => h.elim
theorem RCs.slots {σ σ' : L2.St} : ∀ {vs : List (Option V)} {cs : List C}, (∀ j, (C.pk j ∈ cs ∨ C.ln j ∈ cs) → σ'[j]? = σ[j]?) → RCs K g σ B H vs cs → RCs K g σ' B H vs cs
  | [], [], _, h => h
  | v :: vs, c :: cs, hj, h => by
    refine ⟨?_, RCs.slots (fun j q => hj j (q.imp (List.mem_cons_of_mem _) (List.mem_cons_of_mem _))) h.2⟩
    have q := h.1
    cases c with
    | no => trivial
    | v d => exact q
    | p d => exact q
    | own t o => exact q
    | pk i =>
      obtain ⟨x, e1, e2⟩ := q
      exact ⟨x, e1, (hj i (.inl List.mem_cons_self)).trans e2⟩
    | ln i =>
      obtain ⟨x, e1, e2⟩ := q
      exact ⟨x, e1, (hj i (.inr List.mem_cons_self)).trans e2⟩
    | sub i p k => exact q
  | [], _ :: _, _, h => h.elim
  | _ :: _, [], _, h => h.elim
end
section
variable {K : PySem.W.Frag} {g : G} {σ σ' : L2.St} {vs vs' : List V} {H H' : Hp} {ρ ρ' : Rho} {cs cs' : List C} {i : Nat}
theorem SR.clear (h : SR K g σ vs H ρ cs) (i : Nat) : SR K g σ vs H (rset ρ i .no) cs := by
  have sl : (tot σ vs (rset ρ i .no) cs).Sublist (tot σ vs ρ cs) := foot_clear.append_left _
  exact h.gen (fun _ _ _ q => q) (fun _ o q => ⟨o, q⟩) (fun a ha => .inl (sl.subset ha)) (sl.nodup h.nd) (fun hB => (h.sl.mono hB fun _ _ _ q => q).rsetNo) (fun hB => h.tp.mono hB fun _ _ _ q => q) h.pk
theorem SR.setNo (h : SR K g σ vs H ρ cs) (e : rget ρ i = .no) (hj : ∀ j, (C.pk j ∈ cs ∨ C.ln j ∈ cs) → j ≠ i) (v : Option V) : SR K g (σ.set i v) vs H ρ cs := by
  have ft : tot (σ.set i v) vs ρ cs = tot σ vs ρ cs := by
    show foot (vs.map some) cs ++ foot (σ.set i v) ρ = _
    rw [foot_setNo e]
  refine h.gen (fun _ _ _ q => q) (fun _ o q => ⟨o, q⟩) (fun a ha => .inl (by rw [ft] at ha; exact ha)) (by rw [ft]; exact h.nd) (fun hB => (h.sl.mono hB fun _ _ _ q => q).setNo e) (fun hB => ?_) h.pk
  exact (h.tp.mono hB fun _ _ _ q => q).slots fun j q => List.getElem?_set_ne (hj j q).symm
@[reducible] def C.plain : C → Bool
  | .v _ => true
  | .p _ => true
  | .own _ _ => true
  | _ => false
theorem RC.plainσ {B : Hp} {ov : Option V} {c : C} (hc : c.plain = true) (h : RC K g σ B H ov c) : RC K g σ' B H ov c := by
  cases c with
  | v d => exact h
  | p d => exact h
  | own t o => exact h
  | no => cases hc
  | pk i => cases hc
  | ln i => cases hc
  | sub i p k => cases hc
theorem SR.moveIn {x : V} {c : C} (h : SR K g σ (x :: vs) H ρ (c :: cs)) (hc : c.plain = true) (e1 : σ[i]? = some (some x)) (e2 : rget ρ i = .no) : SR K g σ vs H (rset ρ i c) cs := by
  have hl : i < ρ.length := by
    rw [← h.len]; exact (List.getElem?_eq_some_iff.mp e1).1
  have pm : (tot σ vs (rset ρ i c) cs).Perm (tot σ (x :: vs) ρ (c :: cs)) := by
    rw [tot_cons]
    exact (List.Perm.append_left _ (foot_in e1 hl e2)).trans (List.perm_append_comm_assoc _ _ _)
  refine h.gen (fun _ _ _ q => q) (fun _ o q => ⟨o, q⟩) (fun a ha => .inl (pm.mem_iff.mp ha)) (pm.nodup_iff.mpr h.nd) (fun hB => ?_) (fun hB => (RCs.mono hB (fun _ _ _ q => q) h.tp).2) fun j q => h.pk j (q.imp (List.mem_cons_of_mem _) (List.mem_cons_of_mem _))
  refine (h.sl.mono hB fun _ _ _ q => q).rset e1 ?_
  exact (RCs.mono hB (fun _ _ _ q => q) h.tp).1.plainσ hc
theorem SR.assign {x : V} {c : C} (h : SR K g σ (x :: vs) H ρ (c :: cs)) (hc : c.plain = true) (hi : i < σ.length) (hj : ∀ j, (C.pk j ∈ cs ∨ C.ln j ∈ cs) → j ≠ i) : SR K g (σ.set i (some x)) vs H (rset ρ i c) cs := by
  have hl : i < ρ.length := by rw [← h.len]; exact hi
  have h1 := h.clear i
  have h2 := h1.setNo (i := i) (rget_rset hl) (fun j q => hj j ?_) (some x)
  · have h3 := h2.moveIn (i := i) hc (List.getElem?_set_self hi) (rget_rset hl)
    rw [rset_rset] at h3
    exact h3
  · have n1 : C.pk j ≠ c := fun z => by rw [← z] at hc; cases hc
    have n2 : C.ln j ≠ c := fun z => by rw [← z] at hc; cases hc
    rcases q with q | q
    · exact .inl ((List.mem_cons.mp q).resolve_left n1)
    · exact .inr ((List.mem_cons.mp q).resolve_left n2)
theorem SR.moveOut {x : V} {t : Nat} {o : OD} (h : SR K g σ (x :: vs) H ρ (.pk i :: cs)) (e : rget ρ i = .own t o) : σ[i]? = some (some x) ∧ SR K g σ (x :: vs) H (rset ρ i .no) (.own t o :: cs) := by
  obtain ⟨x', ex, e1⟩ := h.tp.1
  cases ex
  obtain ⟨a, e2, q1, q2, q3⟩ := h.own e
  rw [e1] at e2
  cases e2
  refine ⟨e1, ?_⟩
  have pm : (tot σ (.ref a :: vs) (rset ρ i .no) (.own t o :: cs)).Perm (tot σ (.ref a :: vs) ρ (.pk i :: cs)) := by
    rw [foot_cons_pk]
    rw [foot_cons_own]
    show (o.fp a ++ (foot (vs.map some) cs ++ foot σ (rset ρ i .no))).Perm (foot (vs.map some) cs ++ foot σ ρ)
    exact (List.perm_append_comm_assoc _ _ _).trans (List.Perm.append_left _ (foot_out e1 e).symm)
  refine h.gen (fun _ _ _ q => q) (fun _ o q => ⟨o, q⟩) (fun a ha => .inl (pm.mem_iff.mp ha)) (pm.nodup_iff.mpr h.nd) (fun hB => (h.sl.mono hB fun _ _ _ q => q).rsetNo) (fun hB => ?_) fun j q => h.pk j ?_
  · exact ⟨⟨a, rfl, q2.mono hB fun _ _ _ q => q, q3.1, q3.2⟩, (RCs.mono hB (fun _ _ _ q => q) h.tp).2⟩
  · simp only [List.mem_cons] at q ⊢
    rcases q with (z | z) | (z | z)
    · cases z
    · exact .inl (.inr z)
    · cases z
    · exact .inr (.inr z)
@[reducible] def frzC : C → C
  | .own _ (.lst ds) => .v (.list ds)
  | .p d => .v d
  | c => c
@[reducible] def frzs : List C → List C
  | [] => []
  | c :: cs => frzC c :: frzs cs
theorem frzs_eq : ∀ {cs : List C}, frzs cs = cs.map frzC
  | [] => rfl
  | c :: cs => by show frzC c :: frzs cs = _; rw [frzs_eq]; rfl
theorem footC_p (v : Option V) (d : D) : footC v (.p d) = [] := by
  cases v with
  | none => rfl
  | some x => cases x <;> rfl
theorem SR.unP {x : V} {d : D} (h : SR K g σ (x :: vs) H ρ (.p d :: cs)) : SR K g σ (x :: vs) H ρ (.v d :: cs) := by
  have ft : tot σ (x :: vs) ρ (.v d :: cs) = tot σ (x :: vs) ρ (.p d :: cs) := by rw [tot_cons, tot_cons, footC_v, footC_p]
  refine h.gen (fun _ _ _ q => q) (fun _ o q => ⟨o, q⟩) (fun a ha => .inl (by rw [ft] at ha; exact ha)) (by rw [ft]; exact h.nd) (fun hB => h.sl.mono hB fun _ _ _ q => q) (fun hB => ?_) fun j q => h.pk j ?_
  · obtain ⟨q1, q2⟩ := RCs.mono hB (fun _ _ _ q => q) h.tp
    obtain ⟨y, e, z1, z2⟩ := q1
    exact ⟨⟨y, e, z1⟩, q2⟩
  · simp only [List.mem_cons] at q ⊢
    rcases q with (z | z) | (z | z)
    · cases z
    · exact .inl (.inr z)
    · cases z
    · exact .inr (.inr z)
theorem SR.frzTop {x : V} {c : C} (h : SR K g σ (x :: vs) H ρ (c :: cs)) : SR K g σ (x :: vs) H ρ (frzC c :: cs) := by
  cases c with
  | own t o =>
    cases o with
    | lst ds => exact h.frzAt rfl rfl
    | dct _ => exact h
    | dtt _ => exact h
    | lck _ _ _ _ => exact h
    | prp _ _ => exact h
    | tre _ => exact h
  | no => exact h
  | v d => exact h
  | p d => exact h.unP
  | pk i => exact h
  | ln i => exact h
  | sub i p k => exact h
theorem SR.frzArgs : ∀ {xs : List V} {ccs : List C} {vs : List V} {cs : List C}, xs.length = ccs.length → SR K g σ (xs ++ vs) H ρ (ccs ++ cs) → SR K g σ (xs ++ vs) H ρ (ccs.map frzC ++ cs)
  | [], [], _, _, _, h => h
  | x :: xs, c :: ccs, vs, cs, hl, h => by
    have hl' : xs.length = ccs.length := by simpa using hl
    have h1 : SR K g σ (xs ++ x :: vs) H ρ (ccs ++ frzC c :: cs) := SR.unrot hl' (SR.frzTop h)
    have h2 := SR.frzArgs (xs := xs) (ccs := ccs) (vs := x :: vs) (cs := frzC c :: cs) hl' h1
    exact SR.rot (by simpa using hl') h2
  | [], _ :: _, _, _, h, _ => by simp at h
  | _ :: _, [], _, _, h, _ => by simp at h
end

/-! ### arguments -/
@[reducible] def wNil : WA := fun ρ Q _ => Q [] ρ
@[reducible] def wCons (we : WE) (wr : WA) : WA := fun ρ Q E => we ρ (fun c ρ1 => wr ρ1 (fun cs ρ2 => Q (c :: cs) ρ2) E) E
@[reducible] def wPk (i : Nat) : WE := fun ρ Q _ => match rget ρ i with
  | .own _ _ => Q (.pk i) ρ
  | _ => False
section
variable {X : Cx} {g : G} {W : WX} {e : Expr} {es : List Expr} {we : WE} {wr : WA} {pos : Pos}
theorem ea_nil : EA X g W [] wNil := ⟨_, pa_nil, fun σ vs H ρ cs QD ED Q hS hw hX hQ => hQ [] H [] ρ rfl hS hw⟩
theorem ea_cons (h : EE X g W e we) (hr : EA X g W es wr) (hs : starEach (e :: es) X.env = (false, eval e X.env) :: starEach es X.env := by rfl) : EA X g W (e :: es) (wCons we wr) := by
  obtain ⟨t, p, s⟩ := h.ex
  obtain ⟨u, p', s'⟩ := hr.ex
  refine ⟨_, pa_cons p p' hs, fun σ vs H ρ cs QD ED Q hS hw hX hQ => ?_⟩
  refine s σ vs H ρ cs _ ED _ hS hw hX fun x H1 c ρ1 S1 q1 => ?_
  refine s' σ (x :: vs) H1 ρ1 (c :: cs) _ ED _ S1 q1 hX fun xs H2 ccs ρ2 hl S2 q2 => ?_
  exact hQ (x :: xs) H2 (c :: ccs) ρ2 (by simp [hl]) (SR.rot hl S2) q2
theorem ee_pk {i : Nat} {x : Str} (hL : g.L i = true) (h : PE X (.Name x pos) (tVar i)) : EE X g W (.Name x pos) (wPk i) := by
  refine ⟨_, h, fun σ vs H ρ cs QD ED Q hS hw hX hQ => ?_⟩
  unfold wPk at hw
  split at hw
  · rename_i t o e
    obtain ⟨a, e1, _⟩ := hS.own e
    exact ⟨_, e1, hQ _ H _ ρ (hS.pushPk e1 hL) hw⟩
  · exact hw.elim
end

/-! ### displays, built-ins -/
@[reducible] def oTup : OL := fun ds k => ds.length ≤ 1000 ∧ k (.v (.tuple ds))
@[reducible] def oLst : OL := fun ds k => ds.length ≤ 1000 ∧ k (.own 0 (.lst ds))
theorem le1000 {n : Nat} (h : n ≤ 1000) : n ≤ sizeLine := Nat.le_of_lt (small1000 h)
theorem same_new {H : Hp} {p : Addr} {o : HO} (n : H p = none) : Same H (upd H p o) := fun b u q => by
  rw [upd_ne (ne_of_none q n)]; exact q
theorem new_tup {K : PySem.W.Frag} {O : List Addr} {H : Hp} {p : Addr} {xs : List V} {ds : List D} (n : H p = none) (hO : p ∉ O) (h : DpAll K (hide H O) xs ds) : Dp K (hide (upd H p (.tup xs)) O) (.ref p) (.tuple ds) := by
  refine .tup (.inl (.inl (hide_some.mpr ⟨hO, upd_same⟩))) (dpAll_mono (fun a o q => ?_) _ _ h)
  obtain ⟨h1, h2⟩ := hide_some.mp q
  exact hide_some.mpr ⟨h1, same_new n a o h2⟩
theorem new_lst {K : PySem.W.Frag} {O : List Addr} {H : Hp} {p : Addr} {xs : List V} {ds : List D} (n : H p = none) (h : DpAll K (hide H O) xs ds) : NewRes K O H (upd H p (.lst xs)) (.ref p) (.own 0 (.lst ds)) := by
  refine ⟨rfl, p, rfl, n, xs, upd_same, dpAll_mono (fun a o q => ?_) _ _ h⟩
  obtain ⟨h1, h2⟩ := hide_some.mp q
  refine hide_some.mpr ⟨fun z => ?_, same_new n a o h2⟩
  rcases List.mem_cons.mp z with z | z
  · rw [z, n] at h2; cases h2
  · exact h1 z
section
variable {K : PySem.W.Frag} {g : G} {W : WX} {ta : TA} {wa : WA}
@[reducible] def wL (o : OL) (wa : WA) : WE := fun ρ Q E => wa ρ (fun cs ρ1 => useL ρ1 cs o Q) E
theorem sem_L {r : List V → Hp → VK → Prop} {o : OL} (l : LiftL K r o) (ha : SemA K g W ta wa) : Sem K g W (tCB r ta) (wL o wa) := by
  intro σ vs H ρ cs QD ED Q hS hw hX hQ
  refine ha σ vs H ρ cs _ ED _ hS hw hX fun xs H1 ccs ρ1 hl S1 q1 => ?_
  exact SR.useL l hl S1 q1 fun v H' c S3 q3 => hQ v H' c ρ1 S3 q3
theorem lift_tup : LiftL K (fun xs H Q => xs.length ≤ sizeLine ∧ ∀ p, H p = none → Q (.ref p) (upd H p (.tup xs))) oTup := by
  intro O H xs ds QD Q hO hx q fin
  refine ⟨by rw [DL.DpAll.len hx]; exact le1000 q.1, fun p n => ?_⟩
  exact fin _ _ (.v _) (same_new n) (new_tup n (fun z => by obtain ⟨u, e⟩ := hO p z; rw [n] at e; cases e) hx) q.2
theorem lift_lst : LiftL K (fun xs H Q => xs.length ≤ sizeLine ∧ ∀ p, H p = none → Q (.ref p) (upd H p (.lst xs))) oLst := by
  intro O H xs ds QD Q hO hx q fin
  refine ⟨by rw [DL.DpAll.len hx]; exact le1000 q.1, fun p n => ?_⟩
  exact fin _ _ (.own 0 (.lst ds)) (same_new n) (new_lst n hx) q.2
end
section
variable {X : Cx} {g : G} {W : WX} {e : Expr} {es : List Expr} {wa : WA} {pos : Pos}
theorem ee_tup {x1} (h : EA X g W es wa) : EE X g W (.Tuple es x1 pos) (wL oTup wa) := by
  obtain ⟨t, p, s⟩ := h.ex
  exact ⟨_, pe_tup p, sem_L lift_tup s⟩
theorem ee_lst (h : EA X g W es wa) : EE X g W (.List es pos) (wL oLst wa) := by
  obtain ⟨t, p, s⟩ := h.ex
  exact ⟨_, pe_lst p, sem_L lift_lst s⟩
theorem ee_cb {x : Str} {p : Pos} {id : String} {r : List V → Hp → VK → Prop} {o : OL} (hc : CallR X (.builtin id) r) (l : LiftL X.K r o) (hg : Gl X x) (hm : X.mg x = none) (hv : bootBuiltins x = some (.builtin id)) (ha : EA X g W (e :: es) wa) (hn : x ≠ "__name__" := by decide)
    (hdb : (x == ("__debug__" : Str)) = false := by decide) (he : starEach (e :: es) X.env = (false, eval e X.env) :: starEach es X.env := by rfl) (hpl : (backTo pos (starEach es X.env)).any (·.1) = false := by rfl) : EE X g W (.Call (.Name x p) (e :: es) [] pos) (wL o wa) := by
  obtain ⟨t, q, s⟩ := ha.ex
  exact ⟨_, pe_callB hc hg hm hv q hn hdb he hpl, sem_L l s⟩
theorem ee_ct {x : Str} {p : Pos} {T : String} {r : List V → Hp → VK → Prop} {o : OL} (hc : CallR X (.type T) r) (l : LiftL X.K r o) (hg : Gl X x) (hm : X.mg x = none) (hv : bootBuiltins x = some (.type T)) (ha : EA X g W (e :: es) wa) (hn : x ≠ "__name__" := by decide)
    (hdb : (x == ("__debug__" : Str)) = false := by decide) (he : starEach (e :: es) X.env = (false, eval e X.env) :: starEach es X.env := by rfl) (hpl : (backTo pos (starEach es X.env)).any (·.1) = false := by rfl) : EE X g W (.Call (.Name x p) (e :: es) [] pos) (wL o wa) := by
  obtain ⟨t, q, s⟩ := ha.ex
  exact ⟨_, pe_callTy hc hg hm hv q hn hdb he hpl, sem_L l s⟩
end

/-! ### a def's promise over data -/
abbrev SpD := List C → (C → List C → Prop) → (XD → List C → Prop) → Prop
def tgOf (xs : List V) (t : Nat) : Addr := if t ≤ xs.length then (match xs[t - 1]? with
  | some (.ref a) => a
  | _ => 0) else t - (xs.length + 1)
theorem tgOf_adr (xs : List V) (a : Addr) : tgOf xs (xs.length + 1 + a) = a := by
  unfold tgOf
  have h : ¬ (xs.length + 1 + a ≤ xs.length) := fun z => absurd (Nat.le_trans (Nat.le_add_right (xs.length + 1) a) z) (Nat.not_succ_le_self _)
  rw [if_neg h]
  exact Nat.add_sub_cancel_left _ _
def mkG (H : Hp) (xs : List V) (as : List C) (P : List Addr) (L : Nat → Bool) : G := ⟨H, tgOf xs, foot (xs.map some) as, P, L, xs.length + 1, Nat.succ_pos _, tgOf_adr xs⟩
@[reducible] def C.ok : C → Bool
  | .v _ => true
  | .p _ => true
  | .own 0 _ => true
  | _ => false
abbrev L0 : Nat → Bool := fun _ => false
def spOf (K : PySem.W.Frag) (S : SpD) : Sp := fun vs H Q E => ∃ (as : List C) (P : List Addr) (QD : C → List C → Prop) (ED : XD → List C → Prop), SR K (mkG H vs as P L0) (vs.map some) [] H as [] ∧ S as QD ED ∧
  (∀ c rs, c.ok = true → QD c rs → ∀ v H', SR K (mkG H vs as P L0) (vs.map some) [v] H' rs [c] → Q v H') ∧
  (∀ x rs, ED x rs → ∀ cls d H', SR K (mkG H vs as P L0) (vs.map some) [] H' rs [] → XRep K (hide H' (tot (vs.map some) [] rs [] ++ P)) H' x cls d → E cls d H')
theorem SR.setL {K : PySem.W.Frag} {g g' : G} {σ : L2.St} {vs : List V} {H : Hp} {ρ : Rho} {cs : List C} (h : SR K g σ vs H ρ cs) (e1 : g'.H0 = g.H0) (e2 : g'.tg = g.tg) (e3 : g'.Oa = g.Oa) (e4 : g'.P0 = g.P0) (hp : ∀ i, (C.pk i ∈ cs ∨ C.ln i ∈ cs) → g'.L i = true) : SR K g' σ vs H ρ cs := by
  obtain ⟨H0, tg, Oa, P0, L, tn, tn0, tgA⟩ := g
  obtain ⟨H0', tg', Oa', P0', L', tn', tn0', tgA'⟩ := g'
  cases e1; cases e2; cases e3; cases e4
  refine ⟨h.fr, h.dm, h.pr, h.nw, h.nd, ?_, ?_, hp⟩
  · have q := h.sl
    revert q
    generalize hide H _ = B
    intro q
    have go : ∀ (σ0 : List (Option V)) (ρ0 : List C), RCs K ⟨H0, tg, Oa, P0, L, tn, tn0, tgA⟩ [] B H σ0 ρ0 → RCs K ⟨H0, tg, Oa, P0, L', tn', tn0', tgA'⟩ [] B H σ0 ρ0 := by
      intro σ0
      induction σ0 with
      | nil => intro ρ0 q; cases ρ0 <;> exact q
      | cons v σ0 ih =>
        intro ρ0 q
        cases ρ0 with
        | nil => exact q
        | cons c ρ0 => exact ⟨by cases c <;> exact q.1, ih ρ0 q.2⟩
    exact go _ _ q
  · have q := h.tp
    revert q
    generalize hide H _ = B
    intro q
    have go : ∀ (σ0 : List (Option V)) (ρ0 : List C), RCs K ⟨H0, tg, Oa, P0, L, tn, tn0, tgA⟩ σ B H σ0 ρ0 → RCs K ⟨H0, tg, Oa, P0, L', tn', tn0', tgA'⟩ σ B H σ0 ρ0 := by
      intro σ0
      induction σ0 with
      | nil => intro ρ0 q; cases ρ0 <;> exact q
      | cons v σ0 ih =>
        intro ρ0 q
        cases ρ0 with
        | nil => exact q
        | cons c ρ0 => exact ⟨by cases c <;> exact q.1, ih ρ0 q.2⟩
    exact go _ _ q
def argM (ρ : Rho) : Nat → List C → Option (List C)
  | _, [] => some []
  | k, .own _ o :: cs => (argM ρ (k + 1) cs).map (C.own (k + 1) o :: ·)
  | k, .p d :: cs => (argM ρ (k + 1) cs).map (C.p d :: ·)
  | k, c :: cs => match dat ρ c, argM ρ (k + 1) cs with
    | some d, some as => some (.v d :: as)
    | _, _ => none
@[reducible] def retag : C → C → C
  | .own t _, .own _ o => .own t o
  | .own _ _, _ => .no
  | c, _ => c
@[reducible] def retags : List C → List C → List C
  | c :: cs, r :: rs => retag c r :: retags cs rs
  | cs, [] => cs
  | [], _ => []
@[reducible] def C.lfo : C → Bool
  | .own _ (.lst ds) => lfree.lfreeAll ds
  | .own _ (.dct _) => false
  | .own _ (.dtt _) => false
  | .own _ (.lck _ _ _ _) => false
  | .own _ (.prp _ _) => false
  | .own _ (.tre _) => false
  | _ => true
theorem foot_argM {ρ : Rho} : ∀ {ys : List (Option V)} {qs as : List C} {k : Nat}, argM ρ k qs = some as → foot ys as = foot ys qs
  | ys, [], as, k, h => by cases h; rfl
  | [], q :: qs, as, k, _ => by cases as <;> rfl
  | y :: ys, q :: qs, as, k, h => by
    cases q with
    | own t o =>
      unfold argM at h
      cases e : argM ρ (k + 1) qs with
      | none => rw [e] at h; cases h
      | some as' =>
        rw [e] at h
        cases h
        show footC y (.own (k + 1) o) ++ foot ys as' = footC y (.own t o) ++ foot ys qs
        rw [foot_argM e]
        have e3 : footC y (.own (k + 1) o) = footC y (.own t o) := by
          cases y with
          | none => rfl
          | some x => cases x <;> rfl
        rw [e3]
    | p d =>
      unfold argM at h
      cases e : argM ρ (k + 1) qs with
      | none => rw [e] at h; cases h
      | some as' =>
        rw [e] at h
        cases h
        show footC y (.p d) ++ foot ys as' = footC y (.p d) ++ foot ys qs
        rw [foot_argM e]
    | _ =>
      unfold argM at h
      split at h
      · rename_i d as' e1 e2
        cases h
        show footC y (.v d) ++ foot ys as' = footC y _ ++ foot ys qs
        rw [foot_argM e2, footC_v]
        cases y with
        | none => rfl
        | some x => cases x <;> rfl
      · cases h
theorem foot_retags : ∀ {ys : List (Option V)} {qs rs : List C}, ys.length = qs.length → qs.length = rs.length → (foot ys (retags qs rs)).Sublist (foot ys rs)
  | [], [], [], _, _ => List.Sublist.refl _
  | y :: ys, q :: qs, r :: rs, h1, h2 => by
    have ih := foot_retags (ys := ys) (qs := qs) (rs := rs) (by simpa using h1) (by simpa using h2)
    have key : (footC y (retag q r)).Sublist (footC y r) := by
      cases q with
      | own t o =>
        cases r with
        | own t' o' =>
          show (footC y (.own t o')).Sublist (footC y (.own t' o'))
          cases y with
          | none => exact List.Sublist.refl _
          | some x => cases x <;> exact List.Sublist.refl _
        | _ =>
          show (footC y .no).Sublist _
          rw [footC_no]
          exact List.nil_sublist _
      | _ =>
        have e : ∀ c : C, (∀ t o, c ≠ .own t o) → footC y c = [] := fun c hc => by
          cases c with
          | own t o => exact absurd rfl (hc t o)
          | _ =>
            cases y with
            | none => rfl
            | some x => cases x <;> rfl
        rw [show footC y (retag _ r) = [] from e _ (fun t o z => by cases z)]
        exact List.nil_sublist _
    exact key.append ih
  | [], _ :: _, _, h, _ => by simp at h
  | _ :: _, [], _, h, _ => by simp at h
  | _, [], _ :: _, _, h => by simp at h
  | _, _ :: _, [], _, h => by simp at h
section
variable {K : PySem.W.Frag} {g : G} {σ : L2.St} {vs : List V} {H H' : Hp} {ρ : Rho} {cs : List C}
theorem dp_more {B : Hp} {A S T : List Addr} {v : V} {d : D} (hA : ∀ a ∈ A, ∃ xs, B a = some (.lst xs)) (hT : ∀ a ∈ T, a ∈ A ∨ a ∈ S) (hl : A = [] ∨ lfree d = true) (h : Dp K (hide B S) v d) : Dp K (hide B T) v d := by
  have up : ∀ R : List Addr, (∀ a ∈ T, a ∈ R) → Dp K (hide B R) v d → Dp K (hide B T) v d := fun R hR q => dp_mono (fun a o e => by
    obtain ⟨h1, h2⟩ := hide_some.mp e
    exact hide_some.mpr ⟨fun z => h1 (hR a z), h2⟩) _ _ q
  rcases hl with e | e
  · subst e
    exact up S (fun a ha => (hT a ha).resolve_left (by simp)) h
  · exact up (A ++ S) (fun a ha => List.mem_append.mpr (hT a ha)) (dp_lf hA d v e h)
theorem dpAll_more {B : Hp} {A S T : List Addr} : ∀ {ds : List D} {v : List V}, (∀ a ∈ A, ∃ xs, B a = some (.lst xs)) → (∀ a ∈ T, a ∈ A ∨ a ∈ S) → (A = [] ∨ lfree.lfreeAll ds = true) → DpAll K (hide B S) v ds → DpAll K (hide B T) v ds
  | [], _, _, _, _, h => by cases h; exact .nil
  | d :: ds, _, hA, hT, hl, h => by
    cases h with
    | cons h1 h2 =>
      refine .cons (dp_more hA hT (hl.imp id fun z => ?_) h1) (dpAll_more hA hT (hl.imp id fun z => ?_) h2)
      · have q : lfree d = true ∧ lfree.lfreeAll ds = true := by simpa [lfree.lfreeAll] using z
        exact q.1
      · have q : lfree d = true ∧ lfree.lfreeAll ds = true := by simpa [lfree.lfreeAll] using z
        exact q.2
theorem ownAt_more {B : Hp} {A S T : List Addr} {a : Addr} {o : OD} (hA : ∀ a ∈ A, ∃ xs, B a = some (.lst xs)) (hT : ∀ a ∈ T, a ∈ A ∨ a ∈ S) (hl : A = [] ∨ C.lfo (.own 0 o) = true) (h : OwnAt K (hide B S) B a o) : OwnAt K (hide B T) B a o := by
  cases o with
  | lst ds =>
    obtain ⟨xs, h1, h2⟩ := h
    exact ⟨xs, h1, dpAll_more hA hT hl h2⟩
  | dct kvs =>
    rcases hl with e | e
    · subst e
      refine h.mono (fun a o e => ?_) fun _ _ _ q => q
      obtain ⟨h1, h2⟩ := hide_some.mp e
      exact hide_some.mpr ⟨fun z => h1 ((hT a z).resolve_left (by simp)), h2⟩
    · cases e
  | lck _ ob ks kvs =>
    rcases hl with e | e
    · subst e
      refine h.mono (fun a o e => ?_) fun _ _ _ q => q
      obtain ⟨h1, h2⟩ := hide_some.mp e
      exact hide_some.mpr ⟨fun z => h1 ((hT a z).resolve_left (by simp)), h2⟩
    · cases e
  | prp _ _ =>
    rcases hl with e | e
    · subst e
      refine h.mono (fun a o e => ?_) fun _ _ _ q => q
      obtain ⟨h1, h2⟩ := hide_some.mp e
      exact hide_some.mpr ⟨fun z => h1 ((hT a z).resolve_left (by simp)), h2⟩
    · cases e
  | dtt kvs =>
    rcases hl with e | e
    · subst e
      refine h.mono (fun a o e => ?_) fun _ _ _ q => q
      obtain ⟨h1, h2⟩ := hide_some.mp e
      exact hide_some.mpr ⟨fun z => h1 ((hT a z).resolve_left (by simp)), h2⟩
    · cases e
  | tre l =>
    rcases hl with e | e
    · subst e
      refine h.mono (fun a o e => ?_) fun _ _ _ q => q
      obtain ⟨h1, h2⟩ := hide_some.mp e
      exact hide_some.mpr ⟨fun z => h1 ((hT a z).resolve_left (by simp)), h2⟩
    · cases e
theorem plain_more {B : Hp} {A S T : List Addr} {v : V} (hA : ∀ a ∈ A, ∃ xs, B a = some (.lst xs)) (hT : ∀ a ∈ T, a ∈ A ∨ a ∈ S) (h : PlainT (hide B S) v) : PlainT (hide B T) v := by
  obtain ⟨a, o, xs, e1, e2, e3⟩ := h
  obtain ⟨q1, q2⟩ := hide_some.mp e2
  refine ⟨a, o, xs, e1, hide_some.mpr ⟨fun z => ?_, q2⟩, e3⟩
  rcases hT a z with w | w
  · obtain ⟨ys, w⟩ := hA a w
    rw [q2] at w; cases w
  · exact q1 w
theorem SR.callM {xs : List V} {ccs as : List C} (h : SR K g σ (xs ++ vs) H ρ (ccs ++ cs)) (hl : xs.length = ccs.length) (ha : argM ρ 0 ccs = some as) :
    ∃ P, SR K (mkG H xs as P L0) (xs.map some) [] H as [] ∧
      (∀ v H' c rs, c.ok = true → SR K (mkG H xs as P L0) (xs.map some) [v] H' rs [c] → (ccs.any C.isLn = true → c.lf = true ∧ ∀ r ∈ retags ccs rs, r.lfo = true) → SR K g σ (v :: (xs ++ vs)) H' ρ (c :: (retags ccs rs ++ cs))) ∧
      (∀ H' rs, SR K (mkG H xs as P L0) (xs.map some) [] H' rs [] → (ccs.any C.isLn = true → ∀ r ∈ retags ccs rs, r.lfo = true) → SR K g σ (xs ++ vs) H' ρ (retags ccs rs ++ cs) ∧ (ccs.any C.isLn = false →
        Same (hide H' (tot (xs.map some) [] rs [] ++ P)) (hide H' (tot σ (xs ++ vs) ρ (retags ccs rs ++ cs) ++ g.P0)))) := by
  have fa : foot (xs.map some) as = foot (xs.map some) ccs := foot_argM ha
  have nd := h.nd
  rw [tot_app hl] at nd
  obtain ⟨nd1, nd2, nd3⟩ := List.nodup_append.mp nd
  have tp := h.tp
  rw [List.map_append] at tp
  obtain ⟨tp1, tp2⟩ := RCs.split (by simpa using hl) tp
  have base : SR K g σ vs H ρ cs := h.pops hl
  have hdj : ∀ a ∈ foot (xs.map some) ccs, a ∉ tot σ vs ρ cs ++ g.P0 := fun a h1 h2 => by
    rcases List.mem_append.mp h2 with z | z
    · exact nd3 a h1 a z rfl
    · exact h.pout a (by rw [tot_app hl]; exact List.mem_append_left _ h1) z
  have hsub : ∀ a ∈ lentA σ ρ ccs, a ∈ foot σ ρ := fun a q => by
    obtain ⟨i, t, zs, h1, h2, h3⟩ := lentA_mem q
    obtain ⟨b, e4, q5, _⟩ := h.own h3
    rw [h2] at e4
    cases e4
    exact q5
  have hlst : ∀ a ∈ lentA σ ρ ccs, ∃ xs, H a = some (.lst xs) := fun a q => by
    obtain ⟨i, t, zs, h1, h2, h3⟩ := lentA_mem q
    obtain ⟨b, e4, _, ⟨us, q2, _⟩, _⟩ := h.own h3
    rw [h2] at e4
    cases e4
    exact ⟨us, q2⟩
  refine ⟨(tot σ vs ρ cs ++ g.P0).filter fun a => decide (a ∉ lentA σ ρ ccs), ?_, ?_⟩
  · -- the callee's entry
    refine ⟨fun a o e _ => e, fun a o e => ⟨o, e⟩, fun a q => ?_, fun a q => .inl q, ?_, ?_, trivial, fun i q => by simp at q⟩
    · have q1 := (List.mem_filter.mp q).1
      refine ⟨fun z => ?_, base.domO a q1⟩
      have z' : a ∈ foot (xs.map some) as := z
      rw [fa] at z'
      exact hdj a z' q1
    · show (foot ([].map some) [] ++ foot (xs.map some) as).Nodup
      rw [fa]; exact nd1
    · have up : Same (hide H (tot σ (xs ++ vs) ρ (ccs ++ cs) ++ g.P0)) (hide H (foot (xs.map some) as ++ (tot σ vs ρ cs ++ g.P0).filter fun a => decide (a ∉ lentA σ ρ ccs))) := fun a o q => by
        obtain ⟨h1, h2⟩ := hide_some.mp q
        refine hide_some.mpr ⟨fun z => h1 ?_, h2⟩
        rw [tot_app hl, fa] at *
        rcases List.mem_append.mp z with z | z
        · exact List.mem_append_left _ (List.mem_append_left _ z)
        · rcases List.mem_append.mp (List.mem_filter.mp z).1 with z | z
          · exact List.mem_append_left _ (List.mem_append_right _ z)
          · exact List.mem_append_right _ z
      have key : ∀ (ys : List V) (qs as' : List C) (k : Nat), ys.length = qs.length → (∀ j, ys[j]? = xs[k + j]?) → (∀ c ∈ qs, c ∈ ccs) → (∀ a ∈ foot (ys.map some) qs, a ∈ foot (xs.map some) ccs) → RCs K g σ (hide H (tot σ (xs ++ vs) ρ (ccs ++ cs) ++ g.P0)) H (ys.map some) qs → argM ρ k qs = some as' →
          RCs K (mkG H xs as ((tot σ vs ρ cs ++ g.P0).filter fun a => decide (a ∉ lentA σ ρ ccs)) L0) [] (hide H (foot (xs.map some) as ++ (tot σ vs ρ cs ++ g.P0).filter fun a => decide (a ∉ lentA σ ρ ccs))) H (ys.map some) as' := by
        intro ys
        induction ys with
        | nil =>
          intro qs as' k hlen _ _ _ _ ham
          cases qs with
          | nil => cases ham; trivial
          | cons _ _ => simp at hlen
        | cons y ys ih =>
          intro qs as' k hlen hix hin hft hrc ham
          cases qs with
          | nil => simp at hlen
          | cons q qs =>
            have hq := hrc.1
            have next : ∀ as'', argM ρ (k + 1) qs = some as'' → RCs K (mkG H xs as ((tot σ vs ρ cs ++ g.P0).filter fun a => decide (a ∉ lentA σ ρ ccs)) L0) [] (hide H (foot (xs.map some) as ++ (tot σ vs ρ cs ++ g.P0).filter fun a => decide (a ∉ lentA σ ρ ccs))) H (ys.map some) as'' := fun as'' e =>
              ih qs as'' (k + 1) (by simpa using hlen) (fun j => by have := hix (j + 1); rw [List.getElem?_cons_succ] at this; rw [this]; congr 1; omega) (fun c hc => hin c (List.mem_cons_of_mem _ hc)) (fun a z => hft a (by rw [List.map_cons, foot]; exact List.mem_append_right _ z)) hrc.2 e
            have datum : ∀ d, (∃ d0 as'', dat ρ q = some d0 ∧ argM ρ (k + 1) qs = some as'' ∧ as' = .v d0 :: as'' ∧ d = d0) → Dp K (hide H (foot (xs.map some) as ++ (tot σ vs ρ cs ++ g.P0).filter fun a => decide (a ∉ lentA σ ρ ccs))) y d → RCs K (mkG H xs as ((tot σ vs ρ cs ++ g.P0).filter fun a => decide (a ∉ lentA σ ρ ccs)) L0) [] (hide H (foot (xs.map some) as ++ (tot σ vs ρ cs ++ g.P0).filter fun a => decide (a ∉ lentA σ ρ ccs))) H ((y :: ys).map some) as' := by
              rintro d ⟨d0, as'', e1, e2, e3, rfl⟩ hd
              subst e3
              exact ⟨⟨y, rfl, hd⟩, next _ e2⟩
            have spl : ∀ {q}, (∀ t o, q ≠ C.own t o) → (∀ d, q ≠ C.p d) → argM ρ k (q :: qs) = some as' → ∃ d as'', dat ρ q = some d ∧ argM ρ (k + 1) qs = some as'' ∧ as' = .v d :: as'' := by
              intro q hno hnp e
              unfold argM at e
              split at e
              · rename_i z; cases z
              · rename_i t o _ z; cases z; exact absurd rfl (hno _ _)
              · rename_i d _ z; cases z; exact absurd rfl (hnp _)
              · rename_i c cs' _ z
                cases z
                split at e
                · rename_i d as'' e1 e2
                  cases e
                  exact ⟨d, as'', e1, e2, rfl⟩
                · cases e
            cases q with
            | no => obtain ⟨d, as'', e1, _⟩ := spl (fun t o z => by cases z) (fun d z => by cases z) ham; cases e1
            | pk i => obtain ⟨d, as'', e1, _⟩ := spl (fun t o z => by cases z) (fun d z => by cases z) ham; cases e1
            | sub i p k => obtain ⟨d, as'', e1, _⟩ := spl (fun t o z => by cases z) (fun d z => by cases z) ham; cases e1
            | v d' =>
              obtain ⟨d, as'', e1, e2, e3⟩ := spl (fun t o z => by cases z) (fun d z => by cases z) ham
              cases e1
              obtain ⟨x, e4, q1⟩ := hq
              cases e4
              exact datum _ ⟨_, _, rfl, e2, e3, rfl⟩ (dp_mono up _ _ q1)
            | p d' =>
              unfold argM at ham
              cases e : argM ρ (k + 1) qs with
              | none => rw [e] at ham; cases ham
              | some as'' =>
                rw [e] at ham
                cases ham
                obtain ⟨x, e4, q1, q2⟩ := hq
                exact ⟨⟨x, e4, dp_mono up _ _ q1, q2.mono up⟩, next _ e⟩
            | own t o =>
              unfold argM at ham
              cases e : argM ρ (k + 1) qs with
              | none => rw [e] at ham; cases ham
              | some as'' =>
                rw [e] at ham
                cases ham
                obtain ⟨a, e4, q1, _⟩ := hq
                cases e4
                refine ⟨⟨a, rfl, q1.mono up fun _ _ _ z => z, fun _ => ?_, fun z => by cases z⟩, next _ e⟩
                have e5 := hix 0
                rw [List.getElem?_cons_zero, Nat.add_zero] at e5
                have hk : k < xs.length := (List.getElem?_eq_some_iff.mp e5.symm).1
                show (if k + 1 ≤ xs.length then (match xs[k + 1 - 1]? with
                  | some (.ref a) => a
                  | _ => 0) else k + 1 - (xs.length + 1)) = a
                rw [if_pos (by omega), Nat.add_sub_cancel, ← e5]
            | ln i =>
              obtain ⟨d, as'', e1, e2, e3⟩ := spl (fun t o z => by cases z) (fun d z => by cases z) ham
              refine datum _ ⟨_, _, e1, e2, e3, rfl⟩ ?_
              obtain ⟨x, e4, q1⟩ := hq
              cases e4
              have hin' := hin (.ln i) List.mem_cons_self
              revert e1
              show (match rget ρ i with
                | .own _ (.lst ds) => some (PyData.list ds)
                | .v d => some d
                | .p d => some d
                | _ => none) = some d → _
              split
              · rename_i t zs eo
                intro e1
                cases e1
                obtain ⟨a, e6, q7, ⟨us, q2, q3⟩, _⟩ := h.own eo
                rw [q1] at e6
                cases e6
                refine .lst (.inl (.inl (hide_some.mpr ⟨fun z => ?_, q2⟩))) (dpAll_mono up _ _ q3)
                rcases List.mem_append.mp z with z | z
                · rw [fa] at z
                  exact hdj a z (List.mem_append_left _ (List.mem_append_right _ q7))
                · exact of_decide_eq_true (List.mem_filter.mp z).2 (mem_lentA hin' q1 eo)
              · rename_i d' eo
                intro e1
                cases e1
                obtain ⟨x', e6, q2⟩ := h.slot eo
                rw [q1] at e6
                cases e6
                exact dp_mono up _ _ q2
              · rename_i d' eo
                intro e1
                cases e1
                obtain ⟨x', e6, q2, _⟩ := h.slotP eo
                rw [q1] at e6
                cases e6
                exact dp_mono up _ _ q2
              · intro e1; cases e1
      exact key xs ccs as 0 hl (fun j => by rw [Nat.zero_add]) (fun _ q => q) (fun _ q => q) tp1 ha
  · -- behind the call
    have common : ∀ (ws : List V) (H' : Hp) (ds rs : List C), SR K (mkG H xs as ((tot σ vs ρ cs ++ g.P0).filter fun a => decide (a ∉ lentA σ ρ ccs)) L0) (xs.map some) ws H' rs ds → ws.length = ds.length →
        (∀ c ∈ ds, c.ok = true) → ds.length ≤ 1 → (ccs.any C.isLn = true → (∀ c ∈ ds, c.lf = true) ∧ ∀ r ∈ retags ccs rs, r.lfo = true) → SR K g σ (ws ++ (xs ++ vs)) H' ρ (ds ++ (retags ccs rs ++ cs)) := by
      intro ws H' ds rs S' hwl hok hd1 hlf
      have lr : ccs.length = rs.length := by
        have q := S'.sl.len
        rw [List.length_map] at q
        omega
      have fr2 := foot_retags (ys := xs.map some) (by simpa using hl) lr
      have frN : ∀ a ∈ foot (xs.map some) (retags ccs rs), a ∈ foot (xs.map some) ccs ∨ H a = none := fun a q => by
        rcases S'.nw a (List.mem_append_right _ (fr2.subset q)) with z | z
        · exact .inl (by rw [← fa]; exact z)
        · exact .inr z
      have keep : ∀ a o, a ∉ foot (xs.map some) ccs → H a = some o → H' a = some o := fun a o n e => S'.fr a o e (by show a ∉ foot (xs.map some) as; rw [fa]; exact n)
      have fresh : ∀ a ∈ foot (ws.map some) ds, a ∈ foot (xs.map some) ccs ∨ H a = none := fun a q => by
        rcases S'.nw a (List.mem_append_left _ q) with z | z
        · exact .inl (by rw [← fa]; exact z)
        · exact .inr z
      have e1 : tot σ (ws ++ (xs ++ vs)) ρ (ds ++ (retags ccs rs ++ cs)) = foot (ws.map some) ds ++ (foot (xs.map some) (retags ccs rs) ++ tot σ vs ρ cs) := by
        rw [tot_app hwl, tot_app]
        have : ∀ {a b : List C}, a.length = b.length → (retags a b).length = a.length := by
          intro a
          induction a with
          | nil => intro b _; cases b <;> rfl
          | cons x a ih => intro b hb; cases b with
            | nil => simp at hb
            | cons y b => simp [retags, ih (b := b) (by simpa using hb)]
        rw [this lr]; exact hl
      have nd' : (foot (ws.map some) ds ++ foot (xs.map some) (retags ccs rs)).Nodup := ((List.Sublist.refl _).append fr2).nodup S'.nd
      have hT : ∀ a ∈ tot σ (ws ++ (xs ++ vs)) ρ (ds ++ (retags ccs rs ++ cs)) ++ g.P0, a ∈ lentA σ ρ ccs ∨ a ∈ tot (xs.map some) ws rs ds ++ (tot σ vs ρ cs ++ g.P0).filter fun a => decide (a ∉ lentA σ ρ ccs) := fun a q => by
        rw [e1] at q
        by_cases z : a ∈ lentA σ ρ ccs
        · exact .inl z
        · right
          rcases List.mem_append.mp q with q | q
          · rcases List.mem_append.mp q with q | q
            · exact List.mem_append_left _ (List.mem_append_left _ q)
            · rcases List.mem_append.mp q with q | q
              · exact List.mem_append_left _ (List.mem_append_right _ (fr2.subset q))
              · exact List.mem_append_right _ (List.mem_filter.mpr ⟨List.mem_append_left _ q, decide_eq_true z⟩)
          · exact List.mem_append_right _ (List.mem_filter.mpr ⟨List.mem_append_right _ q, decide_eq_true z⟩)
      have hA' : ∀ a ∈ lentA σ ρ ccs, ∃ xs, H' a = some (.lst xs) := fun a q => by
        obtain ⟨us, e⟩ := hlst a q
        exact ⟨us, keep a _ (fun z => hdj a z (List.mem_append_left _ (List.mem_append_right _ (hsub a q)))) e⟩
      have hE : lentA σ ρ ccs = [] ∨ ((∀ c ∈ ds, c.lf = true) ∧ ∀ r ∈ retags ccs rs, r.lfo = true) := by
        cases hb : ccs.any C.isLn with
        | false => exact .inl (lentA_none hb)
        | true => exact .inr (hlf hb)
      refine h.gen (fun a o n e => keep a o (fun z => n (by rw [tot_app hl]; exact List.mem_append_left _ z)) e) S'.dm (fun a q => ?_) ?_ (fun hB => h.sl.mono hB fun a q u e => ?_) (fun hB => ?_) (fun i q => h.pk i ?_)
      · rw [e1] at q
        rcases List.mem_append.mp q with q | q
        · exact (fresh a q).imp (fun z => by rw [tot_app hl]; exact List.mem_append_left _ z) id
        · rcases List.mem_append.mp q with q | q
          · exact (frN a q).imp (fun z => by rw [tot_app hl]; exact List.mem_append_left _ z) id
          · exact .inl (by rw [tot_app hl]; exact List.mem_append_right _ q)
      · rw [e1]
        obtain ⟨n1, n2, n3⟩ := List.nodup_append.mp nd'
        have oldT : ∀ a ∈ tot σ vs ρ cs, ∃ u, H a = some u := fun a z => h.there a (by rw [tot_app hl]; exact List.mem_append_right _ z)
        refine List.nodup_append.mpr ⟨n1, List.nodup_append.mpr ⟨n2, nd2, fun a q b z e => ?_⟩, fun a q b z e => ?_⟩
        · subst e
          rcases frN a q with w | w
          · exact nd3 a w a z rfl
          · obtain ⟨u, e2⟩ := oldT a z
            rw [w] at e2; cases e2
        · subst e
          rcases List.mem_append.mp z with z | z
          · exact n3 a q a z rfl
          · rcases fresh a q with w | w
            · exact nd3 a w a z rfl
            · obtain ⟨u, e2⟩ := oldT a z
              rw [w] at e2; cases e2
      · exact keep a u (fun z => hdj a z (List.mem_append_left _ (List.mem_append_right _ q))) e
      · rw [List.map_append, List.map_append]
        refine RCs.app ?_ (RCs.app ?_ (tp2.mono hB fun a q u e => keep a u (fun z => hdj a z (List.mem_append_left _ (List.mem_append_left _ q))) e))
        · -- the answer
          have go : ∀ (us : List V) (es : List C), (∀ c ∈ es, c ∈ ds) → RCs K (mkG H xs as ((tot σ vs ρ cs ++ g.P0).filter fun a => decide (a ∉ lentA σ ρ ccs)) L0) (xs.map some) (hide H' (tot (xs.map some) ws rs ds ++ (tot σ vs ρ cs ++ g.P0).filter fun a => decide (a ∉ lentA σ ρ ccs))) H' (us.map some) es →
              RCs K g σ (hide H' (tot σ (ws ++ (xs ++ vs)) ρ (ds ++ (retags ccs rs ++ cs)) ++ g.P0)) H' (us.map some) es := by
            intro us
            induction us with
            | nil => intro es _ z; cases es <;> exact z
            | cons u us ih =>
              intro es hin hr
              cases es with
              | nil => exact hr
              | cons e es =>
                refine ⟨?_, ih es (fun c hc => hin c (List.mem_cons_of_mem _ hc)) hr.2⟩
                have q := hr.1
                have hm := hin e List.mem_cons_self
                have hk := hok e hm
                cases e with
                | v d =>
                  obtain ⟨x, e2, q2⟩ := q
                  exact ⟨x, e2, dp_more hA' hT (hE.imp id fun z => z.1 _ hm) q2⟩
                | p d =>
                  obtain ⟨x, e2, q2, q3⟩ := q
                  exact ⟨x, e2, dp_more hA' hT (hE.imp id fun z => z.1 _ hm) q2, plain_more hA' hT q3⟩
                | own t o =>
                  obtain ⟨a, e2, q2, _, qf⟩ := q
                  cases e2
                  have t0 : t = 0 := by cases t with
                    | zero => rfl
                    | succ t => cases hk
                  subst t0
                  refine ⟨a, rfl, ownAt_more hA' hT (hE.imp id fun z => ?_) q2, fun z => absurd rfl z, fun _ => ?_⟩
                  · have z1 := z.1 _ hm
                    cases o with
                    | lst ds => exact z1
                    | dct _ => cases z1
                    | dtt _ => cases z1
                    | lck _ _ _ _ => cases z1
                    | prp _ _ => cases z1
                    | tre _ => cases z1
                  · have e3 : H a = none := qf rfl
                    cases e4 : g.H0 a with
                    | none => rfl
                    | some o' =>
                      obtain ⟨o2, e5⟩ := h.dm a o' e4
                      rw [e3] at e5; cases e5
                | no => cases hk
                | pk i => cases hk
                | ln i => cases hk
                | sub i p k => cases hk
          exact go ws ds (fun _ q => q) S'.tp
        · -- the arguments
          have go : ∀ (us : List V) (es rs' : List C), us.length = es.length → es.length = rs'.length → (∀ r ∈ retags es rs', r ∈ retags ccs rs) → (∀ c ∈ es, c ∈ ccs) → RCs K g σ (hide H (tot σ (xs ++ vs) ρ (ccs ++ cs) ++ g.P0)) H (us.map some) es →
              RCs K (mkG H xs as ((tot σ vs ρ cs ++ g.P0).filter fun a => decide (a ∉ lentA σ ρ ccs)) L0) [] (hide H' (tot (xs.map some) ws rs ds ++ (tot σ vs ρ cs ++ g.P0).filter fun a => decide (a ∉ lentA σ ρ ccs))) H' (us.map some) rs' →
              RCs K g σ (hide H' (tot σ (ws ++ (xs ++ vs)) ρ (ds ++ (retags ccs rs ++ cs)) ++ g.P0)) H' (us.map some) (retags es rs') := by
            intro us
            induction us with
            | nil =>
              intro es rs' h1 h2 _ _ _ _
              cases es with
              | nil => cases rs' with
                | nil => trivial
                | cons _ _ => simp at h2
              | cons _ _ => simp at h1
            | cons u us ih =>
              intro es rs' h1 h2 hrs hcs hr1 hr2
              cases es with
              | nil => simp at h1
              | cons e es =>
                cases rs' with
                | nil => simp at h2
                | cons r rs' =>
                  refine ⟨?_, ih es rs' (by simpa using h1) (by simpa using h2) (fun c hc => hrs c (List.mem_cons_of_mem _ hc)) (fun c hc => hcs c (List.mem_cons_of_mem _ hc)) hr1.2 hr2.2⟩
                  have q1 := hr1.1
                  have q2 := hr2.1
                  cases e with
                  | own t o =>
                    cases r with
                    | own t' o' =>
                      obtain ⟨a, e2, _, q3, q4⟩ := q1
                      cases e2
                      obtain ⟨b, e3, q5, _, _⟩ := q2
                      cases e3
                      refine ⟨a, rfl, ownAt_more hA' hT (hE.imp id fun z => (show C.lfo (.own 0 o') = true from (show C.lfo (.own t o') = C.lfo (.own 0 o') by cases o' <;> rfl) ▸ z.2 _ (hrs (.own t o') List.mem_cons_self))) q5, q3, q4⟩
                    | _ => exact trivial
                  | v d =>
                    obtain ⟨x, e2, q3⟩ := q1
                    exact ⟨x, e2, dp_mono hB _ _ q3⟩
                  | p d =>
                    obtain ⟨x, e2, q3, q4⟩ := q1
                    exact ⟨x, e2, dp_mono hB _ _ q3, q4.mono hB⟩
                  | no => exact trivial
                  | pk i => exact q1
                  | ln i => exact q1
                  | sub i p k => exact q1
          exact go xs ccs rs hl lr (fun _ q => q) (fun _ q => q) tp1 S'.sl
      · have nok : ∀ c ∈ ds, c ≠ .pk i ∧ c ≠ .ln i := fun c hc => ⟨fun z => (by have := hok c hc; rw [z] at this; cases this), fun z => (by have := hok c hc; rw [z] at this; cases this)⟩
        have inR : ∀ {a b : List C} (x : C), (∀ t o, x ≠ .own t o) → x ≠ .no → x ∈ retags a b → x ∈ a := by
          intro a
          induction a with
          | nil => intro b x _ _ z; cases b <;> exact z
          | cons y a ih =>
            intro b x h1 h2 z
            cases b with
            | nil => exact z
            | cons r b =>
              rcases List.mem_cons.mp z with e | z
              · cases y with
                | own t o => cases r with
                  | own t' o' => exact absurd e (h1 _ _)
                  | _ => exact absurd e h2
                | _ => rw [e]; exact List.mem_cons_self
              · exact List.mem_cons_of_mem _ (ih x h1 h2 z)
        rcases q with q | q
        · rcases List.mem_append.mp q with q | q
          · exact absurd rfl (nok _ q).1
          · rcases List.mem_append.mp q with q | q
            · exact .inl (List.mem_append_left _ (inR _ (fun t o z => by cases z) (fun z => by cases z) q))
            · exact .inl (List.mem_append_right _ q)
        · rcases List.mem_append.mp q with q | q
          · exact absurd rfl (nok _ q).2
          · rcases List.mem_append.mp q with q | q
            · exact .inr (List.mem_append_left _ (inR _ (fun t o z => by cases z) (fun z => by cases z) q))
            · exact .inr (List.mem_append_right _ q)
    refine ⟨fun v H' c rs hk S' hlf => ?_, fun H' rs S' hlf => ⟨?_, fun hb => ?_⟩⟩
    · exact common [v] H' [c] rs S' rfl (fun c' hc => by rw [List.mem_singleton.mp hc]; exact hk) (Nat.le_refl _) fun z => ⟨fun c' hc => by rw [List.mem_singleton.mp hc]; exact (hlf z).1, (hlf z).2⟩
    · exact common [] H' [] rs S' rfl (fun c' hc => by simp at hc) (Nat.zero_le _) (fun z => And.intro (fun c' hc => by simp at hc) (hlf z))
    · have lr : ccs.length = rs.length := by
        have q := S'.sl.len
        rw [List.length_map] at q
        omega
      have fr2 := foot_retags (ys := xs.map some) (by simpa using hl) lr
      intro a o e
      obtain ⟨h1, h2⟩ := hide_some.mp e
      refine hide_some.mpr ⟨fun z => h1 ?_, h2⟩
      have e0 := lentA_none (σ := σ) (ρ := ρ) hb
      have lrt : xs.length = (retags ccs rs).length := by
        have : ∀ {a b : List C}, a.length = b.length → (retags a b).length = a.length := by
          intro a
          induction a with
          | nil => intro b _; cases b <;> rfl
          | cons x a ih => intro b hb; cases b with
            | nil => simp at hb
            | cons y b => simp [retags, ih (b := b) (by simpa using hb)]
        rw [this lr]; exact hl
      rw [tot_app lrt] at z
      rcases List.mem_append.mp z with z | z
      · rcases List.mem_append.mp z with z | z
        · exact List.mem_append_left _ (List.mem_append_right _ (fr2.subset z))
        · exact List.mem_append_right _ (List.mem_filter.mpr ⟨List.mem_append_left _ z, decide_eq_true (by rw [e0]; simp)⟩)
      · exact List.mem_append_right _ (List.mem_filter.mpr ⟨List.mem_append_right _ z, decide_eq_true (by rw [e0]; simp)⟩)
end
end DL

set_option Elab.async false
set_option linter.all false
set_option maxRecDepth 100000
set_option maxHeartbeats 4000000
/-! DL, calls of the program's own defs. -/
namespace DL
open PySem PySem.Spec PyProof.Rows L2
section
variable {K : PySem.W.Frag} {g : G} {σ : L2.St} {vs : List V} {H H' : Hp} {ρ : Rho} {cs : List C}
theorem SR.popAll : ∀ {vs : List V} {cs : List C}, SR K g σ vs H ρ cs → SR K g σ [] H ρ []
  | [], [], h => h
  | _ :: _, _ :: _, h => SR.popAll h.pop
  | [], _ :: _, h => (show False from h.tp).elim
  | _ :: _, [], h => (show False from h.tp).elim
theorem XRep.mono {B B' : Hp} {x : XD} {cls : Value} {d : Option Addr} (e : x.fs = [] ∨ Same B B') (h : XRep K B H x cls d) : XRep K B' H x cls d := by
  refine ⟨h.1, h.2.imp id ?_⟩
  rintro ⟨ne, a, fs, e1, e2, e3⟩
  refine ⟨ne, a, fs, e1, e2, ?_⟩
  rcases e with e | e
  · exact absurd e ne
  · exact e3.mono e
theorem same_popAll (h : SR K g σ vs H ρ cs) : Same (hide H (tot σ vs ρ cs ++ g.P0)) (hide H (tot σ [] ρ [] ++ g.P0)) := fun a o e => by
  obtain ⟨h1, h2⟩ := hide_some.mp e
  refine hide_some.mpr ⟨fun z => h1 ?_, h2⟩
  rcases List.mem_append.mp z with z | z
  · exact List.mem_append_left _ (List.mem_append_right _ (show a ∈ foot σ ρ from z))
  · exact List.mem_append_right _ z
theorem SR.unCall {v : V} {c : C} {xs : List V} {ccs : List C} (hl : xs.length = ccs.length) (h : SR K g σ (v :: (xs ++ vs)) H ρ (c :: (ccs ++ cs))) : SR K g σ (v :: vs) H ρ (c :: cs) := SR.pops hl (SR.unrot hl h)
end
@[reducible] def okX (ccs : List C) (x : XD) : Prop := ccs.any C.isLn = true → x.fs = []
@[reducible] def callK (S : SpD) (ρ : Rho) (ccs : List C) (Q : KC) (E : KX) : Prop := useK ρ ccs fun ds => S (ds.map C.v) (fun c _ => okR ccs c ∧ Q c ρ) (fun x _ => okX ccs x ∧ E x ρ)
@[reducible] def hd1 (rs : List C) (k : C → Prop) : Prop := match rs with
  | r :: _ => k r
  | [] => False
@[reducible] def callP (S : SpD) (i : Nat) (ρ : Rho) (rest : List C) (Q : KC) (E : KX) : Prop := match rget ρ i with
  | .own t o => useK (rset ρ i .no) rest fun ds => S (.own 1 o :: ds.map C.v)
      (fun c rs => hd1 rs fun r => (rest.any C.isLn = true → c.lf = true ∧ (retag (.own t o) r).lfo = true) ∧ Q c (rset ρ i (retag (.own t o) r)))
      (fun x rs => hd1 rs fun r => (rest.any C.isLn = true → x.fs = [] ∧ (retag (.own t o) r).lfo = true) ∧ E x (rset ρ i (retag (.own t o) r)))
  | _ => False
@[reducible] def callA (S : SpD) (ρ : Rho) (ccs : List C) (Q : KC) (E : KX) : Prop := match ccs with
  | .pk i :: rest => callP S i ρ rest Q E
  | ccs => callK S ρ ccs Q E
@[reducible] def wCall (S : SpD) (wa : WA) : WE := fun ρ Q E => wa ρ (fun ccs ρ1 => callA S ρ1 ccs Q E) E
theorem isLn_frz : ∀ (ccs : List C), (ccs.map frzC).any C.isLn = ccs.any C.isLn
  | [] => rfl
  | c :: ccs => by
    have e : (frzC c).isLn = c.isLn := by
      cases c with
      | own t o => cases o <;> rfl
      | _ => rfl
    simp [e, isLn_frz ccs]
theorem argM_dats {ρ : Rho} : ∀ {ccs : List C} {ds : List D} {k : Nat}, dats ρ ccs = some ds → argM ρ k (ccs.map frzC) = some (ds.map C.v) ∧ (∀ rs : List C, rs.length = ccs.length → retags (ccs.map frzC) rs = ccs.map frzC) ∧ ∀ c ∈ ccs.map frzC, c.lfo = true
  | [], ds, k, h => by
    cases h
    exact ⟨rfl, fun rs _ => by cases rs <;> rfl, fun c hc => by simp at hc⟩
  | c :: ccs, ds, k, h => by
    unfold dats at h
    split at h
    · rename_i d ds' e1 e2
      cases h
      obtain ⟨i1, i2, i3⟩ := argM_dats (ccs := ccs) (k := k + 1) e2
      have key : ∀ c' : C, (∀ t o, c' ≠ .own t o) → (∀ d, c' ≠ .p d) → dat ρ c' = some d → argM ρ k (c' :: ccs.map frzC) = some (C.v d :: ds'.map C.v) ∧ (∀ rs : List C, rs.length = ccs.length + 1 → retags (c' :: ccs.map frzC) rs = c' :: ccs.map frzC) ∧ c'.lfo = true := by
        intro c' hn hp he
        refine ⟨?_, ?_, ?_⟩
        · cases c' with
          | own t o => exact absurd rfl (hn t o)
          | p d => exact absurd rfl (hp d)
          | _ =>
            unfold argM
            rw [he, i1]
        · intro rs hr
          cases rs with
          | nil => simp at hr
          | cons r rs =>
            cases c' with
            | own t o => exact absurd rfl (hn t o)
            | _ =>
              unfold retags
              rw [i2 rs (by simpa using hr)]
        · cases c' with
          | own t o => exact absurd rfl (hn t o)
          | _ => rfl
      have fin : ∀ c' : C, frzC c = c' → (∀ t o, c' ≠ .own t o) → (∀ d, c' ≠ .p d) → dat ρ c' = some d → argM ρ k ((c :: ccs).map frzC) = some ((d :: ds').map C.v) ∧ (∀ rs : List C, rs.length = (c :: ccs).length → retags ((c :: ccs).map frzC) rs = (c :: ccs).map frzC) ∧ ∀ q ∈ (c :: ccs).map frzC, q.lfo = true := by
        intro c' e hn hp he
        obtain ⟨k1, k2, k3⟩ := key c' hn hp he
        rw [List.map_cons, List.map_cons, e]
        refine ⟨k1, fun rs hr => k2 rs (by simpa using hr), fun q hq => ?_⟩
        rcases List.mem_cons.mp hq with z | z
        · rw [z]; exact k3
        · exact i3 q z
      cases c with
      | no => cases e1
      | pk i => cases e1
      | sub i p k => cases e1
      | p d' => cases e1; exact fin _ rfl (fun t o z => by cases z) (fun d z => by cases z) rfl
      | v d' => exact fin _ rfl (fun t o z => by cases z) (fun d z => by cases z) e1
      | ln i => exact fin _ rfl (fun t o z => by cases z) (fun d z => by cases z) e1
      | own t o =>
        cases o with
        | dct _ => cases e1
        | dtt _ => cases e1
        | lck _ _ _ _ => cases e1
        | prp _ _ => cases e1
        | tre _ => cases e1
        | lst zs =>
          cases e1
          exact fin _ rfl (fun t o z => by cases z) (fun d z => by cases z) rfl
    · cases h
section
variable {K : PySem.W.Frag} {g : G} {W : WX} {σ : L2.St} {vs : List V} {H : Hp} {ρ : Rho} {cs : List C} {i : Nat}
theorem entry_len {K : PySem.W.Frag} {g : G} {xs : List V} {ws : List V} {H : Hp} {rs ds : List C} (S' : SR K g (xs.map some) ws H rs ds) : rs.length = xs.length := by
  have q := S'.sl.len
  rw [List.length_map] at q
  omega
theorem SR.callD {S : SpD} {xs : List V} {ccs : List C} {QD : KC} {ED : KX} {E : XK} {Q : VK} (hl : xs.length = ccs.length) (h : SR K g σ (xs ++ vs) H ρ (ccs ++ cs)) (q : callK S ρ ccs QD ED) (hX : XEnds K g W σ ED) (hE : ∀ cls d σ H, W cls d σ H → E cls d H)
    (hQ : ∀ v H' c, SR K g σ (v :: vs) H' ρ (c :: cs) → QD c ρ → Q v H') : spOf K S xs H Q E := by
  obtain ⟨ds, e, q⟩ := useK_dats q
  obtain ⟨e, rt, lf⟩ := argM_dats (k := 0) e
  have h' := h.frzArgs hl
  have hl' : xs.length = (ccs.map frzC).length := by simpa using hl
  obtain ⟨P, entry, ret, exc⟩ := SR.callM h' hl' e
  refine ⟨_, P, _, _, entry, q, fun c rs hk ⟨ok, qd⟩ v H' S' => ?_, fun x rs ⟨ok, ed⟩ cls d H' S' xr => ?_⟩
  · have er := rt rs (by rw [entry_len S', hl])
    have S1 := ret v H' c rs hk S' fun z => ⟨ok (by rw [isLn_frz] at z; exact z), fun r hr => lf r (by rw [er] at hr; exact hr)⟩
    rw [er] at S1
    exact hQ v H' c (SR.unCall hl' S1) qd
  · have er := rt rs (by rw [entry_len S', hl])
    obtain ⟨S1, hs⟩ := exc H' rs S' fun z r hr => lf r (by rw [er] at hr; exact hr)
    rw [er] at S1 hs
    refine hE cls d σ H' (hX x ρ cls d H' S1.popAll (XRep.mono ?_ xr) ed)
    cases hb : ccs.any C.isLn with
    | true => exact .inl (ok hb)
    | false => exact .inr ((hs (by rw [isLn_frz]; exact hb)).trans (same_popAll S1))
theorem retag_own {t : Nat} {o : OD} {r : C} : (∃ o', retag (.own t o) r = .own t o') ∨ retag (.own t o) r = .no := by
  cases r with
  | own t' o' => exact .inl ⟨o', rfl⟩
  | _ => exact .inr rfl
theorem SR.putBack {x : V} {c : C} (h : SR K g σ (x :: vs) H ρ (c :: cs)) (e1 : σ[i]? = some (some x)) (e2 : rget ρ i = .no) (hc : c.plain = true ∨ c = .no) : SR K g σ vs H (rset ρ i c) cs := by
  rcases hc with hc | hc
  · exact h.moveIn hc e1 e2
  · subst hc
    exact (h.pop).clear i
theorem SR.callP {S : SpD} {x : V} {xs : List V} {ccs : List C} {QD : KC} {ED : KX} {E : XK} {Q : VK} (hl : xs.length = ccs.length) (h : SR K g σ (x :: (xs ++ vs)) H ρ (.pk i :: (ccs ++ cs))) (q : DL.callP S i ρ ccs QD ED) (hX : XEnds K g W σ ED) (hE : ∀ cls d σ H, W cls d σ H → E cls d H)
    (hQ : ∀ v H' c ρ', SR K g σ (v :: vs) H' ρ' (c :: cs) → QD c ρ' → Q v H') : spOf K S (x :: xs) H Q E := by
  unfold DL.callP at q
  split at q
  · rename_i t o eo
    obtain ⟨ds, e, q⟩ := useK_dats q
    obtain ⟨e, rt, lf⟩ := argM_dats (k := 1) e
    have hl' : xs.length = (ccs.map frzC).length := by simpa using hl
    have h1 : SR K g σ (x :: (xs ++ vs)) H ρ (.pk i :: (ccs.map frzC ++ cs)) := SR.rot hl' (SR.frzArgs hl (SR.unrot hl h))
    obtain ⟨ex, h2⟩ := h1.moveOut eo
    have hlen : i < ρ.length := rget_lt (by rw [eo]; exact fun z => nomatch z)
    have en : rget (rset ρ i .no) i = .no := rget_rset hlen
    have ea : argM (rset ρ i .no) 0 (.own t o :: ccs.map frzC) = some (.own 1 o :: ds.map C.v) := by
      unfold argM
      rw [e]
      rfl
    obtain ⟨P, entry, ret, exc⟩ := SR.callM (xs := x :: xs) (ccs := .own t o :: ccs.map frzC) h2 (by simp [hl]) ea
    have hb0 : ∀ ccs : List C, (C.own t o :: ccs).any C.isLn = ccs.any C.isLn := fun ccs => rfl
    refine ⟨_, P, _, _, entry, q, fun c rs hk qd v H' S' => ?_, fun y rs ed cls d H' S' xr => ?_⟩
    · have el := entry_len S'
      cases rs with
      | nil => exact qd.elim
      | cons r rs =>
        obtain ⟨ok, qd⟩ := qd
        have er := rt rs (by have : rs.length = xs.length := by simpa using el
                             rw [this, hl])
        have e3 : retags (.own t o :: ccs.map frzC) (r :: rs) = retag (.own t o) r :: ccs.map frzC := by
          show retag (.own t o) r :: retags (ccs.map frzC) rs = _
          rw [er]
        have S1 := ret v H' c (r :: rs) hk S' fun z => by
          have z' := ok (by rw [hb0, isLn_frz] at z; exact z)
          refine ⟨z'.1, fun p hp => ?_⟩
          rw [e3] at hp
          rcases List.mem_cons.mp hp with w | w
          · rw [w]; exact z'.2
          · exact lf p w
        rw [e3] at S1
        have S2 : SR K g σ (x :: (v :: (xs ++ vs))) H' (rset ρ i .no) (retag (.own t o) r :: (c :: (ccs.map frzC ++ cs))) := SR.rot (xs := [v]) (ccs := [c]) rfl S1
        have S3 := S2.putBack ex en (by
          rcases retag_own (t := t) (o := o) (r := r) with ⟨o', w⟩ | w
          · rw [w]; exact .inl rfl
          · exact .inr w)
        rw [rset_rset] at S3
        exact hQ v H' c _ (SR.unCall hl' S3) qd
    · have el := entry_len S'
      cases rs with
      | nil => exact ed.elim
      | cons r rs =>
        obtain ⟨ok, ed⟩ := ed
        have er := rt rs (by have : rs.length = xs.length := by simpa using el
                             rw [this, hl])
        have e3 : retags (.own t o :: ccs.map frzC) (r :: rs) = retag (.own t o) r :: ccs.map frzC := by
          show retag (.own t o) r :: retags (ccs.map frzC) rs = _
          rw [er]
        obtain ⟨S1, hs⟩ := exc H' (r :: rs) S' fun z p hp => by
          have z' := ok (by rw [hb0, isLn_frz] at z; exact z)
          rw [e3] at hp
          rcases List.mem_cons.mp hp with w | w
          · rw [w]; exact z'.2
          · exact lf p w
        rw [e3] at S1 hs
        have S3 := SR.putBack (i := i) S1 ex en (by
          rcases retag_own (t := t) (o := o) (r := r) with ⟨o', w⟩ | w
          · rw [w]; exact .inl rfl
          · exact .inr w)
        rw [rset_rset] at S3
        refine hE cls d σ H' (hX y _ cls d H' S3.popAll (XRep.mono ?_ xr) ed)
        cases hb : ccs.any C.isLn with
        | true => exact .inl (ok hb).1
        | false =>
          refine .inr ((hs (by rw [hb0, isLn_frz]; exact hb)).trans fun a u z => ?_)
          obtain ⟨z1, z2⟩ := hide_some.mp z
          refine hide_some.mpr ⟨fun w => z1 ?_, z2⟩
          rcases List.mem_append.mp w with w | w
          · refine List.mem_append_left _ ?_
            have w' : a ∈ foot σ (rset ρ i (retag (.own t o) r)) := w
            have pm := foot_in (σ := σ) (ρ := rset ρ i .no) (c := retag (.own t o) r) ex (by rw [rset_len]; exact hlen) en
            rw [rset_rset] at pm
            have w2 := pm.mem_iff.mp w'
            show a ∈ (footC (some x) (retag (.own t o) r) ++ foot ((xs ++ vs).map some) (ccs.map frzC ++ cs)) ++ foot σ (rset ρ i .no)
            rcases List.mem_append.mp w2 with w2 | w2
            · exact List.mem_append_left _ (List.mem_append_left _ w2)
            · exact List.mem_append_right _ w2
          · exact List.mem_append_right _ w
  · exact q.elim
end
section
variable {K : PySem.W.Frag} {g : G} {W : WX} {σ : L2.St} {vs : List V} {H : Hp} {ρ : Rho} {cs : List C} {i : Nat}
end
section
variable {X : Cx} {g : G} {W : WX} {CX : CXT} {k : Nat} {f : Addr} {fd : FuncData} {ps : List Str} {S : SpD} {E : XK} {x : Str} {p pos : Pos} {e : Expr} {es : List Expr} {wa : WA}
theorem ee_call (F : FnOk X.prog X.w X.K X.mg X.base CX k f fd ps (spOf X.K S)) (hr : Room k X.A) (hg : Gl X x) (hm : X.mg x = some (.ref f)) (hk : PySem.W.keepIn X.K (.ref f) = true) (hb : Binds X.K fd ps []) (hx : Passes CX X E) (hE : ∀ cls d σ H, W cls d σ H → E cls d H)
    (ha : EA X g W (e :: es) wa) (hdb : (x == ("__debug__" : Str)) = false := by decide) (he : starEach (e :: es) X.env = (false, eval e X.env) :: starEach es X.env := by rfl) (hpl : (backTo pos (starEach es X.env)).any (·.1) = false := by rfl) :
    EE X g W (.Call (.Name x p) (e :: es) [] pos) (wCall S wa) := by
  obtain ⟨t, q, s⟩ := ha.ex
  refine ⟨_, pe_call F hr hg hm hk hb .nil hx q hdb he hpl, fun σ vs H ρ cs QD ED Q hS hw hX hQ => ?_⟩
  refine s σ vs H ρ cs _ ED _ hS hw hX fun xs H1 ccs ρ1 hl S1 q1 => ?_
  rw [List.append_nil]
  unfold callA at q1
  split at q1
  · rename_i i rest
    cases xs with
    | nil => simp at hl
    | cons x xs => exact SR.callP (by simpa using hl) S1 q1 hX hE hQ
  · exact SR.callD hl S1 q1 hX hE fun v H' c S3 q3 => hQ v H' c ρ1 S3 q3
end
end DL

set_option Elab.async false
set_option linter.all false
set_option maxRecDepth 100000
set_option maxHeartbeats 4000000
/-! DL, statements, loops, comprehensions, a def's body. -/
namespace DL
open PySem PySem.Spec PyProof.Rows L2

structure EndsD where
  nx : Rho → Prop
  rt : KC
  bk : Rho → Prop
  ct : Rho → Prop
  ex : KX
abbrev WS := EndsD → Rho → Prop
def plainAll (cs : List C) : Prop := ∀ c ∈ cs, c.plain = true
structure EndsOk (K : PySem.W.Frag) (g : G) (W : WX) (vs : List V) (cs : List C) (DD : EndsD) (D : Ends) : Prop where
  nx : ∀ σ' H' ρ', SR K g σ' vs H' ρ' cs → DD.nx ρ' → D.nx σ' H'
  bk : ∀ σ' H' ρ', SR K g σ' vs H' ρ' cs → DD.bk ρ' → D.bk σ' H'
  ct : ∀ σ' H' ρ', SR K g σ' vs H' ρ' cs → DD.ct ρ' → D.ct σ' H'
  rt : ∀ v σ' H' c ρ', SR K g σ' (v :: vs) H' ρ' (c :: cs) → DD.rt c ρ' → D.rt v H'
  ex : ∀ σ', XEnds K g W σ' DD.ex
def SemS (K : PySem.W.Frag) (g : G) (W : WX) (t : TS) (w : WS) : Prop :=
  ∀ (σ : L2.St) (vs : List V) (H : Hp) (ρ : Rho) (cs : List C) (DD : EndsD) (D : Ends), SR K g σ vs H ρ cs → plainAll cs → w DD ρ → EndsOk K g W vs cs DD D → t D σ H
structure ES (X : Cx) (g : G) (W : WX) (st : Stmt) (w : WS) : Prop where
  ex : ∃ t, PS X st t ∧ SemS X.K g W t w
structure EB (X : Cx) (g : G) (W : WX) (sts : List Stmt) (w : WS) : Prop where
  ex : ∃ t, PSs X sts t ∧ SemS X.K g W t w
theorem plainAll.nopk {cs : List C} (h : plainAll cs) {j i : Nat} : (C.pk j ∈ cs ∨ C.ln j ∈ cs) → j ≠ i := fun q => by
  rcases q with q | q <;> cases h _ q
theorem plainAll.cons {c : C} {cs : List C} (h : plainAll cs) (hc : c.plain = true) : plainAll (c :: cs) := fun q hq => by
  rcases List.mem_cons.mp hq with e | hq
  · rw [e]; exact hc
  · exact h q hq

@[reducible] def wNext : WS := fun DD ρ => DD.nx ρ
def wSeq (w u : WS) : WS := fun DD ρ => w ⟨u DD, DD.rt, DD.bk, DD.ct, DD.ex⟩ ρ
@[reducible] def wDrop (we : WE) : WS := fun DD ρ => we ρ (fun _ ρ1 => DD.nx ρ1) DD.ex
@[reducible] def wRet (we : WE) : WS := fun DD ρ => we ρ (fun c ρ1 => DD.rt c ρ1) DD.ex
@[reducible] def wRetO (i : Nat) : WS := fun DD ρ => match rget ρ i with
  | .own t o => DD.rt (.own t o) (rset ρ i .no)
  | .v d => DD.rt (.v d) ρ
  | _ => False
@[reducible] def wIf (wt : WT) (w u : WS) : WS := fun DD ρ => wt ρ (fun b ρ1 => if b = true then w DD ρ1 else u DD ρ1) DD.ex
@[reducible] def wSet (i : Nat) (we : WE) : WS := fun DD ρ => we ρ (fun c ρ1 => c.plain = true ∧ DD.nx (rset ρ1 i c)) DD.ex
@[reducible] def wSetF (i : Nat) (we : WE) : WS := fun DD ρ => we ρ (fun c ρ1 => (frzC c).plain = true ∧ DD.nx (rset ρ1 i (frzC c))) DD.ex
section
variable {K : PySem.W.Frag} {g : G} {W : WX} {t u : TS} {w w' : WS} {te : TE} {we : WE}
theorem sem_next : SemS K g W tNext wNext := fun σ vs H ρ cs DD D hS hp hw hE => hE.nx σ H ρ hS hw
theorem sem_seq (h : SemS K g W t w) (h' : SemS K g W u w') : SemS K g W (tSeq t u) (wSeq w w') := fun σ vs H ρ cs DD D hS hp hw hE =>
  h σ vs H ρ cs _ _ hS hp hw ⟨fun σ' H' ρ' S' q => h' σ' vs H' ρ' cs DD D S' hp q hE, hE.bk, hE.ct, hE.rt, hE.ex⟩
theorem sem_drop (h : Sem K g W te we) : SemS K g W (tDrop te) (wDrop we) := fun σ vs H ρ cs DD D hS hp hw hE =>
  h σ vs H ρ cs _ _ _ hS hw (hE.ex σ) fun v H' c ρ' S' q => hE.nx σ H' ρ' S'.pop q
theorem sem_ret (h : Sem K g W te we) : SemS K g W (tRet te) (wRet we) := fun σ vs H ρ cs DD D hS hp hw hE =>
  h σ vs H ρ cs _ _ _ hS hw (hE.ex σ) fun v H' c ρ' S' q => hE.rt v σ H' c ρ' S' q
theorem sem_if {tc : TT} {wt : WT} (hc : SemT K g W tc wt) (h : SemS K g W t w) (h' : SemS K g W u w') : SemS K g W (tIfS tc t u) (wIf wt w w') := fun σ vs H ρ cs DD D hS hp hw hE =>
  hc σ vs H ρ cs _ _ _ hS hw (hE.ex σ) fun b H' ρ' S' q => by
    cases b with
    | true => exact h σ vs H' ρ' cs DD D S' hp q hE
    | false => exact h' σ vs H' ρ' cs DD D S' hp q hE
theorem SR.store {σ : L2.St} {vs : List V} {H : Hp} {ρ : Rho} {cs : List C} {i : Nat} {x : V} {c : C} (h : SR K g σ (x :: vs) H ρ (c :: cs)) (hc : c.plain = true) (hj : ∀ j, (C.pk j ∈ cs ∨ C.ln j ∈ cs) → j ≠ i) : SR K g (σ.set i (some x)) vs H (rset ρ i c) cs := by
  by_cases hi : i < σ.length
  · exact h.assign hc hi hj
  · have e1 : σ.set i (some x) = σ := List.set_eq_of_length_le (by omega)
    have e2 : rset ρ i c = ρ := by
      have hl : ρ.length ≤ i := by rw [← h.len]; omega
      clear h hj e1 hi
      induction ρ generalizing i with
      | nil => rfl
      | cons q ρ ih =>
        cases i with
        | zero => simp at hl
        | succ i =>
          show q :: rset ρ i c = q :: ρ
          rw [ih (by simpa using hl)]
    rw [e1, e2]
    exact h.pop
theorem sem_set {i : Nat} (h : Sem K g W te we) : SemS K g W (tAsg te (gName i)) (wSet i we) := fun σ vs H ρ cs DD D hS hp hw hE =>
  h σ vs H ρ cs _ _ _ hS hw (hE.ex σ) fun v H' c ρ' S' q => hE.nx _ H' _ (S'.store q.1 fun j => hp.nopk) q.2
theorem sem_setF {i : Nat} (h : Sem K g W te we) : SemS K g W (tAsg te (gName i)) (wSetF i we) := fun σ vs H ρ cs DD D hS hp hw hE =>
  h σ vs H ρ cs _ _ _ hS hw (hE.ex σ) fun v H' c ρ' S' q => hE.nx _ H' _ (S'.frzTop.store q.1 fun j => hp.nopk) q.2
end
section
variable {X : Cx} {g : G} {W : WX} {st : Stmt} {rest : List Stmt} {w u : WS} {e : Expr} {we : WE} {pos : Pos}
theorem eb_nil : EB X g W [] wNext := ⟨_, pss_nil, sem_next⟩
theorem eb_cons (h : ES X g W st w) (h' : EB X g W rest u) : EB X g W (st :: rest) (wSeq w u) := by
  obtain ⟨t, p, s⟩ := h.ex
  obtain ⟨t', p', s'⟩ := h'.ex
  exact ⟨_, pss_cons p p', sem_seq s s'⟩
theorem eb_one (h : ES X g W st w) : EB X g W [st] w := by
  obtain ⟨t, p, s⟩ := h.ex
  exact ⟨_, pss_one p, s⟩
theorem es_expr (h : EE X g W e we) (hs : swapsWith e none pos.line X.env = pure false := by rfl) : ES X g W (.Expr e pos) (wDrop we) := by
  obtain ⟨t, p, s⟩ := h.ex
  exact ⟨_, ps_expr p hs, sem_drop s⟩
theorem es_ret (h : EE X g W e we) : ES X g W (.Return (some e) pos) (wRet we) := by
  obtain ⟨t, p, s⟩ := h.ex
  exact ⟨_, ps_ret p, sem_ret s⟩
theorem es_retO {i : Nat} {x : Str} {p : Pos} (hL : g.L i = true) (h : PE X (.Name x p) (tVar i)) : ES X g W (.Return (some (.Name x p)) pos) (wRetO i) := by
  refine ⟨_, ps_ret h, fun σ vs H ρ cs DD D hS hp hw hE => ?_⟩
  unfold wRetO at hw
  split at hw
  · rename_i t o eo
    obtain ⟨a, e1, _⟩ := hS.own eo
    obtain ⟨_, S2⟩ := (hS.pushPk e1 hL).moveOut eo
    exact ⟨_, e1, hE.rt _ σ H _ _ S2 hw⟩
  · rename_i d eo
    obtain ⟨x, e1, q⟩ := hS.slot eo
    exact ⟨_, e1, hE.rt _ σ H _ ρ (SR.resV hS (Same.refl H) q) hw⟩
  · exact hw.elim
theorem es_if {c : Expr} {a b : List Stmt} {wt : WT} (hc : ET X g W c wt) (h : EB X g W a w) (h' : EB X g W b u) : ES X g W (.If c a b pos) (wIf wt w u) := by
  obtain ⟨t, p, s⟩ := hc.ex
  obtain ⟨t1, p1, s1⟩ := h.ex
  obtain ⟨t2, p2, s2⟩ := h'.ex
  exact ⟨_, ps_if p p1 p2, sem_if s s1 s2⟩
theorem es_set {i : Nat} {x : Str} {pos' : Pos} (hN : X.N.Nodup) (hi : X.N[i]? = some x) (hx : Loc X.env.scope x) (h : EE X g W e we) (hs : swapsWith e (some (.Name x pos')) pos.line X.env = pure false := by rfl) (hf : X.fn x = true ∨ X.env.scope.names.lookup x = some .local := by first | exact .inl rfl | exact .inr rfl | assumption) :
    ES X g W (.Assign [.Name x pos'] e pos) (wSet i we) := by
  obtain ⟨t, p, s⟩ := h.ex
  exact ⟨_, ps_set hN hi hx p hs hf, sem_set s⟩
theorem es_setF {i : Nat} {x : Str} {pos' : Pos} (hN : X.N.Nodup) (hi : X.N[i]? = some x) (hx : Loc X.env.scope x) (h : EE X g W e we) (hs : swapsWith e (some (.Name x pos')) pos.line X.env = pure false := by rfl) (hf : X.fn x = true ∨ X.env.scope.names.lookup x = some .local := by first | exact .inl rfl | exact .inr rfl | assumption) :
    ES X g W (.Assign [.Name x pos'] e pos) (wSetF i we) := by
  obtain ⟨t, p, s⟩ := h.ex
  exact ⟨_, ps_set hN hi hx p hs hf, sem_setF s⟩
end

/-! ### targets -/
abbrev WG := D → Rho → (Rho → Prop) → Prop
abbrev WGs := List D → Rho → (Rho → Prop) → Prop
def Only (T : List Nat) (σ σ' : L2.St) : Prop := σ'.length = σ.length ∧ ∀ j, j ∉ T → σ'[j]? = σ[j]?
def SemG (K : PySem.W.Frag) (g : G) (T : List Nat) (t : TG) (w : WG) : Prop :=
  ∀ (σ : L2.St) (vs : List V) (H : Hp) (ρ : Rho) (cs : List C) (x : V) (d : D) (QD : Rho → Prop) (Q : L2.St → Hp → Prop), SR K g σ (x :: vs) H ρ (.v d :: cs) → (∀ j ∈ T, ∀ i, (C.pk i ∈ cs ∨ C.ln i ∈ cs) → i ≠ j) → w d ρ QD →
    (∀ σ' H' ρ', SR K g σ' vs H' ρ' cs → DL.Only T σ σ' → QD ρ' → Q σ' H') → t x σ H Q
structure EG (X : Cx) (g : G) (tg : Expr) (T : List Nat) (w : WG) : Prop where
  ex : ∃ t, PG X tg t ∧ SemG X.K g T t w
@[reducible] def wgName (i : Nat) : WG := fun d ρ Q => Q (rset ρ i (.v d))
theorem tot_vs {σ : L2.St} {ρ : Rho} : ∀ {xs : List V} {ds : List D} {vs : List V} {cs : List C}, xs.length = ds.length → tot σ (xs ++ vs) ρ (ds.map C.v ++ cs) = tot σ vs ρ cs
  | [], [], _, _, _ => rfl
  | x :: xs, d :: ds, vs, cs, h => by
    show tot σ (x :: (xs ++ vs)) ρ (.v d :: (ds.map C.v ++ cs)) = _
    rw [foot_cons_v, tot_vs (by simpa using h)]
  | [], _ :: _, _, _, h => by simp at h
  | _ :: _, [], _, _, h => by simp at h
section
variable {K : PySem.W.Frag} {g : G} {σ : L2.St} {vs : List V} {H : Hp} {ρ : Rho} {cs : List C}
theorem SR.pushAll (h : SR K g σ vs H ρ cs) : ∀ {xs : List V} {ds : List D}, DpAll K (hide H (tot σ vs ρ cs ++ g.P0)) xs ds → SR K g σ (xs ++ vs) H ρ (ds.map C.v ++ cs)
  | _, [], q => by cases q; exact h
  | _, d :: ds, q => by
    cases q with
    | cons h1 h2 =>
      have r := SR.pushAll h h2
      have e := tot_vs (σ := σ) (ρ := ρ) (vs := vs) (cs := cs) (DL.DpAll.len h2)
      have q := SR.resV (H' := H) r (Same.refl H) (by rw [e]; exact h1)
      exact q
theorem only_set {i : Nat} {x : Option V} {T : List Nat} (hi : i ∈ T) : DL.Only T σ (σ.set i x) := ⟨by simp, fun j hj => List.getElem?_set_ne (fun e => hj (by rw [← e]; exact hi))⟩
theorem Only.trans {T T' : List Nat} {σ σ1 σ2 : L2.St} (a : DL.Only T σ σ1) (b : DL.Only T' σ1 σ2) : DL.Only (T ++ T') σ σ2 := ⟨b.1.trans a.1, fun j hj => by
  have h : j ∉ T ∧ j ∉ T' := by simpa using hj
  rw [b.2 j h.2, a.2 j h.1]⟩
theorem semG_name {i : Nat} : SemG K g [i] (gName i) (wgName i) := fun σ vs H ρ cs x d QD Q hS hp hw hQ =>
  hQ _ H _ (hS.store rfl fun j q => hp i (by simp) j q) (only_set (by simp)) hw
end
section
variable {X : Cx} {g : G} {W : WX} {e tg : Expr} {es : List Expr} {we : WE} {wg : WG} {ws : WGs} {T T' : List Nat} {pos : Pos}
theorem eg_name {i : Nat} {x : Str} (hN : X.N.Nodup) (hi : X.N[i]? = some x) (hx : Loc X.env.scope x) (hf : X.fn x = true ∨ X.env.scope.names.lookup x = some .local := by first | exact .inl rfl | exact .inr rfl | assumption) : EG X g (.Name x pos) [i] (wgName i) := ⟨_, pg_name hN hi hx hf, semG_name⟩
end

/-! ### what loops walk -/
structure Walks (K : PySem.W.Frag) (J : It) (hs : List V) (hd ds : List D) : Prop where
  go : ∀ (H : Hp) (O : List Addr) (i : Nat), (∀ a ∈ O, ∃ u, H a = some u) → DpAll K (hide H O) hs hd → i < ds.length → J.go i H
  yld : ∀ (H : Hp) (O : List Addr) (i : Nat) (y : V) (H' : Hp) (d : D), (∀ a ∈ O, ∃ u, H a = some u) → DpAll K (hide H O) hs hd → J.yld i H y H' → ds[i]? = some d → Same H H' ∧ Dp K (hide H' O) y d
  stop : ∀ (H : Hp) (O : List Addr) (i : Nat), (∀ a ∈ O, ∃ u, H a = some u) → DpAll K (hide H O) hs hd → ds.length ≤ i → J.stop i H
abbrev WI := Rho → (List D → Rho → Prop) → KX → Prop
def SemI (K : PySem.W.Frag) (g : G) (W : WX) (t : TI) (w : WI) : Prop :=
  ∀ (σ : L2.St) (vs : List V) (H : Hp) (ρ : Rho) (cs : List C) (QD : List D → Rho → Prop) (ED : KX) (R : It → Hp → Prop), SR K g σ vs H ρ cs → w ρ QD ED → XEnds K g W σ ED →
    (∀ J hs hd ds H' ρ', hs.length = hd.length → SR K g σ (hs ++ vs) H' ρ' (hd.map C.v ++ cs) → Walks K J hs hd ds → QD ds ρ' → R J H') → t σ H R
structure EI (X : Cx) (g : G) (W : WX) (tg iter : Expr) (w : WI) : Prop where
  ex : ∃ t, PI X tg iter t ∧ SemI X.K g W t w
@[reducible] def forK (wg : WG) (body : WS) : List D → EndsD → Rho → Prop
  | [], DD, ρ => DD.nx ρ
  | d :: ds, DD, ρ => wg d ρ fun ρ1 => body ⟨forK wg body ds DD, DD.rt, DD.nx, forK wg body ds DD, DD.ex⟩ ρ1
@[reducible] def wFor (wi : WI) (wg : WG) (body : WS) : WS := fun DD ρ => wi ρ (fun ds ρ1 => forK wg body ds DD ρ1) DD.ex
theorem plainAll.vs {hd : List D} {cs : List C} (h : plainAll cs) : plainAll (hd.map C.v ++ cs) := fun c hc => by
  rcases List.mem_append.mp hc with q | q
  · obtain ⟨d, _, e⟩ := List.mem_map.mp q
    exact e ▸ rfl
  · exact h c q
section
variable {K : PySem.W.Frag} {g : G} {σ : L2.St} {vs : List V} {H : Hp} {ρ : Rho} {cs : List C}
theorem SR.tops {hs : List V} {hd : List D} (hl : hs.length = hd.length) (h : SR K g σ (hs ++ vs) H ρ (hd.map C.v ++ cs)) : DpAll K (hide H (tot σ vs ρ cs ++ g.P0)) hs hd := by
  have e0 : dats ρ (hd.map C.v) = some hd := by
    clear h hl
    induction hd with
    | nil => rfl
    | cons d hd ih => show (match some d, dats ρ (hd.map C.v) with | some d, some ds => some (d :: ds) | _, _ => none) = _; rw [ih]
  have tp := h.tp
  rw [List.map_append] at tp
  have q := (RCs.split (by simpa using hl) tp).1
  rw [tot_vs hl] at q
  clear tp e0 h
  induction hs generalizing hd with
  | nil => cases hd with
    | nil => exact .nil
    | cons _ _ => simp at hl
  | cons x hs ih => cases hd with
    | nil => simp at hl
    | cons d hd =>
      obtain ⟨⟨y, e, q1⟩, q2⟩ := q
      cases e
      exact .cons q1 (ih (by simpa using hl) q2)
theorem sem_for {W : WX} {T : List Nat} {ti : TI} {tgt : TG} {tb : TS} {wi : WI} {wg : WG} {wb : WS} (hi : SemI K g W ti wi) (hg : SemG K g T tgt wg) (hb : SemS K g W tb wb) : SemS K g W (tFor ti tgt tb) (wFor wi wg wb) := by
  intro σ vs H ρ cs DD D hS hp hw hE
  refine hi σ vs H ρ cs _ _ _ hS hw (hE.ex σ) fun J hs hd ds H1 ρ1 hl S1 wk q1 => ?_
  refine ⟨fun i m σ' H' => m = ds.length - i ∧ ∃ ρ', SR K g σ' (hs ++ vs) H' ρ' (hd.map C.v ++ cs) ∧ forK wg wb (ds.drop i) DD ρ', ⟨ds.length, by simp, ρ1, S1, by simpa using q1⟩, ?_⟩
  rintro i m σ2 H2 ⟨rfl, ρ2, S2, q2⟩
  have dom := (SR.pops (by simpa using hl) S2).domO
  have dd := SR.tops hl S2
  by_cases hlt : i < ds.length
  · refine .inr ⟨wk.go H2 _ i dom dd hlt, fun σ' H' => ∃ ρ', SR K g σ' (hs ++ vs) H' ρ' (hd.map C.v ++ cs) ∧ forK wg wb (ds.drop (i + 1)) DD ρ', fun σ' H' q => ⟨ds.length - (i + 1), by omega, rfl, q⟩, fun x H3 y => ?_⟩
    have ed : ds.drop i = ds[i] :: ds.drop (i + 1) := List.drop_eq_getElem_cons hlt
    rw [ed] at q2
    obtain ⟨sm, dx⟩ := wk.yld H2 _ i x H3 ds[i] dom dd y (List.getElem?_eq_getElem hlt)
    have S3 : SR K g σ2 (x :: (hs ++ vs)) H3 ρ2 (.v ds[i] :: (hd.map C.v ++ cs)) := SR.resV S2 sm (by rw [tot_vs hl]; exact dx)
    refine hg σ2 (hs ++ vs) H3 ρ2 (hd.map C.v ++ cs) x ds[i] _ _ S3 (fun j _ k => hp.vs.nopk) q2 fun σ4 H4 ρ4 S4 _ q4 => ?_
    refine hb σ4 (hs ++ vs) H4 ρ4 (hd.map C.v ++ cs) _ _ S4 hp.vs q4 ⟨fun σ' H' ρ' S' q => ⟨ρ', S', q⟩, fun σ' H' ρ' S' q => ?_, fun σ' H' ρ' S' q => ⟨ρ', S', q⟩, fun v σ' H' c ρ' S' q => ?_, hE.ex⟩
    · exact hE.nx σ' H' ρ' (SR.pops (by simpa using hl) S') q
    · exact hE.rt v σ' H' c ρ' (SR.pops (xs := hs) (ccs := hd.map C.v) (by simpa using hl) (SR.unrot (by simpa using hl) S')) q
  · refine .inl ⟨wk.stop H2 _ i dom dd (by omega), ?_⟩
    have ed : ds.drop i = [] := List.drop_eq_nil_of_le (by omega)
    rw [ed] at q2
    exact hE.nx σ2 H2 ρ2 (SR.pops (by simpa using hl) S2) q2
end
section
variable {X : Cx} {g : G} {W : WX} {tg iter : Expr} {body : List Stmt} {wi : WI} {wg : WG} {wb : WS} {T : List Nat} {pos : Pos}
theorem es_for (hp : PassesOwn (model X.prog X.w) X.A X.env X.xe) (hc : X.calm = true) (hi : EI X g W tg iter wi) (hg : EG X g tg T wg) (hb : EB X g W body wb) (hs : ∀ x, foldedSetIterable iter X.env x = pure x := by intro _; rfl) : ES X g W (.For tg iter body [] pos) (wFor wi wg wb) := by
  obtain ⟨t, p, s⟩ := hi.ex
  obtain ⟨t1, p1, s1⟩ := hg.ex
  obtain ⟨t2, p2, s2⟩ := hb.ex
  exact ⟨_, ps_for hp hc p p1 p2 hs, sem_for s s1 s2⟩
end
end DL

set_option Elab.async false
set_option linter.all false
set_option maxRecDepth 100000
set_option maxHeartbeats 4000000
/-! DL, a def keeps its promise; what is walked; comprehensions. -/
namespace DL
open PySem PySem.Spec PyProof.Rows L2

@[reducible] def back1 : C → Option C → C
  | .own t _, some (.own t' o') => if t' = t then .own t o' else .no
  | .own _ _, _ => .no
  | a, _ => a
@[reducible] def backs : List C → Rho → List C
  | [], _ => []
  | a :: as, [] => back1 a none :: backs as []
  | a :: as, c :: ρ => back1 a (some c) :: backs as ρ
@[reducible] def startD (n : Nat) (as : List C) : Rho := as ++ List.replicate (n - as.length) .no
section
variable {K : PySem.W.Frag} {g : G}
theorem SR.leave {H H' : Hp} {us : L2.St} {as : List C} {σ' : L2.St} {v : List V} {c : List C} {ρ' : Rho} (h : SR K g us [] H as []) (hH : g.H0 = H) (hO : g.Oa = foot us as) (h' : SR K g σ' v H' ρ' c) (hok : ∀ q ∈ c, q.ok = true) : SR K g us v H' (backs as ρ') c ∧ ∀ a ∈ foot us (backs as ρ'), a ∈ foot σ' ρ' := by
  have hlen := h.len
  have f0 : ∀ (u : Option V) (a : C), (∀ t o, a ≠ .own t o) → footC u a = [] := fun u a ha => by
    cases a with
    | own t o => exact absurd rfl (ha t o)
    | _ => cases u with
      | none => rfl
      | some x => cases x <;> rfl
  have fnil : ∀ (l : List (Option V)), foot l ([] : List C) = [] := fun l => by cases l <;> rfl
  -- an own parameter that is still there stands where it stood
  have own : ∀ (k : Nat) (us0 : List (Option V)) (as0 : List C) (σ0 : List (Option V)) (ρ0 : Rho), us0.length = as0.length → RCs K g [] (hide H (tot us [] as [] ++ g.P0)) H us0 as0 → RCs K g [] (hide H' (tot σ' v ρ' c ++ g.P0)) H' σ0 ρ0 →
      (foot us0 (backs as0 ρ0)).Sublist (foot σ0 ρ0) ∧ ∀ (B : Hp), Same (hide H' (tot σ' v ρ' c ++ g.P0)) B → Same (hide H (tot us [] as [] ++ g.P0)) B → RCs K g [] B H' us0 (backs as0 ρ0) := by
    intro k us0
    induction us0 with
    | nil =>
      intro as0 σ0 ρ0 hl _ _
      cases as0 with
      | nil => refine ⟨?_, fun B _ _ => ?_⟩ <;> cases ρ0 <;> first | exact trivial | exact List.nil_sublist _
      | cons _ _ => simp at hl
    | cons u us0 ih =>
      intro as0 σ0 ρ0 hl r1 r2
      cases as0 with
      | nil => simp at hl
      | cons a as0 =>
        cases ρ0 with
        | nil =>
          obtain ⟨i1, i2⟩ := ih as0 [] [] (by simpa using hl) r1.2 trivial
          have no : (foot (u :: us0) (.no :: backs as0 [])).Sublist (foot σ0 ([] : List C)) ∧ ∀ (B : Hp), Same (hide H' (tot σ' v ρ' c ++ g.P0)) B → Same (hide H (tot us [] as [] ++ g.P0)) B → RCs K g [] B H' (u :: us0) (.no :: backs as0 []) := by
            refine ⟨?_, fun B h1 h2 => ⟨trivial, i2 B h1 h2⟩⟩
            show (footC u .no ++ foot us0 (backs as0 [])).Sublist _
            rw [footC_no, fnil]
            exact i1
          have same : (∀ t o, a ≠ .own t o) → (foot (u :: us0) (a :: backs as0 [])).Sublist (foot σ0 ([] : List C)) ∧ ∀ (B : Hp), Same (hide H' (tot σ' v ρ' c ++ g.P0)) B → Same (hide H (tot us [] as [] ++ g.P0)) B → RCs K g [] B H' (u :: us0) (a :: backs as0 []) := by
            intro ha
            refine ⟨?_, fun B h1 h2 => ⟨?_, i2 B h1 h2⟩⟩
            · show (footC u a ++ foot us0 (backs as0 [])).Sublist _
              rw [f0 u a ha, fnil]
              exact i1
            · cases a with
              | own t o => exact absurd rfl (ha t o)
              | no => trivial
              | v d => obtain ⟨x, e, q⟩ := r1.1; exact ⟨x, e, dp_mono h2 _ _ q⟩
              | p d => obtain ⟨x, e, q, q'⟩ := r1.1; exact ⟨x, e, dp_mono h2 _ _ q, q'.mono h2⟩
              | pk i => exact r1.1
              | ln i => exact r1.1
              | sub i p k => exact r1.1
          cases a with
          | own t o => exact no
          | _ => exact same fun t o z => by cases z
        | cons c0 ρ0 =>
          cases σ0 with
          | nil => exact r2.elim
          | cons s0 σ0 =>
            obtain ⟨i1, i2⟩ := ih as0 σ0 ρ0 (by simpa using hl) r1.2 r2.2
            have no : (foot (u :: us0) (.no :: backs as0 ρ0)).Sublist (foot (s0 :: σ0) (c0 :: ρ0)) ∧ ∀ (B : Hp), Same (hide H' (tot σ' v ρ' c ++ g.P0)) B → Same (hide H (tot us [] as [] ++ g.P0)) B → RCs K g [] B H' (u :: us0) (.no :: backs as0 ρ0) := by
              refine ⟨?_, fun B h1 h2 => ⟨trivial, i2 B h1 h2⟩⟩
              show (footC u .no ++ foot us0 (backs as0 ρ0)).Sublist (footC s0 c0 ++ foot σ0 ρ0)
              rw [footC_no]
              exact i1.trans (List.sublist_append_right _ _)
            have same : (∀ t o, a ≠ .own t o) → (foot (u :: us0) (a :: backs as0 ρ0)).Sublist (foot (s0 :: σ0) (c0 :: ρ0)) ∧ ∀ (B : Hp), Same (hide H' (tot σ' v ρ' c ++ g.P0)) B → Same (hide H (tot us [] as [] ++ g.P0)) B → RCs K g [] B H' (u :: us0) (a :: backs as0 ρ0) := by
              intro ha
              refine ⟨?_, fun B h1 h2 => ⟨?_, i2 B h1 h2⟩⟩
              · show (footC u a ++ foot us0 (backs as0 ρ0)).Sublist (footC s0 c0 ++ foot σ0 ρ0)
                rw [f0 u a ha]
                exact i1.trans (List.sublist_append_right _ _)
              · cases a with
                | own t o => exact absurd rfl (ha t o)
                | no => trivial
                | v d => obtain ⟨x, e, q⟩ := r1.1; exact ⟨x, e, dp_mono h2 _ _ q⟩
                | p d => obtain ⟨x, e, q, q'⟩ := r1.1; exact ⟨x, e, dp_mono h2 _ _ q, q'.mono h2⟩
                | pk i => exact r1.1
                | ln i => exact r1.1
                | sub i p k => exact r1.1
            cases a with
            | own t o =>
              cases c0 with
              | own t' o' =>
                by_cases et : t' = t
                · have e : backs (.own t o :: as0) (.own t' o' :: ρ0) = .own t o' :: backs as0 ρ0 := by
                    show (if t' = t then C.own t o' else .no) :: backs as0 ρ0 = _
                    rw [if_pos et]
                  rw [e]
                  subst et
                  obtain ⟨b1, e1, _, p1, p2⟩ := r1.1
                  obtain ⟨b2, e2, o2, p3, p4⟩ := r2.1
                  have tn : t' ≠ 0 := fun z => by
                    have q := p2 z
                    have q2 := r1.1
                    obtain ⟨b3, e3, o3, _⟩ := q2
                    obtain ⟨u3, o4⟩ := o3.there
                    rw [e1] at e3; cases e3
                    rw [hH] at q
                    rw [q] at o4; cases o4
                  have eb : b1 = b2 := (p1 tn).symm.trans (p3 tn)
                  subst eb
                  subst e1; subst e2
                  exact ⟨i1.append_left _, fun B h1 h2 => ⟨⟨b1, rfl, o2.mono h1 fun _ _ _ q => q, p3, p4⟩, i2 B h1 h2⟩⟩
                · have e : backs (.own t o :: as0) (.own t' o' :: ρ0) = .no :: backs as0 ρ0 := by
                    show (if t' = t then C.own t o' else .no) :: backs as0 ρ0 = _
                    rw [if_neg et]
                  rw [e]
                  exact no
              | _ => exact no
            | _ => exact same fun t o z => by cases z
  obtain ⟨o0, o2⟩ := own 0 us as σ' ρ' hlen h.sl h'.sl
  have o1 : ∀ a ∈ foot us (backs as ρ'), a ∈ foot σ' ρ' := fun a q => o0.subset q
  have sub : ∀ a ∈ tot us v (backs as ρ') c, a ∈ tot σ' v ρ' c := fun a q => by
    rcases List.mem_append.mp q with z | z
    · exact List.mem_append_left _ z
    · exact List.mem_append_right _ (o1 a z)
  have hB2 : Same (hide H (tot us [] as [] ++ g.P0)) (hide H' (tot us v (backs as ρ') c ++ g.P0)) := fun a o e => by
    obtain ⟨h1, h2⟩ := hide_some.mp e
    have nO : a ∉ g.Oa := fun z => h1 (List.mem_append_left _ (List.mem_append_right _ (by rw [← hO]; exact z)))
    have e0 : g.H0 a = some o := by rw [hH]; exact h2
    refine hide_some.mpr ⟨fun z => ?_, h'.fr a o e0 nO⟩
    rcases List.mem_append.mp z with z | z
    · rcases h'.nw a (sub a z) with q | q
      · exact nO q
      · rw [e0] at q; cases q
    · exact h1 (List.mem_append_right _ z)
  refine ⟨?_, o1⟩
  refine h'.gen (fun _ _ _ q => q) (fun _ o q => ⟨o, q⟩) (fun a q => .inl (sub a q)) ?_ (fun hB => o2 _ hB hB2) (fun hB => ?_) h'.pk
  · have n1 := h'.nd
    have n2 := h.nd
    obtain ⟨p1, p2, p3⟩ := List.nodup_append.mp n1
    refine List.nodup_append.mpr ⟨p1, o0.nodup p2, fun a q b z e => ?_⟩
    subst e
    exact p3 a q a (o1 a z) rfl
  · have q := RCs.mono (B' := hide H' (tot us v (backs as ρ') c ++ g.P0)) (H' := H') hB (fun _ _ _ q => q) h'.tp
    refine q.slots fun j z => ?_
    rcases z with z | z <;> cases hok _ z
end
section
variable {P : Program} {w : World} {K : PySem.W.Frag} {mg : Str → Option Value} {base : Heap} {x qual : Str} {params : Arguments} {body : List Stmt} {scope : Scope} {dvs : List V} {kws : List (Str × V)} {f : Addr} {fd : FuncData}
theorem start_SR {H : Hp} {vs : List V} {as : List C} {P : List Addr} {L : Nat → Bool} {n : Nat} {N : List Str} (hn : N.length = n) (h : SR K (mkG H vs as P L0) (vs.map some) [] H as []) : SR K (mkG H vs as P L) (L2.start N vs) [] H (startD n as) [] := by
  have h1 : SR K (mkG H vs as P L) (vs.map some) [] H as [] := h.setL rfl rfl rfl rfl fun i q => by simp at q
  have hl : vs.length = as.length := by have := h.len; simpa using this
  have e1 : ∀ n, foot (List.replicate n none) (List.replicate n C.no) = [] := fun n => by
    induction n with
    | zero => rfl
    | succ n ih => rw [List.replicate_succ, List.replicate_succ]; show footC none .no ++ foot _ _ = []; rw [ih]; rfl
  have en : N.length - vs.length = n - as.length := by omega
  have ft : foot (L2.start N vs) (startD n as) = foot (vs.map some) as := by
    unfold L2.start startD
    rw [foot_app (by simpa using hl), en, e1, List.append_nil]
  have ft2 : tot (L2.start N vs) [] (startD n as) [] = tot (vs.map some) [] as [] := by
    show foot _ _ ++ foot (L2.start N vs) (startD n as) = foot _ _ ++ _
    rw [ft]
  refine h1.gen (fun _ _ _ q => q) (fun _ o q => ⟨o, q⟩) (fun a q => .inl (by rw [ft2] at q; exact q)) (by rw [ft2]; exact h1.nd) (fun hB => ?_) (fun hB => trivial) (fun i q => by simp at q)
  unfold L2.start startD at hB ⊢
  rw [en] at hB ⊢
  refine RCs.app (h1.sl.mono hB fun _ _ _ q => q) ?_
  have go : ∀ (B : Hp) (m : Nat), RCs K (mkG H vs as P L) [] B H (List.replicate m none) (List.replicate m C.no) := fun B m => by
    induction m with
    | zero => trivial
    | succ m ih => exact ⟨trivial, ih⟩
  exact go _ _
abbrev bodyEnds (as : List C) (QD : C → List C → Prop) (ED : XD → List C → Prop) : EndsD := ⟨fun ρ => QD (.v .none) (backs as ρ), fun c ρ => c.ok = true ∧ QD c (backs as ρ), fun _ => False, fun _ => False, fun x ρ => ED x (backs as ρ)⟩
theorem body_ok {X : Cx} (hK : X.K = K) {N : List Str} {n : Nat} (hn : N.length = n) {Sd : SpD} {ww : WS} {L : Nat → Bool} {W : WX} {E : XK} (hE : ∀ cls d σ H, E cls d H → W cls d σ H)
    (hb : ∀ g : G, g.L = L → EB X g W body ww) (hw : ∀ as QD ED, Sd as QD ED → ww (bodyEnds as QD ED) (startD n as)) {vs : List V} {H : Hp} {Q : VK} (h : spOf K Sd vs H Q E) :
    ∃ t, PSs X body t ∧ t { nx := fun _ H' => Q .non H', rt := Q } (L2.start N vs) H := by
  subst hK
  obtain ⟨as, P, QD, ED, entry, sd, ret, exc⟩ := h
  obtain ⟨t, p, s⟩ := (hb (mkG H vs as P L) rfl).ex
  have e1 : SR X.K (mkG H vs as P L) (vs.map some) [] H as [] := entry.setL rfl rfl rfl rfl fun i q => by simp at q
  refine ⟨t, p, s (L2.start N vs) [] H (startD n as) [] _ _ (start_SR hn entry) (fun c q => by simp at q) (hw as QD ED sd) ⟨fun σ' H' ρ' S' q => ?_, fun _ _ _ _ q => q, fun _ _ _ _ q => q, fun v σ' H' c ρ' S' q => ?_, fun σ' y ρ' cls d H' S' xr ed => ?_⟩⟩
  · obtain ⟨S2, _⟩ := SR.leave e1 rfl rfl (SR.resV S' (Same.refl H') .non) (fun q hq => by first | (rw [List.mem_singleton.mp hq]; done) | (rw [List.mem_singleton.mp hq]; rfl))
    exact ret _ _ rfl q _ H' (S2.setL rfl rfl rfl rfl fun i z => by simp at z)
  · obtain ⟨S2, _⟩ := SR.leave e1 rfl rfl S' (fun z hz => by rw [List.mem_singleton.mp hz]; exact q.1)
    refine ret _ _ q.1 q.2 _ H' (S2.setL rfl rfl rfl rfl fun i z => ?_)
    have := q.1
    rcases z with z | z <;> (rw [← List.mem_singleton.mp z] at this; cases this)
  · obtain ⟨S2, o1⟩ := SR.leave e1 rfl rfl S' (fun q hq => by simp at hq)
    refine hE cls d σ' H' (exc y _ ed cls d H' (S2.setL rfl rfl rfl rfl fun i z => by simp at z) (XRep.mono (.inr fun a o e => ?_) xr))
    obtain ⟨h1, h2⟩ := hide_some.mp e
    refine hide_some.mpr ⟨fun z => h1 ?_, h2⟩
    rcases List.mem_append.mp z with z | z
    · refine List.mem_append_left _ ?_
      exact List.mem_append_right _ (o1 a z)
    · exact List.mem_append_right _ z
end
end DL

set_option Elab.async false
set_option linter.all false
set_option maxRecDepth 100000
set_option maxHeartbeats 4000000
/-! DL: what is walked; comprehensions; subscripts, slices, built-ins. -/
namespace DL
open PySem PySem.Spec PyProof.Rows L2

/-! ### a def -/
section
variable {P : Program} {w : World} {K : PySem.W.Frag} {mg : Str → Option Value} {base : Heap} {x qual : Str} {params : Arguments} {body : List Stmt} {scope : Scope} {dvs : List V} {kws : List (Str × V)} {f : Addr} {fd : FuncData}
theorem fn0 {CX : CXT} {N ps : List Str} {n k : Nat} {Sd : SpD} {L : Nat → Bool} {ww : WS} (F : FunD K x qual params body scope dvs kws f fd) (S : FnScope N ps scope) (hn : N.length = n) (len : ∀ as QD ED, Sd as QD ED → as.length = ps.length)
    (hb : ∀ (cdv : Value) (A : Around) (outer : List Env) (s : Shared) (H : Hp) (E : XK), Room k (A.deeper (envOfC qual scope s.heap.objs.size f cdv)) → ∀ g : G, g.L = L → EB (cxOf CX P w K mg base N qual scope f cdv A outer s H E).nox g (fun _ _ _ _ => False) body ww)
    (hw : ∀ as QD ED, Sd as QD ED → ww (bodyEnds as QD fun _ _ => False) (startD n as)) : FnOk P w K mg base CX (k + 1) f fd ps (spOf K Sd) := by
  refine F.ok S (fun vs H Q E h => ?_) fun cdv A outer s H vs Q E hr h => ?_
  · obtain ⟨as, P, QD, ED, entry, sd, _⟩ := h
    have e := entry.len
    rw [List.length_map] at e
    rw [e, len as QD ED sd]
  · obtain ⟨as, P, QD, ED, entry, sd, ret, exc⟩ := h
    have h2 : spOf K (fun as QD ED' => ED' = (fun _ _ => False) ∧ ∃ ED, Sd as QD ED) vs H Q (fun _ _ _ => False) := ⟨as, P, QD, fun _ _ => False, entry, ⟨rfl, ED, sd⟩, ret, fun x rs z => z.elim⟩
    obtain ⟨t, p, q⟩ := body_ok (N := N) (X := (cxOf CX _ w K mg base N qual scope f cdv A outer s H E).nox) (K := K) rfl hn (W := fun _ _ _ _ => False) (E := fun _ _ _ => False) (fun _ _ _ _ z => z)
      (fun g hg => hb cdv A outer s H E hr g hg) (fun as' QD' ED' ⟨z1, ED2, z2⟩ => by rw [z1]; exact hw as' QD' ED2 z2) h2
    exact ⟨t, p.nox, q⟩
end

/-! ### what is walked -/
section
variable {K : PySem.W.Frag} {hs : List V} {hd ds : List D}
theorem walks_list {a : Addr} {ds : List D} : Walks K (Itl K a) [.ref a] [.list ds] ds := by
  have rd : ∀ {H : Hp} {O : List Addr}, DpAll K (hide H O) [V.ref a] [PyData.list ds] → ∃ xs, SqL K H a xs ∧ DpAll K (hide H O) xs ds := fun {H O} q => by
    cases q with
    | cons q _ =>
      cases q with
      | lst h1 h2 => exact ⟨_, Same.seq (fun b o e => (hide_some.mp e).2) h1, h2⟩
  refine ⟨fun H O i _ q hi => ?_, fun H O i y H' d _ q hy hd => ?_, fun H O i _ q hi => ?_⟩
  · obtain ⟨xs, h1, h2⟩ := rd q
    have hl : i < xs.length := by rw [DL.DpAll.len h2]; exact hi
    exact ⟨xs, xs[i], h1, List.getElem?_eq_getElem hl⟩
  · obtain ⟨xs, h1, h2⟩ := rd q
    obtain ⟨rfl, h3⟩ := hy
    obtain ⟨v, e1, e2⟩ := DL.DpAll.get h2 hd
    have e3 := h3 xs h1
    rw [e1] at e3
    cases e3
    exact ⟨Same.refl _, e2⟩
  · obtain ⟨xs, h1, h2⟩ := rd q
    exact ⟨xs, h1, by rw [DL.DpAll.len h2]; exact hi⟩
theorem walks_tup {a : Addr} {ds : List D} : Walks K (Itt K a) [.ref a] [.tuple ds] ds := by
  have rd : ∀ {H : Hp} {O : List Addr}, DpAll K (hide H O) [V.ref a] [PyData.tuple ds] → ∃ xs, SqT K H a xs ∧ DpAll K (hide H O) xs ds := fun {H O} q => by
    cases q with
    | cons q _ =>
      cases q with
      | tup h1 h2 => exact ⟨_, seqT_same (fun b o e => (hide_some.mp e).2) h1, h2⟩
  refine ⟨fun H O i _ q hi => ?_, fun H O i y H' d _ q hy hd => ?_, fun H O i _ q hi => ?_⟩
  · obtain ⟨xs, h1, h2⟩ := rd q
    have hl : i < xs.length := by rw [DL.DpAll.len h2]; exact hi
    exact ⟨xs, xs[i], h1, List.getElem?_eq_getElem hl⟩
  · obtain ⟨xs, h1, h2⟩ := rd q
    obtain ⟨rfl, h3⟩ := hy
    obtain ⟨v, e1, e2⟩ := DL.DpAll.get h2 hd
    have e3 := h3 xs h1
    rw [e1] at e3
    cases e3
    exact ⟨Same.refl _, e2⟩
  · obtain ⟨xs, h1, h2⟩ := rd q
    exact ⟨xs, h1, by rw [DL.DpAll.len h2]; exact hi⟩
def rangeD (lo : Int) (n : Nat) : List D := (List.range n).map fun (k : Nat) => PyData.int (lo + k)
theorem walks_range {lo : Int} {n : Nat} : Walks K (Itr lo n) [] [] (rangeD lo n) := by
  refine ⟨fun H O i _ q hi => ?_, fun H O i y H' d _ q hy hd => ?_, fun H O i _ q hi => ?_⟩
  · show i < n
    simpa [rangeD] using hi
  · obtain ⟨rfl, rfl⟩ := hy
    have hi : i < n := by
      have := (List.getElem?_eq_some_iff.mp hd).1
      simpa [rangeD] using this
    have e : (rangeD lo n)[i]? = some (.int (lo + i)) := by
      unfold rangeD
      rw [List.getElem?_map, List.getElem?_range hi]
      rfl
    rw [e] at hd
    cases hd
    exact ⟨Same.refl _, .int _⟩
  · show n ≤ i
    simpa [rangeD] using hi
def strD (x : Str) : List D := x.cps.toList.map fun c => PyData.str ⟨#[c]⟩
theorem walks_str {x : Str} : Walks K (Its x) [] [] (strD x) := by
  refine ⟨fun H O i _ q hi => ?_, fun H O i y H' d _ q hy hd => ?_, fun H O i _ q hi => ?_⟩
  · show i < x.cps.size
    simpa [strD] using hi
  · obtain ⟨rfl, c, e, rfl⟩ := hy
    have e2 : (strD x)[i]? = some (.str ⟨#[c]⟩) := by
      unfold strD
      rw [List.getElem?_map, Array.getElem?_toList, e]
      rfl
    rw [e2] at hd
    cases hd
    exact ⟨Same.refl _, .str _⟩
  · show x.cps.size ≤ i
    simpa [strD] using hi
end
@[reducible] def wIL (we : WE) : WI := fun ρ Q E => we ρ (fun c ρ1 => match frzC c with
  | .v (.list ds) => Q ds ρ1
  | _ => False) E
@[reducible] def wIR1 (wa : WA) : WI := fun ρ Q E => wa ρ (fun cs ρ1 => match cs with
  | [.v (.int j)] => (-(2 ^ 62) ≤ j ∧ j < 2 ^ 62) ∧ Q (rangeD 0 j.toNat) ρ1
  | _ => False) E
section
variable {X : Cx} {g : G} {W : WX} {tg e : Expr} {we : WE} {pos : Pos}
theorem ei_lst (h : EE X g W e we) : EI X g W tg e (wIL we) := by
  obtain ⟨t, p, s⟩ := h.ex
  refine ⟨_, pi_list p, fun σ vs H ρ cs QD ED R hS hw hX hQ => ?_⟩
  refine s σ vs H ρ cs _ ED _ hS hw hX fun x H1 c ρ1 S1 q1 => ?_
  split at q1
  · rename_i ds ec
    have S2 := S1.frzTop
    rw [ec] at S2
    have q := S2.top
    cases q with
    | lst h1 h2 =>
      rename_i a xs
      exact ⟨a, rfl, ⟨xs, Same.seq (fun b o e => (hide_some.mp e).2) h1⟩, hQ _ [.ref a] [.list ds] ds H1 ρ1 rfl S2 walks_list q1⟩
  · exact q1.elim
theorem ei_range1 {a : Expr} {wa : WA} {p : Pos} (hg : Gl X "range") (hm : X.mg "range" = none) (ha : EA X g W [a] wa) (hs : starEach [a] X.env = [(false, eval a X.env)] := by rfl) : EI X g W tg (.Call (.Name "range" p) [a] [] pos) (wIR1 wa) := by
  obtain ⟨t, q, s⟩ := ha.ex
  refine ⟨_, pi_range1 hg hm q hs, fun σ vs H ρ cs QD ED R hS hw hX hQ => ?_⟩
  refine s σ vs H ρ cs _ ED _ hS hw hX fun xs H1 ccs ρ1 hl S1 q1 => ?_
  split at q1
  · rename_i j
    match xs, hl with
    | [x], _ =>
      have q := S1.top
      cases q
      exact ⟨j, rfl, q1.1.1, q1.1.2, hQ _ [] [] _ H1 ρ1 rfl S1.pop walks_range q1.2⟩
  · exact q1.elim
end

/-! ### comprehensions -/
@[reducible] def clr (T : List Nat) (ρ : Rho) : Rho := match T with
  | [] => ρ
  | i :: T => rset (clr T ρ) i .no
@[reducible] def lcK (T : List Nat) (wg : WG) (wt : WT) (we : WE) : List D → List D → Rho → (List D → Rho → Prop) → Prop
  | [], acc, ρ, k => k acc ρ
  | d :: ds, acc, ρ, k => wg d ρ fun ρ1 => wt ρ1 (fun b ρ2 => if b = true then we ρ2 (fun c ρ3 => match frzC c with
      | .v d' => lcK T wg wt we ds (acc ++ [d']) (clr T ρ3) k
      | _ => False) (fun _ _ => False) else lcK T wg wt we ds acc (clr T ρ2) k) (fun _ _ => False)
@[reducible] def wYes : WT := fun ρ Q _ => Q true ρ
structure ETs (X : Cx) (g : G) (W : WX) (ifs : List Expr) (w : WT) : Prop where
  ex : ∃ t, PTs X ifs t ∧ SemT X.K g W t w
theorem ets_nil {X : Cx} {g : G} {W : WX} : ETs X g W [] wYes := ⟨_, pts_nil, fun σ vs H ρ cs QD ED Q hS hw hX hQ => hQ true H ρ hS hw⟩
theorem foot_agree : ∀ {σ σ' : List (Option V)} {ρ : Rho}, σ'.length = σ.length → (∀ j, rget ρ j ≠ .no → σ'[j]? = σ[j]?) → foot σ' ρ = foot σ ρ
  | [], [], _, _, _ => rfl
  | _ :: _, _ :: _, [], _, _ => rfl
  | v :: σ, v' :: σ', c :: ρ, hl, h => by
    have ih := foot_agree (σ := σ) (σ' := σ') (ρ := ρ) (by simpa using hl) fun j hj => by have := h (j + 1) hj; simpa using this
    have e : footC v' c = footC v c := by
      cases c with
      | no => rw [footC_no, footC_no]
      | _ =>
        have e1 := h 0 (fun z => by cases z)
        have e2 : v' = v := by simpa using e1
        rw [e2]
    show footC v' c ++ foot σ' ρ = footC v c ++ foot σ ρ
    rw [e, ih]
  | [], _ :: _, _, h, _ => by simp at h
  | _ :: _, [], _, h, _ => by simp at h
theorem RCs.agree {K : PySem.W.Frag} {g : G} {s : L2.St} {B H : Hp} : ∀ {σ σ' : List (Option V)} {ρ : Rho}, σ'.length = σ.length → (∀ j, rget ρ j ≠ .no → σ'[j]? = σ[j]?) → RCs K g s B H σ ρ → RCs K g s B H σ' ρ
  | [], [], _, _, _, h => h
  | _ :: _, _ :: _, [], _, _, h => h.elim
  | v :: σ, v' :: σ', c :: ρ, hl, h, r => by
    refine ⟨?_, RCs.agree (σ := σ) (σ' := σ') (ρ := ρ) (by simpa using hl) (fun j hj => by have := h (j + 1) hj; simpa using this) r.2⟩
    cases c with
    | no => trivial
    | _ =>
      have e1 := h 0 (fun z => by cases z)
      have e2 : v' = v := by simpa using e1
      rw [e2]
      exact r.1
  | [], _ :: _, _, h, _, _ => by simp at h
  | _ :: _, [], _, h, _, _ => by simp at h
section
variable {K : PySem.W.Frag} {g : G} {σ σ' : L2.St} {vs : List V} {H : Hp} {ρ : Rho} {cs : List C}
theorem SR.agree (h : SR K g σ vs H ρ cs) (hl : σ'.length = σ.length) (hj : ∀ j, rget ρ j ≠ .no → σ'[j]? = σ[j]?) (hp : ∀ j, (C.pk j ∈ cs ∨ C.ln j ∈ cs) → σ'[j]? = σ[j]?) : SR K g σ' vs H ρ cs := by
  have ft : tot σ' vs ρ cs = tot σ vs ρ cs := by
    show foot (vs.map some) cs ++ foot σ' ρ = _
    rw [foot_agree hl hj]
  exact h.gen (fun _ _ _ q => q) (fun _ o q => ⟨o, q⟩) (fun a q => .inl (by rw [ft] at q; exact q)) (by rw [ft]; exact h.nd) (fun hB => (h.sl.mono hB fun _ _ _ q => q).agree hl hj) (fun hB => (h.tp.mono hB fun _ _ _ q => q).slots hp) h.pk
theorem rget_rset_ne : ∀ {ρ : Rho} {i j : Nat} {c : C}, i ≠ j → rget (rset ρ i c) j = rget ρ j
  | [], _, _, _, _ => rfl
  | _ :: _, 0, 0, _, h => absurd rfl h
  | _ :: _, 0, _ + 1, _, _ => rfl
  | _ :: _, _ + 1, 0, _, _ => rfl
  | _ :: ρ, i + 1, j + 1, c, h => rget_rset_ne (ρ := ρ) (i := i) (j := j) (c := c) (fun e => h (by rw [e]))
theorem rget_over : ∀ {ρ : Rho} {i : Nat}, ρ.length ≤ i → rget ρ i = .no
  | [], _, _ => rfl
  | _ :: _, 0, h => by simp at h
  | _ :: ρ, i + 1, h => rget_over (ρ := ρ) (i := i) (by simpa using h)
theorem clr_len : ∀ {T : List Nat}, (clr T ρ).length = ρ.length
  | [] => rfl
  | i :: T => by show (rset (clr T ρ) i .no).length = _; rw [rset_len, clr_len]
theorem clr_in : ∀ {T : List Nat} {j : Nat}, j ∈ T → rget (clr T ρ) j = .no
  | i :: T, j, h => by
    show rget (rset (clr T ρ) i .no) j = .no
    by_cases e : i = j
    · subst e
      by_cases hl : i < ρ.length
      · exact rget_rset (by rw [clr_len]; exact hl)
      · exact rget_over (by rw [rset_len, clr_len]; omega)
    · rw [rget_rset_ne e]
      exact clr_in ((List.mem_cons.mp h).resolve_left fun z => e z.symm)
theorem SR.clrs (h : SR K g σ vs H ρ cs) : ∀ (T : List Nat), SR K g σ vs H (clr T ρ) cs
  | [] => h
  | i :: T => (SR.clrs h T).clear i
theorem wipe_get {T : List Nat} {j : Nat} (h : j ∉ T) : (wipe σ T)[j]? = σ[j]? := wipe_out h
theorem SR.wiped {T : List Nat} (h : SR K g σ vs H ρ cs) (hT : ∀ j ∈ T, rget ρ j = .no) (hL : ∀ j ∈ T, g.L j = false) : SR K g (wipe σ T) vs H ρ cs :=
  h.agree (wipe_length σ T) (fun j hj => wipe_get fun z => hj (hT j z)) fun j hj => wipe_get fun z => by
    have := h.pk j hj
    rw [hL j z] at this; cases this
theorem wipe_in : ∀ {T : List Nat} {j : Nat}, j ∈ T → j < σ.length → (wipe σ T)[j]? = some none
  | i :: T, j, h, hl => by
    show ((wipe σ T).set i none)[j]? = some none
    by_cases e : i = j
    · subst e
      rw [List.getElem?_set_self (by rw [wipe_length]; exact hl)]
    · rw [List.getElem?_set_ne e]
      exact wipe_in ((List.mem_cons.mp h).resolve_left fun z => e z.symm) hl
theorem only_wipe {T : List Nat} (h : DL.Only T σ σ') : wipe σ' T = wipe σ T := by
  apply List.ext_getElem?
  intro j
  by_cases hj : j ∈ T
  · by_cases hl : j < σ.length
    · rw [wipe_in hj hl, wipe_in hj (by rw [h.1]; exact hl)]
    · rw [List.getElem?_eq_none (by rw [wipe_length, h.1]; omega), List.getElem?_eq_none (by rw [wipe_length]; omega)]
  · rw [wipe_get hj, wipe_get hj, h.2 j hj]
theorem wipe_wipe {T : List Nat} : wipe (wipe σ T) T = wipe σ T := only_wipe ⟨wipe_length σ T, fun j hj => wipe_get hj⟩
end
def keptD (ρ : Rho) : List Nat → List D
  | [] => []
  | i :: T => (match rget ρ i with
    | .v d => d
    | _ => .none) :: keptD ρ T
section
variable {K : PySem.W.Frag} {g : G} {σ : L2.St} {vs : List V} {H : Hp} {ρ : Rho} {cs : List C}
theorem keptD_at (h : SR K g σ vs H ρ cs) : ∀ (T : List Nat), ∃ xs : List V, xs.length = (keptD ρ T).length ∧ DpAll K (hide H (tot σ vs ρ cs ++ g.P0)) xs (keptD ρ T) ∧ ∀ (k i : Nat) (d : D), T[k]? = some i → rget ρ i = .v d → ∃ x, xs[k]? = some x ∧ σ[i]? = some (some x)
  | [] => ⟨[], rfl, .nil, fun k i d e => by simp at e⟩
  | i :: T => by
    obtain ⟨xs, h1, h2, h3⟩ := keptD_at h T
    cases e : rget ρ i with
    | v d =>
      obtain ⟨x, e1, q⟩ := h.slot e
      have ek : keptD ρ (i :: T) = d :: keptD ρ T := by show (match rget ρ i with | .v d => d | _ => .none) :: _ = _; rw [e]
      rw [ek]
      refine ⟨x :: xs, by simp [h1], .cons q h2, fun k i' d' e2 e3 => ?_⟩
      cases k with
      | zero =>
        have e4 : i = i' := by simpa using e2
        subst e4
        exact ⟨x, rfl, e1⟩
      | succ k => obtain ⟨y, y1, y2⟩ := h3 k i' d' (by simpa using e2) e3; exact ⟨y, by simpa using y1, y2⟩
    | _ =>
      have ek : keptD ρ (i :: T) = .none :: keptD ρ T := by show (match rget ρ i with | .v d => d | _ => .none) :: _ = _; rw [e]
      rw [ek]
      refine ⟨.non :: xs, by simp [h1], .cons .non h2, fun k i' d' e2 e3 => ?_⟩
      cases k with
      | zero =>
        have e4 : i = i' := by simpa using e2
        subst e4
        rw [e] at e3; cases e3
      | succ k => obtain ⟨y, y1, y2⟩ := h3 k i' d' (by simpa using e2) e3; exact ⟨y, by simpa using y1, y2⟩
end
end DL

set_option Elab.async false
set_option linter.all false
set_option maxRecDepth 100000
set_option maxHeartbeats 4000000
/-! DL: comprehensions, own lists changed. -/
namespace DL
open PySem PySem.Spec PyProof.Rows L2

/-! ### one reading for a piece of syntax, whatever the context -/
def tOfE (K : PySem.W.Frag) (g : G) (W : WX) (w : WE) : TE := fun σ H Q => ∃ vs ρ cs QD ED, SR K g σ vs H ρ cs ∧ w ρ QD ED ∧ XEnds K g W σ ED ∧ ∀ v H' c ρ', SR K g σ (v :: vs) H' ρ' (c :: cs) → QD c ρ' → Q v H'
def tOfT (K : PySem.W.Frag) (g : G) (W : WX) (w : WT) : TT := fun σ H Q => ∃ vs ρ cs QD ED, SR K g σ vs H ρ cs ∧ w ρ QD ED ∧ XEnds K g W σ ED ∧ ∀ b H' ρ', SR K g σ vs H' ρ' cs → QD b ρ' → Q b H'
def tOfG (K : PySem.W.Frag) (g : G) (T : List Nat) (w : WG) : TG := fun x σ H Q => ∃ vs ρ cs d QD, SR K g σ (x :: vs) H ρ (.v d :: cs) ∧ (∀ j ∈ T, ∀ i, (C.pk i ∈ cs ∨ C.ln i ∈ cs) → i ≠ j) ∧ w d ρ QD ∧ ∀ σ' H' ρ', SR K g σ' vs H' ρ' cs → DL.Only T σ σ' → QD ρ' → Q σ' H'
section
variable {X : Cx} {g : G} {W : WX} {e : Expr} {ifs : List Expr} {T : List Nat}
theorem EE.can {w : WE} (h : EE X g W e w) : PE X e (tOfE X.K g W w) := by
  obtain ⟨t, p, s⟩ := h.ex
  exact ⟨fun pins sh σ H Q I ⟨vs, ρ, cs, QD, ED, hS, hw, hX, hQ⟩ => p.run pins sh σ H Q I (s σ vs H ρ cs QD ED Q hS hw hX hQ)⟩
theorem ETs.can {w : WT} (h : ETs X g W ifs w) : PTs X ifs (tOfT X.K g W w) := by
  obtain ⟨t, p, s⟩ := h.ex
  exact ⟨fun pins sh σ H Q I ⟨vs, ρ, cs, QD, ED, hS, hw, hX, hQ⟩ => p.run pins sh σ H Q I (s σ vs H ρ cs QD ED Q hS hw hX hQ)⟩
theorem EG.can {w : WG} (h : EG X g e T w) : PG X e (tOfG X.K g T w) := by
  obtain ⟨t, p, s⟩ := h.ex
  exact ⟨fun pins sh σ H x u Q I r ⟨vs, ρ, cs, d, QD, hS, hp, hw, hQ⟩ => p.run pins sh σ H x u Q I r (s σ vs H ρ cs x d QD Q hS hp hw hQ)⟩
end

section
variable {K : PySem.W.Frag} {g : G} {σ : L2.St} {vs : List V} {H H' : Hp} {ρ : Rho} {cs : List C}
theorem SR.mutTopG {a : Addr} {t : Nat} {o o' : OD} (h : SR K g σ (.ref a :: vs) H ρ (.own t o :: cs)) (keep : ∀ b u, b ∉ o.fp a → H b = some u → H' b = some u) (dom : ∀ b u, H b = some u → ∃ u', H' b = some u')
    (fr : ∀ b ∈ o'.fp a, b ∈ o.fp a ∨ H b = none) (nd' : (o'.fp a).Nodup) (new : OwnAt K (hide H' (tot σ (.ref a :: vs) ρ (.own t o' :: cs) ++ g.P0)) H' a o') : SR K g σ (.ref a :: vs) H' ρ (.own t o' :: cs) := by
  obtain ⟨b, e, q1, q2, q3⟩ := h.tp.1
  cases e
  have nd := h.nd
  rw [foot_cons_own] at nd
  obtain ⟨nd1, nd2, nd3⟩ := List.nodup_append.mp nd
  have na : ∀ b ∈ tot σ vs ρ cs, b ∉ o.fp a := fun b z w => nd3 b w b z rfl
  refine h.gen (fun b u n q => keep b u (fun z => n (by rw [foot_cons_own]; exact List.mem_append_left _ z)) q) dom (fun b q => ?_) ?_ (fun hB => h.sl.mono hB fun b z u q => keep b u (na b (List.mem_append_right _ z)) q) (fun hB => ?_) (fun j q => h.pk j ?_)
  · rw [foot_cons_own] at q ⊢
    rcases List.mem_append.mp q with z | z
    · exact (fr b z).imp (fun w => List.mem_append_left _ w) id
    · exact .inl (List.mem_append_right _ z)
  · rw [foot_cons_own]
    refine List.nodup_append.mpr ⟨nd', nd2, fun b z c w e => ?_⟩
    subst e
    rcases fr b z with y | y
    · exact na b w y
    · obtain ⟨u, e⟩ := h.pop.there b w
      rw [y] at e; cases e
  · refine ⟨⟨a, rfl, new, q2, q3⟩, h.tp.2.mono hB fun b z u q => keep b u (na b (List.mem_append_left _ z)) q⟩
  · simp only [List.mem_cons] at q ⊢
    rcases q with (z | z) | (z | z)
    · cases z
    · exact .inl (.inr z)
    · cases z
    · exact .inr (.inr z)
theorem SR.mutTop {a : Addr} {t : Nat} {o o' : OD} (h : SR K g σ (.ref a :: vs) H ρ (.own t o :: cs)) (keep : ∀ b u, b ≠ a → H b = some u → H' b = some u) (new : OwnAt K (hide H (tot σ (.ref a :: vs) ρ (.own t o :: cs) ++ g.P0)) H' a o') (f1 : o.fp a = [a] := by rfl) (f2 : o'.fp a = [a] := by rfl) : SR K g σ (.ref a :: vs) H' ρ (.own t o' :: cs) := by
  have ft : tot σ (.ref a :: vs) ρ (.own t o' :: cs) = tot σ (.ref a :: vs) ρ (.own t o :: cs) := by rw [foot_cons_own, foot_cons_own, f1, f2]
  refine h.mutTopG (fun b u n q => keep b u (fun z => n (by rw [f1, z]; exact List.mem_singleton.mpr rfl)) q) (fun b u q => ?_) (fun b z => .inl (by rw [f1, ← f2]; exact z)) (by rw [f2]; exact List.nodup_cons.mpr ⟨by simp, .nil⟩) ?_
  · by_cases e : b = a
    · rw [e]; exact new.there
    · exact ⟨u, keep b u e q⟩
  · rw [ft]
    refine new.mono (fun b u q => ?_) fun _ _ _ z => z
    obtain ⟨h1, h2⟩ := hide_some.mp q
    refine hide_some.mpr ⟨h1, keep b u (fun z => h1 ?_) h2⟩
    refine List.mem_append_left _ ?_
    rw [foot_cons_own, f1, z]
    exact List.mem_append_left _ (List.mem_singleton.mpr rfl)
theorem SR.appTop {a : Addr} {y : V} {d : D} {t : Nat} {ds : List D} (h : SR K g σ (y :: .ref a :: vs) H ρ (.v d :: .own t (.lst ds) :: cs)) : ∃ xs, H a = some (.lst xs) ∧ xs.length = ds.length ∧ SR K g σ (.ref a :: vs) (upd H a (.lst (xs ++ [y]))) ρ (.own t (.lst (ds ++ [d])) :: cs) := by
  have hy := h.top
  have h1 := h.pop
  obtain ⟨b, e, ⟨xs, q1, q2⟩, _⟩ := id h1.tp.1
  cases e
  refine ⟨xs, q1, DL.DpAll.len q2, h1.mutTop (fun b u n q => by rw [upd_ne n]; exact q) ⟨xs ++ [y], upd_same, ?_⟩⟩
  exact DL.DpAll.app q2 (.cons hy .nil)
end
@[reducible] def back (ρ : Rho) : List Nat → Rho → Rho
  | [], ρ' => ρ'
  | i :: T, ρ' => back ρ T (rset ρ' i (match rget ρ i with
    | .v d => .v d
    | _ => .no))
section
variable {K : PySem.W.Frag} {g : G} {σ : L2.St} {vs : List V} {H H' : Hp} {ρ ρ0 : Rho} {cs : List C}
theorem SR.backs_ : ∀ {T : List Nat} {ks : List V} {ρ : Rho}, ks.length = (keptD ρ0 T).length → (∀ (k i : Nat) (d : D), T[k]? = some i → rget ρ0 i = .v d → ∃ x, ks[k]? = some x ∧ σ[i]? = some (some x)) → SR K g σ (ks ++ vs) H ρ ((keptD ρ0 T).map C.v ++ cs) → SR K g σ vs H (back ρ0 T ρ) cs
  | [], ks, ρ, hl, _, h => by
    cases ks with
    | nil => exact h
    | cons _ _ => simp [keptD] at hl
  | i :: T, ks, ρ, hl, hk, h => by
    cases ks with
    | nil => simp [keptD] at hl
    | cons x ks =>
      have hk' : ∀ (k j : Nat) (d : D), T[k]? = some j → rget ρ0 j = .v d → ∃ y, ks[k]? = some y ∧ σ[j]? = some (some y) := fun k j d e1 e2 => by
        obtain ⟨y, y1, y2⟩ := hk (k + 1) j d (by simpa using e1) e2
        exact ⟨y, by simpa using y1, y2⟩
      cases e : rget ρ0 i with
      | v d =>
        have ek : keptD ρ0 (i :: T) = d :: keptD ρ0 T := by show (match rget ρ0 i with | .v d => d | _ => .none) :: _ = _; rw [e]
        rw [ek] at h hl
        obtain ⟨y, y1, y2⟩ := hk 0 i d rfl e
        have e3 : x = y := by simpa using y1
        subst e3
        have hlt : i < ρ.length := by rw [← h.len]; exact (List.getElem?_eq_some_iff.mp y2).1
        have h1 : SR K g σ (x :: (ks ++ vs)) H (rset ρ i .no) (.v d :: ((keptD ρ0 T).map C.v ++ cs)) := h.clear i
        have h2 := h1.moveIn rfl y2 (rget_rset hlt)
        rw [rset_rset] at h2
        show SR K g σ vs H (back ρ0 T (rset ρ i (match rget ρ0 i with | .v d => .v d | _ => .no))) cs
        rw [e]
        exact SR.backs_ (by simpa using hl) hk' h2
      | _ =>
        have ek : keptD ρ0 (i :: T) = .none :: keptD ρ0 T := by show (match rget ρ0 i with | .v d => d | _ => .none) :: _ = _; rw [e]
        rw [ek] at h hl
        have h1 : SR K g σ (ks ++ vs) H (rset ρ i .no) ((keptD ρ0 T).map C.v ++ cs) := (SR.pop (x := x) (c := .v .none) h).clear i
        show SR K g σ vs H (back ρ0 T (rset ρ i (match rget ρ0 i with | .v d => .v d | _ => .no))) cs
        rw [e]
        exact SR.backs_ (by simpa using hl) hk' h1
end
theorem SR.midV {K : PySem.W.Frag} {g : G} {σ : L2.St} {vs xs hs : List V} {H : Hp} {ρ : Rho} {cs ccs : List C} {hd : List D} (hl : xs.length = ccs.length) (hh : hs.length = hd.length) (h : SR K g σ (xs ++ (hs ++ vs)) H ρ (ccs ++ (hd.map C.v ++ cs))) :
    DpAll K (hide H (tot σ (xs ++ (hs ++ vs)) ρ (ccs ++ (hd.map C.v ++ cs)) ++ g.P0)) hs hd := by
  have tp := h.tp
  rw [List.map_append, List.map_append] at tp
  have q := (RCs.split (by simpa using hh) (RCs.split (by simpa using hl) tp).2).1
  revert q
  generalize hide H _ = B
  intro q
  clear tp h
  induction hs generalizing hd with
  | nil => cases hd with
    | nil => exact .nil
    | cons _ _ => simp at hh
  | cons x hs ih => cases hd with
    | nil => simp at hh
    | cons d hd =>
      obtain ⟨⟨y, e, q1⟩, q2⟩ := q
      cases e
      exact .cons q1 (ih (by simpa using hh) q2)
@[reducible] def wLcB (T : List Nat) (wi : WI) (wg : WG) (wt : WT) (we : WE) : WE := fun ρ Q E => wi ρ (fun ds ρ1 => ds.length ≤ sizeLine ∧ lcK T wg wt we ds [] (clr T ρ1) fun acc ρ2 => Q (.own 0 (.lst acc)) (back ρ1 T ρ2)) E
abbrev W0 : WX := fun _ _ _ _ => False
section
variable {K : PySem.W.Frag} {g : G} {W : WX} {T : List Nat} {ti : TI} {wi : WI} {wg : WG} {wt : WT} {we : WE}
theorem sem_lc (hL : ∀ j ∈ T, g.L j = false) (hi : SemI K g W ti wi) : Sem K g W (tLc ti (tOfG K g T wg) (tOfT K g W0 wt) (tOfE K g W0 we) T) (wLcB T wi wg wt we) := by
  intro σ vs H ρ cs QD ED Q hS hw hX hQ
  refine hi σ vs H ρ cs _ ED _ hS hw hX fun J hs hd ds H1 ρ1 hl S1 wk ⟨hlen, q1⟩ D nD => ?_
  obtain ⟨ks, k1, k2, k3⟩ := keptD_at S1 T
  have S2 : SR K g σ (ks ++ (hs ++ vs)) H1 ρ1 ((keptD ρ1 T).map C.v ++ (hd.map C.v ++ cs)) := S1.pushAll k2
  have S3 := S2.clrs T
  have S4 := S3.wiped (T := T) (fun j hj => clr_in hj) hL
  have S5 : SR K g (wipe σ T) (.ref D :: (ks ++ (hs ++ vs))) (upd H1 D (.lst [])) (clr T ρ1) (.own 0 (.lst []) :: ((keptD ρ1 T).map C.v ++ (hd.map C.v ++ cs))) := SR.res S4 (same_new nD) (new_lst nD .nil)
  refine ⟨fun i m H => m = ds.length - i ∧ ∃ acc ρ', SR K g (wipe σ T) (.ref D :: (ks ++ (hs ++ vs))) H ρ' (.own 0 (.lst acc) :: ((keptD ρ1 T).map C.v ++ (hd.map C.v ++ cs))) ∧ (∀ j ∈ T, rget ρ' j = .no) ∧ acc.length ≤ i ∧ lcK T wg wt we (ds.drop i) acc ρ' fun acc ρ2 => QD (.own 0 (.lst acc)) (back ρ1 T ρ2),
    ⟨ds.length, by simp, [], clr T ρ1, S5, fun j hj => clr_in hj, Nat.zero_le _, by simpa using q1⟩, ?_⟩
  rintro i m H2 ⟨rfl, acc, ρ2, S6, hno, hacc, q6⟩
  have hlk : ks.length = ((keptD ρ1 T).map C.v).length := by simpa using k1
  have hlh : hs.length = (hd.map C.v).length := by simpa using hl
  have S7 : SR K g (wipe σ T) (hs ++ vs) H2 ρ2 (hd.map C.v ++ cs) := SR.pops hlk S6.pop
  have dd := SR.tops hl S7
  have dom := (SR.pops hlh S7).domO
  by_cases hlt : i < ds.length
  · refine .inr ⟨wk.go H2 _ i dom dd hlt, fun H' => ∃ acc ρ', SR K g (wipe σ T) (.ref D :: (ks ++ (hs ++ vs))) H' ρ' (.own 0 (.lst acc) :: ((keptD ρ1 T).map C.v ++ (hd.map C.v ++ cs))) ∧ (∀ j ∈ T, rget ρ' j = .no) ∧ acc.length ≤ i + 1 ∧ lcK T wg wt we (ds.drop (i + 1)) acc ρ' fun acc ρ2 => QD (.own 0 (.lst acc)) (back ρ1 T ρ2),
      fun H' q => ⟨ds.length - (i + 1), by omega, rfl, q⟩, fun x H3 y => ?_⟩
    have ed : ds.drop i = ds[i] :: ds.drop (i + 1) := List.drop_eq_getElem_cons hlt
    rw [ed] at q6
    obtain ⟨sm, dx⟩ := wk.yld H2 _ i x H3 ds[i] dom dd y (List.getElem?_eq_getElem hlt)
    have dd2 := SR.midV (xs := .ref D :: ks) (ccs := .own 0 (.lst acc) :: (keptD ρ1 T).map C.v) (by simp [k1]) hl S6
    have dx2 := (wk.yld H2 _ i x H3 ds[i] S6.domO dd2 y (List.getElem?_eq_getElem hlt)).2
    have S9 : SR K g (wipe σ T) (x :: .ref D :: (ks ++ (hs ++ vs))) H3 ρ2 (.v ds[i] :: .own 0 (.lst acc) :: ((keptD ρ1 T).map C.v ++ (hd.map C.v ++ cs))) := SR.resV S6 sm dx2
    have noX : ∀ σ', XEnds K g W0 σ' (fun _ _ => False) := fun σ' _ _ _ _ _ _ _ z => z
    -- a turn's end
    have turn : ∀ {σ2 : L2.St} {H' : Hp} {ρ' : Rho} {acc' : List PyData}, DL.Only T (wipe σ T) σ2 → SR K g σ2 (.ref D :: (ks ++ (hs ++ vs))) H' ρ' (.own 0 (.lst acc') :: ((keptD ρ1 T).map C.v ++ (hd.map C.v ++ cs))) → acc'.length ≤ i + 1 → lcK T wg wt we (ds.drop (i + 1)) acc' (clr T ρ') (fun acc ρ2 => QD (.own 0 (.lst acc)) (back ρ1 T ρ2)) →
        ∃ acc ρ', SR K g (wipe σ T) (.ref D :: (ks ++ (hs ++ vs))) H' ρ' (.own 0 (.lst acc) :: ((keptD ρ1 T).map C.v ++ (hd.map C.v ++ cs))) ∧ (∀ j ∈ T, rget ρ' j = .no) ∧ acc.length ≤ i + 1 ∧ lcK T wg wt we (ds.drop (i + 1)) acc ρ' fun acc ρ2 => QD (.own 0 (.lst acc)) (back ρ1 T ρ2) := by
      intro σ2 H' ρ' acc' on S hle q
      have S' := (S.clrs T).wiped (T := T) (fun j hj => clr_in hj) hL
      rw [only_wipe on, wipe_wipe] at S'
      exact ⟨acc', clr T ρ', S', fun j hj => clr_in hj, hle, q⟩
    refine ⟨_, ρ2, _, ds[i], _, S9, fun j hj k q e => ?_, q6, fun σ2 H4 ρ4 S10 on q10 => ⟨by rw [only_wipe on, wipe_wipe], _, ρ4, _, _, fun _ _ => False, S10, q10, noX σ2, fun b H5 ρ5 S11 q11 => ?_⟩⟩
    · have q' := S6.pk k q
      rw [e, hL j hj] at q'; cases q'
    · cases b with
      | false =>
        rw [if_neg Bool.false_ne_true] at q11 ⊢
        exact turn on S11 (by omega) q11
      | true =>
        rw [if_pos rfl] at q11 ⊢
        refine ⟨_, ρ5, _, _, fun _ _ => False, S11, q11, noX σ2, fun z H6 c ρ6 S12 q12 => ?_⟩
        split at q12
        · rename_i d' ec
          have S13 := S12.frzTop
          rw [ec] at S13
          obtain ⟨zs, e1, e2, S14⟩ := S13.appTop
          exact ⟨zs, e1, by omega, turn on S14 (by simp; omega) q12⟩
        · exact q12.elim
  · refine .inl ⟨wk.stop H2 _ i dom dd (by omega), ?_⟩
    have ed : ds.drop i = [] := List.drop_eq_nil_of_le (by omega)
    rw [ed] at q6
    have S8 : SR K g σ (.ref D :: (ks ++ (hs ++ vs))) H2 ρ2 (.own 0 (.lst acc) :: ((keptD ρ1 T).map C.v ++ (hd.map C.v ++ cs))) := by
      refine S6.agree (wipe_length σ T).symm (fun j hj => (wipe_get fun z => hj (hno j z)).symm) fun j hj => (wipe_get fun z => ?_).symm
      have q' := S6.pk j hj
      rw [hL j z] at q'; cases q'
    have S9 : SR K g σ (ks ++ .ref D :: (hs ++ vs)) H2 ρ2 ((keptD ρ1 T).map C.v ++ .own 0 (.lst acc) :: (hd.map C.v ++ cs)) := SR.unrot hlk S8
    have S10 := SR.backs_ k1 k3 S9
    exact hQ (.ref D) H2 _ _ (SR.unCall hlh S10) q6
end
section
variable {X : Cx} {g : G} {W : WX} {elt tg iter : Expr} {ifs : List Expr} {scope : Scope} {own : List (Str × Nat)} {pos : Pos} {wi : WI} {wg : WG} {wt : WT} {we : WE}
theorem ee_lc (hc : X.calm = true) (hN : X.N.Nodup) (hL : ∀ j ∈ own.map (·.2), g.L j = false) (hi : EI X g W tg iter wi) (ok : BlkOk X.N X.env.scope scope own)
    (hg : ∀ (s : Shared) (H : Hp) (C : Addr) (cl : List (Str × Addr)) (fp : List Addr), EG (X.blk s H scope (compEnvC scope cl C X.env) fp) g tg (own.map (·.2)) wg)
    (ht : ∀ (s : Shared) (H : Hp) (C : Addr) (cl : List (Str × Addr)) (fp : List Addr), ETs (X.blk s H scope (compEnvC scope cl C X.env) fp) g W0 ifs wt)
    (he : ∀ (s : Shared) (H : Hp) (C : Addr) (cl : List (Str × Addr)) (fp : List Addr), EE (X.blk s H scope (compEnvC scope cl C X.env) fp) g W0 elt we) (hs : ∀ x, foldedSetIterable iter X.env x = pure x := by intro _; rfl) :
    EE X g W (.ListComp elt [⟨tg, iter, ifs, 0⟩] scope pos) (wLcB (own.map (·.2)) wi wg wt we) := by
  obtain ⟨t, p, s⟩ := hi.ex
  exact ⟨_, pe_lc hc hN p ok (fun s H C cl fp => (hg s H C cl fp).can) (fun s H C cl fp => (ht s H C cl fp).can) (fun s H C cl fp => (he s H C cl fp).can) hs, sem_lc hL s⟩
end
end DL

set_option Elab.async false
set_option linter.all false
set_option maxRecDepth 100000
set_option maxHeartbeats 4000000
/-! DL: subscripts, slices, built-ins, own lists changed by statements. -/
namespace DL
open PySem PySem.Spec PyProof.Rows L2

/-! ### places -/
def optK {α : Type} (o : Option α) (k : α → Prop) : Prop := match o with
  | some a => k a
  | none => False
theorem optK_of {α : Type} {o : Option α} {k : α → Prop} {a : α} (e : o = some a) (h : k a) : optK o k := by subst e; exact h
theorem atI_0 {α : Type} {x : α} {xs : List α} : atI (x :: xs) 0 = some x := L2.atI_nat (j := 0) rfl
theorem atI_1 {α : Type} {x y : α} {xs : List α} : atI (x :: y :: xs) 1 = some y := L2.atI_nat (j := 1) rfl
theorem atI_2 {α : Type} {x y z : α} {xs : List α} : atI (x :: y :: z :: xs) 2 = some z := L2.atI_nat (j := 2) rfl
theorem atI_3 {α : Type} {x y z u : α} {xs : List α} : atI (x :: y :: z :: u :: xs) 3 = some u := L2.atI_nat (j := 3) rfl
theorem atI_4 {α : Type} {x y z u v : α} {xs : List α} : atI (x :: y :: z :: u :: v :: xs) 4 = some v := L2.atI_nat (j := 4) rfl
@[simp] theorem optK_some {α : Type} {a : α} {k : α → Prop} : optK (some a) k = k a := rfl
@[reducible] def oIx : O2 := fun d1 d2 k => match d1, d2 with
  | .list ds, .int i => optK (atI ds i) fun d => k (.v d)
  | .tuple ds, .int i => optK (atI ds i) fun d => k (.v d)
  | .str z, .int i => z.length ≤ sizeLine ∧ optK (atI z.cps.toList i) fun c => k (.v (.str ⟨#[c]⟩))
  | _, _ => False
theorem atI_dp {K : PySem.W.Frag} {B : Hp} {xs : List V} {ds : List D} {i : Int} {d : D} (h : DpAll K B xs ds) (e : atI ds i = some d) : ∃ v, atI xs i = some v ∧ Dp K B v d := by
  unfold atI at e ⊢
  rw [DL.DpAll.len h]
  cases q : ixN ds.length i with
  | none => rw [q] at e; cases e
  | some j =>
    rw [q] at e
    exact DL.DpAll.get h e
theorem same_hide {H : Hp} {O : List Addr} : Same (hide H O) H := fun _ _ e => (hide_some.mp e).2
theorem lift_ix {K : PySem.W.Frag} : Lift2 K (rIx K) oIx := by
  intro O H x y dx dy QD Q _ hx hy q fin
  cases hx with
  | lst h1 h2 =>
    cases hy <;> try exact q.elim
    rename_i i
    revert q
    show optK _ _ → _
    intro q
    rename_i ds
    cases e : atI ds i with
    | none => rw [e] at q; exact q.elim
    | some d =>
      rw [e] at q
      obtain ⟨v, e1, e2⟩ := atI_dp h2 e
      exact .inl ⟨_, _, i, v, rfl, rfl, Same.seq same_hide h1, e1, fin v H (.v d) (Same.refl H) e2 q⟩
  | tup h1 h2 =>
    cases hy <;> try exact q.elim
    rename_i i
    rename_i ds
    cases e : atI ds i with
    | none =>
      have q' : optK (atI ds i) _ := q
      rw [e] at q'; exact q'.elim
    | some d =>
      have q' : optK (atI ds i) _ := q
      rw [e] at q'
      obtain ⟨v, e1, e2⟩ := atI_dp h2 e
      exact .inr (.inl ⟨_, _, i, v, rfl, rfl, seqT_same same_hide h1, e1, fin v H (.v d) (Same.refl H) e2 q'⟩)
  | str z =>
    cases hy <;> try exact q.elim
    rename_i i
    obtain ⟨hz, q⟩ := q
    cases e : atI z.cps.toList i with
    | none => rw [e] at q; exact q.elim
    | some c =>
      rw [e] at q
      exact .inr (.inr ⟨z, i, c, rfl, rfl, hz, e, fin _ H (.v _) (Same.refl H) (.str _) q⟩)
  | _ => exact q.elim
section
variable {X : Cx} {g : G} {W : WX} {a b : Expr} {wa wb : WE} {pos : Pos}
theorem ee_ix (ha : EE X g W a wa) (hb : EE X g W b wb) (hp : PlainIx b := by intro _ _; rfl) : EE X g W (.Subscript a b pos) (wB oIx wa wb) := by
  obtain ⟨ta, p1, s1⟩ := ha.ex
  obtain ⟨tb, p2, s2⟩ := hb.ex
  exact ⟨_, pe_ix ix_seq p1 p2 hp, sem_op lift_ix s1 s2⟩
end

/-! ### slices -/
@[reducible] def cutD (ds : List D) (lo hi : Option Int) : List D := (ds.drop (HT.sIx ds.length 0 lo)).take (HT.sIx ds.length ds.length hi - HT.sIx ds.length 0 lo)
theorem DpAll.cut {K : PySem.W.Frag} {B : Hp} {xs : List V} {ds : List D} (lo hi : Option Int) (h : DpAll K B xs ds) : DpAll K B (cutV xs lo hi) (cutD ds lo hi) := by
  unfold cutV cutD
  rw [DL.DpAll.len h]
  exact DL.DpAll.takeN _ (DL.DpAll.dropN _ h)
abbrev WO := Rho → (Option Int → Rho → Prop) → KX → Prop
def SemO (K : PySem.W.Frag) (g : G) (W : WX) (t : TO) (w : WO) : Prop :=
  ∀ (σ : L2.St) (vs : List V) (H : Hp) (ρ : Rho) (cs : List C) (QD : Option Int → Rho → Prop) (ED : KX) (Q : Option Int → Hp → Prop), SR K g σ vs H ρ cs → w ρ QD ED → XEnds K g W σ ED →
    (∀ o H' ρ', SR K g σ vs H' ρ' cs → QD o ρ' → Q o H') → t σ H Q
structure EO (X : Cx) (g : G) (W : WX) (e : Option Expr) (w : WO) : Prop where
  ex : ∃ t, PO X e t ∧ SemO X.K g W t w
@[reducible] def wNoPart : WO := fun ρ Q _ => Q none ρ
@[reducible] def wPart (we : WE) : WO := fun ρ Q E => we ρ (fun c ρ1 => match c with
  | .v (.int i) => Q (some i) ρ1
  | _ => False) E
@[reducible] def oSl (lo hi : Option Int) : O1 := fun d k => match d with
  | .list ds => k (.own 0 (.lst (cutD ds lo hi)))
  | .tuple ds => k (.v (.tuple (cutD ds lo hi)))
  | .str z => z.length ≤ sizeLine ∧ k (.v (.str (cutS z lo hi)))
  | _ => False
@[reducible] def wSl (we : WE) (wl wh : WO) : WE := fun ρ Q E => we ρ (fun c ρ1 => wl ρ1 (fun lo ρ2 => wh ρ2 (fun hi ρ3 => use1 ρ3 c (oSl lo hi) Q) E) E) E
theorem cutD_whole {xs : List D} {lo hi : Option Int} (h : HT.sIx xs.length 0 lo = 0 ∧ HT.sIx xs.length xs.length hi = xs.length) : cutD xs lo hi = xs := by
  unfold cutD
  rw [h.1, h.2]
  simp
theorem lift_sl {K : PySem.W.Frag} (lo hi : Option Int) : Lift1 K (fun x H Q => rSlL K x lo hi H Q ∨ (rSlA K x lo hi H Q ∨ rSlS x lo hi H Q)) (oSl lo hi) := by
  intro O H x dx QD Q hO hx q fin
  cases hx with
  | lst h1 h2 => exact .inl ⟨_, _, rfl, Same.seq same_hide h1, fun p n => fin _ _ (.own 0 (.lst _)) (same_new n) (new_lst n (DL.DpAll.cut lo hi h2)) q⟩
  | tup h1 h2 =>
    refine .inr (.inl ⟨_, _, rfl, seqT_same same_hide h1, fun z => ?_, fun z p n => ?_⟩)
    · refine fin _ H (.v _) (Same.refl H) ?_ q
      rw [DL.DpAll.len h2] at z
      rw [cutD_whole z]
      exact .tup h1 h2
    · exact fin _ _ (.v _) (same_new n) (new_tup n (fun z => by obtain ⟨u, e⟩ := hO p z; rw [n] at e; cases e) (DL.DpAll.cut lo hi h2)) q
  | str z => exact .inr (.inr ⟨z, rfl, q.1, fin _ H (.v _) (Same.refl H) (.str _) q.2⟩)
  | _ => exact q.elim
section
variable {X : Cx} {g : G} {W : WX} {e : Expr} {lo hi : Option Expr} {we : WE} {wl wh : WO} {pos p2 : Pos}
theorem eo_none : EO X g W none wNoPart := ⟨_, po_none, fun σ vs H ρ cs QD ED Q hS hw hX hQ => hQ none H ρ hS hw⟩
theorem eo_some (h : EE X g W e we) : EO X g W (some e) (wPart we) := by
  obtain ⟨t, p, s⟩ := h.ex
  refine ⟨_, po_some p, fun σ vs H ρ cs QD ED Q hS hw hX hQ => ?_⟩
  refine s σ vs H ρ cs _ ED _ hS hw hX fun x H1 c ρ1 S1 q1 => ?_
  split at q1
  · rename_i i
    have q := S1.top
    cases q
    exact ⟨i, rfl, hQ _ H1 ρ1 S1.pop q1⟩
  · exact q1.elim
theorem ee_sl (he : EE X g W e we) (hl : EO X g W lo wl) (hh : EO X g W hi wh) : EE X g W (.Subscript e (.Slice lo hi none p2) pos) (wSl we wl wh) := by
  obtain ⟨t, p, s⟩ := he.ex
  obtain ⟨t1, q1, s1⟩ := hl.ex
  obtain ⟨t2, q2, s2⟩ := hh.ex
  refine ⟨_, pe_slice (SlR.or sl_list (SlR.or sl_tupA sl_str)) p q1 q2, fun σ vs H ρ cs QD ED Q hS hw hX hQ => ?_⟩
  refine s σ vs H ρ cs _ ED _ hS hw hX fun x H1 c ρ1 S1 z1 => ?_
  refine s1 σ (x :: vs) H1 ρ1 (c :: cs) _ ED _ S1 z1 hX fun l H2 ρ2 S2 z2 => ?_
  refine s2 σ (x :: vs) H2 ρ2 (c :: cs) _ ED _ S2 z2 hX fun h H3 ρ3 S3 z3 => ?_
  exact S3.use1 (lift_sl l h) z3 fun v H' c S4 q4 => hQ v H' c ρ3 S4 q4
end

/-! ### built-ins over data -/
section
variable {K : PySem.W.Frag}
@[reducible] def oLen : OL := fun ds k => match ds with
  | [.str x] => x.length ≤ sizeLine ∧ k (.v (.int x.length))
  | [.list es] => k (.v (.int es.length))
  | [.tuple es] => k (.v (.int es.length))
  | _ => False
theorem lift_len : LiftL K (fun xs H Q => ∃ x n, xs = [x] ∧ LenV K x H n ∧ Q (.int n) H) oLen := by
  intro O H xs ds QD Q _ hx q fin
  unfold oLen at q
  split at q
  · rename_i z
    cases hx with
    | cons h1 h2 => cases h2; cases h1; exact ⟨_, _, rfl, ⟨q.1, rfl⟩, fin _ H (.v _) (Same.refl H) (.int _) q.2⟩
  · rename_i es
    cases hx with
    | cons h1 h2 =>
      cases h2
      cases h1 with
      | lst a1 a2 => exact ⟨_, _, rfl, .inl ⟨_, Same.seq same_hide a1, rfl⟩, fin _ H (.v _) (Same.refl H) (by rw [DL.DpAll.len a2]; exact .int _) q⟩
  · rename_i es
    cases hx with
    | cons h1 h2 =>
      cases h2
      cases h1 with
      | tup a1 a2 => exact ⟨_, _, rfl, .inr ⟨_, seqT_same same_hide a1, rfl⟩, fin _ H (.v _) (Same.refl H) (by rw [DL.DpAll.len a2]; exact .int _) q⟩
  · exact q.elim
@[reducible] def oMin2 : OL := fun ds k => match ds with
  | [.int i, .int j] => k (.v (.int (if j < i then j else i)))
  | _ => False
@[reducible] def oMax2 : OL := fun ds k => match ds with
  | [.int i, .int j] => k (.v (.int (if j > i then j else i)))
  | _ => False
@[reducible] def oInt1 : OL := fun ds k => match ds with
  | [.int i] => k (.v (.int i))
  | [.bool b] => k (.v (.int (if b then 1 else 0)))
  | _ => False
theorem lift_min2 : LiftL K (fun xs H Q => ∃ i j, xs = [.int i, .int j] ∧ Q (.int (if j < i then j else i)) H) oMin2 := by
  intro O H xs ds QD Q _ hx q fin
  unfold oMin2 at q
  split at q
  · rename_i i j
    cases hx with
    | cons h1 h2 => cases h2 with
      | cons h2 h3 => cases h3; cases h1; cases h2; exact ⟨_, _, rfl, fin _ H (.v _) (Same.refl H) (.int _) q⟩
  · exact q.elim
theorem lift_max2 : LiftL K (fun xs H Q => ∃ i j, xs = [.int i, .int j] ∧ Q (.int (if j > i then j else i)) H) oMax2 := by
  intro O H xs ds QD Q _ hx q fin
  unfold oMax2 at q
  split at q
  · rename_i i j
    cases hx with
    | cons h1 h2 => cases h2 with
      | cons h2 h3 => cases h3; cases h1; cases h2; exact ⟨_, _, rfl, fin _ H (.v _) (Same.refl H) (.int _) q⟩
  · exact q.elim
theorem lift_int1 : LiftL K (fun xs H Q => (∃ i, xs = [.int i] ∧ Q (.int i) H) ∨ ∃ k, xs = [.bl k] ∧ Q (.int (if k then 1 else 0)) H) oInt1 := by
  intro O H xs ds QD Q _ hx q fin
  unfold oInt1 at q
  split at q
  · rename_i i
    cases hx with
    | cons h1 h2 => cases h2; cases h1; exact .inl ⟨_, rfl, fin _ H (.v _) (Same.refl H) (.int _) q⟩
  · rename_i b
    cases hx with
    | cons h1 h2 => cases h2; cases h1; exact .inr ⟨_, rfl, fin _ H (.v _) (Same.refl H) (.int _) q⟩
  · exact q.elim
@[reducible] def intsOf : List D → Option (List Int)
  | [] => some []
  | .int i :: ds => (intsOf ds).map (i :: ·)
  | _ => none
@[reducible] def boolsOf : List D → Option (List Bool)
  | [] => some []
  | .bool i :: ds => (boolsOf ds).map (i :: ·)
  | _ => none
@[reducible] def strsOf : List D → Option (List Str)
  | [] => some []
  | .str i :: ds => (strsOf ds).map (i :: ·)
  | _ => none
@[simp] theorem intsOf_map : ∀ (ns : List Int), intsOf (ns.map PyData.int) = some ns
  | [] => rfl
  | n :: ns => by rw [List.map_cons, intsOf, intsOf_map]; rfl
@[simp] theorem boolsOf_map : ∀ (ns : List Bool), boolsOf (ns.map PyData.bool) = some ns
  | [] => rfl
  | n :: ns => by rw [List.map_cons, boolsOf, boolsOf_map]; rfl
@[simp] theorem strsOf_map : ∀ (ns : List Str), strsOf (ns.map PyData.str) = some ns
  | [] => rfl
  | n :: ns => by rw [List.map_cons, strsOf, strsOf_map]; rfl
theorem boolsOf_dp {B : Hp} : ∀ {ds : List D} {xs : List V} {ns : List Bool}, DpAll K B xs ds → boolsOf ds = some ns → xs = ns.map V.bl
  | [], _, _, h, e => by cases h; cases e; rfl
  | d :: ds, _, ns, h, e => by
    cases h with
    | cons h1 h2 =>
      cases d <;> try cases e
      rename_i i
      rw [boolsOf] at e
      cases q : boolsOf ds with
      | none => rw [q] at e; cases e
      | some ms => rw [q] at e; cases e; cases h1; rw [boolsOf_dp h2 q]; rfl
@[reducible] def oAll : OL := fun ds k => match ds with
  | [.list es] => optK (boolsOf es) fun bs => k (.v (.bool (bs.all id)))
  | _ => False
theorem lift_all : LiftL K (rAll K) oAll := by
  intro O H xs ds QD Q _ hx q fin
  unfold oAll at q
  split at q
  · rename_i es
    cases hx with
    | cons h1 h2 =>
      cases h2
      cases h1 with
      | lst a1 a2 =>
        cases e : boolsOf es with
        | none => rw [e] at q; exact q.elim
        | some ns =>
          rw [e] at q
          have e2 := boolsOf_dp a2 e
          subst e2
          exact ⟨_, ns, rfl, Same.seq same_hide a1, fin _ H (.v _) (Same.refl H) (.bl _) q⟩
  · exact q.elim
@[reducible] def oTuple : OL := fun ds k => match ds with
  | [.list es] => k (.v (.tuple es))
  | [.tuple es] => k (.v (.tuple es))
  | _ => False
theorem lift_tuple : LiftL K (fun xs H Q => ∃ p ys, xs = [.ref p] ∧ ((SqL K H p ys ∧ ∀ l, H l = none → Q (.ref l) (upd H l (.tup ys))) ∨ (SqT K H p ys ∧ Q (.ref p) H))) oTuple := by
  intro O H xs ds QD Q hO hx q fin
  unfold oTuple at q
  split at q
  · rename_i es
    cases hx with
    | cons h1 h2 =>
      cases h2
      cases h1 with
      | lst a1 a2 => exact ⟨_, _, rfl, .inl ⟨Same.seq same_hide a1, fun p n => fin _ _ (.v _) (same_new n) (new_tup n (fun z => by obtain ⟨u, e⟩ := hO p z; rw [n] at e; cases e) a2) q⟩⟩
  · rename_i es
    cases hx with
    | cons h1 h2 =>
      cases h2
      cases h1 with
      | tup a1 a2 => exact ⟨_, _, rfl, .inr ⟨seqT_same same_hide a1, fin _ H (.v _) (Same.refl H) (.tup a1 a2) q⟩⟩
  · exact q.elim
@[reducible] def oList : OL := fun ds k => match ds with
  | [.list es] => k (.own 0 (.lst es))
  | [.tuple es] => k (.own 0 (.lst es))
  | _ => False
theorem lift_list : LiftL K (fun xs H Q => ∃ p ys, xs = [.ref p] ∧ (SqL K H p ys ∨ SqT K H p ys) ∧ ∀ l, H l = none → Q (.ref l) (upd H l (.lst ys))) oList := by
  intro O H xs ds QD Q hO hx q fin
  unfold oList at q
  split at q
  · rename_i es
    cases hx with
    | cons h1 h2 =>
      cases h2
      cases h1 with
      | lst a1 a2 => exact ⟨_, _, rfl, .inl (Same.seq same_hide a1), fun p n => fin _ _ (.own 0 (.lst _)) (same_new n) (new_lst n a2) q⟩
  · rename_i es
    cases hx with
    | cons h1 h2 =>
      cases h2
      cases h1 with
      | tup a1 a2 => exact ⟨_, _, rfl, .inr (seqT_same same_hide a1), fun p n => fin _ _ (.own 0 (.lst _)) (same_new n) (new_lst n a2) q⟩
  · exact q.elim
end
section
variable {X : Cx} {g : G} {W : WX} {e : Expr} {es : List Expr} {wa : WA} {pos p : Pos}
theorem ee_len (hg : Gl X "len") (hm : X.mg "len" = none) (ha : EA X g W (e :: es) wa) (he : starEach (e :: es) X.env = (false, eval e X.env) :: starEach es X.env := by rfl) (hpl : (backTo pos (starEach es X.env)).any (·.1) = false := by rfl) : EE X g W (.Call (.Name "len" p) (e :: es) [] pos) (wL oLen wa) :=
  ee_cb call_len lift_len hg hm PySem.boot_len ha (he := he) (hpl := hpl)
theorem ee_min2 (hc : X.calm = true) (hg : Gl X "min") (hm : X.mg "min" = none) (ha : EA X g W (e :: es) wa) (he : starEach (e :: es) X.env = (false, eval e X.env) :: starEach es X.env := by rfl) (hpl : (backTo pos (starEach es X.env)).any (·.1) = false := by rfl) : EE X g W (.Call (.Name "min" p) (e :: es) [] pos) (wL oMin2 wa) :=
  ee_cb (call_min2 hc) lift_min2 hg hm (by decide +kernel) ha (he := he) (hpl := hpl)
theorem ee_max2 (hc : X.calm = true) (hg : Gl X "max") (hm : X.mg "max" = none) (ha : EA X g W (e :: es) wa) (he : starEach (e :: es) X.env = (false, eval e X.env) :: starEach es X.env := by rfl) (hpl : (backTo pos (starEach es X.env)).any (·.1) = false := by rfl) : EE X g W (.Call (.Name "max" p) (e :: es) [] pos) (wL oMax2 wa) :=
  ee_cb (call_max2 hc) lift_max2 hg hm (by decide +kernel) ha (he := he) (hpl := hpl)
theorem ee_int1 (hg : Gl X "int") (hm : X.mg "int" = none) (ha : EA X g W (e :: es) wa) (he : starEach (e :: es) X.env = (false, eval e X.env) :: starEach es X.env := by rfl) (hpl : (backTo pos (starEach es X.env)).any (·.1) = false := by rfl) : EE X g W (.Call (.Name "int" p) (e :: es) [] pos) (wL oInt1 wa) :=
  ee_ct call_int1 lift_int1 hg hm (by decide +kernel) ha (he := he) (hpl := hpl)
theorem ee_all (hc : X.calm = true) (hg : Gl X "all") (hm : X.mg "all" = none) (ha : EA X g W (e :: es) wa) (he : starEach (e :: es) X.env = (false, eval e X.env) :: starEach es X.env := by rfl) (hpl : (backTo pos (starEach es X.env)).any (·.1) = false := by rfl) : EE X g W (.Call (.Name "all" p) (e :: es) [] pos) (wL oAll wa) :=
  ee_cb (cr_all hc) lift_all hg hm (by decide +kernel) ha (he := he) (hpl := hpl)
theorem ee_tuple (hg : Gl X "tuple") (hm : X.mg "tuple" = none) (ha : EA X g W (e :: es) wa) (he : starEach (e :: es) X.env = (false, eval e X.env) :: starEach es X.env := by rfl) (hpl : (backTo pos (starEach es X.env)).any (·.1) = false := by rfl) : EE X g W (.Call (.Name "tuple" p) (e :: es) [] pos) (wL oTuple wa) :=
  ee_ct call_tuple_of lift_tuple hg hm (by decide +kernel) ha (he := he) (hpl := hpl)
theorem ee_list (hg : Gl X "list") (hm : X.mg "list" = none) (ha : EA X g W (e :: es) wa) (he : starEach (e :: es) X.env = (false, eval e X.env) :: starEach es X.env := by rfl) (hpl : (backTo pos (starEach es X.env)).any (·.1) = false := by rfl) : EE X g W (.Call (.Name "list" p) (e :: es) [] pos) (wL oList wa) :=
  ee_ct call_list_of lift_list hg hm (by decide +kernel) ha (he := he) (hpl := hpl)
@[reducible] def isT (T : String) : D → Bool
  | .none => T == "NoneType" || T == "object"
  | .bool _ => T == "bool" || T == "int" || T == "object"
  | .int _ => T == "int" || T == "object"
  | .str _ => T == "str" || T == "object"
  | .list _ => T == "list" || T == "object"
  | .tuple _ => T == "tuple" || T == "object"
  | .dict _ => T == "dict" || T == "object"
@[reducible] def oIsi (T : String) : O1 := fun d k => k (.v (.bool (isT T d)))
theorem ee_isi {we : WE} {T : Str} {n : String} {p3 : Pos} (hg : Gl X "isinstance") (hm : X.mg "isinstance" = none) (hgT : Gl X T) (hmT : X.mg T = none) (hT : bootBuiltins T = some (.type n)) (hne : T ≠ "__name__" := by decide) (hdb : (T == ("__debug__" : Str)) = false := by decide)
    (hk : (["NoneType", "bool", "int", "str", "list", "tuple", "dict"].zip [.none, .bool true, .int 0, .str ⟨#[]⟩, .list [], .tuple [], .dict []]).all (fun q => decide (kitB q.1 n = some (isT n q.2))) = true) (h : EE X g W e we)
    (he : starEach [e, .Name T p3] X.env = (false, eval e X.env) :: starEach [.Name T p3] X.env := by rfl) (he2 : starEach [.Name T p3] X.env = (false, eval (.Name T p3) X.env) :: starEach [] X.env := by rfl) (hpl : (backTo pos (starEach [.Name T p3] X.env)).any (·.1) = false := by rfl) :
    EE X g W (.Call (.Name "isinstance" p) [e, .Name T p3] [] pos) (wU (oIsi n) we) := by
  obtain ⟨t, q, s⟩ := h.ex
  refine ⟨_, pe_callB call_isi hg hm (by decide +kernel) (pa_cons q (pa_cons (pe_bltn (v := .ty n) hgT hmT hT rfl hne hdb) pa_nil he2) he) (he := he) (hpl := hpl), fun σ vs H ρ cs QD ED Q hS hw hX hQ => ?_⟩
  refine s σ vs H ρ cs _ ED _ hS hw hX fun x H1 c ρ1 S1 q1 => ?_
  refine S1.use1 (r := fun x H Q => rIsi X.K [x, .ty n] H Q) (fun O H x dx QD Q _ hx q fin => ?_) q1 fun v H' c S3 q3 => hQ v H' c ρ1 S3 q3
  have fin' := fin (.bl (isT n dx)) H (.v (.bool (isT n dx))) (Same.refl H) (.bl _) q
  have kk : ∀ a d, (a, d) ∈ (["NoneType", "bool", "int", "str", "list", "tuple", "dict"].zip [PyData.none, .bool true, .int 0, .str ⟨#[]⟩, .list [], .tuple [], .dict []]) → kitB a n = some (isT n d) := fun a d m => of_decide_eq_true (List.all_eq_true.mp hk _ m)
  have mk : ∀ (a : String) (b : Bool), kitB a n = some b → TyX X.K H x (.type a) → b = isT n dx → rIsi X.K [x, .ty n] H Q := fun a b e ty eb => by
    subst eb
    exact ⟨x, .ty n, .type a, .type n, _, rfl, .ty n, ty, kit_ty e, fin'⟩
  cases hx with
  | non => exact mk "NoneType" _ (kk "NoneType" .none (by simp)) (.base .non) rfl
  | bl b => exact mk "bool" _ (kk "bool" (.bool true) (by simp)) (.base (.bl _)) rfl
  | int i => exact mk "int" _ (kk "int" (.int 0) (by simp)) (.base (.int _)) rfl
  | str z => exact mk "str" _ (kk "str" (.str ⟨#[]⟩) (by simp)) (.base (.str _)) rfl
  | lst h1 h2 =>
    refine mk "list" _ (kk "list" (.list []) (by simp)) ?_ rfl
    rcases h1 with (h1 | ⟨o, h1⟩) | ⟨o, its, m, h1, h3, _⟩
    · exact .base (.lst (hide_some.mp h1).2)
    · exact .base (.frz (hide_some.mp h1).2)
    · exact .kList h1 h3
  | tup h1 h2 =>
    refine mk "tuple" _ (kk "tuple" (.tuple []) (by simp)) ?_ rfl
    rcases h1 with (h1 | ⟨o, h1⟩) | ⟨o, its, m, h1, h3, _⟩
    · exact .base (.tup (hide_some.mp h1).2)
    · exact .fTuple (hide_some.mp h1).2
    · exact .kTuple h1 h3
  | dic h1 => exact mk "dict" _ (kk "dict" (.dict []) (by simp)) (.base (.dK (hide_some.mp h1).2)) rfl
theorem ee_isi2 {we : WE} {T : Str} {n : String} {p3 : Pos} (hg : Gl X "isinstance") (hm : X.mg "isinstance" = none) (hgT : Gl X T) (hmT : X.mg T = none) (h : EE X g W e we)
    (hT : bootBuiltins T = some (.type n) := by decide +kernel) (hk : (["NoneType", "bool", "int", "str", "list", "tuple", "dict"].zip [.none, .bool true, .int 0, .str ⟨#[]⟩, .list [], .tuple [], .dict []]).all (fun q => decide (kitB q.1 n = some (isT n q.2))) = true := by decide +kernel)
    (hne : T ≠ "__name__" := by decide) (hdb : (T == ("__debug__" : Str)) = false := by decide)
    (he : starEach [e, .Name T p3] X.env = (false, eval e X.env) :: starEach [.Name T p3] X.env := by rfl) (he2 : starEach [.Name T p3] X.env = (false, eval (.Name T p3) X.env) :: starEach [] X.env := by rfl) (hpl : (backTo pos (starEach [.Name T p3] X.env)).any (·.1) = false := by rfl) :
    EE X g W (.Call (.Name "isinstance" p) [e, .Name T p3] [] pos) (wU (oIsi n) we) := ee_isi hg hm hgT hmT hT hne hdb hk h he he2 hpl
end
end DL

set_option Elab.async false
set_option linter.all false
set_option maxRecDepth 100000
set_option maxHeartbeats 4000000
/-! DL: own lists changed by statements; += ; lists joined. -/
namespace DL
open PySem PySem.Spec PyProof.Rows L2

@[reducible] def lstOf (ρ : Rho) : C → Option (List D)
  | .own _ (.lst ds) => some ds
  | .ln i => match rget ρ i with
    | .own _ (.lst ds) => some ds
    | _ => none
  | _ => none
section
variable {K : PySem.W.Frag} {g : G} {σ : L2.St} {vs : List V} {H H' : Hp} {ρ : Rho} {cs : List C} {i : Nat}
theorem SR.lst {x : V} {c : C} {ds : List D} (h : SR K g σ (x :: vs) H ρ (c :: cs)) (e : lstOf ρ c = some ds) : ∃ a xs, x = .ref a ∧ H a = some (.lst xs) ∧ DpAll K (hide H (tot σ (x :: vs) ρ (c :: cs) ++ g.P0)) xs ds := by
  cases c with
  | own t o =>
    cases o with
    | lst es =>
      cases e
      obtain ⟨a, e1, ⟨xs, q1, q2⟩, _⟩ := h.tp.1
      cases e1
      exact ⟨a, xs, rfl, q1, q2⟩
    | dct _ => cases e
    | dtt _ => cases e
    | lck _ _ _ _ => cases e
    | prp _ _ => cases e
    | tre _ => cases e
  | ln i =>
    obtain ⟨y, e1, e2⟩ := h.tp.1
    cases e1
    revert e
    show (match rget ρ i with
      | .own _ (.lst ds) => some ds
      | _ => none) = some ds → _
    split
    · rename_i t es eo
      intro e
      cases e
      obtain ⟨a, e3, _, ⟨xs, q1, q2⟩, _⟩ := h.own eo
      rw [e2] at e3
      cases e3
      exact ⟨a, xs, rfl, q1, q2⟩
    · intro e; cases e
  | _ => cases e
theorem SR.mutSlot {a : Addr} {t : Nat} {o o' : OD} (h : SR K g σ vs H ρ cs) (e : rget ρ i = .own t o) (e1 : σ[i]? = some (some (.ref a))) (hL : g.L i = true) (keep : ∀ b u, b ≠ a → H b = some u → H' b = some u) (new : OwnAt K (hide H (tot σ vs ρ cs ++ g.P0)) H' a o') (f1 : o.fp a = [a] := by rfl) (f2 : o'.fp a = [a] := by rfl) : SR K g σ vs H' (rset ρ i (.own t o')) cs := by
  have hlt : i < ρ.length := by rw [← h.len]; exact (List.getElem?_eq_some_iff.mp e1).1
  obtain ⟨_, h2⟩ := (h.pushPk e1 hL).moveOut e
  have pm : ∀ b, b ∈ tot σ (.ref a :: vs) (rset ρ i .no) (.own t o :: cs) ↔ b ∈ tot σ vs ρ cs := fun b => by
    have p := foot_out e1 e
    rw [foot_cons_own, f1]
    rw [f1, List.singleton_append] at p
    show b ∈ a :: (foot (vs.map some) cs ++ foot σ (rset ρ i .no)) ↔ b ∈ foot (vs.map some) cs ++ foot σ ρ
    simp only [List.mem_append, List.mem_cons, p.mem_iff]
    constructor
    · rintro (z | z | z) <;> simp [z]
    · rintro (z | z | z) <;> simp [z]
  have h3 := h2.mutTop (o' := o') keep (by
    rw [hide_congr (O' := tot σ vs ρ cs ++ g.P0) fun b => by simp only [List.mem_append (t := g.P0), pm b]]
    exact new) f1 f2
  have h4 := h3.moveIn (i := i) rfl e1 (rget_rset hlt)
  rw [rset_rset] at h4
  exact h4
end

/-! ### x.append(e), x.extend(e), x.pop() of an own list in slot i -/
@[reducible] def wExt (i : Nat) (we : WE) : WE := fun ρ Q E => match rget ρ i with
  | .own _ (.lst _) => we ρ (fun c ρ1 => optK (lstOf ρ1 c) fun es => match rget ρ1 i with
    | .own t (.lst ds) => ds.length + es.length ≤ sizeLine ∧ Q (.v .none) (rset ρ1 i (.own t (.lst (ds ++ es))))
    | _ => False) E
  | _ => False
section
variable {X : Cx} {g : G} {W : WX} {e : Expr} {we : WE} {i : Nat} {x : Str} {p apos pos : Pos}
theorem own_list {K : PySem.W.Frag} {g : G} {σ : L2.St} {vs : List V} {H : Hp} {ρ : Rho} {cs : List C} {i t : Nat} {ds : List D} (h : SR K g σ vs H ρ cs) (e : rget ρ i = .own t (.lst ds)) : ∃ a xs, σ[i]? = some (some (.ref a)) ∧ H a = some (.lst xs) ∧ DpAll K (hide H (tot σ vs ρ cs ++ g.P0)) xs ds := by
  obtain ⟨a, e1, _, ⟨xs, q1, q2⟩, _⟩ := h.own e
  exact ⟨a, xs, e1, q1, q2⟩
theorem dpAll_up {K : PySem.W.Frag} {g : G} {σ : L2.St} {vs : List V} {H : Hp} {ρ : Rho} {cs : List C} {x : V} {c : C} {xs : List V} {ds : List D} (h : DpAll K (hide H (tot σ (x :: vs) ρ (c :: cs) ++ g.P0)) xs ds) : DpAll K (hide H (tot σ vs ρ cs ++ g.P0)) xs ds := by
  refine dpAll_mono (fun a o q => ?_) _ _ h
  obtain ⟨h1, h2⟩ := hide_some.mp q
  refine hide_some.mpr ⟨fun z => h1 ?_, h2⟩
  rw [tot_cons]
  rcases List.mem_append.mp z with z | z
  · exact List.mem_append_left _ (List.mem_append_right _ z)
  · exact List.mem_append_right _ z
theorem ee_ext (hL : g.L i = true) (hx : PE X (.Name x p) (tVar i)) (h : EE X g W e we)
    (hbase : attributeBase (.Name x p) "extend" X.env (eval (.Name x p) X.env) = eval (.Name x p) X.env := by rfl)
    (hfew : ((backTo pos (starEach [e] X.env)).all (fun x => !x.1) && (backToKw pos (keywordEach [] X.env)).all (fun x => x.1.isSome) && decide (([e] : List Expr).length + ([] : List Keyword).length + (if ([] : List Keyword).isEmpty then 0 else 1) < 30)) = true := by rfl)
    (hline : (apos.endLine == pos.line) = true := by rfl) (hs : starEach [e] X.env = (false, eval e X.env) :: starEach [] X.env := by rfl) (hplain : (backTo pos (starEach [] X.env)).any (·.1) = false := by rfl) :
    EE X g W (.Call (.Attribute (.Name x p) "extend" apos) [e] [] pos) (wExt i we) := by
  obtain ⟨t, q, s⟩ := h.ex
  refine ⟨_, pe_bm PySem.F.plainAttrs_list PySem.F.slot_list_extend PySem.F.type_list_extend mt_extend hx (pa_cons q pa_nil hs) hbase hfew hline hs hplain, fun σ vs H ρ cs QD ED Q hS hw hX hQ => ?_⟩
  unfold wExt at hw
  split at hw
  · rename_i t0 ds0 e0
    obtain ⟨a, xs, e1, e2, _⟩ := own_list hS e0
    refine ⟨.ref a, e1, .inl ⟨rfl, xs, .inl (.inl e2)⟩, ?_⟩
    refine s σ vs H ρ cs _ ED _ hS hw hX fun y H1 c ρ1 S1 q1 => ?_
    cases el : lstOf ρ1 c with
    | none => rw [el] at q1; exact q1.elim
    | some es =>
      rw [el] at q1
      have q1' : (match rget ρ1 i with
        | .own t (.lst ds) => ds.length + es.length ≤ sizeLine ∧ QD (.v .none) (rset ρ1 i (.own t (.lst (ds ++ es))))
        | _ => False) := q1
      split at q1'
      · rename_i t1 ds1 eo
        obtain ⟨b, ys, f1, f2, f3⟩ := S1.lst el
        subst f1
        obtain ⟨a', xs', e3, e4, e5⟩ := own_list S1.pop eo
        rw [e1] at e3
        cases e3
        refine ⟨a, b, xs', ys, rfl, rfl, e4, f2, by rw [DL.DpAll.len e5, DL.DpAll.len f3]; exact q1'.1, ?_⟩
        have S3 := S1.pop.mutSlot (H' := upd H1 a (.lst (xs' ++ ys))) eo e1 hL (fun b u n z => by rw [upd_ne n]; exact z) (o' := .lst (ds1 ++ es)) ⟨xs' ++ ys, upd_same, DL.DpAll.app e5 (dpAll_up f3)⟩
        exact hQ _ _ _ _ (SR.resV S3 (Same.refl _) .non) q1'.2
      · exact q1'.elim
  · exact hw.elim
def setI {α : Type} (xs : List α) (k : Int) (d : α) : Option (List α) := (ixN xs.length k).map fun j => xs.set j d
theorem setI_0 {α : Type} {x d : α} {xs : List α} : setI (x :: xs) 0 d = some (d :: xs) := by unfold setI ixN; simp <;> omega
theorem setI_1 {α : Type} {x y d : α} {xs : List α} : setI (x :: y :: xs) 1 d = some (x :: d :: xs) := by unfold setI ixN; simp <;> omega
theorem setI_2 {α : Type} {x y z d : α} {xs : List α} : setI (x :: y :: z :: xs) 2 d = some (x :: y :: d :: xs) := by unfold setI ixN; simp <;> omega
theorem setI_3 {α : Type} {x y z u d : α} {xs : List α} : setI (x :: y :: z :: u :: xs) 3 d = some (x :: y :: z :: d :: xs) := by unfold setI ixN; simp <;> omega
theorem setI_nat {α : Type} {xs : List α} {k : Nat} {d : α} (h : k < xs.length) : setI xs (k : Int) d = some (xs.set k d) := by
  unfold setI ixN
  simp
  omega
theorem setI_some {α : Type} {xs : List α} {k : Int} {d : α} {j : Nat} (h : ixN xs.length k = some j) : setI xs k d = some (xs.set j d) := by unfold setI; rw [h]; rfl
theorem setI_none {α : Type} {xs : List α} {k : Int} {d : α} (h : ixN xs.length k = none) : setI xs k d = none := by unfold setI; rw [h]; rfl
@[reducible] def wSetIx (i : Nat) (we wk : WE) : WS := fun DD ρ => we ρ (fun c ρ1 => match rget ρ1 i with
  | .own _ (.lst _) => wk ρ1 (fun c2 ρ2 => match frzC c, c2, rget ρ2 i with
    | .v d, .v (.int k), .own t (.lst ds) => optK (setI ds k d) fun es => DD.nx (rset ρ2 i (.own t (.lst es)))
    | _, _, _ => False) DD.ex
  | _ => False) DD.ex
theorem es_setIx {k : Expr} {wk : WE} {p2 : Pos} (hL : g.L i = true) (hx : PE X (.Name x p) (tVar i)) (h : EE X g W e we) (hk : EE X g W k wk)
    (ha : ∀ v, assign (.Subscript (.Name x p) k p2) X.env v = (do
      let ov ← holding [v] (eval (.Name x p) X.env)
      let iv ← holding [v, ov] (eval k X.env)
      standAt p2
      holding [v, ov, iv] (setItem ov iv v)
      release [v, ov, iv] []) := by intro _; rfl)
    (hs : swapsWithSole [.Subscript (.Name x p) k p2] e pos.line X.env = pure false := by rfl) (hw : swappedStores [.Subscript (.Name x p) k p2] e X.env = pure none := by rfl)
    (h1 : (assignEach [.Subscript (.Name x p) k p2] X.env).map (·.2) = [assign (.Subscript (.Name x p) k p2) X.env] := by rfl) : ES X g W (.Assign [.Subscript (.Name x p) k p2] e pos) (wSetIx i we wk) := by
  obtain ⟨t, q, s⟩ := h.ex
  obtain ⟨t2, q2, s2⟩ := hk.ex
  refine ⟨_, ps_asg q (pg_sub hx q2 set_list ha) hs hw h1, fun σ vs H ρ cs DD D hS hp hw hE => ?_⟩
  refine s σ vs H ρ cs _ _ _ hS hw (hE.ex σ) fun y H1 c ρ1 S1 z1 => ?_
  split at z1
  · rename_i t0 ds0 e0
    obtain ⟨a, xs, e1, _, _⟩ := own_list S1 e0
    refine ⟨.ref a, e1, ?_⟩
    refine s2 σ (y :: vs) H1 ρ1 (c :: cs) _ _ _ S1 z1 (hE.ex σ) fun z H2 c2 ρ2 S2 z2 => ?_
    split at z2
    · rename_i _ _ d k' t' ds ec eo
      have e5 := S2.top
      cases e5
      have S3 : SR X.K g σ (y :: vs) H2 ρ2 (.v d :: cs) := by
        have := S2.pop.frzTop
        rw [ec] at this
        exact this
      obtain ⟨a', xs', e3, e4, e6⟩ := own_list S3.pop eo
      rw [e1] at e3
      cases e3
      cases ej : ixN ds.length k' with
      | none => rw [setI_none ej] at z2; exact z2.elim
      | some j =>
        rw [setI_some ej] at z2
        refine ⟨a, xs', k', j, rfl, rfl, e4, by rw [DL.DpAll.len e6]; exact ej, ?_⟩
        have S4 := S3.pop.mutSlot (H' := upd H2 a (.lst (xs'.set j y))) eo e1 hL (fun b u n z => by rw [upd_ne n]; exact z) (o' := .lst (ds.set j d)) ⟨xs'.set j y, upd_same, DL.DpAll.setAt S3.top j e6⟩
        exact hE.nx σ _ _ S4 z2
    · exact z2.elim
  · exact z1.elim
@[reducible] def wFrz (i : Nat) : WE := fun ρ Q _ => match rget ρ i with
  | .v d => Q (.v d) ρ
  | .own _ (.lst ds) => Q (.v (.list ds)) (rset ρ i (.v (.list ds)))
  | _ => False
theorem ee_frz (hL : g.L i = true) (hx : PE X (.Name x p) (tVar i)) : EE X g W (.Name x p) (wFrz i) := by
  refine ⟨_, hx, fun σ vs H ρ cs QD ED Q hS hw hX hQ => ?_⟩
  unfold wFrz at hw
  split at hw
  · rename_i d e
    obtain ⟨x, e1, q1⟩ := hS.slot e
    exact ⟨x, e1, hQ x H _ ρ (SR.resV hS (Same.refl H) q1) hw⟩
  · rename_i t ds e
    obtain ⟨a, e1, _⟩ := hS.own e
    have hlt : i < ρ.length := by rw [← hS.len]; exact (List.getElem?_eq_some_iff.mp e1).1
    obtain ⟨_, S2⟩ := (hS.pushPk e1 hL).moveOut e
    have S3 := S2.frzTop
    have dx := S3.top
    have S4 := S3.moveIn (i := i) rfl e1 (rget_rset hlt)
    rw [rset_rset] at S4
    have dx2 : Dp X.K (hide H (tot σ vs (rset ρ i (.v (.list ds))) cs ++ g.P0)) (.ref a) (.list ds) := by
      have ef : tot σ vs (rset ρ i (.v (.list ds))) cs = tot σ vs (rset ρ i .no) cs := by
        have go : ∀ (σ : List (Option V)) (ρ : Rho) (i : Nat), foot σ (rset ρ i (.v (.list ds))) = foot σ (rset ρ i .no) := by
          intro σ
          induction σ with
          | nil => intro ρ i; have e : ∀ r : Rho, foot [] r = [] := fun r => by cases r <;> rfl
                   rw [e, e]
          | cons v σ ih =>
            intro ρ i
            cases ρ with
            | nil => rfl
            | cons c ρ =>
              cases i with
              | zero => show footC v (.v _) ++ _ = footC v .no ++ _; rw [footC_v, footC_no]
              | succ i => show footC v c ++ foot σ (rset ρ i _) = footC v c ++ foot σ (rset ρ i _); rw [ih]
        show foot _ _ ++ foot σ _ = foot _ _ ++ foot σ _
        rw [go]
      rw [ef]
      exact dx
    exact ⟨_, e1, hQ _ H _ _ (SR.resV S4 (Same.refl H) dx2) hw⟩
  · exact hw.elim
end
/-! ### a, b = a list -/
section
variable {X : Cx} {g : G} {W : WX} {es : List Expr} {ws : WGs} {T : List Nat} {pos : Pos}
@[reducible] def wPar (i j : Nat) (wa : WA) : WS := fun DD ρ => wa ρ (fun cs ρ1 => match frzs cs with
  | [.v d1, .v d2] => DD.nx (rset (rset ρ1 j (.v d2)) i (.v d1))
  | _ => False) DD.ex
theorem es_par {i j : Nat} {x y : Str} {a b : Expr} {wa : WA} {px py pt spos : Pos} {kt k2 pt2} (hc : X.calm = true) (hN : X.N.Nodup) (hi : X.N[i]? = some x) (hj : X.N[j]? = some y) (hij : i ≠ j) (hx : X.env.scope.names.lookup x = some .local) (hy : X.env.scope.names.lookup y = some .local) (ha : EA X g W [a, b] wa)
    (hw : swappedStores [.Tuple [.Name x px, .Name y py] kt pt] (.Tuple [a, b] k2 pt2) X.env = pure (some [x, y]))
    (hs : swapsWithSole [.Tuple [.Name x px, .Name y py] kt pt] (.Tuple [a, b] k2 pt2) spos.line X.env = pure false := by rfl) :
    ES X g W (.Assign [.Tuple [.Name x px, .Name y py] kt pt] (.Tuple [a, b] k2 pt2) spos) (wPar i j wa) := by
  obtain ⟨t, q, s⟩ := ha.ex
  refine ⟨_, ps_par hc hN hi hj hij hx hy q hw hs, fun σ vs H ρ cs DD D hS hp hw hE => ?_⟩
  refine s σ vs H ρ cs _ _ _ hS hw (hE.ex σ) fun xs H1 ccs ρ1 hl S1 q1 => ?_
  split at q1
  · rename_i d1 d2 ec
    rw [frzs_eq] at ec
    have S2 := S1.frzArgs hl
    rw [ec] at S2
    have hlen : ccs.length = 2 := by have := congrArg List.length ec; simpa using this
    match xs, hl with
    | [v, w], _ =>
      refine ⟨v, w, rfl, ?_⟩
      have S3 : SR X.K g σ (w :: (v :: vs)) H1 ρ1 (.v d2 :: (.v d1 :: cs)) := SR.rot (xs := [v]) (ccs := [.v d1]) rfl S2
      have S4 := S3.store (i := j) rfl (fun k z => (hp.cons (c := .v d1) rfl).nopk z)
      have S5 := S4.store (i := i) rfl (fun k z => hp.nopk z)
      rw [List.set_comm _ _ (Ne.symm hij)] at S5
      exact hE.nx _ H1 _ S5 q1
    | [], h => simp at h; omega
    | [_], h => simp at h; omega
    | _ :: _ :: _ :: _, h => simp at h; omega
  · exact q1.elim
end
end DL

set_option Elab.async false
set_option linter.all false
set_option maxRecDepth 100000
set_option maxHeartbeats 4000000
/-! DL: the program's defs by their names; walks over any sequence; unary minus; + and in of any data. -/
namespace DL
open PySem PySem.Spec PyProof.Rows L2

theorem lt_ {g : G} {L : Nat → Bool} (h : g.L = L) {i : Nat} (e : L i = true) : g.L i = true := by rw [h]; exact e
theorem lf_ {g : G} {L : Nat → Bool} (h : g.L = L) {T : List Nat} (e : (T.all fun j => !L j) = true) : ∀ j ∈ T, g.L j = false := fun j hj => by
  rw [h]
  have := List.all_eq_true.mp e j hj
  simpa using this
structure Has (P : Program) (w : World) (K : PySem.W.Frag) (mg : Str → Option Value) (base : Heap) (k : Nat) (x : Str) (S : SpD) : Prop where
  ex : ∃ (f : Addr) (fd : FuncData) (ps : List Str), FnOk P w K mg base (L2.CX P w) k f fd ps (spOf K S) ∧ mg x = some (.ref f) ∧ PySem.W.keepIn K (.ref f) = true ∧ Binds K fd ps []
section
variable {X : Cx} {g : G} {k : Nat} {S : SpD} {x : Str} {p pos : Pos} {e : Expr} {es : List Expr} {wa : WA}
theorem ee_has (h : Has X.prog X.w X.K X.mg X.base k x S) (hr : Room k X.A) (hg : Gl X x) (ha : EA X g W0 (e :: es) wa) (hdb : (x == ("__debug__" : Str)) = false := by decide)
    (he : starEach (e :: es) X.env = (false, eval e X.env) :: starEach es X.env := by rfl) (hpl : (backTo pos (starEach es X.env)).any (·.1) = false := by rfl) : EE X g W0 (.Call (.Name x p) (e :: es) [] pos) (wCall S wa) := by
  obtain ⟨f, fd, ps, F, hm, hk, hb⟩ := h.ex
  exact ee_call F hr hg hm hk hb passL (fun _ _ _ _ z => z) ha hdb he hpl
end
@[reducible] def oNeg : O1 := fun d k => match d with
  | .int i => k (.v (.int (-i)))
  | _ => False
theorem lift_neg {K : PySem.W.Frag} : Lift1 K (rU fun i => V.int (-i)) oNeg := by
  intro O H x dx QD Q _ hx q fin
  cases hx <;> try exact q.elim
  exact ⟨_, rfl, fin _ H (.v _) (Same.refl H) (.int _) q⟩
section
variable {X : Cx} {g : G} {W : WX} {a : Expr} {wa : WE} {pos : Pos}
theorem ee_neg (ha : EE X g W a wa) : EE X g W (.UnaryOp .USub a pos) (wU oNeg wa) := by
  obtain ⟨t, p, s⟩ := ha.ex
  exact ⟨_, pe_un un_neg p, sem_un lift_neg s⟩
end
def iSeq (K : PySem.W.Frag) (tl : TE) : TI := fun σ H R => tl σ H fun x H1 => (∃ a, x = .ref a ∧ (∃ xs, SqL K H1 a xs) ∧ R (Itl K a) H1) ∨ (∃ a, x = .ref a ∧ (∃ xs, SqT K H1 a xs) ∧ R (Itt K a) H1) ∨ ∃ z, x = .str z ∧ R (Its z) H1
theorem pi_seq {X : Cx} {tg l : Expr} {tl : TE} (hl : PE X l tl) : PI X tg l (iSeq X.K tl) := by
  refine ⟨fun pins s σ H R I h => ?_⟩
  refine thn (hl.run pins s σ H _ I h) fun v s1 ⟨x, H1, I1, r1, q1⟩ => ?_
  rcases q1 with ⟨a, e, ⟨xs, hq⟩, q⟩ | ⟨a, e, ⟨xs, hq⟩, q⟩ | ⟨z, e, q⟩
  · subst e
    cases r1
    obtain ⟨its, rv, p, hz⟩ := I1.list hq
    refine wpAny_pyIter_list p.isList ?_
    refine ⟨s1.heap.objs.size, [s1.heap.objs.size], _, _, H1, rfl, I1.kept (t' := s1.toks) fun b o e => Heap.get?_push_of_some _ e, turn_list a _, ⟨_, Heap.get?_push_size _ rfl, rfl, rfl⟩, fun b hb => ?_, q⟩
    have e : b = s1.heap.objs.size := by simpa using hb
    subst e
    exact I1.fpOk (Nat.le_refl _) (I1.hok.fresh (Nat.le_refl _))
  · subst e
    cases r1
    obtain ⟨its, rv, p, hz⟩ := I1.tuple hq
    refine wpAny_pyIter_tuple (show s1.heap.IsTuple a its.toArray from p) ?_
    refine ⟨s1.heap.objs.size, [s1.heap.objs.size], _, _, H1, rfl, I1.kept (t' := s1.toks) fun b o e => Heap.get?_push_of_some _ e, turn_tuple a _, ⟨_, Heap.get?_push_size _ rfl, rfl, rfl⟩, fun b hb => ?_, q⟩
    have e : b = s1.heap.objs.size := by simpa using hb
    subst e
    exact I1.fpOk (Nat.le_refl _) (I1.hok.fresh (Nat.le_refl _))
  · subst e
    obtain ⟨t, rfl⟩ := r1
    cases ha : z.cps.all (· < 128)
    · exact wpAny_pyIter_wide ha (pi_one (tk := s1.toks) I1 _ (turn_str _ z t "str_iterator" (.inr rfl)) ⟨_, Heap.get?_push_size _ rfl, rfl, rfl⟩ q)
    · exact wpAny_pyIter_ascii ha (pi_one (tk := s1.toks) I1 _ (turn_str _ z t "str_ascii_iterator" (.inl rfl)) ⟨_, Heap.get?_push_size _ rfl, rfl, rfl⟩ q)
@[reducible] def itemsD : D → Option (List D)
  | .list ds => some ds
  | .tuple ds => some ds
  | .str x => some (strD x)
  | _ => none
@[reducible] def wISeq (we : WE) : WI := fun ρ Q E => we ρ (fun c ρ1 => match frzC c with
  | .v d => optK (itemsD d) fun ds => Q ds ρ1
  | _ => False) E
theorem ei_seq {X : Cx} {g : G} {W : WX} {tg e : Expr} {we : WE} (h : EE X g W e we) : EI X g W tg e (wISeq we) := by
  obtain ⟨t, p, s⟩ := h.ex
  refine ⟨_, pi_seq p, fun σ vs H ρ cs QD ED R hS hw hX hQ => ?_⟩
  refine s σ vs H ρ cs _ ED _ hS hw hX fun x H1 c ρ1 S1 q1 => ?_
  split at q1
  · rename_i d ec
    have S2 := S1.frzTop
    rw [ec] at S2
    have q := S2.top
    cases q with
    | lst h1 h2 => exact .inl ⟨_, rfl, ⟨_, Same.seq same_hide h1⟩, hQ _ [_] [.list _] _ H1 ρ1 rfl S2 walks_list q1⟩
    | tup h1 h2 => exact .inr (.inl ⟨_, rfl, ⟨_, seqT_same same_hide h1⟩, hQ _ [_] [.tuple _] _ H1 ρ1 rfl S2 walks_tup q1⟩)
    | str z => exact .inr (.inr ⟨z, rfl, hQ _ [] [] _ H1 ρ1 rfl S2.pop walks_str q1⟩)
    | _ => exact q1.elim
  · exact q1.elim
end DL

set_option Elab.async false
set_option linter.all false
/-! for the proofs of readings: steps, loops -/
namespace DL
open PySem PySem.Spec PyProof.Rows L2
theorem ifb {A B : Prop} {b : Bool} (h : b = true → A) (h' : b = false → B) : if b = true then A else B := by
  cases b
  · exact h' rfl
  · exact h rfl
theorem eqv_int {a b : Int} : PyData.eqv (.int a) (.int b) = decide (a = b) := by first | rfl | simp [PyData.eqv]
theorem atI_mem {ds : List D} {x : Int} (h0 : 0 ≤ x) (h1 : x < ds.length) : ∃ d, atI ds x = some d ∧ d ∈ ds := by
  obtain ⟨j, rfl⟩ := Int.eq_ofNat_of_zero_le h0
  have hj : j < ds.length := by omega
  exact ⟨ds[j], L2.atI_nat (List.getElem?_eq_getElem hj), List.getElem_mem hj⟩
theorem log2_lt {m : Int} {k : Nat} (h : m.natAbs < 2 ^ k) (h0 : 0 < k) (h9 : k ≤ 9000) : m.natAbs.log2 < 9000 := Nat.lt_of_lt_of_le (PySem.Flt.log2_lt_of h0 h) h9
theorem log2_sm {m : Int} (h : m.natAbs < 18446744073709551616) : m.natAbs.log2 < 9000 := log2_lt (k := 64) h (by decide) (by decide)

theorem forK_ind {wg : WG} {body : WS} {DD : EndsD} (I : List D → Rho → Prop) (h0 : ∀ ρ, I [] ρ → DD.nx ρ)
    (h1 : ∀ d ds ρ (next : Rho → Prop), (∀ ρ', I ds ρ' → next ρ') → I (d :: ds) ρ → wg d ρ fun ρ1 => body ⟨next, DD.rt, DD.nx, next, DD.ex⟩ ρ1) : ∀ ds ρ, I ds ρ → forK wg body ds DD ρ
  | [], ρ, h => h0 ρ h
  | d :: ds, ρ, h => h1 d ds ρ _ (fun ρ' h' => forK_ind I h0 h1 ds ρ' h') h
theorem mem_range {lo : Int} {n : Nat} {d : D} (h : d ∈ rangeD lo n) : ∃ k : Int, d = .int k ∧ lo ≤ k ∧ k < lo + n := by
  obtain ⟨k, h1, rfl⟩ := List.mem_map.mp h
  have := List.mem_range.mp h1
  exact ⟨lo + k, rfl, by omega, by omega⟩
/-! states written out -/
theorem wSeq_i {w u : WS} {nx : Rho → Prop} {rt : KC} {bk ct : Rho → Prop} {ex : KX} {ρ ρ' : Rho} (e : ρ = ρ') (h : w ⟨u ⟨nx, rt, bk, ct, ex⟩, rt, bk, ct, ex⟩ ρ') : wSeq w u ⟨nx, rt, bk, ct, ex⟩ ρ := by
  subst e
  exact h
end DL

set_option Elab.async false
set_option linter.all false
set_option maxRecDepth 100000
set_option maxHeartbeats 4000000
/-! DL: enumerate, zip, reversed, range with a step -/
namespace DL
open PySem PySem.Spec PyProof.Rows L2

/-! ### enumerate of a tuple -/
section
variable {prog : Program} {w : World} {A : Around} {E : Value → Shared → Prop} {s : Shared}
end
/-! ### by data -/
def enumF : Nat → List D → List D
  | _, [] => []
  | k, d :: ds => .tuple [.int (k : Nat), d] :: enumF (k + 1) ds
theorem enumF_len : ∀ {k : Nat} {ds : List D}, (enumF k ds).length = ds.length
  | _, [] => rfl
  | k, d :: ds => by show (enumF (k + 1) ds).length + 1 = _; rw [enumF_len]; rfl
section
variable {K : PySem.W.Frag} {H : Hp} {O : List Addr} {a b : Addr} {ds es : List D}
end
@[reducible] def itemsLT : D → Option (List D)
  | .list ds => some ds
  | .tuple ds => some ds
  | _ => none
section
variable {X : Cx} {g : G} {W : WX} {tg a b c : Expr} {wa : WA} {p pos : Pos}
end
end DL

set_option Elab.async false
set_option linter.all false
set_option maxRecDepth 100000
set_option maxHeartbeats 4000000
/-! DL: more of Python: t[::-1], x in t, + of any kind, max and min of a list, int of a text -/
namespace DL
open PySem PySem.Spec PyProof.Rows L2
/-! ### t[::-1] of a tuple -/
section
variable {prog : Program} {w : World} {A : Around} {E : Value → Shared → Prop} {s : Shared}
end
theorem DpAll.rev {K : PySem.W.Frag} {B : Hp} : ∀ {xs : List V} {ds : List D}, DpAll K B xs ds → DpAll K B xs.reverse ds.reverse
  | _, [], h => by cases h; exact .nil
  | _, d :: ds, h => by
    cases h with
    | cons h1 h2 => rw [List.reverse_cons, List.reverse_cons]; exact DL.DpAll.app (DpAll.rev h2) (.cons h1 .nil)
/-! ### x in t -/
def rInA (K : PySem.W.Frag) (neg : Bool) : R2 := fun x y H Q => (∃ d ds, Dp K H x d ∧ (Dp K H y (.list ds) ∨ Dp K H y (.tuple ds)) ∧ SeqAt.shaped d = true ∧ SeqAt.shaped (.list ds) = true ∧ Q (.bl (if neg then !(ds.any fun z => PyData.eqv z d) else ds.any fun z => PyData.eqv z d)) H) ∨
  ∃ i j, x = .str i ∧ y = .str j ∧ Q (.bl (if neg then (Builtin.Str.occurrences j i 0 j.length 1).isEmpty else !(Builtin.Str.occurrences j i 0 j.length 1).isEmpty)) H
section
variable {X : Cx}
theorem op_inA (hu : X.A.units + 65 < cLine) : OpR X (compareOp .In) (rInA X.K false) := by
  intro pins s σ H x y v u Q I rx ry h
  rcases h with ⟨d, ds, hd, he, sd, se, q⟩ | ⟨i, j, rfl, rfl, q⟩
  · obtain ⟨as, r1⟩ := Dp.reads I d x v hd rx
    rcases he with he | he
    · obtain ⟨bs, r2⟩ := Dp.reads I (.list ds) y u he ry
      exact SeqAt.in_list_reads r2 r1 (SeqAt.canLay_of_shaped se) (SeqAt.canLay_of_shaped sd) (room_in_shaped sd hu) ⟨.bl _, H, I, rfl, q⟩
    · obtain ⟨bs, r2⟩ := Dp.reads I (.tuple ds) y u he ry
      exact SeqAt.in_tuple_reads r2 r1 (SeqAt.canLay_of_shaped se) (SeqAt.canLay_of_shaped sd) (room_in_shaped sd hu) ⟨.bl _, H, I, rfl, q⟩
  · exact op_in_str pins s σ H _ _ v u Q I rx ry ⟨i, j, rfl, rfl, q⟩
theorem op_notinA (hu : X.A.units + 65 < cLine) : OpR X (compareOp .NotIn) (rInA X.K true) := by
  intro pins s σ H x y v u Q I rx ry h
  rcases h with ⟨d, ds, hd, he, sd, se, q⟩ | ⟨i, j, rfl, rfl, q⟩
  · obtain ⟨as, r1⟩ := Dp.reads I d x v hd rx
    rcases he with he | he
    · obtain ⟨bs, r2⟩ := Dp.reads I (.list ds) y u he ry
      exact SeqAt.notIn_list_reads r2 r1 (SeqAt.canLay_of_shaped se) (SeqAt.canLay_of_shaped sd) (room_in_shaped sd hu) ⟨.bl _, H, I, rfl, q⟩
    · obtain ⟨bs, r2⟩ := Dp.reads I (.tuple ds) y u he ry
      exact SeqAt.notIn_tuple_reads r2 r1 (SeqAt.canLay_of_shaped se) (SeqAt.canLay_of_shaped sd) (room_in_shaped sd hu) ⟨.bl _, H, I, rfl, q⟩
  · exact op_notin_str pins s σ H _ _ v u Q I rx ry ⟨i, j, rfl, rfl, by rw [Bool.not_not]; exact q⟩
end
def inS (i j : Str) : Bool := !(Builtin.Str.occurrences j i 0 j.length 1).isEmpty
def memD (d : D) (ds : List D) : Bool := ds.any fun z => PyData.eqv z d
@[reducible] def oIn : O2 := fun d1 d2 k => match d2 with
  | .list ds => SeqAt.shaped d1 = true ∧ SeqAt.shaped (.list ds) = true ∧ k (.v (.bool (memD d1 ds)))
  | .tuple ds => SeqAt.shaped d1 = true ∧ SeqAt.shaped (.list ds) = true ∧ k (.v (.bool (memD d1 ds)))
  | .str j => match d1 with
    | .str i => k (.v (.bool (inS i j)))
    | _ => False
  | _ => False
@[reducible] def oNotIn : O2 := fun d1 d2 k => match d2 with
  | .list ds => SeqAt.shaped d1 = true ∧ SeqAt.shaped (.list ds) = true ∧ k (.v (.bool (!memD d1 ds)))
  | .tuple ds => SeqAt.shaped d1 = true ∧ SeqAt.shaped (.list ds) = true ∧ k (.v (.bool (!memD d1 ds)))
  | .str j => match d1 with
    | .str i => k (.v (.bool (!inS i j)))
    | _ => False
  | _ => False
theorem lift_in {K : PySem.W.Frag} : Lift2 K (rInA K false) oIn := by
  intro O H x y dx dy QD Q _ hx hy q fin
  have hx' := dp_hide hx
  have hy' := dp_hide hy
  cases dy with
  | list ds => exact .inl ⟨dx, ds, hx', .inl hy', q.1, q.2.1, fin _ H (.v _) (Same.refl H) (.bl _) q.2.2⟩
  | tuple ds => exact .inl ⟨dx, ds, hx', .inr hy', q.1, q.2.1, fin _ H (.v _) (Same.refl H) (.bl _) q.2.2⟩
  | str j =>
    cases dx with
    | str i => cases hx'; cases hy'; exact .inr ⟨i, j, rfl, rfl, fin _ H (.v _) (Same.refl H) (.bl _) q⟩
    | _ => exact q.elim
  | _ => exact q.elim
theorem lift_notin {K : PySem.W.Frag} : Lift2 K (rInA K true) oNotIn := by
  intro O H x y dx dy QD Q _ hx hy q fin
  have hx' := dp_hide hx
  have hy' := dp_hide hy
  cases dy with
  | list ds => exact .inl ⟨dx, ds, hx', .inl hy', q.1, q.2.1, fin _ H (.v _) (Same.refl H) (.bl _) q.2.2⟩
  | tuple ds => exact .inl ⟨dx, ds, hx', .inr hy', q.1, q.2.1, fin _ H (.v _) (Same.refl H) (.bl _) q.2.2⟩
  | str j =>
    cases dx with
    | str i =>
      cases hx'; cases hy'
      have e : (!inS i j) = (Builtin.Str.occurrences j i 0 j.length 1).isEmpty := Bool.not_not _
      have q2 : QD (.v (.bool (!inS i j))) := q
      rw [e] at q2
      exact .inr ⟨i, j, rfl, rfl, fin _ H (.v _) (Same.refl H) (.bl _) q2⟩
    | _ => exact q.elim
  | _ => exact q.elim
section
variable {X : Cx} {g : G} {W : WX} {a b : Expr} {wa wb : WE} {pos : Pos}
theorem units65 {k : Nat} {A : Around} (hr : Room k A) : A.units + 65 < cLine := by
  have := hr.un
  omega
theorem ee_in (hu : X.A.units + 65 < cLine) (ha : EE X g W a wa) (hb : EE X g W b wb) (hm : behindInMarks .In b = false := by rfl) : EE X g W (.Compare a [.In] [b] pos) (wB oIn wa wb) := ee_cmp (op_inA hu) lift_in ha hb hm
theorem et_notin (hu : X.A.units + 65 < cLine) (ha : EE X g W a wa) (hb : EE X g W b wb) (hm : behindInMarks .NotIn b = false := by rfl) : ET X g W (.Compare a [.NotIn] [b] pos) (wTst (wB oNotIn wa wb)) := et_cmp (op_notinA hu) lift_notin ha hb hm
end

/-! ### max and min of a list of numbers -/
section
variable {X : Cx} {g : G} {W : WX} {e : Expr} {es : List Expr} {wa : WA} {p pos : Pos}
end

/-! ### + of numbers, texts, tuples -/
def rPlus (K : PySem.W.Frag) : R2 := fun x y H Q => (∃ i j, x = .int i ∧ y = .int j ∧ Q (.int (i + j)) H) ∨ (∃ i j, x = .str i ∧ y = .str j ∧ i.length + j.length ≤ sizeLine ∧ Q (.str (i ++ j)) H) ∨ rCatA K x y H Q
section
variable {X : Cx}
theorem op_plus : OpR X (binaryOp .Add) (rPlus X.K) := by
  intro pins s σ H x y v u Q I rx ry h
  rcases h with h | h | h
  · exact op_add pins s σ H x y v u Q I rx ry h
  · exact op_add_str pins s σ H x y v u Q I rx ry h
  · exact op_catA pins s σ H x y v u Q I rx ry h
end
@[reducible] def oPlus : O2 := fun d1 d2 k => match d1, d2 with
  | .int i, .int j => k (.v (.int (i + j)))
  | .str i, .str j => i.length + j.length ≤ sizeLine ∧ k (.v (.str (i ++ j)))
  | .tuple ds, .tuple es => ds.length + es.length ≤ sizeLine ∧ k (.v (.tuple (ds ++ es)))
  | _, _ => False
theorem DpAll.nil_iff {K : PySem.W.Frag} {B : Hp} {xs : List V} {ds : List D} (h : DpAll K B xs ds) : xs = [] ↔ ds = [] := by
  cases h <;> simp
theorem lift_plus {K : PySem.W.Frag} : Lift2 K (rPlus K) oPlus := by
  intro O H x y dx dy QD Q hO hx hy q fin
  cases hx with
  | int i =>
    cases hy <;> try exact q.elim
    exact .inl ⟨_, _, rfl, rfl, fin _ H (.v _) (Same.refl H) (.int _) q⟩
  | str i =>
    cases hy <;> try exact q.elim
    exact .inr (.inl ⟨_, _, rfl, rfl, q.1, fin _ H (.v _) (Same.refl H) (.str _) q.2⟩)
  | tup h1 h2 =>
    cases hy with
    | tup g1 g2 =>
      rename_i a xs ds b ys es
      refine .inr (.inr ⟨_, _, _, _, rfl, rfl, seqT_same same_hide h1, seqT_same same_hide g1, by rw [DL.DpAll.len h2, DL.DpAll.len g2]; exact q.1, fun z => ?_, fun z1 z2 => ?_, fun z1 z2 p n => ?_⟩)
      · have e := (DpAll.nil_iff h2).mp z
        have q2 := q.2
        rw [e, List.nil_append] at q2
        exact fin _ H (.v _) (Same.refl H) (.tup g1 g2) q2
      · have e := (DpAll.nil_iff g2).mp z2
        have q2 := q.2
        rw [e, List.append_nil] at q2
        exact fin _ H (.v _) (Same.refl H) (.tup h1 h2) q2
      · exact fin _ _ (.v _) (same_new n) (new_tup n (fun z => by obtain ⟨u, e⟩ := hO p z; rw [n] at e; cases e) (DL.DpAll.app h2 g2)) q.2
    | _ => exact q.elim
  | _ => exact q.elim
/-! ### int of a text -/
end DL

set_option Elab.async false
set_option linter.all false
set_option maxRecDepth 100000
set_option maxHeartbeats 4000000
/-! DL: facts of data: how deep, equal or not -/
namespace DL
open PySem PySem.Spec PyProof.Rows L2
structure Lay (k : Nat) (d : D) : Prop where
  ok : d.canLay0 = true
  dp : d.depth ≤ k
theorem Lay.up {k m : Nat} {d : D} (h : Lay k d) (l : k ≤ m) : Lay m d := ⟨h.ok, Nat.le_trans h.dp l⟩
theorem Lay.int {k : Nat} (i : Int) : Lay k (.int i) := ⟨rfl, by simp [PyData.depth]⟩
theorem Lay.bool {k : Nat} (b : Bool) : Lay k (.bool b) := ⟨rfl, by simp [PyData.depth]⟩
theorem Lay.none {k : Nat} : Lay k .none := ⟨rfl, by simp [PyData.depth]⟩
theorem Lay.str {k : Nat} {x : Str} (h : PyData.canLay0 (.str x) = true) : Lay k (.str x) := ⟨h, by simp [PyData.depth]⟩
theorem lay_all {k : Nat} : ∀ {ds : List D}, (∀ d ∈ ds, Lay k d) → PyData.canLayAll0 ds = true ∧ PyData.depthAll ds ≤ k
  | [], _ => ⟨rfl, by simp [PyData.depthAll]⟩
  | d :: ds, h => by
    obtain ⟨h1, h2⟩ := lay_all (ds := ds) fun e he => h e (.tail _ he)
    obtain ⟨g1, g2⟩ := h d (.head _)
    refine ⟨by rw [PyData.canLayAll0, g1, h1]; rfl, ?_⟩
    simp only [PyData.depthAll]
    omega
theorem Lay.tuple {k : Nat} {ds : List D} (h : ∀ d ∈ ds, Lay k d) : Lay (k + 1) (.tuple ds) := by
  obtain ⟨h1, h2⟩ := lay_all h
  exact ⟨by rw [PyData.canLay0]; exact h1, by simp only [PyData.depth]; omega⟩
theorem Lay.list {k : Nat} {ds : List D} (h : ∀ d ∈ ds, Lay k d) : Lay (k + 1) (.list ds) := by
  obtain ⟨h1, h2⟩ := lay_all h
  exact ⟨by rw [PyData.canLay0]; exact h1, by simp only [PyData.depth]; omega⟩
theorem Lay.shaped {k : Nat} {d : D} (h : Lay k d) (l : k ≤ 64 := by decide) : SeqAt.shaped d = true := by
  show (d.canLay0 && decide (d.depth ≤ 64)) = true
  rw [Bool.and_eq_true]
  exact ⟨h.ok, decide_eq_true (Nat.le_trans h.dp l)⟩
theorem Lay.refl {k : Nat} {d : D} (h : Lay k d) : PyData.eqv d d = true := SeqAt.eqv_refl d h.ok
/-! ### comprehensions -/
theorem lcK_ind {T : List Nat} {wg : WG} {wt : WT} {we : WE} {k : List D → Rho → Prop} (I : List D → List D → Rho → Prop) (h0 : ∀ acc ρ, I [] acc ρ → k acc ρ)
    (h1 : ∀ d ds acc ρ (next : List D → Rho → Prop), (∀ acc' ρ', I ds acc' ρ' → next acc' ρ') → I (d :: ds) acc ρ → wg d ρ fun ρ1 => wt ρ1 (fun b ρ2 => if b = true then we ρ2 (fun c ρ3 => match frzC c with
      | .v d' => next (acc ++ [d']) (clr T ρ3)
      | _ => False) (fun _ _ => False) else next acc (clr T ρ2)) (fun _ _ => False)) : ∀ ds acc ρ, I ds acc ρ → lcK T wg wt we ds acc ρ k
  | [], acc, ρ, h => h0 acc ρ h
  | d :: ds, acc, ρ, h => h1 d ds acc ρ _ (fun acc' ρ' h' => lcK_ind I h0 h1 ds acc' ρ' h') h
theorem rangeD_len {lo : Int} {n : Nat} : (rangeD lo n).length = n := by simp [rangeD]
theorem lcK_eq {T : List Nat} {wg : WG} {wt : WT} {we : WE} {ds acc : List D} {ρ ρ' : Rho} {k : List D → Rho → Prop} (e : ρ = ρ') (h : lcK T wg wt we ds acc ρ' k) : lcK T wg wt we ds acc ρ k := by
  subst e
  exact h
theorem forK_eq {wg : WG} {wb : WS} {ds : List D} {DD : EndsD} {ρ ρ' : Rho} (e : ρ = ρ') (h : forK wg wb ds DD ρ') : forK wg wb ds DD ρ := by
  subst e
  exact h
theorem lcK_xs {α : Type} {T : List Nat} {wg : WG} {wt : WT} {we : WE} {k : List D → Rho → Prop} {ρ0 : Rho} {inj : α → D} (g : α → Option D) :
    ∀ (xs : List α) (acc : List D), (∀ x ∈ xs, ∀ next : Option D → Rho → Prop, next (g x) ρ0 → wg (inj x) ρ0 fun ρ1 => wt ρ1 (fun b ρ2 => if b = true then we ρ2 (fun c ρ3 => match frzC c with
      | .v d' => next (some d') (clr T ρ3)
      | _ => False) (fun _ _ => False) else next none (clr T ρ2)) (fun _ _ => False)) → k (acc ++ xs.filterMap g) ρ0 → lcK T wg wt we (xs.map inj) acc ρ0 k
  | [], acc, _, h => by
    rw [List.filterMap_nil, List.append_nil] at h
    exact h
  | x :: xs, acc, h1, h => by
    refine h1 x (.head _) (fun o ρ => match o with
      | some d' => lcK T wg wt we (xs.map inj) (acc ++ [d']) ρ k
      | none => lcK T wg wt we (xs.map inj) acc ρ k) ?_
    have rest : ∀ acc', k (acc' ++ xs.filterMap g) ρ0 → lcK T wg wt we (xs.map inj) acc' ρ0 k := fun acc' => lcK_xs g xs acc' fun e he => h1 e (.tail _ he)
    cases e : g x with
    | none =>
      show lcK T wg wt we (xs.map inj) acc ρ0 k
      refine rest acc ?_
      rw [List.filterMap_cons, e] at h
      exact h
    | some d' =>
      show lcK T wg wt we (xs.map inj) (acc ++ [d']) ρ0 k
      refine rest _ ?_
      rw [List.filterMap_cons, e] at h
      rw [List.append_assoc]
      exact h
theorem lcK_ys {α : Type} {T : List Nat} {wg : WG} {wt : WT} {we : WE} {k : List D → Rho → Prop} {ρ0 : Rho} {inj : α → D} (g : α → D) (xs : List α)
    (h : ∀ x ∈ xs, ∀ next : Option D → Rho → Prop, next (some (g x)) ρ0 → wg (inj x) ρ0 fun ρ1 => wt ρ1 (fun b ρ2 => if b = true then we ρ2 (fun c ρ3 => match frzC c with
      | .v d' => next (some d') (clr T ρ3)
      | _ => False) (fun _ _ => False) else next none (clr T ρ2)) (fun _ _ => False)) (fin : k (xs.map g) ρ0) : lcK T wg wt we (xs.map inj) [] ρ0 k := by
  refine lcK_xs (fun x => some (g x)) xs [] h ?_
  rw [List.nil_append]
  have e : xs.filterMap (fun x => some (g x)) = xs.map g := by
    clear h fin
    induction xs with
    | nil => rfl
    | cons x xs ih => rw [List.filterMap_cons, List.map_cons, ih]
  rw [e]
  exact fin
theorem lfreeAll_of : ∀ {ds : List D}, (∀ d ∈ ds, lfree d = true) → lfree.lfreeAll ds = true
  | [], _ => rfl
  | d :: ds, h => by
    rw [lfree.lfreeAll, h d (.head _), lfreeAll_of fun e he => h e (.tail _ he)]
    rfl
theorem lf_ints {k : Nat} {ns : List Int} : C.lf (.own k (.lst (ns.map PyData.int))) = true := by
  show lfree.lfreeAll _ = true
  refine lfreeAll_of fun d hd => ?_
  obtain ⟨x, _, rfl⟩ := List.mem_map.mp hd
  rfl
theorem lf_strs {k : Nat} {ns : List Str} : C.lf (.own k (.lst (ns.map PyData.str))) = true := by
  show lfree.lfreeAll _ = true
  refine lfreeAll_of fun d hd => ?_
  obtain ⟨x, _, rfl⟩ := List.mem_map.mp hd
  rfl
theorem isT_tuple_none {b : Bool} {i : Int} {x : Str} {ds : List D} : isT "tuple" PyData.none = false := by simp [isT]
theorem isT_tuple_bool {b : Bool} {i : Int} {x : Str} {ds : List D} : isT "tuple" (.bool b) = false := by simp [isT]
theorem isT_tuple_int {b : Bool} {i : Int} {x : Str} {ds : List D} : isT "tuple" (.int i) = false := by simp [isT]
theorem isT_tuple_str {b : Bool} {i : Int} {x : Str} {ds : List D} : isT "tuple" (.str x) = false := by simp [isT]
theorem isT_tuple_list {b : Bool} {i : Int} {x : Str} {ds : List D} : isT "tuple" (.list ds) = false := by simp [isT]
theorem isT_tuple_tuple {b : Bool} {i : Int} {x : Str} {ds : List D} : isT "tuple" (.tuple ds) = true := by simp [isT]
theorem isT_int_none {b : Bool} {i : Int} {x : Str} {ds : List D} : isT "int" PyData.none = false := by simp [isT]
theorem isT_int_bool {b : Bool} {i : Int} {x : Str} {ds : List D} : isT "int" (.bool b) = true := by simp [isT]
theorem isT_int_int {b : Bool} {i : Int} {x : Str} {ds : List D} : isT "int" (.int i) = true := by simp [isT]
theorem isT_int_str {b : Bool} {i : Int} {x : Str} {ds : List D} : isT "int" (.str x) = false := by simp [isT]
theorem isT_int_list {b : Bool} {i : Int} {x : Str} {ds : List D} : isT "int" (.list ds) = false := by simp [isT]
theorem isT_int_tuple {b : Bool} {i : Int} {x : Str} {ds : List D} : isT "int" (.tuple ds) = false := by simp [isT]
theorem isT_bool_none {b : Bool} {i : Int} {x : Str} {ds : List D} : isT "bool" PyData.none = false := by simp [isT]
theorem isT_bool_bool {b : Bool} {i : Int} {x : Str} {ds : List D} : isT "bool" (.bool b) = true := by simp [isT]
theorem isT_bool_int {b : Bool} {i : Int} {x : Str} {ds : List D} : isT "bool" (.int i) = false := by simp [isT]
theorem isT_bool_str {b : Bool} {i : Int} {x : Str} {ds : List D} : isT "bool" (.str x) = false := by simp [isT]
theorem isT_bool_list {b : Bool} {i : Int} {x : Str} {ds : List D} : isT "bool" (.list ds) = false := by simp [isT]
theorem isT_bool_tuple {b : Bool} {i : Int} {x : Str} {ds : List D} : isT "bool" (.tuple ds) = false := by simp [isT]
theorem isT_str_none {b : Bool} {i : Int} {x : Str} {ds : List D} : isT "str" PyData.none = false := by simp [isT]
theorem isT_str_bool {b : Bool} {i : Int} {x : Str} {ds : List D} : isT "str" (.bool b) = false := by simp [isT]
theorem isT_str_int {b : Bool} {i : Int} {x : Str} {ds : List D} : isT "str" (.int i) = false := by simp [isT]
theorem isT_str_str {b : Bool} {i : Int} {x : Str} {ds : List D} : isT "str" (.str x) = true := by simp [isT]
theorem isT_str_list {b : Bool} {i : Int} {x : Str} {ds : List D} : isT "str" (.list ds) = false := by simp [isT]
theorem isT_str_tuple {b : Bool} {i : Int} {x : Str} {ds : List D} : isT "str" (.tuple ds) = false := by simp [isT]
theorem isT_list_none {b : Bool} {i : Int} {x : Str} {ds : List D} : isT "list" PyData.none = false := by simp [isT]
theorem isT_list_bool {b : Bool} {i : Int} {x : Str} {ds : List D} : isT "list" (.bool b) = false := by simp [isT]
theorem isT_list_int {b : Bool} {i : Int} {x : Str} {ds : List D} : isT "list" (.int i) = false := by simp [isT]
theorem isT_list_str {b : Bool} {i : Int} {x : Str} {ds : List D} : isT "list" (.str x) = false := by simp [isT]
theorem isT_list_list {b : Bool} {i : Int} {x : Str} {ds : List D} : isT "list" (.list ds) = true := by simp [isT]
theorem isT_list_tuple {b : Bool} {i : Int} {x : Str} {ds : List D} : isT "list" (.tuple ds) = false := by simp [isT]
end DL

set_option Elab.async false
set_option linter.all false
/-! the head: a law's promise over data -/
namespace DL
open PySem PySem.Spec PyProof.Rows L2
theorem mkG_start {K : PySem.W.Frag} {H : Hp} {x : V} {d : D} (h : Dp K H x d) : SR K (mkG H [x] [.v d] [] L0) [some x] [] H [.v d] [] := by
  have e : tot [some x] [] [C.v d] [] = [] := by
    show foot [] [] ++ (footC (some x) (.v d) ++ foot [] []) = []
    cases x <;> rfl
  refine ⟨fun a o q _ => q, fun a o q => ⟨o, q⟩, fun a z => (by cases z), fun a z => ?_, ?_, ?_, ?_, fun i z => ?_⟩
  · rw [e] at z; cases z
  · rw [e]; exact .nil
  · rw [e]
    refine ⟨⟨x, rfl, dp_mono (fun a o q => hide_some.mpr ⟨fun z => (by cases z), q⟩) _ _ h⟩, trivial⟩
  · trivial
  · rcases z with z | z <;> cases z
theorem sp_law {K : PySem.W.Frag} {S : SpD} {n : Nat} (hn : n ≤ sizeLine) (law_in : ∀ ns : List Int, ns.length ≤ n → S [.v (.list (ns.map PyData.int))] (fun c _ => c = .v (.bool true)) (fun _ _ => False))
    (H : Hp) (a : Addr) (ns : List Int) (hl : ns.length ≤ n) (hO : L2.Only H) (hS : SqL K H a (ns.map V.int)) : spOf K S [.ref a] H (fun v _ => v = .bl true) fun _ _ _ => False := by
  have hd : Dp K H (.ref a) (.list (ns.map PyData.int)) := by
    refine .lst hS ?_
    clear hS hl
    induction ns with
    | nil => exact .nil
    | cons i ns ih => exact .cons (.int i) ih
  refine ⟨[.v (.list (ns.map PyData.int))], [], _, _, mkG_start hd, law_in ns hl, fun c rs _ e v H' S1 => ?_, fun x rs z => z.elim⟩
  subst e
  obtain ⟨y, e1, e2⟩ := S1.tp.1
  cases e1
  cases e2
  rfl
theorem walk_dl {l : PySem.W.OpenLaw} {n k : Nat} {q : Program} {loose : List Str} {XP : (Str → Option Value) → Heap → Prop} {YP : World → Heap → Prop} {d : DefRec} {x : Str}
    (hn : l.most = some n) (hn2 : n ≤ sizeLine) (hdf : d.params.defaults = []) (hr : Room k callerA) {S : SpD}
    (F : ∀ (w : World) (mg : Str → Option Value) (fa : Addr) (h : Heap), YP w h → h.Ns mainGlobals mg → mg d.name = some (.ref fa) →
      ∃ (K : PySem.W.Frag) (fd : FuncData), K.In h ∧ (∀ (s : Shared) (u : Value), BindsTo s fd ⟨[u], []⟩ [(x, u)]) ∧
        ∀ base : Heap, K.In base → base.Ns mainGlobals mg → FnOk l.prog w K mg base (L2.CX l.prog w) k fa fd [x] (spOf K S))
    (law_in : ∀ ns : List Int, ns.length ≤ n → S [.v (.list (ns.map PyData.int))] (fun c _ => c = .v (.bool true)) (fun _ _ => False)) :
    PySem.W.WalkO q loose XP YP l.row.toRowW d [] (fun f vs => PySem.call f vs) := by
  refine Att.attach_call hn hdf fun w s₀ s₁ mg mb fa o pm cd doc a vs ns G Y ho hd hcd hmg hobj hints hlen hg => ?_
  obtain ⟨K, fd, KX, hb, hF⟩ := F w mg fa _ Y G.T.g hmg
  exact law_call KX G.T.g G.T.b G.T.builtins G.T.nolimit hg hobj hints (Nat.le_trans hlen hn2) hr hF hb (fun H hO hS => sp_law hn2 law_in H a ns hlen hO hS) fun H e s' h => by
    obtain ⟨_, _, _, _, _, _, _, _, _, _, _, _, z⟩ := h
    exact z.elim
end DL

set_option Elab.async false
set_option linter.all false
set_option maxRecDepth 100000
set_option maxHeartbeats 4000000
/-! DL, at the machine's level: set(list of ints), sorted(set) of any size, min with a default -/
namespace DLS
open PySem PySem.Spec PyProof.Rows L2
section
variable {P : Program} {w : World} {A : Around} {E : Value → Shared → Prop} {s : Shared}
/-! min(xs, default=d) -/
section
variable {R : Result → Shared → Prop} {I : Addr} {fp wr : List Addr} {n : Nat} {Pv : Nat → Value → Prop} {St : Nat → Heap → Prop} {d : Value}
end
end
end DLS

set_option Elab.async false
set_option linter.all false
set_option maxRecDepth 100000
set_option maxHeartbeats 4000000
/-! DL: sorted(set(xs)), min(xs, default=d), comparisons of four, a raise that is never reached -/
namespace DLS
open PySem PySem.Spec PyProof.Rows L2
section
variable {P : Program} {w : World} {A : Around} {E : Value → Shared → Prop} {s : Shared}
end
end DLS
namespace DL
open PySem PySem.Spec PyProof.Rows L2
/-! ### min(xs, default=d) -/
section
variable {X : Cx}
end
section
variable {X : Cx} {g : G} {W : WX} {e d : Expr} {we wd : WE} {p kp pos : Pos}
end
/-! ### sorted(set(xs)) -/
section
variable {X : Cx} {g : G} {W : WX} {e : Expr} {te : TE} {we : WE} {p p2 q pos : Pos}
end
/-! ### a op b op' c op'' d, whole numbers -/
section
variable {X : Cx} {a b c d : Expr} {ta tb tc td : TE} {pos : Pos}
end
section
variable {K : PySem.W.Frag} {g : G} {W : WX} {t ta tb tc td : TE} {w wa wb wc wd : WE}
end
section
variable {X : Cx} {g : G} {W : WX} {a b c d : Expr} {wa wb wc wd : WE} {pos : Pos}
end
end DL

set_option Elab.async false
set_option linter.all false
set_option maxRecDepth 100000
set_option maxHeartbeats 4000000
/-! DL: texts: s * k -/
namespace DL
open PySem PySem.Spec PyProof.Rows L2
section
variable {X : Cx}
end
/-! texts as lists of signs -/
@[reducible] def T (l : List Nat) : Str := ⟨l.toArray⟩
theorem T_list {l : List Nat} : (T l).cps.toList = l := by simp [T]
theorem T_of (x : Str) : x = T x.cps.toList := by obtain ⟨c⟩ := x; simp [T]
theorem T_len {l : List Nat} : (T l).length = l.length := by simp [T, Str.length]
theorem T_drop {l : List Nat} {k : Nat} (h : k ≤ l.length) : cutS (T l) (some (k : Int)) none = T (l.drop k) := by
  unfold cutS
  rw [T_list, T_len, HT.sIx_none, HT.sIx_nat, Nat.min_eq_left h]
  congr 2
  exact List.take_of_length_le (by rw [List.length_drop]; exact Nat.le_refl _)
theorem T_take {l : List Nat} {k : Nat} (h : k ≤ l.length) : cutS (T l) none (some (k : Int)) = T (l.take k) := by
  unfold cutS
  rw [T_list, T_len, HT.sIx_none, HT.sIx_nat, Nat.min_eq_left h, Nat.sub_zero, List.drop_zero]
end DL

set_option Elab.async false
set_option linter.all false
set_option maxRecDepth 100000
set_option maxHeartbeats 4000000
/-! DLOwn: a comprehension over an own list that stays own -/
namespace DL
open PySem PySem.Spec PyProof.Rows L2
@[reducible] def wLcO (i : Nat) (T : List Nat) (wg : WG) (wt : WT) (we : WE) : WE := fun ρ Q _ => match rget ρ i with
  | .own t (.lst ds) => ds.length ≤ sizeLine ∧ lcK T (fun d ρ1 k => rget ρ1 i = .own t (.lst ds) ∧ wg d ρ1 k) wt we ds [] (clr T ρ) fun acc ρ2 => rget ρ2 i = .own t (.lst ds) ∧ Q (.own 0 (.lst acc)) (back ρ T ρ2)
  | _ => False
section
variable {K : PySem.W.Frag} {g : G} {W : WX} {T : List Nat} {wg : WG} {wt : WT} {we : WE} {i0 : Nat}
theorem sem_lcO (hL : ∀ j ∈ T, g.L j = false) (hi : g.L i0 = true) : Sem K g W (tLc (iList K (tVar i0)) (tOfG K g T wg) (tOfT K g W0 wt) (tOfE K g W0 we) T) (wLcO i0 T wg wt we) := by
  intro σ vs H ρ cs QD ED Q hS hw hX hQ
  have hiT : i0 ∉ T := fun z => by rw [hL i0 z] at hi; cases hi
  unfold wLcO at hw
  split at hw
  case h_2 => exact hw.elim
  rename_i t0 ds e0
  obtain ⟨hlen, q1⟩ := hw
  obtain ⟨a, xs0, ea, eh, _⟩ := own_list hS e0
  refine ⟨.ref a, ea, a, rfl, ⟨xs0, .inl (.inl eh)⟩, fun D nD => ?_⟩
  obtain ⟨ks, k1, k2, k3⟩ := keptD_at hS T
  have S2 : SR K g σ (ks ++ vs) H ρ ((keptD ρ T).map C.v ++ cs) := hS.pushAll k2
  have S3 := S2.clrs T
  have S4 := S3.wiped (T := T) (fun j hj => clr_in hj) hL
  have S5 : SR K g (wipe σ T) (.ref D :: (ks ++ vs)) (upd H D (.lst [])) (clr T ρ) (.own 0 (.lst []) :: ((keptD ρ T).map C.v ++ cs)) := SR.res S4 (same_new nD) (new_lst nD .nil)
  have at_ : ∀ {H2 : Hp} {ρ2 : Rho} {vs2 : List V} {cs2 : List C}, SR K g (wipe σ T) vs2 H2 ρ2 cs2 → rget ρ2 i0 = .own t0 (.lst ds) → ∃ xs, H2 a = some (.lst xs) ∧ DpAll K (hide H2 (tot (wipe σ T) vs2 ρ2 cs2 ++ g.P0)) xs ds := fun S e => by
    obtain ⟨a', xs, e1, e2, e3⟩ := own_list S e
    rw [wipe_get hiT, ea] at e1
    cases e1
    exact ⟨xs, e2, e3⟩
  refine ⟨fun i m H => m = ds.length - i ∧ ∃ acc ρ', SR K g (wipe σ T) (.ref D :: (ks ++ vs)) H ρ' (.own 0 (.lst acc) :: ((keptD ρ T).map C.v ++ cs)) ∧ (∀ j ∈ T, rget ρ' j = .no) ∧ acc.length ≤ i ∧ lcK T (fun d ρ1 k => rget ρ1 i0 = .own t0 (.lst ds) ∧ wg d ρ1 k) wt we (ds.drop i) acc ρ' fun acc ρ2 => rget ρ2 i0 = .own t0 (.lst ds) ∧ QD (.own 0 (.lst acc)) (back ρ T ρ2),
    ⟨ds.length, by simp, [], clr T ρ, S5, fun j hj => clr_in hj, Nat.zero_le _, by simpa using q1⟩, ?_⟩
  rintro i m H2 ⟨rfl, acc, ρ2, S6, hno, hacc, q6⟩
  have hlk : ks.length = ((keptD ρ T).map C.v).length := by simpa using k1
  by_cases hlt : i < ds.length
  · have ed : ds.drop i = ds[i] :: ds.drop (i + 1) := List.drop_eq_getElem_cons hlt
    rw [ed] at q6
    obtain ⟨e6, q6⟩ := q6
    obtain ⟨xs, ex, dx⟩ := at_ S6 e6
    have hx : i < xs.length := by rw [DL.DpAll.len dx]; exact hlt
    refine .inr ⟨⟨xs, xs[i], .inl (.inl ex), List.getElem?_eq_getElem hx⟩, fun H' => ∃ acc ρ', SR K g (wipe σ T) (.ref D :: (ks ++ vs)) H' ρ' (.own 0 (.lst acc) :: ((keptD ρ T).map C.v ++ cs)) ∧ (∀ j ∈ T, rget ρ' j = .no) ∧ acc.length ≤ i + 1 ∧ lcK T (fun d ρ1 k => rget ρ1 i0 = .own t0 (.lst ds) ∧ wg d ρ1 k) wt we (ds.drop (i + 1)) acc ρ' fun acc ρ2 => rget ρ2 i0 = .own t0 (.lst ds) ∧ QD (.own 0 (.lst acc)) (back ρ T ρ2),
      fun H' q => ⟨ds.length - (i + 1), by omega, rfl, q⟩, fun x H3 y => ?_⟩
    obtain ⟨rfl, hy⟩ := y
    have hx2 : x = xs[i] := by
      have z := hy xs (.inl (.inl ex))
      rw [List.getElem?_eq_getElem hx] at z
      exact (Option.some.inj z).symm
    have dx2 : Dp K (hide H3 (tot (wipe σ T) (.ref D :: (ks ++ vs)) ρ2 (.own 0 (.lst acc) :: ((keptD ρ T).map C.v ++ cs)) ++ g.P0)) x ds[i] := by
      obtain ⟨v, z1, z2⟩ := DL.DpAll.get dx (List.getElem?_eq_getElem hlt)
      rw [List.getElem?_eq_getElem hx] at z1
      rw [hx2, Option.some.inj z1]
      exact z2
    have S9 : SR K g (wipe σ T) (x :: .ref D :: (ks ++ vs)) H3 ρ2 (.v ds[i] :: .own 0 (.lst acc) :: ((keptD ρ T).map C.v ++ cs)) := SR.resV S6 (Same.refl _) dx2
    have noX : ∀ σ', XEnds K g W0 σ' (fun _ _ => False) := fun σ' _ _ _ _ _ _ _ z => z
    have turn : ∀ {σ2 : L2.St} {H' : Hp} {ρ' : Rho} {acc' : List PyData}, DL.Only T (wipe σ T) σ2 → SR K g σ2 (.ref D :: (ks ++ vs)) H' ρ' (.own 0 (.lst acc') :: ((keptD ρ T).map C.v ++ cs)) → acc'.length ≤ i + 1 → lcK T (fun d ρ1 k => rget ρ1 i0 = .own t0 (.lst ds) ∧ wg d ρ1 k) wt we (ds.drop (i + 1)) acc' (clr T ρ') (fun acc ρ2 => rget ρ2 i0 = .own t0 (.lst ds) ∧ QD (.own 0 (.lst acc)) (back ρ T ρ2)) →
        ∃ acc ρ', SR K g (wipe σ T) (.ref D :: (ks ++ vs)) H' ρ' (.own 0 (.lst acc) :: ((keptD ρ T).map C.v ++ cs)) ∧ (∀ j ∈ T, rget ρ' j = .no) ∧ acc.length ≤ i + 1 ∧ lcK T (fun d ρ1 k => rget ρ1 i0 = .own t0 (.lst ds) ∧ wg d ρ1 k) wt we (ds.drop (i + 1)) acc ρ' fun acc ρ2 => rget ρ2 i0 = .own t0 (.lst ds) ∧ QD (.own 0 (.lst acc)) (back ρ T ρ2) := by
      intro σ2 H' ρ' acc' on S hle q
      have S' := (S.clrs T).wiped (T := T) (fun j hj => clr_in hj) hL
      rw [only_wipe on, wipe_wipe] at S'
      exact ⟨acc', clr T ρ', S', fun j hj => clr_in hj, hle, q⟩
    refine ⟨_, ρ2, _, ds[i], _, S9, fun j hj k q e => ?_, q6, fun σ2 H4 ρ4 S10 on q10 => ⟨by rw [only_wipe on, wipe_wipe], _, ρ4, _, _, fun _ _ => False, S10, q10, noX σ2, fun b H5 ρ5 S11 q11 => ?_⟩⟩
    · have q' := S6.pk k q
      rw [e, hL j hj] at q'; cases q'
    · cases b with
      | false =>
        rw [if_neg Bool.false_ne_true] at q11 ⊢
        exact turn on S11 (by omega) q11
      | true =>
        rw [if_pos rfl] at q11 ⊢
        refine ⟨_, ρ5, _, _, fun _ _ => False, S11, q11, noX σ2, fun z H6 c ρ6 S12 q12 => ?_⟩
        split at q12
        · rename_i d' ec
          have S13 := S12.frzTop
          rw [ec] at S13
          obtain ⟨zs, e1, e2, S14⟩ := S13.appTop
          exact ⟨zs, e1, by omega, turn on S14 (by simp; omega) q12⟩
        · exact q12.elim
  · have ed : ds.drop i = [] := List.drop_eq_nil_of_le (by omega)
    rw [ed] at q6
    obtain ⟨e6, q6⟩ := q6
    obtain ⟨xs, ex, dx⟩ := at_ S6 e6
    refine .inl ⟨⟨xs, .inl (.inl ex), by rw [DL.DpAll.len dx]; omega⟩, ?_⟩
    have S8 : SR K g σ (.ref D :: (ks ++ vs)) H2 ρ2 (.own 0 (.lst acc) :: ((keptD ρ T).map C.v ++ cs)) := by
      refine S6.agree (wipe_length σ T).symm (fun j hj => (wipe_get fun z => hj (hno j z)).symm) fun j hj => (wipe_get fun z => ?_).symm
      have q' := S6.pk j hj
      rw [hL j z] at q'; cases q'
    have S9 : SR K g σ (ks ++ .ref D :: vs) H2 ρ2 ((keptD ρ T).map C.v ++ .own 0 (.lst acc) :: cs) := SR.unrot hlk S8
    have S10 := SR.backs_ k1 k3 S9
    exact hQ (.ref D) H2 _ _ S10 q6
end
section
variable {X : Cx} {g : G} {W : WX} {elt tg : Expr} {ifs : List Expr} {scope : Scope} {own : List (Str × Nat)} {pos p : Pos} {wg : WG} {wt : WT} {we : WE} {i : Nat} {x : Str}
theorem ee_lcO (hc : X.calm = true) (hN : X.N.Nodup) (hL : ∀ j ∈ own.map (·.2), g.L j = false) (hi : g.L i = true) (hx : PE X (.Name x p) (tVar i)) (ok : BlkOk X.N X.env.scope scope own)
    (hg : ∀ (s : Shared) (H : Hp) (C : Addr) (cl : List (Str × Addr)) (fp : List Addr), EG (X.blk s H scope (compEnvC scope cl C X.env) fp) g tg (own.map (·.2)) wg)
    (ht : ∀ (s : Shared) (H : Hp) (C : Addr) (cl : List (Str × Addr)) (fp : List Addr), ETs (X.blk s H scope (compEnvC scope cl C X.env) fp) g W0 ifs wt)
    (he : ∀ (s : Shared) (H : Hp) (C : Addr) (cl : List (Str × Addr)) (fp : List Addr), EE (X.blk s H scope (compEnvC scope cl C X.env) fp) g W0 elt we) (hs : ∀ z, foldedSetIterable (.Name x p) X.env z = pure z := by intro _; rfl) :
    EE X g W (.ListComp elt [⟨tg, .Name x p, ifs, 0⟩] scope pos) (wLcO i (own.map (·.2)) wg wt we) :=
  ⟨_, pe_lc hc hN (pi_list hx) ok (fun s H C cl fp => (hg s H C cl fp).can) (fun s H C cl fp => (ht s H C cl fp).can) (fun s H C cl fp => (he s H C cl fp).can) hs, sem_lcO hL hi⟩
end
end DL

set_option Elab.async false
set_option linter.all false
/-! loops over lists given as data, over ranges -/
namespace DL
open PySem PySem.Spec PyProof.Rows L2
theorem forK_st {wg : WG} {body : WS} {DD : EndsD} {ρ : Rho} (ds : List D) (I : Rho → Prop) (h : I ρ) (h0 : ∀ ρ, I ρ → DD.nx ρ)
    (h1 : ∀ d ∈ ds, ∀ (ρ : Rho) (next : Rho → Prop), (∀ ρ', I ρ' → next ρ') → I ρ → wg d ρ fun ρ1 => body ⟨next, DD.rt, DD.nx, next, DD.ex⟩ ρ1) : forK wg body ds DD ρ :=
  forK_ind (fun es ρ => (∀ d ∈ es, d ∈ ds) ∧ I ρ) (fun ρ z => h0 ρ z.2) (fun d es ρ next hn z => h1 d (z.1 d (.head _)) ρ next (fun ρ' y => hn ρ' ⟨fun d' hd => z.1 d' (.tail _ hd), y⟩) z.2) ds ρ ⟨fun _ h => h, h⟩
def forN (wg : WG) (body : WS) (ds : List D) (DD : EndsD) (ρ : Rho) : Prop := forK wg body ds DD ρ
@[reducible] def wForN (wi : WI) (wg : WG) (body : WS) : WS := fun DD ρ => wi ρ (fun ds ρ1 => forN wg body ds DD ρ1) DD.ex
theorem forN_of {wg : WG} {body : WS} {ds : List D} {DD : EndsD} {ρ : Rho} (h : forK wg body ds DD ρ) : forN wg body ds DD ρ := h
section
variable {X : Cx} {g : G} {W : WX} {tg iter : Expr} {body : List Stmt} {wi : WI} {wg : WG} {wb : WS} {T : List Nat} {pos : Pos}
theorem es_forN (hp : PassesOwn (model X.prog X.w) X.A X.env X.xe) (hc : X.calm = true) (hi : EI X g W tg iter wi) (hg : EG X g tg T wg) (hb : EB X g W body wb) (hs : ∀ x, foldedSetIterable iter X.env x = pure x := by intro _; rfl) : ES X g W (.For tg iter body [] pos) (wForN wi wg wb) := es_for hp hc hi hg hb hs
end
end DL
namespace DL
open PySem PySem.Spec PyProof.Rows L2
end DL
namespace DL
open PySem PySem.Spec PyProof.Rows L2
theorem ifb_t {A B : Prop} {b : Bool} (h : b = true) (a : A) : if b = true then A else B := by rw [if_pos h]; exact a
theorem ifb_f {A B : Prop} {b : Bool} (h : b = false) (a : B) : if b = true then A else B := by rw [if_neg (by rw [h]; exact Bool.false_ne_true)]; exact a
end DL
namespace DL
open PySem PySem.Spec PyProof.Rows L2
end DL

set_option Elab.async false
set_option linter.all false
set_option maxRecDepth 100000
/-! range(i, j) of numbers of any size -/
namespace DL
open PySem PySem.Spec PyProof.Rows L2
section
variable {X : Cx} {tg : Expr}
end
section
variable {X : Cx} {g : G} {W : WX} {tg e : Expr} {we : WE} {pos : Pos}
end
end DL

set_option Elab.async false
set_option linter.all false
set_option maxRecDepth 100000
/-! sorted(list of texts) -/
namespace DL
open PySem PySem.Spec PyProof.Rows L2
section
variable {X : Cx} {g : G} {W : WX} {e : Expr} {es : List Expr} {wa : WA} {p pos : Pos}
end
end DL

set_option Elab.async false
set_option linter.all false
set_option maxRecDepth 100000
set_option maxHeartbeats 4000000
/-! DL: x.insert(i, e) of an own list in a slot -/
namespace DL
open PySem PySem.Spec PyProof.Rows L2
section
variable {X : Cx} {g : G} {W : WX} {a b : Expr} {wa : WA} {i : Nat} {x : Str} {p apos pos : Pos}
end
end DL

set_option Elab.async false
set_option linter.all false
set_option maxRecDepth 100000
set_option maxHeartbeats 4000000
/-! DL: the program's own exceptions are raised -/
namespace DL
open PySem PySem.Spec PyProof.Rows L2
section
variable {X : Cx} {x : Str} {p pos pos' : Pos}
end
end DL

set_option Elab.async false
set_option linter.all false
set_option maxRecDepth 100000
set_option maxHeartbeats 4000000
/-! DL: defs that are promised only where no repr is under way (there repr of nested data has a meaning) -/
namespace DL
open PySem PySem.Spec PyProof.Rows L2
section
variable {P : Program} {w : World} {K : PySem.W.Frag} {mg : Str → Option Value} {base : Heap} {x qual : Str} {params : Arguments} {body : List Stmt} {scope : Scope} {dvs : List V} {kws : List (Str × V)} {f : Addr} {fd : FuncData}
end
section
variable {X : Cx} {g : G} {k : Nat} {S : SpD} {x : Str} {p pos : Pos} {e : Expr} {es : List Expr} {wa : WA}
end
/-! ### the end of a law whose own def shows data -/
end DL

set_option Elab.async false
set_option linter.all false
set_option maxRecDepth 100000
set_option maxHeartbeats 4000000
/-! DL: repr of nested data -/
namespace DL
open PySem PySem.Spec PyProof.Rows L2
/-! ### == of texts, whatever their signs -/
section
variable {X : Cx} {g : G} {W : WX} {a b : Expr} {wa wb : WE} {pos : Pos}
end
/-! ### how long what is shown may be -/
theorem join_le {m : Nat} : ∀ {ts : List Str}, (∀ t ∈ ts, t.length ≤ m) → (Str.join ", " ts).length ≤ ts.length * (m + 2)
  | [], _ => Nat.zero_le _
  | [x], h => by
    have := h x (.head _)
    show x.length ≤ 1 * (m + 2)
    omega
  | x :: y :: r, h => by
    have ih := join_le (ts := y :: r) fun t ht => h t (.tail _ ht)
    have hx := h x (.head _)
    have e : (Str.join ", " (x :: y :: r)).length = x.length + 2 + (Str.join ", " (y :: r)).length := by
      show (x ++ ", " ++ Str.join ", " (y :: r)).length = _
      rw [strLen_append, strLen_append]
      rfl
    rw [e]
    have e2 : (x :: y :: r).length * (m + 2) = (y :: r).length * (m + 2) + (m + 2) := by rw [List.length_cons, Nat.succ_mul]
    omega
theorem tuple_le {m : Nat} {ts : List Str} (h : ∀ t ∈ ts, t.length ≤ m) : (tupleText ts).length ≤ ts.length * (m + 2) + 3 := by
  have := join_le h
  unfold tupleText
  rw [strLen_append, strLen_append]
  have e1 : (("(" : String) : Str).length = 1 := rfl
  have e2 : ((if (ts.length == 1) = true then ",)" else ")" : String) : Str).length ≤ 2 := by split <;> decide
  omega
theorem textFrom_le {m : Nat} : ∀ {ts : List Str} {k : Nat} {acc : Str}, (∀ t ∈ ts, t.length ≤ m) → (textFrom k acc ts).length ≤ acc.length + ts.length * (m + 2)
  | [], _, _, _ => Nat.le_add_right _ _
  | t :: ts, k, acc, h => by
    have ih := textFrom_le (ts := ts) (k := k + 1) (acc := acc ++ (if k > 0 then ", " else "" : String) ++ t) fun t ht => h t (.tail _ ht)
    have ht := h t (.head _)
    have e : (acc ++ (if k > 0 then ", " else "" : String) ++ t).length ≤ acc.length + 2 + t.length := by
      rw [strLen_append, strLen_append]
      have : ((if k > 0 then ", " else "" : String) : Str).length ≤ 2 := by split <;> decide
      omega
    show (textFrom (k + 1) (acc ++ (if k > 0 then ", " else "" : String) ++ t) ts).length ≤ _
    rw [List.length_cons, Nat.succ_mul]
    omega
theorem list_le {m : Nat} {ts : List Str} (h : ∀ t ∈ ts, t.length ≤ m) : (listText ts).length ≤ ts.length * (m + 2) + 2 := by
  unfold listText
  have := textFrom_le (k := 0) (acc := ("[" : String)) h
  rw [strLen_append]
  have e1 : (("[" : String) : Str).length = 1 := rfl
  have e2 : (("]" : String) : Str).length = 1 := rfl
  omega
theorem shownAll_eq : ∀ {ds : List D}, PyData.shownAll ds = ds.map PyData.shown
  | [] => by unfold PyData.shownAll; rfl
  | d :: ds => by unfold PyData.shownAll; rw [shownAll_eq]; rfl
theorem showableAll_eq : ∀ {ds : List D}, PyData.showableAll ds = ds.all PyData.showable
  | [] => by unfold PyData.showableAll; rfl
  | d :: ds => by unfold PyData.showableAll; rw [showableAll_eq]; rfl
theorem hasDictAll_eq : ∀ {ds : List D}, PyData.hasDictAll ds = ds.any PyData.hasDict
  | [] => by unfold PyData.hasDictAll; rfl
  | d :: ds => by unfold PyData.hasDictAll; rw [hasDictAll_eq]; rfl
theorem depthAll_le {n : Nat} : ∀ {ds : List D}, (∀ d ∈ ds, d.depth ≤ n) → PyData.depthAll ds ≤ n
  | [], _ => Nat.zero_le _
  | d :: ds, h => Nat.max_le.mpr ⟨h d (.head _), depthAll_le fun e he => h e (.tail _ he)⟩
theorem depth_tuple {n : Nat} {ds : List D} (h : ∀ d ∈ ds, d.depth ≤ n) : (PyData.tuple ds).depth ≤ n + 1 := Nat.succ_le_succ (depthAll_le h)
theorem depth_list {n : Nat} {ds : List D} (h : ∀ d ∈ ds, d.depth ≤ n) : (PyData.list ds).depth ≤ n + 1 := Nat.succ_le_succ (depthAll_le h)
structure Shn (n m : Nat) (d : D) : Prop where
  ok : d.showable = true
  nd : d.hasDict = false
  dp : d.depth ≤ n
  sz : d.shown.length ≤ m
theorem Shn.up {n m n' m' : Nat} {d : D} (h : Shn n m d) (hn : n ≤ n') (hm : m ≤ m') : Shn n' m' d := ⟨h.ok, h.nd, Nat.le_trans h.dp hn, Nat.le_trans h.sz hm⟩
theorem Shn.none {n m : Nat} (h : 4 ≤ m) : Shn n m .none := ⟨rfl, rfl, Nat.zero_le _, by unfold PyData.shown; exact h⟩
theorem Shn.int {n k : Nat} {i : Int} (hk : 0 < k) (h : i.natAbs < 10 ^ k) (h9 : k ≤ 500) : Shn n (k + 1) (.int i) := ⟨by
    unfold PyData.showable
    refine decide_eq_true ?_
    have : i.natAbs < 2 ^ 1920 := Nat.lt_of_lt_of_le h (Nat.le_trans (Nat.pow_le_pow_right (by decide) h9) (by decide +kernel))
    exact PySem.Flt.log2_lt_of (by decide) this, rfl, Nat.zero_le _, by unfold PyData.shown; rw [PySem.ofString_length]; exact int_text_length_le10 hk h⟩
theorem Shn.str {n : Nat} {x : Str} (h : ∀ c ∈ x.cps.toList, c < 16 ^ 8) : Shn n (10 * x.length + 2) (.str x) := ⟨rfl, rfl, Nat.zero_le _, by unfold PyData.shown; exact StrLaws.reprText_len x h⟩
theorem Shn.tuple {n m : Nat} {ds : List D} (h : ∀ d ∈ ds, Shn n m d) : Shn (n + 1) (ds.length * (m + 2) + 3) (.tuple ds) := by
  refine ⟨?_, ?_, ?_, ?_⟩
  · unfold PyData.showable; rw [showableAll_eq]; exact List.all_eq_true.mpr fun d hd => (h d hd).ok
  · unfold PyData.hasDict; rw [hasDictAll_eq]; exact List.any_eq_false.mpr fun d hd => by rw [(h d hd).nd]; exact Bool.false_ne_true
  · exact depth_tuple fun d hd => (h d hd).dp
  · unfold PyData.shown
    rw [shownAll_eq]
    have := tuple_le (m := m) (ts := ds.map PyData.shown) fun t ht => by
      obtain ⟨d, hd, rfl⟩ := List.mem_map.mp ht
      exact (h d hd).sz
    rwa [List.length_map] at this
theorem Shn.list {n m : Nat} {ds : List D} (h : ∀ d ∈ ds, Shn n m d) : Shn (n + 1) (ds.length * (m + 2) + 2) (.list ds) := by
  refine ⟨?_, ?_, ?_, ?_⟩
  · unfold PyData.showable; rw [showableAll_eq]; exact List.all_eq_true.mpr fun d hd => (h d hd).ok
  · unfold PyData.hasDict; rw [hasDictAll_eq]; exact List.any_eq_false.mpr fun d hd => by rw [(h d hd).nd]; exact Bool.false_ne_true
  · exact depth_list fun d hd => (h d hd).dp
  · unfold PyData.shown
    rw [shownAll_eq]
    have := list_le (m := m) (ts := ds.map PyData.shown) fun t ht => by
      obtain ⟨d, hd, rfl⟩ := List.mem_map.mp ht
      exact (h d hd).sz
    rwa [List.length_map] at this
end DL

set_option Elab.async false
set_option linter.all false
set_option maxRecDepth 100000
set_option maxHeartbeats 4000000
/-! DL: sorted of tuples that begin with unlike tuples of whole numbers -/
namespace DL
open PySem PySem.Spec PyProof.Rows L2
section
variable {prog : Program} {w : World} {A : Around} {s : Shared}
end
/-! ### over data -/
section
variable {X : Cx} {g : G} {W : WX} {e : Expr} {es : List Expr} {wa : WA} {p pos : Pos}
end
end DL

set_option Elab.async false
set_option linter.all false
set_option maxRecDepth 100000
set_option maxHeartbeats 4000000
/-! DLDict: own dicts of slots: {}, d.get(k, x), d[k], k in d, d[k] = v, sorted(d). -/
namespace DL
open PySem PySem.Spec PyProof.Rows L2
@[reducible] def keyD : D → Option Key
  | .int i => some (.inl i)
  | .str s => some (.inr s)
  | _ => none
section
variable {K : PySem.W.Frag} {B : Hp}
/-! what the heap holds -/
end
section
variable {K : PySem.W.Frag} {g : G} {σ : L2.St} {vs : List V} {H H' : Hp} {ρ : Rho} {cs : List C} {i t : Nat}
theorem dp_up {x y : V} {c : C} {d : D} (h : Dp K (hide H (tot σ (x :: vs) ρ (c :: cs) ++ g.P0)) y d) : Dp K (hide H (tot σ vs ρ cs ++ g.P0)) y d := by
  refine dp_mono (fun a o q => ?_) _ _ h
  obtain ⟨h1, h2⟩ := hide_some.mp q
  refine hide_some.mpr ⟨fun z => h1 ?_, h2⟩
  rw [tot_cons]
  rcases List.mem_append.mp z with z | z
  · exact List.mem_append_left _ (List.mem_append_right _ z)
  · exact List.mem_append_right _ z
end
section
variable {X : Cx} {g : G} {W : WX} {e k d : Expr} {we wk wd : WE} {i : Nat} {x : Str} {p apos pos p2 : Pos}
end
end DL

set_option Elab.async false
set_option linter.all false
set_option maxRecDepth 100000
set_option maxHeartbeats 4000000
/-! DLSrtS: sorted of tuples that begin with unlike texts; sorted(d.items()) -/
namespace DL
open PySem PySem.Spec PyProof.Rows L2
/-! ### the order of texts -/
/-! ### the sort -/
section
variable {prog : Program} {w : World} {A : Around} {s : Shared}
end
/-! ### over data -/
section
variable {X : Cx} {g : G} {W : WX} {e : Expr} {es : List Expr} {wa : WA} {p pos : Pos}
end
end DL

set_option Elab.async false
set_option linter.all false
set_option maxRecDepth 100000
set_option maxHeartbeats 4000000
/-! DLItems: sorted(d.items()) of a dict with texts for keys -/
namespace DL
open PySem PySem.Spec PyProof.Rows L2
section
variable {X : Cx}
end
/-! ### over data -/
section
variable {X : Cx} {g : G} {W : WX} {i : Nat} {x : Str} {p p2 apos cpos pos : Pos}
end
/-! ### sorted(d), the keys texts -/
def txS : Value → Str
  | .str x _ => x
  | _ => ⟨#[]⟩
section
variable {prog : Program} {w : World} {A : Around} {s : Shared}
end
section
variable {X : Cx}
end
section
variable {X : Cx} {g : G} {W : WX} {i : Nat} {x : Str} {p p2 pos : Pos}
end
/-! ### texts compared -/
section
variable {X : Cx} {g : G} {W : WX} {a b : Expr} {wa wb : WE} {pos : Pos}
end
end DL

set_option Elab.async false
set_option linter.all false
set_option maxRecDepth 100000
set_option maxHeartbeats 4000000
/-! DLDflt: calls that leave out parameters whose defaults are whole numbers -/
namespace DL
open PySem PySem.Spec PyProof.Rows L2
section
variable {X : Cx} {g : G} {W : WX} {CX : CXT} {k : Nat} {f : Addr} {fd : FuncData} {ps : List Str} {S : SpD} {E : XK} {x : Str} {p pos : Pos} {e : Expr} {es : List Expr} {wa : WA}
variable {dvs : List Int}
end
end DL

set_option Elab.async false
set_option linter.all false
set_option maxRecDepth 100000
set_option maxHeartbeats 4000000
/-! DLHd: what a head is asked (definitions that the head's reckoning needs, apart from the layer) -/
namespace DL
open PySem PySem.Spec PyProof.Rows L2
end DL

set_option Elab.async false
set_option linter.all false
set_option maxRecDepth 100000
set_option maxHeartbeats 4000000
/-! DL: try .. except in a def's own suite; isinstance of what is caught -/
namespace DL
open PySem PySem.Spec PyProof.Rows L2
/-! ### blocks that stand in no loop -/
section
variable {X : Cx} {g : G} {W : WX} {st : Stmt} {rest sts : List Stmt} {w u : WS}
end
/-! ### the body of a def -/
section
variable {P : Program} {w : World} {K : PySem.W.Frag} {mg : Str → Option Value} {base : Heap} {x qual : Str} {params : Arguments} {body : List Stmt} {scope : Scope} {dvs : List V} {kws : List (Str × V)} {f : Addr} {fd : FuncData}
end
/-! ### calls of defs that may let exceptions out, within the try -/
section
variable {X : Cx} {g : G} {W : WX} {k : Nat} {S : SpD} {x : Str} {p pos : Pos} {e : Expr} {es : List Expr} {wa : WA}
end
/-! ### the clause -/
/-! ### the suite: the slot of the exception's name holds it -/
section
variable {X : Cx} {g : G} {i : Nat} {a : Addr} {oe : Obj} {pn : List (Addr × Obj)} {p p1 p2 pos : Pos} {n y : Str}
end
/-! ### the suite's statements -/
section
variable {X : Cx} {g : G} {i : Nat} {a : Addr} {st : Stmt} {rest : List Stmt} {w u : WS} {pos : Pos}
end
/-! ### try: .. except X as n: .. -/
section
variable {X : Cx} {g : G} {W : WX} {x n : Str} {i : Nat} {body suite : List Stmt} {b₀ : Stmt} {np pos pos' : Pos} {wb ws : WS}
end
/-! ### the head, with one more Bool -/
/-! ### calls with defaults, within the try -/
section
variable {X : Cx} {g : G} {W : WX} {k : Nat} {S : SpD} {x : Str} {p pos : Pos} {e : Expr} {es : List Expr} {wa : WA} {dvs : List Int}
end
end DL

set_option Elab.async false
set_option linter.all false
set_option maxRecDepth 100000
set_option maxHeartbeats 4000000
/-! DLCat: + of lists, data or own -/
namespace DL
open PySem PySem.Spec PyProof.Rows L2
def rCatL (K : PySem.W.Frag) : R2 := fun x y H Q => ∃ l b xs zs, x = .ref l ∧ y = .ref b ∧ SqL K H l xs ∧ SqL K H b zs ∧ xs.length + zs.length ≤ sizeLine ∧ ∀ p, H p = none → Q (.ref p) (upd H p (.lst (xs ++ zs)))
theorem op_catL {X : Cx} : OpR X (binaryOp .Add) (rCatL X.K) := by
  intro pins s σ H x y v u Q I rx ry h
  obtain ⟨l, b, xs, zs, rfl, rfl, hH, hB, hz, q⟩ := h
  cases rx
  cases ry
  obtain ⟨its, r, ⟨⟨c1, d1, t1, s1⟩, n, e, k1, k2, k3⟩, z⟩ := I.list hH
  obtain ⟨its2, r2, ⟨⟨c2, d2, t2, s2⟩, n2, e2, j1, j2, j3⟩, z2⟩ := I.list hB
  simp only at k1 k2 k3 j1 j2 j3
  subst k1 k2 k3 j1 j2 j3
  have hl := r.length
  have hl2 := r2.length
  refine concat_meets ⟨_, e, rfl⟩ ⟨_, e2, rfl⟩ noFill_list_add seq_list_add PySem.F.slot_list_add PySem.F.entry_list_add (PySem.F.args_list_add_2 _ _) (list_addW l b its.toArray its2.toArray n n2 none none s1 s2 (by rw [List.size_toArray, List.size_toArray]; omega)) ⟨e, e2, ?_⟩
  have ea : its.toArray ++ its2.toArray = (its ++ its2).toArray := by simp
  rw [ea]
  exact ⟨.ref _, _, I.lnew (t' := s.toks) (r.append r2) (by rw [List.length_append]; omega), rfl, q _ I.fresh⟩
@[reducible] def oCatL : O2 := fun d1 d2 k => match d1, d2 with
  | .list ds, .list es => ds.length + es.length ≤ sizeLine ∧ k (.own 0 (.lst (ds ++ es)))
  | _, _ => False
theorem lift_catL {K : PySem.W.Frag} : Lift2 K (rCatL K) oCatL := by
  intro O H x y dx dy QD Q hO hx hy q fin
  cases hx with
  | lst h1 h2 =>
    cases hy with
    | lst g1 g2 =>
      refine ⟨_, _, _, _, rfl, rfl, same_hide.seq h1, same_hide.seq g1, by rw [DL.DpAll.len h2, DL.DpAll.len g2]; exact q.1, fun p n => ?_⟩
      exact fin _ _ (.own 0 (.lst _)) (same_new n) (new_lst n (DL.DpAll.app h2 g2)) q.2
    | _ => exact q.elim
  | _ => exact q.elim
theorem ee_catL {X : Cx} {g : G} {W : WX} {a b : Expr} {wa wb : WE} {pos : Pos} (ha : EE X g W a wa) (hb : EE X g W b wb) : EE X g W (.BinOp a .Add b pos) (wB oCatL wa wb) := by
  obtain ⟨ta, p1, s1⟩ := ha.ex
  obtain ⟨tb, p2, s2⟩ := hb.ex
  exact ⟨_, pe_op op_catL p1 p2, sem_op lift_catL s1 s2⟩
end DL

set_option Elab.async false
set_option linter.all false
set_option maxRecDepth 100000
set_option maxHeartbeats 4000000
/-! DLDictL: dict(xs), xs a list of pairs with unlike keys -/
namespace DL
open PySem PySem.Spec PyProof.Rows L2
section
variable {X : Cx} {g : G} {W : WX} {e : Expr} {es : List Expr} {wa : WA} {p pos : Pos}
end
end DL

set_option Elab.async false
set_option linter.all false
set_option maxRecDepth 100000
set_option maxHeartbeats 4000000
/-! DLKw: calls with keywords whose values are whole numbers -/
namespace DL
open PySem PySem.Spec PyProof.Rows L2
structure KwF where
  n : Nat
  ks : List Str
  a : Nat
  rev : Bool
  b : Nat
section
variable {K : PySem.W.Frag} {x qual : Str} {params : Arguments} {body : List Stmt} {scope : Scope} {dvs : List V} {kws : List (Str × V)} {f : Addr} {fd : FuncData} {ps : List Str}
end
section
variable {X : Cx} {g : G} {W : WX} {k : Nat} {S : SpD} {x : Str} {p pos kpos : Pos} {e : Expr} {es : List Expr} {kws : List Keyword} {wa wk : WA} {we : WE} {dvs : List Int} {qs : List KwF} {nm : Option Str}
end
end DL

set_option Elab.async false
set_option linter.all false
set_option maxRecDepth 100000
set_option maxHeartbeats 4000000
/-! DLZip3: zip of three lists -/
namespace DL
open PySem PySem.Spec PyProof.Rows L2
section
variable {K : PySem.W.Frag} {a b c : Addr} {ds es fs : List D}
end
section
variable {X : Cx} {g : G} {W : WX} {a b c : Expr} {wa : WA} {p pos : Pos}
end
end DL

set_option Elab.async false
set_option linter.all false
set_option maxRecDepth 100000
set_option maxHeartbeats 4000000
/-! DLIdx: xs.index(x), xs.count(x), xs data -/
namespace DL
open PySem PySem.Spec PyProof.Rows L2
section
variable {X : Cx} {g : G} {W : WX} {a b : Expr} {wa wb : WE} {apos pos : Pos}
end
end DL

set_option Elab.async false
set_option linter.all false
set_option maxRecDepth 100000
set_option maxHeartbeats 4000000
/-! DLCallE: a call whose last argument is a lent slot. -/
namespace DL
open PySem PySem.Spec PyProof.Rows L2
section
variable {K : PySem.W.Frag} {g : G} {W : WX} {σ : L2.St} {vs : List V} {H : Hp} {ρ : Rho} {cs : List C} {i : Nat}
end
section
variable {X : Cx} {g : G} {W : WX} {CX : CXT} {k : Nat} {f : Addr} {fd : FuncData} {ps : List Str} {S : SpD} {E : XK} {x : Str} {p pos : Pos} {e : Expr} {es : List Expr} {wa : WA}
end
end DL

set_option Elab.async false
set_option linter.all false
set_option maxRecDepth 100000
set_option maxHeartbeats 4000000
/-! DL: a, b, c = x, y, z -/
namespace DL
open PySem PySem.Spec PyProof.Rows L2
section
variable {X : Cx} {g : G} {W : WX}
end
end DL

set_option Elab.async false
set_option linter.all false
set_option maxRecDepth 100000
set_option maxHeartbeats 4000000
/-! DL: a, b = x, y and a, b, c = x, y, z where a name is a cell (a pair is made and taken apart); own objects stay so -/
namespace DL
open PySem PySem.Spec PyProof.Rows L2
section
variable {X : Cx} {g : G} {W : WX}
end
end DL

set_option Elab.async false
set_option linter.all false
set_option maxRecDepth 100000
set_option maxHeartbeats 4000000
/-! DL: sorted of pairs of whole numbers -/
namespace DL
open PySem PySem.Spec PyProof.Rows L2
section
variable {X : Cx}
end
/-! ### over data -/
section
variable {X : Cx} {g : G} {W : WX} {e : Expr} {es : List Expr} {wa : WA} {p pos : Pos}
end
end DL

set_option Elab.async false
set_option linter.all false
set_option maxRecDepth 100000
set_option maxHeartbeats 4000000
/-! DLOrd: <, >, <=, >= of data that are alike place by place; a list times a number -/
namespace DL
open PySem PySem.Spec PyProof.Rows L2
section
variable {X : Cx}
end
section
variable {X : Cx} {g : G} {W : WX} {a b : Expr} {wa wb : WE} {pos : Pos}
end
/-! ### a list times a number -/
end DL

set_option Elab.async false
set_option linter.all false
set_option maxRecDepth 100000
set_option maxHeartbeats 4000000
/-! DLLr: list(range(a, b, c)), numbers of any size -/
namespace PySem
open Sem (wp)
open AutoSeq1 (wpAny_loadPart')
section
variable {prog : Program} {w : World} {A : Around} {E : Value → Shared → Prop} {s : Shared}
end
end PySem
namespace DL
open PySem PySem.Spec PyProof.Rows L2
section
variable {X : Cx}
end
end DL

set_option Elab.async false
set_option linter.all false
set_option maxRecDepth 100000
/-! DL: x not in range(n); except X: without a name -/
namespace DL
open PySem PySem.Spec PyProof.Rows L2
section
variable {X : Cx} {a b : Expr} {ta : TE} {pos p p2 : Pos}
end
/-! ### try: .. except X: .. -/
section
variable {X : Cx} {g : G} {W : WX} {x : Str} {body suite : List Stmt} {b₀ : Stmt} {np pos pos' : Pos} {wb ws : WS}
end
end DL

set_option Elab.async false
set_option linter.all false
set_option maxRecDepth 100000
set_option maxHeartbeats 4000000
/-! DLStr: methods of texts: upper, join, zfill, partition, strip -/
namespace DL
open PySem PySem.Spec PyProof.Rows L2
@[reducible] def wM1 (o : O2) (wa wb : WE) : WE := fun ρ Q E => wa ρ (fun c1 ρ1 => match c1 with
  | .v (.str z) => wb ρ1 (fun c2 ρ2 => use2 ρ2 (.v (.str z)) c2 o Q) E
  | _ => False) E
@[reducible] def oJoin : O2 := fun d1 d2 k => match d1, d2 with
  | .str a, .list ds => optK (strsOf ds) fun ys => (ys.map (·.length)).sum + ys.length * a.length ≤ 16777216 ∧ k (.v (.str (Txt.join a ys)))
  | .str a, .tuple ds => optK (strsOf ds) fun ys => (ys.map (·.length)).sum + ys.length * a.length ≤ 16777216 ∧ k (.v (.str (Txt.join a ys)))
  | _, _ => False
section
variable {K : PySem.W.Frag} {g : G} {W : WX} {ta tb : TE} {wa wb : WE} {r : V → List V → Hp → VK → Prop} {o : O2}
theorem sem_m1 (l : Lift2 K (fun x y H Q => r x [y] H Q) o) (ha : Sem K g W ta wa) (hb : Sem K g W tb wb) : Sem K g W (tM1 r ta tb) (wM1 o wa wb) := by
  intro σ vs H ρ cs QD ED Q hS hw hX hQ
  refine ha σ vs H ρ cs _ ED _ hS hw hX fun x H1 c1 ρ1 S1 q1 => ?_
  split at q1
  · rename_i z
    refine ⟨?_, ?_⟩
    · have dz := S1.top
      cases dz
      exact ⟨_, rfl⟩
    refine hb σ (x :: vs) H1 ρ1 (_ :: cs) _ ED _ S1 q1 hX fun y H2 c2 ρ2 S2 q2 => ?_
    exact S2.use2 (r := fun x y H Q => r x [y] H Q) l q2 fun v H' c S3 q3 => hQ v H' c ρ2 S3 q3
  · exact q1.elim
theorem strs_dp {B : Hp} : ∀ {ds : List D} {xs : List V} {ys : List Str}, DpAll K B xs ds → strsOf ds = some ys → xs = ys.map V.str
  | [], _, _, .nil, e => by cases e; rfl
  | d :: ds, _, ys, .cons (x := v) h hs, e => by
    cases h with
    | str z =>
      have e : (strsOf ds).map (z :: ·) = some ys := e
      obtain ⟨l, h1, rfl⟩ := Option.map_eq_some_iff.mp e
      rw [List.map_cons, ← strs_dp hs h1]
    | non => cases e
    | bl b => cases e
    | int i => cases e
    | lst _ _ => cases e
    | tup _ _ => cases e
    | dic _ => cases e
theorem lift_join : Lift2 K (fun x y H Q => ∃ a p, ∃ ys : List Str, x = .str a ∧ [y] = [.ref p] ∧ (SqL K H p (ys.map V.str) ∨ SqT K H p (ys.map V.str)) ∧
    (ys.map (·.length)).sum + ys.length * a.length ≤ 16777216 ∧ Q (.str (Txt.join a ys)) H) oJoin := by
  intro O H x y dx dy QD Q _ hx hy q fin
  unfold oJoin at q
  split at q
  · rename_i a ds
    cases e : strsOf ds with
    | none => rw [e] at q; exact q.elim
    | some ys =>
      rw [e] at q
      have q : _ ∧ _ := q
      cases hx
      cases hy with
      | lst h1 h2 =>
        have := strs_dp h2 e
        subst this
        exact ⟨_, _, ys, rfl, rfl, .inl (Same.seq same_hide h1), q.1, fin _ H (.v _) (Same.refl H) (.str _) q.2⟩
  · rename_i a ds
    cases e : strsOf ds with
    | none => rw [e] at q; exact q.elim
    | some ys =>
      rw [e] at q
      have q : _ ∧ _ := q
      cases hx
      cases hy with
      | tup h1 h2 =>
        have := strs_dp h2 e
        subst this
        exact ⟨_, _, ys, rfl, rfl, .inr (seqT_same same_hide h1), q.1, fin _ H (.v _) (Same.refl H) (.str _) q.2⟩
  · exact q.elim
end
section
variable {X : Cx} {g : G} {W : WX} {a b : Expr} {wa wb : WE} {apos pos : Pos}
theorem ee_join (ha : EE X g W a wa) (hb : EE X g W b wb) (hs : starEach [b] X.env = [(false, eval b X.env)] := by rfl) (hbase : attributeBase a "join" X.env (eval a X.env) = eval a X.env := by rfl) (hline : (apos.endLine == pos.line) = true := by rfl) : EE X g W (.Call (.Attribute a "join" apos) [b] [] pos) (wM1 oJoin wa wb) := by
  obtain ⟨t, p, s⟩ := ha.ex
  obtain ⟨t2, p2, s2⟩ := hb.ex
  exact ⟨_, pe_join p p2 hs hbase hline, sem_m1 lift_join s s2⟩
end
end DL

set_option Elab.async false
set_option linter.all false
set_option maxRecDepth 100000
set_option maxHeartbeats 4000000
/-! DLIxT: x[n] as a target (x an own list, n a local whole number): x[a], x[b] = x[b], x[a] -/
namespace DL
open PySem PySem.Spec PyProof.Rows L2
section
variable {X : Cx} {g : G}
end
end DL

set_option Elab.async false
set_option linter.all false
set_option maxRecDepth 100000
set_option maxHeartbeats 4000000
/-! DLLz: list(zip(a, b)), a and b lists -/
namespace PySem
open Sem (wp)
section
variable {prog : Program} {w : World} {A : Around} {R : Result → Shared → Prop} {z TI TO i1 i2 l1 l2 : Addr} {xs ys : Array Value}
end
end PySem
namespace DL
open PySem PySem.Spec PyProof.Rows L2
section
variable {X : Cx}
end
end DL

set_option Elab.async false
set_option linter.all false
set_option maxRecDepth 100000
set_option maxHeartbeats 4000000
/-! DLFs: f-strings of texts and whole numbers; str of a text -/
namespace DL
open PySem PySem.Spec PyProof.Rows L2
abbrev WJ := Str → Rho → (Str → Rho → Prop) → KX → Prop
section
variable {X : Cx} {g : G} {W : WX} {e : Expr} {es : List Expr} {we : WE} {wj : WJ} {pos : Pos}
end
end DL

set_option Elab.async false
set_option linter.all false
set_option maxRecDepth 100000
set_option maxHeartbeats 4000000
/-! DLMl: a short text told many times -/
namespace DL
open PySem PySem.Spec PyProof.Rows L2
section
variable {X : Cx}
end
end DL

set_option Elab.async false
set_option linter.all false
set_option maxRecDepth 100000
set_option maxHeartbeats 4000000
/-! DLDic: empty dicts within data: {} as data; == of it and a text -/
namespace DL
open PySem PySem.Spec PyProof.Rows L2
section
variable {prog : Program} {w : World} {A : Around} {E : Value → Shared → Prop} {s : Shared}
theorem dict_declines_text {a : Addr} {z : Str} {u : Tok} {Q : Value → Shared → Prop} (ht : s.TypeIs (.ref a) "dict") (h : Q .notImplemented s) :
    wpAny (model prog w) A (call (.builtin "dict.__eq__") [.ref a, .str z u]) Q E s := by
  refine wpAny_call_entry PySem.F.slot_dict_eq ht PySem.F.entry_dict_eq ?_ (PySem.F.args_dict_eq_2 _ _)
  show wpAny _ _ (Builtin.Dict.dictSlotArgs "__eq__" _ >>= _) _ _ _
  refine wpAny_bind ?_
  unfold Builtin.Dict.dictSlotArgs
  refine wpAny_bind (wpAny_notOrdered_dict ht ?_)
  show wpAny _ _ (pure (Value.ref a, Value.str z u)) _ _ s
  refine wpAny_pure (wpAny_bind (wpAny_isInstance (T := "str") (typeIs_str s z u) PySem.F.sub_str_dict ?_))
  simp only [Bool.not_false, if_true]
  refine wpAny_bind (wpAny_rule ?_)
  exact wpAny_bind (wpAny_pure (wpAny_pure ⟨_, rfl, h⟩))
theorem text_declines_dict (b : Str) (u : Tok) (l : Addr) (c : Value) (es : Array DictEntry) (n : Nat) (dd : Option Addr) (sl : Array (Option Value)) :
    Meets (Builtin.«str.__eq__» ⟨[.str b u, .ref l], []⟩) (fun _ R s => s.heap.get? l = some { cls := c, dict := dd, data := .dict es n, slots := sl } ∧ R (.ok (.ret .notImplemented)) s) :=
  .of_wp fun prog w A R s h => by obtain ⟨hp, g, d, tk, os⟩ := s; obtain ⟨hl, h⟩ := h; wp_walk using wpAny_loadPart' hl, wpAny_load hl; exact ⟨_, rfl, h⟩
theorem dict_eq_text {a : Addr} {o : Obj} {es : Array DictEntry} {n : Nat} {z : Str} {u : Tok} {Q : Value → Shared → Prop} (ho : s.heap.get? a = some o) (hc : o.ExactDict) (hd : o.data = .dict es n) (hu : A.units < cLine) (h : Q (.bool false) s) :
    wpAny (model prog w) A (compareOp .Eq (.ref a) (.str z u)) Q E s := by
  obtain ⟨cls, dd, data, sl⟩ := o
  have e1 : cls = .type "dict" := hc.1
  simp only at hd
  subst e1 hd
  exact SeqAt.rc_eq_decline_or (k := false) ⟨_, ho, rfl⟩ (typeIs_str s z u) (by decide) PySem.F.sub_str_dict PySem.F.slot_dict_eq PySem.F.slot_str_eq_refl
    (fun _ hq => dict_declines_text ⟨_, ho, rfl⟩ hq)
    (fun _ hq => call_meets PySem.F.slot_str_eq_refl (typeIs_str s z u) PySem.F.entry_str_eq (PySem.F.args_str_eq_2 _ _) (text_declines_dict z u a (.type "dict") es n dd sl) ⟨ho, hq⟩)
    (fun _ hq => wpAny_of_eq (rfl : isSame (.ref a) (.str z u) = pure false) hq) (.inr hu) h
end
def rEqX (K : PySem.W.Frag) : R2 := fun x y H Q => rEqD K x y H Q ∨ ∃ z, Dp K H x (.dict []) ∧ y = .str z ∧ Q (.bl false) H
theorem op_eqX {X : Cx} (hu : X.A.units + 64 < cLine) : OpR X (compareOp .Eq) (rEqX X.K) := by
  intro pins s σ H x y v u Q I rx ry h
  rcases h with h | ⟨z, hx, rfl, q⟩
  · exact op_eqD hu pins s σ H x y v u Q I rx ry h
  · cases hx with
    | dic h1 =>
      cases rx
      obtain ⟨t, rfl⟩ := ry
      obtain ⟨_, _, us, rel, o, es, ep, e1, e2, e3, _⟩ := dk_rd I.hok (.inl h1)
      exact dict_eq_text e1 e2 e3 (by omega) ⟨.bl _, H, I, rfl, q⟩
def EqOk (d1 d2 : D) : Prop := (SeqAt.shaped d1 = true ∧ SeqAt.shaped d2 = true) ∨ (d1 = .dict [] ∧ isT "str" d2 = true)
@[reducible] def oEqX : O2 := fun d1 d2 k => EqOk d1 d2 ∧ k (.v (.bool (PyData.eqv d1 d2)))
theorem lift_eqX {K : PySem.W.Frag} : Lift2 K (rEqX K) oEqX := fun O H x y dx dy QD Q _ hx hy q fin => by
  rcases q.1 with ⟨s1, s2⟩ | ⟨rfl, s2⟩
  · exact .inl ⟨dx, dy, dp_hide hx, dp_hide hy, s1, s2, fin _ H (.v _) (Same.refl H) (.bl _) q.2⟩
  · cases hy with
    | str z => exact .inr ⟨z, dp_hide hx, rfl, fin _ H (.v _) (Same.refl H) (.bl _) q.2⟩
    | _ => exact absurd (show false = true from s2) (by decide)
/-! ### + of numbers, a truth and a number, texts, tuples -/
def rPlusB (K : PySem.W.Frag) : R2 := fun x y H Q => rPlus K x y H Q ∨ ∃ b j, x = .bl b ∧ y = .int j ∧ Q (.int ((if b = true then 1 else 0) + j)) H
theorem op_plusB {X : Cx} : OpR X (binaryOp .Add) (rPlusB X.K) := by
  intro pins s σ H x y v u Q I rx ry h
  rcases h with h | ⟨b, j, rfl, rfl, q⟩
  · exact op_plus pins s σ H x y v u Q I rx ry h
  · cases (show v = Value.bool b from rx)
    obtain ⟨t, rfl⟩ := ry
    exact IntBool.add_bool_int ⟨.int _, H, I.tok _, ⟨_, rfl⟩, q⟩
@[reducible] def oPlusB : O2 := fun d1 d2 k => match d1, d2 with
  | .bool b, .int j => k (.v (.int ((if b = true then 1 else 0) + j)))
  | .int i, .int j => k (.v (.int (i + j)))
  | .str i, .str j => i.length + j.length ≤ sizeLine ∧ k (.v (.str (i ++ j)))
  | .tuple ds, .tuple es => ds.length + es.length ≤ sizeLine ∧ k (.v (.tuple (ds ++ es)))
  | _, _ => False
theorem lift_plusB {K : PySem.W.Frag} : Lift2 K (rPlusB K) oPlusB := by
  intro O H x y dx dy QD Q hO hx hy q fin
  cases dx with
  | bool b =>
    cases hx
    cases hy <;> try exact q.elim
    exact .inr ⟨_, _, rfl, rfl, fin _ H (.v _) (Same.refl H) (.int _) q⟩
  | int i => cases dy <;> first | exact q.elim | exact .inl (lift_plus O H x y _ _ QD Q hO hx hy q fin)
  | str i => cases dy <;> first | exact q.elim | exact .inl (lift_plus O H x y _ _ QD Q hO hx hy q fin)
  | tuple i => cases dy <;> first | exact q.elim | exact .inl (lift_plus O H x y _ _ QD Q hO hx hy q fin)
  | _ => exact q.elim
theorem ee_plusB {X : Cx} {g : G} {W : WX} {a b : Expr} {wa wb : WE} {pos : Pos} (ha : EE X g W a wa) (hb : EE X g W b wb) : EE X g W (.BinOp a .Add b pos) (wB oPlusB wa wb) := by
  obtain ⟨ta, p1, s1⟩ := ha.ex
  obtain ⟨tb, p2, s2⟩ := hb.ex
  exact ⟨_, pe_op op_plusB p1 p2, sem_op lift_plusB s1 s2⟩
/-! ### x[k], x an own list: the item may hold lists, too -/
@[reducible] def wOIx (i : Nat) (wk : WE) : WE := fun ρ Q E => match rget ρ i with
  | .own _ (.lst _) => wk ρ (fun c1 ρ1 => match c1, rget ρ1 i with
    | .v (.int k), .own _ (.lst ds) => optK (atI ds k) fun d => Q (.v d) ρ1
    | _, _ => False) E
  | _ => False
theorem ee_oix {X : Cx} {g : G} {W : WX} {i : Nat} {x : Str} {p pos : Pos} {k : Expr} {wk : WE} (hx : PE X (.Name x p) (tVar i)) (hk : EE X g W k wk) (hp : PlainIx k := by intro _ _; rfl) : EE X g W (.Subscript (.Name x p) k pos) (wOIx i wk) := by
  obtain ⟨t1, p1, s1⟩ := hk.ex
  refine ⟨_, pe_ix ix_seq hx p1 hp, fun σ vs H ρ cs QD ED Q hS hw hX hQ => ?_⟩
  unfold wOIx at hw
  split at hw
  · rename_i t0 ds0 e0
    obtain ⟨a, ys, e1, _, _⟩ := own_list hS e0
    refine ⟨.ref a, e1, ?_⟩
    refine s1 σ vs H ρ cs _ ED _ hS hw hX fun y H1 c1 ρ1 S1 q1 => ?_
    split at q1
    · rename_i j t' ds eo
      obtain ⟨a', xs, e3, e4, e5⟩ := own_list S1 eo
      rw [e1] at e3
      cases e3
      cases ei : atI ds j with
      | none =>
        have q1 : optK (atI ds j) _ := q1
        rw [ei] at q1
        exact q1.elim
      | some d =>
        have q1 : optK (atI ds j) fun d => QD (.v d) ρ1 := q1
        rw [ei] at q1
        have q1 : QD (.v d) ρ1 := q1
        have ey := S1.top
        cases ey
        obtain ⟨v, h1, h2⟩ := atI_dp e5 ei
        exact .inl ⟨a, xs, j, v, rfl, rfl, .inl (.inl e4), h1, hQ _ _ (.v d) ρ1 (SR.resV S1.pop (Same.refl _) (dp_up h2)) q1⟩
    · exact q1.elim
  · exact hw.elim
@[reducible] def wDat0 : WE := fun ρ Q _ => Q (.v (.dict [])) ρ
section
variable {X : Cx} {g : G} {W : WX} {a b : Expr} {wa wb : WE} {pos : Pos}
theorem ee_dat0 : EE X g W (.Dict [] [] pos) wDat0 := ⟨_, pe_dnewK, fun σ vs H ρ cs QD ED Q hS hw hX hQ => fun a n =>
  hQ _ _ (.v (.dict [])) ρ (SR.res hS (same_new n) (.dic (hide_some.mpr ⟨fun z => (by obtain ⟨u, e⟩ := hS.domO a z; rw [n] at e; cases e), upd_same⟩))) hw⟩
theorem et_eqX (hu : X.A.units + 64 < cLine) (ha : EE X g W a wa) (hb : EE X g W b wb) : ET X g W (.Compare a [.Eq] [b] pos) (wTst (wB oEqX wa wb)) := et_cmp (op_eqX hu) lift_eqX ha hb (nomark _)
end
end DL

set_option Elab.async false
set_option linter.all false
set_option maxRecDepth 100000
set_option maxHeartbeats 4000000
/-! DLDni: k in d, k not in d as tests -/
namespace DL
open PySem PySem.Spec PyProof.Rows L2
section
variable {X : Cx} {g : G} {W : WX} {k : Expr} {wk : WE} {x : Str} {p pos : Pos} {i : Nat}
end
end DL

set_option Elab.async false
set_option linter.all false
set_option maxRecDepth 100000
set_option maxHeartbeats 4000000
/-! CFH: the promises of the laws' drawing helpers, alike in all laws -/
namespace CFH
open PySem PySem.Spec PyProof.Rows L2 DL
structure Hd where
  a : Int
  b : Int
  c : Int
@[reducible] def hd (h : Hd) : List D := [.int h.a, .int h.b, .int h.c]
structure Hd.ok (h : Hd) (n : Nat) : Prop where
  a0 : 0 ≤ h.a
  b0 : 0 ≤ h.b
  b1 : h.b < 4611686018427387904
  c0 : 0 ≤ h.c
  c1 : h.c ≤ n
@[reducible] def hc (h : Hd) : C := .own 1 (.lst (hd h))
def S_law_hand : SpD := fun as Q _ => ∃ (ns : List Int) (k : Int), as = [.v (.list (ns.map PyData.int)), .v (.int k)] ∧ 0 ≤ k ∧ k ≤ 1000 ∧ ∀ h : Hd, h.ok 0 → Q (.own 0 (.lst (hd h))) as
def S_law_take : SpD := fun as Q _ => ∃ (h : Hd) (n : Nat) (m : Int), as = [hc h, .v (.int m)] ∧ h.ok n ∧ n ≤ 1000000 ∧ 0 < m ∧ m.natAbs.log2 < 9000 ∧ ∀ (h' : Hd) (x : Int), h'.ok (n + 1) → 0 ≤ x → x < m → Q (.v (.int x)) [hc h', .v (.int m)]
def Boxed (d : D) (ds : List D) : Prop := d = .list ds ∨ d = .tuple ds ∨ ∃ s : Str, d = .str s ∧ ds = strD s ∧ s.length ≤ sizeLine
def S_law_pick : SpD := fun as Q _ => ∃ (h : Hd) (n : Nat) (b : D) (ds : List D), as = [hc h, .v b] ∧ h.ok n ∧ n ≤ 1000000 ∧ 0 < ds.length ∧ ds.length ≤ 1000000 ∧ Boxed b ds ∧ ∀ (h' : Hd) (d : D), h'.ok (n + 1) → d ∈ ds → Q (.v d) [hc h', .v b]
@[reducible] def wholeD : D → Bool
  | .int _ => true
  | _ => false
def S_law_whole : SpD := fun as Q _ => ∃ d : D, as = [.v d] ∧ Q (.v (.bool (wholeD d))) as
def S_law_great : SpD := fun as Q _ => ∃ (h : Hd) (n : Nat), as = [hc h] ∧ h.ok n ∧ n ≤ 900000 ∧ ∀ (h' : Hd) (x : Int), h'.ok (n + 4) → 0 ≤ x → x < 1000000000000000000000000000000000000000000000000000000000000 → Q (.v (.int x)) [hc h']
theorem len_law_hand : ∀ as QD ED, S_law_hand as QD ED → as.length = 2 := by
  rintro as QD ED ⟨_, _, rfl, _⟩
  rfl
theorem len_law_take : ∀ as QD ED, S_law_take as QD ED → as.length = 2 := by
  rintro as QD ED ⟨_, _, _, rfl, _⟩
  rfl
theorem len_law_pick : ∀ as QD ED, S_law_pick as QD ED → as.length = 2 := by
  rintro as QD ED ⟨_, _, _, _, rfl, _⟩
  rfl
theorem len_law_great : ∀ as QD ED, S_law_great as QD ED → as.length = 1 := by
  rintro as QD ED ⟨_, _, rfl, _⟩
  rfl

theorem Hd.ok.up {h : Hd} {n m : Nat} (o : h.ok n) (l : n ≤ m) : h.ok m := ⟨o.a0, o.b0, o.b1, o.c0, by have := o.c1; omega⟩
@[reducible] def big : Int := 1000000000000000000000000000000000000000000000000000000000000
theorem big_log {m : Int} (h0 : 0 < m) (h : m ≤ big) : m.natAbs.log2 < 9000 := log2_lt (k := 200) (by unfold big at h; omega) (by decide) (by decide)
theorem take_i {h : Hd} {n : Nat} {m : Int} {Q E} (o : h.ok n) (hn : n ≤ 1000000) (hm : 0 < m) (hl : m.natAbs.log2 < 9000) (q : ∀ (h' : Hd) (x : Int), h'.ok (n + 1) → 0 ≤ x → x < m → Q (.v (.int x)) [hc h', .v (.int m)]) : S_law_take [hc h, .v (.int m)] Q E := ⟨h, n, m, rfl, o, hn, hm, hl, q⟩
theorem great_i {h : Hd} {n : Nat} {Q E} (o : h.ok n) (hn : n ≤ 900000) (q : ∀ (h' : Hd) (x : Int), h'.ok (n + 4) → 0 ≤ x → x < 1000000000000000000000000000000000000000000000000000000000000 → Q (.v (.int x)) [hc h']) : S_law_great [hc h] Q E := ⟨h, n, rfl, o, hn, q⟩
theorem pick_i {h : Hd} {n : Nat} {ds : List D} {Q E} (o : h.ok n) (hn : n ≤ 1000000) (h0 : 0 < ds.length) (h1 : ds.length ≤ 1000000) (q : ∀ (h' : Hd) (d : D), h'.ok (n + 1) → d ∈ ds → Q (.v d) [hc h', .v (.list ds)]) : S_law_pick [hc h, .v (.list ds)] Q E := ⟨h, n, .list ds, ds, rfl, o, hn, h0, h1, .inl rfl, q⟩
theorem strD_len {s : Str} : (strD s).length = s.length := by
  unfold strD
  rw [List.length_map]
  rfl
theorem whole_i {d : D} {Q E} (q : Q (.v (.bool (wholeD d))) [.v d]) : S_law_whole [.v d] Q E := ⟨d, rfl, q⟩
end CFH

set_option Elab.async false
set_option linter.all false
set_option maxRecDepth 100000
set_option maxHeartbeats 4000000
/-! CFWd: words of the laws: the promise -/
namespace CFWd
open PySem PySem.Spec PyProof.Rows L2 DL CFH
def signs : Str := "abcdefghijklmnopqrstuvwxyz0123456789"
theorem sg_len : signs.cps.toList.length = 36 := by decide +kernel
theorem sg_sz : signs.length ≤ sizeLine := by
  have : signs.length = 36 := by decide +kernel
  rw [this, sizeLine_eq]; decide
structure WordOk (x : Str) : Prop where
  l1 : 1 ≤ x.length
  l8 : x.length ≤ 8
  sg : ∀ c ∈ x.cps.toList, c ∈ signs.cps.toList
structure WsOk (ws : List Str) : Prop where
  nd : ws.Nodup
  ok : ∀ w ∈ ws, WordOk w
  /-- they differ at one place -/
  ap : ∃ a : Nat, (∀ w ∈ ws, (w.cps.toList[a]?).isSome = true) ∧ ws.Pairwise fun x y => x.cps.toList[a]? ≠ y.cps.toList[a]?
def sgAt (j : Nat) : Nat := signs.cps.toList.getD j 0
theorem sg_at {j : Nat} (h : j < 36) : signs.cps.toList[j]? = some (sgAt j) := by
  unfold sgAt
  rw [List.getD_eq_getElem?_getD, List.getElem?_eq_getElem (by rw [sg_len]; exact h)]
  rfl
theorem sg_mem {j : Nat} (h : j < 36) : sgAt j ∈ signs.cps.toList := List.mem_of_getElem? (sg_at h)
def wordL (c a b : Nat) (short : Bool) (b0 st k : Nat) : List Nat := List.replicate a c ++ [sgAt ((b0 + st * k) % 36)] ++ (if short = true ∧ k % 2 = 1 then [] else List.replicate b c)
theorem word_ok {c a b : Nat} {short : Bool} {b0 st k : Nat} (hc : c ∈ signs.cps.toList) (hl : a + b ≤ 7) : WordOk (T (wordL c a b short b0 st k)) := by
  unfold wordL
  refine ⟨?_, ?_, ?_⟩
  · rw [T_len]; simp only [List.length_append, List.length_cons, List.length_nil]; omega
  · rw [T_len]; split <;> simp <;> omega
  · rw [T_list]
    intro z hz
    rcases List.mem_append.mp hz with hz | hz
    · rcases List.mem_append.mp hz with hz | hz
      · rw [List.eq_of_mem_replicate hz]; exact hc
      · rw [List.mem_singleton.mp hz]; exact sg_mem (Nat.mod_lt _ (by decide))
    · split at hz
      · cases hz
      · rw [List.eq_of_mem_replicate hz]; exact hc
theorem WsOk.take {ws : List Str} (h : WsOk ws) (k : Nat) : WsOk (ws.take k) := by
  obtain ⟨a, h1, h2⟩ := h.ap
  exact ⟨h.nd.sublist (List.take_sublist _ _), fun w hw => h.ok w (List.mem_of_mem_take hw), a, fun w hw => h1 w (List.mem_of_mem_take hw), h2.sublist (List.take_sublist _ _)⟩
end CFWd

set_option Elab.async false
set_option linter.all false
set_option maxRecDepth 100000
set_option maxHeartbeats 4000000
/-! CFIs: words, turns, layers of anything -/
namespace CFIs
open PySem PySem.Spec PyProof.Rows L2 DL CFH
mutual
/-- data whose texts are not long -/
def sml : D → Bool
  | .str s => decide (s.length ≤ 100000)
  | .list ds => smlAll ds
  | .tuple ds => smlAll ds
  | _ => true
def smlAll : List D → Bool
  | [] => true
  | d :: ds => sml d && smlAll ds
end
theorem sml_all : ∀ {ds : List D}, smlAll ds = true ↔ ∀ d ∈ ds, sml d = true
  | [] => ⟨fun _ _ h => (by cases h), fun _ => rfl⟩
  | d :: ds => by
    show (sml d && smlAll ds) = true ↔ _
    rw [Bool.and_eq_true, sml_all]
    constructor
    · rintro ⟨a, b⟩ x hx
      rcases List.mem_cons.mp hx with z | z
      · rw [z]; exact a
      · exact b x z
    · exact fun h => ⟨h d (.head _), fun x hx => h x (.tail _ hx)⟩
theorem sml_tup {ds : List D} : sml (.tuple ds) = true ↔ ∀ d ∈ ds, sml d = true := sml_all
theorem sml_lst {ds : List D} : sml (.list ds) = true ↔ ∀ d ∈ ds, sml d = true := sml_all
theorem sml_str {s : Str} (h : sml (.str s) = true) : s.length ≤ 100000 := of_decide_eq_true h
theorem sml_of {s : Str} (h : s.length ≤ 100000) : sml (.str s) = true := decide_eq_true h
@[reducible] def SIG : Str := "abcdefghijklmnopqrstuvwxyz0123456789"
def isWh : D → Bool
  | .int _ => true
  | _ => false
def sgOk : D → Bool
  | .str c => inS c SIG
  | _ => false
def isWd : D → Bool
  | .str s => decide (1 ≤ s.length ∧ s.length ≤ 8) && (strD s).all sgOk
  | _ => false
theorem isT_str {d : D} (h : isT "str" d = true) : ∃ s, d = .str s := by
  cases d <;> first | exact ⟨_, rfl⟩ | (simp [isT] at h)
theorem isT_tup {d : D} (h : isT "tuple" d = true) : ∃ s, d = .tuple s := by
  cases d <;> first | exact ⟨_, rfl⟩ | (simp [isT] at h)
theorem isWh_eq {d : D} : isWh d = (isT "int" d && !isT "bool" d) := by cases d <;> rfl
theorem isWh_int {d : D} (h : isWh d = true) : ∃ i, d = .int i := by
  cases d <;> first | exact ⟨_, rfl⟩ | cases h
theorem isWd_no {d : D} (h : isT "str" d = false) : isWd d = false := by
  cases d <;> first | rfl | (simp [isT] at h)
theorem isWd_bad {s : Str} (h : ¬ (1 ≤ s.length ∧ s.length ≤ 8)) : isWd (.str s) = false := by
  show (decide _ && _) = false
  rw [decide_eq_false h]
  rfl
theorem isWd_at {s : Str} (h : 1 ≤ s.length ∧ s.length ≤ 8) : isWd (.str s) = (strD s).all sgOk := by
  show (decide _ && _) = _
  rw [decide_eq_true h, Bool.true_and]
def S_is_whole : SpD := fun as Q _ => ∃ d : D, as = [.v d] ∧ Q (.v (.bool (isWh d))) as
def S_is_word : SpD := fun as Q _ => ∃ d : D, as = [.v d] ∧ sml d = true ∧ Q (.v (.bool (isWd d))) as
theorem len_is_whole : ∀ as QD ED, S_is_whole as QD ED → as.length = 1 := by
  rintro as QD ED ⟨_, rfl, _⟩
  rfl
theorem len_is_word : ∀ as QD ED, S_is_word as QD ED → as.length = 1 := by
  rintro as QD ED ⟨_, rfl, _⟩
  rfl
end CFIs

set_option Elab.async false
set_option linter.all false
set_option maxRecDepth 100000
set_option maxHeartbeats 4000000
/-! CFIj: moments, jumps of anything -/
namespace CFIj
open PySem PySem.Spec PyProof.Rows L2 DL CFH CFIs
def isMo : D → Bool
  | .int t => decide (0 ≤ t ∧ t < big)
  | _ => false
theorem isMo_no {d : D} (h : isWh d = false) : isMo d = false := by
  cases d <;> first | rfl | (simp [isWh] at h)
theorem isMo_get {d : D} (h : isMo d = true) : ∃ t, d = .int t ∧ 0 ≤ t ∧ t < big := by
  unfold isMo at h
  split at h
  · have := of_decide_eq_true h
    exact ⟨_, rfl, this.1, this.2⟩
  · cases h
def S_is_moment : SpD := fun as Q _ => ∃ d : D, as = [.v d] ∧ Q (.v (.bool (isMo d))) as
theorem len_is_moment : ∀ as QD ED, S_is_moment as QD ED → as.length = 1 := by
  rintro as QD ED ⟨_, rfl, _⟩
  rfl
end CFIj

set_option Elab.async false
set_option linter.all false
set_option maxRecDepth 100000
set_option maxHeartbeats 4000000
/-! CFCl: the clock: shown, reading, moment_of: promises and their mathematics -/
namespace CFCl
open PySem PySem.Spec PyProof.Rows L2 DL CFH
abbrev Pr := Int × Int
def Ris : Int → List Pr → Prop
  | _, [] => True
  | lo, p :: js => lo < p.1 ∧ Ris p.1 js
theorem Ris.mono : ∀ {lo lo' : Int} {js : List Pr}, lo' ≤ lo → Ris lo js → Ris lo' js
  | _, _, [], _, h => trivial
  | _, _, _ :: _, l, h => ⟨by have := h.1; omega, h.2⟩
def JOk (js : List Pr) : Prop := Ris 0 js ∧ js.length ≤ 8 ∧ ∀ p ∈ js, p.1 < big ∧ p.2 ≠ 0 ∧ -1440 ≤ p.2 ∧ p.2 ≤ 1440

/-! ### promises -/
end CFCl

set_option Elab.async false
set_option linter.all false
set_option maxRecDepth 100000
set_option maxHeartbeats 4000000
/-! CFRu: the runs of the clock: promises and their mathematics -/
namespace CFRu
open PySem PySem.Spec PyProof.Rows L2 DL CFH CFCl
abbrev Rn := Int × Int × Int
@[reducible] def optD : Option Int → D
  | none => .none
  | some z => .int z
def Below (t : Int) : Option Int → Prop
  | none => True
  | some z => t < z
instance {t : Int} : ∀ e, Decidable (Below t e)
  | none => isTrue trivial
  | some z => inferInstanceAs (Decidable (t < z))
theorem Below.mono {s t : Int} : ∀ {e : Option Int}, s ≤ t → Below t e → Below s e
  | none, _, _ => trivial
  | some z, h, h' => Int.lt_of_le_of_lt h h'
def behW (last : Rn) (a over before : Int) (e : Option Int) : List Rn :=
  if before + 1 - over ≤ a then (if last.2.2 = 1 ∧ before + 1 - over = a then [] else [(a, a + over, 1)])
  else (if last.2.2 = 1 then [(a, before, 0)] else []) ++ (if Below (before + 1 - over) e then [(before + 1 - over, before + 1, 1)] else [])
def behL (last : Rn) (a over : Int) (e : Option Int) : List Rn := behW last a over (last.2.1 + last.2.2 * (a - 1 - last.1)) e
def lastOf (r : Rn) : List Rn → Rn
  | [] => r
  | x :: l => lastOf x l
def hdO : List Pr → Option Int
  | [] => none
  | p :: _ => some p.1
def rnG (over : Int) (last : Rn) : List Pr → List Rn
  | [] => []
  | p :: js => behL last p.1 (over + p.2) (hdO js) ++ rnG (over + p.2) (lastOf last (behL last p.1 (over + p.2) (hdO js))) js
def runsL (js : List Pr) : List Rn := (0, 0, 1) :: rnG 0 (0, 0, 1) js
/-! what is true of them -/
def St (R : Int → Int) (t : Int) : Prop := 0 < t ∧ R t = R (t - 1)
def Beg (R : Int → Int) (t : Int) : Prop := t = 0 ∨ ¬ (St R t ↔ St R (t - 1)) ∨ R t > R (t - 1) + 1
/-! ### promises -/
end CFRu

set_option Elab.async false
set_option linter.all false
set_option maxRecDepth 100000
set_option maxHeartbeats 4000000
/-! CFCh: the laws' helpers about the clock -/
namespace CFCh
open PySem PySem.Spec PyProof.Rows L2 DL CFH CFCl
theorem pow60 : (10 : Int) ^ Int.toNat 60 = big := by decide
def S_law_moment : SpD := fun as Q _ => ∃ (h : Hd) (n : Nat), as = [hc h] ∧ h.ok n ∧ n ≤ 800000 ∧ ∀ (h' : Hd) (x : Int), h'.ok (n + 5) → 0 ≤ x → x < big → Q (.v (.int x)) [hc h']
theorem moment_i {h : Hd} {n : Nat} {Q E} (o : h.ok n) (hn : n ≤ 800000) (q : ∀ (h' : Hd) (x : Int), h'.ok (n + 5) → 0 ≤ x → x < big → Q (.v (.int x)) [hc h']) : S_law_moment [hc h] Q E := ⟨h, n, rfl, o, hn, q⟩
theorem len_law_moment : ∀ as QD ED, S_law_moment as QD ED → as.length = 1 := by
  rintro as QD ED ⟨_, _, rfl, _⟩
  rfl
end CFCh

set_option Elab.async false
set_option linter.all false
set_option maxRecDepth 100000
set_option maxHeartbeats 4000000
/-! CFBk: turns, layers, changes, books as data -/
namespace CFBk
open PySem PySem.Spec PyProof.Rows L2 DL CFH CFCl CFRu CFWd
abbrev Trn := Int × Int × Str
structure Lyr where
  word : Str
  start : Int
  days : Int
  turns : List Trn
def TrnsOk (most : Int) : Int → List Trn → Prop
  | _, [] => True
  | lo, t :: ts => lo ≤ t.1 ∧ t.1 < t.2.1 ∧ t.2.1 ≤ most ∧ WordOk t.2.2 ∧ TrnsOk most t.2.1 ts
structure LyrOk (l : Lyr) : Prop where
  wd : WordOk l.word
  d1 : 1 ≤ l.days
  d60 : l.days ≤ 60
  s0 : 0 ≤ l.start
  s1 : l.start < 1440 * l.days
  n12 : l.turns.length ≤ 12
  ts : TrnsOk (1440 * l.days) 0 l.turns
inductive Chg where
  | away (h : Str) (b : Int) (e : Option Int)
  | on (h : Str) (b : Int) (e : Option Int)
  | stand (h o : Str) (b : Int) (e : Option Int)
def Chg.b : Chg → Int
  | away _ b _ => b
  | on _ b _ => b
  | stand _ _ b _ => b
def Chg.e : Chg → Option Int
  | away _ _ e => e
  | on _ _ e => e
  | stand _ _ _ e => e
def Chg.h : Chg → Str
  | away h _ _ => h
  | on h _ _ => h
  | stand h _ _ _ => h
def Chg.kind : Chg → Str
  | away _ _ _ => "away"
  | on _ _ _ => "on"
  | stand _ _ _ _ => "for"
def chgL : Chg → List D
  | .away h b e => [.str "away", .str h, .int b, optD e]
  | .on h b e => [.str "on", .str h, .int b, optD e]
  | .stand h o b e => [.str "for", .str h, .str o, .int b, optD e]
@[reducible] def chgD (c : Chg) : D := .tuple (chgL c)
theorem lf_chg0 {c : Chg} : lfree (chgD c) = true := by
  cases c <;> (rename_i e; cases e <;> rfl)
theorem lf_chg {c : Chg} : C.lf (.v (chgD c)) = true := lf_chg0
theorem chg_m1 {c : Chg} : atI (chgL c) (-1) = some (optD c.e) := by cases c <;> rfl
theorem chg_m2 {c : Chg} : atI (chgL c) (-2) = some (.int c.b) := by cases c <;> rfl
theorem chg_0 {c : Chg} : atI (chgL c) 0 = some (.str c.kind) := by cases c <;> rfl
theorem chg_1 {c : Chg} : atI (chgL c) 1 = some (.str c.h) := by cases c <;> rfl
def Chg.Hands (c : Chg) (p : Str → Prop) : Prop := match c with
  | away h _ _ => p h
  | on h _ _ => p h
  | stand h o _ _ => p h ∧ p o ∧ h ≠ o
structure ChgOk (c : Chg) : Prop where
  hs : c.Hands WordOk
  b0 : 0 ≤ c.b
  b1 : c.b < big
  e1 : ∀ e, c.e = some e → c.b < e ∧ e < big
structure Bk where
  js : List Pr
  ls : List Lyr
  cs : List Chg
end CFBk

set_option Elab.async false
set_option linter.all false
set_option maxRecDepth 100000
set_option maxHeartbeats 4000000
/-! CFTu: turns of numbers -/
namespace CFTu
open PySem PySem.Spec PyProof.Rows L2 DL CFH CFCl CFRu CFWd CFBk
def placeL (l : Lyr) (r : Int) : Int := (r - l.start) % (1440 * l.days)
end CFTu

set_option Elab.async false
set_option linter.all false
set_option maxRecDepth 100000
set_option maxHeartbeats 4000000
/-! CFTd: who is called: told, stand, first -/
namespace CFTd
open PySem PySem.Spec PyProof.Rows L2 DL CFH CFCl CFRu CFWd CFBk CFTu
theorem sg_small : ∀ c ∈ signs.cps.toList, c < 0x110000 := by decide +kernel
theorem word_ok {x : Str} (h : WordOk x) : PyData.canLay0 (.str x) = true := by
  show x.cps.all (· < 0x110000) = true
  rw [Array.all_eq_true]
  intro i hi
  have := sg_small _ (h.sg x.cps[i] (by simp))
  simpa using this
theorem eqv_str {a b : Str} : PyData.eqv (.str a) (.str b) = decide (a = b) := by
  simp only [PyData.eqv]
  by_cases h : a = b
  · subst h; simp
  · simp [h]
inductive Rw where
  | non (w : Str)
  | turn (h w : Str) (j : Nat)
  | sub (h w : Str) (j k : Nat)
  | on (h : Str) (k : Nat)
  | away (m : Nat) (r : Rw)
def rwL : Rw → List D
  | .non w => [.str "none", .str w]
  | .turn h w j => [.str "turn", .str h, .str w, .int (j : Nat)]
  | .sub h w j k => [.str "for", .str h, .str w, .int (j : Nat), .int (k : Nat)]
  | .on h k => [.str "on", .str h, .int (k : Nat)]
  | .away m r => [.str "away", .int (m : Nat), .tuple (rwL r)]
def Rw.kind : Rw → Str
  | .non _ => "none"
  | .turn _ _ _ => "turn"
  | .sub _ _ _ _ => "for"
  | .on _ _ => "on"
  | .away _ _ => "away"
theorem rw_0 {r : Rw} : atI (rwL r) 0 = some (.str r.kind) := by cases r <;> rfl
/-! what is told -/
def coversL (c : Chg) (t : Int) : Bool := decide (c.b ≤ t) && (match c.e with
  | none => true
  | some e => decide (t < e))
/-! facts -/
structure BkW (b : Bk) : Prop where
  js : b.js.length ≤ 100
  ls : ∀ l ∈ b.ls, LyrOk l
  l4 : b.ls.length ≤ 100
  cs : ∀ c ∈ b.cs, ChgOk c
  c24 : b.cs.length ≤ 200
/-! promises -/
def S_covers : SpD := fun as Q _ => ∃ (c : Chg) (t : Int), as = [.v (chgD c), .v (.int t)] ∧ Q (.v (.bool (coversL c t))) as
theorem len_covers : ∀ as QD ED, S_covers as QD ED → as.length = 2 := by
  rintro as QD ED ⟨_, _, rfl, _⟩
  rfl
end CFTd

set_option Elab.async false
set_option linter.all false
set_option maxRecDepth 100000
set_option maxHeartbeats 4000000
/-! CFRd: the laws' reading by the last moments ahead of jumps, one sum kept -/
namespace CFRd
open PySem PySem.Spec PyProof.Rows L2 DL CFH CFCl CFCh
end CFRd

set_option Elab.async false
set_option linter.all false
set_option maxRecDepth 100000
set_option maxHeartbeats 4000000
/-! CFRw: the laws' own rows -/
namespace CFRw
open PySem PySem.Spec PyProof.Rows L2 DL CFH CFCl CFRu CFWd CFBk CFTu CFTd
end CFRw

set_option Elab.async false
set_option linter.all false
set_option maxRecDepth 100000
set_option maxHeartbeats 4000000
/-! CFCg: a drawn change -/
namespace CFCg
open PySem PySem.Spec PyProof.Rows L2 DL CFH CFCl CFRu CFWd CFBk
end CFCg

set_option Elab.async false
set_option linter.all false
set_option maxRecDepth 100000
set_option maxHeartbeats 4000000
/-! CFLa: what can be laid: changes, rows, layers, books; kinds of changes -/
namespace CFLa
open PySem PySem.Spec PyProof.Rows L2 DL CFH CFCl CFRu CFWd CFBk CFCg CFTu CFTd CFRw
theorem s_for : PyData.canLay0 (.str "for") = true := by decide +kernel
end CFLa

set_option Elab.async false
set_option linter.all false
set_option maxRecDepth 100000
set_option maxHeartbeats 4000000
/-! CFIc: spans, changes of anything -/
namespace CFIc
open PySem PySem.Spec PyProof.Rows L2 DL CFH CFCl CFRu CFWd CFBk CFIs CFIj
def isSp (b e : D) : Bool := isMo b && (match e with
  | .none => true
  | e => isMo e && (match b, e with
    | .int x, .int y => decide (x < y)
    | _, _ => false))
def isCh : D → Bool
  | .tuple [.str k, h, b, e] => (decide (k = "away") || decide (k = "on")) && (isWd h && isSp b e)
  | .tuple [.str k, h, o, b, e] => decide (k = "for") && (isWd o && (!PyData.eqv h o && (isWd h && isSp b e)))
  | _ => false
theorem sp_none {b : D} : isSp b .none = isMo b := by
  show (isMo b && true) = _
  rw [Bool.and_true]
theorem sp_no {b e : D} (h : isMo b = false) : isSp b e = false := by
  show (isMo b && _) = _
  rw [h]; rfl
theorem sp_noE {b e : D} (h : isMo e = false) (n : e ≠ .none) : isSp b e = false := by
  unfold isSp
  cases e with
  | none => exact absurd rfl n
  | _ => simp only [h, Bool.false_and, Bool.and_false]
theorem sp_at {x y : Int} (h : isMo (.int x) = true) (h' : isMo (.int y) = true) : isSp (.int x) (.int y) = decide (x < y) := by
  show (isMo (.int x) && (isMo (.int y) && decide (x < y))) = _
  rw [h, h']; rfl
theorem ch_no {d : D} (h : isT "tuple" d = false) : isCh d = false := by
  cases d <;> first | rfl | (simp [isT] at h)
theorem ch_4 {k h b e : D} : isCh (.tuple [k, h, b, e]) = (match k with
    | .str k => (decide (k = "away") || decide (k = "on")) && (isWd h && isSp b e)
    | _ => false) := by cases k <;> rfl
theorem ch_5 {k h o b e : D} : isCh (.tuple [k, h, o, b, e]) = (match k with
    | .str k => decide (k = "for") && (isWd o && (!PyData.eqv h o && (isWd h && isSp b e)))
    | _ => false) := by cases k <;> rfl
theorem ch_len {ds : List D} (h : ¬ (4 ≤ ds.length ∧ ds.length ≤ 5)) : isCh (.tuple ds) = false := by
  match ds, h with
  | [], _ | [_], _ | [_, _], _ | [_, _, _], _ => simp [isCh]
  | [_, _, _, _], h => exact absurd ⟨Nat.le_refl 4, Nat.le_of_ble_eq_true rfl⟩ h
  | [_, _, _, _, _], h => exact absurd ⟨Nat.le_of_ble_eq_true rfl, Nat.le_refl 5⟩ h
  | _ :: _ :: _ :: _ :: _ :: _ :: _, _ => simp [isCh]
theorem len45 {ds : List D} (h : 4 ≤ ds.length ∧ ds.length ≤ 5) : (∃ k a b e, ds = [k, a, b, e]) ∨ (∃ k a o b e, ds = [k, a, o, b, e]) := by
  match ds, h with
  | [k, a, b, e], _ => exact .inl ⟨k, a, b, e, rfl⟩
  | [k, a, o, b, e], _ => exact .inr ⟨k, a, o, b, e, rfl⟩
  | [], h | [_], h | [_, _], h | [_, _, _], h => exact absurd h.1 (by simp)
  | _ :: _ :: _ :: _ :: _ :: _ :: _, h => exact absurd h.2 (by simp)
theorem mo_of {t : Int} (h0 : 0 ≤ t) (h1 : t < big) : isMo (.int t) = true := decide_eq_true ⟨h0, h1⟩
theorem mem_two {s : Str} : memD (.str s) [.str "away", .str "on"] = (decide (s = "away") || decide (s = "on")) := by
  show (PyData.eqv (.str "away") (.str s) || (PyData.eqv (.str "on") (.str s) || false)) = _
  rw [CFTd.eqv_str, CFTd.eqv_str, Bool.or_false]
  congr 1 <;> exact decide_eq_decide.mpr ⟨Eq.symm, Eq.symm⟩
def S_is_span : SpD := fun as Q _ => ∃ b e : D, as = [.v b, .v e] ∧ Q (.v (.bool (isSp b e))) as
def LayD (d : D) : Prop := ∀ ds, d = .tuple ds → ∀ x ∈ ds, x = .dict [] ∨ Lay 60 x
def S_is_change : SpD := fun as Q _ => ∃ d : D, as = [.v d] ∧ sml d = true ∧ LayD d ∧ Q (.v (.bool (isCh d))) as
theorem len_is_span : ∀ as QD ED, S_is_span as QD ED → as.length = 2 := by
  rintro as QD ED ⟨_, _, rfl, _⟩
  rfl
theorem len_is_change : ∀ as QD ED, S_is_change as QD ED → as.length = 1 := by
  rintro as QD ED ⟨_, rfl, _⟩
  rfl
end CFIc

set_option Elab.async false
set_option linter.all false
set_option maxRecDepth 100000
set_option maxHeartbeats 4000000
/-! CFRa: first_from, how_many -/
namespace CFRa
open PySem PySem.Spec PyProof.Rows L2 DL CFH
@[reducible] def ff (rest by_ low : Int) : Int := low + (rest - low) % by_
def hm (rest by_ low high : Int) : Int := if high ≤ ff rest by_ low then 0 else (high - 1 - ff rest by_ low) / by_ + 1
/-! the plain law -/
end CFRa

set_option Elab.async false
set_option linter.all false
set_option maxRecDepth 100000
set_option maxHeartbeats 4000000
/-! CFRb: gcd, inverse, agree, clash_of, joined: promises and their mathematics -/
namespace CFRb
open PySem PySem.Spec PyProof.Rows L2 DL CFH
def zl (a b : Int) : Int := ((Int.lcm a b : Nat) : Int)
def Sm (x : Int) : Prop := x.natAbs < 2 ^ 8900
theorem Sm.of_le {x y : Int} (h : Sm y) (l : x.natAbs ≤ y.natAbs) : Sm x := Nat.lt_of_le_of_lt l h
theorem Sm.neg {x : Int} (h : Sm x) : Sm (-x) := h.of_le (by omega)
theorem Sm.big {x : Int} (h0 : 0 ≤ x) (h : x ≤ big) : Sm x := by
  have e : (2 : Nat) ^ 200 ≤ 2 ^ 8900 := Nat.pow_le_pow_right (by decide) (by decide)
  refine Nat.lt_of_lt_of_le (m := 2 ^ 200) ?_ e
  unfold CFH.big at h
  omega

/-! ### pairs -/
abbrev Pr := Int × Int
/-! ### promises -/
end CFRb

set_option Elab.async false
set_option linter.all false
set_option maxRecDepth 100000
set_option maxHeartbeats 4000000
/-! CFPl: the plain layers of a moment's span -/
namespace CFPl
open PySem PySem.Spec PyProof.Rows L2 DL CFH CFCl CFRu CFWd CFBk CFCg CFTu CFTd CFLa
end CFPl

set_option Elab.async false
set_option linter.all false
set_option maxRecDepth 100000
set_option maxHeartbeats 4000000
/-! CFEd: edges -/
namespace CFEd
open PySem PySem.Spec PyProof.Rows L2 DL CFH CFCl CFRu CFWd CFBk
def ChE (cs : List Chg) (k : Int) : Prop := ∃ c ∈ cs, k = c.b ∨ c.e = some k
end CFEd

set_option Elab.async false
set_option linter.all false
set_option maxRecDepth 100000
set_option maxHeartbeats 4000000
/-! CFLe: the laws' own edges; where runs begin -/
namespace CFLe
open PySem PySem.Spec PyProof.Rows L2 DL CFH CFCl CFRu CFWd CFBk CFEd
instance {R : Int → Int} {t : Int} : Decidable (CFRu.St R t) := inferInstanceAs (Decidable (0 < t ∧ R t = R (t - 1)))
instance {R : Int → Int} {t : Int} : Decidable (Beg R t) := inferInstanceAs (Decidable (t = 0 ∨ ¬ (CFRu.St R t ↔ CFRu.St R (t - 1)) ∨ R t > R (t - 1) + 1))
end CFLe

set_option Elab.async false
set_option linter.all false
set_option maxRecDepth 100000
set_option maxHeartbeats 4000000
/-! CFSp: plain spans: what stays alike from edge to edge -/
namespace CFSp
open PySem PySem.Spec PyProof.Rows L2 DL CFH CFCl CFRu CFWd CFBk CFCg CFTu CFTd CFLa CFPl CFEd CFLe
def NoRun (js : List Pr) (t m : Int) : Prop := t ≤ m ∧ ∀ u ∈ (runsL js).map (·.1), t < u → m < u
def NoEdge (b : Bk) (t m : Int) : Prop := NoRun b.js t m ∧ ∀ u, ChE b.cs u → t < u → m < u
theorem NoEdge.covers {b : Bk} {t m : Int} (n : NoEdge b t m) {c : Chg} (hc : c ∈ b.cs) : coversL c m = coversL c t := by
  have l := n.1.1
  have nb := n.2 c.b ⟨c, hc, .inl rfl⟩
  unfold coversL
  have e1 : decide (c.b ≤ m) = decide (c.b ≤ t) := by
    by_cases z : c.b ≤ t
    · rw [decide_eq_true z, decide_eq_true (by omega)]
    · rw [decide_eq_false z, decide_eq_false (by have := nb (by omega); omega)]
  rw [e1]
  congr 1
  cases e : c.e with
  | none => rfl
  | some x =>
    have ne := n.2 x ⟨c, hc, .inr e⟩
    show decide (m < x) = decide (t < x)
    by_cases z : t < x
    · rw [decide_eq_true z, decide_eq_true (ne z)]
    · rw [decide_eq_false z, decide_eq_false (by omega)]
def inP (p : Int) (t : Trn) : Bool := decide (t.1 ≤ p ∧ p < t.2.1)
end CFSp

set_option Elab.async false
set_option linter.all false
set_option maxRecDepth 100000
set_option maxHeartbeats 4000000
/-! CFLo: lots: who is called, by pieces of the day and rests of its number -/
namespace CFLo
open PySem PySem.Spec PyProof.Rows L2 DL CFH CFCl CFRu CFWd CFBk CFTu CFRb CFSp
/-! ### a layer's hand at a number -/
def whoL (l : Lyr) (r : Int) : Option Str := (l.turns.find? (inP (placeL l r))).map (·.2.2)
/-! ### the lot of a day -/
abbrev Lt := List Int × Option Str
def lotOf : List Lyr → Int → Int → Lt
  | [], _, _ => ([], none)
  | l :: ls, m, d => match whoL l (1440 * d + m) with
    | some h => ([d % l.days], some h)
    | none => (d % l.days :: (lotOf ls m d).1, (lotOf ls m d).2)
def rnd (ls : List Lyr) : Int := ls.foldl (fun n l => zl n l.days) 1
/-! ### the order of the rests -/
/-! ### joining -/
/-! ### layer by layer -/
structure Ah where
  rs : List Int
  r : Int
  n : Int
structure Inv (ls : List Lyr) (m : Int) (s : List Lt × List Ah) : Prop where
  nd : (s.1.map (·.1) ++ s.2.map (·.rs)).Nodup
  fd : ∀ x ∈ s.1, x.2.isSome = true ∧ ∃ d, lotOf ls m d = x
  ah : ∀ a ∈ s.2, 0 ≤ a.r ∧ a.r < a.n ∧ a.n = rnd ls ∧ a.rs.length = ls.length ∧ ∀ d, d % a.n = a.r ↔ lotOf ls m d = (a.rs, none)
  al : ∀ d, lotOf ls m d ∈ s.1 ∨ ∃ a ∈ s.2, lotOf ls m d = (a.rs, none)
/-! ### how many at each time -/
abbrev s0 : List Lt × List Ah := ([], [⟨[], 0, 1⟩])
/-! ### data -/
/-! ### cuts -/
/-! ### all pieces -/
/-! ### promises -/
end CFLo

set_option Elab.async false
set_option linter.all false
set_option maxRecDepth 100000
set_option maxHeartbeats 4000000
/-! CFLc: the laws' own cuts of the day; within a piece a layer has one turn -/
namespace CFLc
open PySem PySem.Spec PyProof.Rows L2 DL CFH CFCl CFRu CFWd CFBk CFTu CFRb CFSp CFLo
end CFLc

set_option Elab.async false
set_option linter.all false
set_option maxRecDepth 100000
set_option maxHeartbeats 4000000
/-! CFLy: a drawn layer -/
namespace CFLy
open PySem PySem.Spec PyProof.Rows L2 DL CFH CFCl CFRu CFWd CFBk CFCg
end CFLy

set_option Elab.async false
set_option linter.all false
set_option maxRecDepth 100000
set_option maxHeartbeats 4000000
/-! CFCr: a crowded book -/
namespace CFCr
open PySem PySem.Spec PyProof.Rows L2 DL CFH CFCl CFRu CFWd CFBk CFCg CFLy CFTd CFLa
end CFCr

set_option Elab.async false
set_option linter.all false
set_option maxRecDepth 100000
set_option maxHeartbeats 4000000
/-! CFNr: moments near a book's edges -/
namespace CFNr
open PySem PySem.Spec PyProof.Rows L2 DL CFH CFCl CFRu CFWd CFBk
end CFNr

set_option Elab.async false
set_option linter.all false
set_option maxRecDepth 100000
set_option maxHeartbeats 4000000
/-! CFLs: drawn layers -/
namespace CFLs
open PySem PySem.Spec PyProof.Rows L2 DL CFH CFCl CFRu CFWd CFBk CFCg CFLy
def menus : Bool → List (List Int)
  | false => [[1, 2, 3, 4, 6, 12], [7], [1, 2], [1, 7], [2, 5, 10], [3, 9]]
  | true => [[1, 2, 3, 4, 6, 12], [7, 14, 28], [1, 2, 4, 7, 14, 28], [3, 5, 15, 30, 60], [8, 9], [5, 11]]
end CFLs

set_option Elab.async false
set_option linter.all false
set_option maxRecDepth 100000
set_option maxHeartbeats 4000000
/-! k22: the promises -/
namespace K22
open PySem PySem.Spec PyProof.Rows L2 DL CFH CFCl CFRu CFWd CFBk CFCg CFTu CFTd CFRw
def awayH : Chg → Option Str
  | .away h _ _ => some h
  | _ => none
def onH : Chg → Option Str
  | .on h _ _ => some h
  | _ => none
def forH (o : Str) : Chg → Option Str
  | .stand h o' _ _ => if o' = o then some h else none
  | _ => none
abbrev covF (cs : List Chg) (t : Int) : List Chg := cs.filter fun c => coversL c t
def goneW (cs : List Chg) : List Str := cs.filterMap awayH
def forsW (cs : List Chg) (h : Str) : Str := (cs.filterMap (forH h)).getLast?.getD h
/-! the law's books -/
def S_law : SpD := fun as Q _ => ∃ ns : List Int, as = [.v (.list (ns.map PyData.int))] ∧ ns.length ≤ 63 ∧ ∀ rs, Q (.v (.bool true)) rs
theorem law_in : ∀ ns : List Int, ns.length ≤ 63 → S_law [.v (.list (ns.map PyData.int))] (fun c _ => c = .v (.bool true)) (fun _ _ => False) := fun ns h => ⟨ns, rfl, h, fun _ => rfl⟩
theorem len_law : ∀ as QD ED, S_law as QD ED → as.length = 1 := by
  rintro as QD ED ⟨_, rfl, _⟩
  rfl
end K22

set_option Elab.async false
set_option linter.all false
set_option maxRecDepth 100000
set_option maxHeartbeats 4000000
/-! k25: the promises -/
namespace K25
open PySem PySem.Spec PyProof.Rows L2 DL CFH CFCl CFRu CFWd CFBk CFCg CFTu CFTd CFLa CFPl CFSp CFEd CFLe CFRw
open K22 (covF goneW forsW awayH forH)
def S_law : SpD := fun as Q _ => ∃ ns : List Int, as = [.v (.list (ns.map PyData.int))] ∧ ns.length ≤ 63 ∧ ∀ rs, Q (.v (.bool true)) rs
theorem law_in : ∀ ns : List Int, ns.length ≤ 63 → S_law [.v (.list (ns.map PyData.int))] (fun c _ => c = .v (.bool true)) (fun _ _ => False) := fun ns h => ⟨ns, rfl, h, fun _ => rfl⟩
theorem len_law : ∀ as QD ED, S_law as QD ED → as.length = 1 := by
  rintro as QD ED ⟨_, rfl, _⟩
  rfl
end K25

set_option Elab.async false
set_option linter.all false
set_option maxRecDepth 100000
set_option maxHeartbeats 4000000
/-! CFRh: who is there, by the laws' own look at changes and layers -/
namespace CFRh
open PySem PySem.Spec PyProof.Rows L2 DL CFH CFCl CFRu CFWd CFBk CFCg CFTu CFTd CFLa CFPl CFSp
open K22 (covF goneW forsW awayH forH onH)
end CFRh

set_option Elab.async false
set_option linter.all false
set_option maxRecDepth 100000
set_option maxHeartbeats 4000000
/-! CFNn: who is called next that isn't named: spans, soonest, chains -/
namespace CFNn
open PySem PySem.Spec PyProof.Rows L2 DL CFH CFCl CFRu CFWd CFBk CFCg CFTu CFTd CFLa CFPl CFSp CFEd CFLe CFRh
/-! plain layers in order -/
/-! the first moment in a turn -/
/-! the soonest that isn't named -/
/-! the next that isn't named -/
/-! the spans from a moment on -/
abbrev Sp := Int × Option Int × List Lyr
/-! the rows that stand, each hand once -/
/-! chains -/
end CFNn

set_option Elab.async false
set_option linter.all false
set_option maxRecDepth 100000
set_option maxHeartbeats 4000000
/-! CFFr: the next gap, the next moment of a hand -/
namespace CFFr
open PySem PySem.Spec PyProof.Rows L2 DL CFH CFCl CFRu CFWd CFBk CFTu CFTd CFPl CFRa CFRb CFSp CFEd CFRh CFNn CFLo CFLc
/-! ### one day's lot, by moments -/
/-! ### the first moment of a lot -/
/-! ### spans -/
end CFFr

set_option Elab.async false
set_option linter.all false
set_option maxRecDepth 100000
set_option maxHeartbeats 4000000
/-! CFCn: counting moments; sums by names -/
namespace CFCn
open PySem PySem.Spec PyProof.Rows L2 DL CFH CFCl CFRu CFWd CFBk CFTu CFTd CFPl CFRa CFRb CFSp CFEd CFRh CFNn CFLo CFLc CFFr
def bI (b : Bool) : Int := if b then 1 else 0
/-! ### sums by names -/
end CFCn

set_option Elab.async false
set_option linter.all false
set_option maxRecDepth 100000
set_option maxHeartbeats 4000000
/-! DL: trees of objects, parts of them lent; calls with any number of lent slots and parts. -/
namespace DL
open PySem PySem.Spec PyProof.Rows L2

/-! ### a part of a tree -/
def Tre.own : Tre → List Addr
  | .ld a _ => [a]
  | .lst a _ => [a]
  | .tup a _ => [a]
  | .ins a dx _ _ _ => [a, dx]
  | .exc a da _ => a :: da.toList
  | _ => []
section
variable {K : PySem.W.Frag} {B B' H H' : Hp}
theorem all_set : ∀ {xs : List Tre} {vs : List V} {i : Nat} {m : Tre}, TreAll K B H xs vs → xs[i]? = some m → ∃ u, vs[i]? = some u ∧ TreAt K B H m u ∧
    ∀ (n : Tre) (B' H' : Hp), Same B B' → TreAt K B' H' n u → (∀ a ∈ Tre.foots (xs.set i (.hole 0)), ∀ o, H a = some o → H' a = some o) → TreAll K B' H' (xs.set i n) vs
  | [], _, i, m, _, h => by simp at h
  | x :: xs, vs, 0, m, q, h => by
    have e : x = m := by simpa using h
    subst e
    obtain ⟨v, ws, rfl, q1, q2⟩ := q
    exact ⟨v, rfl, q1, fun n B' H' hB z keep => ⟨v, ws, rfl, z, TreAll.mono hB xs ws (fun a ha o w => keep a (by rw [List.set_cons_zero, Tre.foots]; exact List.mem_append_right _ ha) o w) q2⟩⟩
  | x :: xs, vs, i + 1, m, q, h => by
    obtain ⟨v, ws, rfl, q1, q2⟩ := q
    obtain ⟨u, e, z1, z2⟩ := all_set (i := i) q2 (by simpa using h)
    exact ⟨u, by simpa using e, z1, fun n B' H' hB z keep => ⟨v, ws, rfl, TreAt.mono hB x v (fun a ha o w => keep a (by rw [List.set_cons_succ, Tre.foots]; exact List.mem_append_left _ ha) o w) q1, z2 n B' H' hB z fun a ha => keep a (by rw [List.set_cons_succ, Tre.foots]; exact List.mem_append_right _ ha)⟩⟩
end
section
variable {K : PySem.W.Frag} {g : G} {σ : L2.St} {vs : List V} {H : Hp} {ρ : Rho} {cs : List C} {i : Nat}
end
/-! ### calls: every own slot, part or new object among the arguments is the callee's -/
def conv (n : Nat) : List C → List C → List C
  | .sub _ _ a :: cs, .own _ o :: as => .own (n + a) o :: conv n cs as
  | _ :: cs, a :: as => a :: conv n cs as
  | _, _ => []
inductive Conv : C → C → Prop
  | pk (i : Nat) (t : Nat) (o : OD) : Conv (.pk i) (.own t o)
  | sub (i : Nat) (p : List Nat) (a : Addr) (m : Tre) : Conv (.sub i p a) (.own 0 (.tre m))
  | same (c : C) (h1 : ∀ i, c ≠ .pk i) (h2 : ∀ i p a, c ≠ .sub i p a) : Conv c c
inductive Convs : List C → List C → Prop
  | nil : Convs [] []
  | cons {c a : C} {cs as : List C} : Conv c a → Convs cs as → Convs (c :: cs) (a :: as)
theorem Convs.len : ∀ {cs as : List C}, Convs cs as → cs.length = as.length
  | _, _, .nil => rfl
  | _, _, .cons _ h => by rw [List.length_cons, List.length_cons, Convs.len h]
theorem Convs.isLn : ∀ {cs as : List C} {n : Nat}, Convs cs as → (conv n cs as).any C.isLn = cs.any C.isLn
  | _, _, n, .nil => rfl
  | _, _, n, .cons (c := c) (a := a) (cs := cs) (as := as) q h => by
    have ih := Convs.isLn (n := n) h
    cases q with
    | pk i t o => show ((C.own t o).isLn || (conv n cs as).any C.isLn) = ((C.pk i).isLn || _); rw [ih]
    | sub i p a m => show ((C.own (n + a) (.tre m)).isLn || (conv n cs as).any C.isLn) = ((C.sub i p a).isLn || _); rw [ih]
    | same c h1 h2 =>
      have e : conv n (c :: cs) (c :: as) = c :: conv n cs as := by
        cases c with
        | sub i p a => exact absurd rfl (h2 i p a)
        | _ => rfl
      rw [e, List.any_cons, List.any_cons, ih]
section
variable {K : PySem.W.Frag} {g : G} {W : WX} {σ : L2.St} {vs : List V} {H : Hp} {ρ : Rho} {cs : List C} {i : Nat}
end
section
variable {K : PySem.W.Frag} {g : G} {W : WX} {σ : L2.St} {vs : List V} {H : Hp} {ρ : Rho} {cs : List C} {i : Nat}
end
section
variable {X : Cx} {g : G} {W : WX} {CX : CXT} {k : Nat} {f : Addr} {fd : FuncData} {ps : List Str} {S : SpD} {E : XK} {x : Str} {p pos : Pos} {e : Expr} {es : List Expr} {wa : WA}
end
end DL
namespace DL
end DL

set_option Elab.async false
set_option linter.all false
set_option maxRecDepth 100000
set_option maxHeartbeats 4000000
/-! DLPlain: plain tuples: tuple(xs) of a list, dict(t); sorted(f(..).items()) -/
namespace DL
open PySem PySem.Spec PyProof.Rows L2
section
variable {X : Cx}
end
section
variable {X : Cx} {g : G} {W : WX} {e : Expr} {es : List Expr} {wa : WA} {we : WE} {p pos : Pos}
end
/-! ### dict(t), t a plain tuple of pairs -/
section
variable {K : PySem.W.Frag} {g : G} {σ : L2.St} {vs : List V} {H : Hp} {ρ : Rho} {cs : List C}
end
section
variable {X : Cx} {g : G} {W : WX} {e : Expr} {we : WE} {i : Nat} {x : Str} {p p2 apos cpos pos : Pos}
end
/-! ### calls that keep plain tuples plain; new lists frozen -/
section
variable {X : Cx} {g : G} {W : WX} {k : Nat} {S : SpD} {x : Str} {p pos : Pos} {e : Expr} {es : List Expr} {wa : WA} {we : WE}
end
end DL

set_option Elab.async false
set_option linter.all false
set_option maxRecDepth 100000
set_option maxHeartbeats 4000000
/-! CFCb: nights counted: the promises -/
namespace CFCb
open PySem PySem.Spec PyProof.Rows L2 DL CFH CFWd CFLo CFCn
end CFCb

set_option Elab.async false
set_option linter.all false
set_option maxRecDepth 100000
set_option maxHeartbeats 4000000
/-! CFRo: one round of layers, minutes by hands -/
namespace CFRo
open PySem PySem.Spec PyProof.Rows L2 DL CFH CFCl CFRu CFWd CFBk CFTu CFTd CFPl CFRa CFRb CFSp CFEd CFRh CFNn CFLo CFLc CFFr CFCn
/-! ### residues -/
/-! ### the rows that the program gathers -/
end CFRo

set_option Elab.async false
set_option linter.all false
set_option maxRecDepth 100000
set_option maxHeartbeats 4000000
/-! CFFw: drawn layers have few lots; what rows of counts add up to -/
namespace CFFw
open PySem PySem.Spec PyProof.Rows L2 DL CFH CFCl CFRu CFWd CFBk CFTu CFTd CFPl CFRa CFRb CFSp CFEd CFRh CFNn CFLo CFLc CFFr CFCn CFRo CFLs
/-! ### the sum of rows of counts -/
end CFFw

set_option Elab.async false
set_option linter.all false
set_option maxRecDepth 100000
set_option maxHeartbeats 4000000
/-! CFSv: minutes served, by hands -/
namespace CFSv
open PySem PySem.Spec PyProof.Rows L2 DL CFH CFCl CFRu CFWd CFBk CFTu CFTd CFPl CFRa CFRb CFSp CFEd CFRh CFNn CFLo CFLc CFFr CFCn CFRo CFFw
/-! ### days -/
/-! ### moments of a lot -/
/-! ### the windows of a span -/
def inS (sp : List (Int × Int)) (m : Int) : Int := (sp.map fun s => bI (decide (s.1 ≤ m ∧ m < s.2))).sum
/-! ### lots and windows -/
/-! ### served -/
end CFSv

set_option Elab.async false
set_option linter.all false
set_option maxRecDepth 100000
set_option maxHeartbeats 4000000
/-! CFBo: a book drawn, as k57 to k62 draw it -/
namespace CFBo
open PySem PySem.Spec PyProof.Rows L2 DL CFH CFCl CFRu CFWd CFBk CFCg CFLy CFTd CFLa
def menus : List (List Int) := [[1, 2, 3, 4, 6, 12], [7], [1, 2], [2, 5, 10], [3, 9]]
structure BoOk (ws : List Str) (mj mc : Int) (b : Bk) : Prop where
  jo : JOk b.js
  jl : (b.js.length : Int) ≤ mj
  ls : ∀ l ∈ b.ls, LyrOk l
  l3 : b.ls.length ≤ 3
  tn : ∀ l ∈ b.ls, l.turns.length * b.ls.length ≤ 6
  dn : ∃ m ∈ menus, ∀ l ∈ b.ls, l.days ∈ m
  lh : ∀ l ∈ b.ls, ∀ t ∈ l.turns, t.2.2 ∈ ws
  cs : ∀ c ∈ b.cs, ChgOk c
  cl : (b.cs.length : Int) ≤ mc
  ch : ∀ c ∈ b.cs, c.Hands (· ∈ ws)
theorem BoOk.wk {ws : List Str} {mj mc : Int} {b : Bk} (h : BoOk ws mj mc b) (hm : mc ≤ 200) : BkW b := ⟨by have := h.jo.2.1; omega, h.ls, by have := h.l3; omega, h.cs, by have := h.cl; omega⟩
end CFBo

set_option Elab.async false
set_option linter.all false
set_option maxRecDepth 100000
set_option maxHeartbeats 4000000
/-! CFFb: drawn books have few lots; what served tells of them -/
namespace CFFb
open PySem PySem.Spec PyProof.Rows L2 DL CFH CFCl CFRu CFWd CFBk CFTu CFTd CFPl CFRa CFRb CFSp CFEd CFRh CFNn CFLo CFLc CFFr CFCn CFRo CFFw CFSv
/-! ### served over the whole day -/
end CFFb

set_option Elab.async false
set_option linter.all false
set_option maxRecDepth 100000
set_option maxHeartbeats 4000000
/-! DL, at the machine's level: set(list of texts), its length, and sorted of it -/
namespace DLS
open PySem PySem.Spec PyProof.Rows L2 DL PySem.Froz
section
variable {P : Program} {w : World} {A : Around} {E : Value → Shared → Prop} {s : Shared}
def SetT (P : Program) (w : World) (h : Heap) (a : Addr) (l : List Str) : Prop :=
  ∃ (es : Array (Int × Value)) (ep : Nat) (t : SetTable), h.get? a = some (sObj "set" (es, ep, t)) ∧ TxOk P w (es, ep, t) l ∧ l.Nodup ∧ (∀ e ∈ es.toList, ∃ u, e.2 = Value.str (txS e.2) u) ∧ (es.toList.map fun e => txS e.2).Perm l ∧
    Ris t.place.toList ∧ (w.params.followText "set-order" = true ∨ t.led = true)
theorem SetT.at {h h' : Heap} {a : Addr} {l : List Str} (R : SetT P w h a l) (k : ∀ o, h.get? a = some o → h'.get? a = some o) : SetT P w h' a l := by
  obtain ⟨es, ep, t, ho, r⟩ := R
  exact ⟨es, ep, t, k _ ho, r⟩
end
end DLS

set_option Elab.async false
set_option linter.all false
set_option maxRecDepth 100000
set_option maxHeartbeats 4000000
/-! DL: sorted(set(xs)) and len(set(xs)), xs a list of texts -/
namespace DL
open PySem PySem.Spec PyProof.Rows L2
section
variable {X : Cx} {g : G} {W : WX} {e : Expr} {te : TE} {we : WE} {p p2 q pos : Pos}
end
end DL

set_option Elab.async false
set_option linter.all false
set_option maxRecDepth 100000
set_option maxHeartbeats 4000000
/-! DLLck: for k in d, d an own dict of texts or numbers: locked while the loop runs -/
namespace DL
open PySem PySem.Spec PyProof.Rows L2
section
variable {K : PySem.W.Frag} {g : G} {σ : L2.St} {vs : List V} {H H' : Hp} {ρ : Rho} {cs : List C} {i t : Nat}
theorem SR.lck {a : Addr} {ob : Obj} {ks : List (Key × V)} {kvs : List (Key × D)} (h : SR K g σ vs H ρ cs) (e : rget ρ i = .own t (.lck a ob ks kvs)) : σ[i]? = some (some (.ref a)) ∧ H a = some (.frz ob (.dK ks)) ∧ DpKV K (hide H (tot σ vs ρ cs ++ g.P0)) ks kvs := by
  obtain ⟨b, e1, _, ⟨e2, q1, q2⟩, _⟩ := h.own e
  subst e2
  exact ⟨e1, q1, q2⟩
end
/-! ### d[k] of a locked dict -/
section
variable {X : Cx} {g : G} {W : WX} {tg k : Expr} {body : List Stmt} {wk : WE} {wg : WG} {wb : WS} {T : List Nat} {i : Nat} {x : Str} {p pos : Pos}
end
/-! ### {k: v} -/
section
variable {X : Cx} {g : G} {W : WX} {k v : Expr} {wk wv : WE} {pos : Pos}
end
/-! ### d.update(a new dict) -/
section
variable {X : Cx} {g : G} {W : WX} {i : Nat} {e : Expr} {we : WE} {x : Str} {p apos pos : Pos}
end
end DL

set_option Elab.async false
set_option linter.all false
set_option maxRecDepth 100000
set_option maxHeartbeats 4000000
/-! CFSr: nights shared: what the program reckons, and the promises -/
namespace CFSr
open PySem PySem.Spec PyProof.Rows L2 DL CFH CFWd CFLo CFCn CFRo CFFb CFCb
abbrev Ns := List (List Str)
/-! ### what the program reckons -/
/-! ### plans -/
/-! ### the promises -/
/-! ### the dict of ways -/
end CFSr

set_option Elab.async false
set_option linter.all false
set_option maxRecDepth 100000
set_option maxHeartbeats 4000000
/-! DL: instances of own classes: fields, methods, made; nodes of trees read and changed. -/
namespace DL
open PySem PySem.Spec PyProof.Rows L2

/-! ### nodes -/
section
variable {K : PySem.W.Frag} {g : G} {σ : L2.St} {vs : List V} {H H' : Hp} {ρ : Rho} {cs : List C} {i : Nat}
end
/-! ### names of fields -/
/-! ### o.f -/
theorem TreAll.len {K : PySem.W.Frag} {B H : Hp} : ∀ {xs : List Tre} {vs : List V}, TreAll K B H xs vs → xs.length = vs.length
  | [], vs, h => by
    have e : vs = [] := h
    subst e; rfl
  | x :: xs, vs, h => by
    obtain ⟨v, ws, rfl, _, h2⟩ := h
    rw [List.length_cons, List.length_cons, TreAll.len h2]
theorem TreAll.at_ {K : PySem.W.Frag} {B H : Hp} {xs : List Tre} {vs : List V} {n : Nat} {m : Tre} (h : TreAll K B H xs vs) (e : xs[n]? = some m) : ∃ u, vs[n]? = some u ∧ TreAt K B H m u := by
  obtain ⟨u, a, b, _⟩ := all_set h e
  exact ⟨u, a, b⟩
section
variable {X : Cx} {g : G} {W : WX} {o e : Expr} {es : List Expr} {we wo : WE} {wa : WA} {CLS f : Str} {NS : List Str} {n : Nat} {pos pos' apos : Pos}
/-! ### o[e] of a list or tuple node -/
end
/-! ### what is stored in a tree -/
section
variable {K : PySem.W.Frag} {g : G} {σ : L2.St} {vs : List V} {B B' H H' : Hp} {ρ : Rho} {cs : List C} {i : Nat}
end
/-! ### o.f = e -/
section
variable {X : Cx} {g : G} {W : WX} {o e : Expr} {es : List Expr} {we wo : WE} {wa : WA} {CLS f : Str} {NS : List Str} {n : Nat} {pos pos' apos : Pos}
end
/-! ### o.append(e), o.pop() of a list node -/
section
variable {X : Cx} {g : G} {W : WX} {o e : Expr} {es : List Expr} {we wo : WE} {wa : WA} {CLS f : Str} {NS : List Str} {n : Nat} {pos pos' apos : Pos}
end
/-! ### methods -/
section
variable {X : Cx} {CX : CXT} {k : Nat} {f C : Addr} {fd : FuncData} {ps : List Str} {sp : Sp} {E : L2.St → XK} {x m : Str} {p pos apos : Pos} {e o : Expr} {es : List Expr} {ta : TE} {t : TA}
end
section
variable {X : Cx} {g : G} {W : WX} {k : Nat} {S : SpD} {o e : Expr} {es : List Expr} {we wo : WE} {wa : WA} {CLS m : Str} {NS : List Str} {pos pos' apos : Pos}
end
/-! ### a new instance -/
section
variable {K : PySem.W.Frag} {g : G} {W : WX} {σ : L2.St} {vs : List V} {H H' : Hp} {ρ : Rho} {cs : List C} {i : Nat}
end
section
variable {X : Cx} {g : G} {W : WX} {k : Nat} {S : SpD} {x : Str} {p : Pos} {o e : Expr} {es : List Expr} {we wo : WE} {wa : WA} {CLS m : Str} {NS : List Str} {pos pos' apos : Pos}
end
end DL

set_option Elab.async false
set_option linter.all false
set_option maxRecDepth 100000
set_option maxHeartbeats 4000000
/-! DL: lists of data that are nodes: compared, walked. -/
namespace DL
open PySem PySem.Spec PyProof.Rows L2
/-! ### == of a list node -/
section
variable {X : Cx} {g : G} {W : WX} {o e : Expr} {we wo : WE} {pos : Pos}
end
/-! ### a list node walked; it stays as it is -/
section
variable {K : PySem.W.Frag} {g : G} {σ : L2.St} {vs : List V} {H H' : Hp} {ρ : Rho} {cs : List C} {i : Nat}
end
section
variable {X : Cx} {g : G} {W : WX} {tg o : Expr} {body : List Stmt} {wo : WE} {wg : WG} {wb : WS} {T : List Nat} {pos : Pos}
end
/-! ### a comprehension over a list node -/
section
variable {K : PySem.W.Frag} {g : G} {W : WX} {T : List Nat} {t0 : TE} {wo : WE} {wg : WG} {wt : WT} {we : WE}
end
section
variable {X : Cx} {g : G} {W : WX} {elt tg o : Expr} {ifs : List Expr} {scope : Scope} {own : List (Str × Nat)} {pos p : Pos} {wg : WG} {wt : WT} {we wo : WE}
end
end DL

set_option Elab.async false
set_option linter.all false
set_option maxRecDepth 100000
set_option maxHeartbeats 4000000
/-! CFKp: books judged, keepers -/
namespace CFKp
open PySem PySem.Spec PyProof.Rows L2 DL CFH CFCl CFRu CFWd CFBk CFIs CFIj CFIc
/-! ### books are books -/
theorem sp_get {b e : D} (h : isSp b e = true) : ∃ (x : Int) (o : Option Int), b = .int x ∧ e = optD o ∧ 0 ≤ x ∧ x < big ∧ ∀ y, o = some y → x < y ∧ y < big := by
  cases hb : isMo b with
  | false => rw [sp_no hb] at h; cases h
  | true =>
    obtain ⟨x, rfl, x0, x1⟩ := isMo_get hb
    by_cases he : e = .none
    · exact ⟨x, none, rfl, he, x0, x1, fun y z => nomatch z⟩
    · cases hm : isMo e with
      | false => rw [sp_noE hm he] at h; cases h
      | true =>
        obtain ⟨y, rfl, y0, y1⟩ := isMo_get hm
        rw [sp_at hb hm] at h
        exact ⟨x, some y, rfl, rfl, x0, x1, fun z e => by cases e; exact ⟨of_decide_eq_true h, y1⟩⟩
theorem sig_of : ∀ c : Nat, DL.inS ⟨#[c]⟩ SIG = true → c ∈ signs.cps.toList := by
  intro c h
  have e : SIG = SX.S signs.cps.toList := by decide +kernel
  rw [e] at h
  have h2 := (SX.in_one signs.cps.toList c).symm.trans h
  exact of_decide_eq_true h2
theorem wd_get {d : D} (h : isWd d = true) : ∃ x, d = .str x ∧ WordOk x := by
  cases d with
  | str x =>
    have h : (decide (1 ≤ x.length ∧ x.length ≤ 8) && (strD x).all sgOk) = true := h
    rw [Bool.and_eq_true] at h
    have l := of_decide_eq_true h.1
    exact ⟨x, rfl, l.1, l.2, fun c hc => sig_of c (List.all_eq_true.mp h.2 (.str ⟨#[c]⟩) (by unfold strD; exact List.mem_map.mpr ⟨c, hc, rfl⟩))⟩
  | _ => cases h
theorem ch_get {d : D} (h : isCh d = true) : ∃ c, d = chgD c ∧ ChgOk c := by
  unfold isCh at h
  split at h
  · rename_i k a b e
    rw [Bool.and_eq_true, Bool.and_eq_true, Bool.or_eq_true] at h
    obtain ⟨hk, hw, hs⟩ := h
    obtain ⟨w, rfl, wo⟩ := wd_get hw
    obtain ⟨x, o, rfl, rfl, x0, x1, xe⟩ := sp_get hs
    rcases hk with hk | hk
    · exact ⟨.away w x o, by rw [of_decide_eq_true hk]; rfl, wo, x0, x1, xe⟩
    · exact ⟨.on w x o, by rw [of_decide_eq_true hk]; rfl, wo, x0, x1, xe⟩
  · rename_i k a o b e
    rw [Bool.and_eq_true, Bool.and_eq_true, Bool.and_eq_true, Bool.and_eq_true] at h
    obtain ⟨hk, ho, hv, hw, hs⟩ := h
    obtain ⟨w, rfl, wo⟩ := wd_get hw
    obtain ⟨v, rfl, vo⟩ := wd_get ho
    obtain ⟨x, o', rfl, rfl, x0, x1, xe⟩ := sp_get hs
    rw [CFTd.eqv_str] at hv
    have ne : w ≠ v := fun z => by rw [decide_eq_true z] at hv; cases hv
    exact ⟨.stand w v x o', by rw [of_decide_eq_true hk]; rfl, ⟨wo, vo, ne⟩, x0, x1, xe⟩
  · cases h
end CFKp

set_option Elab.async false
set_option linter.all false
set_option maxRecDepth 100000
set_option maxHeartbeats 4000000
/-! k18: changes looked at -/
namespace K18
open PySem PySem.Spec PyProof.Rows L2 DL CFH CFCl CFRu CFWd CFBk CFIs CFIj CFIc CFKp
theorem foldl_toList (sep : Str) (hs : sep.cps.toList = []) : ∀ (r : List Str) (acc : Array Nat), (r.foldl (fun acc p => acc ++ sep.cps ++ p.cps) acc).toList = acc.toList ++ (r.map fun p => p.cps.toList).flatten
  | [], acc => by simp
  | p :: r, acc => by
    rw [List.foldl_cons, foldl_toList sep hs r, List.map_cons, List.flatten_cons, Array.toList_append, Array.toList_append, hs, List.append_nil, List.append_assoc]
theorem join_sg : ∀ cs : List Nat, Txt.join ("" : Str) (cs.map fun c => (⟨#[c]⟩ : Str)) = T cs := by
  intro cs
  have h0 : ("" : Str).cps.toList = [] := by decide +kernel
  have key : (Txt.join ("" : Str) (cs.map fun c => (⟨#[c]⟩ : Str))).cps.toList = cs := by
    rw [TL.join_eq]
    cases cs with
    | nil => decide +kernel
    | cons c cs =>
      rw [List.map_cons, ← StrLaws.glued_cons]
      show Array.toList (List.foldl _ _ _) = _
      rw [foldl_toList _ h0, List.map_map]
      show [c] ++ _ = _
      rw [show (cs.map ((fun p : Str => p.cps.toList) ∘ fun c => (⟨#[c]⟩ : Str))) = cs.map fun c => [c] from rfl]
      rw [List.singleton_append]
      congr 1
      clear h0
      induction cs with
      | nil => rfl
      | cons d cs ih => rw [List.map_cons, List.flatten_cons, ih]; rfl
  rw [T_of (Txt.join _ _), key]
theorem wd_sg {cs : List Nat} (h1 : 1 ≤ cs.length) (h8 : cs.length ≤ 8) (hs : ∀ c ∈ cs, c ∈ signs.cps.toList) : WordOk (T cs) :=
  ⟨by rw [T_len]; exact h1, by rw [T_len]; exact h8, by rw [T_list]; exact hs⟩
/-! ### parts -/
theorem can_all {x : Str} : PyData.canLay0 (.str x) = true ↔ ∀ c ∈ x.cps.toList, c < 0x110000 := by
  show PyData.strOk x = true ↔ _
  unfold PyData.strOk
  rw [← Array.all_toList, List.all_eq_true]
  exact ⟨fun h c hc => of_decide_eq_true (h c hc), fun h c hc => decide_eq_true (h c hc)⟩
theorem can_app {a b : Str} (ha : PyData.canLay0 (.str a) = true) (hb : PyData.canLay0 (.str b) = true) : PyData.canLay0 (.str (a ++ b)) = true := by
  rw [can_all] at ha hb ⊢
  intro c hc
  have e : (a ++ b).cps.toList = a.cps.toList ++ b.cps.toList := by show (a.cps ++ b.cps).toList = _; rw [Array.toList_append]
  rw [e] at hc
  exact (List.mem_append.mp hc).elim (ha c) (hb c)
theorem can_cut {a : Str} {lo hi : Option Int} (ha : PyData.canLay0 (.str a) = true) : PyData.canLay0 (.str (cutS a lo hi)) = true := by
  rw [can_all] at ha ⊢
  intro c hc
  refine ha c ?_
  have : c ∈ (List.toArray _ : Array Nat).toList := hc
  rw [List.toList_toArray] at this
  exact List.mem_of_mem_drop (List.mem_of_mem_take this)
theorem app_len {a b : Str} : (a ++ b).length = a.length + b.length := by
  show (a.cps ++ b.cps).size = _
  rw [Array.size_append]
  rfl
structure Prt (m : Nat) (d : D) : Prop where
  sm : sml d = true
  ly : d = .dict [] ∨ Lay 5 d
  st : ∀ s, d = .str s → s.length ≤ 12 + m
theorem Prt.up {m k : Nat} {d : D} (h : Prt m d) (l : m ≤ k) : Prt k d := ⟨h.sm, h.ly, fun s e => by have := h.st s e; omega⟩
theorem Prt.str {m : Nat} {s : Str} (c : PyData.canLay0 (.str s) = true) (l : s.length ≤ 12 + m) (hm : m ≤ 100) : Prt m (.str s) :=
  ⟨sml_of (by omega), .inr (Lay.str c), fun z e => by cases e; exact l⟩
theorem Prt.int {m : Nat} {i : Int} : Prt m (.int i) := ⟨rfl, .inr ⟨rfl, by simp [PyData.depth]⟩, fun s e => by cases e⟩
theorem Prt.non {m : Nat} : Prt m .none := ⟨rfl, .inr ⟨rfl, by simp [PyData.depth]⟩, fun s e => by cases e⟩
theorem Prt.bl {m : Nat} {b : Bool} : Prt m (.bool b) := ⟨rfl, .inr ⟨rfl, by simp [PyData.depth]⟩, fun s e => by cases e⟩
theorem Prt.dic {m : Nat} : Prt m (.dict []) := ⟨rfl, .inl rfl, fun s e => by cases e⟩
theorem Prt.wd {m : Nat} {s : Str} (h : WordOk s) (hm : m ≤ 100) : Prt m (.str s) := .str (CFTd.word_ok h) (by have := h.l8; omega) hm
theorem Prt.word {m : Nat} {s : Str} (h : Prt m (.str s)) : PyData.canLay0 (.str s) = true := h.ly.elim (fun e => by cases e) fun l => l.ok
def Thg (d : D) : Prop := ∃ ds : List D, (d = .tuple ds ∨ d = .list ds) ∧ ∀ x ∈ ds, Prt 50 x
theorem Thg.sm {d : D} (h : Thg d) : sml d = true := by
  obtain ⟨ds, rfl | rfl, h⟩ := h
  · exact sml_tup.mpr fun x hx => (h x hx).sm
  · exact sml_lst.mpr fun x hx => (h x hx).sm
theorem Thg.ly {d : D} (h : Thg d) : LayD d := by
  obtain ⟨es, e | e, h⟩ := h
  · intro ds e2 x hx
    rw [e] at e2
    cases e2
    exact (h x hx).ly.imp id fun z => z.up (by decide)
  · intro ds e2
    rw [e] at e2
    cases e2
def Gd (ds : List D) : Prop := ds.length ≤ 5 ∧ 4 ≤ ds.length ∧ (∀ x ∈ ds, Prt 0 x) ∧ lfree.lfreeAll ds = true
theorem Gd.thg {ds : List D} (h : Gd ds) : Thg (.tuple ds) := ⟨ds, .inl rfl, fun x hx => (h.2.2.1 x hx).up (by decide)⟩
theorem lfa_iff : ∀ {ds : List D}, lfree.lfreeAll ds = true ↔ ∀ d ∈ ds, lfree d = true
  | [] => ⟨fun _ _ h => (by cases h), fun _ => rfl⟩
  | d :: ds => by
    show (lfree d && lfree.lfreeAll ds) = true ↔ _
    rw [Bool.and_eq_true, lfa_iff]
    constructor
    · rintro ⟨a, b⟩ x hx
      rcases List.mem_cons.mp hx with z | z
      · rw [z]; exact a
      · exact b x z
    · exact fun h => ⟨h d (.head _), fun x hx => h x (.tail _ hx)⟩
theorem lfa_cut {ds : List D} {lo hi : Option Int} (h : lfree.lfreeAll ds = true) : lfree.lfreeAll (DL.cutD ds lo hi) = true := lfa_iff.mpr fun d hd => lfa_iff.mp h d (List.mem_of_mem_drop (List.mem_of_mem_take hd))
theorem cut_mem {ds : List D} {lo hi : Option Int} {d : D} (h : d ∈ DL.cutD ds lo hi) : d ∈ ds := List.mem_of_mem_drop (List.mem_of_mem_take h)
theorem cut_lenD {ds : List D} {lo hi : Option Int} : (DL.cutD ds lo hi).length ≤ ds.length := by
  unfold DL.cutD
  rw [List.length_take, List.length_drop]
  omega
/-! ### promises -/
def S_law_word : SpD := fun as Q _ => ∃ (h : Hd) (n : Nat), as = [hc h] ∧ h.ok n ∧ n ≤ 800000 ∧ ∀ (h' : Hd) (w : Str), h'.ok (n + 9) → WordOk w → Q (.v (.str w)) [hc h']
def S_law_good : SpD := fun as Q _ => ∃ (h : Hd) (n : Nat), as = [hc h] ∧ h.ok n ∧ n ≤ 700000 ∧ ∀ (h' : Hd) (ds : List D), h'.ok (n + 60) → Gd ds → Q (.v (.tuple ds)) [hc h']
def S_law_odd : SpD := fun as Q _ => ∃ (h : Hd) (n m : Nat) (d : D), as = [hc h, .v d] ∧ h.ok n ∧ n ≤ 700000 ∧ Prt m d ∧ m ≤ 40 ∧ ∀ (h' : Hd) (e : D), h'.ok (n + 9) → Prt (m + 1) e → Q (.v e) [hc h', .v d]
def S_law_spoilt : SpD := fun as Q _ => ∃ (h : Hd) (n : Nat) (ds : List D), as = [hc h, .v (.tuple ds)] ∧ h.ok n ∧ n ≤ 600000 ∧ Gd ds ∧ (∀ (h' : Hd) (es : List D), h'.ok (n + 60) → (∀ x ∈ es, Prt 50 x) → Q (.v (.tuple es)) [hc h', .v (.tuple ds)]) ∧
  ∀ (h' : Hd) (es : List D), h'.ok (n + 60) → (∀ x ∈ es, Prt 50 x) → Q (.own 0 (.lst es)) [hc h', .v (.tuple ds)]
def S_law_is_whole : SpD := fun as Q _ => ∃ d : D, as = [.v d] ∧ Q (.v (.bool (isWh d))) as
def S_law_is_word : SpD := fun as Q _ => ∃ d : D, as = [.v d] ∧ sml d = true ∧ Q (.v (.bool (isWd d))) as
def S_law_is_so : SpD := fun as Q _ => ∃ d : D, as = [.v d] ∧ sml d = true ∧ LayD d ∧ Q (.v (.bool (isCh d))) as
def S_law_covered : SpD := fun as Q _ => ∃ (c : Chg) (t : Int), as = [.v (chgD c), .v (.int t)] ∧ Q (.v (.bool true)) as
def S_law : SpD := fun as Q _ => ∃ ns : List Int, as = [.v (.list (ns.map PyData.int))] ∧ ns.length ≤ 63 ∧ ∀ rs, Q (.v (.bool true)) rs
theorem law_in : ∀ ns : List Int, ns.length ≤ 63 → S_law [.v (.list (ns.map PyData.int))] (fun c _ => c = .v (.bool true)) (fun _ _ => False) := fun ns h => ⟨ns, rfl, h, fun _ => rfl⟩
theorem len_law_word : ∀ as QD ED, S_law_word as QD ED → as.length = 1 := by
  rintro as QD ED ⟨_, _, rfl, _⟩
  rfl
theorem len_law_good : ∀ as QD ED, S_law_good as QD ED → as.length = 1 := by
  rintro as QD ED ⟨_, _, rfl, _⟩
  rfl
theorem len_law_odd : ∀ as QD ED, S_law_odd as QD ED → as.length = 2 := by
  rintro as QD ED ⟨_, _, _, _, rfl, _⟩
  rfl
theorem len_law_spoilt : ∀ as QD ED, S_law_spoilt as QD ED → as.length = 2 := by
  rintro as QD ED ⟨_, _, _, rfl, _⟩
  rfl
theorem len_law_is_whole : ∀ as QD ED, S_law_is_whole as QD ED → as.length = 1 := by
  rintro as QD ED ⟨_, rfl, _⟩
  rfl
theorem len_law_is_word : ∀ as QD ED, S_law_is_word as QD ED → as.length = 1 := by
  rintro as QD ED ⟨_, rfl, _⟩
  rfl
theorem len_law_is_so : ∀ as QD ED, S_law_is_so as QD ED → as.length = 1 := by
  rintro as QD ED ⟨_, rfl, _⟩
  rfl
theorem len_law_covered : ∀ as QD ED, S_law_covered as QD ED → as.length = 2 := by
  rintro as QD ED ⟨_, _, rfl, _⟩
  rfl
theorem len_law : ∀ as QD ED, S_law as QD ED → as.length = 1 := by
  rintro as QD ED ⟨_, rfl, _⟩
  rfl
end K18

set_option Elab.async false
set_option linter.all false
set_option maxRecDepth 100000
set_option maxHeartbeats 4000000

/-! generated: the readings of the defs of k18 -/
namespace K18
open PySem PySem.Spec PyProof.Rows L2 DL CFIs CFIj CFIc CFTd CFH CFCh
def L_law_word : Nat → Bool := fun j => [0].contains j
def w_law_word : WS := wSeq (wSetF 1 (wC (.str "abcdefghijklmnopqrstuvwxyz0123456789")))
    (wRet (wM1 oJoin (wC (.str "")) (wLcB [3] (wIR1 (wCons (wB oAdd (wC (.int 1)) (wCall CFH.S_law_take (wCons (wPk 0) (wCons (wC (.int 8)) wNil)))) wNil)) (wgName 3) wYes (wB oIx (wVar 1) (wCall CFH.S_law_take (wCons (wPk 0) (wCons (wC (.int 36)) wNil)))))))
def n_law_word : Nat := 4
def L_law_good : Nat → Bool := fun j => [0].contains j
def w_law_good : WS := wSeq (wSetF 1 (wCall CFCh.S_law_moment (wCons (wPk 0) wNil)))
    (wSeq (wSetF 2 (wCall CFH.S_law_take (wCons (wPk 0) (wCons (wC (.int 6)) wNil))))
    (wSeq (wSetF 3 (wB oAdd (wB oAdd (wVar 1) (wC (.int 1))) (wCall CFH.S_law_take (wCons (wPk 0) (wCons (wC (.int 3000)) wNil)))))
    (wSeq (wIf (wTst (wB oEq (wVar 2) (wC (.int 0))))
    (wSetF 3 (wC .none))
    (wIf (wTst (wB oEq (wVar 2) (wC (.int 1))))
    (wSetF 3 (wB oSub (wB oAdd (wVar 1) (wCall CFH.S_law_take (wCons (wPk 0) (wCons (wC (.int 3)) wNil)))) (wC (.int 1))))
    (wIf (wTst (wB oEq (wVar 2) (wC (.int 2))))
    (wSetF 3 (wB oSub (wB oPow (wC (.int 10)) (wC (.int 60))) (wCall CFH.S_law_take (wCons (wPk 0) (wCons (wC (.int 2)) wNil)))))
    wNext)))
    (wSeq (wSetF 4 (wCall CFH.S_law_pick (wCons (wPk 0) (wCons (wL oLst (wCons (wC (.str "away")) (wCons (wC (.str "for")) (wCons (wC (.str "on")) wNil)))) wNil))))
    (wSeq (wIf (wTst (wB oEq (wVar 4) (wC (.str "for"))))
    (wSeq (wSetF 5 (wCall S_law_word (wCons (wPk 0) wNil)))
    (wSeq (wSetF 6 (wCall S_law_word (wCons (wPk 0) wNil)))
    (wSeq (wIf (wTst (wB oEq (wCall CFH.S_law_take (wCons (wPk 0) (wCons (wC (.int 6)) wNil))) (wC (.int 0))))
    (wSetF 6 (wVar 5))
    wNext)
    (wRet (wL oTup (wCons (wVar 4) (wCons (wVar 5) (wCons (wVar 6) (wCons (wVar 1) (wCons (wVar 3) wNil))))))))))
    wNext)
    (wRet (wL oTup (wCons (wVar 4) (wCons (wCall S_law_word (wCons (wPk 0) wNil)) (wCons (wVar 1) (wCons (wVar 3) wNil)))))))))))
def n_law_good : Nat := 7
def L_law_odd : Nat → Bool := fun j => [0].contains j
def w_law_odd : WS := wSeq (wSetF 2 (wCall CFH.S_law_take (wCons (wPk 0) (wCons (wC (.int 6)) wNil))))
    (wSeq (wIf (wTst (wB oEq (wVar 2) (wC (.int 0))))
    (wRet (wCall CFH.S_law_pick (wCons (wPk 0) (wCons (wL oLst (wCons (wC (.bool true)) (wCons (wC (.bool false)) (wCons (wC .none) (wCons (wU oNeg (wC (.int 1))) (wCons (wC (.int 0)) (wCons (wB oPow (wC (.int 10)) (wC (.int 60))) (wCons (wB oSub (wB oPow (wC (.int 10)) (wC (.int 60))) (wC (.int 1))) wNil)))))))) wNil))))
    wNext)
    (wSeq (wIf (wTst (wB oEq (wVar 2) (wC (.int 1))))
    (wRet (wCall CFH.S_law_pick (wCons (wPk 0) (wCons (wL oLst (wCons (wC (.str "")) (wCons (wC (.str "a")) (wCons (wC (.str "abcdefghi")) (wCons (wC (.str "abcdefgh")) (wCons (wC (.str "A")) (wCons (wC (.str "a b")) (wCons (wC (.str "a_")) (wCons (wC (.str "away")) (wCons (wC (.str "for")) (wCons (wC (.str "on")) (wCons (wC (.str "off")) (wCons (wC (.str " a")) wNil))))))))))))) wNil))))
    wNext)
    (wSeq (wIf (wTst (wB oEq (wVar 2) (wC (.int 2))))
    (wRet (wCall CFH.S_law_pick (wCons (wPk 0) (wCons (wL oLst (wCons (wL oTup wNil) (wCons (wL oTup (wCons (wC (.str "a")) wNil)) (wCons (wL oLst (wCons (wC (.str "a")) wNil)) (wCons (wL oTup (wCons (wC (.int 1)) wNil)) (wCons (wL oLst wNil) (wCons wDat0 wNil))))))) wNil))))
    wNext)
    (wSeq (wIf (wTst (wB oEq (wVar 2) (wC (.int 3))))
    (wRet (wL oTup (wCons (wC (.str "away")) (wCons (wC (.str "a")) (wCons (wC (.int 1)) (wCons (wC (.int 2)) wNil))))))
    wNext)
    (wSeq (wIf (wTst (wU (oIsi "str") (wVar 1)))
    (wSeq (wSetF 3 (wCall CFH.S_law_take (wCons (wPk 0) (wCons (wB oPlusB (wL oLen (wCons (wVar 1) wNil)) (wC (.int 1))) wNil))))
    (wRet (wB oPlusB (wB oPlusB (wSl (wVar 1) wNoPart (wPart (wVar 3))) (wCall CFH.S_law_pick (wCons (wPk 0) (wCons (wL oLst (wCons (wC (.str "-")) (wCons (wC (.str "A")) (wCons (wC (.str " ")) (wCons (wC (.str "x")) (wCons (wC (.str "7")) (wCons (wC (.str "Z")) wNil))))))) wNil)))) (wSl (wVar 1) (wPart (wVar 3)) wNoPart))))
    wNext)
    (wSeq (wIf (wTst (wU (oIsi "int") (wVar 1)))
    (wRet (wB oPlusB (wVar 1) (wCall CFH.S_law_pick (wCons (wPk 0) (wCons (wL oLst (wCons (wC (.int 1)) (wCons (wU oNeg (wC (.int 1))) (wCons (wB oPow (wC (.int 10)) (wC (.int 60))) wNil)))) wNil)))))
    wNext)
    (wRet (wCall CFCh.S_law_moment (wCons (wPk 0) wNil)))))))))
def n_law_odd : Nat := 4
def L_law_spoilt : Nat → Bool := fun j => [0, 2].contains j
def w_law_spoilt : WS := wSeq (wSet 2 (wL oList (wCons (wVar 1) wNil)))
    (wSeq (wSetF 3 (wCall CFH.S_law_take (wCons (wPk 0) (wCons (wC (.int 8)) wNil))))
    (wSeq (wIf (wTst (wB oLt (wVar 3) (wC (.int 5))))
    (wFor (wIR1 (wCons (wB oAdd (wC (.int 1)) (wB oDiv (wVar 3) (wC (.int 4)))) wNil)) (wgName 4)
    (wSeq (wSetF 5 (wCall CFH.S_law_take (wCons (wPk 0) (wCons (wL oLen (wCons (wLn 2) wNil)) wNil))))
    (wSetIx 2 (wCall S_law_odd (wCons (wPk 0) (wCons (wOIx 2 (wVar 5)) wNil))) (wVar 5))))
    (wIf (wTst (wB oEq (wVar 3) (wC (.int 5))))
    (wSeq (wSetF 5 (wCall CFH.S_law_take (wCons (wPk 0) (wCons (wL oLen (wCons (wLn 2) wNil)) wNil))))
    (wSet 2 (wB oCatL (wSl (wLn 2) wNoPart (wPart (wVar 5))) (wSl (wLn 2) (wPart (wB oAdd (wVar 5) (wC (.int 1)))) wNoPart))))
    (wIf (wTst (wB oEq (wVar 3) (wC (.int 6))))
    (wSeq (wSetF 5 (wCall CFH.S_law_take (wCons (wPk 0) (wCons (wB oAdd (wL oLen (wCons (wLn 2) wNil)) (wC (.int 1))) wNil))))
    (wSet 2 (wB oCatL (wB oCatL (wSl (wLn 2) wNoPart (wPart (wVar 5))) (wL oLst (wCons (wCall S_law_odd (wCons (wPk 0) (wCons (wCall CFH.S_law_pick (wCons (wPk 0) (wCons (wLn 2) wNil))) wNil))) wNil))) (wSl (wLn 2) (wPart (wVar 5)) wNoPart))))
    (wRetO 2))))
    (wRet (wL oTuple (wCons (wFrz 2) wNil)))))
def n_law_spoilt : Nat := 6
def L_law_is_whole : Nat → Bool := fun j => ([] : List Nat).contains j
def w_law_is_whole : WS := wRet (wAndV (wU (oIsi "int") (wVar 0)) (wNotV (wU (oIsi "bool") (wVar 0))))
def n_law_is_whole : Nat := 1
def L_law_is_word : Nat → Bool := fun j => ([] : List Nat).contains j
def w_law_is_word : WS := wSeq (wIf (wOr (wNot (wTst (wU (oIsi "str") (wVar 0)))) (wOr (wTst (wB oLt (wL oLen (wCons (wVar 0) wNil)) (wC (.int 1)))) (wTst (wB oGt (wL oLen (wCons (wVar 0) wNil)) (wC (.int 8))))))
    (wRet (wC (.bool false)))
    wNext)
    (wSeq (wFor (wISeq (wVar 0)) (wgName 1)
    (wIf (wTst (wB oNotIn (wVar 1) (wC (.str "abcdefghijklmnopqrstuvwxyz0123456789"))))
    (wRet (wC (.bool false)))
    wNext))
    (wRet (wC (.bool true))))
def n_law_is_word : Nat := 2
def L_law_is_so : Nat → Bool := fun j => ([] : List Nat).contains j
def w_law_is_so : WS := wSeq (wIf (wOr (wNot (wTst (wU (oIsi "tuple") (wVar 0)))) (wTst (wB oNotIn (wL oLen (wCons (wVar 0) wNil)) (wL oTup (wCons (wC (.int 4)) (wCons (wC (.int 5)) wNil))))))
    (wRet (wC (.bool false)))
    wNext)
    (wSeq (wIf (wOr (wNot (wTst (wU (oIsi "str") (wB oIx (wVar 0) (wC (.int 0)))))) (wTst (wB oNotIn (wB oIx (wVar 0) (wC (.int 0))) (wL oTup (wCons (wC (.str "away")) (wCons (wC (.str "for")) (wCons (wC (.str "on")) wNil)))))))
    (wRet (wC (.bool false)))
    wNext)
    (wSeq (wIf (wTst (wB oNe (wL oLen (wCons (wVar 0) wNil)) (wB oAdd (wC (.int 4)) (wL oInt1 (wCons (wB oEq (wB oIx (wVar 0) (wC (.int 0))) (wC (.str "for"))) wNil)))))
    (wRet (wC (.bool false)))
    wNext)
    (wSeq (wIf (wNot (wTst (wL oAll (wCons (wLcB [4] (wISeq (wSl (wVar 0) (wPart (wC (.int 1))) (wPart (wU oNeg (wC (.int 2)))))) (wgName 4) wYes (wCall S_law_is_word (wCons (wVar 4) wNil))) wNil))))
    (wRet (wC (.bool false)))
    wNext)
    (wSeq (wIf (wAnd (wTst (wB oEq (wB oIx (wVar 0) (wC (.int 0))) (wC (.str "for")))) (wTst (wB oEq (wB oIx (wVar 0) (wC (.int 1))) (wB oIx (wVar 0) (wC (.int 2))))))
    (wRet (wC (.bool false)))
    wNext)
    (wSeq (wPar 1 2 (wCons (wB oIx (wVar 0) (wU oNeg (wC (.int 2)))) (wCons (wB oIx (wVar 0) (wU oNeg (wC (.int 1)))) wNil)))
    (wSeq (wIf (wOr (wNot (wTst (wCall S_law_is_whole (wCons (wVar 1) wNil)))) (wOr (wTst (wB oLt (wVar 1) (wC (.int 0)))) (wTst (wB oGe (wVar 1) (wB oPow (wC (.int 10)) (wC (.int 60)))))))
    (wRet (wC (.bool false)))
    wNext)
    (wSeq (wIf (wTst (wU oIsN (wVar 2)))
    (wRet (wC (.bool true)))
    wNext)
    (wRet (wAndV (wCall S_law_is_whole (wCons (wVar 2) wNil)) (wAndV (wB oLt (wVar 1) (wVar 2)) (wB oLt (wVar 2) (wB oPow (wC (.int 10)) (wC (.int 60))))))))))))))
def n_law_is_so : Nat := 5
def L_law_covered : Nat → Bool := fun j => ([] : List Nat).contains j
def w_law_covered : WS := wSeq (wSetF 2 (wCall CFTd.S_covers (wCons (wVar 0) (wCons (wVar 1) wNil))))
    (wSeq (wSetF 3 (wAndV (wB oGe (wVar 1) (wB oIx (wVar 0) (wU oNeg (wC (.int 2))))) (wOrV (wU oIsN (wB oIx (wVar 0) (wU oNeg (wC (.int 1))))) (wB oLt (wVar 1) (wB oIx (wVar 0) (wU oNeg (wC (.int 1))))))))
    (wRet (wAndV (wU (oIsi "bool") (wVar 2)) (wB oEq (wVar 2) (wVar 3)))))
def n_law_covered : Nat := 4
def L_law : Nat → Bool := fun j => [2, 6].contains j
def w_law : WS := wSeq (wFor (wIR1 (wCons (wL oMax2 (wCons (wC (.int 3)) (wCons (wL oMin2 (wCons (wC (.int 20)) (wCons (wL oLen (wCons (wVar 0) wNil)) wNil))) wNil))) wNil)) (wgName 1)
    (wSeq (wSet 2 (wCall CFH.S_law_hand (wCons (wVar 0) (wCons (wVar 1) wNil))))
    (wSeq (wSetF 3 (wCall S_law_good (wCons (wPk 2) wNil)))
    (wSeq (wForN (wIL (wL oLst (wCons (wVar 3) (wCons (wCall S_law_spoilt (wCons (wPk 2) (wCons (wVar 3) wNil))) wNil)))) (wgName 4)
    (wSeq (wSetF 5 (wCall CFIc.S_is_change (wCons (wVar 4) wNil)))
    (wIf (wOr (wNot (wTst (wU (oIsi "bool") (wVar 5)))) (wTst (wB oNe (wVar 5) (wCall S_law_is_so (wCons (wVar 4) wNil)))))
    (wRet (wC (.bool false)))
    wNext)))
    (wIf (wTst (wCall S_law_is_so (wCons (wVar 3) wNil)))
    (wSeq (wSet 6 (wL oLst (wCons (wC (.int 0)) (wCons (wB oIx (wVar 3) (wU oNeg (wC (.int 2)))) (wCons (wB oAdd (wB oIx (wVar 3) (wU oNeg (wC (.int 2)))) (wC (.int 1))) (wCons (wL oMax2 (wCons (wC (.int 0)) (wCons (wB oSub (wB oIx (wVar 3) (wU oNeg (wC (.int 2)))) (wC (.int 1))) wNil))) (wCons (wB oPow (wC (.int 10)) (wC (.int 61))) wNil)))))))
    (wSeq (wIf (wTst (wU oNotN (wB oIx (wVar 3) (wU oNeg (wC (.int 1))))))
    (wDrop (wExt 6 (wL oLst (wCons (wB oIx (wVar 3) (wU oNeg (wC (.int 1)))) (wCons (wB oSub (wB oIx (wVar 3) (wU oNeg (wC (.int 1)))) (wC (.int 1))) (wCons (wB oAdd (wB oIx (wVar 3) (wU oNeg (wC (.int 1)))) (wC (.int 1))) wNil))))))
    wNext)
    (wIf (wNot (wTst (wL oAll (wCons (wLcO 6 [8] (wgName 8) wYes (wCall S_law_covered (wCons (wVar 3) (wCons (wVar 8) wNil)))) wNil))))
    (wRet (wC (.bool false)))
    wNext)))
    wNext)))))
    (wRet (wC (.bool true)))
def n_law : Nat := 9
end K18

set_option Elab.async false
set_option linter.all false
set_option maxRecDepth 100000
set_option maxHeartbeats 4000000

/-! generated: readings shared by laws -/
namespace CFIs
open PySem PySem.Spec PyProof.Rows L2 DL CFWd
def L_is_whole : Nat → Bool := fun j => ([] : List Nat).contains j
def w_is_whole : WS := wRet (wAndV (wU (oIsi "int") (wVar 0)) (wNotV (wU (oIsi "bool") (wVar 0))))
def n_is_whole : Nat := 1
def L_is_word : Nat → Bool := fun j => ([] : List Nat).contains j
def w_is_word : WS := wSeq (wIf (wOr (wNot (wTst (wU (oIsi "str") (wVar 0)))) (wNot (wTst (wCh (oI fun i j => .bool ((fun i j => decide (i ≤ j)) i j)) (oI fun i j => .bool ((fun i j => decide (i ≤ j)) i j)) (wC (.int 1)) (wL oLen (wCons (wVar 0) wNil)) (wC (.int 8))))))
    (wRet (wC (.bool false)))
    wNext)
    (wRet (wL oAll (wCons (wLcB [2] (wISeq (wVar 0)) (wgName 2) wYes (wB oIn (wVar 2) (wC (.str "abcdefghijklmnopqrstuvwxyz0123456789")))) wNil)))
def n_is_word : Nat := 3
end CFIs

set_option Elab.async false
set_option linter.all false
set_option maxRecDepth 100000
set_option maxHeartbeats 4000000

/-! generated: readings shared by laws -/
namespace CFIj
open PySem PySem.Spec PyProof.Rows L2 DL CFIs
def L_is_moment : Nat → Bool := fun j => ([] : List Nat).contains j
def w_is_moment : WS := wRet (wAndV (wCall CFIs.S_is_whole (wCons (wVar 0) wNil)) (wCh (oI fun i j => .bool ((fun i j => decide (i ≤ j)) i j)) (oI fun i j => .bool ((fun i j => decide (i < j)) i j)) (wC (.int 0)) (wVar 0) (wC (.int 1000000000000000000000000000000000000000000000000000000000000))))
def n_is_moment : Nat := 1
end CFIj

set_option Elab.async false
set_option linter.all false
set_option maxRecDepth 100000
set_option maxHeartbeats 4000000

/-! generated: readings shared by laws -/
namespace CFIc
open PySem PySem.Spec PyProof.Rows L2 DL CFIs CFIj
def L_is_span : Nat → Bool := fun j => ([] : List Nat).contains j
def w_is_span : WS := wSeq (wIf (wNot (wTst (wCall CFIj.S_is_moment (wCons (wVar 0) wNil))))
    (wRet (wC (.bool false)))
    wNext)
    (wRet (wOrV (wU oIsN (wVar 1)) (wAndV (wCall CFIj.S_is_moment (wCons (wVar 1) wNil)) (wB oLt (wVar 0) (wVar 1)))))
def n_is_span : Nat := 2
def L_is_change : Nat → Bool := fun j => ([] : List Nat).contains j
def w_is_change : WS := wSeq (wIf (wOr (wNot (wTst (wU (oIsi "tuple") (wVar 0)))) (wOr (wNot (wTst (wCh (oI fun i j => .bool ((fun i j => decide (i ≤ j)) i j)) (oI fun i j => .bool ((fun i j => decide (i ≤ j)) i j)) (wC (.int 4)) (wL oLen (wCons (wVar 0) wNil)) (wC (.int 5))))) (wNot (wTst (wU (oIsi "str") (wB oIx (wVar 0) (wC (.int 0))))))))
    (wRet (wC (.bool false)))
    wNext)
    (wSeq (wIf (wTst (wB oEq (wB oIx (wVar 0) (wC (.int 0))) (wC (.str "for"))))
    (wIf (wOr (wTst (wB oEq (wL oLen (wCons (wVar 0) wNil)) (wC (.int 4)))) (wOr (wNot (wTst (wCall CFIs.S_is_word (wCons (wB oIx (wVar 0) (wC (.int 2))) wNil)))) (wTst (wB oEqX (wB oIx (wVar 0) (wC (.int 1))) (wB oIx (wVar 0) (wC (.int 2)))))))
    (wRet (wC (.bool false)))
    wNext)
    (wIf (wOr (wTst (wB oNotIn (wB oIx (wVar 0) (wC (.int 0))) (wL oTup (wCons (wC (.str "away")) (wCons (wC (.str "on")) wNil))))) (wTst (wB oEq (wL oLen (wCons (wVar 0) wNil)) (wC (.int 5)))))
    (wRet (wC (.bool false)))
    wNext))
    (wRet (wAndV (wCall CFIs.S_is_word (wCons (wB oIx (wVar 0) (wC (.int 1))) wNil)) (wCall S_is_span (wCons (wB oIx (wVar 0) (wU oNeg (wC (.int 2)))) (wCons (wB oIx (wVar 0) (wU oNeg (wC (.int 1)))) wNil))))))
def n_is_change : Nat := 1
end CFIc

set_option Elab.async false
set_option linter.all false
set_option maxRecDepth 100000
set_option maxHeartbeats 4000000

/-! generated: readings shared by laws -/
namespace CFTd
open PySem PySem.Spec PyProof.Rows L2 DL CFWd CFBk CFTu CFCl
def L_covers : Nat → Bool := fun j => ([] : List Nat).contains j
def w_covers : WS := wRet (wAndV (wB oLe (wB oIx (wVar 0) (wU oNeg (wC (.int 2)))) (wVar 1)) (wOrV (wU oIsN (wB oIx (wVar 0) (wU oNeg (wC (.int 1))))) (wB oLt (wVar 1) (wB oIx (wVar 0) (wU oNeg (wC (.int 1)))))))
def n_covers : Nat := 2
end CFTd

set_option Elab.async false
set_option linter.all false
set_option maxRecDepth 100000
set_option maxHeartbeats 4000000

/-! generated: readings shared by laws -/
namespace CFH
open PySem PySem.Spec PyProof.Rows L2 DL
def L_law_hand : Nat → Bool := fun j => ([] : List Nat).contains j
def w_law_hand : WS := wSeq (wSetF 2 (wC (.int 0)))
    (wSeq (wIf (wTst (wB oLt (wVar 1) (wL oLen (wCons (wVar 0) wNil))))
    (wSetF 2 (wB oIx (wVar 0) (wVar 1)))
    wNext)
    (wRet (wL oLst (wCons (wB oMul (wVar 2) (wL oInt1 (wCons (wB oGe (wVar 2) (wB oPow (wC (.int 10)) (wC (.int 18)))) wNil))) (wCons (wB oAdd (wB oAdd (wB oMod (wVar 2) (wC (.int 2305843009213693951))) (wB oMul (wC (.int 7919)) (wVar 1))) (wC (.int 3))) (wCons (wC (.int 0)) wNil))))))
def n_law_hand : Nat := 3
def L_law_take : Nat → Bool := fun j => [0].contains j
def w_law_take : WS := wSeq (wIf (wTst (wB oGt (wB oIx (wLn 0) (wC (.int 0))) (wC (.int 0))))
    (wSeq (wSetF 2 (wB oMod (wB oIx (wLn 0) (wC (.int 0))) (wVar 1)))
    (wSeq (wSetIx 0 (wB oDiv (wB oIx (wLn 0) (wC (.int 0))) (wVar 1)) (wC (.int 0)))
    (wRet (wVar 2))))
    wNext)
    (wSeq (wSetIx 0 (wB oAdd (wB oIx (wLn 0) (wC (.int 2))) (wC (.int 1))) (wC (.int 2)))
    (wSeq (wSetF 3 (wB oIx (wLn 0) (wC (.int 2))))
    (wSeq (wSetF 4 (wB oAdd (wB oAdd (wC (.int 48271)) (wB oMul (wB oMul (wC (.int 2)) (wVar 3)) (wVar 3))) (wB oMul (wC (.int 65537)) (wVar 3))))
    (wSeq (wSetF 5 (wB oMod (wB oMul (wB oAdd (wB oIx (wLn 0) (wC (.int 1))) (wB oMul (wC (.int 1299709)) (wVar 3))) (wVar 4)) (wC (.int 2305843009213693921))))
    (wSeq (wSetF 6 (wB oAdd (wB oAdd (wB oMod (wVar 5) (wC (.int 1000003))) (wB oMul (wVar 3) (wC (.int 99991)))) (wC (.int 11))))
    (wSeq (wSetF 5 (wB oMod (wB oMul (wVar 5) (wVar 6)) (wC (.int 2305843009213693907))))
    (wRet (wB oMod (wB oAdd (wB oDiv (wVar 5) (wC (.int 97))) (wB oDiv (wVar 5) (wC (.int 1000033)))) (wVar 1)))))))))
def n_law_take : Nat := 7
def L_law_pick : Nat → Bool := fun j => [0].contains j
def w_law_pick : WS := wRet (wB oIx (wVar 1) (wCall S_law_take (wCons (wPk 0) (wCons (wL oLen (wCons (wVar 1) wNil)) wNil))))
def n_law_pick : Nat := 2
def L_law_great : Nat → Bool := fun j => [0].contains j
def w_law_great : WS := wSeq (wSetF 1 (wC (.int 0)))
    (wSeq (wFor (wIR1 (wCons (wC (.int 4)) wNil)) (wgName 2)
    (wSetF 1 (wB oAdd (wB oMul (wVar 1) (wB oPow (wC (.int 10)) (wC (.int 15)))) (wCall S_law_take (wCons (wPk 0) (wCons (wB oPow (wC (.int 10)) (wC (.int 15))) wNil))))))
    (wRet (wVar 1)))
def n_law_great : Nat := 3
end CFH

set_option Elab.async false
set_option linter.all false
set_option maxRecDepth 100000
set_option maxHeartbeats 4000000

/-! generated: readings shared by laws -/
namespace CFCl
open PySem PySem.Spec PyProof.Rows L2 DL CFH
end CFCl

set_option Elab.async false
set_option linter.all false
set_option maxRecDepth 100000
set_option maxHeartbeats 4000000

/-! generated: readings shared by laws -/
namespace CFCh
open PySem PySem.Spec PyProof.Rows L2 DL CFH CFCl
def L_law_moment : Nat → Bool := fun j => [0].contains j
def w_law_moment : WS := wSeq (wSetF 1 (wCall CFH.S_law_take (wCons (wPk 0) (wCons (wC (.int 8)) wNil))))
    (wSeq (wIf (wTst (wB oLt (wVar 1) (wC (.int 5))))
    (wRet (wCall CFH.S_law_take (wCons (wPk 0) (wCons (wC (.int 20000)) wNil))))
    wNext)
    (wSeq (wIf (wTst (wB oEq (wVar 1) (wC (.int 5))))
    (wRet (wCall CFH.S_law_take (wCons (wPk 0) (wCons (wC (.int 9000000)) wNil))))
    wNext)
    (wSeq (wIf (wTst (wB oEq (wVar 1) (wC (.int 6))))
    (wRet (wCall CFH.S_law_great (wCons (wPk 0) wNil)))
    wNext)
    (wRet (wB oSub (wB oSub (wB oPow (wC (.int 10)) (wC (.int 60))) (wC (.int 1))) (wCall CFH.S_law_take (wCons (wPk 0) (wCons (wC (.int 9000)) wNil))))))))
def n_law_moment : Nat := 2
end CFCh

set_option Elab.async false
set_option linter.all false
set_option maxRecDepth 100000
set_option maxHeartbeats 4000000

/-! generated: readings shared by laws -/
namespace CFLy
open PySem PySem.Spec PyProof.Rows L2 DL CFH CFWd CFCg
end CFLy

section
open PySem PySem.Spec PyProof.Rows L2 DL CFH
local macro_rules | `(tactic| tm_at "dw") => `(tactic| with_reducible (conv => whnf))
local macro_rules | `(tactic| tm_at "dside") => `(tactic| first | with_reducible assumption | ((with_reducible show CDivW _ _); exact ⟨by omega, log2_sm (by omega)⟩) | exact rfl | exact True.intro | exact Nat.le_of_ble_eq_true rfl | (intro z; first | exact rfl | exact (Bool.false_ne_true z).elim) | (intro _; (with_reducible refine And.intro ?_ ?_) <;> first | exact rfl | assumption) | (intro _; assumption) | (intro _; with_reducible exact lf_ints) | (intro _; with_reducible exact lf_strs) | ((with_reducible show SeqAt.shaped (PyData.str _) = true); exact (Lay.str (k := 0) (by first | assumption | decide +kernel)).shaped) | omega | (simp only [List.length_map, List.length_reverse, List.length_append, List.length_cons, List.length_nil]; omega) | exact And.intro (by omega) (by with_reducible assumption) | exact And.intro (by omega) (by decide +kernel) | exact And.intro (by omega) (And.intro (by omega) (by omega)) | exact MulOk.left ⟨by omega, by omega⟩ | exact MulOk.right ⟨by omega, by omega⟩ | exact le1000 (by first | omega | (simp only [List.length_map, List.length_reverse, List.length_append, List.length_cons, List.length_nil, rangeD_len, enumF_len]; omega)) | with_reducible exact lf_ints | with_reducible exact lf_strs | assumption | decide)
local macro_rules | `(tactic| tm_at "do") => `(tactic| first | with_reducible exact intsOf_map _ | with_reducible exact boolsOf_map _ | ((with_reducible show lstOf _ _ = _); with_unfolding_all exact rfl) | ((with_reducible show intsOf _ = _); with_unfolding_all exact rfl) | ((with_reducible show itemsD _ = _); with_unfolding_all exact rfl) | ((with_reducible show itemsLT _ = _); with_unfolding_all exact rfl) | ((with_reducible show boolsOf _ = _); with_unfolding_all exact rfl) | ((with_reducible show strsOf _ = _); with_unfolding_all exact rfl) | ((with_reducible show keyD _ = _); with_unfolding_all exact rfl) | with_reducible exact atI_0 | with_reducible exact atI_1 | with_reducible exact atI_2 | with_reducible exact atI_3 | with_reducible exact atI_4 | with_reducible exact setI_0 | with_reducible exact setI_1 | with_reducible exact setI_2 | with_reducible exact setI_3)
local macro_rules | `(tactic| tm_at "dz") => `(tactic| (intro z; (try simp only [decide_eq_true_eq, decide_eq_false_iff_not, eqv_int, Bool.not_eq_true', Bool.not_eq_false', Bool.not_not, Bool.false_eq_true, reduceCtorEq, Int.not_lt, Int.not_le, wholeD, List.length_cons, List.length_nil, List.length_map, isT_tuple_none, isT_tuple_bool, isT_tuple_int, isT_tuple_str, isT_tuple_list, isT_tuple_tuple, isT_int_none, isT_int_bool, isT_int_int, isT_int_str, isT_int_list, isT_int_tuple, isT_bool_none, isT_bool_bool, isT_bool_int, isT_bool_str, isT_bool_list, isT_bool_tuple, isT_str_none, isT_str_bool, isT_str_int, isT_str_str, isT_str_list, isT_str_tuple, isT_list_none, isT_list_bool, isT_list_int, isT_list_str, isT_list_list, isT_list_tuple] at z); try (first | (exfalso; omega) | exact (Bool.false_ne_true z).elim | (cases z; done))))
local macro_rules | `(tactic| tm_at "dnorm") => `(tactic| first | ((simp only [rset, rget, frzC, retag, clr, back]); done) | ((simp only [rset, rget, frzC, retag, clr, back]); exact rfl) | exact rfl)
local macro_rules | `(tactic| tm_at "dh") => `(tactic| first | ((with_reducible show wSeq _ _ _ _); with_reducible refine wSeq_i (by tm_at "dnorm") ?_) | ((with_reducible show optK _ _); with_reducible refine optK_of (by tm_at "do") ?_) | (with_reducible refine ifb ?_ ?_) <;> tm_at "dz" | ((with_reducible refine And.intro ?_ ?_); tm_at "dside") | fail "dh")
local macro_rules | `(tactic| tm_at "dc") => `(tactic| fail "dc")
local macro_rules | `(tactic| tm_at "dt") => `(tactic| first | (tm_at "dh" <;> (try tm_at "dw")) | (tm_at "dc" <;> (try tm_at "dw")))
local macro_rules | `(tactic| tm_at "dstart") => `(tactic| simp only [startD, List.length_cons, List.length_nil, Nat.reduceAdd, Nat.reduceSub, List.replicate, List.cons_append, List.nil_append])
local macro_rules | `(tactic| tm_at "dl") => `(tactic| ((try tm_at "dw"); repeat' tm_at "dt"))
local macro_rules | `(tactic| tm_at "dlc") => `(tactic| first | with_reducible refine lcK_eq (by tm_at "dnorm") ?_ | with_reducible refine forK_eq (by tm_at "dnorm") ?_)

section
set_option Elab.async false
set_option linter.all false
set_option maxRecDepth 100000
set_option maxHeartbeats 4000000
namespace CFIs
open PySem PySem.Spec PyProof.Rows L2 DL CFH CFWd
local macro_rules | `(tactic| tm_at "dpos") => `(tactic| first | omega | decide)
local macro_rules | `(tactic| tm_at "dlog") => `(tactic| first | exact log2_sm (by omega) | exact CFH.big_log (by omega) (by omega) | assumption | exact log2_sm (by decide))
local macro_rules | `(tactic| tm_at "dc") => `(tactic| ((with_reducible show CFH.S_law_take _ _ _); refine CFH.take_i (by assumption) (by omega) (by tm_at "dpos") (by tm_at "dlog") (fun _ _ _ _ _ => ?_)))
local macro_rules | `(tactic| tm_at "dc") => `(tactic| ((with_reducible show CFH.S_law_great _ _ _); refine CFH.great_i (by assumption) (by omega) (fun _ _ _ _ _ => ?_)))
local macro_rules | `(tactic| tm_at "dc") => `(tactic| ((with_reducible show CFH.S_law_whole _ _ _); refine CFH.whole_i ?_))
local macro_rules | `(tactic| tm_at "dh") => `(tactic| first | ((with_reducible show ite _ _ _); first | (with_reducible refine DL.ifb_t (by with_reducible assumption) ?_) | (with_reducible refine DL.ifb_f (by with_reducible assumption) ?_)) | fail "dk")
local macro_rules | `(tactic| tm_at "do") => `(tactic| with_reducible assumption)
theorem ok_is_whole : ∀ as QD ED, S_is_whole as QD ED → w_is_whole (bodyEnds as QD fun _ _ => False) (startD n_is_whole as) := by
  rintro as QD ED ⟨d, rfl, q⟩
  rw [isWh_eq] at q
  unfold n_is_whole w_is_whole
  tm_at "dstart"
  tm_at "dl"
  · rw [‹isT "int" d = true›, Bool.true_and] at q
    exact q
  · rw [‹isT "int" d = false›, Bool.false_and] at q
    exact q
theorem ok_is_word : ∀ as QD ED, S_is_word as QD ED → w_is_word (bodyEnds as QD fun _ _ => False) (startD n_is_word as) := by
  rintro as QD ED ⟨d, rfl, hs, q⟩
  unfold n_is_word w_is_word
  tm_at "dstart"
  tm_at "dl"
  · rw [isWd_no ‹_›] at q
    exact q
  obtain ⟨s, rfl⟩ := isT_str ‹_›
  have sl := sml_str hs
  have sz : s.length ≤ sizeLine := Nat.le_trans sl (Nat.le_of_ble_eq_true rfl)
  tm_at "dl"
  · rw [isWd_bad (by omega)] at q
    exact q
  · rw [isWd_at (by omega)] at q
    rename_i g1 g8
    refine ⟨by rw [strD_len]; exact sz, ?_⟩
    rw [show strD s = (strD s).map id from (List.map_id _).symm]
    refine lcK_ys (fun x : D => PyData.bool (sgOk x)) (strD s) (fun x hx next hnx => ?_) ?_
    · obtain ⟨c, _, rfl⟩ := List.mem_map.mp hx
      simp only [id_eq]
      tm_at "dl"
      exact hnx
    · tm_at "dl"
      rw [show ((strD s).map fun x => PyData.bool (sgOk x)) = ((strD s).map sgOk).map PyData.bool by rw [List.map_map]; rfl]
      refine optK_of (boolsOf_map _) ?_
      rw [List.all_map]
      tm_at "dl"
      exact q
  · rw [isWd_bad (by omega)] at q
    exact q
end CFIs
end

section
set_option Elab.async false
set_option linter.all false
set_option maxRecDepth 100000
set_option maxHeartbeats 4000000
namespace CFIj
open PySem PySem.Spec PyProof.Rows L2 DL CFH CFIs
local macro_rules | `(tactic| tm_at "dpos") => `(tactic| first | omega | decide)
local macro_rules | `(tactic| tm_at "dlog") => `(tactic| first | exact log2_sm (by omega) | exact CFH.big_log (by omega) (by omega) | assumption | exact log2_sm (by decide))
local macro_rules | `(tactic| tm_at "dc") => `(tactic| ((with_reducible show CFH.S_law_take _ _ _); refine CFH.take_i (by assumption) (by omega) (by tm_at "dpos") (by tm_at "dlog") (fun _ _ _ _ _ => ?_)))
local macro_rules | `(tactic| tm_at "dc") => `(tactic| ((with_reducible show CFH.S_law_great _ _ _); refine CFH.great_i (by assumption) (by omega) (fun _ _ _ _ _ => ?_)))
local macro_rules | `(tactic| tm_at "dc") => `(tactic| ((with_reducible show CFH.S_law_whole _ _ _); refine CFH.whole_i ?_))
local macro_rules | `(tactic| tm_at "dh") => `(tactic| first | ((with_reducible show ite _ _ _); first | (with_reducible refine DL.ifb_t (by with_reducible assumption) ?_) | (with_reducible refine DL.ifb_f (by with_reducible assumption) ?_)) | fail "dk")
local macro_rules | `(tactic| tm_at "do") => `(tactic| with_reducible assumption)
theorem ok_is_moment : ∀ as QD ED, S_is_moment as QD ED → w_is_moment (bodyEnds as QD fun _ _ => False) (startD n_is_moment as) := by
  rintro as QD ED ⟨d, rfl, q⟩
  unfold n_is_moment w_is_moment
  tm_at "dstart"
  tm_at "dl"
  refine ⟨d, rfl, ?_⟩
  cases e : isWh d with
  | true =>
    obtain ⟨t, rfl⟩ := isWh_int e
    have q : QD (.v (.bool (decide (0 ≤ t ∧ t < big)))) _ := q
    tm_at "dl"
    · rw [show decide (0 ≤ t ∧ t < big) = decide (t < 1000000000000000000000000000000000000000000000000000000000000) from decide_eq_decide.mpr ⟨fun h => h.2, fun h => ⟨‹_›, h⟩⟩] at q
      exact q
    · rw [decide_eq_false (by omega)] at q
      exact q
  | false =>
    rw [isMo_no e] at q
    tm_at "dl"
    exact q
end CFIj
end

section
set_option Elab.async false
set_option linter.all false
set_option maxRecDepth 100000
set_option maxHeartbeats 4000000
namespace CFIc
open PySem PySem.Spec PyProof.Rows L2 DL CFH CFWd CFBk CFIs CFIj
local macro_rules | `(tactic| tm_at "dpos") => `(tactic| first | omega | decide)
local macro_rules | `(tactic| tm_at "dlog") => `(tactic| first | exact log2_sm (by omega) | exact CFH.big_log (by omega) (by omega) | assumption | exact log2_sm (by decide))
local macro_rules | `(tactic| tm_at "dc") => `(tactic| ((with_reducible show CFH.S_law_take _ _ _); refine CFH.take_i (by assumption) (by omega) (by tm_at "dpos") (by tm_at "dlog") (fun _ _ _ _ _ => ?_)))
local macro_rules | `(tactic| tm_at "dc") => `(tactic| ((with_reducible show CFH.S_law_great _ _ _); refine CFH.great_i (by assumption) (by omega) (fun _ _ _ _ _ => ?_)))
local macro_rules | `(tactic| tm_at "dc") => `(tactic| ((with_reducible show CFH.S_law_whole _ _ _); refine CFH.whole_i ?_))
local macro_rules | `(tactic| tm_at "dh") => `(tactic| first | ((with_reducible show ite _ _ _); first | (with_reducible refine DL.ifb_t (by with_reducible assumption) ?_) | (with_reducible refine DL.ifb_f (by with_reducible assumption) ?_)) | fail "dk")
local macro_rules | `(tactic| tm_at "do") => `(tactic| with_reducible assumption)
theorem ok_is_span : ∀ as QD ED, S_is_span as QD ED → w_is_span (bodyEnds as QD fun _ _ => False) (startD n_is_span as) := by
  rintro as QD ED ⟨b, e, rfl, q⟩
  unfold n_is_span w_is_span
  tm_at "dstart"
  tm_at "dl"
  refine ⟨b, rfl, ?_⟩
  cases hb : isMo b with
  | false =>
    rw [sp_no hb] at q
    tm_at "dl"
    exact q
  | true =>
    obtain ⟨x, rfl, x0, x1⟩ := isMo_get hb
    cases e with
    | none =>
      rw [sp_none, hb] at q
      tm_at "dl"
      exact q
    | int y =>
      tm_at "dl"
      refine ⟨.int y, rfl, ?_⟩
      cases hy : isMo (.int y) with
      | false =>
        rw [sp_noE hy (by intro z; cases z)] at q
        tm_at "dl"
        exact q
      | true =>
        rw [sp_at hb hy] at q
        tm_at "dl"
        exact q
    | bool b2 =>
      have hy : isMo (.bool b2) = false := rfl
      have hn : PyData.bool b2 ≠ .none := by intro z; cases z
      rw [sp_noE hy hn] at q
      tm_at "dl"
      refine ⟨_, rfl, ?_⟩
      tm_at "dl"
      exact q
    | str s2 =>
      have hy : isMo (.str s2) = false := rfl
      have hn : PyData.str s2 ≠ .none := by intro z; cases z
      rw [sp_noE hy hn] at q
      tm_at "dl"
      refine ⟨_, rfl, ?_⟩
      tm_at "dl"
      exact q
    | list l2 =>
      have hy : isMo (.list l2) = false := rfl
      have hn : PyData.list l2 ≠ .none := by intro z; cases z
      rw [sp_noE hy hn] at q
      tm_at "dl"
      refine ⟨_, rfl, ?_⟩
      tm_at "dl"
      exact q
    | tuple t2 =>
      have hy : isMo (.tuple t2) = false := rfl
      have hn : PyData.tuple t2 ≠ .none := by intro z; cases z
      rw [sp_noE hy hn] at q
      tm_at "dl"
      refine ⟨_, rfl, ?_⟩
      tm_at "dl"
      exact q
    | dict d2 =>
      have hy : isMo (.dict d2) = false := rfl
      have hn : PyData.dict d2 ≠ .none := by intro z; cases z
      rw [sp_noE hy hn] at q
      tm_at "dl"
      refine ⟨_, rfl, ?_⟩
      tm_at "dl"
      exact q
theorem ok_is_change : ∀ as QD ED, S_is_change as QD ED → w_is_change (bodyEnds as QD fun _ _ => False) (startD n_is_change as) := by
  rintro as QD ED ⟨d, rfl, sm, ly, q⟩
  unfold n_is_change w_is_change
  tm_at "dstart"
  tm_at "dl"
  all_goals try (rw [ch_no ‹isT "tuple" d = false›] at q; exact q)
  obtain ⟨ds, rfl⟩ := isT_tup ‹_›
  have sm := sml_tup.mp sm
  rcases Classical.em (¬ (4 ≤ ds.length ∧ ds.length ≤ 5)) with hl | hl
  · rw [ch_len hl] at q
    tm_at "dl"
    all_goals exact q
  have hl := Classical.not_not.mp hl
  have szd : ds.length ≤ sizeLine := by rw [sizeLine_eq]; omega
  have s1 : SeqAt.shaped (.str "for") = true := (Lay.str (k := 0) CFLa.s_for).shaped
  have s2 : SeqAt.shaped (.list [.str "away", .str "on"]) = true := by decide +kernel
  rcases len45 hl with ⟨k, a, b, e, rfl⟩ | ⟨k, a, o, b, e, rfl⟩
  · have sa := sm a (by simp)
    have lk := ly _ rfl k (by simp)
    by_cases hs : ∃ s, k = .str s
    rotate_left
    · have q0 : isCh (.tuple [k, a, b, e]) = false := by rw [ch_4]; cases k <;> first | rfl | exact absurd ⟨_, rfl⟩ hs
      rw [q0] at q
      cases k <;> first | exact absurd ⟨_, rfl⟩ hs | (tm_at "dl"; exact q)
    obtain ⟨s, rfl⟩ := hs
    replace lk : SeqAt.shaped (.str s) = true := lk.elim (fun z => by cases z) Lay.shaped
    rw [ch_4] at q
    have mt := mem_two (s := s)
    by_cases f : s = "for"
    · subst f
      have ef : PyData.eqv (.str "for") (.str "for") = true := by rw [CFTd.eqv_str]; exact decide_eq_true rfl
      have q : QD (.v (.bool false)) _ := q
      tm_at "dl"
      exact q
    have ef : PyData.eqv (.str s) (.str "for") = false := by rw [CFTd.eqv_str]; exact decide_eq_false f
    cases hm : (decide (s = "away") || decide (s = "on")) with
    | false =>
      rw [hm] at mt
      have mt2 : (!memD (.str s) [.str "away", .str "on"]) = true := by rw [mt]; rfl
      have q : QD (.v (.bool ((decide (s = "away") || decide (s = "on")) && (isWd a && isSp b e)))) _ := q
      rw [hm] at q
      tm_at "dl"
      exact q
    | true =>
      rw [hm] at mt
      have mt2 : (!memD (.str s) [.str "away", .str "on"]) = false := by rw [mt]; rfl
      have q : QD (.v (.bool ((decide (s = "away") || decide (s = "on")) && (isWd a && isSp b e)))) _ := q
      rw [hm, Bool.true_and] at q
      tm_at "dl"
      refine ⟨a, rfl, sa, ?_⟩
      cases hw : isWd a with
      | false =>
        rw [hw] at q
        tm_at "dl"
        exact q
      | true =>
        rw [hw, Bool.true_and] at q
        tm_at "dl"
        refine ⟨(fun z => nomatch z), (fun z => nomatch z), (fun z => nomatch z), ?_⟩
        refine ⟨b, e, rfl, ?_⟩
        tm_at "dl"
        exact q
  · have sa := sm a (by simp)
    have so := sm o (by simp)
    have lk := ly _ rfl k (by simp)
    have la := ly _ rfl a (by simp)
    have lo := ly _ rfl o (by simp)
    by_cases hs : ∃ s, k = .str s
    rotate_left
    · have q0 : isCh (.tuple [k, a, o, b, e]) = false := by rw [ch_5]; cases k <;> first | rfl | exact absurd ⟨_, rfl⟩ hs
      rw [q0] at q
      cases k <;> first | exact absurd ⟨_, rfl⟩ hs | (tm_at "dl"; exact q)
    obtain ⟨s, rfl⟩ := hs
    replace lk : SeqAt.shaped (.str s) = true := lk.elim (fun z => by cases z) Lay.shaped
    rw [ch_5] at q
    have q : QD (.v (.bool (decide (s = "for") && (isWd o && (!PyData.eqv a o && (isWd a && isSp b e)))))) _ := q
    have mt := mem_two (s := s)
    by_cases f : s = "for"
    · rw [decide_eq_true f, Bool.true_and] at q
      have ef : PyData.eqv (.str s) (.str "for") = true := by rw [CFTd.eqv_str]; exact decide_eq_true f
      tm_at "dl"
      refine ⟨o, rfl, so, ?_⟩
      cases hw : isWd o with
      | false =>
        rw [hw] at q
        tm_at "dl"
        exact q
      | true =>
        rw [hw, Bool.true_and] at q
        have eqo : EqOk a o := by
          rcases lo with rfl | lo
          · cases hw
          · rcases la with rfl | la
            · refine .inr ⟨rfl, ?_⟩
              cases o <;> first | rfl | cases hw
            · exact .inl ⟨la.shaped, lo.shaped⟩
        clear la lo
        cases hv : PyData.eqv a o with
        | true =>
          rw [hv] at q
          have q : QD (.v (.bool false)) _ := q
          tm_at "dl"
          exact q
        | false =>
          rw [hv] at q
          have q : QD (.v (.bool (isWd a && isSp b e))) _ := q
          tm_at "dl"
          refine ⟨a, rfl, sa, ?_⟩
          cases hw : isWd a with
          | false =>
            rw [hw] at q
            tm_at "dl"
            exact q
          | true =>
            rw [hw, Bool.true_and] at q
            tm_at "dl"
            refine ⟨(fun z => nomatch z), (fun z => nomatch z), (fun z => nomatch z), ?_⟩
            refine ⟨b, e, rfl, ?_⟩
            tm_at "dl"
            exact q
    · rw [decide_eq_false f, Bool.false_and] at q
      have ef : PyData.eqv (.str s) (.str "for") = false := by rw [CFTd.eqv_str]; exact decide_eq_false f
      tm_at "dl"
      all_goals exact q
end CFIc
end

section
set_option Elab.async false
set_option linter.all false
set_option maxRecDepth 100000
set_option maxHeartbeats 4000000
namespace CFTd
open PySem PySem.Spec PyProof.Rows L2 DL CFH CFCl CFRu CFWd CFBk CFTu
local macro_rules | `(tactic| tm_at "do") => `(tactic| first | with_reducible exact chg_m2 | with_reducible exact chg_0 | with_reducible exact chg_1 | with_reducible exact rw_0)
theorem ok_covers : ∀ as QD ED, S_covers as QD ED → w_covers (bodyEnds as QD fun _ _ => False) (startD n_covers as) := by
  rintro as QD ED ⟨c, t, rfl, q⟩
  unfold n_covers w_covers
  unfold coversL at q
  have m1 := chg_m1 (c := c)
  have lf := lf_chg (c := c)
  generalize c.e = e at m1 q
  cases e with
  | none =>
    tm_at "dstart"
    tm_at "dl"
    · refine optK_of m1 ?_
      tm_at "dl"
      rw [decide_eq_true (by assumption : c.b ≤ t)] at q
      exact q
    · rw [decide_eq_false (by omega : ¬ c.b ≤ t)] at q
      exact q
  | some e =>
    tm_at "dstart"
    tm_at "dl"
    · refine optK_of m1 ?_
      tm_at "dl"
      refine optK_of m1 ?_
      tm_at "dl"
      rw [decide_eq_true (by assumption : c.b ≤ t)] at q
      exact q
    · rw [decide_eq_false (by omega : ¬ c.b ≤ t)] at q
      exact q
end CFTd
end

section
set_option Elab.async false
set_option linter.all false
set_option maxRecDepth 100000
set_option maxHeartbeats 4000000
namespace CFH
open PySem PySem.Spec PyProof.Rows L2 DL
theorem ok_law_take : ∀ as QD ED, S_law_take as QD ED → w_law_take (bodyEnds as QD fun _ _ => False) (startD n_law_take as) := by
  rintro as QD ED ⟨h, n, m, rfl, ho, hn, hm, hl, q⟩
  obtain ⟨a0, b0, b1, c0, c1⟩ := ho
  unfold n_law_take w_law_take
  tm_at "dstart"
  tm_at "dl"
  · exact q ⟨h.a / m, h.b, h.c⟩ (h.a % m) ⟨Int.ediv_nonneg a0 (by omega), b0, b1, c0, by show h.c ≤ _; omega⟩ (Int.emod_nonneg _ (by omega)) (Int.emod_lt_of_pos _ hm)
  · exact q ⟨h.a, h.b, h.c + 1⟩ _ ⟨a0, b0, b1, by show 0 ≤ h.c + 1; omega, by show h.c + 1 ≤ _; omega⟩ (Int.emod_nonneg _ (by omega)) (Int.emod_lt_of_pos _ hm)
theorem ok_law_pick : ∀ as QD ED, S_law_pick as QD ED → w_law_pick (bodyEnds as QD fun _ _ => False) (startD n_law_pick as) := by
  rintro as QD ED ⟨h, n, b, ds, rfl, ho, hn, h0, h1, bx, q⟩
  unfold n_law_pick w_law_pick
  rcases bx with rfl | rfl | ⟨s, rfl, rfl, sl⟩
  · tm_at "dstart"
    tm_at "dl"
    refine ⟨h, n, ds.length, rfl, ho, hn, by omega, log2_sm (by omega), fun h' x ho' x0 x1 => ?_⟩
    tm_at "dl"
    obtain ⟨d, e, hd⟩ := atI_mem x0 x1
    refine optK_of e ?_
    tm_at "dl"
    exact q h' d ho' hd
  · tm_at "dstart"
    tm_at "dl"
    refine ⟨h, n, ds.length, rfl, ho, hn, by omega, log2_sm (by omega), fun h' x ho' x0 x1 => ?_⟩
    tm_at "dl"
    obtain ⟨d, e, hd⟩ := atI_mem x0 x1
    refine optK_of e ?_
    tm_at "dl"
    exact q h' d ho' hd
  · rw [strD_len] at h0 h1
    tm_at "dstart"
    tm_at "dl"
    refine ⟨h, n, s.length, rfl, ho, hn, by omega, log2_sm (by omega), fun h' x ho' x0 x1 => ?_⟩
    tm_at "dl"
    have xl : x.toNat < s.cps.toList.length := by
      show x.toNat < s.cps.size
      have : s.length = s.cps.size := rfl
      omega
    have e : atI s.cps.toList x = some (s.cps.toList[x.toNat]) := by
      have := L2.atI_nat (xs := s.cps.toList) (j := x.toNat) (List.getElem?_eq_getElem xl)
      rwa [show ((x.toNat : Nat) : Int) = x by omega] at this
    refine optK_of e ?_
    tm_at "dl"
    exact q h' _ ho' (List.mem_map_of_mem (f := fun c => PyData.str ⟨#[c]⟩) (List.getElem_mem xl))
theorem ok_law_hand : ∀ as QD ED, S_law_hand as QD ED → w_law_hand (bodyEnds as QD fun _ _ => False) (startD n_law_hand as) := by
  rintro as QD ED ⟨ns, k, rfl, h0, h1, q⟩
  unfold n_law_hand w_law_hand
  tm_at "dstart"
  have e : ∀ c : Int, (0 ≤ c * (if decide ((10:Int) ^ Int.toNat 18 ≤ c) = true then 1 else 0)) := by
    intro c
    by_cases h : (10:Int) ^ Int.toNat 18 ≤ c
    · rw [if_pos (decide_eq_true h), Int.mul_one]
      exact Int.le_trans (by decide) h
    · rw [if_neg (fun z => h (of_decide_eq_true z)), Int.mul_zero]
      exact Int.le_refl 0
  have mo : ∀ c : Int, MulOk c (if decide ((10:Int) ^ Int.toNat 18 ≤ c) = true then 1 else 0) := by
    intro c
    refine MulOk.right ?_
    split <;> decide
  have fin : ∀ c : Int, (Hd.mk (c * (if decide ((10:Int) ^ Int.toNat 18 ≤ c) = true then 1 else 0)) (c % 2305843009213693951 + 7919 * k + 3) 0).ok 0 := fun c => ⟨e c, by show 0 ≤ c % 2305843009213693951 + 7919 * k + 3; omega, by show c % 2305843009213693951 + 7919 * k + 3 < _; omega, Int.le_refl 0, Int.le_refl 0⟩
  tm_at "dl"
  · obtain ⟨d, e1, e2⟩ := atI_mem (ds := ns.map PyData.int) h0 (by rename_i z; first | exact z | exact of_decide_eq_true z | (rw [List.length_map]; exact z) | (rw [List.length_map]; exact of_decide_eq_true z) | (simp only [decide_eq_true_eq, List.length_map] at z; rw [List.length_map]; exact z))
    obtain ⟨c, _, rfl⟩ := List.mem_map.mp e2
    refine optK_of e1 ?_
    have m := mo c
    tm_at "dl"
    exact q _ (fin c)
  · have m := mo 0
    tm_at "dl"
    exact q _ (fin 0)
theorem ok_law_great : ∀ as QD ED, S_law_great as QD ED → w_law_great (bodyEnds as QD fun _ _ => False) (startD n_law_great as) := by
  rintro as QD ED ⟨h, n, rfl, ho, hn, q⟩
  unfold n_law_great w_law_great
  tm_at "dstart"
  tm_at "dl"
  show forK _ _ [.int 0, .int 1, .int 2, .int 3] _ _
  have m0 : MulOk 0 ((10:Int) ^ Int.toNat 15) := MulOk.left (by decide)
  tm_at "dl"
  refine ⟨h, n, 1000000000000000, rfl, ho, by omega, by decide, log2_sm (by decide), fun h1 x1 o1 a1 b1 => ?_⟩
  have m1 := MulOk.right (i := 0 * (10:Int) ^ Int.toNat 15 + x1) (j := (10:Int) ^ Int.toNat 15) (by decide)
  tm_at "dl"
  refine ⟨h1, n + 1, 1000000000000000, rfl, o1, by omega, by decide, log2_sm (by decide), fun h2 x2 o2 a2 b2 => ?_⟩
  have m2 := MulOk.right (i := (0 * (10:Int) ^ Int.toNat 15 + x1) * (10:Int) ^ Int.toNat 15 + x2) (j := (10:Int) ^ Int.toNat 15) (by decide)
  tm_at "dl"
  refine ⟨h2, n + 2, 1000000000000000, rfl, o2, by omega, by decide, log2_sm (by decide), fun h3 x3 o3 a3 b3 => ?_⟩
  have m3 := MulOk.right (i := ((0 * (10:Int) ^ Int.toNat 15 + x1) * (10:Int) ^ Int.toNat 15 + x2) * (10:Int) ^ Int.toNat 15 + x3) (j := (10:Int) ^ Int.toNat 15) (by decide)
  tm_at "dl"
  refine ⟨h3, n + 3, 1000000000000000, rfl, o3, by omega, by decide, log2_sm (by decide), fun h4 x4 o4 a4 b4 => ?_⟩
  tm_at "dl"
  have e : (10:Int) ^ Int.toNat 15 = 1000000000000000 := by decide
  rw [e] at *
  exact q h4 ((((0 * 1000000000000000 + x1) * 1000000000000000 + x2) * 1000000000000000 + x3) * 1000000000000000 + x4) o4 (by omega) (by omega)
end CFH
end

section
set_option Elab.async false
set_option linter.all false
set_option maxRecDepth 100000
set_option maxHeartbeats 4000000
namespace CFCl
open PySem PySem.Spec PyProof.Rows L2 DL CFH
local macro_rules | `(tactic| tm_at "dpos") => `(tactic| first | omega | decide)
local macro_rules | `(tactic| tm_at "dlog") => `(tactic| first | exact log2_sm (by omega) | exact CFH.big_log (by omega) (by omega) | assumption | exact log2_sm (by decide))
local macro_rules | `(tactic| tm_at "dc") => `(tactic| ((with_reducible show CFH.S_law_take _ _ _); refine CFH.take_i (by assumption) (by omega) (by tm_at "dpos") (by tm_at "dlog") (fun _ _ _ _ _ => ?_)))
local macro_rules | `(tactic| tm_at "dc") => `(tactic| ((with_reducible show CFH.S_law_great _ _ _); refine CFH.great_i (by assumption) (by omega) (fun _ _ _ _ _ => ?_)))
local macro_rules | `(tactic| tm_at "dc") => `(tactic| ((with_reducible show CFH.S_law_whole _ _ _); refine CFH.whole_i ?_))
end CFCl
end

section
set_option Elab.async false
set_option linter.all false
set_option maxRecDepth 100000
set_option maxHeartbeats 4000000
namespace CFCh
open PySem PySem.Spec PyProof.Rows L2 DL CFH CFCl
local macro_rules | `(tactic| tm_at "dpos") => `(tactic| first | omega | decide)
local macro_rules | `(tactic| tm_at "dlog") => `(tactic| first | exact log2_sm (by omega) | exact CFH.big_log (by omega) (by omega) | assumption | exact log2_sm (by decide))
local macro_rules | `(tactic| tm_at "dc") => `(tactic| ((with_reducible show CFH.S_law_take _ _ _); refine CFH.take_i (by assumption) (by omega) (by tm_at "dpos") (by tm_at "dlog") (fun _ _ _ _ _ => ?_)))
local macro_rules | `(tactic| tm_at "dc") => `(tactic| ((with_reducible show CFH.S_law_great _ _ _); refine CFH.great_i (by assumption) (by omega) (fun _ _ _ _ _ => ?_)))
local macro_rules | `(tactic| tm_at "dc") => `(tactic| ((with_reducible show CFH.S_law_whole _ _ _); refine CFH.whole_i ?_))
local macro_rules | `(tactic| tm_at "dc") => `(tactic| ((with_reducible show S_law_moment _ _ _); refine moment_i (by assumption) (by omega) (fun _ _ _ _ _ => ?_)))
end CFCh
end

section
set_option Elab.async false
set_option linter.all false
set_option maxRecDepth 100000
set_option maxHeartbeats 4000000
namespace CFCh
open PySem PySem.Spec PyProof.Rows L2 DL CFH CFCl
local macro_rules | `(tactic| tm_at "dpos") => `(tactic| first | omega | decide)
local macro_rules | `(tactic| tm_at "dlog") => `(tactic| first | exact log2_sm (by omega) | exact CFH.big_log (by omega) (by omega) | assumption | exact log2_sm (by decide))
local macro_rules | `(tactic| tm_at "dc") => `(tactic| ((with_reducible show CFH.S_law_take _ _ _); refine CFH.take_i (by assumption) (by omega) (by tm_at "dpos") (by tm_at "dlog") (fun _ _ _ _ _ => ?_)))
local macro_rules | `(tactic| tm_at "dc") => `(tactic| ((with_reducible show CFH.S_law_great _ _ _); refine CFH.great_i (by assumption) (by omega) (fun _ _ _ _ _ => ?_)))
local macro_rules | `(tactic| tm_at "dc") => `(tactic| ((with_reducible show CFH.S_law_whole _ _ _); refine CFH.whole_i ?_))
local macro_rules | `(tactic| tm_at "dc") => `(tactic| ((with_reducible show S_law_moment _ _ _); refine moment_i (by assumption) (by omega) (fun _ _ _ _ _ => ?_)))
theorem ok_law_moment : ∀ as QD ED, S_law_moment as QD ED → w_law_moment (bodyEnds as QD fun _ _ => False) (startD n_law_moment as) := by
  rintro as QD ED ⟨h, n, rfl, ho, hn, q⟩
  unfold n_law_moment w_law_moment
  tm_at "dstart"
  tm_at "dl"
  · exact q _ _ (Hd.ok.up (by assumption) (by omega)) (by assumption) (by unfold big; omega)
  · exact q _ _ (Hd.ok.up (by assumption) (by omega)) (by assumption) (by unfold big; omega)
  · exact q _ _ (Hd.ok.up (by assumption) (by omega)) (by assumption) (by unfold big; omega)
  · rw [pow60]
    exact q _ _ (Hd.ok.up (by assumption) (by omega)) (by unfold big; omega) (by unfold big; omega)
end CFCh
end

section
set_option Elab.async false
set_option linter.all false
set_option maxRecDepth 100000
set_option maxHeartbeats 4000000
namespace CFLy
open PySem PySem.Spec PyProof.Rows L2 DL CFH CFCl CFRu CFWd CFBk CFCg
local macro_rules | `(tactic| tm_at "dpos") => `(tactic| first | omega | decide)
local macro_rules | `(tactic| tm_at "dlog") => `(tactic| first | exact log2_sm (by omega) | exact CFH.big_log (by omega) (by omega) | assumption | exact log2_sm (by decide))
local macro_rules | `(tactic| tm_at "dc") => `(tactic| ((with_reducible show CFH.S_law_take _ _ _); refine CFH.take_i (by assumption) (by omega) (by tm_at "dpos") (by tm_at "dlog") (fun _ _ _ _ _ => ?_)))
local macro_rules | `(tactic| tm_at "dc") => `(tactic| ((with_reducible show CFH.S_law_great _ _ _); refine CFH.great_i (by assumption) (by omega) (fun _ _ _ _ _ => ?_)))
local macro_rules | `(tactic| tm_at "dc") => `(tactic| ((with_reducible show CFH.S_law_whole _ _ _); refine CFH.whole_i ?_))
end CFLy
end

section
set_option Elab.async false
set_option linter.all false
set_option maxRecDepth 100000
set_option maxHeartbeats 4000000
namespace K18
open PySem PySem.Spec PyProof.Rows L2 DL CFH CFCl CFRu CFWd CFBk CFIs CFIj CFIc CFKp
local macro_rules | `(tactic| tm_at "dpos") => `(tactic| first | omega | decide)
local macro_rules | `(tactic| tm_at "dlog") => `(tactic| first | exact log2_sm (by omega) | exact CFH.big_log (by omega) (by omega) | assumption | exact log2_sm (by decide))
local macro_rules | `(tactic| tm_at "dc") => `(tactic| ((with_reducible show CFH.S_law_take _ _ _); refine CFH.take_i (by assumption) (by omega) (by tm_at "dpos") (by tm_at "dlog") (fun _ _ _ _ _ => ?_)))
local macro_rules | `(tactic| tm_at "dc") => `(tactic| ((with_reducible show CFH.S_law_great _ _ _); refine CFH.great_i (by assumption) (by omega) (fun _ _ _ _ _ => ?_)))
local macro_rules | `(tactic| tm_at "dc") => `(tactic| ((with_reducible show CFH.S_law_whole _ _ _); refine CFH.whole_i ?_))
local macro_rules | `(tactic| tm_at "dpos") => `(tactic| first | omega | decide)
local macro_rules | `(tactic| tm_at "dlog") => `(tactic| first | exact log2_sm (by omega) | exact CFH.big_log (by omega) (by omega) | assumption | exact log2_sm (by decide))
local macro_rules | `(tactic| tm_at "dc") => `(tactic| ((with_reducible show CFH.S_law_take _ _ _); refine CFH.take_i (by assumption) (by omega) (by tm_at "dpos") (by tm_at "dlog") (fun _ _ _ _ _ => ?_)))
local macro_rules | `(tactic| tm_at "dc") => `(tactic| ((with_reducible show CFH.S_law_great _ _ _); refine CFH.great_i (by assumption) (by omega) (fun _ _ _ _ _ => ?_)))
local macro_rules | `(tactic| tm_at "dc") => `(tactic| ((with_reducible show CFH.S_law_whole _ _ _); refine CFH.whole_i ?_))
local macro_rules | `(tactic| tm_at "dh") => `(tactic| first | ((with_reducible show ite _ _ _); first | (with_reducible refine DL.ifb_t (by with_reducible assumption) ?_) | (with_reducible refine DL.ifb_f (by with_reducible assumption) ?_)) | fail "dk")
local macro_rules | `(tactic| tm_at "do") => `(tactic| with_reducible assumption)
theorem lcK_dj {α : Type} {inj : α → D} {T : List Nat} {wg : WG} {wt : WT} {we : WE} {k : List D → Rho → Prop} {ρ : Rho} (ds : List D) (I : List α → Rho → Prop) (h : I [] ρ) (h0 : ∀ xs ρ, xs.length = ds.length → I xs ρ → k (xs.map inj) ρ)
    (h1 : ∀ (xs : List α) (d : D) (ρ : Rho) (next : List D → Rho → Prop), ds[xs.length]? = some d → (∀ x ρ', I (xs ++ [x]) ρ' → next (xs.map inj ++ [inj x]) ρ') → I xs ρ → wg d ρ fun ρ1 => wt ρ1 (fun b ρ2 => if b = true then we ρ2 (fun c ρ3 => match frzC c with
      | .v d' => next (xs.map inj ++ [d']) (clr T ρ3)
      | _ => False) (fun _ _ => False) else next (xs.map inj) (clr T ρ2)) (fun _ _ => False)) : lcK T wg wt we ds [] ρ k :=
  lcK_ind (fun es acc ρ => ∃ xs, acc = xs.map inj ∧ xs.length ≤ ds.length ∧ ds.drop xs.length = es ∧ I xs ρ) (fun acc ρ z => by
      obtain ⟨xs, rfl, e, e2, i⟩ := z
      have := List.drop_eq_nil_iff.mp e2
      exact h0 xs ρ (by omega) i) (fun d es acc ρ next hn z => by
      obtain ⟨xs, rfl, e, e2, i⟩ := z
      have l : xs.length < ds.length := by
        rcases Nat.lt_or_ge xs.length ds.length with y | y
        · exact y
        · rw [List.drop_of_length_le y] at e2; cases e2
      rw [List.drop_eq_getElem_cons l] at e2
      obtain ⟨e3, e4⟩ := List.cons.inj e2
      exact h1 xs d ρ next (by rw [← e3]; exact List.getElem?_eq_getElem l) (fun x ρ' y => hn _ _ ⟨xs ++ [x], by rw [List.map_append]; rfl, by rw [List.length_append, List.length_singleton]; omega, by rw [List.length_append, List.length_singleton]; exact e4, y⟩) i) ds [] ρ ⟨[], rfl, Nat.zero_le _, rfl, h⟩
theorem ok_law_is_whole : ∀ as QD ED, S_law_is_whole as QD ED → w_law_is_whole (bodyEnds as QD fun _ _ => False) (startD n_law_is_whole as) := CFIs.ok_is_whole
theorem ok_law_covered : ∀ as QD ED, S_law_covered as QD ED → w_law_covered (bodyEnds as QD fun _ _ => False) (startD n_law_covered as) := by
  rintro as QD ED ⟨c, t, rfl, q⟩
  unfold n_law_covered w_law_covered
  have m2 := chg_m2 (c := c)
  tm_at "dstart"
  tm_at "dl"
  refine ⟨c, t, rfl, ?_⟩
  cases ee : c.e with
  | none =>
    have m1 : atI (chgL c) (-1) = some .none := by rw [chg_m1, ee]
    have cv : CFTd.coversL c t = decide (c.b ≤ t) := by unfold CFTd.coversL; rw [ee]; exact Bool.and_true _
    rw [cv]
    tm_at "dl"
    · rw [decide_eq_true ‹c.b ≤ t›]; exact q
    · rw [decide_eq_false (Int.not_le.mpr ‹t < c.b›)]; exact q
  | some e =>
    have m1 : atI (chgL c) (-1) = some (.int e) := by rw [chg_m1, ee]
    have cv : CFTd.coversL c t = (decide (c.b ≤ t) && decide (t < e)) := by unfold CFTd.coversL; rw [ee]
    rw [cv]
    tm_at "dl"
    · show QD (C.v (PyData.bool ((PyData.bool (decide (c.b ≤ t) && decide (t < e))).eqv (PyData.bool (decide (t < e)))))) _
      rw [decide_eq_true ‹c.b ≤ t›]
      cases decide (t < e) <;> exact q
    · rw [decide_eq_false (Int.not_le.mpr ‹t < c.b›)]; exact q
theorem sum_ones : ∀ cs : List Nat, (cs.map ((fun x : Str => x.length) ∘ fun c => (⟨#[c]⟩ : Str))).sum = cs.length
  | [] => rfl
  | c :: cs => by rw [List.map_cons, List.sum_cons, sum_ones cs, List.length_cons]; show 1 + _ = _; omega
theorem ok_law_word : ∀ as QD ED, S_law_word as QD ED → w_law_word (bodyEnds as QD fun _ _ => False) (startD n_law_word as) := by
  rintro as QD ED ⟨h, n, rfl, ho, hn, q⟩
  unfold n_law_word w_law_word
  tm_at "dstart"
  tm_at "dl"
  rename_i h1 x o1 x0 x8
  refine lcK_dj (inj := fun c : Nat => PyData.str ⟨#[c]⟩) _ (fun cs ρ => ∃ h' : Hd, h'.ok (n + 1 + cs.length) ∧ (∀ c ∈ cs, c ∈ signs.cps.toList) ∧ ρ = [hc h', .v (.str signs), .no, .no]) ⟨h1, o1, (fun c hc => nomatch hc), rfl⟩ ?_ ?_
  · rintro cs ρ hl ⟨h2, o2, hs, rfl⟩
    rw [rangeD_len] at hl
    have l1 : 1 ≤ cs.length := by omega
    have l8 : cs.length ≤ 8 := by omega
    have q := q h2 _ (o2.up (by omega)) (wd_sg l1 l8 hs)
    rw [← join_sg] at q
    have es : strsOf (cs.map fun c => PyData.str ⟨#[c]⟩) = some (cs.map fun c => (⟨#[c]⟩ : Str)) := by
      rw [show (cs.map fun c => PyData.str ⟨#[c]⟩) = (cs.map fun c => (⟨#[c]⟩ : Str)).map PyData.str by rw [List.map_map]; rfl]
      exact strsOf_map _
    have sm : ((cs.map fun c => (⟨#[c]⟩ : Str)).map (fun x => x.length)).sum + (cs.map fun c => (⟨#[c]⟩ : Str)).length * (Str.ofString "").length ≤ 16777216 := by
      rw [List.map_map, List.length_map, show (Str.ofString "").length = 0 by decide +kernel, Nat.mul_zero, Nat.add_zero, sum_ones]
      omega
    tm_at "dl"
    exact q
  · rintro cs d ρ next hd hnx ⟨h2, o2, hs, rfl⟩
    have hl : cs.length < 8 := by
      have := (List.getElem?_eq_some_iff.mp hd).1
      rw [rangeD_len] at this
      omega
    have sgz := sg_sz
    clear q
    tm_at "dl"
    rename_i h3 y o3 y0 y36
    obtain ⟨j, rfl⟩ := Int.eq_ofNat_of_zero_le y0
    have hj : j < 36 := by omega
    refine optK_of (L2.atI_nat (sg_at hj)) ?_
    tm_at "dl"
    refine hnx (sgAt j) _ ⟨h3, o3.up (by rw [List.length_append, List.length_singleton]; omega), fun c hc => ?_, rfl⟩
    rcases List.mem_append.mp hc with z | z
    · exact hs c z
    · rw [List.mem_singleton.mp z]; exact sg_mem hj
def w_gt : WS := (wSeq (wSetF 4 (wCall CFH.S_law_pick (wCons (wPk 0) (wCons (wL oLst (wCons (wC (.str "away")) (wCons (wC (.str "for")) (wCons (wC (.str "on")) wNil)))) wNil))))
    (wSeq (wIf (wTst (wB oEq (wVar 4) (wC (.str "for"))))
    (wSeq (wSetF 5 (wCall S_law_word (wCons (wPk 0) wNil)))
    (wSeq (wSetF 6 (wCall S_law_word (wCons (wPk 0) wNil)))
    (wSeq (wIf (wTst (wB oEq (wCall CFH.S_law_take (wCons (wPk 0) (wCons (wC (.int 6)) wNil))) (wC (.int 0))))
    (wSetF 6 (wVar 5))
    wNext)
    (wRet (wL oTup (wCons (wVar 4) (wCons (wVar 5) (wCons (wVar 6) (wCons (wVar 1) (wCons (wVar 3) wNil))))))))))
    wNext)
    (wRet (wL oTup (wCons (wVar 4) (wCons (wCall S_law_word (wCons (wPk 0) wNil)) (wCons (wVar 1) (wCons (wVar 3) wNil))))))))
def w_law_good1 : WS := wSeq (wSetF 1 (wCall CFCh.S_law_moment (wCons (wPk 0) wNil)))
    (wSeq (wSetF 2 (wCall CFH.S_law_take (wCons (wPk 0) (wCons (wC (.int 6)) wNil))))
    (wSeq (wSetF 3 (wB oAdd (wB oAdd (wVar 1) (wC (.int 1))) (wCall CFH.S_law_take (wCons (wPk 0) (wCons (wC (.int 3000)) wNil)))))
    (wSeq (wIf (wTst (wB oEq (wVar 2) (wC (.int 0))))
    (wSetF 3 (wC .none))
    (wIf (wTst (wB oEq (wVar 2) (wC (.int 1))))
    (wSetF 3 (wB oSub (wB oAdd (wVar 1) (wCall CFH.S_law_take (wCons (wPk 0) (wCons (wC (.int 3)) wNil)))) (wC (.int 1))))
    (wIf (wTst (wB oEq (wVar 2) (wC (.int 2))))
    (wSetF 3 (wB oSub (wB oPow (wC (.int 10)) (wC (.int 60))) (wCall CFH.S_law_take (wCons (wPk 0) (wCons (wC (.int 2)) wNil)))))
    wNext)))
    w_gt)))
theorem good_tail {h0 h : Hd} {n k : Nat} {b : Int} {way e : D} {QD : C → Rho → Prop} (ho : h.ok k) (hk : k ≤ n + 20) (hn : n ≤ 700000) (he : Prt 0 e) (le : lfree e = true) (q : ∀ (h' : Hd) (ds : List D), h'.ok (n + 60) → Gd ds → QD (.v (.tuple ds)) [hc h']) :
    w_gt (bodyEnds [hc h0] QD fun _ _ => False) [hc h, .v (.int b), .v way, .v e, .no, .no, .no] := by
  unfold w_gt
  tm_at "dl"
  refine pick_i ho (by omega) (by decide) (by decide) fun h1 d o1 hd => ?_
  have pb : Prt 0 (.int b) := Prt.int
  simp only [List.mem_cons, List.not_mem_nil, or_false] at hd
  rcases hd with rfl | rfl | rfl
  · have ef : PyData.eqv (.str "away") (.str "for") = false := by decide +kernel
    have pk : Prt 0 (.str "away") := Prt.str (by decide +kernel) (by decide +kernel) (by decide)
    tm_at "dl"
    refine ⟨h1, k + 1, rfl, o1, by omega, fun h2 w o2 hw => ?_⟩
    have q := q h2 [.str "away", .str w, .int b, e] (o2.up (by omega)) ⟨Nat.le_of_ble_eq_true rfl, Nat.le_of_ble_eq_true rfl, fun x hx => by
      simp only [List.mem_cons, List.not_mem_nil, or_false] at hx
      rcases hx with rfl | rfl | rfl | rfl
      · exact pk
      · exact Prt.wd hw (by decide)
      · exact pb
      · exact he, by simp [lfree, lfree.lfreeAll, le]⟩
    tm_at "dl"
    exact q
  · have ef : PyData.eqv (.str "for") (.str "for") = true := by decide +kernel
    have pk : Prt 0 (.str "for") := Prt.str (by decide +kernel) (by decide +kernel) (by decide)
    tm_at "dl"
    refine ⟨h1, k + 1, rfl, o1, by omega, fun h2 w o2 hw => ?_⟩
    tm_at "dl"
    refine ⟨h2, k + 1 + 9, rfl, o2, by omega, fun h3 w2 o3 hw2 => ?_⟩
    have q : ∀ (h' : Hd) (v : Str), h'.ok (n + 60) → WordOk v → QD (.v (.tuple [.str "for", .str w, .str v, .int b, e])) [hc h'] := fun h' v o' hv => q h' _ o' ⟨Nat.le_of_ble_eq_true rfl, Nat.le_of_ble_eq_true rfl, fun x hx => by
      simp only [List.mem_cons, List.not_mem_nil, or_false] at hx
      rcases hx with rfl | rfl | rfl | rfl | rfl
      · exact pk
      · exact Prt.wd hw (by decide)
      · exact Prt.wd hv (by decide)
      · exact pb
      · exact he, by simp [lfree, lfree.lfreeAll, le]⟩
    tm_at "dl"
    · exact q _ _ (Hd.ok.up ‹_› (by omega)) hw
    · exact q _ _ (Hd.ok.up ‹_› (by omega)) hw2
  · have ef : PyData.eqv (.str "on") (.str "for") = false := by decide +kernel
    have pk : Prt 0 (.str "on") := Prt.str (by decide +kernel) (by decide +kernel) (by decide)
    tm_at "dl"
    refine ⟨h1, k + 1, rfl, o1, by omega, fun h2 w o2 hw => ?_⟩
    have q := q h2 [.str "on", .str w, .int b, e] (o2.up (by omega)) ⟨Nat.le_of_ble_eq_true rfl, Nat.le_of_ble_eq_true rfl, fun x hx => by
      simp only [List.mem_cons, List.not_mem_nil, or_false] at hx
      rcases hx with rfl | rfl | rfl | rfl
      · exact pk
      · exact Prt.wd hw (by decide)
      · exact pb
      · exact he, by simp [lfree, lfree.lfreeAll, le]⟩
    tm_at "dl"
    exact q
theorem ok_law_good : ∀ as QD ED, S_law_good as QD ED → w_law_good (bodyEnds as QD fun _ _ => False) (startD n_law_good as) := by
  rintro as QD ED ⟨h, n, rfl, ho, hn, q⟩
  rw [show w_law_good = w_law_good1 from rfl]
  unfold n_law_good w_law_good1
  tm_at "dstart"
  tm_at "dl"
  refine ⟨h, n, rfl, ho, by omega, fun h1 b o1 b0 b1 => ?_⟩
  tm_at "dl"
  all_goals first
    | exact good_tail (by assumption) (by omega) (by omega) Prt.non rfl q
    | exact good_tail (by assumption) (by omega) (by omega) Prt.int rfl q
theorem Prt.cst {m : Nat} {d : D} (h1 : sml d = true) (h2 : PyData.canLay0 d = true) (h3 : d.depth ≤ 5) (h4 : (match d with
  | .str s => decide (s.length ≤ 12)
  | _ => true) = true) : Prt m d := ⟨h1, .inr ⟨h2, h3⟩, fun s e => by
    subst e
    have := of_decide_eq_true h4
    omega⟩
theorem ok_law_odd : ∀ as QD ED, S_law_odd as QD ED → w_law_odd (bodyEnds as QD fun _ _ => False) (startD n_law_odd as) := by
  rintro as QD ED ⟨h, n, m, d, rfl, ho, hn, pd, hm, q⟩
  unfold n_law_odd w_law_odd
  tm_at "dstart"
  tm_at "dl"
  · refine pick_i (by assumption) (by omega) (Nat.zero_lt_succ _) (Nat.le_of_ble_eq_true rfl) fun h2 e o2 he => ?_
    have pe : Prt (m + 1) e := by
      simp only [List.mem_cons, List.not_mem_nil, or_false] at he
      rcases he with rfl | rfl | rfl | rfl | rfl | rfl | rfl <;> first | exact Prt.bl | exact Prt.non | exact Prt.int
    have q := q h2 e (o2.up (by omega)) pe
    tm_at "dl"
    exact q
  · refine pick_i (by assumption) (by omega) (Nat.zero_lt_succ _) (Nat.le_of_ble_eq_true rfl) fun h2 e o2 he => ?_
    have pe : Prt (m + 1) e := by
      simp only [List.mem_cons, List.not_mem_nil, or_false] at he
      rcases he with rfl | rfl | rfl | rfl | rfl | rfl | rfl | rfl | rfl | rfl | rfl | rfl <;> exact Prt.cst (by decide +kernel) (by decide +kernel) (by decide +kernel) (by decide +kernel)
    have q := q h2 e (o2.up (by omega)) pe
    tm_at "dl"
    exact q
  · refine pick_i (by assumption) (by omega) (Nat.zero_lt_succ _) (Nat.le_of_ble_eq_true rfl) fun h2 e o2 he => ?_
    have pe : Prt (m + 1) e := by
      simp only [List.mem_cons, List.not_mem_nil, or_false] at he
      rcases he with rfl | rfl | rfl | rfl | rfl | rfl <;> first | exact Prt.dic | exact Prt.cst (by decide +kernel) (by decide +kernel) (by decide +kernel) (by decide +kernel)
    have q := q h2 e (o2.up (by omega)) pe
    tm_at "dl"
    exact q
  · have pe : Prt (m + 1) (.tuple [.str "away", .str "a", .int 1, .int 2]) := Prt.cst (by decide +kernel) (by decide +kernel) (by decide +kernel) (by decide +kernel)
    exact q _ _ (Hd.ok.up ‹_› (by omega)) pe
  · obtain ⟨s, rfl⟩ := isT_str ‹isT "str" d = true›
    have st := pd.st s rfl
    have ca := pd.word
    have sz : s.length ≤ sizeLine := by rw [sizeLine_eq]; omega
    tm_at "dl"
    refine pick_i (by assumption) (by omega) (Nat.zero_lt_succ _) (Nat.le_of_ble_eq_true rfl) fun h2 e o2 he => ?_
    obtain ⟨c, rfl, c1, c2⟩ : ∃ c : Str, e = .str c ∧ c.length = 1 ∧ PyData.canLay0 (.str c) = true := by
      simp only [List.mem_cons, List.not_mem_nil, or_false] at he
      rcases he with rfl | rfl | rfl | rfl | rfl | rfl <;> exact ⟨_, rfl, by decide +kernel, by decide +kernel⟩
    clear he
    rename_i x _ x0 x1
    obtain ⟨l, rfl⟩ : ∃ l, s = T l := ⟨_, T_of s⟩
    obtain ⟨k, rfl⟩ := Int.eq_ofNat_of_zero_le x0
    rw [T_len] at st x1
    have hk : k ≤ l.length := by omega
    have e1 : (cutS (T l) none (some (k : Int))).length = k := by rw [T_take hk, T_len, List.length_take]; omega
    have e2 : (cutS (T l) (some (k : Int)) none).length = l.length - k := by rw [T_drop hk, T_len, List.length_drop]
    have z1 : (cutS (T l) none (some (k : Int))).length + c.length ≤ sizeLine := by rw [sizeLine_eq]; omega
    have z2 : (cutS (T l) none (some (k : Int)) ++ c).length + (cutS (T l) (some (k : Int)) none).length ≤ sizeLine := by rw [K18.app_len, sizeLine_eq]; omega
    have pe : Prt (m + 1) (.str (cutS (T l) none (some (k : Int)) ++ c ++ cutS (T l) (some (k : Int)) none)) :=
      Prt.str (can_app (can_app (can_cut ca) c2) (can_cut ca)) (by rw [K18.app_len, K18.app_len]; omega) (by omega)
    have q := q h2 _ (o2.up (by omega)) pe
    tm_at "dl"
    exact q
  · refine pick_i (by assumption) (by omega) (Nat.zero_lt_succ _) (Nat.le_of_ble_eq_true rfl) fun h2 e o2 he => ?_
    obtain ⟨j, rfl⟩ : ∃ j : Int, e = .int j := by
      simp only [List.mem_cons, List.not_mem_nil, or_false] at he
      rcases he with rfl | rfl | rfl <;> exact ⟨_, rfl⟩
    clear he
    have q : ∀ i : Int, QD (.v (.int i)) [hc h2, .v d] := fun i => q h2 _ (o2.up (by omega)) Prt.int
    cases d with
    | int i => tm_at "dl"; exact q _
    | bool b => tm_at "dl"; exact q _
    | _ => exact absurd ‹isT "int" _ = true› (fun z => by cases z)
  · refine ⟨_, _, rfl, by assumption, by omega, fun h1 b o1 b0 b1 => ?_⟩
    have q := q h1 (.int b) (o1.up (by omega)) Prt.int
    tm_at "dl"
    exact q
theorem ok_law_spoilt : ∀ as QD ED, S_law_spoilt as QD ED → w_law_spoilt (bodyEnds as QD fun _ _ => False) (startD n_law_spoilt as) := by
  rintro as QD ED ⟨h, n, ds, rfl, ho, hn, gd, q1, q2⟩
  unfold n_law_spoilt w_law_spoilt
  have d5 := gd.1
  have d4 := gd.2.1
  have lfd := gd.2.2.2
  have szd : ds.length ≤ sizeLine := by rw [sizeLine_eq]; omega
  tm_at "dstart"
  tm_at "dl"
  · rename_i h1 x o1 x0 x8 _
    have l2 : (rangeD 0 (1 + x / 4).toNat).length ≤ 2 := by rw [rangeD_len]; omega
    clear q2
    refine forK_ind (fun es ρ => ∃ (h' : Hd) (row : List D) (j : Nat) (c4 c5 : C), h'.ok (n + 1 + 10 * j) ∧ j + es.length ≤ 2 ∧ (∀ d ∈ row, Prt j d) ∧ row.length = ds.length ∧ ρ = [hc h', .v (.tuple ds), .own 0 (.lst row), .v (.int x), c4, c5]) ?_ ?_ _ _ ⟨h1, ds, 0, _, _, o1, by omega, gd.2.2.1, rfl, rfl⟩
    · rintro ρ ⟨h2, row, j, c4, c5, o2, hj, hr, hl, rfl⟩
      have q := q1 h2 row (o2.up (by simp only [List.length_nil] at hj; omega)) fun d hd => (hr d hd).up (by simp only [List.length_nil] at hj; omega)
      have szr : row.length ≤ sizeLine := by rw [hl]; exact szd
      tm_at "dl"
      exact q
    · rintro e es ρ next hnx ⟨h2, row, j, c4, c5, o2, hj, hr, hl, rfl⟩
      rw [List.length_cons] at hj
      clear q1
      tm_at "dl"
      rename_i h3 y o3 y0 y1
      obtain ⟨k, rfl⟩ := Int.eq_ofNat_of_zero_le y0
      have hk : k < row.length := by omega
      have ed : row[k]? = some row[k] := List.getElem?_eq_getElem hk
      have pd := hr _ (List.getElem_mem hk)
      refine optK_of (L2.atI_nat ed) ?_
      tm_at "dl"
      refine ⟨h3, _, j, row[k], rfl, o3, by omega, pd, by omega, fun h4 e2 o4 pe => ?_⟩
      tm_at "dl"
      refine optK_of (setI_nat hk) ?_
      refine hnx _ ⟨h4, _, j + 1, _, _, o4.up (by omega), by omega, fun d hd => ?_, ?_, rfl⟩
      · rcases List.mem_or_eq_of_mem_set hd with z | z
        · exact (hr d z).up (by omega)
        · rw [z]; exact pe
      · rw [List.length_set]; exact hl
  · rename_i x _ _ _
    have pc : ∀ lo hi, ∀ d ∈ DL.cutD ds lo hi, Prt 50 d := fun lo hi d hd => (gd.2.2.1 d (cut_mem hd)).up (by omega)
    refine ⟨fun _ => lfa_cut lfd, ?_⟩
    tm_at "dl"
    refine ⟨fun _ => lfa_cut lfd, ?_⟩
    have a1 := cut_lenD (ds := ds) (lo := none) (hi := some x)
    have a2 := cut_lenD (ds := ds) (lo := some (x + 1)) (hi := none)
    have sz2 : (DL.cutD ds none (some x)).length + (DL.cutD ds (some (x + 1)) none).length ≤ sizeLine := by rw [sizeLine_eq]; omega
    have sz3 : (DL.cutD ds none (some x) ++ DL.cutD ds (some (x + 1)) none).length ≤ sizeLine := by rw [List.length_append, sizeLine_eq]; omega
    have q := q1 _ (DL.cutD ds none (some x) ++ DL.cutD ds (some (x + 1)) none) (Hd.ok.up ‹_› (by omega)) fun d hd => (List.mem_append.mp hd).elim (pc _ _ d) (pc _ _ d)
    tm_at "dl"
    exact q
  · rename_i x _ x0 x1
    have pc : ∀ lo hi, ∀ d ∈ DL.cutD ds lo hi, Prt 50 d := fun lo hi d hd => (gd.2.2.1 d (cut_mem hd)).up (by omega)
    refine ⟨fun _ => lfa_cut lfd, ?_⟩
    tm_at "dl"
    refine pick_i (by assumption) (by omega) (by omega) (by omega) fun h2 e o2 he => ?_
    have le : lfree e = true := lfa_iff.mp lfd e he
    have pe := gd.2.2.1 e he
    tm_at "dl"
    refine ⟨h2, _, 0, e, rfl, o2, by omega, pe, by omega, fun h3 e2 o3 pe2 => ?_⟩
    have a1 := cut_lenD (ds := ds) (lo := none) (hi := some x)
    have a2 := cut_lenD (ds := ds) (lo := some x) (hi := none)
    have sz2 : (DL.cutD ds none (some x)).length + [e2].length ≤ sizeLine := by rw [sizeLine_eq, List.length_singleton]; omega
    have sz3 : (DL.cutD ds none (some x) ++ [e2]).length + (DL.cutD ds (some x) none).length ≤ sizeLine := by rw [List.length_append, sizeLine_eq, List.length_singleton]; omega
    have sz4 : (DL.cutD ds none (some x) ++ [e2] ++ DL.cutD ds (some x) none).length ≤ sizeLine := by rw [List.length_append, List.length_append, sizeLine_eq, List.length_singleton]; omega
    have q := q1 h3 (DL.cutD ds none (some x) ++ [e2] ++ DL.cutD ds (some x) none) (o3.up (by omega)) fun d hd => by
      rcases List.mem_append.mp hd with z | z
      · rcases List.mem_append.mp z with z | z
        · exact pc _ _ d z
        · rw [List.mem_singleton.mp z]; exact pe2.up (by omega)
      · exact pc _ _ d z
    tm_at "dl"
    refine ⟨fun _ => lfa_cut lfd, ?_⟩
    tm_at "dl"
    exact q
  · exact q2 _ _ (Hd.ok.up ‹_› (by omega)) fun d hd => (gd.2.2.1 d hd).up (by omega)
theorem ok_law_is_word : ∀ as QD ED, S_law_is_word as QD ED → w_law_is_word (bodyEnds as QD fun _ _ => False) (startD n_law_is_word as) := by
  rintro as QD ED ⟨d, rfl, hs, q⟩
  unfold n_law_is_word w_law_is_word
  tm_at "dstart"
  tm_at "dl"
  · rw [isWd_no ‹_›] at q
    exact q
  obtain ⟨s, rfl⟩ := isT_str ‹_›
  have sl := sml_str hs
  have sz : s.length ≤ sizeLine := Nat.le_trans sl (Nat.le_of_ble_eq_true rfl)
  tm_at "dl"
  · rw [isWd_bad (by omega)] at q
    exact q
  · rw [isWd_bad (by omega)] at q
    exact q
  rw [isWd_at (by omega)] at q
  clear hs sl
  refine forK_ind (fun es ρ => (∀ x ∈ es, x ∈ strD s) ∧ ∃ c1 : C, ρ = [.v (.str s), c1] ∧ QD (.v (.bool (es.all sgOk))) [.v (.str s)]) ?_ ?_ _ _ ⟨fun _ h => h, _, rfl, q⟩
  · rintro ρ ⟨_, c1, rfl, q⟩
    tm_at "dl"
    exact q
  · rintro x es ρ next hnx ⟨hx, c1, rfl, q⟩
    obtain ⟨c, rfl⟩ : ∃ c : Nat, x = .str ⟨#[c]⟩ := by
      have := hx x (.head _)
      unfold strD at this
      obtain ⟨c, _, e⟩ := List.mem_map.mp this
      exact ⟨c, e.symm⟩
    have q : QD (.v (.bool (inS ⟨#[c]⟩ (Str.ofString "abcdefghijklmnopqrstuvwxyz0123456789") && es.all sgOk))) _ := q
    tm_at "dl"
    · rw [‹inS _ _ = false›, Bool.false_and] at q
      exact q
    · rw [‹inS _ _ = true›, Bool.true_and] at q
      exact hnx _ ⟨fun y hy => hx y (.tail _ hy), _, rfl, q⟩
def w_sp : WS := (wSeq (wPar 1 2 (wCons (wB oIx (wVar 0) (wU oNeg (wC (.int 2)))) (wCons (wB oIx (wVar 0) (wU oNeg (wC (.int 1)))) wNil)))
    (wSeq (wIf (wOr (wNot (wTst (wCall S_law_is_whole (wCons (wVar 1) wNil)))) (wOr (wTst (wB oLt (wVar 1) (wC (.int 0)))) (wTst (wB oGe (wVar 1) (wB oPow (wC (.int 10)) (wC (.int 60)))))))
    (wRet (wC (.bool false)))
    wNext)
    (wSeq (wIf (wTst (wU oIsN (wVar 2)))
    (wRet (wC (.bool true)))
    wNext)
    (wRet (wAndV (wCall S_law_is_whole (wCons (wVar 2) wNil)) (wAndV (wB oLt (wVar 1) (wVar 2)) (wB oLt (wVar 2) (wB oPow (wC (.int 10)) (wC (.int 60))))))))))
def w_law_is_so1 : WS := wSeq (wIf (wOr (wNot (wTst (wU (oIsi "tuple") (wVar 0)))) (wTst (wB oNotIn (wL oLen (wCons (wVar 0) wNil)) (wL oTup (wCons (wC (.int 4)) (wCons (wC (.int 5)) wNil))))))
    (wRet (wC (.bool false)))
    wNext)
    (wSeq (wIf (wOr (wNot (wTst (wU (oIsi "str") (wB oIx (wVar 0) (wC (.int 0)))))) (wTst (wB oNotIn (wB oIx (wVar 0) (wC (.int 0))) (wL oTup (wCons (wC (.str "away")) (wCons (wC (.str "for")) (wCons (wC (.str "on")) wNil)))))))
    (wRet (wC (.bool false)))
    wNext)
    (wSeq (wIf (wTst (wB oNe (wL oLen (wCons (wVar 0) wNil)) (wB oAdd (wC (.int 4)) (wL oInt1 (wCons (wB oEq (wB oIx (wVar 0) (wC (.int 0))) (wC (.str "for"))) wNil)))))
    (wRet (wC (.bool false)))
    wNext)
    (wSeq (wIf (wNot (wTst (wL oAll (wCons (wLcB [4] (wISeq (wSl (wVar 0) (wPart (wC (.int 1))) (wPart (wU oNeg (wC (.int 2)))))) (wgName 4) wYes (wCall S_law_is_word (wCons (wVar 4) wNil))) wNil))))
    (wRet (wC (.bool false)))
    wNext)
    (wSeq (wIf (wAnd (wTst (wB oEq (wB oIx (wVar 0) (wC (.int 0))) (wC (.str "for")))) (wTst (wB oEq (wB oIx (wVar 0) (wC (.int 1))) (wB oIx (wVar 0) (wC (.int 2))))))
    (wRet (wC (.bool false)))
    wNext)
    w_sp))))
theorem so_tail {ds : List D} {b e : D} {c1 c2 c3 c4 : C} {QD : C → Rho → Prop} (hb : atI ds (-2) = some b) (he : atI ds (-1) = some e) (q : QD (.v (.bool (isSp b e))) [.v (.tuple ds)]) :
    w_sp (bodyEnds [.v (.tuple ds)] QD fun _ _ => False) [.v (.tuple ds), c1, c2, c3, c4] := by
  unfold w_sp
  tm_at "dl"
  refine ⟨b, rfl, ?_⟩
  cases wb : isWh b with
  | false =>
    have hm : isMo b = false := by cases b <;> first | rfl | cases wb
    rw [sp_no hm] at q
    tm_at "dl"
    exact q
  | true =>
    obtain ⟨i, rfl⟩ := isWh_int wb
    have eB : big = 10 ^ Int.toNat 60 := by decide +kernel
    rcases Classical.em (0 ≤ i ∧ i < big) with hi | hi
    · have hm := mo_of hi.1 hi.2
      obtain ⟨i0, i1⟩ := hi
      cases e with
      | none =>
        rw [sp_none, hm] at q
        tm_at "dl"
        all_goals first | exact q | (exfalso; omega)
      | int j =>
        have q : QD (.v (.bool (isMo (.int i) && (isMo (.int j) && decide (i < j))))) _ := q
        rw [hm, Bool.true_and] at q
        tm_at "dl"
        all_goals try (exfalso; omega)
        refine ⟨.int j, rfl, ?_⟩
        have wj : isWh (.int j) = true := rfl
        rw [wj]
        tm_at "dl"
        · have e : (isMo (.int j) && decide (i < j)) = decide (j < 10 ^ Int.toNat 60) := by
            rw [decide_eq_true ‹i < j›, Bool.and_true]
            exact decide_eq_decide.mpr ⟨fun h => by omega, fun h => by omega⟩
          rw [e] at q
          exact q
        · rw [decide_eq_false (Int.not_lt.mpr ‹j ≤ i›), Bool.and_false] at q
          exact q
      | _ =>
        have q : QD (.v (.bool (isMo (.int i) && (isMo _ && false)))) _ := q
        rw [Bool.and_false, Bool.and_false] at q
        tm_at "dl"
        all_goals try (exfalso; omega)
        refine ⟨_, rfl, ?_⟩
        simp only [isWh]
        tm_at "dl"
        exact q
    · have hm : isMo (.int i) = false := decide_eq_false hi
      rw [sp_no hm] at q
      tm_at "dl"
      all_goals first | exact q | (exfalso; exact hi ⟨by omega, by omega⟩)
theorem mem_three {s : Str} : memD (.str s) [.str "away", .str "for", .str "on"] = (decide (s = "away") || (decide (s = "for") || decide (s = "on"))) := by
  show (PyData.eqv (.str "away") (.str s) || (PyData.eqv (.str "for") (.str s) || (PyData.eqv (.str "on") (.str s) || false))) = _
  rw [CFTd.eqv_str, CFTd.eqv_str, CFTd.eqv_str, Bool.or_false]
  congr 1
  · exact decide_eq_decide.mpr ⟨Eq.symm, Eq.symm⟩
  · congr 1 <;> exact decide_eq_decide.mpr ⟨Eq.symm, Eq.symm⟩
theorem mem45 {n : Nat} : memD (.int n) [.int 4, .int 5] = (decide (n = 4) || decide (n = 5)) := by
  show ((4 : Int) == n || ((5 : Int) == n || false)) = _
  rw [Bool.or_false]
  congr 1
  · rw [Bool.eq_iff_iff, beq_iff_eq, decide_eq_true_iff]; omega
  · rw [Bool.eq_iff_iff, beq_iff_eq, decide_eq_true_iff]; omega
set_option hygiene false in
local macro_rules | `(tactic| tm_at "kl") => `(tactic| first | exact absurd (m1.symm.trans ‹memD (PyData.str _) _ = false›) (by decide) | exact absurd (m1.symm.trans ‹memD (PyData.str _) _ = true›) (by decide) | exact absurd ‹¬ _ = (4 : Int) + _› (by rw [ef]; decide) | exact absurd ‹_ = (4 : Int) + _› (by rw [ef]; decide))
theorem ok_law_is_so : ∀ as QD ED, S_law_is_so as QD ED → w_law_is_so (bodyEnds as QD fun _ _ => False) (startD n_law_is_so as) := by
  rintro as QD ED ⟨d, rfl, sm, ly, q⟩
  rw [show w_law_is_so = w_law_is_so1 from rfl]
  unfold n_law_is_so w_law_is_so1
  tm_at "dstart"
  tm_at "dl"
  all_goals try (rw [ch_no ‹isT "tuple" d = false›] at q; exact q)
  obtain ⟨ds, rfl⟩ := isT_tup ‹_›
  have sm := sml_tup.mp sm
  tm_at "dl"
  · rw [ch_len (fun h => by
      have m := mem45 (n := ds.length)
      rw [‹memD _ _ = false›] at m
      have := m.symm
      rw [Bool.or_eq_false_iff] at this
      have a := of_decide_eq_false this.1
      have b := of_decide_eq_false this.2
      omega)] at q
    exact q
  have hl : 4 ≤ ds.length ∧ ds.length ≤ 5 := by
    have m := mem45 (n := ds.length)
    rw [‹memD _ _ = true›] at m
    rcases Bool.or_eq_true_iff.mp m.symm with z | z
    · have := of_decide_eq_true z; omega
    · have := of_decide_eq_true z; omega
  rcases len45 hl with ⟨k, a, b, e, rfl⟩ | ⟨k, a, o, b, e, rfl⟩
  · have sa := sm a (by simp)
    have lk := ly _ rfl k (by simp)
    by_cases hs : ∃ s, k = .str s
    rotate_left
    · have q0 : isCh (.tuple [k, a, b, e]) = false := by rw [ch_4]; cases k <;> first | rfl | exact absurd ⟨_, rfl⟩ hs
      rw [q0] at q
      cases k <;> first | exact absurd ⟨_, rfl⟩ hs | (tm_at "dl"; exact q)
    obtain ⟨s, rfl⟩ := hs
    replace lk : SeqAt.shaped (.str s) = true := lk.elim (fun z => by cases z) Lay.shaped
    rw [ch_4] at q
    have s2 : SeqAt.shaped (.list [.str "away", .str "for", .str "on"]) = true := by decide +kernel
    have s3 : SeqAt.shaped (.str "for") = true := (Lay.str (k := 0) CFLa.s_for).shaped
    have q : QD (.v (.bool ((decide (s = "away") || decide (s = "on")) && (isWd a && isSp b e)))) _ := q
    have ec : DL.cutD [.str s, a, b, e] (some 1) (some (-2)) = [a] := rfl
    by_cases f : s = "for"
    · subst f
      have ef : PyData.eqv (.str "for") (.str "for") = true := by decide +kernel
      have m1 : memD (.str "for") [.str "away", .str "for", .str "on"] = true := by decide +kernel
      rw [show (decide (("for" : Str) = "away") || decide (("for" : Str) = "on")) = false by decide +kernel, Bool.false_and] at q
      tm_at "dl"
      all_goals first | exact q | tm_at "kl" | trace_state
    have ef : PyData.eqv (.str s) (.str "for") = false := by rw [CFTd.eqv_str]; exact decide_eq_false f
    cases hm : (decide (s = "away") || decide (s = "on")) with
    | false =>
      have m1 : memD (.str s) [.str "away", .str "for", .str "on"] = false := by rw [mem_three, decide_eq_false f]; rw [Bool.or_eq_false_iff] at hm; rw [hm.1, hm.2]; rfl
      rw [hm, Bool.false_and] at q
      tm_at "dl"
      all_goals first | exact q | tm_at "kl" | trace_state
    | true =>
      have m1 : memD (.str s) [.str "away", .str "for", .str "on"] = true := by rw [mem_three]; rcases Bool.or_eq_true_iff.mp hm with z | z <;> rw [z] <;> simp
      rw [hm, Bool.true_and] at q
      tm_at "dl"
      all_goals try tm_at "kl"
      rw [ec]
      tm_at "dl"
      refine ⟨a, rfl, sa, ?_⟩
      cases hw : isWd a with
      | false =>
        rw [hw, Bool.false_and] at q
        tm_at "dl"
        all_goals first | exact q | tm_at "kl" | trace_state
      | true =>
        rw [hw, Bool.true_and] at q
        tm_at "dl"
        all_goals first | exact so_tail rfl rfl q | trace_state
  · have sa := sm a (by simp)
    have so := sm o (by simp)
    have lk := ly _ rfl k (by simp)
    have la := ly _ rfl a (by simp)
    have lo := ly _ rfl o (by simp)
    by_cases hs : ∃ s, k = .str s
    rotate_left
    · have q0 : isCh (.tuple [k, a, o, b, e]) = false := by rw [ch_5]; cases k <;> first | rfl | exact absurd ⟨_, rfl⟩ hs
      rw [q0] at q
      cases k <;> first | exact absurd ⟨_, rfl⟩ hs | (tm_at "dl"; exact q)
    obtain ⟨s, rfl⟩ := hs
    replace lk : SeqAt.shaped (.str s) = true := lk.elim (fun z => by cases z) Lay.shaped
    rw [ch_5] at q
    have s2 : SeqAt.shaped (.list [.str "away", .str "for", .str "on"]) = true := by decide +kernel
    have s3 : SeqAt.shaped (.str "for") = true := (Lay.str (k := 0) CFLa.s_for).shaped
    have q : QD (.v (.bool (decide (s = "for") && (isWd o && (!PyData.eqv a o && (isWd a && isSp b e)))))) _ := q
    have ec : DL.cutD [.str s, a, o, b, e] (some 1) (some (-2)) = [a, o] := rfl
    by_cases f : s = "for"
    · subst f
      have ef : PyData.eqv (.str "for") (.str "for") = true := by decide +kernel
      have m1 : memD (.str "for") [.str "away", .str "for", .str "on"] = true := by decide +kernel
      rw [decide_eq_true rfl, Bool.true_and] at q
      tm_at "dl"
      all_goals try tm_at "kl"
      rw [ec]
      tm_at "dl"
      refine ⟨a, rfl, sa, ?_⟩
      cases hwa : isWd a with
      | false =>
        rw [hwa, Bool.false_and, Bool.and_false, Bool.and_false] at q
        tm_at "dl"
        refine ⟨o, rfl, so, ?_⟩
        tm_at "dl"
        all_goals first | exact q | tm_at "kl" | trace_state
      | true =>
        rw [hwa, Bool.true_and] at q
        tm_at "dl"
        refine ⟨o, rfl, so, ?_⟩
        cases hwo : isWd o with
        | false =>
          rw [hwo, Bool.false_and] at q
          tm_at "dl"
          all_goals first | exact q | tm_at "kl" | trace_state
        | true =>
          rw [hwo, Bool.true_and] at q
          have la : SeqAt.shaped a = true := by
            rcases la with rfl | la
            · cases hwa
            · exact la.shaped
          have lo : SeqAt.shaped o = true := by
            rcases lo with rfl | lo
            · cases hwo
            · exact lo.shaped
          cases hv : PyData.eqv a o with
          | true =>
            rw [hv] at q
            have q : QD (.v (.bool false)) _ := q
            tm_at "dl"
            all_goals first | exact q | tm_at "kl" | trace_state
          | false =>
            rw [hv] at q
            have q : QD (.v (.bool (isSp b e))) _ := q
            tm_at "dl"
            all_goals first | exact so_tail rfl rfl q | trace_state
    · rw [decide_eq_false f, Bool.false_and] at q
      have ef : PyData.eqv (.str s) (.str "for") = false := by rw [CFTd.eqv_str]; exact decide_eq_false f
      tm_at "dl"
      all_goals first | exact q | tm_at "kl" | trace_state
def w_alls : WS := (wIf (wNot (wTst (wL oAll (wCons (wLcO 6 [8] (wgName 8) wYes (wCall S_law_covered (wCons (wVar 3) (wCons (wVar 8) wNil)))) wNil))))
    (wRet (wC (.bool false)))
    wNext)
def w_cov : WS := (wIf (wTst (wCall S_law_is_so (wCons (wVar 3) wNil)))
    (wSeq (wSet 6 (wL oLst (wCons (wC (.int 0)) (wCons (wB oIx (wVar 3) (wU oNeg (wC (.int 2)))) (wCons (wB oAdd (wB oIx (wVar 3) (wU oNeg (wC (.int 2)))) (wC (.int 1))) (wCons (wL oMax2 (wCons (wC (.int 0)) (wCons (wB oSub (wB oIx (wVar 3) (wU oNeg (wC (.int 2)))) (wC (.int 1))) wNil))) (wCons (wB oPow (wC (.int 10)) (wC (.int 61))) wNil)))))))
    (wSeq (wIf (wTst (wU oNotN (wB oIx (wVar 3) (wU oNeg (wC (.int 1))))))
    (wDrop (wExt 6 (wL oLst (wCons (wB oIx (wVar 3) (wU oNeg (wC (.int 1)))) (wCons (wB oSub (wB oIx (wVar 3) (wU oNeg (wC (.int 1)))) (wC (.int 1))) (wCons (wB oAdd (wB oIx (wVar 3) (wU oNeg (wC (.int 1)))) (wC (.int 1))) wNil))))))
    wNext)
    w_alls))
    wNext)
def w_law2 : WS := wSeq (wFor (wIR1 (wCons (wL oMax2 (wCons (wC (.int 3)) (wCons (wL oMin2 (wCons (wC (.int 20)) (wCons (wL oLen (wCons (wVar 0) wNil)) wNil))) wNil))) wNil)) (wgName 1)
    (wSeq (wSet 2 (wCall CFH.S_law_hand (wCons (wVar 0) (wCons (wVar 1) wNil))))
    (wSeq (wSetF 3 (wCall S_law_good (wCons (wPk 2) wNil)))
    (wSeq (wForN (wIL (wL oLst (wCons (wVar 3) (wCons (wCall S_law_spoilt (wCons (wPk 2) (wCons (wVar 3) wNil))) wNil)))) (wgName 4)
    (wSeq (wSetF 5 (wCall CFIc.S_is_change (wCons (wVar 4) wNil)))
    (wIf (wOr (wNot (wTst (wU (oIsi "bool") (wVar 5)))) (wTst (wB oNe (wVar 5) (wCall S_law_is_so (wCons (wVar 4) wNil)))))
    (wRet (wC (.bool false)))
    wNext)))
    w_cov))))
    (wRet (wC (.bool true)))
theorem w_law_cut : w_law = w_law2 := rfl
theorem all_const {α : Type} : ∀ l : List α, ((l.map fun _ => true).all id) = true
  | [] => rfl
  | _ :: l => by rw [List.map_cons, List.all_cons, all_const l]; rfl
theorem alls_ok {DD : EndsD} {l k : D} {h : Hd} {c : Chg} {c4 c5 c7 : C} {ts : List Int} (hs : ts.length ≤ 100) (hn : ∀ c6 : C, DD.nx [.v l, .v k, .own 0 (.lst (CFH.hd h)), .v (chgD c), c4, c5, c6, c7, .no]) :
    w_alls DD [.v l, .v k, .own 0 (.lst (CFH.hd h)), .v (chgD c), c4, c5, .own 0 (.lst (ts.map PyData.int)), c7, .no] := by
  unfold w_alls
  have sz : (ts.map PyData.int).length ≤ sizeLine := by rw [List.length_map, sizeLine_eq]; omega
  tm_at "dl"
  refine lcK_ys (inj := PyData.int) (fun _ => PyData.bool true) ts (fun t ht next hnx => ?_) ?_
  · tm_at "dl"
    refine ⟨c, t, rfl, ?_⟩
    tm_at "dl"
    exact hnx
  · tm_at "dl"
    rw [show (ts.map fun _ => PyData.bool true) = (ts.map fun _ => true).map PyData.bool by rw [List.map_map]; rfl]
    refine optK_of (boolsOf_map _) ?_
    rw [show (ts.map fun _ => true).all id = true from all_const ts]
    tm_at "dl"
    exact hn _
theorem cov_ok {DD : EndsD} {l k : D} {h : Hd} {ds : List D} {c4 c5 c6 c7 : C} (tg : Thg (.tuple ds)) (hn : ∀ c6 : C, DD.nx [.v l, .v k, .own 0 (.lst (CFH.hd h)), .v (.tuple ds), c4, c5, c6, c7, .no]) :
    w_cov DD [.v l, .v k, .own 0 (.lst (CFH.hd h)), .v (.tuple ds), c4, c5, c6, c7, .no] := by
  unfold w_cov
  tm_at "dl"
  refine ⟨.tuple ds, rfl, tg.sm, tg.ly, ?_⟩
  cases hc : isCh (.tuple ds) with
  | false =>
    tm_at "dl"
    exact hn _
  | true =>
    obtain ⟨c, e, cok⟩ := ch_get hc
    cases e
    have m2 := chg_m2 (c := c)
    cases ee : c.e with
    | none =>
      have m1 : atI (chgL c) (-1) = some .none := by rw [chg_m1, ee]
      tm_at "dl"
      exact alls_ok (ts := [0, c.b, c.b + 1, if c.b - 1 > 0 then c.b - 1 else 0, 10 ^ Int.toNat 61]) (Nat.le_of_ble_eq_true rfl) hn
    | some e =>
      have m1 : atI (chgL c) (-1) = some (.int e) := by rw [chg_m1, ee]
      tm_at "dl"
      exact alls_ok (ts := [0, c.b, c.b + 1, if c.b - 1 > 0 then c.b - 1 else 0, 10 ^ Int.toNat 61, e, e - 1, e + 1]) (Nat.le_of_ble_eq_true rfl) hn
theorem ok_law : ∀ as QD ED, S_law as QD ED → w_law (bodyEnds as QD fun _ _ => False) (startD n_law as) := by
  rintro as QD ED ⟨ns, rfl, hl, q⟩
  rw [w_law_cut]
  unfold n_law w_law2
  have szn : ns.length ≤ sizeLine := by rw [sizeLine_eq]; omega
  tm_at "dstart"
  tm_at "dl"
  refine forK_st _ (fun ρ => ∃ c1 c2 c3 c4 c5 c6 c7 : C, ρ = [.v (.list (ns.map PyData.int)), c1, c2, c3, c4, c5, c6, c7, .no]) ⟨_, _, _, _, _, _, _, rfl⟩ ?_ ?_
  · rintro ρ ⟨c1, c2, c3, c4, c5, c6, c7, rfl⟩
    tm_at "dl"
    exact q _
  · rintro e he ρ next hnx ⟨c1, c2, c3, c4, c5, c6, c7, rfl⟩
    have hnx := fun a b c d e f g => hnx _ ⟨a, b, c, d, e, f, g, rfl⟩
    obtain ⟨k, rfl, k0, k1⟩ := mem_range he
    clear he
    tm_at "dl"
    refine ⟨ns, k, rfl, k0, by omega, fun h ho => ?_⟩
    tm_at "dl"
    refine ⟨h, 0, rfl, ho, by omega, fun h1 ds o1 gd => ?_⟩
    tm_at "dl"
    have tg := gd.thg
    refine ⟨h1, _, ds, rfl, o1, by omega, gd, fun h2 us o2 hu => ?_, fun h2 us o2 hu => ?_⟩
    · have tu : Thg (.tuple us) := ⟨us, .inl rfl, hu⟩
      tm_at "dl"
      refine forN_of (forK_st _ (fun ρ => ∃ c4 c5 c6 c7 : C, ρ = [.v (.list (ns.map PyData.int)), .v (.int k), .own 0 (.lst (CFH.hd h2)), .v (.tuple ds), c4, c5, c6, c7, .no]) ⟨_, _, _, _, rfl⟩ ?_ ?_)
      · rintro ρ ⟨c4, c5, c6, c7, rfl⟩
        exact cov_ok tg fun _ => hnx _ _ _ _ _ _ _
      · rintro x hx ρ next hnx2 ⟨c4, c5, c6, c7, rfl⟩
        have tx : Thg x := by
          simp only [List.mem_cons, List.not_mem_nil, or_false] at hx
          rcases hx with rfl | rfl
          · exact tg
          · exact tu
        tm_at "dl"
        refine ⟨x, rfl, tx.sm, tx.ly, ?_⟩
        tm_at "dl"
        refine ⟨x, rfl, tx.sm, tx.ly, ?_⟩
        tm_at "dl"
        · exact absurd ‹PyData.eqv _ _ = false› (by cases isCh x <;> decide)
        · exact hnx2 _ ⟨_, _, _, _, rfl⟩
    · have tu : Thg (.list us) := ⟨us, .inr rfl, hu⟩
      tm_at "dl"
      refine forN_of (forK_st _ (fun ρ => ∃ c4 c5 c6 c7 : C, ρ = [.v (.list (ns.map PyData.int)), .v (.int k), .own 0 (.lst (CFH.hd h2)), .v (.tuple ds), c4, c5, c6, c7, .no]) ⟨_, _, _, _, rfl⟩ ?_ ?_)
      · rintro ρ ⟨c4, c5, c6, c7, rfl⟩
        exact cov_ok tg fun _ => hnx _ _ _ _ _ _ _
      · rintro x hx ρ next hnx2 ⟨c4, c5, c6, c7, rfl⟩
        have tx : Thg x := by
          simp only [List.mem_cons, List.not_mem_nil, or_false] at hx
          rcases hx with rfl | rfl
          · exact tg
          · exact tu
        tm_at "dl"
        refine ⟨x, rfl, tx.sm, tx.ly, ?_⟩
        tm_at "dl"
        refine ⟨x, rfl, tx.sm, tx.ly, ?_⟩
        tm_at "dl"
        · exact absurd ‹PyData.eqv _ _ = false› (by cases isCh x <;> decide)
        · exact hnx2 _ ⟨_, _, _, _, rfl⟩
end K18
end

end

set_option Elab.async false
set_option linter.all false
set_option maxRecDepth 100000
set_option maxHeartbeats 4000000

/-! generated: the derivations, the end -/
namespace K18
open PySem PySem.Spec PyProof.Rows L2 DL K18H CFIs CFIj CFIc CFTd CFH CFCh
abbrev N_is_whole : List Str := ["thing"]
abbrev P_is_whole : List Str := ["thing"]
theorem sc_is_whole : FnScope N_is_whole P_is_whole (defScope st_is_whole) := ⟨rfl, rfl, rfl, by decide +kernel, rfl, by decide +kernel, by decide +kernel⟩
abbrev N_is_moment : List Str := ["thing"]
abbrev P_is_moment : List Str := ["thing"]
theorem sc_is_moment : FnScope N_is_moment P_is_moment (defScope st_is_moment) := ⟨rfl, rfl, rfl, by decide +kernel, rfl, by decide +kernel, by decide +kernel⟩
abbrev N_is_word : List Str := ["thing", "#0", "sign"]
abbrev P_is_word : List Str := ["thing"]
theorem sc_is_word : FnScope N_is_word P_is_word (defScope st_is_word) := ⟨rfl, rfl, rfl, by decide +kernel, rfl, by decide +kernel, by decide +kernel⟩
abbrev N_is_span : List Str := ["begin", "end"]
abbrev P_is_span : List Str := ["begin", "end"]
theorem sc_is_span : FnScope N_is_span P_is_span (defScope st_is_span) := ⟨rfl, rfl, rfl, by decide +kernel, rfl, by decide +kernel, by decide +kernel⟩
abbrev N_is_change : List Str := ["thing"]
abbrev P_is_change : List Str := ["thing"]
theorem sc_is_change : FnScope N_is_change P_is_change (defScope st_is_change) := ⟨rfl, rfl, rfl, by decide +kernel, rfl, by decide +kernel, by decide +kernel⟩
abbrev N_covers : List Str := ["change", "t"]
abbrev P_covers : List Str := ["change", "t"]
theorem sc_covers : FnScope N_covers P_covers (defScope st_covers) := ⟨rfl, rfl, rfl, by decide +kernel, rfl, by decide +kernel, by decide +kernel⟩
abbrev N_law_hand : List Str := ["_law_script", "_law_k", "_law_cell"]
abbrev P_law_hand : List Str := ["_law_script", "_law_k"]
theorem sc_law_hand : FnScope N_law_hand P_law_hand (defScope st_law_hand) := ⟨rfl, rfl, rfl, by decide +kernel, rfl, by decide +kernel, by decide +kernel⟩
abbrev N_law_take : List Str := ["_law_hand_here", "_law_many", "_law_digit", "_law_turn", "_law_more", "_law_mixed", "_law_other"]
abbrev P_law_take : List Str := ["_law_hand_here", "_law_many"]
theorem sc_law_take : FnScope N_law_take P_law_take (defScope st_law_take) := ⟨rfl, rfl, rfl, by decide +kernel, rfl, by decide +kernel, by decide +kernel⟩
abbrev N_law_pick : List Str := ["_law_hand_here", "_law_some"]
abbrev P_law_pick : List Str := ["_law_hand_here", "_law_some"]
theorem sc_law_pick : FnScope N_law_pick P_law_pick (defScope st_law_pick) := ⟨rfl, rfl, rfl, by decide +kernel, rfl, by decide +kernel, by decide +kernel⟩
abbrev N_law_great : List Str := ["_law_hand_here", "_law_found", "_law_k"]
abbrev P_law_great : List Str := ["_law_hand_here"]
theorem sc_law_great : FnScope N_law_great P_law_great (defScope st_law_great) := ⟨rfl, rfl, rfl, by decide +kernel, rfl, by decide +kernel, by decide +kernel⟩
abbrev N_law_moment : List Str := ["_law_hand_here", "_law_way"]
abbrev P_law_moment : List Str := ["_law_hand_here"]
theorem sc_law_moment : FnScope N_law_moment P_law_moment (defScope st_law_moment) := ⟨rfl, rfl, rfl, by decide +kernel, rfl, by decide +kernel, by decide +kernel⟩
abbrev N_law_word : List Str := ["_law_hand_here", "_law_signs", "#0", "_law_k"]
abbrev P_law_word : List Str := ["_law_hand_here"]
theorem sc_law_word : FnScope N_law_word P_law_word (defScope st_law_word) := ⟨rfl, rfl, rfl, by decide +kernel, rfl, by decide +kernel, by decide +kernel⟩
abbrev N_law_good : List Str := ["_law_hand_here", "_law_begin", "_law_way", "_law_end", "_law_kind", "_law_one", "_law_other"]
abbrev P_law_good : List Str := ["_law_hand_here"]
theorem sc_law_good : FnScope N_law_good P_law_good (defScope st_law_good) := ⟨rfl, rfl, rfl, by decide +kernel, rfl, by decide +kernel, by decide +kernel⟩
abbrev N_law_odd : List Str := ["_law_hand_here", "_law_thing", "_law_way", "_law_at"]
abbrev P_law_odd : List Str := ["_law_hand_here", "_law_thing"]
theorem sc_law_odd : FnScope N_law_odd P_law_odd (defScope st_law_odd) := ⟨rfl, rfl, rfl, by decide +kernel, rfl, by decide +kernel, by decide +kernel⟩
abbrev N_law_spoilt : List Str := ["_law_hand_here", "_law_thing", "_law_row", "_law_way", "_law_k", "_law_at"]
abbrev P_law_spoilt : List Str := ["_law_hand_here", "_law_thing"]
theorem sc_law_spoilt : FnScope N_law_spoilt P_law_spoilt (defScope st_law_spoilt) := ⟨rfl, rfl, rfl, by decide +kernel, rfl, by decide +kernel, by decide +kernel⟩
abbrev N_law_is_whole : List Str := ["_law_thing"]
abbrev P_law_is_whole : List Str := ["_law_thing"]
theorem sc_law_is_whole : FnScope N_law_is_whole P_law_is_whole (defScope st_law_is_whole) := ⟨rfl, rfl, rfl, by decide +kernel, rfl, by decide +kernel, by decide +kernel⟩
abbrev N_law_is_word : List Str := ["_law_thing", "_law_sign"]
abbrev P_law_is_word : List Str := ["_law_thing"]
theorem sc_law_is_word : FnScope N_law_is_word P_law_is_word (defScope st_law_is_word) := ⟨rfl, rfl, rfl, by decide +kernel, rfl, by decide +kernel, by decide +kernel⟩
abbrev N_law_is_so : List Str := ["_law_thing", "_law_begin", "_law_end", "#0", "_law_word_here"]
abbrev P_law_is_so : List Str := ["_law_thing"]
theorem sc_law_is_so : FnScope N_law_is_so P_law_is_so (defScope st_law_is_so) := ⟨rfl, rfl, rfl, by decide +kernel, rfl, by decide +kernel, by decide +kernel⟩
abbrev N_law_covered : List Str := ["_law_change", "_law_t", "_law_found", "_law_due"]
abbrev P_law_covered : List Str := ["_law_change", "_law_t"]
theorem sc_law_covered : FnScope N_law_covered P_law_covered (defScope st_law_covered) := ⟨rfl, rfl, rfl, by decide +kernel, rfl, by decide +kernel, by decide +kernel⟩
abbrev N_law : List Str := ["_law_script", "_law_k", "_law_hand_here", "_law_good_here", "_law_thing", "_law_found", "_law_some", "#0", "_law_t"]
abbrev P_law : List Str := ["_law_script"]
theorem sc_law : FnScope N_law P_law (defScope st_law) := ⟨rfl, rfl, rfl, by decide +kernel, rfl, by decide +kernel, by decide +kernel⟩
section
variable {P : Program} {w : World} {K : PySem.W.Frag} {mg : Str → Option Value} {base : Heap}
theorem has_is_whole {a : Addr} {fd : FuncData} (F : FunD K "is_whole" "is_whole" (defArgs st_is_whole) (defBody st_is_whole) (defScope st_is_whole) [] [] a fd) (gl : mg "is_whole" = some (.ref a)) (m_isinstance : mg "isinstance" = none) (m_int : mg "int" = none) (m_bool : mg "bool" = none) : Has P w K mg base 1 "is_whole" CFIs.S_is_whole :=
  ⟨a, fd, P_is_whole, fn0 (k := 0) (L := CFIs.L_is_whole) (ww := CFIs.w_is_whole) F sc_is_whole rfl CFIs.len_is_whole (by
      intro cdv A outer s H E hr g hgL
      unfold CFIs.w_is_whole
      refine eb_one ?_
      refine es_ret ?_
      refine ee_and ?_ ?_
      refine ee_isi2 (by rfl) m_isinstance (by rfl) m_int ?_
      exact ee_var (pv 0)
      refine ee_one ?_
      refine ee_not ?_
      refine ee_isi2 (by rfl) m_isinstance (by rfl) m_bool ?_
      exact ee_var (pv 0)) CFIs.ok_is_whole, gl, F.kp, F.bindsN (fun _ _ _ _ _ _ us hl => match us, hl with | [_], _ => rfl)⟩
theorem has_is_moment {a : Addr} {fd : FuncData} (F : FunD K "is_moment" "is_moment" (defArgs st_is_moment) (defBody st_is_moment) (defScope st_is_moment) [] [] a fd) (gl : mg "is_moment" = some (.ref a)) (h_is_whole : Has P w K mg base 1 "is_whole" CFIs.S_is_whole) (c_LATEST : ∃ t, mg "LATEST" = some (.int 1000000000000000000000000000000000000000000000000000000000000 t)) : Has P w K mg base 2 "is_moment" CFIj.S_is_moment :=
  ⟨a, fd, P_is_moment, fn0 (k := 1) (L := CFIj.L_is_moment) (ww := CFIj.w_is_moment) F sc_is_moment rfl CFIj.len_is_moment (by
      intro cdv A outer s H E hr g hgL
      unfold CFIj.w_is_moment
      refine eb_one ?_
      refine es_ret ?_
      refine ee_and ?_ ?_
      refine ee_has h_is_whole (hr.mono (by decide)) (by rfl) ?_
      refine ea_cons ?_ ?_
      exact ee_var (pv 0)
      exact ea_nil
      refine ee_one ?_
      refine ee_chain (f := fun i j => decide (i ≤ j)) (f' := fun i j => decide (i < j)) op_le op_lt ?_ ?_ ?_
      exact ee_int
      exact ee_var (pv 0)
      exact ee_gint (by rfl) c_LATEST.choose_spec) CFIj.ok_is_moment, gl, F.kp, F.bindsN (fun _ _ _ _ _ _ us hl => match us, hl with | [_], _ => rfl)⟩
theorem has_is_word {a : Addr} {fd : FuncData} (F : FunD K "is_word" "is_word" (defArgs st_is_word) (defBody st_is_word) (defScope st_is_word) [] [] a fd) (gl : mg "is_word" = some (.ref a)) (m_isinstance : mg "isinstance" = none) (m_str : mg "str" = none) (m_len : mg "len" = none) (m_all : mg "all" = none) (c_SIGNS : ∃ t, mg "SIGNS" = some (.str "abcdefghijklmnopqrstuvwxyz0123456789" t)) : Has P w K mg base 1 "is_word" CFIs.S_is_word :=
  ⟨a, fd, P_is_word, fn0 (k := 0) (L := CFIs.L_is_word) (ww := CFIs.w_is_word) F sc_is_word rfl CFIs.len_is_word (by
      intro cdv A outer s H E hr g hgL
      unfold CFIs.w_is_word
      refine eb_cons ?_ ?_
      refine es_if ?_ ?_ ?_
      refine et_w ?_
      refine ew_or ?_ ?_
      refine et_not ?_
      refine et_val ?_
      refine ee_isi2 (by rfl) m_isinstance (by rfl) m_str ?_
      exact ee_var (pv 0)
      refine ew_or1 ?_
      refine et_not ?_
      refine et_chain (f := fun i j => decide (i ≤ j)) (f' := fun i j => decide (i ≤ j)) op_le op_le ?_ ?_ ?_
      exact ee_int
      refine ee_len (by rfl) m_len ?_
      refine ea_cons ?_ ?_
      exact ee_var (pv 0)
      exact ea_nil
      exact ee_int
      refine eb_one ?_
      refine es_ret ?_
      exact ee_bl
      exact eb_nil
      refine eb_one ?_
      refine es_ret ?_
      refine ee_all rfl (by rfl) m_all ?_
      refine ea_cons ?_ ?_
      refine ee_lc (own := [("sign", 2)]) rfl sc_is_word.nd (lf_ hgL rfl) ?_ (blkOk_by (own := [("sign", 2)]) (N := N_is_word) (sc := defScope st_is_word) (by decide +kernel)) (fun _ _ _ _ _ => eg_name (i := 2) sc_is_word.nd rfl (Or.inl rfl)) (fun _ _ _ _ _ => ets_nil) (fun _ _ _ _ _ => ee_in (units65 hr) (ee_var (pv 2)) (ee_gstr (by rfl) c_SIGNS.choose_spec))
      refine ei_seq ?_
      exact ee_var (pv 0)
      exact ea_nil) CFIs.ok_is_word, gl, F.kp, F.bindsN (fun _ _ _ _ _ _ us hl => match us, hl with | [_], _ => rfl)⟩
theorem has_is_span {a : Addr} {fd : FuncData} (F : FunD K "is_span" "is_span" (defArgs st_is_span) (defBody st_is_span) (defScope st_is_span) [] [] a fd) (gl : mg "is_span" = some (.ref a)) (h_is_moment : Has P w K mg base 2 "is_moment" CFIj.S_is_moment) : Has P w K mg base 3 "is_span" CFIc.S_is_span :=
  ⟨a, fd, P_is_span, fn0 (k := 2) (L := CFIc.L_is_span) (ww := CFIc.w_is_span) F sc_is_span rfl CFIc.len_is_span (by
      intro cdv A outer s H E hr g hgL
      unfold CFIc.w_is_span
      refine eb_cons ?_ ?_
      refine es_if ?_ ?_ ?_
      refine et_not ?_
      refine et_val ?_
      refine ee_has h_is_moment (hr.mono (by decide)) (by rfl) ?_
      refine ea_cons ?_ ?_
      exact ee_var (pv 0)
      exact ea_nil
      refine eb_one ?_
      refine es_ret ?_
      exact ee_bl
      exact eb_nil
      refine eb_one ?_
      refine es_ret ?_
      refine ee_or ?_ ?_
      refine ee_isN ?_
      exact ee_var (pv 1)
      refine ee_one ?_
      refine ee_and ?_ ?_
      refine ee_has h_is_moment (hr.mono (by decide)) (by rfl) ?_
      refine ea_cons ?_ ?_
      exact ee_var (pv 1)
      exact ea_nil
      refine ee_one ?_
      refine ee_lt ?_ ?_
      exact ee_var (pv 0)
      exact ee_var (pv 1)) CFIc.ok_is_span, gl, F.kp, F.bindsN (fun _ _ _ _ _ _ us hl => match us, hl with | [_, _], _ => rfl)⟩
theorem has_is_change {a : Addr} {fd : FuncData} (F : FunD K "is_change" "is_change" (defArgs st_is_change) (defBody st_is_change) (defScope st_is_change) [] [] a fd) (gl : mg "is_change" = some (.ref a)) (m_isinstance : mg "isinstance" = none) (m_tuple : mg "tuple" = none) (m_len : mg "len" = none) (m_str : mg "str" = none) (h_is_word : Has P w K mg base 1 "is_word" CFIs.S_is_word) (h_is_span : Has P w K mg base 3 "is_span" CFIc.S_is_span) : Has P w K mg base 4 "is_change" CFIc.S_is_change :=
  ⟨a, fd, P_is_change, fn0 (k := 3) (L := CFIc.L_is_change) (ww := CFIc.w_is_change) F sc_is_change rfl CFIc.len_is_change (by
      intro cdv A outer s H E hr g hgL
      unfold CFIc.w_is_change
      refine eb_cons ?_ ?_
      refine es_if ?_ ?_ ?_
      refine et_w ?_
      refine ew_or ?_ ?_
      refine et_not ?_
      refine et_val ?_
      refine ee_isi2 (by rfl) m_isinstance (by rfl) m_tuple ?_
      exact ee_var (pv 0)
      refine ew_or ?_ ?_
      refine et_not ?_
      refine et_chain (f := fun i j => decide (i ≤ j)) (f' := fun i j => decide (i ≤ j)) op_le op_le ?_ ?_ ?_
      exact ee_int
      refine ee_len (by rfl) m_len ?_
      refine ea_cons ?_ ?_
      exact ee_var (pv 0)
      exact ea_nil
      exact ee_int
      refine ew_or1 ?_
      refine et_not ?_
      refine et_val ?_
      refine ee_isi2 (by rfl) m_isinstance (by rfl) m_str ?_
      refine ee_ix ?_ ?_
      exact ee_var (pv 0)
      exact ee_int
      refine eb_one ?_
      refine es_ret ?_
      exact ee_bl
      exact eb_nil
      refine eb_cons ?_ ?_
      refine es_if ?_ ?_ ?_
      refine et_eq hr.units ?_ ?_
      refine ee_ix ?_ ?_
      exact ee_var (pv 0)
      exact ee_int
      exact ee_str
      refine eb_one ?_
      refine es_if ?_ ?_ ?_
      refine et_w ?_
      refine ew_or ?_ ?_
      refine et_eq hr.units ?_ ?_
      refine ee_len (by rfl) m_len ?_
      refine ea_cons ?_ ?_
      exact ee_var (pv 0)
      exact ea_nil
      exact ee_int
      refine ew_or ?_ ?_
      refine et_not ?_
      refine et_val ?_
      refine ee_has h_is_word (hr.mono (by decide)) (by rfl) ?_
      refine ea_cons ?_ ?_
      refine ee_ix ?_ ?_
      exact ee_var (pv 0)
      exact ee_int
      exact ea_nil
      refine ew_or1 ?_
      refine et_eqX hr.units ?_ ?_
      refine ee_ix ?_ ?_
      exact ee_var (pv 0)
      exact ee_int
      refine ee_ix ?_ ?_
      exact ee_var (pv 0)
      exact ee_int
      refine eb_one ?_
      refine es_ret ?_
      exact ee_bl
      exact eb_nil
      refine eb_one ?_
      refine es_if ?_ ?_ ?_
      refine et_w ?_
      refine ew_or ?_ ?_
      refine et_notin (units65 hr) ?_ ?_
      refine ee_ix ?_ ?_
      exact ee_var (pv 0)
      exact ee_int
      refine ee_tup ?_
      refine ea_cons ?_ ?_
      exact ee_str
      refine ea_cons ?_ ?_
      exact ee_str
      exact ea_nil
      refine ew_or1 ?_
      refine et_eq hr.units ?_ ?_
      refine ee_len (by rfl) m_len ?_
      refine ea_cons ?_ ?_
      exact ee_var (pv 0)
      exact ea_nil
      exact ee_int
      refine eb_one ?_
      refine es_ret ?_
      exact ee_bl
      exact eb_nil
      refine eb_one ?_
      refine es_ret ?_
      refine ee_and ?_ ?_
      refine ee_has h_is_word (hr.mono (by decide)) (by rfl) ?_
      refine ea_cons ?_ ?_
      refine ee_ix ?_ ?_
      exact ee_var (pv 0)
      exact ee_int
      exact ea_nil
      refine ee_one ?_
      refine ee_has h_is_span (hr.mono (by decide)) (by rfl) ?_
      refine ea_cons ?_ ?_
      refine ee_ix ?_ ?_
      exact ee_var (pv 0)
      refine ee_neg ?_
      exact ee_int
      refine ea_cons ?_ ?_
      refine ee_ix ?_ ?_
      exact ee_var (pv 0)
      refine ee_neg ?_
      exact ee_int
      exact ea_nil) CFIc.ok_is_change, gl, F.kp, F.bindsN (fun _ _ _ _ _ _ us hl => match us, hl with | [_], _ => rfl)⟩
theorem has_covers {a : Addr} {fd : FuncData} (F : FunD K "covers" "covers" (defArgs st_covers) (defBody st_covers) (defScope st_covers) [] [] a fd) (gl : mg "covers" = some (.ref a))  : Has P w K mg base 1 "covers" CFTd.S_covers :=
  ⟨a, fd, P_covers, fn0 (k := 0) (L := CFTd.L_covers) (ww := CFTd.w_covers) F sc_covers rfl CFTd.len_covers (by
      intro cdv A outer s H E hr g hgL
      unfold CFTd.w_covers
      refine eb_one ?_
      refine es_ret ?_
      refine ee_and ?_ ?_
      refine ee_le ?_ ?_
      refine ee_ix ?_ ?_
      exact ee_var (pv 0)
      refine ee_neg ?_
      exact ee_int
      exact ee_var (pv 1)
      refine ee_one ?_
      refine ee_or ?_ ?_
      refine ee_isN ?_
      refine ee_ix ?_ ?_
      exact ee_var (pv 0)
      refine ee_neg ?_
      exact ee_int
      refine ee_one ?_
      refine ee_lt ?_ ?_
      exact ee_var (pv 1)
      refine ee_ix ?_ ?_
      exact ee_var (pv 0)
      refine ee_neg ?_
      exact ee_int) CFTd.ok_covers, gl, F.kp, F.bindsN (fun _ _ _ _ _ _ us hl => match us, hl with | [_, _], _ => rfl)⟩
theorem has_law_hand {a : Addr} {fd : FuncData} (F : FunD K "_law_hand" "_law_hand" (defArgs st_law_hand) (defBody st_law_hand) (defScope st_law_hand) [] [] a fd) (gl : mg "_law_hand" = some (.ref a)) (m_len : mg "len" = none) (m_int : mg "int" = none) : Has P w K mg base 1 "_law_hand" CFH.S_law_hand :=
  ⟨a, fd, P_law_hand, fn0 (k := 0) (L := CFH.L_law_hand) (ww := CFH.w_law_hand) F sc_law_hand rfl CFH.len_law_hand (by
      intro cdv A outer s H E hr g hgL
      unfold CFH.w_law_hand
      refine eb_cons ?_ ?_
      refine es_setF (i := 2) sc_law_hand.nd rfl (Or.inl rfl) ?_
      exact ee_int
      refine eb_cons ?_ ?_
      refine es_if ?_ ?_ ?_
      refine et_lt ?_ ?_
      exact ee_var (pv 1)
      refine ee_len (by rfl) m_len ?_
      refine ea_cons ?_ ?_
      exact ee_var (pv 0)
      exact ea_nil
      refine eb_one ?_
      refine es_setF (i := 2) sc_law_hand.nd rfl (Or.inl rfl) ?_
      refine ee_ix ?_ ?_
      exact ee_var (pv 0)
      exact ee_var (pv 1)
      exact eb_nil
      refine eb_one ?_
      refine es_ret ?_
      refine ee_lst ?_
      refine ea_cons ?_ ?_
      refine ee_mul ?_ ?_
      exact ee_var (pv 2)
      refine ee_int1 (by rfl) m_int ?_
      refine ea_cons ?_ ?_
      refine ee_ge ?_ ?_
      exact ee_var (pv 2)
      refine ee_pow ?_ ?_
      exact ee_int
      exact ee_int
      exact ea_nil
      refine ea_cons ?_ ?_
      refine ee_add ?_ ?_
      refine ee_add ?_ ?_
      refine ee_mod ?_ ?_
      exact ee_var (pv 2)
      exact ee_int
      refine ee_mul ?_ ?_
      exact ee_int
      exact ee_var (pv 1)
      exact ee_int
      refine ea_cons ?_ ?_
      exact ee_int
      exact ea_nil) CFH.ok_law_hand, gl, F.kp, F.bindsN (fun _ _ _ _ _ _ us hl => match us, hl with | [_, _], _ => rfl)⟩
theorem has_law_take {a : Addr} {fd : FuncData} (F : FunD K "_law_take" "_law_take" (defArgs st_law_take) (defBody st_law_take) (defScope st_law_take) [] [] a fd) (gl : mg "_law_take" = some (.ref a))  : Has P w K mg base 1 "_law_take" CFH.S_law_take :=
  ⟨a, fd, P_law_take, fn0 (k := 0) (L := CFH.L_law_take) (ww := CFH.w_law_take) F sc_law_take rfl CFH.len_law_take (by
      intro cdv A outer s H E hr g hgL
      unfold CFH.w_law_take
      refine eb_cons ?_ ?_
      refine es_if ?_ ?_ ?_
      refine et_gt ?_ ?_
      refine ee_ix ?_ ?_
      exact ee_ln (i := 0) (lt_ hgL rfl) (pv 0)
      exact ee_int
      exact ee_int
      refine eb_cons ?_ ?_
      refine es_setF (i := 2) sc_law_take.nd rfl (Or.inl rfl) ?_
      refine ee_mod ?_ ?_
      refine ee_ix ?_ ?_
      exact ee_ln (i := 0) (lt_ hgL rfl) (pv 0)
      exact ee_int
      exact ee_var (pv 1)
      refine eb_cons ?_ ?_
      refine es_setIx (i := 0) (lt_ hgL rfl) (pv 0) ?_ ?_
      refine ee_div ?_ ?_
      refine ee_ix ?_ ?_
      exact ee_ln (i := 0) (lt_ hgL rfl) (pv 0)
      exact ee_int
      exact ee_var (pv 1)
      exact ee_int
      refine eb_one ?_
      refine es_ret ?_
      exact ee_var (pv 2)
      exact eb_nil
      refine eb_cons ?_ ?_
      refine es_setIx (i := 0) (lt_ hgL rfl) (pv 0) ?_ ?_
      refine ee_add ?_ ?_
      refine ee_ix ?_ ?_
      exact ee_ln (i := 0) (lt_ hgL rfl) (pv 0)
      exact ee_int
      exact ee_int
      exact ee_int
      refine eb_cons ?_ ?_
      refine es_setF (i := 3) sc_law_take.nd rfl (Or.inl rfl) ?_
      refine ee_ix ?_ ?_
      exact ee_ln (i := 0) (lt_ hgL rfl) (pv 0)
      exact ee_int
      refine eb_cons ?_ ?_
      refine es_setF (i := 4) sc_law_take.nd rfl (Or.inl rfl) ?_
      refine ee_add ?_ ?_
      refine ee_add ?_ ?_
      exact ee_int
      refine ee_mul ?_ ?_
      refine ee_mul ?_ ?_
      exact ee_int
      exact ee_var (pv 3)
      exact ee_var (pv 3)
      refine ee_mul ?_ ?_
      exact ee_int
      exact ee_var (pv 3)
      refine eb_cons ?_ ?_
      refine es_setF (i := 5) sc_law_take.nd rfl (Or.inl rfl) ?_
      refine ee_mod ?_ ?_
      refine ee_mul ?_ ?_
      refine ee_add ?_ ?_
      refine ee_ix ?_ ?_
      exact ee_ln (i := 0) (lt_ hgL rfl) (pv 0)
      exact ee_int
      refine ee_mul ?_ ?_
      exact ee_int
      exact ee_var (pv 3)
      exact ee_var (pv 4)
      exact ee_int
      refine eb_cons ?_ ?_
      refine es_setF (i := 6) sc_law_take.nd rfl (Or.inl rfl) ?_
      refine ee_add ?_ ?_
      refine ee_add ?_ ?_
      refine ee_mod ?_ ?_
      exact ee_var (pv 5)
      exact ee_int
      refine ee_mul ?_ ?_
      exact ee_var (pv 3)
      exact ee_int
      exact ee_int
      refine eb_cons ?_ ?_
      refine es_setF (i := 5) sc_law_take.nd rfl (Or.inl rfl) ?_
      refine ee_mod ?_ ?_
      refine ee_mul ?_ ?_
      exact ee_var (pv 5)
      exact ee_var (pv 6)
      exact ee_int
      refine eb_one ?_
      refine es_ret ?_
      refine ee_mod ?_ ?_
      refine ee_add ?_ ?_
      refine ee_div ?_ ?_
      exact ee_var (pv 5)
      exact ee_int
      refine ee_div ?_ ?_
      exact ee_var (pv 5)
      exact ee_int
      exact ee_var (pv 1)) CFH.ok_law_take, gl, F.kp, F.bindsN (fun _ _ _ _ _ _ us hl => match us, hl with | [_, _], _ => rfl)⟩
theorem has_law_pick {a : Addr} {fd : FuncData} (F : FunD K "_law_pick" "_law_pick" (defArgs st_law_pick) (defBody st_law_pick) (defScope st_law_pick) [] [] a fd) (gl : mg "_law_pick" = some (.ref a)) (h_law_take : Has P w K mg base 1 "_law_take" CFH.S_law_take) (m_len : mg "len" = none) : Has P w K mg base 2 "_law_pick" CFH.S_law_pick :=
  ⟨a, fd, P_law_pick, fn0 (k := 1) (L := CFH.L_law_pick) (ww := CFH.w_law_pick) F sc_law_pick rfl CFH.len_law_pick (by
      intro cdv A outer s H E hr g hgL
      unfold CFH.w_law_pick
      refine eb_one ?_
      refine es_ret ?_
      refine ee_ix ?_ ?_
      exact ee_var (pv 1)
      refine ee_has h_law_take (hr.mono (by decide)) (by rfl) ?_
      refine ea_cons ?_ ?_
      exact ee_pk (i := 0) (lt_ hgL rfl) (pv 0)
      refine ea_cons ?_ ?_
      refine ee_len (by rfl) m_len ?_
      refine ea_cons ?_ ?_
      exact ee_var (pv 1)
      exact ea_nil
      exact ea_nil) CFH.ok_law_pick, gl, F.kp, F.bindsN (fun _ _ _ _ _ _ us hl => match us, hl with | [_, _], _ => rfl)⟩
theorem has_law_great {a : Addr} {fd : FuncData} (F : FunD K "_law_great" "_law_great" (defArgs st_law_great) (defBody st_law_great) (defScope st_law_great) [] [] a fd) (gl : mg "_law_great" = some (.ref a)) (m_range : mg "range" = none) (h_law_take : Has P w K mg base 1 "_law_take" CFH.S_law_take) : Has P w K mg base 2 "_law_great" CFH.S_law_great :=
  ⟨a, fd, P_law_great, fn0 (k := 1) (L := CFH.L_law_great) (ww := CFH.w_law_great) F sc_law_great rfl CFH.len_law_great (by
      intro cdv A outer s H E hr g hgL
      unfold CFH.w_law_great
      refine eb_cons ?_ ?_
      refine es_setF (i := 1) sc_law_great.nd rfl (Or.inl rfl) ?_
      exact ee_int
      refine eb_cons ?_ ?_
      refine es_for PassesOwn.never rfl ?_ (eg_name (i := 2) sc_law_great.nd rfl (Or.inl rfl)) ?_
      refine ei_range1 (by rfl) m_range ?_
      refine ea_cons ?_ ?_
      exact ee_int
      exact ea_nil
      refine eb_one ?_
      refine es_setF (i := 1) sc_law_great.nd rfl (Or.inl rfl) ?_
      refine ee_add ?_ ?_
      refine ee_mul ?_ ?_
      exact ee_var (pv 1)
      refine ee_pow ?_ ?_
      exact ee_int
      exact ee_int
      refine ee_has h_law_take (hr.mono (by decide)) (by rfl) ?_
      refine ea_cons ?_ ?_
      exact ee_pk (i := 0) (lt_ hgL rfl) (pv 0)
      refine ea_cons ?_ ?_
      refine ee_pow ?_ ?_
      exact ee_int
      exact ee_int
      exact ea_nil
      refine eb_one ?_
      refine es_ret ?_
      exact ee_var (pv 1)) CFH.ok_law_great, gl, F.kp, F.bindsN (fun _ _ _ _ _ _ us hl => match us, hl with | [_], _ => rfl)⟩
theorem has_law_moment {a : Addr} {fd : FuncData} (F : FunD K "_law_moment" "_law_moment" (defArgs st_law_moment) (defBody st_law_moment) (defScope st_law_moment) [] [] a fd) (gl : mg "_law_moment" = some (.ref a)) (h_law_take : Has P w K mg base 1 "_law_take" CFH.S_law_take) (h_law_great : Has P w K mg base 2 "_law_great" CFH.S_law_great) : Has P w K mg base 3 "_law_moment" CFCh.S_law_moment :=
  ⟨a, fd, P_law_moment, fn0 (k := 2) (L := CFCh.L_law_moment) (ww := CFCh.w_law_moment) F sc_law_moment rfl CFCh.len_law_moment (by
      intro cdv A outer s H E hr g hgL
      unfold CFCh.w_law_moment
      refine eb_cons ?_ ?_
      refine es_setF (i := 1) sc_law_moment.nd rfl (Or.inl rfl) ?_
      refine ee_has h_law_take (hr.mono (by decide)) (by rfl) ?_
      refine ea_cons ?_ ?_
      exact ee_pk (i := 0) (lt_ hgL rfl) (pv 0)
      refine ea_cons ?_ ?_
      exact ee_int
      exact ea_nil
      refine eb_cons ?_ ?_
      refine es_if ?_ ?_ ?_
      refine et_lt ?_ ?_
      exact ee_var (pv 1)
      exact ee_int
      refine eb_one ?_
      refine es_ret ?_
      refine ee_has h_law_take (hr.mono (by decide)) (by rfl) ?_
      refine ea_cons ?_ ?_
      exact ee_pk (i := 0) (lt_ hgL rfl) (pv 0)
      refine ea_cons ?_ ?_
      exact ee_int
      exact ea_nil
      exact eb_nil
      refine eb_cons ?_ ?_
      refine es_if ?_ ?_ ?_
      refine et_eq hr.units ?_ ?_
      exact ee_var (pv 1)
      exact ee_int
      refine eb_one ?_
      refine es_ret ?_
      refine ee_has h_law_take (hr.mono (by decide)) (by rfl) ?_
      refine ea_cons ?_ ?_
      exact ee_pk (i := 0) (lt_ hgL rfl) (pv 0)
      refine ea_cons ?_ ?_
      exact ee_int
      exact ea_nil
      exact eb_nil
      refine eb_cons ?_ ?_
      refine es_if ?_ ?_ ?_
      refine et_eq hr.units ?_ ?_
      exact ee_var (pv 1)
      exact ee_int
      refine eb_one ?_
      refine es_ret ?_
      refine ee_has h_law_great (hr.mono (by decide)) (by rfl) ?_
      refine ea_cons ?_ ?_
      exact ee_pk (i := 0) (lt_ hgL rfl) (pv 0)
      exact ea_nil
      exact eb_nil
      refine eb_one ?_
      refine es_ret ?_
      refine ee_sub ?_ ?_
      refine ee_sub ?_ ?_
      refine ee_pow ?_ ?_
      exact ee_int
      exact ee_int
      exact ee_int
      refine ee_has h_law_take (hr.mono (by decide)) (by rfl) ?_
      refine ea_cons ?_ ?_
      exact ee_pk (i := 0) (lt_ hgL rfl) (pv 0)
      refine ea_cons ?_ ?_
      exact ee_int
      exact ea_nil) CFCh.ok_law_moment, gl, F.kp, F.bindsN (fun _ _ _ _ _ _ us hl => match us, hl with | [_], _ => rfl)⟩
theorem has_law_word {a : Addr} {fd : FuncData} (F : FunD K "_law_word" "_law_word" (defArgs st_law_word) (defBody st_law_word) (defScope st_law_word) [] [] a fd) (gl : mg "_law_word" = some (.ref a)) (m_range : mg "range" = none) (h_law_take : Has P w K mg base 1 "_law_take" CFH.S_law_take) : Has P w K mg base 2 "_law_word" S_law_word :=
  ⟨a, fd, P_law_word, fn0 (k := 1) (L := L_law_word) (ww := w_law_word) F sc_law_word rfl len_law_word (by
      intro cdv A outer s H E hr g hgL
      unfold w_law_word
      refine eb_cons ?_ ?_
      refine es_setF (i := 1) sc_law_word.nd rfl (Or.inr rfl) ?_
      exact ee_str
      refine eb_one ?_
      refine es_ret ?_
      refine ee_join ?_ ?_
      exact ee_str
      refine ee_lc (own := [("_law_k", 3)]) rfl sc_law_word.nd (lf_ hgL rfl) ?_ (blkOk_by (own := [("_law_k", 3)]) (N := N_law_word) (sc := defScope st_law_word) (by decide +kernel)) (fun _ _ _ _ _ => eg_name (i := 3) sc_law_word.nd rfl (Or.inl rfl)) (fun _ _ _ _ _ => ets_nil) (fun _ _ _ _ _ => ee_ix (ee_var (pv 1)) (ee_has h_law_take (hr.mono (by decide)) (by rfl) (ea_cons (ee_pk (i := 0) (lt_ hgL rfl) (pv 0)) (ea_cons ee_int ea_nil))))
      refine ei_range1 (by rfl) m_range ?_
      refine ea_cons ?_ ?_
      refine ee_add ?_ ?_
      exact ee_int
      refine ee_has h_law_take (hr.mono (by decide)) (by rfl) ?_
      refine ea_cons ?_ ?_
      exact ee_pk (i := 0) (lt_ hgL rfl) (pv 0)
      refine ea_cons ?_ ?_
      exact ee_int
      exact ea_nil
      exact ea_nil) ok_law_word, gl, F.kp, F.bindsN (fun _ _ _ _ _ _ us hl => match us, hl with | [_], _ => rfl)⟩
theorem has_law_good {a : Addr} {fd : FuncData} (F : FunD K "_law_good" "_law_good" (defArgs st_law_good) (defBody st_law_good) (defScope st_law_good) [] [] a fd) (gl : mg "_law_good" = some (.ref a)) (h_law_moment : Has P w K mg base 3 "_law_moment" CFCh.S_law_moment) (h_law_take : Has P w K mg base 1 "_law_take" CFH.S_law_take) (h_law_pick : Has P w K mg base 2 "_law_pick" CFH.S_law_pick) (h_law_word : Has P w K mg base 2 "_law_word" S_law_word) : Has P w K mg base 4 "_law_good" S_law_good :=
  ⟨a, fd, P_law_good, fn0 (k := 3) (L := L_law_good) (ww := w_law_good) F sc_law_good rfl len_law_good (by
      intro cdv A outer s H E hr g hgL
      unfold w_law_good
      refine eb_cons ?_ ?_
      refine es_setF (i := 1) sc_law_good.nd rfl (Or.inl rfl) ?_
      refine ee_has h_law_moment (hr.mono (by decide)) (by rfl) ?_
      refine ea_cons ?_ ?_
      exact ee_pk (i := 0) (lt_ hgL rfl) (pv 0)
      exact ea_nil
      refine eb_cons ?_ ?_
      refine es_setF (i := 2) sc_law_good.nd rfl (Or.inl rfl) ?_
      refine ee_has h_law_take (hr.mono (by decide)) (by rfl) ?_
      refine ea_cons ?_ ?_
      exact ee_pk (i := 0) (lt_ hgL rfl) (pv 0)
      refine ea_cons ?_ ?_
      exact ee_int
      exact ea_nil
      refine eb_cons ?_ ?_
      refine es_setF (i := 3) sc_law_good.nd rfl (Or.inl rfl) ?_
      refine ee_add ?_ ?_
      refine ee_add ?_ ?_
      exact ee_var (pv 1)
      exact ee_int
      refine ee_has h_law_take (hr.mono (by decide)) (by rfl) ?_
      refine ea_cons ?_ ?_
      exact ee_pk (i := 0) (lt_ hgL rfl) (pv 0)
      refine ea_cons ?_ ?_
      exact ee_int
      exact ea_nil
      refine eb_cons ?_ ?_
      refine es_if ?_ ?_ ?_
      refine et_eq hr.units ?_ ?_
      exact ee_var (pv 2)
      exact ee_int
      refine eb_one ?_
      refine es_setF (i := 3) sc_law_good.nd rfl (Or.inl rfl) ?_
      exact ee_non
      refine eb_one ?_
      refine es_if ?_ ?_ ?_
      refine et_eq hr.units ?_ ?_
      exact ee_var (pv 2)
      exact ee_int
      refine eb_one ?_
      refine es_setF (i := 3) sc_law_good.nd rfl (Or.inl rfl) ?_
      refine ee_sub ?_ ?_
      refine ee_add ?_ ?_
      exact ee_var (pv 1)
      refine ee_has h_law_take (hr.mono (by decide)) (by rfl) ?_
      refine ea_cons ?_ ?_
      exact ee_pk (i := 0) (lt_ hgL rfl) (pv 0)
      refine ea_cons ?_ ?_
      exact ee_int
      exact ea_nil
      exact ee_int
      refine eb_one ?_
      refine es_if ?_ ?_ ?_
      refine et_eq hr.units ?_ ?_
      exact ee_var (pv 2)
      exact ee_int
      refine eb_one ?_
      refine es_setF (i := 3) sc_law_good.nd rfl (Or.inl rfl) ?_
      refine ee_sub ?_ ?_
      refine ee_pow ?_ ?_
      exact ee_int
      exact ee_int
      refine ee_has h_law_take (hr.mono (by decide)) (by rfl) ?_
      refine ea_cons ?_ ?_
      exact ee_pk (i := 0) (lt_ hgL rfl) (pv 0)
      refine ea_cons ?_ ?_
      exact ee_int
      exact ea_nil
      exact eb_nil
      refine eb_cons ?_ ?_
      refine es_setF (i := 4) sc_law_good.nd rfl (Or.inl rfl) ?_
      refine ee_has h_law_pick (hr.mono (by decide)) (by rfl) ?_
      refine ea_cons ?_ ?_
      exact ee_pk (i := 0) (lt_ hgL rfl) (pv 0)
      refine ea_cons ?_ ?_
      refine ee_lst ?_
      refine ea_cons ?_ ?_
      exact ee_str
      refine ea_cons ?_ ?_
      exact ee_str
      refine ea_cons ?_ ?_
      exact ee_str
      exact ea_nil
      exact ea_nil
      refine eb_cons ?_ ?_
      refine es_if ?_ ?_ ?_
      refine et_eq hr.units ?_ ?_
      exact ee_var (pv 4)
      exact ee_str
      refine eb_cons ?_ ?_
      refine es_setF (i := 5) sc_law_good.nd rfl (Or.inl rfl) ?_
      refine ee_has h_law_word (hr.mono (by decide)) (by rfl) ?_
      refine ea_cons ?_ ?_
      exact ee_pk (i := 0) (lt_ hgL rfl) (pv 0)
      exact ea_nil
      refine eb_cons ?_ ?_
      refine es_setF (i := 6) sc_law_good.nd rfl (Or.inl rfl) ?_
      refine ee_has h_law_word (hr.mono (by decide)) (by rfl) ?_
      refine ea_cons ?_ ?_
      exact ee_pk (i := 0) (lt_ hgL rfl) (pv 0)
      exact ea_nil
      refine eb_cons ?_ ?_
      refine es_if ?_ ?_ ?_
      refine et_eq hr.units ?_ ?_
      refine ee_has h_law_take (hr.mono (by decide)) (by rfl) ?_
      refine ea_cons ?_ ?_
      exact ee_pk (i := 0) (lt_ hgL rfl) (pv 0)
      refine ea_cons ?_ ?_
      exact ee_int
      exact ea_nil
      exact ee_int
      refine eb_one ?_
      refine es_setF (i := 6) sc_law_good.nd rfl (Or.inl rfl) ?_
      exact ee_var (pv 5)
      exact eb_nil
      refine eb_one ?_
      refine es_ret ?_
      refine ee_tup ?_
      refine ea_cons ?_ ?_
      exact ee_var (pv 4)
      refine ea_cons ?_ ?_
      exact ee_var (pv 5)
      refine ea_cons ?_ ?_
      exact ee_var (pv 6)
      refine ea_cons ?_ ?_
      exact ee_var (pv 1)
      refine ea_cons ?_ ?_
      exact ee_var (pv 3)
      exact ea_nil
      exact eb_nil
      refine eb_one ?_
      refine es_ret ?_
      refine ee_tup ?_
      refine ea_cons ?_ ?_
      exact ee_var (pv 4)
      refine ea_cons ?_ ?_
      refine ee_has h_law_word (hr.mono (by decide)) (by rfl) ?_
      refine ea_cons ?_ ?_
      exact ee_pk (i := 0) (lt_ hgL rfl) (pv 0)
      exact ea_nil
      refine ea_cons ?_ ?_
      exact ee_var (pv 1)
      refine ea_cons ?_ ?_
      exact ee_var (pv 3)
      exact ea_nil) ok_law_good, gl, F.kp, F.bindsN (fun _ _ _ _ _ _ us hl => match us, hl with | [_], _ => rfl)⟩
theorem has_law_odd {a : Addr} {fd : FuncData} (F : FunD K "_law_odd" "_law_odd" (defArgs st_law_odd) (defBody st_law_odd) (defScope st_law_odd) [] [] a fd) (gl : mg "_law_odd" = some (.ref a)) (h_law_take : Has P w K mg base 1 "_law_take" CFH.S_law_take) (h_law_pick : Has P w K mg base 2 "_law_pick" CFH.S_law_pick) (m_isinstance : mg "isinstance" = none) (m_str : mg "str" = none) (m_len : mg "len" = none) (m_int : mg "int" = none) (h_law_moment : Has P w K mg base 3 "_law_moment" CFCh.S_law_moment) : Has P w K mg base 4 "_law_odd" S_law_odd :=
  ⟨a, fd, P_law_odd, fn0 (k := 3) (L := L_law_odd) (ww := w_law_odd) F sc_law_odd rfl len_law_odd (by
      intro cdv A outer s H E hr g hgL
      unfold w_law_odd
      refine eb_cons ?_ ?_
      refine es_setF (i := 2) sc_law_odd.nd rfl (Or.inl rfl) ?_
      refine ee_has h_law_take (hr.mono (by decide)) (by rfl) ?_
      refine ea_cons ?_ ?_
      exact ee_pk (i := 0) (lt_ hgL rfl) (pv 0)
      refine ea_cons ?_ ?_
      exact ee_int
      exact ea_nil
      refine eb_cons ?_ ?_
      refine es_if ?_ ?_ ?_
      refine et_eq hr.units ?_ ?_
      exact ee_var (pv 2)
      exact ee_int
      refine eb_one ?_
      refine es_ret ?_
      refine ee_has h_law_pick (hr.mono (by decide)) (by rfl) ?_
      refine ea_cons ?_ ?_
      exact ee_pk (i := 0) (lt_ hgL rfl) (pv 0)
      refine ea_cons ?_ ?_
      refine ee_lst ?_
      refine ea_cons ?_ ?_
      exact ee_bl
      refine ea_cons ?_ ?_
      exact ee_bl
      refine ea_cons ?_ ?_
      exact ee_non
      refine ea_cons ?_ ?_
      refine ee_neg ?_
      exact ee_int
      refine ea_cons ?_ ?_
      exact ee_int
      refine ea_cons ?_ ?_
      refine ee_pow ?_ ?_
      exact ee_int
      exact ee_int
      refine ea_cons ?_ ?_
      refine ee_sub ?_ ?_
      refine ee_pow ?_ ?_
      exact ee_int
      exact ee_int
      exact ee_int
      exact ea_nil
      exact ea_nil
      exact eb_nil
      refine eb_cons ?_ ?_
      refine es_if ?_ ?_ ?_
      refine et_eq hr.units ?_ ?_
      exact ee_var (pv 2)
      exact ee_int
      refine eb_one ?_
      refine es_ret ?_
      refine ee_has h_law_pick (hr.mono (by decide)) (by rfl) ?_
      refine ea_cons ?_ ?_
      exact ee_pk (i := 0) (lt_ hgL rfl) (pv 0)
      refine ea_cons ?_ ?_
      refine ee_lst ?_
      refine ea_cons ?_ ?_
      exact ee_str
      refine ea_cons ?_ ?_
      exact ee_str
      refine ea_cons ?_ ?_
      exact ee_str
      refine ea_cons ?_ ?_
      exact ee_str
      refine ea_cons ?_ ?_
      exact ee_str
      refine ea_cons ?_ ?_
      exact ee_str
      refine ea_cons ?_ ?_
      exact ee_str
      refine ea_cons ?_ ?_
      exact ee_str
      refine ea_cons ?_ ?_
      exact ee_str
      refine ea_cons ?_ ?_
      exact ee_str
      refine ea_cons ?_ ?_
      exact ee_str
      refine ea_cons ?_ ?_
      exact ee_str
      exact ea_nil
      exact ea_nil
      exact eb_nil
      refine eb_cons ?_ ?_
      refine es_if ?_ ?_ ?_
      refine et_eq hr.units ?_ ?_
      exact ee_var (pv 2)
      exact ee_int
      refine eb_one ?_
      refine es_ret ?_
      refine ee_has h_law_pick (hr.mono (by decide)) (by rfl) ?_
      refine ea_cons ?_ ?_
      exact ee_pk (i := 0) (lt_ hgL rfl) (pv 0)
      refine ea_cons ?_ ?_
      refine ee_lst ?_
      refine ea_cons ?_ ?_
      refine ee_tup ?_
      exact ea_nil
      refine ea_cons ?_ ?_
      refine ee_tup ?_
      refine ea_cons ?_ ?_
      exact ee_str
      exact ea_nil
      refine ea_cons ?_ ?_
      refine ee_lst ?_
      refine ea_cons ?_ ?_
      exact ee_str
      exact ea_nil
      refine ea_cons ?_ ?_
      refine ee_tup ?_
      refine ea_cons ?_ ?_
      exact ee_int
      exact ea_nil
      refine ea_cons ?_ ?_
      refine ee_lst ?_
      exact ea_nil
      refine ea_cons ?_ ?_
      exact ee_dat0
      exact ea_nil
      exact ea_nil
      exact eb_nil
      refine eb_cons ?_ ?_
      refine es_if ?_ ?_ ?_
      refine et_eq hr.units ?_ ?_
      exact ee_var (pv 2)
      exact ee_int
      refine eb_one ?_
      refine es_ret ?_
      refine ee_tup ?_
      refine ea_cons ?_ ?_
      exact ee_str
      refine ea_cons ?_ ?_
      exact ee_str
      refine ea_cons ?_ ?_
      exact ee_int
      refine ea_cons ?_ ?_
      exact ee_int
      exact ea_nil
      exact eb_nil
      refine eb_cons ?_ ?_
      refine es_if ?_ ?_ ?_
      refine et_val ?_
      refine ee_isi2 (by rfl) m_isinstance (by rfl) m_str ?_
      exact ee_var (pv 1)
      refine eb_cons ?_ ?_
      refine es_setF (i := 3) sc_law_odd.nd rfl (Or.inl rfl) ?_
      refine ee_has h_law_take (hr.mono (by decide)) (by rfl) ?_
      refine ea_cons ?_ ?_
      exact ee_pk (i := 0) (lt_ hgL rfl) (pv 0)
      refine ea_cons ?_ ?_
      refine ee_plusB ?_ ?_
      refine ee_len (by rfl) m_len ?_
      refine ea_cons ?_ ?_
      exact ee_var (pv 1)
      exact ea_nil
      exact ee_int
      exact ea_nil
      refine eb_one ?_
      refine es_ret ?_
      refine ee_plusB ?_ ?_
      refine ee_plusB ?_ ?_
      refine ee_sl ?_ ?_ ?_
      exact ee_var (pv 1)
      exact eo_none
      refine eo_some ?_
      exact ee_var (pv 3)
      refine ee_has h_law_pick (hr.mono (by decide)) (by rfl) ?_
      refine ea_cons ?_ ?_
      exact ee_pk (i := 0) (lt_ hgL rfl) (pv 0)
      refine ea_cons ?_ ?_
      refine ee_lst ?_
      refine ea_cons ?_ ?_
      exact ee_str
      refine ea_cons ?_ ?_
      exact ee_str
      refine ea_cons ?_ ?_
      exact ee_str
      refine ea_cons ?_ ?_
      exact ee_str
      refine ea_cons ?_ ?_
      exact ee_str
      refine ea_cons ?_ ?_
      exact ee_str
      exact ea_nil
      exact ea_nil
      refine ee_sl ?_ ?_ ?_
      exact ee_var (pv 1)
      refine eo_some ?_
      exact ee_var (pv 3)
      exact eo_none
      exact eb_nil
      refine eb_cons ?_ ?_
      refine es_if ?_ ?_ ?_
      refine et_val ?_
      refine ee_isi2 (by rfl) m_isinstance (by rfl) m_int ?_
      exact ee_var (pv 1)
      refine eb_one ?_
      refine es_ret ?_
      refine ee_plusB ?_ ?_
      exact ee_var (pv 1)
      refine ee_has h_law_pick (hr.mono (by decide)) (by rfl) ?_
      refine ea_cons ?_ ?_
      exact ee_pk (i := 0) (lt_ hgL rfl) (pv 0)
      refine ea_cons ?_ ?_
      refine ee_lst ?_
      refine ea_cons ?_ ?_
      exact ee_int
      refine ea_cons ?_ ?_
      refine ee_neg ?_
      exact ee_int
      refine ea_cons ?_ ?_
      refine ee_pow ?_ ?_
      exact ee_int
      exact ee_int
      exact ea_nil
      exact ea_nil
      exact eb_nil
      refine eb_one ?_
      refine es_ret ?_
      refine ee_has h_law_moment (hr.mono (by decide)) (by rfl) ?_
      refine ea_cons ?_ ?_
      exact ee_pk (i := 0) (lt_ hgL rfl) (pv 0)
      exact ea_nil) ok_law_odd, gl, F.kp, F.bindsN (fun _ _ _ _ _ _ us hl => match us, hl with | [_, _], _ => rfl)⟩
theorem has_law_spoilt {a : Addr} {fd : FuncData} (F : FunD K "_law_spoilt" "_law_spoilt" (defArgs st_law_spoilt) (defBody st_law_spoilt) (defScope st_law_spoilt) [] [] a fd) (gl : mg "_law_spoilt" = some (.ref a)) (m_list : mg "list" = none) (h_law_take : Has P w K mg base 1 "_law_take" CFH.S_law_take) (m_range : mg "range" = none) (m_len : mg "len" = none) (h_law_odd : Has P w K mg base 4 "_law_odd" S_law_odd) (h_law_pick : Has P w K mg base 2 "_law_pick" CFH.S_law_pick) (m_tuple : mg "tuple" = none) : Has P w K mg base 5 "_law_spoilt" S_law_spoilt :=
  ⟨a, fd, P_law_spoilt, fn0 (k := 4) (L := L_law_spoilt) (ww := w_law_spoilt) F sc_law_spoilt rfl len_law_spoilt (by
      intro cdv A outer s H E hr g hgL
      unfold w_law_spoilt
      refine eb_cons ?_ ?_
      refine es_set (i := 2) sc_law_spoilt.nd rfl (Or.inl rfl) ?_
      refine ee_list (by rfl) m_list ?_
      refine ea_cons ?_ ?_
      exact ee_var (pv 1)
      exact ea_nil
      refine eb_cons ?_ ?_
      refine es_setF (i := 3) sc_law_spoilt.nd rfl (Or.inl rfl) ?_
      refine ee_has h_law_take (hr.mono (by decide)) (by rfl) ?_
      refine ea_cons ?_ ?_
      exact ee_pk (i := 0) (lt_ hgL rfl) (pv 0)
      refine ea_cons ?_ ?_
      exact ee_int
      exact ea_nil
      refine eb_cons ?_ ?_
      refine es_if ?_ ?_ ?_
      refine et_lt ?_ ?_
      exact ee_var (pv 3)
      exact ee_int
      refine eb_one ?_
      refine es_for PassesOwn.never rfl ?_ (eg_name (i := 4) sc_law_spoilt.nd rfl (Or.inl rfl)) ?_
      refine ei_range1 (by rfl) m_range ?_
      refine ea_cons ?_ ?_
      refine ee_add ?_ ?_
      exact ee_int
      refine ee_div ?_ ?_
      exact ee_var (pv 3)
      exact ee_int
      exact ea_nil
      refine eb_cons ?_ ?_
      refine es_setF (i := 5) sc_law_spoilt.nd rfl (Or.inl rfl) ?_
      refine ee_has h_law_take (hr.mono (by decide)) (by rfl) ?_
      refine ea_cons ?_ ?_
      exact ee_pk (i := 0) (lt_ hgL rfl) (pv 0)
      refine ea_cons ?_ ?_
      refine ee_len (by rfl) m_len ?_
      refine ea_cons ?_ ?_
      exact ee_ln (i := 2) (lt_ hgL rfl) (pv 2)
      exact ea_nil
      exact ea_nil
      refine eb_one ?_
      refine es_setIx (i := 2) (lt_ hgL rfl) (pv 2) ?_ ?_
      refine ee_has h_law_odd (hr.mono (by decide)) (by rfl) ?_
      refine ea_cons ?_ ?_
      exact ee_pk (i := 0) (lt_ hgL rfl) (pv 0)
      refine ea_cons ?_ ?_
      refine ee_oix (i := 2) (pv 2) ?_
      exact ee_var (pv 5)
      exact ea_nil
      exact ee_var (pv 5)
      refine eb_one ?_
      refine es_if ?_ ?_ ?_
      refine et_eq hr.units ?_ ?_
      exact ee_var (pv 3)
      exact ee_int
      refine eb_cons ?_ ?_
      refine es_setF (i := 5) sc_law_spoilt.nd rfl (Or.inl rfl) ?_
      refine ee_has h_law_take (hr.mono (by decide)) (by rfl) ?_
      refine ea_cons ?_ ?_
      exact ee_pk (i := 0) (lt_ hgL rfl) (pv 0)
      refine ea_cons ?_ ?_
      refine ee_len (by rfl) m_len ?_
      refine ea_cons ?_ ?_
      exact ee_ln (i := 2) (lt_ hgL rfl) (pv 2)
      exact ea_nil
      exact ea_nil
      refine eb_one ?_
      refine es_set (i := 2) sc_law_spoilt.nd rfl (Or.inl rfl) ?_
      refine ee_catL ?_ ?_
      refine ee_sl ?_ ?_ ?_
      exact ee_ln (i := 2) (lt_ hgL rfl) (pv 2)
      exact eo_none
      refine eo_some ?_
      exact ee_var (pv 5)
      refine ee_sl ?_ ?_ ?_
      exact ee_ln (i := 2) (lt_ hgL rfl) (pv 2)
      refine eo_some ?_
      refine ee_add ?_ ?_
      exact ee_var (pv 5)
      exact ee_int
      exact eo_none
      refine eb_one ?_
      refine es_if ?_ ?_ ?_
      refine et_eq hr.units ?_ ?_
      exact ee_var (pv 3)
      exact ee_int
      refine eb_cons ?_ ?_
      refine es_setF (i := 5) sc_law_spoilt.nd rfl (Or.inl rfl) ?_
      refine ee_has h_law_take (hr.mono (by decide)) (by rfl) ?_
      refine ea_cons ?_ ?_
      exact ee_pk (i := 0) (lt_ hgL rfl) (pv 0)
      refine ea_cons ?_ ?_
      refine ee_add ?_ ?_
      refine ee_len (by rfl) m_len ?_
      refine ea_cons ?_ ?_
      exact ee_ln (i := 2) (lt_ hgL rfl) (pv 2)
      exact ea_nil
      exact ee_int
      exact ea_nil
      refine eb_one ?_
      refine es_set (i := 2) sc_law_spoilt.nd rfl (Or.inl rfl) ?_
      refine ee_catL ?_ ?_
      refine ee_catL ?_ ?_
      refine ee_sl ?_ ?_ ?_
      exact ee_ln (i := 2) (lt_ hgL rfl) (pv 2)
      exact eo_none
      refine eo_some ?_
      exact ee_var (pv 5)
      refine ee_lst ?_
      refine ea_cons ?_ ?_
      refine ee_has h_law_odd (hr.mono (by decide)) (by rfl) ?_
      refine ea_cons ?_ ?_
      exact ee_pk (i := 0) (lt_ hgL rfl) (pv 0)
      refine ea_cons ?_ ?_
      refine ee_has h_law_pick (hr.mono (by decide)) (by rfl) ?_
      refine ea_cons ?_ ?_
      exact ee_pk (i := 0) (lt_ hgL rfl) (pv 0)
      refine ea_cons ?_ ?_
      exact ee_ln (i := 2) (lt_ hgL rfl) (pv 2)
      exact ea_nil
      exact ea_nil
      exact ea_nil
      refine ee_sl ?_ ?_ ?_
      exact ee_ln (i := 2) (lt_ hgL rfl) (pv 2)
      refine eo_some ?_
      exact ee_var (pv 5)
      exact eo_none
      refine eb_one ?_
      exact es_retO (i := 2) (lt_ hgL rfl) (pv 2)
      refine eb_one ?_
      refine es_ret ?_
      refine ee_tuple (by rfl) m_tuple ?_
      refine ea_cons ?_ ?_
      exact ee_frz (i := 2) (lt_ hgL rfl) (pv 2)
      exact ea_nil) ok_law_spoilt, gl, F.kp, F.bindsN (fun _ _ _ _ _ _ us hl => match us, hl with | [_, _], _ => rfl)⟩
theorem has_law_is_whole {a : Addr} {fd : FuncData} (F : FunD K "_law_is_whole" "_law_is_whole" (defArgs st_law_is_whole) (defBody st_law_is_whole) (defScope st_law_is_whole) [] [] a fd) (gl : mg "_law_is_whole" = some (.ref a)) (m_isinstance : mg "isinstance" = none) (m_int : mg "int" = none) (m_bool : mg "bool" = none) : Has P w K mg base 1 "_law_is_whole" S_law_is_whole :=
  ⟨a, fd, P_law_is_whole, fn0 (k := 0) (L := L_law_is_whole) (ww := w_law_is_whole) F sc_law_is_whole rfl len_law_is_whole (by
      intro cdv A outer s H E hr g hgL
      unfold w_law_is_whole
      refine eb_one ?_
      refine es_ret ?_
      refine ee_and ?_ ?_
      refine ee_isi2 (by rfl) m_isinstance (by rfl) m_int ?_
      exact ee_var (pv 0)
      refine ee_one ?_
      refine ee_not ?_
      refine ee_isi2 (by rfl) m_isinstance (by rfl) m_bool ?_
      exact ee_var (pv 0)) ok_law_is_whole, gl, F.kp, F.bindsN (fun _ _ _ _ _ _ us hl => match us, hl with | [_], _ => rfl)⟩
theorem has_law_is_word {a : Addr} {fd : FuncData} (F : FunD K "_law_is_word" "_law_is_word" (defArgs st_law_is_word) (defBody st_law_is_word) (defScope st_law_is_word) [] [] a fd) (gl : mg "_law_is_word" = some (.ref a)) (m_isinstance : mg "isinstance" = none) (m_str : mg "str" = none) (m_len : mg "len" = none) : Has P w K mg base 1 "_law_is_word" S_law_is_word :=
  ⟨a, fd, P_law_is_word, fn0 (k := 0) (L := L_law_is_word) (ww := w_law_is_word) F sc_law_is_word rfl len_law_is_word (by
      intro cdv A outer s H E hr g hgL
      unfold w_law_is_word
      refine eb_cons ?_ ?_
      refine es_if ?_ ?_ ?_
      refine et_w ?_
      refine ew_or ?_ ?_
      refine et_not ?_
      refine et_val ?_
      refine ee_isi2 (by rfl) m_isinstance (by rfl) m_str ?_
      exact ee_var (pv 0)
      refine ew_or ?_ ?_
      refine et_lt ?_ ?_
      refine ee_len (by rfl) m_len ?_
      refine ea_cons ?_ ?_
      exact ee_var (pv 0)
      exact ea_nil
      exact ee_int
      refine ew_or1 ?_
      refine et_gt ?_ ?_
      refine ee_len (by rfl) m_len ?_
      refine ea_cons ?_ ?_
      exact ee_var (pv 0)
      exact ea_nil
      exact ee_int
      refine eb_one ?_
      refine es_ret ?_
      exact ee_bl
      exact eb_nil
      refine eb_cons ?_ ?_
      refine es_for PassesOwn.never rfl ?_ (eg_name (i := 1) sc_law_is_word.nd rfl (Or.inl rfl)) ?_
      refine ei_seq ?_
      exact ee_var (pv 0)
      refine eb_one ?_
      refine es_if ?_ ?_ ?_
      refine et_notin (units65 hr) ?_ ?_
      exact ee_var (pv 1)
      exact ee_str
      refine eb_one ?_
      refine es_ret ?_
      exact ee_bl
      exact eb_nil
      refine eb_one ?_
      refine es_ret ?_
      exact ee_bl) ok_law_is_word, gl, F.kp, F.bindsN (fun _ _ _ _ _ _ us hl => match us, hl with | [_], _ => rfl)⟩
theorem has_law_is_so {a : Addr} {fd : FuncData} (F : FunD K "_law_is_so" "_law_is_so" (defArgs st_law_is_so) (defBody st_law_is_so) (defScope st_law_is_so) [] [] a fd) (gl : mg "_law_is_so" = some (.ref a)) (m_isinstance : mg "isinstance" = none) (m_tuple : mg "tuple" = none) (m_len : mg "len" = none) (m_str : mg "str" = none) (m_int : mg "int" = none) (m_all : mg "all" = none) (h_law_is_word : Has P w K mg base 1 "_law_is_word" S_law_is_word) (h_law_is_whole : Has P w K mg base 1 "_law_is_whole" S_law_is_whole) : Has P w K mg base 2 "_law_is_so" S_law_is_so :=
  ⟨a, fd, P_law_is_so, fn0 (k := 1) (L := L_law_is_so) (ww := w_law_is_so) F sc_law_is_so rfl len_law_is_so (by
      intro cdv A outer s H E hr g hgL
      unfold w_law_is_so
      refine eb_cons ?_ ?_
      refine es_if ?_ ?_ ?_
      refine et_w ?_
      refine ew_or ?_ ?_
      refine et_not ?_
      refine et_val ?_
      refine ee_isi2 (by rfl) m_isinstance (by rfl) m_tuple ?_
      exact ee_var (pv 0)
      refine ew_or1 ?_
      refine et_notin (units65 hr) ?_ ?_
      refine ee_len (by rfl) m_len ?_
      refine ea_cons ?_ ?_
      exact ee_var (pv 0)
      exact ea_nil
      refine ee_tup ?_
      refine ea_cons ?_ ?_
      exact ee_int
      refine ea_cons ?_ ?_
      exact ee_int
      exact ea_nil
      refine eb_one ?_
      refine es_ret ?_
      exact ee_bl
      exact eb_nil
      refine eb_cons ?_ ?_
      refine es_if ?_ ?_ ?_
      refine et_w ?_
      refine ew_or ?_ ?_
      refine et_not ?_
      refine et_val ?_
      refine ee_isi2 (by rfl) m_isinstance (by rfl) m_str ?_
      refine ee_ix ?_ ?_
      exact ee_var (pv 0)
      exact ee_int
      refine ew_or1 ?_
      refine et_notin (units65 hr) ?_ ?_
      refine ee_ix ?_ ?_
      exact ee_var (pv 0)
      exact ee_int
      refine ee_tup ?_
      refine ea_cons ?_ ?_
      exact ee_str
      refine ea_cons ?_ ?_
      exact ee_str
      refine ea_cons ?_ ?_
      exact ee_str
      exact ea_nil
      refine eb_one ?_
      refine es_ret ?_
      exact ee_bl
      exact eb_nil
      refine eb_cons ?_ ?_
      refine es_if ?_ ?_ ?_
      refine et_ne hr.units ?_ ?_
      refine ee_len (by rfl) m_len ?_
      refine ea_cons ?_ ?_
      exact ee_var (pv 0)
      exact ea_nil
      refine ee_add ?_ ?_
      exact ee_int
      refine ee_int1 (by rfl) m_int ?_
      refine ea_cons ?_ ?_
      refine ee_eq hr.units ?_ ?_
      refine ee_ix ?_ ?_
      exact ee_var (pv 0)
      exact ee_int
      exact ee_str
      exact ea_nil
      refine eb_one ?_
      refine es_ret ?_
      exact ee_bl
      exact eb_nil
      refine eb_cons ?_ ?_
      refine es_if ?_ ?_ ?_
      refine et_not ?_
      refine et_val ?_
      refine ee_all rfl (by rfl) m_all ?_
      refine ea_cons ?_ ?_
      refine ee_lc (own := [("_law_word_here", 4)]) rfl sc_law_is_so.nd (lf_ hgL rfl) ?_ (blkOk_by (own := [("_law_word_here", 4)]) (N := N_law_is_so) (sc := defScope st_law_is_so) (by decide +kernel)) (fun _ _ _ _ _ => eg_name (i := 4) sc_law_is_so.nd rfl (Or.inl rfl)) (fun _ _ _ _ _ => ets_nil) (fun _ _ _ _ _ => ee_has h_law_is_word (hr.mono (by decide)) (by rfl) (ea_cons (ee_var (pv 4)) ea_nil))
      refine ei_seq ?_
      refine ee_sl ?_ ?_ ?_
      exact ee_var (pv 0)
      refine eo_some ?_
      exact ee_int
      refine eo_some ?_
      refine ee_neg ?_
      exact ee_int
      exact ea_nil
      refine eb_one ?_
      refine es_ret ?_
      exact ee_bl
      exact eb_nil
      refine eb_cons ?_ ?_
      refine es_if ?_ ?_ ?_
      refine et_w ?_
      refine ew_and ?_ ?_
      refine et_eq hr.units ?_ ?_
      refine ee_ix ?_ ?_
      exact ee_var (pv 0)
      exact ee_int
      exact ee_str
      refine ew_and1 ?_
      refine et_eq hr.units ?_ ?_
      refine ee_ix ?_ ?_
      exact ee_var (pv 0)
      exact ee_int
      refine ee_ix ?_ ?_
      exact ee_var (pv 0)
      exact ee_int
      refine eb_one ?_
      refine es_ret ?_
      exact ee_bl
      exact eb_nil
      refine eb_cons ?_ ?_
      refine es_par (i := 1) (j := 2) rfl sc_law_is_so.nd rfl rfl (by decide) rfl rfl ?_ (by rfl)
      refine ea_cons ?_ ?_
      refine ee_ix ?_ ?_
      exact ee_var (pv 0)
      refine ee_neg ?_
      exact ee_int
      refine ea_cons ?_ ?_
      refine ee_ix ?_ ?_
      exact ee_var (pv 0)
      refine ee_neg ?_
      exact ee_int
      exact ea_nil
      refine eb_cons ?_ ?_
      refine es_if ?_ ?_ ?_
      refine et_w ?_
      refine ew_or ?_ ?_
      refine et_not ?_
      refine et_val ?_
      refine ee_has h_law_is_whole (hr.mono (by decide)) (by rfl) ?_
      refine ea_cons ?_ ?_
      exact ee_var (pv 1)
      exact ea_nil
      refine ew_or ?_ ?_
      refine et_lt ?_ ?_
      exact ee_var (pv 1)
      exact ee_int
      refine ew_or1 ?_
      refine et_ge ?_ ?_
      exact ee_var (pv 1)
      refine ee_pow ?_ ?_
      exact ee_int
      exact ee_int
      refine eb_one ?_
      refine es_ret ?_
      exact ee_bl
      exact eb_nil
      refine eb_cons ?_ ?_
      refine es_if ?_ ?_ ?_
      refine et_isN ?_
      exact ee_var (pv 2)
      refine eb_one ?_
      refine es_ret ?_
      exact ee_bl
      exact eb_nil
      refine eb_one ?_
      refine es_ret ?_
      refine ee_and ?_ ?_
      refine ee_has h_law_is_whole (hr.mono (by decide)) (by rfl) ?_
      refine ea_cons ?_ ?_
      exact ee_var (pv 2)
      exact ea_nil
      refine ee_and ?_ ?_
      refine ee_lt ?_ ?_
      exact ee_var (pv 1)
      exact ee_var (pv 2)
      refine ee_one ?_
      refine ee_lt ?_ ?_
      exact ee_var (pv 2)
      refine ee_pow ?_ ?_
      exact ee_int
      exact ee_int) ok_law_is_so, gl, F.kp, F.bindsN (fun _ _ _ _ _ _ us hl => match us, hl with | [_], _ => rfl)⟩
theorem has_law_covered {a : Addr} {fd : FuncData} (F : FunD K "_law_covered" "_law_covered" (defArgs st_law_covered) (defBody st_law_covered) (defScope st_law_covered) [] [] a fd) (gl : mg "_law_covered" = some (.ref a)) (h_covers : Has P w K mg base 1 "covers" CFTd.S_covers) (m_isinstance : mg "isinstance" = none) (m_bool : mg "bool" = none) : Has P w K mg base 2 "_law_covered" S_law_covered :=
  ⟨a, fd, P_law_covered, fn0 (k := 1) (L := L_law_covered) (ww := w_law_covered) F sc_law_covered rfl len_law_covered (by
      intro cdv A outer s H E hr g hgL
      unfold w_law_covered
      refine eb_cons ?_ ?_
      refine es_setF (i := 2) sc_law_covered.nd rfl (Or.inl rfl) ?_
      refine ee_has h_covers (hr.mono (by decide)) (by rfl) ?_
      refine ea_cons ?_ ?_
      exact ee_var (pv 0)
      refine ea_cons ?_ ?_
      exact ee_var (pv 1)
      exact ea_nil
      refine eb_cons ?_ ?_
      refine es_setF (i := 3) sc_law_covered.nd rfl (Or.inl rfl) ?_
      refine ee_and ?_ ?_
      refine ee_ge ?_ ?_
      exact ee_var (pv 1)
      refine ee_ix ?_ ?_
      exact ee_var (pv 0)
      refine ee_neg ?_
      exact ee_int
      refine ee_one ?_
      refine ee_or ?_ ?_
      refine ee_isN ?_
      refine ee_ix ?_ ?_
      exact ee_var (pv 0)
      refine ee_neg ?_
      exact ee_int
      refine ee_one ?_
      refine ee_lt ?_ ?_
      exact ee_var (pv 1)
      refine ee_ix ?_ ?_
      exact ee_var (pv 0)
      refine ee_neg ?_
      exact ee_int
      refine eb_one ?_
      refine es_ret ?_
      refine ee_and ?_ ?_
      refine ee_isi2 (by rfl) m_isinstance (by rfl) m_bool ?_
      exact ee_var (pv 2)
      refine ee_one ?_
      refine ee_eq hr.units ?_ ?_
      exact ee_var (pv 2)
      exact ee_var (pv 3)) ok_law_covered, gl, F.kp, F.bindsN (fun _ _ _ _ _ _ us hl => match us, hl with | [_, _], _ => rfl)⟩
theorem fn_law {a : Addr} {fd : FuncData} (F : FunD K "law" "law" (defArgs st_law) (defBody st_law) (defScope st_law) [] [] a fd) (m_range : mg "range" = none) (m_max : mg "max" = none) (m_min : mg "min" = none) (m_len : mg "len" = none) (h_law_hand : Has P w K mg base 1 "_law_hand" CFH.S_law_hand) (h_law_good : Has P w K mg base 4 "_law_good" S_law_good) (h_law_spoilt : Has P w K mg base 5 "_law_spoilt" S_law_spoilt) (h_is_change : Has P w K mg base 4 "is_change" CFIc.S_is_change) (m_isinstance : mg "isinstance" = none) (m_bool : mg "bool" = none) (h_law_is_so : Has P w K mg base 2 "_law_is_so" S_law_is_so) (m_all : mg "all" = none) (h_law_covered : Has P w K mg base 2 "_law_covered" S_law_covered) : FnOk P w K mg base (L2.CX P w) 6 a fd P_law (spOf K S_law) :=
  fn0 (k := 5) (L := L_law) (ww := w_law) F sc_law rfl len_law (by
      intro cdv A outer s H E hr g hgL
      unfold w_law
      refine eb_cons ?_ ?_
      refine es_for PassesOwn.never rfl ?_ (eg_name (i := 1) sc_law.nd rfl (Or.inl rfl)) ?_
      refine ei_range1 (by rfl) m_range ?_
      refine ea_cons ?_ ?_
      refine ee_max2 rfl (by rfl) m_max ?_
      refine ea_cons ?_ ?_
      exact ee_int
      refine ea_cons ?_ ?_
      refine ee_min2 rfl (by rfl) m_min ?_
      refine ea_cons ?_ ?_
      exact ee_int
      refine ea_cons ?_ ?_
      refine ee_len (by rfl) m_len ?_
      refine ea_cons ?_ ?_
      exact ee_var (pv 0)
      exact ea_nil
      exact ea_nil
      exact ea_nil
      exact ea_nil
      refine eb_cons ?_ ?_
      refine es_set (i := 2) sc_law.nd rfl (Or.inl rfl) ?_
      refine ee_has h_law_hand (hr.mono (by decide)) (by rfl) ?_
      refine ea_cons ?_ ?_
      exact ee_var (pv 0)
      refine ea_cons ?_ ?_
      exact ee_var (pv 1)
      exact ea_nil
      refine eb_cons ?_ ?_
      refine es_setF (i := 3) sc_law.nd rfl (Or.inr rfl) ?_
      refine ee_has h_law_good (hr.mono (by decide)) (by rfl) ?_
      refine ea_cons ?_ ?_
      exact ee_pk (i := 2) (lt_ hgL rfl) (pv 2)
      exact ea_nil
      refine eb_cons ?_ ?_
      refine es_forN PassesOwn.never rfl ?_ (eg_name (i := 4) sc_law.nd rfl (Or.inl rfl)) ?_
      refine ei_lst ?_
      refine ee_lst ?_
      refine ea_cons ?_ ?_
      exact ee_var (pv 3)
      refine ea_cons ?_ ?_
      refine ee_has h_law_spoilt (hr.mono (by decide)) (by rfl) ?_
      refine ea_cons ?_ ?_
      exact ee_pk (i := 2) (lt_ hgL rfl) (pv 2)
      refine ea_cons ?_ ?_
      exact ee_var (pv 3)
      exact ea_nil
      exact ea_nil
      refine eb_cons ?_ ?_
      refine es_setF (i := 5) sc_law.nd rfl (Or.inl rfl) ?_
      refine ee_has h_is_change (hr.mono (by decide)) (by rfl) ?_
      refine ea_cons ?_ ?_
      exact ee_var (pv 4)
      exact ea_nil
      refine eb_one ?_
      refine es_if ?_ ?_ ?_
      refine et_w ?_
      refine ew_or ?_ ?_
      refine et_not ?_
      refine et_val ?_
      refine ee_isi2 (by rfl) m_isinstance (by rfl) m_bool ?_
      exact ee_var (pv 5)
      refine ew_or1 ?_
      refine et_ne hr.units ?_ ?_
      exact ee_var (pv 5)
      refine ee_has h_law_is_so (hr.mono (by decide)) (by rfl) ?_
      refine ea_cons ?_ ?_
      exact ee_var (pv 4)
      exact ea_nil
      refine eb_one ?_
      refine es_ret ?_
      exact ee_bl
      exact eb_nil
      refine eb_one ?_
      refine es_if ?_ ?_ ?_
      refine et_val ?_
      refine ee_has h_law_is_so (hr.mono (by decide)) (by rfl) ?_
      refine ea_cons ?_ ?_
      exact ee_var (pv 3)
      exact ea_nil
      refine eb_cons ?_ ?_
      refine es_set (i := 6) sc_law.nd rfl (Or.inl rfl) ?_
      refine ee_lst ?_
      refine ea_cons ?_ ?_
      exact ee_int
      refine ea_cons ?_ ?_
      refine ee_ix ?_ ?_
      exact ee_var (pv 3)
      refine ee_neg ?_
      exact ee_int
      refine ea_cons ?_ ?_
      refine ee_add ?_ ?_
      refine ee_ix ?_ ?_
      exact ee_var (pv 3)
      refine ee_neg ?_
      exact ee_int
      exact ee_int
      refine ea_cons ?_ ?_
      refine ee_max2 rfl (by rfl) m_max ?_
      refine ea_cons ?_ ?_
      exact ee_int
      refine ea_cons ?_ ?_
      refine ee_sub ?_ ?_
      refine ee_ix ?_ ?_
      exact ee_var (pv 3)
      refine ee_neg ?_
      exact ee_int
      exact ee_int
      exact ea_nil
      refine ea_cons ?_ ?_
      refine ee_pow ?_ ?_
      exact ee_int
      exact ee_int
      exact ea_nil
      refine eb_cons ?_ ?_
      refine es_if ?_ ?_ ?_
      refine et_notN ?_
      refine ee_ix ?_ ?_
      exact ee_var (pv 3)
      refine ee_neg ?_
      exact ee_int
      refine eb_one ?_
      refine es_expr ?_
      refine ee_ext (i := 6) (lt_ hgL rfl) (pv 6) ?_
      refine ee_lst ?_
      refine ea_cons ?_ ?_
      refine ee_ix ?_ ?_
      exact ee_var (pv 3)
      refine ee_neg ?_
      exact ee_int
      refine ea_cons ?_ ?_
      refine ee_sub ?_ ?_
      refine ee_ix ?_ ?_
      exact ee_var (pv 3)
      refine ee_neg ?_
      exact ee_int
      exact ee_int
      refine ea_cons ?_ ?_
      refine ee_add ?_ ?_
      refine ee_ix ?_ ?_
      exact ee_var (pv 3)
      refine ee_neg ?_
      exact ee_int
      exact ee_int
      exact ea_nil
      exact eb_nil
      refine eb_one ?_
      refine es_if ?_ ?_ ?_
      refine et_not ?_
      refine et_val ?_
      refine ee_all rfl (by rfl) m_all ?_
      refine ea_cons ?_ ?_
      exact ee_lcO (own := [("_law_t", 8)]) (i := 6) rfl sc_law.nd (lf_ hgL rfl) (lt_ hgL rfl) (pv 6) (blkOk_by (own := [("_law_t", 8)]) (N := N_law) (sc := defScope st_law) (by decide +kernel)) (fun _ _ _ _ _ => eg_name (i := 8) sc_law.nd rfl (Or.inl rfl)) (fun _ _ _ _ _ => ets_nil) (fun _ _ _ _ _ => ee_has h_law_covered (hr.mono (by decide)) (by rfl) (ea_cons (ee_var (pv 3)) (ea_cons (ee_var (pv 8)) ea_nil)))
      exact ea_nil
      refine eb_one ?_
      refine es_ret ?_
      exact ee_bl
      exact eb_nil
      exact eb_nil
      refine eb_one ?_
      refine es_ret ?_
      exact ee_bl) ok_law
end
theorem facts {P : Program} {w : World} {K : PySem.W.Frag} {h : Heap} {mg : Str → Option Value} {f : Addr} (X : K.In h) (G : h.Ns mainGlobals mg) (hfa : mg ("law" : Str) = some (.ref f)) (c : He.SaysD fa fn K) :
    ∃ fd : FuncData, (∀ (s : Shared) (v : Value), BindsTo s fd ⟨[v], []⟩ [("_law_script", v)]) ∧ ∀ base : Heap, K.In base → base.Ns mainGlobals mg → FnOk P w K mg base (L2.CX P w) 6 f fd ["_law_script"] (spOf K S_law) := by
  obtain ⟨fd_is_whole, F_is_whole⟩ := c.def_ 0 (d := dd_is_whole) rfl
  obtain ⟨fd_is_moment, F_is_moment⟩ := c.def_ 1 (d := dd_is_moment) rfl
  obtain ⟨fd_is_word, F_is_word⟩ := c.def_ 2 (d := dd_is_word) rfl
  obtain ⟨fd_is_span, F_is_span⟩ := c.def_ 3 (d := dd_is_span) rfl
  obtain ⟨fd_is_change, F_is_change⟩ := c.def_ 4 (d := dd_is_change) rfl
  obtain ⟨fd_covers, F_covers⟩ := c.def_ 5 (d := dd_covers) rfl
  obtain ⟨fd_law_hand, F_law_hand⟩ := c.def_ 6 (d := dd_law_hand) rfl
  obtain ⟨fd_law_take, F_law_take⟩ := c.def_ 7 (d := dd_law_take) rfl
  obtain ⟨fd_law_pick, F_law_pick⟩ := c.def_ 8 (d := dd_law_pick) rfl
  obtain ⟨fd_law_great, F_law_great⟩ := c.def_ 9 (d := dd_law_great) rfl
  obtain ⟨fd_law_moment, F_law_moment⟩ := c.def_ 10 (d := dd_law_moment) rfl
  obtain ⟨fd_law_word, F_law_word⟩ := c.def_ 11 (d := dd_law_word) rfl
  obtain ⟨fd_law_good, F_law_good⟩ := c.def_ 12 (d := dd_law_good) rfl
  obtain ⟨fd_law_odd, F_law_odd⟩ := c.def_ 13 (d := dd_law_odd) rfl
  obtain ⟨fd_law_spoilt, F_law_spoilt⟩ := c.def_ 14 (d := dd_law_spoilt) rfl
  obtain ⟨fd_law_is_whole, F_law_is_whole⟩ := c.def_ 15 (d := dd_law_is_whole) rfl
  obtain ⟨fd_law_is_word, F_law_is_word⟩ := c.def_ 16 (d := dd_law_is_word) rfl
  obtain ⟨fd_law_is_so, F_law_is_so⟩ := c.def_ 17 (d := dd_law_is_so) rfl
  obtain ⟨fd_law_covered, F_law_covered⟩ := c.def_ 18 (d := dd_law_covered) rfl
  obtain ⟨fd_law, F_law⟩ := c.def_ 19 (d := dd_law) rfl
  have g_is_whole := He.glo_ok X G (c.fact 0 (f := .glo "is_whole") rfl)
  have g_is_moment := He.glo_ok X G (c.fact 1 (f := .glo "is_moment") rfl)
  have g_is_word := He.glo_ok X G (c.fact 2 (f := .glo "is_word") rfl)
  have g_is_span := He.glo_ok X G (c.fact 3 (f := .glo "is_span") rfl)
  have g_is_change := He.glo_ok X G (c.fact 4 (f := .glo "is_change") rfl)
  have g_covers := He.glo_ok X G (c.fact 5 (f := .glo "covers") rfl)
  have g_law_hand := He.glo_ok X G (c.fact 6 (f := .glo "_law_hand") rfl)
  have g_law_take := He.glo_ok X G (c.fact 7 (f := .glo "_law_take") rfl)
  have g_law_pick := He.glo_ok X G (c.fact 8 (f := .glo "_law_pick") rfl)
  have g_law_great := He.glo_ok X G (c.fact 9 (f := .glo "_law_great") rfl)
  have g_law_moment := He.glo_ok X G (c.fact 10 (f := .glo "_law_moment") rfl)
  have g_law_word := He.glo_ok X G (c.fact 11 (f := .glo "_law_word") rfl)
  have g_law_good := He.glo_ok X G (c.fact 12 (f := .glo "_law_good") rfl)
  have g_law_odd := He.glo_ok X G (c.fact 13 (f := .glo "_law_odd") rfl)
  have g_law_spoilt := He.glo_ok X G (c.fact 14 (f := .glo "_law_spoilt") rfl)
  have g_law_is_whole := He.glo_ok X G (c.fact 15 (f := .glo "_law_is_whole") rfl)
  have g_law_is_word := He.glo_ok X G (c.fact 16 (f := .glo "_law_is_word") rfl)
  have g_law_is_so := He.glo_ok X G (c.fact 17 (f := .glo "_law_is_so") rfl)
  have g_law_covered := He.glo_ok X G (c.fact 18 (f := .glo "_law_covered") rfl)
  have g_law := He.glo_ok X G (c.fact 19 (f := .glo "law") rfl)
  have m_isinstance := He.free_ok X G (c.fact 20 (f := .free "isinstance") rfl)
  have m_int := He.free_ok X G (c.fact 21 (f := .free "int") rfl)
  have m_bool := He.free_ok X G (c.fact 22 (f := .free "bool") rfl)
  have m_str := He.free_ok X G (c.fact 23 (f := .free "str") rfl)
  have m_len := He.free_ok X G (c.fact 24 (f := .free "len") rfl)
  have m_all := He.free_ok X G (c.fact 25 (f := .free "all") rfl)
  have m_tuple := He.free_ok X G (c.fact 26 (f := .free "tuple") rfl)
  have m_range := He.free_ok X G (c.fact 27 (f := .free "range") rfl)
  have m_list := He.free_ok X G (c.fact 28 (f := .free "list") rfl)
  have m_max := He.free_ok X G (c.fact 29 (f := .free "max") rfl)
  have m_min := He.free_ok X G (c.fact 30 (f := .free "min") rfl)
  have c_LATEST := He.int_ok X G (c.fact 31 (f := .int "LATEST" 1000000000000000000000000000000000000000000000000000000000000) rfl)
  have c_SIGNS := He.str_ok X G (c.fact 32 (f := .str "SIGNS" "abcdefghijklmnopqrstuvwxyz0123456789") rfl)
  have e := hfa.symm.trans g_law
  cases e
  have b := FunD.bindsA (ps := ["_law_script"]) F_law fun _ _ _ _ _ _ us hl => match us, hl with | [_], _ => rfl
  refine ⟨fd_law, fun s v => b s [v] rfl, fun base _ _ => ?_⟩
  have h_is_whole : Has P w K mg base 1 "is_whole" CFIs.S_is_whole := has_is_whole F_is_whole g_is_whole m_isinstance m_int m_bool
  have h_is_moment : Has P w K mg base 2 "is_moment" CFIj.S_is_moment := has_is_moment F_is_moment g_is_moment h_is_whole c_LATEST
  have h_is_word : Has P w K mg base 1 "is_word" CFIs.S_is_word := has_is_word F_is_word g_is_word m_isinstance m_str m_len m_all c_SIGNS
  have h_is_span : Has P w K mg base 3 "is_span" CFIc.S_is_span := has_is_span F_is_span g_is_span h_is_moment
  have h_is_change : Has P w K mg base 4 "is_change" CFIc.S_is_change := has_is_change F_is_change g_is_change m_isinstance m_tuple m_len m_str h_is_word h_is_span
  have h_covers : Has P w K mg base 1 "covers" CFTd.S_covers := has_covers F_covers g_covers 
  have h_law_hand : Has P w K mg base 1 "_law_hand" CFH.S_law_hand := has_law_hand F_law_hand g_law_hand m_len m_int
  have h_law_take : Has P w K mg base 1 "_law_take" CFH.S_law_take := has_law_take F_law_take g_law_take 
  have h_law_pick : Has P w K mg base 2 "_law_pick" CFH.S_law_pick := has_law_pick F_law_pick g_law_pick h_law_take m_len
  have h_law_great : Has P w K mg base 2 "_law_great" CFH.S_law_great := has_law_great F_law_great g_law_great m_range h_law_take
  have h_law_moment : Has P w K mg base 3 "_law_moment" CFCh.S_law_moment := has_law_moment F_law_moment g_law_moment h_law_take h_law_great
  have h_law_word : Has P w K mg base 2 "_law_word" S_law_word := has_law_word F_law_word g_law_word m_range h_law_take
  have h_law_good : Has P w K mg base 4 "_law_good" S_law_good := has_law_good F_law_good g_law_good h_law_moment h_law_take h_law_pick h_law_word
  have h_law_odd : Has P w K mg base 4 "_law_odd" S_law_odd := has_law_odd F_law_odd g_law_odd h_law_take h_law_pick m_isinstance m_str m_len m_int h_law_moment
  have h_law_spoilt : Has P w K mg base 5 "_law_spoilt" S_law_spoilt := has_law_spoilt F_law_spoilt g_law_spoilt m_list h_law_take m_range m_len h_law_odd h_law_pick m_tuple
  have h_law_is_whole : Has P w K mg base 1 "_law_is_whole" S_law_is_whole := has_law_is_whole F_law_is_whole g_law_is_whole m_isinstance m_int m_bool
  have h_law_is_word : Has P w K mg base 1 "_law_is_word" S_law_is_word := has_law_is_word F_law_is_word g_law_is_word m_isinstance m_str m_len
  have h_law_is_so : Has P w K mg base 2 "_law_is_so" S_law_is_so := has_law_is_so F_law_is_so g_law_is_so m_isinstance m_tuple m_len m_str m_int m_all h_law_is_word h_law_is_whole
  have h_law_covered : Has P w K mg base 2 "_law_covered" S_law_covered := has_law_covered F_law_covered g_law_covered h_covers m_isinstance m_bool
  exact fn_law F_law m_range m_max m_min m_len h_law_hand h_law_good h_law_spoilt h_is_change m_isinstance m_bool h_law_is_so m_all h_law_covered
end K18
open PySem PySem.W PySem.Calls PyProof.Rows
set_option maxHeartbeats 0 in
theorem PySem.Challenge.cw_calledfirst_k18_changes_looked_at_holds : PySem.Challenge.rw_calledfirst_k18_changes_looked_at.Holds := by
  refine K18H.fin ?hc
  case hc =>
    refine DL.walk_dl (l := PySem.Challenge.rw_calledfirst_k18_changes_looked_at) (n := 63) (k := 6) (x := "_law_script") rfl (by decide) (by kernel_rfl) ⟨rfl, by decide, by decide⟩ (S := K18.S_law) ?F K18.law_in
    intro w mg fa h Y G hmg0
    obtain ⟨K, KX, c⟩ := Y
    have hmg : mg ("law" : PySem.Str) = some (.ref fa) := by
      have e : (HandSHeadRun.topDef (OpenLaw.row PySem.Challenge.rw_calledfirst_k18_changes_looked_at).prog 24).name = ("law" : PySem.Str) := by kernel_rfl
      rw [← e]
      exact hmg0
    obtain ⟨fd, hb, hF⟩ := K18.facts (P := (PySem.Challenge.rw_calledfirst_k18_changes_looked_at).prog) (w := w) KX G hmg c
    exact ⟨K, fd, KX, hb, hF⟩
