import PyProof.Rows.All
import HandS.ForExc
import HandS.ForMost
import HandS.Wide
import HandS.Defaults
import HandS.TupAny
import HandS.WordsExc
import HandS.IsInst
import HandS.Head0
import HandS.Head1
import HandS.Head2
import HandS.HeadEnd
import HandS.HeadHook1
import HandS.HeadHook2
import PySem.Challenge.RW_calledfirst_k19_books_looked_at
import Wide.Once
import HandS.Deep
import HandS.Style
import HandS.Text
import HandS.Zip
import HandS.Rev
import HandS.RevRange
import KE.GoesEnum
import HandS.SortInts
import HandS.NoneIn
import PyProof.StrOps2
import HandS.StrMore
import HandS.SortKw
import HandS.DictEq
import HandS.SetFor
import PyProof.LongRange
import HandS.More
import HandS.RaiseMore
import HandS.Small
import PyProof.ExcBaseAll.ValueError
import PyProof.ReprRoads
import PyProof.StrLawsRepr
import HandS.SortRule
import HandS.SortOrd
import HandS.NamedTupSort
import KE.KSortTup
import HandS.DictTup
import HandS.Dict
import HandS.TryOnly
import HandS.ExcIs
import HandS.CallSlots
import HandS.ExcValue
import KE.GoesMore
import HandS.Iter
import HandS.List
import HandS.Sort
import KE.DataCmp
import PyProof.ListRange
import HandS.Conv
import KE.KDictZip
import HandS.ListItems
import HandS.FStr
import HandS.SetTxt0
import PyProof.EqKinds
import PyProof.EqLayable
import KE.KEqDict
import PyProof.Rows.IntBool
import KE.IntBitsLaws
import KE.KDictPairs
import HandS.Codes
set_option Elab.async false
set_option linter.all false
set_option maxRecDepth 100000
set_option maxHeartbeats 4000000

/-! generated: the head -/
namespace K19H
open PySem PySem.Spec PyProof.Rows L2
def topS (i : Nat) : Stmt := PySem.Challenge.pw_calledfirst_k19_books_looked_at.main.body.getD i (.Pass ⟨0, 0, 0, 0⟩)
abbrev st_is_whole : Stmt := topS 4
abbrev st_is_moment : Stmt := topS 5
abbrev st_is_word : Stmt := topS 6
abbrev st_is_rising : Stmt := topS 7
abbrev st_is_span : Stmt := topS 9
abbrev st_is_change : Stmt := topS 10
abbrev st_is_jump : Stmt := topS 14
abbrev st_are_jumps : Stmt := topS 15
abbrev st_is_turn : Stmt := topS 19
abbrev st_are_turns : Stmt := topS 20
abbrev st_is_layer : Stmt := topS 21
abbrev st_is_book : Stmt := topS 25
abbrev st_law_hand : Stmt := topS 27
abbrev st_law_take : Stmt := topS 28
abbrev st_law_pick : Stmt := topS 29
abbrev st_law_great : Stmt := topS 30
abbrev st_law_moment : Stmt := topS 31
abbrev st_law_words : Stmt := topS 32
abbrev st_law_jumps : Stmt := topS 33
abbrev st_law_minute : Stmt := topS 34
abbrev st_law_layer : Stmt := topS 35
abbrev st_law_change : Stmt := topS 36
abbrev st_law_jump_row : Stmt := topS 37
abbrev st_law_good : Stmt := topS 38
abbrev st_law_odd : Stmt := topS 39
abbrev st_law_spoilt : Stmt := topS 40
abbrev st_law_is_whole : Stmt := topS 41
abbrev st_law_is_row : Stmt := topS 42
abbrev st_law_is_word : Stmt := topS 43
abbrev st_law_are_jumps : Stmt := topS 44
abbrev st_law_is_layer : Stmt := topS 45
abbrev st_law_is_change : Stmt := topS 46
abbrev st_law_is_book : Stmt := topS 47
abbrev st_law_same : Stmt := topS 48
abbrev st_law : Stmt := topS 49
def dd_is_whole : He.DefD := ⟨("is_whole", none), "is_whole", "is_whole", defArgs st_is_whole, defBody st_is_whole, defScope st_is_whole, [], []⟩
def dd_is_moment : He.DefD := ⟨("is_moment", none), "is_moment", "is_moment", defArgs st_is_moment, defBody st_is_moment, defScope st_is_moment, [], []⟩
def dd_is_word : He.DefD := ⟨("is_word", none), "is_word", "is_word", defArgs st_is_word, defBody st_is_word, defScope st_is_word, [], []⟩
def dd_is_rising : He.DefD := ⟨("is_rising", none), "is_rising", "is_rising", defArgs st_is_rising, defBody st_is_rising, defScope st_is_rising, [], []⟩
def dd_is_span : He.DefD := ⟨("is_span", none), "is_span", "is_span", defArgs st_is_span, defBody st_is_span, defScope st_is_span, [], []⟩
def dd_is_change : He.DefD := ⟨("is_change", none), "is_change", "is_change", defArgs st_is_change, defBody st_is_change, defScope st_is_change, [], []⟩
def dd_is_jump : He.DefD := ⟨("is_jump", none), "is_jump", "is_jump", defArgs st_is_jump, defBody st_is_jump, defScope st_is_jump, [], []⟩
def dd_are_jumps : He.DefD := ⟨("are_jumps", none), "are_jumps", "are_jumps", defArgs st_are_jumps, defBody st_are_jumps, defScope st_are_jumps, [], []⟩
def dd_is_turn : He.DefD := ⟨("is_turn", none), "is_turn", "is_turn", defArgs st_is_turn, defBody st_is_turn, defScope st_is_turn, [], []⟩
def dd_are_turns : He.DefD := ⟨("are_turns", none), "are_turns", "are_turns", defArgs st_are_turns, defBody st_are_turns, defScope st_are_turns, [], []⟩
def dd_is_layer : He.DefD := ⟨("is_layer", none), "is_layer", "is_layer", defArgs st_is_layer, defBody st_is_layer, defScope st_is_layer, [], []⟩
def dd_is_book : He.DefD := ⟨("is_book", none), "is_book", "is_book", defArgs st_is_book, defBody st_is_book, defScope st_is_book, [], []⟩
def dd_law_hand : He.DefD := ⟨("_law_hand", none), "_law_hand", "_law_hand", defArgs st_law_hand, defBody st_law_hand, defScope st_law_hand, [], []⟩
def dd_law_take : He.DefD := ⟨("_law_take", none), "_law_take", "_law_take", defArgs st_law_take, defBody st_law_take, defScope st_law_take, [], []⟩
def dd_law_pick : He.DefD := ⟨("_law_pick", none), "_law_pick", "_law_pick", defArgs st_law_pick, defBody st_law_pick, defScope st_law_pick, [], []⟩
def dd_law_great : He.DefD := ⟨("_law_great", none), "_law_great", "_law_great", defArgs st_law_great, defBody st_law_great, defScope st_law_great, [], []⟩
def dd_law_moment : He.DefD := ⟨("_law_moment", none), "_law_moment", "_law_moment", defArgs st_law_moment, defBody st_law_moment, defScope st_law_moment, [], []⟩
def dd_law_words : He.DefD := ⟨("_law_words", none), "_law_words", "_law_words", defArgs st_law_words, defBody st_law_words, defScope st_law_words, [], []⟩
def dd_law_jumps : He.DefD := ⟨("_law_jumps", none), "_law_jumps", "_law_jumps", defArgs st_law_jumps, defBody st_law_jumps, defScope st_law_jumps, [], []⟩
def dd_law_minute : He.DefD := ⟨("_law_minute", none), "_law_minute", "_law_minute", defArgs st_law_minute, defBody st_law_minute, defScope st_law_minute, [], []⟩
def dd_law_layer : He.DefD := ⟨("_law_layer", none), "_law_layer", "_law_layer", defArgs st_law_layer, defBody st_law_layer, defScope st_law_layer, [], []⟩
def dd_law_change : He.DefD := ⟨("_law_change", none), "_law_change", "_law_change", defArgs st_law_change, defBody st_law_change, defScope st_law_change, [], []⟩
def dd_law_jump_row : He.DefD := ⟨("_law_jump_row", none), "_law_jump_row", "_law_jump_row", defArgs st_law_jump_row, defBody st_law_jump_row, defScope st_law_jump_row, [], []⟩
def dd_law_good : He.DefD := ⟨("_law_good", none), "_law_good", "_law_good", defArgs st_law_good, defBody st_law_good, defScope st_law_good, [], []⟩
def dd_law_odd : He.DefD := ⟨("_law_odd", none), "_law_odd", "_law_odd", defArgs st_law_odd, defBody st_law_odd, defScope st_law_odd, [], []⟩
def dd_law_spoilt : He.DefD := ⟨("_law_spoilt", none), "_law_spoilt", "_law_spoilt", defArgs st_law_spoilt, defBody st_law_spoilt, defScope st_law_spoilt, [], []⟩
def dd_law_is_whole : He.DefD := ⟨("_law_is_whole", none), "_law_is_whole", "_law_is_whole", defArgs st_law_is_whole, defBody st_law_is_whole, defScope st_law_is_whole, [], []⟩
def dd_law_is_row : He.DefD := ⟨("_law_is_row", none), "_law_is_row", "_law_is_row", defArgs st_law_is_row, defBody st_law_is_row, defScope st_law_is_row, [], []⟩
def dd_law_is_word : He.DefD := ⟨("_law_is_word", none), "_law_is_word", "_law_is_word", defArgs st_law_is_word, defBody st_law_is_word, defScope st_law_is_word, [], []⟩
def dd_law_are_jumps : He.DefD := ⟨("_law_are_jumps", none), "_law_are_jumps", "_law_are_jumps", defArgs st_law_are_jumps, defBody st_law_are_jumps, defScope st_law_are_jumps, [], []⟩
def dd_law_is_layer : He.DefD := ⟨("_law_is_layer", none), "_law_is_layer", "_law_is_layer", defArgs st_law_is_layer, defBody st_law_is_layer, defScope st_law_is_layer, [], []⟩
def dd_law_is_change : He.DefD := ⟨("_law_is_change", none), "_law_is_change", "_law_is_change", defArgs st_law_is_change, defBody st_law_is_change, defScope st_law_is_change, [], []⟩
def dd_law_is_book : He.DefD := ⟨("_law_is_book", none), "_law_is_book", "_law_is_book", defArgs st_law_is_book, defBody st_law_is_book, defScope st_law_is_book, [], []⟩
def dd_law_same : He.DefD := ⟨("_law_same", none), "_law_same", "_law_same", defArgs st_law_same, defBody st_law_same, defScope st_law_same, [], []⟩
def dd_law : He.DefD := ⟨("law", none), "law", "law", defArgs st_law, defBody st_law, defScope st_law, [], []⟩
def fn : List He.DefD := [dd_is_whole, dd_is_moment, dd_is_word, dd_is_rising, dd_is_span, dd_is_change, dd_is_jump, dd_are_jumps, dd_is_turn, dd_are_turns, dd_is_layer, dd_is_book, dd_law_hand, dd_law_take, dd_law_pick, dd_law_great, dd_law_moment, dd_law_words, dd_law_jumps, dd_law_minute, dd_law_layer, dd_law_change, dd_law_jump_row, dd_law_good, dd_law_odd, dd_law_spoilt, dd_law_is_whole, dd_law_is_row, dd_law_is_word, dd_law_are_jumps, dd_law_is_layer, dd_law_is_change, dd_law_is_book, dd_law_same, dd_law]
def fa : List He.Fa := [.glo "is_whole", .glo "is_moment", .glo "is_word", .glo "is_rising", .glo "is_span", .glo "is_change", .glo "is_jump", .glo "are_jumps", .glo "is_turn", .glo "are_turns", .glo "is_layer", .glo "is_book", .glo "_law_hand", .glo "_law_take", .glo "_law_pick", .glo "_law_great", .glo "_law_moment", .glo "_law_words", .glo "_law_jumps", .glo "_law_minute", .glo "_law_layer", .glo "_law_change", .glo "_law_jump_row", .glo "_law_good", .glo "_law_odd", .glo "_law_spoilt", .glo "_law_is_whole", .glo "_law_is_row", .glo "_law_is_word", .glo "_law_are_jumps", .glo "_law_is_layer", .glo "_law_is_change", .glo "_law_is_book", .glo "_law_same", .glo "law", .free "isinstance", .free "int", .free "bool", .free "str", .free "len", .free "all", .free "range", .free "tuple", .free "abs", .free "set", .free "sorted", .free "min", .free "list", .free "max", .int "LATEST" 1000000000000000000000000000000000000000000000000000000000000, .str "SIGNS" "abcdefghijklmnopqrstuvwxyz0123456789", .int "FARTHEST" 1440, .int "MOST_JUMPS" 8, .int "MOST_TURNS" 12, .int "MOST_DAYS" 60, .int "DAY" 1440, .int "MOST_LAYERS" 4, .int "MOST_CHANGES" 24]
abbrev R : PySem.W.OpenRow := PySem.W.OpenLaw.row PySem.Challenge.rw_calledfirst_k19_books_looked_at
abbrev hk : PySem.W.Hook := He.hookD 2 fa fn
def ob (s : PySem.W.SharedT) : He.AlD := He.obsDG 2 fa fn (HandSHeadRun.getT s)
theorem ob_eq (s : PySem.W.SharedT) : ob s = hk.obs s.abs := He.obsDG_eq (HandSHeadRun.getT_eq s)
def loose : List Str := (["SIGNS", "LATEST", "DAY", "is_whole", "is_moment", "is_word", "is_rising", "is_span", "is_change", "MOST_JUMPS", "FARTHEST", "is_jump", "are_jumps", "MOST_DAYS", "MOST_TURNS", "is_turn", "are_turns", "is_layer", "MOST_LAYERS", "MOST_CHANGES", "is_book", "_law_hand", "_law_take", "_law_pick", "_law_great", "_law_moment", "_law_words", "_law_jumps", "_law_minute", "_law_layer"] : List Str) ++ (["_law_change", "_law_jump_row", "_law_good", "_law_odd", "_law_spoilt", "_law_is_whole", "_law_is_row", "_law_is_word", "_law_are_jumps", "_law_is_layer", "_law_is_change", "_law_is_book", "_law_same"] : List Str)
theorem run (w : World) : HandSHeadRun.RunEq R (PySem.W.view R.prog [49]) hk ob 2400 loose w := by
  intro os
  kernel_rfl
open PySem PySem.W PySem.Calls PyProof.Rows in
set_option maxHeartbeats 0 in
theorem pre (h : PySem.Challenge.rw_calledfirst_k19_books_looked_at.row.wellSaid = true → PySem.Challenge.rw_calledfirst_k19_books_looked_at.row.Holds) : PySem.Challenge.rw_calledfirst_k19_books_looked_at.Holds := by
  w_on; o_law
  exact h (by assumption)
open PySem PySem.W PySem.Calls PyProof.Rows in
set_option maxHeartbeats 0 in
theorem fin (call : WalkO (view (OpenLaw.row PySem.Challenge.rw_calledfirst_k19_books_looked_at).prog [49]) loose (XL (view (OpenLaw.row PySem.Challenge.rw_calledfirst_k19_books_looked_at).prog [49]) []) hk.says (OpenLaw.row PySem.Challenge.rw_calledfirst_k19_books_looked_at).toRowW (HandSHeadRun.topDef (OpenLaw.row PySem.Challenge.rw_calledfirst_k19_books_looked_at).prog 49) [] fun f vs => PySem.call f vs) : PySem.Challenge.rw_calledfirst_k19_books_looked_at.Holds := by
  refine pre fun said => ?_
  refine HandSHeadRun.head_any (r := OpenLaw.row PySem.Challenge.rw_calledfirst_k19_books_looked_at) (q := view (OpenLaw.row PySem.Challenge.rw_calledfirst_k19_books_looked_at).prog [49]) (H := hk) (ob := ob) (M := 2400) (loose := loose) (d := HandSHeadRun.topDef (OpenLaw.row PySem.Challenge.rw_calledfirst_k19_books_looked_at).prog 49) (kwd := []) ob_eq
    (by kernel_rfl) (fun s => by kernel_rfl) run (by kernel_rfl) (by kernel_rfl) (by kernel_rfl) (by rfl) (by exact said) (by decide +kernel) ⟨rfl, rfl, rfl, rfl, rfl, by decide +kernel⟩ ?hw call
  case hw => w_witness2
end K19H

set_option Elab.async false
set_option linter.all false
set_option maxRecDepth 100000
set_option maxHeartbeats 4000000
/-! DL: a level of plain data over the hand layer. A def's slots hold data (numbers, texts, tuples, lists that nobody changes any more) or a list or dict of its own; what stands at which address is proved away once, here. -/
namespace DL
open PySem PySem.Spec PyProof.Rows L2

abbrev D := PyData
structure XD where
  cls : Str
  fs : List (Str × D)
inductive Tre where
  | dat (d : D)
  | hole (k : Addr)
  | ld (a : Addr) (ds : List D)
  | lst (a : Addr) (xs : List Tre)
  | tup (a : Addr) (xs : List Tre)
  | ins (a dx : Addr) (cls : Str) (ns : List Str) (xs : List Tre)
  | exc (a : Addr) (da : Option Addr) (x : XD)
@[reducible] def Tre.root : Tre → Option Addr
  | .ld a _ => some a
  | .lst a _ => some a
  | .tup a _ => some a
  | .ins a _ _ _ _ => some a
  | .exc a _ _ => some a
  | _ => none
mutual
def Tre.foot : Tre → List Addr
  | .dat _ => []
  | .hole _ => []
  | .ld a _ => [a]
  | .lst a xs => a :: Tre.foots xs
  | .tup a xs => a :: Tre.foots xs
  | .ins a dx _ _ xs => a :: dx :: Tre.foots xs
  | .exc a da _ => a :: da.toList
def Tre.foots : List Tre → List Addr
  | [] => []
  | x :: xs => x.foot ++ Tre.foots xs
end
@[reducible] def Tre.kids : Tre → List Tre
  | .lst _ xs => xs
  | .tup _ xs => xs
  | .ins _ _ _ _ xs => xs
  | _ => []
@[reducible] def Tre.get : Tre → List Nat → Option Tre
  | l, [] => some l
  | l, i :: p => match l.kids[i]? with
    | some m => m.get p
    | none => none
inductive OD where
  | lst (ds : List D)
  | dct (kvs : List (Key × D))
  | dtt (kvs : List (List Key × D))
  | lck (at_ : Addr) (ob : Obj) (ks : List (Key × V)) (kvs : List (Key × D))
  | tre (l : Tre)
  | prp (x y : D)
@[reducible] def OD.fp : OD → Addr → List Addr
  | .tre l, _ => l.foot
  | .lst _, a => [a]
  | .dct _, a => [a]
  | .dtt _, a => [a]
  | .lck _ _ _ _, a => [a]
  | .prp _ _, a => [a]
inductive C where
  | no
  | v (d : D)
  | p (d : D)
  | own (t : Nat) (o : OD)
  | pk (i : Nat)
  | ln (i : Nat)
  | sub (i : Nat) (p : List Nat) (k : Addr)
abbrev Rho := List C

def hide (H : Hp) (O : List Addr) : Hp := fun a => if a ∈ O then none else H a
theorem hide_some {H : Hp} {O : List Addr} {a : Addr} {o : HO} : hide H O a = some o ↔ a ∉ O ∧ H a = some o := by
  unfold hide
  by_cases h : a ∈ O
  · simp [h]
  · simp [h]
theorem hide_congr {H : Hp} {O O' : List Addr} (h : ∀ a, a ∈ O ↔ a ∈ O') : hide H O = hide H O' := by
  funext a
  unfold hide
  by_cases q : a ∈ O
  · rw [if_pos q, if_pos ((h a).mp q)]
  · rw [if_neg q, if_neg fun z => q ((h a).mpr z)]

theorem seqT_same {K : PySem.W.Frag} {H H' : Hp} {a : Addr} {xs : List V} (e : Same H H') (h : SqT K H a xs) : SqT K H' a xs := by
  rcases h with (h | ⟨o, h⟩) | h
  · exact .inl (.inl (e _ _ h))
  · exact .inl (.inr ⟨o, e _ _ h⟩)
  · exact .inr h
/-! ### data as the heap holds it: as the kit has it, and besides empty dicts that nobody changes -/
mutual
inductive Dp (K : PySem.W.Frag) (B : Hp) : V → D → Prop
  | non : Dp K B V.non PyData.none
  | bl (t : Bool) : Dp K B (V.bl t) (PyData.bool t)
  | int (n : Int) : Dp K B (V.int n) (PyData.int n)
  | str (z : Str) : Dp K B (V.str z) (PyData.str z)
  | lst {p : Addr} {vs : List V} {es : List D} : SqL K B p vs → DpAll K B vs es → Dp K B (V.ref p) (PyData.list es)
  | tup {p : Addr} {vs : List V} {es : List D} : SqT K B p vs → DpAll K B vs es → Dp K B (V.ref p) (PyData.tuple es)
  | dic {p : Addr} : B p = some (.dK []) → Dp K B (V.ref p) (PyData.dict [])
inductive DpAll (K : PySem.W.Frag) (B : Hp) : List V → List D → Prop
  | nil : DpAll K B [] []
  | cons {x : V} {xs : List V} {e : D} {es : List D} : Dp K B x e → DpAll K B xs es → DpAll K B (x :: xs) (e :: es)
end
section
variable {X : Cx} {pins : List (Addr × Obj)} {σ : L2.St} {H : Hp} {s : Shared}
mutual
theorem Dp.reads (I : Inv X pins σ H s) : ∀ (d : D) (x : V) (u : Value), Dp X.K H x d → RelV x u → ∃ bs, Reads s.heap u d bs
  | .none, _, _, h, r => by cases h; cases r; exact ⟨_, .none⟩
  | .bool b, _, _, h, r => by cases h; cases r; exact ⟨_, .bool b⟩
  | .int i, _, _, h, r => by cases h; obtain ⟨t, rfl⟩ := r; exact ⟨_, .int i t⟩
  | .str x, _, _, h, r => by cases h; obtain ⟨t, rfl⟩ := r; exact ⟨_, .str x t⟩
  | .list es, _, _, h, r => by
    cases h with
    | lst h1 h2 =>
      cases r
      obtain ⟨us, rv, ⟨o, m, e1, e2, _, e3⟩, _⟩ := I.list h1
      obtain ⟨bs, q⟩ := Dp.readsAll I es _ us h2 rv
      exact ⟨_, .list e1 e2 e3 q⟩
  | .tuple es, _, _, h, r => by
    cases h with
    | tup h1 h2 =>
      cases r
      obtain ⟨us, rv, ⟨o, e1, e2, m, e3⟩, _⟩ := I.tuple h1
      obtain ⟨bs, q⟩ := Dp.readsAll I es _ us h2 rv
      exact ⟨_, .tuple e1 e2 e3 q⟩
  | .dict kvs, _, _, h, r => by
    cases h with
    | dic h1 =>
      cases r
      obtain ⟨_, _, us, rel, o, es, ep, e1, e2, e3, _, e4, _⟩ := dk_rd I.hok (.inl h1)
      have z : us = [] := by
        cases us with
        | nil => rfl
        | cons _ _ => cases rel
      subst z
      have z : es.toList = [] := by
        cases e : es.toList with
        | nil => rfl
        | cons _ _ => rw [e] at e4; cases e4
      refine ⟨_, Reads.dict (as := []) (bs := []) e1 e2.1 e3 ?_ ?_⟩
      · rw [z]; exact .nil
      · rw [z]; exact .nil
theorem Dp.readsAll (I : Inv X pins σ H s) : ∀ (ds : List D) (xs : List V) (us : List Value), DpAll X.K H xs ds → Vals xs us → ∃ bs, ReadsAll s.heap us ds bs
  | [], _, _, h, r => by cases h; cases r; exact ⟨_, .nil⟩
  | d :: ds, _, _, h, r => by
    cases h with
    | cons h1 h2 =>
      cases r with
      | cons r1 r2 =>
        obtain ⟨bs, q1⟩ := Dp.reads I d _ _ h1 r1
        obtain ⟨cs, q2⟩ := Dp.readsAll I ds _ _ h2 r2
        exact ⟨_, .cons q1 q2⟩
end
end
mutual
theorem Dp.l2 {K : PySem.W.Frag} {B : Hp} : ∀ (d : D) (x : V), PyData.canLay0 d = true → Dp K B x d → L2.Dp K B x d
  | .none, _, _, h => by cases h; exact .non
  | .bool b, _, _, h => by cases h; exact .bl b
  | .int i, _, _, h => by cases h; exact .int i
  | .str x, _, _, h => by cases h; exact .str x
  | .list es, _, c, h => by
    cases h with
    | lst h1 h2 => exact .lst h1 (DpAll.l2 es _ c h2)
  | .tuple es, _, c, h => by
    cases h with
    | tup h1 h2 => exact .tup h1 (DpAll.l2 es _ c h2)
  | .dict _, _, c, _ => by cases c
theorem DpAll.l2 {K : PySem.W.Frag} {B : Hp} : ∀ (ds : List D) (xs : List V), PyData.canLayAll0 ds = true → DpAll K B xs ds → L2.DpAll K B xs ds
  | [], _, _, h => by cases h; exact .nil
  | d :: ds, _, c, h => by
    have c := Bool.and_eq_true_iff.mp c
    cases h with
    | cons h1 h2 => exact .cons (Dp.l2 d _ c.1 h1) (DpAll.l2 ds _ c.2 h2)
end
def rEqD (K : PySem.W.Frag) : R2 := fun x y H Q => ∃ d1 d2, Dp K H x d1 ∧ Dp K H y d2 ∧ SeqAt.shaped d1 = true ∧ SeqAt.shaped d2 = true ∧ Q (.bl (PyData.eqv d1 d2)) H
def rNeD (K : PySem.W.Frag) : R2 := fun x y H Q => ∃ d1 d2, Dp K H x d1 ∧ Dp K H y d2 ∧ SeqAt.shaped d1 = true ∧ SeqAt.shaped d2 = true ∧ Q (.bl (!PyData.eqv d1 d2)) H
theorem op_eqD {X : Cx} (hu : X.A.units + 64 < cLine) : OpR X (compareOp .Eq) (rEqD X.K) := by
  intro pins s σ H x y v u Q I rx ry ⟨d1, d2, h1, h2, s1, s2, q⟩
  obtain ⟨_, r1⟩ := Dp.reads I d1 x v h1 rx
  obtain ⟨_, r2⟩ := Dp.reads I d2 y u h2 ry
  exact SeqAt.compareEq_shaped r1 r2 s1 s2 hu ⟨.bl _, H, I, rfl, q⟩
theorem op_neD {X : Cx} (hu : X.A.units + 64 < cLine) : OpR X (compareOp .NotEq) (rNeD X.K) := by
  intro pins s σ H x y v u Q I rx ry ⟨d1, d2, h1, h2, s1, s2, q⟩
  obtain ⟨_, r1⟩ := Dp.reads I d1 x v h1 rx
  obtain ⟨_, r2⟩ := Dp.reads I d2 y u h2 ry
  exact SeqAt.compareNe_shaped r1 r2 s1 s2 hu ⟨.bl _, H, I, rfl, q⟩
mutual
theorem dp_mono {K : PySem.W.Frag} {B B' : Hp} (e : Same B B') : ∀ (d : D) (v : V), Dp K B v d → Dp K B' v d
  | .none, _, h => by cases h; exact .non
  | .bool b, _, h => by cases h; exact .bl b
  | .int i, _, h => by cases h; exact .int i
  | .str x, _, h => by cases h; exact .str x
  | .list ds, _, h => by
    cases h with
    | lst hs ha => exact .lst (e.seq hs) (dpAll_mono e ds _ ha)
  | .tuple ds, _, h => by
    cases h with
    | tup hs ha => exact .tup (seqT_same e hs) (dpAll_mono e ds _ ha)
  | .dict _, _, h => by
    cases h with
    | dic h1 => exact .dic (e _ _ h1)
theorem dpAll_mono {K : PySem.W.Frag} {B B' : Hp} (e : Same B B') : ∀ (ds : List D) (vs : List V), DpAll K B vs ds → DpAll K B' vs ds
  | [], _, h => by cases h; exact .nil
  | d :: ds, _, h => by
    cases h with
    | cons h1 h2 => exact .cons (dp_mono e d _ h1) (dpAll_mono e ds _ h2)
end
theorem DpAll.len {K : PySem.W.Frag} {B : Hp} : ∀ {vs : List V} {ds : List D}, DpAll K B vs ds → vs.length = ds.length
  | _, [], h => by cases h; rfl
  | _, d :: ds, h => by
    cases h with
    | cons h1 h2 => rw [List.length_cons, List.length_cons, DpAll.len h2]
theorem DpAll.get {K : PySem.W.Frag} {B : Hp} : ∀ {vs : List V} {ds : List D} {i : Nat} {d : D}, DpAll K B vs ds → ds[i]? = some d → ∃ v, vs[i]? = some v ∧ Dp K B v d
  | _, [], _, _, _, e => by simp at e
  | _, d' :: ds, i, d, h, e => by
    cases h with
    | cons h1 h2 =>
      cases i with
      | zero =>
        have e' : d' = d := by simpa using e
        subst e'
        exact ⟨_, rfl, h1⟩
      | succ i =>
        obtain ⟨v, q1, q2⟩ := DpAll.get (i := i) (d := d) h2 (by simpa using e)
        exact ⟨v, by simpa using q1, q2⟩
theorem DpAll.app {K : PySem.W.Frag} {B : Hp} : ∀ {vs us : List V} {ds es : List D}, DpAll K B vs ds → DpAll K B us es → DpAll K B (vs ++ us) (ds ++ es)
  | _, _, [], _, h, h' => by cases h; exact h'
  | _, _, d :: ds, _, h, h' => by
    cases h with
    | cons h1 h2 => exact .cons h1 (DpAll.app h2 h')
theorem DpAll.setAt {K : PySem.W.Frag} {B : Hp} {x : V} {d : D} (hx : Dp K B x d) : ∀ {vs : List V} {ds : List D} (i : Nat), DpAll K B vs ds → DpAll K B (vs.set i x) (ds.set i d)
  | _, [], _, h => by cases h; exact .nil
  | _, d' :: ds, i, h => by
    cases h with
    | cons h1 h2 =>
      cases i with
      | zero => exact .cons hx h2
      | succ i => exact .cons h1 (DpAll.setAt hx i h2)
theorem DpAll.takeN {K : PySem.W.Frag} {B : Hp} : ∀ {vs : List V} {ds : List D} (n : Nat), DpAll K B vs ds → DpAll K B (vs.take n) (ds.take n)
  | _, [], n, h => by cases h; simp; exact .nil
  | _, d :: ds, n, h => by
    cases h with
    | cons h1 h2 =>
      cases n with
      | zero => exact .nil
      | succ n => exact .cons h1 (DpAll.takeN n h2)
theorem DpAll.dropN {K : PySem.W.Frag} {B : Hp} : ∀ {vs : List V} {ds : List D} (n : Nat), DpAll K B vs ds → DpAll K B (vs.drop n) (ds.drop n)
  | _, [], n, h => by cases h; simp; exact .nil
  | _, d :: ds, n, h => by
    cases h with
    | cons h1 h2 =>
      cases n with
      | zero => exact .cons h1 h2
      | succ n => exact DpAll.dropN n h2
theorem DpAll.ints {K : PySem.W.Frag} {B : Hp} : ∀ (ns : List Int), DpAll K B (ns.map V.int) (ns.map PyData.int)
  | [] => .nil
  | n :: ns => .cons (.int n) (DpAll.ints ns)
def DpKV (K : PySem.W.Frag) (B : Hp) : List (Key × V) → List (Key × D) → Prop
  | [], [] => True
  | p :: ps, q :: qs => p.1 = q.1 ∧ Dp K B p.2 q.2 ∧ DpKV K B ps qs
  | _, _ => False
theorem DpKV.mono {K : PySem.W.Frag} {B B' : Hp} (e : Same B B') : ∀ {ps : List (Key × V)} {qs : List (Key × D)}, DpKV K B ps qs → DpKV K B' ps qs
  | [], [], h => h
  | p :: ps, q :: qs, h => ⟨h.1, dp_mono e _ _ h.2.1, DpKV.mono e h.2.2⟩
  | [], _ :: _, h => h.elim
  | _ :: _, [], h => h.elim
def DpTV (K : PySem.W.Frag) (B : Hp) : List (List Key × V) → List (List Key × D) → Prop
  | [], [] => True
  | p :: ps, q :: qs => p.1 = q.1 ∧ Dp K B p.2 q.2 ∧ DpTV K B ps qs
  | _, _ => False
theorem DpTV.mono {K : PySem.W.Frag} {B B' : Hp} (e : Same B B') : ∀ {ps : List (List Key × V)} {qs : List (List Key × D)}, DpTV K B ps qs → DpTV K B' ps qs
  | [], [], h => h
  | p :: ps, q :: qs, h => ⟨h.1, dp_mono e _ _ h.2.1, DpTV.mono e h.2.2⟩
  | [], _ :: _, h => h.elim
  | _ :: _, [], h => h.elim
def XFs (K : PySem.W.Frag) (B : Hp) : List (Str × V) → List (Str × D) → Prop
  | [], [] => True
  | p :: ps, q :: qs => p.1 = q.1 ∧ Dp K B p.2 q.2 ∧ XFs K B ps qs
  | _, _ => False
theorem XFs.mono {K : PySem.W.Frag} {B B' : Hp} (e : Same B B') : ∀ {fs : List (Str × V)} {gs : List (Str × D)}, XFs K B fs gs → XFs K B' fs gs
  | [], [], h => h
  | p :: ps, q :: qs, h => ⟨h.1, dp_mono e _ _ h.2.1, XFs.mono e h.2.2⟩
  | [], _ :: _, h => h.elim
  | _ :: _, [], h => h.elim
def ExcO (cls : Value) (d : Option Addr) (a : Addr) : HO := .ext fun h => ∃ (oe : Obj) (vs : Array Value), h.get? a = some oe ∧ Zc cls d oe ∧ oe.data = .fields vs
mutual
def TreAt (K : PySem.W.Frag) (B H : Hp) : Tre → V → Prop
  | .dat d, v => Dp K B v d
  | .hole k, v => v = .ref k
  | .ld a ds, v => v = .ref a ∧ ∃ vs, H a = some (.lst vs) ∧ DpAll K B vs ds
  | .lst a xs, v => v = .ref a ∧ ∃ vs, H a = some (.lst vs) ∧ TreAll K B H xs vs
  | .tup a xs, v => v = .ref a ∧ ∃ vs, H a = some (.tup vs) ∧ TreAll K B H xs vs
  | .ins a dx cls ns xs, v => v = .ref a ∧ ∃ vs, H a = some (.ins (He.ga K cls) dx (ns.zip vs)) ∧ H dx = some (.own a) ∧ ns.length = vs.length ∧ TreAll K B H xs vs
  | .exc a da x, v => v = .ref a ∧ H a = some (ExcO (.ref (He.ga K x.cls)) da a) ∧ ((da = none ∧ x.fs = []) ∨ (x.fs ≠ [] ∧ ∃ b fs, da = some b ∧ H b = some (.xd fs) ∧ XFs K B fs x.fs))
def TreAll (K : PySem.W.Frag) (B H : Hp) : List Tre → List V → Prop
  | [], vs => vs = []
  | x :: xs, vs => ∃ v ws, vs = v :: ws ∧ TreAt K B H x v ∧ TreAll K B H xs ws
end
mutual
theorem TreAt.mono {K : PySem.W.Frag} {B B' H H' : Hp} (e : Same B B') : ∀ (l : Tre) (v : V), (∀ a ∈ l.foot, ∀ u, H a = some u → H' a = some u) → TreAt K B H l v → TreAt K B' H' l v
  | .dat d, v, _, h => dp_mono e _ _ h
  | .hole k, v, _, h => h
  | .ld a ds, v, k, h => by
    obtain ⟨h1, vs, h2, h3⟩ := h
    exact ⟨h1, vs, k a (by simp [Tre.foot]) _ h2, dpAll_mono e _ _ h3⟩
  | .lst a xs, v, k, h => by
    obtain ⟨h1, vs, h2, h3⟩ := h
    exact ⟨h1, vs, k a (by simp [Tre.foot]) _ h2, TreAll.mono e xs vs (fun b hb => k b (by simp [Tre.foot, hb])) h3⟩
  | .tup a xs, v, k, h => by
    obtain ⟨h1, vs, h2, h3⟩ := h
    exact ⟨h1, vs, k a (by simp [Tre.foot]) _ h2, TreAll.mono e xs vs (fun b hb => k b (by simp [Tre.foot, hb])) h3⟩
  | .ins a dx cls ns xs, v, k, h => by
    obtain ⟨h1, vs, h2, h4, h5, h3⟩ := h
    exact ⟨h1, vs, k a (by simp [Tre.foot]) _ h2, k dx (by simp [Tre.foot]) _ h4, h5, TreAll.mono e xs vs (fun b hb => k b (by simp [Tre.foot, hb])) h3⟩
  | .exc a da x, v, k, h => by
    obtain ⟨h1, h2, h3⟩ := h
    refine ⟨h1, k a (by simp [Tre.foot]) _ h2, h3.imp id fun ⟨q1, b, fs, q2, q3, q4⟩ => ⟨q1, b, fs, q2, k b ?_ _ q3, q4.mono e⟩⟩
    rw [q2]; simp [Tre.foot]
theorem TreAll.mono {K : PySem.W.Frag} {B B' H H' : Hp} (e : Same B B') : ∀ (xs : List Tre) (vs : List V), (∀ a ∈ Tre.foots xs, ∀ u, H a = some u → H' a = some u) → TreAll K B H xs vs → TreAll K B' H' xs vs
  | [], vs, _, h => h
  | x :: xs, vs, k, h => by
    obtain ⟨v, ws, h1, h2, h3⟩ := h
    exact ⟨v, ws, h1, TreAt.mono e x v (fun b hb => k b (by simp [Tre.foots, hb])) h2, TreAll.mono e xs ws (fun b hb => k b (by simp [Tre.foots, hb])) h3⟩
end
mutual
theorem TreAt.there {K : PySem.W.Frag} {B H : Hp} : ∀ (l : Tre) (v : V), TreAt K B H l v → ∀ a ∈ l.foot, ∃ u, H a = some u
  | .dat d, v, h, a, ha => by simp [Tre.foot] at ha
  | .hole k, v, h, a, ha => by simp [Tre.foot] at ha
  | .ld b ds, v, h, a, ha => by
    obtain ⟨h1, vs, h2, h3⟩ := h
    rw [Tre.foot, List.mem_singleton] at ha
    exact ⟨_, by rw [ha]; exact h2⟩
  | .lst b xs, v, h, a, ha => by
    obtain ⟨h1, vs, h2, h3⟩ := h
    rw [Tre.foot, List.mem_cons] at ha
    rcases ha with rfl | ha
    · exact ⟨_, h2⟩
    · exact TreAll.there xs vs h3 a ha
  | .tup b xs, v, h, a, ha => by
    obtain ⟨h1, vs, h2, h3⟩ := h
    rw [Tre.foot, List.mem_cons] at ha
    rcases ha with rfl | ha
    · exact ⟨_, h2⟩
    · exact TreAll.there xs vs h3 a ha
  | .ins b dx cls ns xs, v, h, a, ha => by
    obtain ⟨h1, vs, h2, h4, h5, h3⟩ := h
    rw [Tre.foot, List.mem_cons, List.mem_cons] at ha
    rcases ha with rfl | rfl | ha
    · exact ⟨_, h2⟩
    · exact ⟨_, h4⟩
    · exact TreAll.there xs vs h3 a ha
  | .exc b da x, v, h, a, ha => by
    obtain ⟨h1, h2, h3⟩ := h
    rw [Tre.foot, List.mem_cons] at ha
    rcases ha with rfl | ha
    · exact ⟨_, h2⟩
    · rcases h3 with ⟨q, _⟩ | ⟨_, c, fs, q2, q3, _⟩
      · rw [q] at ha; simp at ha
      · rw [q2] at ha
        have e : a = c := by simpa using ha
        subst e
        exact ⟨_, q3⟩
theorem TreAll.there {K : PySem.W.Frag} {B H : Hp} : ∀ (xs : List Tre) (vs : List V), TreAll K B H xs vs → ∀ a ∈ Tre.foots xs, ∃ u, H a = some u
  | [], vs, h, a, ha => by simp [Tre.foots] at ha
  | x :: xs, vs, h, a, ha => by
    obtain ⟨v, ws, h1, h2, h3⟩ := h
    rw [Tre.foots, List.mem_append] at ha
    rcases ha with ha | ha
    · exact TreAt.there x v h2 a ha
    · exact TreAll.there xs ws h3 a ha
end
theorem TreAt.root {K : PySem.W.Frag} {B H : Hp} {l : Tre} {v : V} {a : Addr} (h : TreAt K B H l v) (e : l.root = some a) : v = .ref a ∧ a ∈ l.foot := by
  cases l with
  | dat d => cases e
  | hole k => cases e
  | ld b ds => cases e; exact ⟨h.1, by simp [Tre.foot]⟩
  | lst b xs => cases e; exact ⟨h.1, by simp [Tre.foot]⟩
  | tup b xs => cases e; exact ⟨h.1, by simp [Tre.foot]⟩
  | ins b dx cls ns xs => cases e; exact ⟨h.1, by simp [Tre.foot]⟩
  | exc b da x => cases e; exact ⟨h.1, by simp [Tre.foot]⟩
def PlainT (B : Hp) (x : V) : Prop := ∃ a o xs, x = .ref a ∧ B a = some (.frz o (.tup xs)) ∧ o.dict = none
theorem PlainT.mono {B B' : Hp} (e : Same B B') {x : V} : PlainT B x → PlainT B' x := fun ⟨a, o, xs, h1, h2, h3⟩ => ⟨a, o, xs, h1, e _ _ h2, h3⟩
def OwnF (K : PySem.W.Frag) (B H : Hp) (a : Addr) : OD → Prop
  | .lst ds => ∃ xs, H a = some (.lst xs) ∧ DpAll K B xs ds
  | .dct kvs => ∃ ks, H a = some (.dK ks) ∧ DpKV K B ks kvs
  | .dtt kvs => ∃ ks, H a = some (.dT ks) ∧ DpTV K B ks kvs
  | .lck k ob ks kvs => a = k ∧ H a = some (.frz ob (.dK ks)) ∧ DpKV K B ks kvs
  | .prp x y => ∃ v w, H a = some (.tup [v, w]) ∧ Dp K B v x ∧ Dp K B w y ∧ PlainT B w
  | .tre _ => False
def OwnAt (K : PySem.W.Frag) (B H : Hp) (a : Addr) : OD → Prop
  | .lst ds => ∃ xs, H a = some (.lst xs) ∧ DpAll K B xs ds
  | .dct kvs => ∃ ks, H a = some (.dK ks) ∧ DpKV K B ks kvs
  | .dtt kvs => ∃ ks, H a = some (.dT ks) ∧ DpTV K B ks kvs
  | .lck k ob ks kvs => a = k ∧ H a = some (.frz ob (.dK ks)) ∧ DpKV K B ks kvs
  | .prp x y => ∃ v w, H a = some (.tup [v, w]) ∧ Dp K B v x ∧ Dp K B w y ∧ PlainT B w
  | .tre l => l.root = some a ∧ TreAt K B H l (.ref a)
theorem OwnF.at_ {K : PySem.W.Frag} {B H : Hp} {a : Addr} {o : OD} (h : OwnF K B H a o) : OwnAt K B H a o ∧ o.fp a = [a] := by
  cases o with
  | lst ds => exact ⟨h, rfl⟩
  | dct kvs => exact ⟨h, rfl⟩
  | dtt kvs => exact ⟨h, rfl⟩
  | lck _ ob ks kvs => exact ⟨h, rfl⟩
  | prp x y => exact ⟨h, rfl⟩
  | tre l => exact h.elim
theorem OwnAt.root_mem {K : PySem.W.Frag} {B H : Hp} {a : Addr} {o : OD} (h : OwnAt K B H a o) : a ∈ o.fp a := by
  cases o with
  | lst ds => exact List.mem_singleton.mpr rfl
  | dct kvs => exact List.mem_singleton.mpr rfl
  | dtt kvs => exact List.mem_singleton.mpr rfl
  | lck _ ob ks kvs => exact List.mem_singleton.mpr rfl
  | prp x y => exact List.mem_singleton.mpr rfl
  | tre l => exact (h.2.root h.1).2
theorem OwnAt.mono {K : PySem.W.Frag} {B B' H H' : Hp} {a : Addr} {o : OD} (e : Same B B') (k : ∀ b ∈ o.fp a, ∀ u, H b = some u → H' b = some u) (h : OwnAt K B H a o) : OwnAt K B' H' a o := by
  cases o with
  | lst ds => obtain ⟨xs, h1, h2⟩ := h; exact ⟨xs, k a (List.mem_singleton.mpr rfl) _ h1, dpAll_mono e _ _ h2⟩
  | dct kvs => obtain ⟨ks, h1, h2⟩ := h; exact ⟨ks, k a (List.mem_singleton.mpr rfl) _ h1, h2.mono e⟩
  | dtt kvs => obtain ⟨ks, h1, h2⟩ := h; exact ⟨ks, k a (List.mem_singleton.mpr rfl) _ h1, h2.mono e⟩
  | lck _ ob ks kvs => obtain ⟨h0, h1, h2⟩ := h; exact ⟨h0, k a (List.mem_singleton.mpr rfl) _ h1, h2.mono e⟩
  | prp x y => obtain ⟨v, w, h1, h2, h3, h4⟩ := h; exact ⟨v, w, k a (List.mem_singleton.mpr rfl) _ h1, dp_mono e _ _ h2, dp_mono e _ _ h3, h4.mono e⟩
  | tre l => exact ⟨h.1, TreAt.mono e l _ k h.2⟩
theorem OwnAt.theres {K : PySem.W.Frag} {B H : Hp} {a : Addr} {o : OD} (h : OwnAt K B H a o) : ∀ b ∈ o.fp a, ∃ u, H b = some u := fun b hb => by
  cases o with
  | lst ds => obtain ⟨xs, h1, h2⟩ := h; rw [List.mem_singleton.mp hb]; exact ⟨_, h1⟩
  | dct kvs => obtain ⟨ks, h1, h2⟩ := h; rw [List.mem_singleton.mp hb]; exact ⟨_, h1⟩
  | dtt kvs => obtain ⟨ks, h1, h2⟩ := h; rw [List.mem_singleton.mp hb]; exact ⟨_, h1⟩
  | lck _ ob ks kvs => obtain ⟨h0, h1, h2⟩ := h; rw [List.mem_singleton.mp hb]; exact ⟨_, h1⟩
  | prp x y => obtain ⟨v, w, h1, h2⟩ := h; rw [List.mem_singleton.mp hb]; exact ⟨_, h1⟩
  | tre l => exact TreAt.there l _ h.2 b hb
theorem OwnAt.there {K : PySem.W.Frag} {B H : Hp} {a : Addr} {o : OD} (h : OwnAt K B H a o) : ∃ u, H a = some u := h.theres a h.root_mem

structure G where
  H0 : Hp
  tg : Nat → Addr
  Oa : List Addr
  P0 : List Addr
  L : Nat → Bool
  /-- from here on a tag is an address -/
  tn : Nat
  tn0 : 0 < tn
  tgA : ∀ a, tg (tn + a) = a

def RC (K : PySem.W.Frag) (g : G) (σ : L2.St) (B H : Hp) (ov : Option V) : C → Prop
  | .no => True
  | .v d => ∃ x, ov = some x ∧ Dp K B x d
  | .p d => ∃ x, ov = some x ∧ Dp K B x d ∧ PlainT B x
  | .own t o => ∃ a, ov = some (.ref a) ∧ OwnAt K B H a o ∧ (t ≠ 0 → g.tg t = a) ∧ (t = 0 → g.H0 a = none)
  | .pk i => ∃ x, ov = some x ∧ σ[i]? = some (some x)
  | .ln i => ∃ x, ov = some x ∧ σ[i]? = some (some x)
  | .sub _ _ k => ov = some (.ref k)
def RCs (K : PySem.W.Frag) (g : G) (σ : L2.St) (B H : Hp) : List (Option V) → List C → Prop
  | [], [] => True
  | v :: vs, c :: cs => RC K g σ B H v c ∧ RCs K g σ B H vs cs
  | _, _ => False
def footC : Option V → C → List Addr
  | some (.ref a), .own _ o => o.fp a
  | _, _ => []
def foot : List (Option V) → List C → List Addr
  | v :: vs, c :: cs => footC v c ++ foot vs cs
  | _, _ => []
abbrev tot (σ : L2.St) (vs : List V) (ρ : Rho) (cs : List C) : List Addr := foot (vs.map some) cs ++ foot σ ρ

structure SR (K : PySem.W.Frag) (g : G) (σ : L2.St) (vs : List V) (H : Hp) (ρ : Rho) (cs : List C) : Prop where
  fr : ∀ a o, g.H0 a = some o → a ∉ g.Oa → H a = some o
  dm : ∀ a o, g.H0 a = some o → ∃ o', H a = some o'
  pr : ∀ a ∈ g.P0, a ∉ g.Oa ∧ ∃ o, g.H0 a = some o
  nw : ∀ a ∈ tot σ vs ρ cs, a ∈ g.Oa ∨ g.H0 a = none
  nd : (tot σ vs ρ cs).Nodup
  sl : RCs K g [] (hide H (tot σ vs ρ cs ++ g.P0)) H σ ρ
  tp : RCs K g σ (hide H (tot σ vs ρ cs ++ g.P0)) H (vs.map some) cs
  pk : ∀ i, (C.pk i ∈ cs ∨ C.ln i ∈ cs) → g.L i = true

section
variable {K : PySem.W.Frag} {g : G} {σ σ' : L2.St} {B B' H H' : Hp} {v : Option V} {c : C}
theorem RC.mono (e : Same B B') (k : ∀ a ∈ footC v c, ∀ u, H a = some u → H' a = some u) (h : RC K g σ B H v c) : RC K g σ B' H' v c := by
  cases c with
  | no => trivial
  | v d => obtain ⟨x, h1, h2⟩ := h; exact ⟨x, h1, dp_mono e _ _ h2⟩
  | p d => obtain ⟨x, h1, h2, h3⟩ := h; exact ⟨x, h1, dp_mono e _ _ h2, h3.mono e⟩
  | own t o =>
    obtain ⟨a, h1, h2, h3⟩ := h
    subst h1
    exact ⟨a, rfl, h2.mono e k, h3⟩
  | pk i => exact h
  | ln i => exact h
  | sub i p k => exact h
theorem RCs.mono (e : Same B B') : ∀ {vs : List (Option V)} {cs : List C}, (∀ a ∈ foot vs cs, ∀ u, H a = some u → H' a = some u) → RCs K g σ B H vs cs → RCs K g σ B' H' vs cs
  | [], [], _, h => h
  | v :: vs, c :: cs, k, h => ⟨h.1.mono e fun a ha => k a (by simp [foot, ha]), RCs.mono e (fun a ha => k a (by simp [foot, ha])) h.2⟩
  | [], _ :: _, _, h => h.elim
  | _ :: _, [], _, h => h.elim
theorem RCs.len : ∀ {vs : List (Option V)} {cs : List C}, RCs K g σ B H vs cs → vs.length = cs.length
  | [], [], _ => rfl
  | _ :: _, _ :: _, h => by rw [List.length_cons, List.length_cons, RCs.len h.2]
  | [], _ :: _, h => h.elim
  | _ :: _, [], h => h.elim
theorem RCs.there : ∀ {vs : List (Option V)} {cs : List C}, RCs K g σ B H vs cs → ∀ a ∈ foot vs cs, ∃ u, H a = some u
  | [], [], _, a, ha => by simp [foot] at ha
  | v :: vs, c :: cs, h, a, ha => by
    rw [foot, List.mem_append] at ha
    rcases ha with ha | ha
    · cases c with
      | own t o =>
        obtain ⟨b, e, q, _⟩ := h.1
        subst e
        exact q.theres a ha
      | no => cases v with
        | none => simp [footC] at ha
        | some x => cases x <;> simp [footC] at ha
      | v d => cases v with
        | none => simp [footC] at ha
        | some x => cases x <;> simp [footC] at ha
      | p d => cases v with
        | none => simp [footC] at ha
        | some x => cases x <;> simp [footC] at ha
      | pk i => cases v with
        | none => simp [footC] at ha
        | some x => cases x <;> simp [footC] at ha
      | ln i => cases v with
        | none => simp [footC] at ha
        | some x => cases x <;> simp [footC] at ha
      | sub i p k => cases v with
        | none => simp [footC] at ha
        | some x => cases x <;> simp [footC] at ha
    · exact RCs.there h.2 a ha
  | [], _ :: _, h, _, _ => h.elim
  | _ :: _, [], h, _, _ => h.elim
theorem foot_app : ∀ {vs us : List (Option V)} {cs ds : List C}, vs.length = cs.length → foot (vs ++ us) (cs ++ ds) = foot vs cs ++ foot us ds
  | [], _, [], _, _ => rfl
  | v :: vs, us, c :: cs, ds, h => by
    show footC v c ++ foot (vs ++ us) (cs ++ ds) = (footC v c ++ foot vs cs) ++ foot us ds
    rw [foot_app (by simpa using h), List.append_assoc]
  | [], _, _ :: _, _, h => by simp at h
  | _ :: _, _, [], _, h => by simp at h
theorem RCs.app : ∀ {vs us : List (Option V)} {cs ds : List C}, RCs K g σ B H vs cs → RCs K g σ B H us ds → RCs K g σ B H (vs ++ us) (cs ++ ds)
  | [], _, [], _, _, h => h
  | _ :: _, _, _ :: _, _, h, h' => ⟨h.1, RCs.app h.2 h'⟩
  | [], _, _ :: _, _, h, _ => h.elim
  | _ :: _, _, [], _, h, _ => h.elim
theorem RCs.split : ∀ {vs us : List (Option V)} {cs ds : List C}, vs.length = cs.length → RCs K g σ B H (vs ++ us) (cs ++ ds) → RCs K g σ B H vs cs ∧ RCs K g σ B H us ds
  | [], _, [], _, _, h => ⟨trivial, h⟩
  | _ :: _, _, _ :: _, _, hl, h => ⟨⟨h.1, (RCs.split (by simpa using hl) h.2).1⟩, (RCs.split (by simpa using hl) h.2).2⟩
  | [], _, _ :: _, _, h, _ => by simp at h
  | _ :: _, _, [], _, h, _ => by simp at h
end

section
variable {K : PySem.W.Frag} {g : G} {σ σ' : L2.St} {vs vs' : List V} {H H' : Hp} {ρ ρ' : Rho} {cs cs' : List C}
theorem SR.there (h : SR K g σ vs H ρ cs) : ∀ a ∈ tot σ vs ρ cs, ∃ u, H a = some u := fun a ha => by
  rcases List.mem_append.mp ha with q | q
  · exact h.tp.there a q
  · exact h.sl.there a q
theorem SR.pdom (h : SR K g σ vs H ρ cs) : ∀ a ∈ g.P0, ∃ u, H a = some u := fun a ha => by
  obtain ⟨h1, o, h2⟩ := h.pr a ha
  exact ⟨o, h.fr a o h2 h1⟩
theorem SR.domO (h : SR K g σ vs H ρ cs) : ∀ a ∈ tot σ vs ρ cs ++ g.P0, ∃ u, H a = some u := fun a ha => (List.mem_append.mp ha).elim (h.there a) (h.pdom a)
theorem SR.pout (h : SR K g σ vs H ρ cs) : ∀ a ∈ tot σ vs ρ cs, a ∉ g.P0 := fun a ha hp => by
  obtain ⟨h1, o, h2⟩ := h.pr a hp
  rcases h.nw a ha with q | q
  · exact h1 q
  · rw [h2] at q; cases q
theorem hide_step {F F' P : List Addr} (keep : ∀ a o, a ∉ F → H a = some o → H' a = some o) (new : ∀ a ∈ F', a ∈ F ∨ H a = none) : Same (hide H (F ++ P)) (hide H' (F' ++ P)) := fun a o e => by
  obtain ⟨h1, h2⟩ := hide_some.mp e
  have hF : a ∉ F := fun z => h1 (List.mem_append_left _ z)
  have hP : a ∉ P := fun z => h1 (List.mem_append_right _ z)
  refine hide_some.mpr ⟨fun z => ?_, keep a o hF h2⟩
  rcases List.mem_append.mp z with z | z
  · rcases new a z with q | q
    · exact hF q
    · rw [h2] at q; cases q
  · exact hP z
theorem SR.gen (h : SR K g σ vs H ρ cs) (keep : ∀ a o, a ∉ tot σ vs ρ cs → H a = some o → H' a = some o) (dom : ∀ a o, H a = some o → ∃ o', H' a = some o') (new : ∀ a ∈ tot σ' vs' ρ' cs', a ∈ tot σ vs ρ cs ∨ H a = none) (nd : (tot σ' vs' ρ' cs').Nodup)
    (sl : Same (hide H (tot σ vs ρ cs ++ g.P0)) (hide H' (tot σ' vs' ρ' cs' ++ g.P0)) → RCs K g [] (hide H' (tot σ' vs' ρ' cs' ++ g.P0)) H' σ' ρ')
    (tp : Same (hide H (tot σ vs ρ cs ++ g.P0)) (hide H' (tot σ' vs' ρ' cs' ++ g.P0)) → RCs K g σ' (hide H' (tot σ' vs' ρ' cs' ++ g.P0)) H' (vs'.map some) cs')
    (pk : ∀ i, (C.pk i ∈ cs' ∨ C.ln i ∈ cs') → g.L i = true) : SR K g σ' vs' H' ρ' cs' := by
  have hB : Same (hide H (tot σ vs ρ cs ++ g.P0)) (hide H' (tot σ' vs' ρ' cs' ++ g.P0)) := hide_step keep new
  refine ⟨fun a o e n => ?_, fun a o e => ?_, h.pr, fun a ha => ?_, nd, sl hB, tp hB, pk⟩
  · refine keep a o (fun z => ?_) (h.fr a o e n)
    rcases h.nw a z with q | q
    · exact n q
    · rw [e] at q; cases q
  · obtain ⟨o', q⟩ := h.dm a o e
    exact dom a o' q
  · rcases new a ha with q | q
    · exact h.nw a q
    · cases e : g.H0 a with
      | none => exact .inr rfl
      | some o =>
        by_cases n : a ∈ g.Oa
        · exact .inl n
        · rw [h.fr a o e n] at q; cases q
def NewRes (K : PySem.W.Frag) (O : List Addr) (H H' : Hp) (v : V) : C → Prop
  | .v d => Dp K (hide H' O) v d
  | .p d => Dp K (hide H' O) v d ∧ PlainT (hide H' O) v
  | .own t o => t = 0 ∧ ∃ a, v = .ref a ∧ H a = none ∧ OwnF K (hide H' (a :: O)) H' a o
  | _ => False
theorem foot_cons_v {x : V} {d : D} : tot σ (x :: vs) ρ (.v d :: cs) = tot σ vs ρ cs := by
  show (footC (some x) (.v d) ++ foot (vs.map some) cs) ++ foot σ ρ = _
  have e : footC (some x) (.v d) = [] := by cases x <;> rfl
  rw [e]; rfl
theorem foot_cons_own {a : Addr} {t : Nat} {o : OD} : tot σ (.ref a :: vs) ρ (.own t o :: cs) = o.fp a ++ tot σ vs ρ cs := by
  show (o.fp a ++ foot (vs.map some) cs) ++ foot σ ρ = _
  rw [List.append_assoc]
theorem foot_cons_pk {x : V} {i : Nat} : tot σ (x :: vs) ρ (.pk i :: cs) = tot σ vs ρ cs := by
  show (footC (some x) (.pk i) ++ foot (vs.map some) cs) ++ foot σ ρ = _
  have e : footC (some x) (.pk i) = [] := by cases x <;> rfl
  rw [e]; rfl
theorem SR.res {v : V} {c : C} (h : SR K g σ vs H ρ cs) (e : Same H H') (r : NewRes K (tot σ vs ρ cs ++ g.P0) H H' v c) : SR K g σ (v :: vs) H' ρ (c :: cs) := by
  cases c with
  | no => exact r.elim
  | pk i => exact r.elim
  | ln i => exact r.elim
  | sub i p k => exact r.elim
  | v d =>
    have ft : tot σ (v :: vs) ρ (.v d :: cs) = tot σ vs ρ cs := foot_cons_v
    refine h.gen (fun a o _ q => e a o q) (fun a o q => ⟨o, e a o q⟩) (fun a ha => .inl (by rw [ft] at ha; exact ha)) (by rw [ft]; exact h.nd) (fun hB => h.sl.mono hB fun a _ u q => e a u q) (fun hB => ?_) (fun i hi => h.pk i (by simpa using hi))
    refine ⟨⟨v, rfl, ?_⟩, h.tp.mono hB fun a _ u q => e a u q⟩
    rw [ft]; exact r
  | p d =>
    have ft : tot σ (v :: vs) ρ (.p d :: cs) = tot σ vs ρ cs := by
      rw [show tot σ (v :: vs) ρ (.p d :: cs) = footC (some v) (.p d) ++ tot σ vs ρ cs from by
        show (footC (some v) (.p d) ++ foot (vs.map some) cs) ++ foot σ ρ = _
        rw [List.append_assoc]]
      cases v <;> rfl
    refine h.gen (fun a o _ q => e a o q) (fun a o q => ⟨o, e a o q⟩) (fun a ha => .inl (by rw [ft] at ha; exact ha)) (by rw [ft]; exact h.nd) (fun hB => h.sl.mono hB fun a _ u q => e a u q) (fun hB => ?_) (fun i hi => h.pk i (by simpa using hi))
    refine ⟨⟨v, rfl, ?_⟩, h.tp.mono hB fun a _ u q => e a u q⟩
    rw [ft]; exact r
  | own t o =>
    obtain ⟨rfl, a, rfl, na, oa⟩ := r
    obtain ⟨oa, fpa⟩ := oa.at_
    have ft : tot σ (.ref a :: vs) ρ (.own 0 o :: cs) = a :: tot σ vs ρ cs := by rw [foot_cons_own, fpa]; rfl
    refine h.gen (fun a o _ q => e a o q) (fun a o q => ⟨o, e a o q⟩) (fun b hb => ?_) ?_ (fun hB => h.sl.mono hB fun a _ u q => e a u q) (fun hB => ?_) (fun i hi => h.pk i (by simpa using hi))
    · rw [ft] at hb
      rcases List.mem_cons.mp hb with q | q
      · subst q; exact .inr na
      · exact .inl q
    · rw [ft]
      refine List.nodup_cons.mpr ⟨fun z => ?_, h.nd⟩
      obtain ⟨u, q⟩ := h.there a z
      rw [na] at q; cases q
    · refine ⟨⟨a, rfl, ?_, fun z => absurd rfl z, fun _ => ?_⟩, h.tp.mono hB fun a _ u q => e a u q⟩
      · rw [ft]; exact oa
      · cases z : g.H0 a with
        | none => rfl
        | some o =>
          obtain ⟨o', q⟩ := h.dm a o z
          rw [na] at q; cases q
theorem SR.grow (h : SR K g σ vs H ρ cs) (e : Same H H') : SR K g σ vs H' ρ cs :=
  h.gen (fun a o _ q => e a o q) (fun a o q => ⟨o, e a o q⟩) (fun a ha => .inl ha) h.nd (fun hB => h.sl.mono hB fun a _ u q => e a u q) (fun hB => h.tp.mono hB fun a _ u q => e a u q) h.pk
theorem tot_cons {x : V} {c : C} : tot σ (x :: vs) ρ (c :: cs) = footC (some x) c ++ tot σ vs ρ cs := by
  show (footC (some x) c ++ foot (vs.map some) cs) ++ foot σ ρ = _
  rw [List.append_assoc]
theorem SR.pop {x : V} {c : C} (h : SR K g σ (x :: vs) H ρ (c :: cs)) : SR K g σ vs H ρ cs := by
  have ft := tot_cons (σ := σ) (vs := vs) (ρ := ρ) (cs := cs) (x := x) (c := c)
  refine h.gen (fun _ _ _ q => q) (fun _ o q => ⟨o, q⟩) (fun a ha => .inl (by rw [ft]; exact List.mem_append_right _ ha)) ?_ (fun hB => h.sl.mono hB fun _ _ _ q => q) (fun hB => (RCs.mono hB (fun _ _ _ q => q) h.tp).2) (fun i hi => h.pk i (hi.imp (List.mem_cons_of_mem _) (List.mem_cons_of_mem _)))
  have q := h.nd
  rw [ft] at q
  exact (List.nodup_append.mp q).2.1
theorem SR.top {x : V} {d : D} (h : SR K g σ (x :: vs) H ρ (.v d :: cs)) : Dp K (hide H (tot σ vs ρ cs ++ g.P0)) x d := by
  obtain ⟨x', e, q⟩ := h.tp.1
  cases e
  rw [foot_cons_v] at q
  exact q
theorem SR.len (h : SR K g σ vs H ρ cs) : σ.length = ρ.length := h.sl.len
theorem SR.pops : ∀ {xs : List V} {ccs : List C}, xs.length = ccs.length → SR K g σ (xs ++ vs) H ρ (ccs ++ cs) → SR K g σ vs H ρ cs
  | [], [], _, h => h
  | _ :: xs, _ :: ccs, hl, h => SR.pops (xs := xs) (ccs := ccs) (by simpa using hl) h.pop
  | [], _ :: _, hl, _ => by simp at hl
  | _ :: _, [], hl, _ => by simp at hl
theorem tot_app {xs : List V} {ccs : List C} (hl : xs.length = ccs.length) : tot σ (xs ++ vs) ρ (ccs ++ cs) = foot (xs.map some) ccs ++ tot σ vs ρ cs := by
  show foot ((xs ++ vs).map some) (ccs ++ cs) ++ foot σ ρ = _
  rw [List.map_append, foot_app (by simpa using hl), List.append_assoc]
theorem SR.rot {x : V} {c : C} {xs : List V} {ccs : List C} (hl : xs.length = ccs.length) (h : SR K g σ (xs ++ x :: vs) H ρ (ccs ++ c :: cs)) : SR K g σ (x :: (xs ++ vs)) H ρ (c :: (ccs ++ cs)) := by
  have e1 : tot σ (xs ++ x :: vs) ρ (ccs ++ c :: cs) = foot (xs.map some) ccs ++ (footC (some x) c ++ tot σ vs ρ cs) := by rw [tot_app hl, tot_cons]
  have e2 : tot σ (x :: (xs ++ vs)) ρ (c :: (ccs ++ cs)) = footC (some x) c ++ (foot (xs.map some) ccs ++ tot σ vs ρ cs) := by rw [tot_cons, tot_app hl]
  have pm : (foot (xs.map some) ccs ++ (footC (some x) c ++ tot σ vs ρ cs)).Perm (footC (some x) c ++ (foot (xs.map some) ccs ++ tot σ vs ρ cs)) := by
    exact List.perm_append_comm_assoc _ _ _
  refine h.gen (fun _ _ _ q => q) (fun _ o q => ⟨o, q⟩) (fun a ha => .inl ?_) ?_ (fun hB => h.sl.mono hB fun _ _ _ q => q) (fun hB => ?_) (fun i hi => h.pk i ?_)
  · rw [e1]; rw [e2] at ha; exact pm.mem_iff.mpr ha
  · rw [e2]; have q := h.nd; rw [e1] at q; exact pm.nodup_iff.mp q
  · have q := RCs.mono hB (fun _ _ _ q => q) h.tp
    rw [List.map_append] at q
    obtain ⟨q1, q2, q3⟩ := RCs.split (by simpa using hl) q
    rw [List.map_cons, List.map_append]
    exact ⟨q2, q1.app q3⟩
  · simp only [List.mem_append, List.mem_cons] at hi ⊢
    rcases hi with (h1 | h1 | h1) | (h1 | h1 | h1) <;> simp [h1]
theorem SR.unrot {x : V} {c : C} {xs : List V} {ccs : List C} (hl : xs.length = ccs.length) (h : SR K g σ (x :: (xs ++ vs)) H ρ (c :: (ccs ++ cs))) : SR K g σ (xs ++ x :: vs) H ρ (ccs ++ c :: cs) := by
  have e1 : tot σ (xs ++ x :: vs) ρ (ccs ++ c :: cs) = foot (xs.map some) ccs ++ (footC (some x) c ++ tot σ vs ρ cs) := by rw [tot_app hl, tot_cons]
  have e2 : tot σ (x :: (xs ++ vs)) ρ (c :: (ccs ++ cs)) = footC (some x) c ++ (foot (xs.map some) ccs ++ tot σ vs ρ cs) := by rw [tot_cons, tot_app hl]
  have pm : (foot (xs.map some) ccs ++ (footC (some x) c ++ tot σ vs ρ cs)).Perm (footC (some x) c ++ (foot (xs.map some) ccs ++ tot σ vs ρ cs)) := by
    exact List.perm_append_comm_assoc _ _ _
  refine h.gen (fun _ _ _ q => q) (fun _ o q => ⟨o, q⟩) (fun a ha => .inl ?_) ?_ (fun hB => h.sl.mono hB fun _ _ _ q => q) (fun hB => ?_) (fun i hi => h.pk i ?_)
  · rw [e2]; rw [e1] at ha; exact pm.mem_iff.mp ha
  · rw [e1]; have q := h.nd; rw [e2] at q; exact pm.nodup_iff.mpr q
  · have q := RCs.mono hB (fun _ _ _ q => q) h.tp
    rw [List.map_cons, List.map_append] at q
    obtain ⟨q2, q1⟩ := q
    obtain ⟨q1, q3⟩ := RCs.split (by simpa using hl) q1
    rw [List.map_append, List.map_cons]
    exact q1.app ⟨q2, q3⟩
  · simp only [List.mem_append, List.mem_cons] at hi ⊢
    rcases hi with (h1 | h1 | h1) | (h1 | h1 | h1) <;> simp [h1]
end

/-! ### slots -/
@[reducible] def rget : Rho → Nat → C
  | [], _ => .no
  | c :: _, 0 => c
  | _ :: ρ, n + 1 => rget ρ n
@[reducible] def rset : Rho → Nat → C → Rho
  | [], _, _ => []
  | _ :: ρ, 0, c => c :: ρ
  | c' :: ρ, n + 1, c => c' :: rset ρ n c
@[simp] theorem rget_zero {c : C} {ρ : Rho} : rget (c :: ρ) 0 = c := rfl
@[simp] theorem rget_succ {c : C} {ρ : Rho} {n : Nat} : rget (c :: ρ) (n + 1) = rget ρ n := rfl
@[simp] theorem rset_zero {c c' : C} {ρ : Rho} : rset (c' :: ρ) 0 c = c :: ρ := rfl
@[simp] theorem rset_succ {c c' : C} {ρ : Rho} {n : Nat} : rset (c' :: ρ) (n + 1) c = c' :: rset ρ n c := rfl
@[reducible] def dat (ρ : Rho) : C → Option D
  | .v d => some d
  | .p d => some d
  | .own _ (.lst ds) => some (.list ds)
  | .ln i => match rget ρ i with
    | .own _ (.lst ds) => some (.list ds)
    | .v d => some d
    | .p d => some d
    | _ => none
  | _ => none
@[reducible] def lfree : D → Bool
  | .list _ => false
  | .dict _ => false
  | .tuple ds => lfreeAll ds
  | _ => true
where lfreeAll : List D → Bool
  | [] => true
  | d :: ds => lfree d && lfreeAll ds
@[reducible] def C.lf : C → Bool
  | .v d => lfree d
  | .p d => lfree d
  | .own _ (.lst ds) => lfree.lfreeAll ds
  | _ => false
section
variable {K : PySem.W.Frag} {g : G} {σ σ' : L2.St} {vs vs' : List V} {B B' H H' : Hp} {ρ ρ' : Rho} {cs cs' : List C}
theorem seqT_lf {A O : List Addr} (hA : ∀ a ∈ A, ∃ xs, H a = some (.lst xs)) {a : Addr} {xs : List V} (h : SqT K (hide H O) a xs) : SqT K (hide H (A ++ O)) a xs := by
  rcases h with (h | ⟨o, h⟩) | h
  · obtain ⟨h1, h2⟩ := hide_some.mp h
    refine .inl (.inl (hide_some.mpr ⟨fun z => ?_, h2⟩))
    rcases List.mem_append.mp z with z | z
    · obtain ⟨ys, e⟩ := hA a z
      rw [h2] at e; cases e
    · exact h1 z
  · obtain ⟨h1, h2⟩ := hide_some.mp h
    refine .inl (.inr ⟨o, hide_some.mpr ⟨fun z => ?_, h2⟩⟩)
    rcases List.mem_append.mp z with z | z
    · obtain ⟨ys, e⟩ := hA a z
      rw [h2] at e; cases e
    · exact h1 z
  · exact .inr h
mutual
theorem dp_lf {A O : List Addr} (hA : ∀ a ∈ A, ∃ xs, H a = some (.lst xs)) : ∀ (d : D) (v : V), lfree d = true → Dp K (hide H O) v d → Dp K (hide H (A ++ O)) v d
  | .none, _, _, h => by cases h; exact .non
  | .bool b, _, _, h => by cases h; exact .bl b
  | .int i, _, _, h => by cases h; exact .int i
  | .str x, _, _, h => by cases h; exact .str x
  | .list ds, _, q, _ => by simp [lfree] at q
  | .tuple ds, _, q, h => by
    cases h with
    | tup hs ha => exact .tup (seqT_lf hA hs) (dpAll_lf hA ds _ (by simpa [lfree] using q) ha)
  | .dict _, _, q, _ => by simp [lfree] at q
theorem dpAll_lf {A O : List Addr} (hA : ∀ a ∈ A, ∃ xs, H a = some (.lst xs)) : ∀ (ds : List D) (vs : List V), lfree.lfreeAll ds = true → DpAll K (hide H O) vs ds → DpAll K (hide H (A ++ O)) vs ds
  | [], _, _, h => by cases h; exact .nil
  | d :: ds, _, q, h => by
    have q' : lfree d = true ∧ lfree.lfreeAll ds = true := by simpa [lfree.lfreeAll] using q
    cases h with
    | cons h1 h2 => exact .cons (dp_lf hA d _ q'.1 h1) (dpAll_lf hA ds _ q'.2 h2)
end
theorem NewRes.lent {A O : List Addr} {v : V} {c : C} (hA : ∀ a ∈ A, ∃ xs, H a = some (.lst xs)) (e : Same H H') (hc : c.lf = true) (r : NewRes K O H H' v c) : NewRes K (A ++ O) H H' v c := by
  have hA' : ∀ a ∈ A, ∃ xs, H' a = some (.lst xs) := fun a ha => let ⟨xs, q⟩ := hA a ha; ⟨xs, e _ _ q⟩
  cases c with
  | v d => exact dp_lf hA' d v hc r
  | p d =>
    refine ⟨dp_lf hA' d v hc r.1, ?_⟩
    obtain ⟨a, o, xs, e1, e2, e3⟩ := r.2
    obtain ⟨q1, q2⟩ := hide_some.mp e2
    refine ⟨a, o, xs, e1, hide_some.mpr ⟨fun z => ?_, q2⟩, e3⟩
    rcases List.mem_append.mp z with z | z
    · obtain ⟨ys, w⟩ := hA' a z
      rw [q2] at w; cases w
    · exact q1 z
  | own t o =>
    obtain ⟨h0, a, e1, na, oa⟩ := r
    refine ⟨h0, a, e1, na, ?_⟩
    cases o with
    | dct _ => cases hc
    | dtt _ => cases hc
    | lck _ _ _ _ => cases hc
    | prp _ _ => cases hc
    | tre _ => cases hc
    | lst ds =>
      obtain ⟨xs, h1, h2⟩ := oa
      refine ⟨xs, h1, ?_⟩
      have q := dpAll_lf hA' ds xs hc h2
      have e2 : hide H' (A ++ a :: O) = hide H' (a :: (A ++ O)) := hide_congr fun b => by
        simp only [List.mem_append, List.mem_cons]
        constructor
        · rintro (z | z | z) <;> simp [z]
        · rintro (z | z | z) <;> simp [z]
      rw [e2] at q
      exact q
  | no => exact r
  | pk i => exact r
  | ln i => exact r
  | sub i p k => exact r
theorem NewRes.congr {O O' : List Addr} {v : V} {c : C} (h : ∀ a, a ∈ O ↔ a ∈ O') (r : NewRes K O H H' v c) : NewRes K O' H H' v c := by
  cases c with
  | v d =>
    show Dp K (hide H' O') v d
    rw [← hide_congr h]; exact r
  | p d =>
    show Dp K (hide H' O') v d ∧ PlainT (hide H' O') v
    rw [← hide_congr h]; exact r
  | own t o =>
    obtain ⟨h0, a, e1, na, oa⟩ := r
    refine ⟨h0, a, e1, na, ?_⟩
    rw [← hide_congr (O := a :: O) (fun b => by simp [h b])]; exact oa
  | no => exact r
  | pk i => exact r
  | ln i => exact r
  | sub i p k => exact r
theorem RCs.at_ : ∀ {σ0 : List (Option V)} {ρ : Rho} {i : Nat}, RCs K g σ B H σ0 ρ → rget ρ i ≠ .no → ∃ ov, σ0[i]? = some ov ∧ RC K g σ B H ov (rget ρ i)
  | [], [], i, _, h => absurd rfl h
  | ov :: σ0, c :: ρ, 0, h, _ => ⟨ov, rfl, h.1⟩
  | ov :: σ0, c :: ρ, i + 1, h, hn => by
    obtain ⟨ov', e, q⟩ := RCs.at_ (i := i) h.2 hn
    exact ⟨ov', by simpa using e, q⟩
  | [], _ :: _, _, h, _ => h.elim
  | _ :: _, [], _, h, _ => h.elim
theorem foot_at : ∀ {σ0 : List (Option V)} {ρ : Rho} {i : Nat} {a : Addr} {t : Nat} {o : OD}, σ0[i]? = some (some (.ref a)) → rget ρ i = .own t o → ∀ b ∈ o.fp a, b ∈ foot σ0 ρ
  | [], _, i, _, _, _, h, _ => by simp at h
  | ov :: σ0, [], i, _, _, _, _, h => by cases h
  | ov :: σ0, c :: ρ, 0, a, t, o, h1, h2 => by
    have e1 : ov = some (.ref a) := by simpa using h1
    have e2 : c = .own t o := h2
    subst e1; subst e2
    intro b hb
    exact List.mem_append_left _ hb
  | ov :: σ0, c :: ρ, i + 1, a, t, o, h1, h2 => fun b hb => by
    show b ∈ footC ov c ++ foot σ0 ρ
    exact List.mem_append_right _ (foot_at (i := i) (by simpa using h1) h2 b hb)
theorem SR.own {i t : Nat} {o : OD} (h : SR K g σ vs H ρ cs) (e : rget ρ i = .own t o) : ∃ a, σ[i]? = some (some (.ref a)) ∧ a ∈ foot σ ρ ∧ OwnAt K (hide H (tot σ vs ρ cs ++ g.P0)) H a o ∧ (t ≠ 0 → g.tg t = a) ∧ (t = 0 → g.H0 a = none) := by
  obtain ⟨ov, e1, q⟩ := h.sl.at_ (i := i) (by rw [e]; exact fun z => nomatch z)
  rw [e] at q
  obtain ⟨a, e2, q1, q2⟩ := q
  subst e2
  exact ⟨a, e1, foot_at e1 e a q1.root_mem, q1, q2⟩
theorem SR.slot {i : Nat} {d : D} (h : SR K g σ vs H ρ cs) (e : rget ρ i = .v d) : ∃ x, σ[i]? = some (some x) ∧ Dp K (hide H (tot σ vs ρ cs ++ g.P0)) x d := by
  obtain ⟨ov, e1, q⟩ := h.sl.at_ (i := i) (by rw [e]; exact fun z => nomatch z)
  rw [e] at q
  obtain ⟨x, e2, q1⟩ := q
  subst e2
  exact ⟨x, e1, q1⟩
theorem SR.slotP {i : Nat} {d : D} (h : SR K g σ vs H ρ cs) (e : rget ρ i = .p d) : ∃ x, σ[i]? = some (some x) ∧ Dp K (hide H (tot σ vs ρ cs ++ g.P0)) x d ∧ PlainT (hide H (tot σ vs ρ cs ++ g.P0)) x := by
  obtain ⟨ov, e1, q⟩ := h.sl.at_ (i := i) (by rw [e]; exact fun z => nomatch z)
  rw [e] at q
  obtain ⟨x, e2, q1⟩ := q
  subst e2
  exact ⟨x, e1, q1⟩
def lentA (σ : L2.St) (ρ : Rho) : List C → List Addr
  | [] => []
  | .ln i :: cs => (match σ[i]?, rget ρ i with
    | some (some (.ref a)), .own _ (.lst _) => [a]
    | _, _ => []) ++ lentA σ ρ cs
  | _ :: cs => lentA σ ρ cs
theorem lentA_mem : ∀ {ccs : List C} {a : Addr}, a ∈ lentA σ ρ ccs → ∃ i t ds, C.ln i ∈ ccs ∧ σ[i]? = some (some (.ref a)) ∧ rget ρ i = .own t (.lst ds)
  | [], a, h => by simp [lentA] at h
  | c :: ccs, a, h => by
    have rec_ : a ∈ lentA σ ρ ccs → ∃ i t ds, C.ln i ∈ c :: ccs ∧ σ[i]? = some (some (.ref a)) ∧ rget ρ i = .own t (.lst ds) := fun z => by
      obtain ⟨i, t, ds, h1, h2⟩ := lentA_mem z
      exact ⟨i, t, ds, List.mem_cons_of_mem _ h1, h2⟩
    cases c with
    | ln i =>
      rw [lentA, List.mem_append] at h
      rcases h with h | h
      · revert h
        split
        · rename_i b t ds e1 e2
          intro h
          have e3 : a = b := by simpa using h
          subst e3
          exact ⟨i, t, ds, List.mem_cons_self, e1, e2⟩
        · intro h; simp at h
      · exact rec_ h
    | no => exact rec_ h
    | v d => exact rec_ h
    | p d => exact rec_ h
    | own t o => exact rec_ h
    | pk i => exact rec_ h
    | sub i p k => exact rec_ h
theorem mem_lentA : ∀ {ccs : List C} {a : Addr} {i t : Nat} {ds : List D}, C.ln i ∈ ccs → σ[i]? = some (some (.ref a)) → rget ρ i = .own t (.lst ds) → a ∈ lentA σ ρ ccs
  | [], _, _, _, _, h, _, _ => by simp at h
  | c :: ccs, a, i, t, ds, h, h1, h2 => by
    rcases List.mem_cons.mp h with e | h
    · subst e
      rw [lentA, h1, h2]
      simp
    · have q := mem_lentA h h1 h2
      cases c with
      | ln j => rw [lentA]; exact List.mem_append_right _ q
      | sub j p k => exact q
      | no => exact q
      | v d => exact q
      | p d => exact q
      | own t o => exact q
      | pk i => exact q
@[reducible] def C.isLn : C → Bool
  | .ln _ => true
  | _ => false
theorem lentA_none : ∀ {ccs : List C}, ccs.any C.isLn = false → lentA σ ρ ccs = []
  | [], _ => rfl
  | c :: ccs, h => by
    have h' : c.isLn = false ∧ ccs.any C.isLn = false := by simpa using h
    have r := lentA_none h'.2
    cases c with
    | ln i => simp [C.isLn] at h'
    | sub i p k => exact r
    | no => exact r
    | v d => exact r
    | p d => exact r
    | own t o => exact r
    | pk i => exact r
def dats (ρ : Rho) : List C → Option (List D)
  | [] => some []
  | c :: cs => match dat ρ c, dats ρ cs with
    | some d, some ds => some (d :: ds)
    | _, _ => none
theorem SR.use {xs : List V} {ccs : List C} {ds : List D} (h : SR K g σ (xs ++ vs) H ρ (ccs ++ cs)) (hl : xs.length = ccs.length) (hd : dats ρ ccs = some ds) :
    ∃ O, (∀ a ∈ O, a ∈ tot σ vs ρ cs ++ g.P0) ∧ DpAll K (hide H O) xs ds ∧ ∀ H' v c, Same H H' → NewRes K O H H' v c → (ccs.any C.isLn = true → c.lf = true) → NewRes K (tot σ vs ρ cs ++ g.P0) H H' v c := by
  refine ⟨(tot σ vs ρ cs ++ g.P0).filter fun a => decide (a ∉ lentA σ ρ ccs), fun a ha => (List.mem_filter.mp ha).1, ?_, fun H' v c e r hc => ?_⟩
  · -- every operand reads as its data
    have big : ∀ a, a ∈ (tot σ vs ρ cs ++ g.P0).filter (fun a => decide (a ∉ lentA σ ρ ccs)) → a ∈ tot σ (xs ++ vs) ρ (ccs ++ cs) ++ g.P0 := fun a ha => by
      rw [tot_app hl]
      rcases List.mem_append.mp (List.mem_filter.mp ha).1 with q | q
      · exact List.mem_append_left _ (List.mem_append_right _ q)
      · exact List.mem_append_right _ q
    have up : Same (hide H (tot σ (xs ++ vs) ρ (ccs ++ cs) ++ g.P0)) (hide H ((tot σ vs ρ cs ++ g.P0).filter fun a => decide (a ∉ lentA σ ρ ccs))) := fun a o q => by
      obtain ⟨h1, h2⟩ := hide_some.mp q
      exact hide_some.mpr ⟨fun z => h1 (big a z), h2⟩
    have tp := h.tp
    rw [List.map_append] at tp
    have tp1 := (RCs.split (by simpa using hl) tp).1
    have nd := h.nd
    rw [tot_app hl] at nd
    have key : ∀ (ys : List V) (qs : List C) (es : List D), ys.length = qs.length → (∀ c ∈ qs, c ∈ ccs) → (∀ a ∈ foot (ys.map some) qs, a ∈ foot (xs.map some) ccs) → RCs K g σ (hide H (tot σ (xs ++ vs) ρ (ccs ++ cs) ++ g.P0)) H (ys.map some) qs → dats ρ qs = some es →
        DpAll K (hide H ((tot σ vs ρ cs ++ g.P0).filter fun a => decide (a ∉ lentA σ ρ ccs))) ys es := by
      intro ys
      induction ys with
      | nil =>
        intro qs es hlen _ _ _ hds
        cases qs with
        | nil => cases hds; exact .nil
        | cons _ _ => simp at hlen
      | cons y ys ih =>
        intro qs es hlen hin hft hrc hds
        cases qs with
        | nil => simp at hlen
        | cons q qs =>
          rw [dats] at hds
          cases e1 : dat ρ q with
          | none => rw [e1] at hds; cases hds
          | some d =>
            cases e2 : dats ρ qs with
            | none => rw [e1, e2] at hds; cases hds
            | some es' =>
              rw [e1, e2] at hds
              cases hds
              refine .cons ?_ (ih qs es' (by simpa using hlen) (fun c hc => hin c (List.mem_cons_of_mem _ hc)) (fun a ha => hft a (by rw [List.map_cons, foot]; exact List.mem_append_right _ ha)) hrc.2 e2)
              have hq := hrc.1
              cases q with
              | no => cases e1
              | pk i => cases e1
              | sub i p k => cases e1
              | v d' =>
                cases e1
                obtain ⟨x, e3, q1⟩ := hq
                cases e3
                exact dp_mono up _ _ q1
              | p d' =>
                cases e1
                obtain ⟨x, e3, q1, _⟩ := hq
                cases e3
                exact dp_mono up _ _ q1
              | own t o =>
                cases o with
                | dct _ => cases e1
                | dtt _ => cases e1
                | lck _ _ _ _ => cases e1
                | prp _ _ => cases e1
                | tre _ => cases e1
                | lst zs =>
                  cases e1
                  obtain ⟨a, e3, ⟨us, q1, q2⟩, _⟩ := hq
                  cases e3
                  have ha : a ∈ foot (xs.map some) ccs := hft a (by rw [List.map_cons, foot]; exact List.mem_append_left _ (by simp [footC]))
                  refine .lst (.inl (.inl (hide_some.mpr ⟨fun z => ?_, q1⟩))) (dpAll_mono up _ _ q2)
                  rcases List.mem_append.mp (List.mem_filter.mp z).1 with z | z
                  · exact (List.nodup_append.mp nd).2.2 a ha a z rfl
                  · exact h.pout a (by rw [tot_app hl]; exact List.mem_append_left _ ha) z
              | ln i =>
                obtain ⟨x, e3, q1⟩ := hq
                cases e3
                have hin' := hin (.ln i) List.mem_cons_self
                revert e1
                show (match rget ρ i with
                  | .own _ (.lst ds) => some (PyData.list ds)
                  | .v d => some d
                  | .p d => some d
                  | _ => none) = some d → _
                split
                · rename_i t zs eo
                  intro e1
                  cases e1
                  obtain ⟨a, e4, _, ⟨us, q2, q3⟩, _⟩ := h.own eo
                  rw [q1] at e4
                  cases e4
                  refine .lst (.inl (.inl (hide_some.mpr ⟨fun z => ?_, q2⟩))) (dpAll_mono up _ _ q3)
                  exact of_decide_eq_true (List.mem_filter.mp z).2 (mem_lentA hin' q1 eo)
                · rename_i d' eo
                  intro e1
                  cases e1
                  obtain ⟨x', e4, q2⟩ := h.slot eo
                  rw [q1] at e4
                  cases e4
                  exact dp_mono up _ _ q2
                · rename_i d' eo
                  intro e1
                  cases e1
                  obtain ⟨x', e4, q2, _⟩ := h.slotP eo
                  rw [q1] at e4
                  cases e4
                  exact dp_mono up _ _ q2
                · intro e1; cases e1
    exact key xs ccs ds hl (fun _ q => q) (fun _ q => q) tp1 hd
  · -- the answer
    cases hb : ccs.any C.isLn with
    | false =>
      have e0 := lentA_none (σ := σ) (ρ := ρ) hb
      refine r.congr fun a => ?_
      rw [e0]
      simp
    | true =>
      have hlst : ∀ a ∈ lentA σ ρ ccs, ∃ xs, H a = some (.lst xs) := fun a ha => by
        obtain ⟨i, t, zs, h1, h2, h3⟩ := lentA_mem ha
        obtain ⟨b, e4, _, ⟨us, q2, _⟩, _⟩ := h.own h3
        rw [h2] at e4
        cases e4
        exact ⟨us, q2⟩
      refine (NewRes.lent hlst e (hc hb) r).congr fun a => ?_
      simp only [List.mem_append, List.mem_filter, decide_not, Bool.not_eq_true', decide_eq_false_iff_not]
      constructor
      · rintro (q | ⟨q, _⟩)
        · obtain ⟨i, t, zs, h1, h2, h3⟩ := lentA_mem q
          obtain ⟨b, e4, q5, _⟩ := h.own h3
          rw [h2] at e4
          cases e4
          exact .inl (.inr q5)
        · exact q
      · intro q
        by_cases z : a ∈ lentA σ ρ ccs
        · exact .inl z
        · exact .inr ⟨q, z⟩
end
end DL

set_option Elab.async false
set_option linter.all false
set_option maxRecDepth 100000
set_option maxHeartbeats 4000000
/-! DL, expressions: each rule of the hand layer, said over data. -/
namespace DL
open PySem PySem.Spec PyProof.Rows L2

abbrev KC := C → Rho → Prop
abbrev KX := XD → Rho → Prop
abbrev WE := Rho → KC → KX → Prop
abbrev WT := Rho → (Bool → Rho → Prop) → KX → Prop
abbrev WA := Rho → (List C → Rho → Prop) → KX → Prop
def XRep (K : PySem.W.Frag) (B H : Hp) (x : XD) (cls : Value) (d : Option Addr) : Prop :=
  Value.ref (He.ga K x.cls) = cls ∧ ((d = none ∧ x.fs = []) ∨ (x.fs ≠ [] ∧ ∃ a fs, d = some a ∧ H a = some (.xd fs) ∧ XFs K B fs x.fs))
def XEnds (K : PySem.W.Frag) (g : G) (W : WX) (σ : L2.St) (ED : KX) : Prop :=
  ∀ x ρ' cls d H', SR K g σ [] H' ρ' [] → XRep K (hide H' (tot σ [] ρ' [] ++ g.P0)) H' x cls d → ED x ρ' → W cls d σ H'
def Sem (K : PySem.W.Frag) (g : G) (W : WX) (t : TE) (w : WE) : Prop :=
  ∀ (σ : L2.St) (vs : List V) (H : Hp) (ρ : Rho) (cs : List C) (QD : KC) (ED : KX) (Q : VK), SR K g σ vs H ρ cs → w ρ QD ED → XEnds K g W σ ED →
    (∀ v H' c ρ', SR K g σ (v :: vs) H' ρ' (c :: cs) → QD c ρ' → Q v H') → t σ H Q
def SemT (K : PySem.W.Frag) (g : G) (W : WX) (t : TT) (w : WT) : Prop :=
  ∀ (σ : L2.St) (vs : List V) (H : Hp) (ρ : Rho) (cs : List C) (QD : Bool → Rho → Prop) (ED : KX) (Q : Bool → Hp → Prop), SR K g σ vs H ρ cs → w ρ QD ED → XEnds K g W σ ED →
    (∀ b H' ρ', SR K g σ vs H' ρ' cs → QD b ρ' → Q b H') → t σ H Q
def SemA (K : PySem.W.Frag) (g : G) (W : WX) (t : TA) (w : WA) : Prop :=
  ∀ (σ : L2.St) (vs : List V) (H : Hp) (ρ : Rho) (cs : List C) (QD : List C → Rho → Prop) (ED : KX) (Q : List V → Hp → Prop), SR K g σ vs H ρ cs → w ρ QD ED → XEnds K g W σ ED →
    (∀ xs H' ccs ρ', xs.length = ccs.length → SR K g σ (xs ++ vs) H' ρ' (ccs ++ cs) → QD ccs ρ' → Q xs H') → t σ H Q
structure EE (X : Cx) (g : G) (W : WX) (e : Expr) (w : WE) : Prop where
  ex : ∃ t, PE X e t ∧ Sem X.K g W t w
structure ET (X : Cx) (g : G) (W : WX) (e : Expr) (w : WT) : Prop where
  ex : ∃ t, PT X e t ∧ SemT X.K g W t w
structure EW (X : Cx) (g : G) (W : WX) (e : Expr) (w : WT) : Prop where
  ex : ∃ t, PW X e t ∧ SemT X.K g W t w
structure EA (X : Cx) (g : G) (W : WX) (es : List Expr) (w : WA) : Prop where
  ex : ∃ t, PA X es t ∧ SemA X.K g W t w

@[reducible] def useK (ρ : Rho) : List C → (List D → Prop) → Prop
  | [], k => k []
  | c :: cs, k => match dat ρ c with
    | some d => useK ρ cs fun ds => k (d :: ds)
    | none => False
theorem useK_dats {ρ : Rho} : ∀ {cs : List C} {k : List D → Prop}, useK ρ cs k → ∃ ds, dats ρ cs = some ds ∧ k ds
  | [], k, h => ⟨[], rfl, h⟩
  | c :: cs, k, h => by
    unfold useK at h
    cases e : dat ρ c with
    | none => rw [e] at h; exact h.elim
    | some d =>
      rw [e] at h
      obtain ⟨ds, e2, q⟩ := useK_dats h
      refine ⟨d :: ds, ?_, q⟩
      unfold dats
      rw [e, e2]
@[reducible] def okR (cs : List C) (c : C) : Prop := cs.any C.isLn = true → c.lf = true
abbrev O2 := D → D → (C → Prop) → Prop
abbrev O1 := D → (C → Prop) → Prop
abbrev OL := List D → (C → Prop) → Prop
def Lift2 (K : PySem.W.Frag) (r : R2) (o : O2) : Prop :=
  ∀ (O : List Addr) (H : Hp) (x y : V) (dx dy : D) (QD : C → Prop) (Q : VK), (∀ a ∈ O, ∃ u, H a = some u) → Dp K (hide H O) x dx → Dp K (hide H O) y dy → o dx dy QD →
    (∀ v H' c, Same H H' → NewRes K O H H' v c → QD c → Q v H') → r x y H Q
def Lift1 (K : PySem.W.Frag) (r : V → Hp → VK → Prop) (o : O1) : Prop :=
  ∀ (O : List Addr) (H : Hp) (x : V) (dx : D) (QD : C → Prop) (Q : VK), (∀ a ∈ O, ∃ u, H a = some u) → Dp K (hide H O) x dx → o dx QD →
    (∀ v H' c, Same H H' → NewRes K O H H' v c → QD c → Q v H') → r x H Q
def LiftL (K : PySem.W.Frag) (r : List V → Hp → VK → Prop) (o : OL) : Prop :=
  ∀ (O : List Addr) (H : Hp) (xs : List V) (ds : List D) (QD : C → Prop) (Q : VK), (∀ a ∈ O, ∃ u, H a = some u) → DpAll K (hide H O) xs ds → o ds QD →
    (∀ v H' c, Same H H' → NewRes K O H H' v c → QD c → Q v H') → r xs H Q
@[reducible] def use2 (ρ : Rho) (c1 c2 : C) (o : O2) (Q : KC) : Prop := useK ρ [c2, c1] fun ds => match ds with
  | [d2, d1] => o d1 d2 fun c => okR [c2, c1] c ∧ Q c ρ
  | _ => False
@[reducible] def use1 (ρ : Rho) (c1 : C) (o : O1) (Q : KC) : Prop := useK ρ [c1] fun ds => match ds with
  | [d1] => o d1 fun c => okR [c1] c ∧ Q c ρ
  | _ => False
@[reducible] def useL (ρ : Rho) (cs : List C) (o : OL) (Q : KC) : Prop := useK ρ cs fun ds => o ds fun c => okR cs c ∧ Q c ρ

section
variable {K : PySem.W.Frag} {g : G} {W : WX} {σ : L2.St} {vs : List V} {H H' : Hp} {ρ : Rho} {cs : List C}
theorem SR.resV {v : V} {d : D} (h : SR K g σ vs H ρ cs) (e : Same H H') (r : Dp K (hide H' (tot σ vs ρ cs ++ g.P0)) v d) : SR K g σ (v :: vs) H' ρ (.v d :: cs) := SR.res (c := .v d) h e r
theorem SR.use2 {x y : V} {c1 c2 : C} {o : O2} {r : R2} {QD : KC} {Q : VK} (l : Lift2 K r o) (h : SR K g σ (y :: x :: vs) H ρ (c2 :: c1 :: cs)) (q : DL.use2 ρ c1 c2 o QD)
    (hQ : ∀ v H' c, SR K g σ (v :: vs) H' ρ (c :: cs) → QD c ρ → Q v H') : r x y H Q := by
  obtain ⟨ds, e, q⟩ := useK_dats q
  obtain ⟨O, hO, hd, fin⟩ := SR.use (xs := [y, x]) (ccs := [c2, c1]) h rfl e
  cases hd with
  | cons h2 hd =>
    cases hd with
    | cons h1 hd =>
      cases hd
      refine l O H x y _ _ _ Q (fun a ha => (SR.pops (xs := [y, x]) (ccs := [c2, c1]) rfl h).domO a (hO a ha)) h1 h2 q fun v H' c sm nr ⟨ok, qd⟩ => ?_
      exact hQ v H' c (SR.res (SR.pops (xs := [y, x]) (ccs := [c2, c1]) rfl h) sm (fin H' v c sm nr ok)) qd
theorem SR.use1 {x : V} {c1 : C} {o : O1} {r : V → Hp → VK → Prop} {QD : KC} {Q : VK} (l : Lift1 K r o) (h : SR K g σ (x :: vs) H ρ (c1 :: cs)) (q : DL.use1 ρ c1 o QD)
    (hQ : ∀ v H' c, SR K g σ (v :: vs) H' ρ (c :: cs) → QD c ρ → Q v H') : r x H Q := by
  obtain ⟨ds, e, q⟩ := useK_dats q
  obtain ⟨O, hO, hd, fin⟩ := SR.use (xs := [x]) (ccs := [c1]) h rfl e
  cases hd with
  | cons h1 hd =>
    cases hd
    refine l O H x _ _ Q (fun a ha => (SR.pops (xs := [x]) (ccs := [c1]) rfl h).domO a (hO a ha)) h1 q fun v H' c sm nr ⟨ok, qd⟩ => ?_
    exact hQ v H' c (SR.res (SR.pops (xs := [x]) (ccs := [c1]) rfl h) sm (fin H' v c sm nr ok)) qd
theorem SR.useL {xs : List V} {ccs : List C} {o : OL} {r : List V → Hp → VK → Prop} {QD : KC} {Q : VK} (l : LiftL K r o) (hl : xs.length = ccs.length) (h : SR K g σ (xs ++ vs) H ρ (ccs ++ cs)) (q : DL.useL ρ ccs o QD)
    (hQ : ∀ v H' c, SR K g σ (v :: vs) H' ρ (c :: cs) → QD c ρ → Q v H') : r xs H Q := by
  obtain ⟨ds, e, q⟩ := useK_dats q
  obtain ⟨O, hO, hd, fin⟩ := SR.use h hl e
  refine l O H xs ds _ Q (fun a ha => (SR.pops hl h).domO a (hO a ha)) hd q fun v H' c sm nr ⟨ok, qd⟩ => ?_
  exact hQ v H' c (SR.res (SR.pops hl h) sm (fin H' v c sm nr ok)) qd
end

/-! ### names, constants -/
@[reducible] def wVar (i : Nat) : WE := fun ρ Q _ => match rget ρ i with
  | .v d => Q (.v d) ρ
  | .p d => Q (.v d) ρ
  | _ => False
@[reducible] def wLn (i : Nat) : WE := fun ρ Q _ => match rget ρ i with
  | .v d => Q (.v d) ρ
  | .p d => Q (.v d) ρ
  | .own _ _ => Q (.ln i) ρ
  | _ => False
@[reducible] def wC (d : D) : WE := fun ρ Q _ => Q (.v d) ρ
section
variable {X : Cx} {g : G} {W : WX} {pos : Pos}
theorem sem_var {K : PySem.W.Frag} {i : Nat} : Sem K g W (tVar i) (wVar i) := by
  intro σ vs H ρ cs QD ED Q hS hw hX hQ
  unfold wVar at hw
  split at hw
  · rename_i d e
    obtain ⟨x, e1, q1⟩ := hS.slot e
    exact ⟨x, e1, hQ x H _ ρ (SR.resV hS (Same.refl H) q1) hw⟩
  · rename_i d e
    obtain ⟨x, e1, q1, _⟩ := hS.slotP e
    exact ⟨x, e1, hQ x H _ ρ (SR.resV hS (Same.refl H) q1) hw⟩
  · exact hw.elim
theorem ee_var {i : Nat} {x : Str} (h : PE X (.Name x pos) (tVar i)) : EE X g W (.Name x pos) (wVar i) := ⟨_, h, sem_var⟩
theorem SR.pushLn {K : PySem.W.Frag} {σ : L2.St} {vs : List V} {H : Hp} {ρ : Rho} {cs : List C} {i : Nat} {x : V} (h : SR K g σ vs H ρ cs) (e : σ[i]? = some (some x)) (hL : g.L i = true) : SR K g σ (x :: vs) H ρ (.ln i :: cs) := by
  have ft : tot σ (x :: vs) ρ (.ln i :: cs) = tot σ vs ρ cs := by
    rw [tot_cons]
    have e : footC (some x) (.ln i) = [] := by cases x <;> rfl
    rw [e]; rfl
  refine h.gen (fun _ _ _ q => q) (fun _ o q => ⟨o, q⟩) (fun a ha => .inl (by rw [ft] at ha; exact ha)) (by rw [ft]; exact h.nd) (fun hB => h.sl.mono hB fun _ _ _ q => q) (fun hB => ⟨⟨x, rfl, e⟩, h.tp.mono hB fun _ _ _ q => q⟩) (fun j hj => ?_)
  simp only [List.mem_cons] at hj
  rcases hj with (z | z) | (z | z)
  · cases z
  · exact h.pk j (.inl z)
  · cases z; exact hL
  · exact h.pk j (.inr z)
theorem SR.pushPk {K : PySem.W.Frag} {σ : L2.St} {vs : List V} {H : Hp} {ρ : Rho} {cs : List C} {i : Nat} {x : V} (h : SR K g σ vs H ρ cs) (e : σ[i]? = some (some x)) (hL : g.L i = true) : SR K g σ (x :: vs) H ρ (.pk i :: cs) := by
  have ft : tot σ (x :: vs) ρ (.pk i :: cs) = tot σ vs ρ cs := foot_cons_pk
  refine h.gen (fun _ _ _ q => q) (fun _ o q => ⟨o, q⟩) (fun a ha => .inl (by rw [ft] at ha; exact ha)) (by rw [ft]; exact h.nd) (fun hB => h.sl.mono hB fun _ _ _ q => q) (fun hB => ⟨⟨x, rfl, e⟩, h.tp.mono hB fun _ _ _ q => q⟩) (fun j hj => ?_)
  simp only [List.mem_cons] at hj
  rcases hj with (z | z) | (z | z)
  · cases z; exact hL
  · exact h.pk j (.inl z)
  · cases z
  · exact h.pk j (.inr z)
theorem sem_ln {K : PySem.W.Frag} {i : Nat} (hL : g.L i = true) : Sem K g W (tVar i) (wLn i) := by
  intro σ vs H ρ cs QD ED Q hS hw hX hQ
  unfold wLn at hw
  split at hw
  · rename_i d e
    obtain ⟨x, e1, q1⟩ := hS.slot e
    exact ⟨x, e1, hQ x H _ ρ (SR.resV hS (Same.refl H) q1) hw⟩
  · rename_i d e
    obtain ⟨x, e1, q1, _⟩ := hS.slotP e
    exact ⟨x, e1, hQ x H _ ρ (SR.resV hS (Same.refl H) q1) hw⟩
  · rename_i t o e
    obtain ⟨a, e1, _⟩ := hS.own e
    exact ⟨_, e1, hQ _ H _ ρ (hS.pushLn e1 hL) hw⟩
  · exact hw.elim
theorem ee_ln {i : Nat} {x : Str} (hL : g.L i = true) (h : PE X (.Name x pos) (tVar i)) : EE X g W (.Name x pos) (wLn i) := ⟨_, h, sem_ln hL⟩
theorem sem_C {K : PySem.W.Frag} {v : V} {d : D} (h : ∀ B, Dp K B v d) : Sem K g W (tC v) (wC d) := fun σ vs H ρ cs QD ED Q hS hw hX hQ => hQ v H _ ρ (SR.resV hS (Same.refl H) (h _)) hw
theorem ee_int {i j} : EE X g W (.Constant (.int i) j pos) (wC (.int i)) := ⟨_, pe_int, sem_C fun _ => .int i⟩
theorem ee_bl {b j} : EE X g W (.Constant (.bool b) j pos) (wC (.bool b)) := ⟨_, pe_bl, sem_C fun _ => .bl b⟩
theorem ee_non {j} : EE X g W (.Constant .none j pos) (wC .none) := ⟨_, pe_non, sem_C fun _ => .non⟩
theorem ee_str {x j} : EE X g W (.Constant (.str x) j pos) (wC (.str x)) := ⟨_, pe_str, sem_C fun _ => .str x⟩
theorem ee_gint {i : Int} {x : Str} {t : Tok} (hg : Gl X x) (hm : X.mg x = some (.int i t)) (hd : (x == ("__debug__" : Str)) = false := by decide) : EE X g W (.Name x pos) (wC (.int i)) := ⟨_, pe_glob (v := .int i) hg hm ⟨_, rfl⟩ hd, sem_C fun _ => .int i⟩
theorem ee_gstr {z x : Str} {t : Tok} (hg : Gl X x) (hm : X.mg x = some (.str z t)) (hd : (x == ("__debug__" : Str)) = false := by decide) : EE X g W (.Name x pos) (wC (.str z)) := ⟨_, pe_glob (v := .str z) hg hm ⟨_, rfl⟩ hd, sem_C fun _ => .str z⟩
end

/-! ### operators -/
@[reducible] def wB (o : O2) (wa wb : WE) : WE := fun ρ Q E => wa ρ (fun c1 ρ1 => wb ρ1 (fun c2 ρ2 => use2 ρ2 c1 c2 o Q) E) E
@[reducible] def wU (o : O1) (wa : WE) : WE := fun ρ Q E => wa ρ (fun c1 ρ1 => use1 ρ1 c1 o Q) E
section
variable {K : PySem.W.Frag} {g : G} {W : WX} {ta tb : TE} {wa wb : WE} {r : R2} {o : O2}
theorem sem_op (l : Lift2 K r o) (ha : Sem K g W ta wa) (hb : Sem K g W tb wb) : Sem K g W (tOp r ta tb) (wB o wa wb) := by
  intro σ vs H ρ cs QD ED Q hS hw hX hQ
  refine ha σ vs H ρ cs _ ED _ hS hw hX fun x H1 c1 ρ1 S1 q1 => ?_
  refine hb σ (x :: vs) H1 ρ1 (c1 :: cs) _ ED _ S1 q1 hX fun y H2 c2 ρ2 S2 q2 => ?_
  exact S2.use2 l q2 fun v H' c S3 q3 => hQ v H' c ρ2 S3 q3
theorem sem_un {r : V → Hp → VK → Prop} {o : O1} (l : Lift1 K r o) (ha : Sem K g W ta wa) : Sem K g W (tUn r ta) (wU o wa) := by
  intro σ vs H ρ cs QD ED Q hS hw hX hQ
  refine ha σ vs H ρ cs _ ED _ hS hw hX fun x H1 c1 ρ1 S1 q1 => ?_
  exact S1.use1 l q1 fun v H' c S3 q3 => hQ v H' c ρ1 S3 q3
end
@[reducible] def oI (f : Int → Int → D) : O2 := fun d1 d2 k => match d1, d2 with
  | .int i, .int j => k (.v (f i j))
  | _, _ => False
@[reducible] def oIc (P : Int → Int → Prop) (f : Int → Int → D) : O2 := fun d1 d2 k => match d1, d2 with
  | .int i, .int j => P i j ∧ k (.v (f i j))
  | _, _ => False
@[simp] theorem oI_int {f : Int → Int → D} {i j : Int} {k : C → Prop} : oI f (.int i) (.int j) k = k (.v (f i j)) := rfl
@[simp] theorem oIc_int {P : Int → Int → Prop} {f : Int → Int → D} {i j : Int} {k : C → Prop} : oIc P f (.int i) (.int j) k = (P i j ∧ k (.v (f i j))) := rfl
theorem lift_I {K : PySem.W.Frag} {gv : Int → Int → V} {f : Int → Int → D} (h : ∀ i j B, Dp K B (gv i j) (f i j)) : Lift2 K (rI0 gv) (oI f) := by
  intro O H x y dx dy QD Q _ hx hy q fin
  cases hx <;> try exact q.elim
  cases hy <;> try exact q.elim
  exact ⟨_, _, rfl, rfl, fin _ H (.v _) (Same.refl H) (h _ _ _) q⟩
theorem lift_Ic {K : PySem.W.Frag} {P P' : Int → Int → Prop} {gv : Int → Int → V} {f : Int → Int → D} (hp : ∀ i j, P i j → P' i j) (h : ∀ i j B, Dp K B (gv i j) (f i j)) : Lift2 K (rI P' gv) (oIc P f) := by
  intro O H x y dx dy QD Q _ hx hy q fin
  cases hx <;> try exact q.elim
  cases hy <;> try exact q.elim
  exact ⟨_, _, rfl, rfl, hp _ _ q.1, fin _ H (.v _) (Same.refl H) (h _ _ _) q.2⟩
abbrev oAdd : O2 := oI fun i j => .int (i + j)
abbrev oSub : O2 := oI fun i j => .int (i - j)
def MulOk (i j : Int) : Prop := IntMulOk i j
abbrev oMul : O2 := oIc MulOk fun i j => .int (i * j)
abbrev oDiv : O2 := oIc CDivW fun i j => .int (i / j)
abbrev oMod : O2 := oIc (fun _ j => 0 < j) fun i j => .int (i % j)
abbrev oPow : O2 := oIc CPow fun i j => .int (i ^ j.toNat)
abbrev oLt : O2 := oI fun i j => .bool (decide (i < j))
abbrev oLe : O2 := oI fun i j => .bool (decide (i ≤ j))
abbrev oGt : O2 := oI fun i j => .bool (decide (j < i))
abbrev oGe : O2 := oI fun i j => .bool (decide (j ≤ i))
theorem op_mulX {X : Cx} : OpR X (binaryOp .Mult) (rI MulOk fun i j => .int (i * j)) := opI fun _ _ _ _ _ _ _ hc q => mul_int q hc
theorem MulOk.left {i j : Int} (h : -(2 ^ 64) < i ∧ i < 2 ^ 64) : MulOk i j := CMul.ok (.inl h)
theorem MulOk.right {i j : Int} (h : -(2 ^ 64) < j ∧ j < 2 ^ 64) : MulOk i j := CMul.ok (.inr h)
section
variable {X : Cx} {g : G} {W : WX} {a b : Expr} {wa wb : WE} {pos : Pos}
theorem ee_op {op : Operator} {r : R2} {o : O2} (ho : OpR X (binaryOp op) r) (l : Lift2 X.K r o) (ha : EE X g W a wa) (hb : EE X g W b wb) : EE X g W (.BinOp a op b pos) (wB o wa wb) := by
  obtain ⟨ta, p1, s1⟩ := ha.ex
  obtain ⟨tb, p2, s2⟩ := hb.ex
  exact ⟨_, pe_op ho p1 p2, sem_op l s1 s2⟩
theorem ee_add (ha : EE X g W a wa) (hb : EE X g W b wb) : EE X g W (.BinOp a .Add b pos) (wB oAdd wa wb) := ee_op op_add (lift_I fun i j _ => .int (i + j)) ha hb
theorem ee_sub (ha : EE X g W a wa) (hb : EE X g W b wb) : EE X g W (.BinOp a .Sub b pos) (wB oSub wa wb) := ee_op op_sub (lift_I fun i j _ => .int (i - j)) ha hb
theorem ee_mul (ha : EE X g W a wa) (hb : EE X g W b wb) : EE X g W (.BinOp a .Mult b pos) (wB oMul wa wb) := ee_op op_mulX (lift_Ic (fun _ _ h => h) fun i j _ => .int (i * j)) ha hb
theorem ee_div (ha : EE X g W a wa) (hb : EE X g W b wb) : EE X g W (.BinOp a .FloorDiv b pos) (wB oDiv wa wb) := ee_op op_fdivW (lift_Ic (fun _ _ h => h) fun i j _ => .int (i / j)) ha hb
theorem ee_mod (ha : EE X g W a wa) (hb : EE X g W b wb) : EE X g W (.BinOp a .Mod b pos) (wB oMod wa wb) := ee_op op_mod (lift_Ic (fun _ _ h => h) fun i j _ => .int (i % j)) ha hb
theorem ee_pow (ha : EE X g W a wa) (hb : EE X g W b wb) : EE X g W (.BinOp a .Pow b pos) (wB oPow wa wb) := ee_op op_pow (lift_Ic (fun _ _ h => h) fun i j _ => .int (i ^ j.toNat)) ha hb
end
/-! ### comparisons -/
@[reducible] def oEq : O2 := fun d1 d2 k => SeqAt.shaped d1 = true ∧ SeqAt.shaped d2 = true ∧ k (.v (.bool (PyData.eqv d1 d2)))
@[reducible] def oNe : O2 := fun d1 d2 k => SeqAt.shaped d1 = true ∧ SeqAt.shaped d2 = true ∧ k (.v (.bool (!PyData.eqv d1 d2)))
theorem dp_hide {K : PySem.W.Frag} {H : Hp} {O : List Addr} {v : V} {d : D} (h : Dp K (hide H O) v d) : Dp K H v d := dp_mono (fun _ _ e => (hide_some.mp e).2) _ _ h
theorem lift_eq {K : PySem.W.Frag} : Lift2 K (rEqD K) oEq := fun O H x y dx dy QD Q _ hx hy q fin =>
  ⟨dx, dy, dp_hide hx, dp_hide hy, q.1, q.2.1, fin _ H (.v _) (Same.refl H) (.bl _) q.2.2⟩
theorem lift_ne {K : PySem.W.Frag} : Lift2 K (rNeD K) oNe := fun O H x y dx dy QD Q _ hx hy q fin =>
  ⟨dx, dy, dp_hide hx, dp_hide hy, q.1, q.2.1, fin _ H (.v _) (Same.refl H) (.bl _) q.2.2⟩
@[reducible] def oIsN : O1 := fun d k => k (.v (.bool (match d with
  | .none => true
  | _ => false)))
section
variable {X : Cx} {g : G} {W : WX} {a b c : Expr} {wa wb wc : WE} {pos : Pos}
theorem ee_cmp {op : CmpOp} {r : R2} {o : O2} (ho : OpR X (compareOp op) r) (l : Lift2 X.K r o) (ha : EE X g W a wa) (hb : EE X g W b wb) (hm : behindInMarks op b = false) : EE X g W (.Compare a [op] [b] pos) (wB o wa wb) := by
  obtain ⟨ta, p1, s1⟩ := ha.ex
  obtain ⟨tb, p2, s2⟩ := hb.ex
  exact ⟨_, pe_cmpR ho p1 p2 hm, sem_op l s1 s2⟩
theorem ee_lt (ha : EE X g W a wa) (hb : EE X g W b wb) : EE X g W (.Compare a [.Lt] [b] pos) (wB oLt wa wb) := ee_cmp op_lt (lift_I fun i j _ => .bl _) ha hb (nomark _)
theorem ee_le (ha : EE X g W a wa) (hb : EE X g W b wb) : EE X g W (.Compare a [.LtE] [b] pos) (wB oLe wa wb) := ee_cmp op_le (lift_I fun i j _ => .bl _) ha hb (nomark _)
theorem ee_ge (ha : EE X g W a wa) (hb : EE X g W b wb) : EE X g W (.Compare a [.GtE] [b] pos) (wB oGe wa wb) := ee_cmp op_ge (lift_I fun i j _ => .bl _) ha hb (nomark _)
theorem ee_eq (hu : X.A.units + 64 < cLine) (ha : EE X g W a wa) (hb : EE X g W b wb) : EE X g W (.Compare a [.Eq] [b] pos) (wB oEq wa wb) := ee_cmp (op_eqD hu) lift_eq ha hb (nomark _)
theorem ee_ne (hu : X.A.units + 64 < cLine) (ha : EE X g W a wa) (hb : EE X g W b wb) : EE X g W (.Compare a [.NotEq] [b] pos) (wB oNe wa wb) := ee_cmp (op_neD hu) lift_ne ha hb (nomark _)
@[reducible] def wCh (o o' : O2) (wa wb wc : WE) : WE := fun ρ Q E => wa ρ (fun c1 ρ1 => wb ρ1 (fun c2 ρ2 => useK ρ2 [c2, c1] fun ds => match ds with
  | [d2, d1] => [c2, c1].any C.isLn = false ∧ o d1 d2 fun cr => match cr with
    | .v (.bool k) => if k = true then wc ρ2 (fun c3 ρ3 => useK ρ3 [c3] fun es => match es with
      | [d3] => [c3].any C.isLn = false ∧ o' d2 d3 fun c => Q c ρ3
      | _ => False) E else Q (.v (.bool false)) ρ2
    | _ => False
  | _ => False) E) E
end
theorem SR.frzAt {K : PySem.W.Frag} {g : G} {σ : L2.St} {vs : List V} {H : Hp} {ρ : Rho} {cs : List C} {x : V} {c : C} {d : D} (h : SR K g σ (x :: vs) H ρ (c :: cs)) (e : dat ρ c = some d) (hn : c.isLn = false) : SR K g σ (x :: vs) H ρ (.v d :: cs) := by
  obtain ⟨O, _, hd, fin⟩ := SR.use (xs := [x]) (ccs := [c]) (ds := [d]) h rfl (by unfold dats; rw [e]; rfl)
  have e0 : lentA σ ρ [c] = [] := lentA_none (by simp [hn])
  refine SR.res h.pop (Same.refl H) ?_
  cases hd with
  | cons h1 _ =>
    exact fin H x (.v d) (Same.refl H) h1 (fun z => by simp [hn] at z)
section
variable {K : PySem.W.Frag} {g : G} {W : WX} {ta tb tc : TE} {wa wb wc : WE} {r r' : R2} {o o' : O2}
theorem sem_chain (l : Lift2 K r o) (l' : Lift2 K r' o') (hr : ∀ x y H Q Q', (∀ z H', Q z H' → Q' z H') → r x y H Q → r x y H Q') (ha : Sem K g W ta wa) (hb : Sem K g W tb wb) (hc : Sem K g W tc wc) : Sem K g W (tChain r r' ta tb tc) (wCh o o' wa wb wc) := by
  intro σ vs H ρ cs QD ED Q hS hw hX hQ
  refine ha σ vs H ρ cs _ ED _ hS hw hX fun x H1 c1 ρ1 S1 q1 => ?_
  refine hb σ (x :: vs) H1 ρ1 (c1 :: cs) _ ED _ S1 q1 hX fun y H2 c2 ρ2 S2 q2 => ?_
  obtain ⟨ds, e, q⟩ := useK_dats q2
  cases e1 : dat ρ2 c1 with
  | none => simp [dats, e1] at e
  | some d1 =>
    cases e2 : dat ρ2 c2 with
    | none => simp [dats, e2] at e
    | some d2 =>
      have e' : ds = [d2, d1] := by simpa [dats, e1, e2] using e.symm
      subst e'
      obtain ⟨nl, q⟩ := q
      have n2 : c2.isLn = false ∧ c1.isLn = false := by simpa using nl
      have S3 : SR K g σ (y :: x :: vs) H2 ρ2 (.v d2 :: c1 :: cs) := S2.frzAt e2 n2.1
      have S4 : SR K g σ (x :: y :: vs) H2 ρ2 (.v d1 :: .v d2 :: cs) := SR.frzAt (SR.rot (xs := [y]) (ccs := [.v d2]) rfl S3) e1 n2.2
      have hx : Dp K (hide H2 (tot σ (y :: vs) ρ2 (.v d2 :: cs) ++ g.P0)) x d1 := S4.top
      have hy : Dp K (hide H2 (tot σ (y :: vs) ρ2 (.v d2 :: cs) ++ g.P0)) y d2 := by
        have q := S4.pop.top
        rw [foot_cons_v]; exact q
      refine l _ H2 x y d1 d2 _ _ S4.pop.domO hx hy q fun z H3 c sm nr qd => ?_
      split at qd
      · rename_i k
        cases nr
        have S5 : SR K g σ (y :: vs) H3 ρ2 (.v d2 :: cs) := S4.pop.grow sm
        refine ⟨k, rfl, ?_⟩
        cases k with
        | false =>
          rw [if_neg Bool.false_ne_true] at qd ⊢
          exact hQ _ H3 _ ρ2 (SR.resV S5.pop (Same.refl H3) (.bl false)) qd
        | true =>
          rw [if_pos rfl] at qd ⊢
          refine hc σ (y :: vs) H3 ρ2 (.v d2 :: cs) _ ED _ S5 qd hX fun w' H4 c3 ρ3 S6 q6 => ?_
          obtain ⟨es, e3, q6⟩ := useK_dats q6
          cases e4 : dat ρ3 c3 with
          | none => simp [dats, e4] at e3
          | some d3 =>
            have e5 : es = [d3] := by simpa [dats, e4] using e3.symm
            subst e5
            obtain ⟨nl3, q6⟩ := q6
            have S7 : SR K g σ (w' :: y :: vs) H4 ρ3 (.v d3 :: .v d2 :: cs) := S6.frzAt e4 (by simpa using nl3)
            have hw' : Dp K (hide H4 (tot σ vs ρ3 cs ++ g.P0)) w' d3 := by
              have q := S7.top
              rw [foot_cons_v] at q; exact q
            refine l' _ H4 y w' d2 d3 _ _ S7.pop.pop.domO S7.pop.top hw' q6 fun z H5 c sm nr qd => ?_
            exact hQ z H5 c ρ3 (SR.res S7.pop.pop sm nr) qd
      · exact qd.elim
end
section
variable {X : Cx} {g : G} {W : WX} {a b c : Expr} {wa wb wc : WE} {pos : Pos}
theorem rI0_mono {gv : Int → Int → V} : ∀ x y H Q Q', (∀ z H', Q z H' → Q' z H') → rI0 gv x y H Q → rI0 gv x y H Q' := fun x y H Q Q' h ⟨i, j, e1, e2, q⟩ => ⟨i, j, e1, e2, h _ _ q⟩
theorem ee_chain {op op' : CmpOp} {f f' : Int → Int → Bool} (ho : OpR X (compareOp op) (rI0 fun i j => .bl (f i j))) (ho' : OpR X (compareOp op') (rI0 fun i j => .bl (f' i j))) (ha : EE X g W a wa) (hb : EE X g W b wb) (hc : EE X g W c wc)
    (hm : lastMarks [op, op'] [b, c] = false := by with_unfolding_all rfl) : EE X g W (.Compare a [op, op'] [b, c] pos) (wCh (oI fun i j => .bool (f i j)) (oI fun i j => .bool (f' i j)) wa wb wc) := by
  obtain ⟨ta, p1, s1⟩ := ha.ex
  obtain ⟨tb, p2, s2⟩ := hb.ex
  obtain ⟨tc, p3, s3⟩ := hc.ex
  exact ⟨_, pe_chain ho ho' p1 p2 p3 hm, sem_chain (lift_I fun i j _ => .bl _) (lift_I fun i j _ => .bl _) rI0_mono s1 s2 s3⟩
end
/-! ### tests -/
@[reducible] def wTst (w : WE) : WT := fun ρ Q E => w ρ (fun c ρ1 => match c with
  | .v (.bool b) => Q b ρ1
  | _ => False) E
@[reducible] def wAnd (wt wu : WT) : WT := fun ρ Q E => wt ρ (fun b ρ1 => if b = true then wu ρ1 Q E else Q false ρ1) E
@[reducible] def wOr (wt wu : WT) : WT := fun ρ Q E => wt ρ (fun b ρ1 => if b = true then Q true ρ1 else wu ρ1 Q E) E
@[reducible] def wNot (wt : WT) : WT := fun ρ Q E => wt ρ (fun b ρ1 => Q (!b) ρ1) E
@[reducible] def wAndV (wa wb : WE) : WE := fun ρ Q E => wa ρ (fun c ρ1 => match c with
  | .v (.bool b) => if b = true then wb ρ1 Q E else Q (.v (.bool false)) ρ1
  | _ => False) E
@[reducible] def wOrV (wa wb : WE) : WE := fun ρ Q E => wa ρ (fun c ρ1 => match c with
  | .v (.bool b) => if b = true then Q (.v (.bool true)) ρ1 else wb ρ1 Q E
  | _ => False) E
@[reducible] def wNotV (wa : WE) : WE := fun ρ Q E => wa ρ (fun c ρ1 => match c with
  | .v (.bool b) => Q (.v (.bool (!b))) ρ1
  | _ => False) E
@[reducible] def wIte (wt : WT) (wa wb : WE) : WE := fun ρ Q E => wt ρ (fun b ρ1 => if b = true then wa ρ1 Q E else wb ρ1 Q E) E
section
variable {K : PySem.W.Frag} {g : G} {W : WX}
theorem sem_tst {t : TE} {w : WE} (h : Sem K g W t w) : SemT K g W (tTest t) (wTst w) := by
  intro σ vs H ρ cs QD ED Q hS hw hX hQ
  refine h σ vs H ρ cs _ ED _ hS hw hX fun x H1 c1 ρ1 S1 q1 => ?_
  split at q1
  · rename_i b
    have e := S1.top
    cases e
    exact ⟨b, rfl, hQ b H1 ρ1 S1.pop q1⟩
  · exact q1.elim
theorem sem_and {t u : TT} {wt wu : WT} (h : SemT K g W t wt) (h' : SemT K g W u wu) : SemT K g W (tAnd t u) (wAnd wt wu) := by
  intro σ vs H ρ cs QD ED Q hS hw hX hQ
  refine h σ vs H ρ cs _ ED _ hS hw hX fun b H1 ρ1 S1 q1 => ?_
  cases b with
  | true => exact h' σ vs H1 ρ1 cs QD ED Q S1 q1 hX hQ
  | false => exact hQ false H1 ρ1 S1 q1
theorem sem_or {t u : TT} {wt wu : WT} (h : SemT K g W t wt) (h' : SemT K g W u wu) : SemT K g W (tOr t u) (wOr wt wu) := by
  intro σ vs H ρ cs QD ED Q hS hw hX hQ
  refine h σ vs H ρ cs _ ED _ hS hw hX fun b H1 ρ1 S1 q1 => ?_
  cases b with
  | true => exact hQ true H1 ρ1 S1 q1
  | false => exact h' σ vs H1 ρ1 cs QD ED Q S1 q1 hX hQ
theorem sem_not {t : TT} {wt : WT} (h : SemT K g W t wt) : SemT K g W (tNot t) (wNot wt) := by
  intro σ vs H ρ cs QD ED Q hS hw hX hQ
  exact h σ vs H ρ cs _ ED _ hS hw hX fun b H1 ρ1 S1 q1 => hQ _ H1 ρ1 S1 q1
theorem sem_andV {ta tb : TE} {wa wb : WE} (h : Sem K g W ta wa) (h' : Sem K g W tb wb) : Sem K g W (tAndV ta tb) (wAndV wa wb) := by
  intro σ vs H ρ cs QD ED Q hS hw hX hQ
  refine h σ vs H ρ cs _ ED _ hS hw hX fun x H1 c1 ρ1 S1 q1 => ?_
  split at q1
  · rename_i b
    have e := S1.top
    cases e
    refine ⟨b, rfl, ?_⟩
    cases b with
    | true => exact h' σ vs H1 ρ1 cs QD ED Q S1.pop q1 hX hQ
    | false => exact hQ _ H1 _ ρ1 (SR.resV S1.pop (Same.refl H1) (.bl false)) q1
  · exact q1.elim
theorem sem_orV {ta tb : TE} {wa wb : WE} (h : Sem K g W ta wa) (h' : Sem K g W tb wb) : Sem K g W (tOrV ta tb) (wOrV wa wb) := by
  intro σ vs H ρ cs QD ED Q hS hw hX hQ
  refine h σ vs H ρ cs _ ED _ hS hw hX fun x H1 c1 ρ1 S1 q1 => ?_
  split at q1
  · rename_i b
    have e := S1.top
    cases e
    refine ⟨b, rfl, ?_⟩
    cases b with
    | false => exact h' σ vs H1 ρ1 cs QD ED Q S1.pop q1 hX hQ
    | true => exact hQ _ H1 _ ρ1 (SR.resV S1.pop (Same.refl H1) (.bl true)) q1
  · exact q1.elim
theorem sem_notV {ta : TE} {wa : WE} (h : Sem K g W ta wa) : Sem K g W (tNotV ta) (wNotV wa) := by
  intro σ vs H ρ cs QD ED Q hS hw hX hQ
  refine h σ vs H ρ cs _ ED _ hS hw hX fun x H1 c1 ρ1 S1 q1 => ?_
  split at q1
  · rename_i b
    have e := S1.top
    cases e
    exact ⟨b, rfl, hQ _ H1 _ ρ1 (SR.resV S1.pop (Same.refl H1) (.bl _)) q1⟩
  · exact q1.elim
theorem sem_ite {t : TT} {ta tb : TE} {wt : WT} {wa wb : WE} (h : SemT K g W t wt) (ha : Sem K g W ta wa) (hb : Sem K g W tb wb) : Sem K g W (tIf t ta tb) (wIte wt wa wb) := by
  intro σ vs H ρ cs QD ED Q hS hw hX hQ
  refine h σ vs H ρ cs _ ED _ hS hw hX fun b H1 ρ1 S1 q1 => ?_
  cases b with
  | true => exact ha σ vs H1 ρ1 cs QD ED Q S1 q1 hX hQ
  | false => exact hb σ vs H1 ρ1 cs QD ED Q S1 q1 hX hQ
end
section
variable {X : Cx} {g : G} {W : WX} {a b c : Expr} {rest : List Expr} {wa wb wc : WE} {wt wu : WT} {pos : Pos}
theorem et_val (h : EE X g W a wa) (he : ∀ whole, isTrue a X.env whole = (do let v ← whole; standAt a.pos; holding [v] (truthy v)) := by intro _; rfl) : ET X g W a (wTst wa) := by
  obtain ⟨t, p, s⟩ := h.ex
  exact ⟨_, pt_val p he, sem_tst s⟩
theorem et_cmp {op : CmpOp} {r : R2} {o : O2} (ho : OpR X (compareOp op) r) (l : Lift2 X.K r o) (ha : EE X g W a wa) (hb : EE X g W b wb) (hm : behindInMarks op b = false) : ET X g W (.Compare a [op] [b] pos) (wTst (wB o wa wb)) := by
  obtain ⟨ta, p1, s1⟩ := ha.ex
  obtain ⟨tb, p2, s2⟩ := hb.ex
  exact ⟨_, pt_cmpR ho p1 p2 hm, sem_tst (sem_op l s1 s2)⟩
theorem et_lt (ha : EE X g W a wa) (hb : EE X g W b wb) : ET X g W (.Compare a [.Lt] [b] pos) (wTst (wB oLt wa wb)) := et_cmp op_lt (lift_I fun i j _ => .bl _) ha hb (nomark _)
theorem et_gt (ha : EE X g W a wa) (hb : EE X g W b wb) : ET X g W (.Compare a [.Gt] [b] pos) (wTst (wB oGt wa wb)) := et_cmp op_gt (lift_I fun i j _ => .bl _) ha hb (nomark _)
theorem et_eq (hu : X.A.units + 64 < cLine) (ha : EE X g W a wa) (hb : EE X g W b wb) : ET X g W (.Compare a [.Eq] [b] pos) (wTst (wB oEq wa wb)) := et_cmp (op_eqD hu) lift_eq ha hb (nomark _)
theorem et_ne (hu : X.A.units + 64 < cLine) (ha : EE X g W a wa) (hb : EE X g W b wb) : ET X g W (.Compare a [.NotEq] [b] pos) (wTst (wB oNe wa wb)) := et_cmp (op_neD hu) lift_ne ha hb (nomark _)
theorem et_chain {op op' : CmpOp} {f f' : Int → Int → Bool} (ho : OpR X (compareOp op) (rI0 fun i j => .bl (f i j))) (ho' : OpR X (compareOp op') (rI0 fun i j => .bl (f' i j))) (ha : EE X g W a wa) (hb : EE X g W b wb) (hc : EE X g W c wc)
    (hm : lastMarks [op, op'] [b, c] = false := by with_unfolding_all rfl) : ET X g W (.Compare a [op, op'] [b, c] pos) (wTst (wCh (oI fun i j => .bool (f i j)) (oI fun i j => .bool (f' i j)) wa wb wc)) := by
  obtain ⟨ta, p1, s1⟩ := ha.ex
  obtain ⟨tb, p2, s2⟩ := hb.ex
  obtain ⟨tc, p3, s3⟩ := hc.ex
  exact ⟨_, pt_chain ho ho' p1 p2 p3 hm, sem_tst (sem_chain (lift_I fun i j _ => .bl _) (lift_I fun i j _ => .bl _) rI0_mono s1 s2 s3)⟩
theorem ee_isN {j pos'} (ha : EE X g W a wa) : EE X g W (.Compare a [.Is] [.Constant .none j pos'] pos) (wU oIsN wa) := by
  obtain ⟨ta, p1, s1⟩ := ha.ex
  refine ⟨_, pe_cmp (pc_isN p1), ?_⟩
  refine fun σ vs H ρ cs QD ED Q hS hw hX hQ => ?_
  refine s1 σ vs H ρ cs _ ED _ hS hw hX fun x H1 c1 ρ1 S1 q1 => ?_
  refine S1.use1 (r := fun x H Q => Q (.bl (decide (x = .non))) H) (fun O H x dx QD Q _ hx q fin => ?_) q1 fun v H' c S3 q3 => hQ v H' c ρ1 S3 q3
  refine fin _ H (.v _) (Same.refl H) ?_ q
  cases hx <;> exact .bl _
theorem ew_and1 (h : ET X g W a wt) : EW X g W (.BoolOp .And [a] pos) wt := by
  obtain ⟨t, p, s⟩ := h.ex
  exact ⟨_, pw_and1 p, s⟩
theorem ew_or1 (h : ET X g W a wt) : EW X g W (.BoolOp .Or [a] pos) wt := by
  obtain ⟨t, p, s⟩ := h.ex
  exact ⟨_, pw_or1 p, s⟩
theorem ew_and (h : ET X g W a wt) (h' : EW X g W (.BoolOp .And (b :: rest) pos) wu) : EW X g W (.BoolOp .And (a :: b :: rest) pos) (wAnd wt wu) := by
  obtain ⟨t, p, s⟩ := h.ex
  obtain ⟨t', p', s'⟩ := h'.ex
  exact ⟨_, pw_and p p', sem_and s s'⟩
theorem ew_or (h : ET X g W a wt) (h' : EW X g W (.BoolOp .Or (b :: rest) pos) wu) : EW X g W (.BoolOp .Or (a :: b :: rest) pos) (wOr wt wu) := by
  obtain ⟨t, p, s⟩ := h.ex
  obtain ⟨t', p', s'⟩ := h'.ex
  exact ⟨_, pw_or p p', sem_or s s'⟩
theorem et_w (h : EW X g W a wt) : ET X g W a wt := by
  obtain ⟨t, p, s⟩ := h.ex
  exact ⟨_, p.pt, s⟩
theorem et_not (h : ET X g W a wt) : ET X g W (.UnaryOp .Not a pos) (wNot wt) := by
  obtain ⟨t, p, s⟩ := h.ex
  exact ⟨_, pt_not p, sem_not s⟩
theorem ee_one {op} (h : EE X g W a wa) : EE X g W (.BoolOp op [a] pos) wa := by
  obtain ⟨t, p, s⟩ := h.ex
  exact ⟨_, pe_one p, s⟩
theorem ee_and (h : EE X g W a wa) (h' : EE X g W (.BoolOp .And (b :: rest) pos) wb) : EE X g W (.BoolOp .And (a :: b :: rest) pos) (wAndV wa wb) := by
  obtain ⟨t, p, s⟩ := h.ex
  obtain ⟨t', p', s'⟩ := h'.ex
  exact ⟨_, pe_and p p', sem_andV s s'⟩
theorem ee_or (h : EE X g W a wa) (h' : EE X g W (.BoolOp .Or (b :: rest) pos) wb) : EE X g W (.BoolOp .Or (a :: b :: rest) pos) (wOrV wa wb) := by
  obtain ⟨t, p, s⟩ := h.ex
  obtain ⟨t', p', s'⟩ := h'.ex
  exact ⟨_, pe_or p p', sem_orV s s'⟩
theorem ee_not (h : EE X g W a wa) : EE X g W (.UnaryOp .Not a pos) (wNotV wa) := by
  obtain ⟨t, p, s⟩ := h.ex
  exact ⟨_, pe_not p, sem_notV s⟩
theorem ee_ite (h : ET X g W c wt) (ha : EE X g W a wa) (hb : EE X g W b wb) : EE X g W (.IfExp c a b pos) (wIte wt wa wb) := by
  obtain ⟨t, p, s⟩ := h.ex
  obtain ⟨ta, p1, s1⟩ := ha.ex
  obtain ⟨tb, p2, s2⟩ := hb.ex
  exact ⟨_, pe_ifExp p p1 p2, sem_ite s s1 s2⟩
end
end DL

set_option Elab.async false
set_option linter.all false
set_option maxRecDepth 100000
set_option maxHeartbeats 4000000
/-! DL, arguments and calls; slots emptied and filled. -/
namespace DL
open PySem PySem.Spec PyProof.Rows L2

/-! ### slots -/
theorem rget_rset : ∀ {ρ : Rho} {i : Nat} {c : C}, i < ρ.length → rget (rset ρ i c) i = c
  | [], _, _, h => by simp at h
  | _ :: _, 0, _, _ => rfl
  | _ :: ρ, i + 1, c, h => rget_rset (ρ := ρ) (i := i) (by simpa using h)
theorem rset_rset : ∀ {ρ : Rho} {i : Nat} {c c' : C}, rset (rset ρ i c) i c' = rset ρ i c'
  | [], _, _, _ => rfl
  | _ :: _, 0, _, _ => rfl
  | _ :: ρ, i + 1, c, c' => by show _ :: rset (rset ρ i c) i c' = _ :: rset ρ i c'; rw [rset_rset]
theorem rset_len : ∀ {ρ : Rho} {i : Nat} {c : C}, (rset ρ i c).length = ρ.length
  | [], _, _ => rfl
  | _ :: _, 0, _ => rfl
  | _ :: ρ, i + 1, c => by show (rset ρ i c).length + 1 = ρ.length + 1; rw [rset_len]
theorem rget_lt : ∀ {ρ : Rho} {i : Nat}, rget ρ i ≠ .no → i < ρ.length
  | [], _, h => absurd rfl h
  | _ :: _, 0, _ => by simp
  | _ :: ρ, i + 1, h => by have := rget_lt (ρ := ρ) (i := i) h; simpa using this
theorem footC_no (v : Option V) : footC v .no = [] := by
  cases v with
  | none => rfl
  | some x => cases x <;> rfl
theorem footC_v (v : Option V) (d : D) : footC v (.v d) = [] := by
  cases v with
  | none => rfl
  | some x => cases x <;> rfl
theorem foot_clear : ∀ {σ : List (Option V)} {ρ : Rho} {i : Nat}, (foot σ (rset ρ i .no)).Sublist (foot σ ρ)
  | [], ρ, _ => by
    have e : ∀ r : Rho, foot [] r = [] := fun r => by cases r <;> rfl
    rw [e, e]; exact List.Sublist.slnil
  | _ :: _, [], _ => List.Sublist.refl _
  | v :: σ, c :: ρ, 0 => by
    show (footC v .no ++ foot σ ρ).Sublist (footC v c ++ foot σ ρ)
    rw [footC_no]
    exact List.sublist_append_right _ _
  | v :: σ, c :: ρ, i + 1 => by
    show (footC v c ++ foot σ (rset ρ i .no)).Sublist (footC v c ++ foot σ ρ)
    exact (foot_clear (i := i)).append_left _
theorem foot_out : ∀ {σ : List (Option V)} {ρ : Rho} {i : Nat} {a : Addr} {t : Nat} {o : OD}, σ[i]? = some (some (.ref a)) → rget ρ i = .own t o → (foot σ ρ).Perm (o.fp a ++ foot σ (rset ρ i .no))
  | [], _, _, _, _, _, h, _ => by simp at h
  | _ :: _, [], _, _, _, _, _, h => by cases h
  | v :: σ, c :: ρ, 0, a, t, o, h, h2 => by
    have e1 : v = some (.ref a) := by simpa using h
    have e2 : c = .own t o := h2
    subst e1; subst e2
    show (o.fp a ++ foot σ ρ).Perm (o.fp a ++ (footC (some (.ref a)) .no ++ foot σ ρ))
    rw [footC_no]
    exact List.Perm.refl _
  | v :: σ, c :: ρ, i + 1, a, t, o, h, h2 => by
    show (footC v c ++ foot σ ρ).Perm (o.fp a ++ (footC v c ++ foot σ (rset ρ i .no)))
    refine (List.Perm.append_left _ (foot_out (i := i) (by simpa using h) h2)).trans ?_
    exact List.perm_append_comm_assoc _ _ _
theorem foot_in : ∀ {σ : List (Option V)} {ρ : Rho} {i : Nat} {x : V} {c : C}, σ[i]? = some (some x) → i < ρ.length → rget ρ i = .no → (foot σ (rset ρ i c)).Perm (footC (some x) c ++ foot σ ρ)
  | [], _, _, _, _, h, _, _ => by simp at h
  | _ :: _, [], _, _, _, _, h, _ => by simp at h
  | v :: σ, c' :: ρ, 0, x, c, h, _, h2 => by
    have e1 : v = some x := by simpa using h
    have e2 : c' = .no := h2
    subst e1; subst e2
    show (footC (some x) c ++ foot σ ρ).Perm (footC (some x) c ++ (footC (some x) .no ++ foot σ ρ))
    rw [footC_no]
    exact List.Perm.refl _
  | v :: σ, c' :: ρ, i + 1, x, c, h, hl, h2 => by
    show (footC v c' ++ foot σ (rset ρ i c)).Perm (footC (some x) c ++ (footC v c' ++ foot σ ρ))
    refine (List.Perm.append_left _ (foot_in (i := i) (by simpa using h) (by simpa using hl) h2)).trans ?_
    exact List.perm_append_comm_assoc _ _ _
theorem foot_setNo : ∀ {σ : List (Option V)} {ρ : Rho} {i : Nat} {v : Option V}, rget ρ i = .no → foot (σ.set i v) ρ = foot σ ρ
  | [], _, _, _, _ => by simp
  | _ :: _, [], 0, _, _ => rfl
  | _ :: _, [], _ + 1, _, _ => rfl
  | v' :: σ, c :: ρ, 0, v, h => by
    have e : c = .no := h
    subst e
    show footC v .no ++ foot σ ρ = footC v' .no ++ foot σ ρ
    rw [footC_no, footC_no]
  | v' :: σ, c :: ρ, i + 1, v, h => by
    show footC v' c ++ foot (σ.set i v) ρ = footC v' c ++ foot σ ρ
    rw [foot_setNo (i := i) h]
section
variable {K : PySem.W.Frag} {g : G} {s : L2.St} {B H : Hp}
theorem RCs.rset : ∀ {σ : List (Option V)} {ρ : Rho} {i : Nat} {c : C} {ov : Option V}, RCs K g s B H σ ρ → σ[i]? = some ov → RC K g s B H ov c → RCs K g s B H σ (DL.rset ρ i c)
  | [], [], _, _, _, _, h, _ => by simp at h
  | v :: σ, c' :: ρ, 0, c, ov, h, e, q => by
    have e1 : v = ov := by simpa using e
    subst e1
    exact ⟨q, h.2⟩
  | v :: σ, c' :: ρ, i + 1, c, ov, h, e, q => ⟨h.1, RCs.rset (i := i) h.2 (by simpa using e) q⟩
  | [], _ :: _, _, _, _, h, _, _ => h.elim
  | _ :: _, [], _, _, _, h, _, _ => h.elim
theorem RCs.rsetNo : ∀ {σ : List (Option V)} {ρ : Rho} {i : Nat}, RCs K g s B H σ ρ → RCs K g s B H σ (DL.rset ρ i .no)
  | [], [], _, h => h
  | v :: σ, c' :: ρ, 0, h => ⟨trivial, h.2⟩
  | v :: σ, c' :: ρ, i + 1, h => ⟨h.1, RCs.rsetNo (i := i) h.2⟩
  | [], _ :: _, _, h => h.elim
  | _ :: _, [], _, h => h.elim
theorem RCs.setNo : ∀ {σ : List (Option V)} {ρ : Rho} {i : Nat} {v : Option V}, RCs K g s B H σ ρ → rget ρ i = .no → RCs K g s B H (σ.set i v) ρ
  | [], [], _, _, h, _ => h
  | _ :: _, c :: ρ, 0, v, h, e => by
    have e1 : c = .no := e
    subst e1
    exact ⟨trivial, h.2⟩
  | _ :: _, c' :: ρ, i + 1, v, h, e => ⟨h.1, RCs.setNo (i := i) h.2 e⟩
  | [], _ :: _, _, _, h, _ => h.elim
  | _ :: _, [], _, _, h, _ => h.elim
theorem RCs.slots {σ σ' : L2.St} : ∀ {vs : List (Option V)} {cs : List C}, (∀ j, (C.pk j ∈ cs ∨ C.ln j ∈ cs) → σ'[j]? = σ[j]?) → RCs K g σ B H vs cs → RCs K g σ' B H vs cs
  | [], [], _, h => h
  | v :: vs, c :: cs, hj, h => by
    refine ⟨?_, RCs.slots (fun j q => hj j (q.imp (List.mem_cons_of_mem _) (List.mem_cons_of_mem _))) h.2⟩
    have q := h.1
    cases c with
    | no => trivial
    | v d => exact q
    | p d => exact q
    | own t o => exact q
    | pk i =>
      obtain ⟨x, e1, e2⟩ := q
      exact ⟨x, e1, (hj i (.inl List.mem_cons_self)).trans e2⟩
    | ln i =>
      obtain ⟨x, e1, e2⟩ := q
      exact ⟨x, e1, (hj i (.inr List.mem_cons_self)).trans e2⟩
    | sub i p k => exact q
  | [], _ :: _, _, h => h.elim
  | _ :: _, [], _, h => h.elim
end
section
variable {K : PySem.W.Frag} {g : G} {σ σ' : L2.St} {vs vs' : List V} {H H' : Hp} {ρ ρ' : Rho} {cs cs' : List C} {i : Nat}
theorem SR.clear (h : SR K g σ vs H ρ cs) (i : Nat) : SR K g σ vs H (rset ρ i .no) cs := by
  have sl : (tot σ vs (rset ρ i .no) cs).Sublist (tot σ vs ρ cs) := foot_clear.append_left _
  exact h.gen (fun _ _ _ q => q) (fun _ o q => ⟨o, q⟩) (fun a ha => .inl (sl.subset ha)) (sl.nodup h.nd) (fun hB => (h.sl.mono hB fun _ _ _ q => q).rsetNo) (fun hB => h.tp.mono hB fun _ _ _ q => q) h.pk
theorem SR.setNo (h : SR K g σ vs H ρ cs) (e : rget ρ i = .no) (hj : ∀ j, (C.pk j ∈ cs ∨ C.ln j ∈ cs) → j ≠ i) (v : Option V) : SR K g (σ.set i v) vs H ρ cs := by
  have ft : tot (σ.set i v) vs ρ cs = tot σ vs ρ cs := by
    show foot (vs.map some) cs ++ foot (σ.set i v) ρ = _
    rw [foot_setNo e]
  refine h.gen (fun _ _ _ q => q) (fun _ o q => ⟨o, q⟩) (fun a ha => .inl (by rw [ft] at ha; exact ha)) (by rw [ft]; exact h.nd) (fun hB => (h.sl.mono hB fun _ _ _ q => q).setNo e) (fun hB => ?_) h.pk
  exact (h.tp.mono hB fun _ _ _ q => q).slots fun j q => List.getElem?_set_ne (hj j q).symm
@[reducible] def C.plain : C → Bool
  | .v _ => true
  | .p _ => true
  | .own _ _ => true
  | _ => false
theorem RC.plainσ {B : Hp} {ov : Option V} {c : C} (hc : c.plain = true) (h : RC K g σ B H ov c) : RC K g σ' B H ov c := by
  cases c with
  | v d => exact h
  | p d => exact h
  | own t o => exact h
  | no => cases hc
  | pk i => cases hc
  | ln i => cases hc
  | sub i p k => cases hc
theorem SR.moveIn {x : V} {c : C} (h : SR K g σ (x :: vs) H ρ (c :: cs)) (hc : c.plain = true) (e1 : σ[i]? = some (some x)) (e2 : rget ρ i = .no) : SR K g σ vs H (rset ρ i c) cs := by
  have hl : i < ρ.length := by
    rw [← h.len]; exact (List.getElem?_eq_some_iff.mp e1).1
  have pm : (tot σ vs (rset ρ i c) cs).Perm (tot σ (x :: vs) ρ (c :: cs)) := by
    rw [tot_cons]
    exact (List.Perm.append_left _ (foot_in e1 hl e2)).trans (List.perm_append_comm_assoc _ _ _)
  refine h.gen (fun _ _ _ q => q) (fun _ o q => ⟨o, q⟩) (fun a ha => .inl (pm.mem_iff.mp ha)) (pm.nodup_iff.mpr h.nd) (fun hB => ?_) (fun hB => (RCs.mono hB (fun _ _ _ q => q) h.tp).2) fun j q => h.pk j (q.imp (List.mem_cons_of_mem _) (List.mem_cons_of_mem _))
  refine (h.sl.mono hB fun _ _ _ q => q).rset e1 ?_
  exact (RCs.mono hB (fun _ _ _ q => q) h.tp).1.plainσ hc
theorem SR.assign {x : V} {c : C} (h : SR K g σ (x :: vs) H ρ (c :: cs)) (hc : c.plain = true) (hi : i < σ.length) (hj : ∀ j, (C.pk j ∈ cs ∨ C.ln j ∈ cs) → j ≠ i) : SR K g (σ.set i (some x)) vs H (rset ρ i c) cs := by
  have hl : i < ρ.length := by rw [← h.len]; exact hi
  have h1 := h.clear i
  have h2 := h1.setNo (i := i) (rget_rset hl) (fun j q => hj j ?_) (some x)
  · have h3 := h2.moveIn (i := i) hc (List.getElem?_set_self hi) (rget_rset hl)
    rw [rset_rset] at h3
    exact h3
  · have n1 : C.pk j ≠ c := fun z => by rw [← z] at hc; cases hc
    have n2 : C.ln j ≠ c := fun z => by rw [← z] at hc; cases hc
    rcases q with q | q
    · exact .inl ((List.mem_cons.mp q).resolve_left n1)
    · exact .inr ((List.mem_cons.mp q).resolve_left n2)
theorem SR.moveOut {x : V} {t : Nat} {o : OD} (h : SR K g σ (x :: vs) H ρ (.pk i :: cs)) (e : rget ρ i = .own t o) : σ[i]? = some (some x) ∧ SR K g σ (x :: vs) H (rset ρ i .no) (.own t o :: cs) := by
  obtain ⟨x', ex, e1⟩ := h.tp.1
  cases ex
  obtain ⟨a, e2, q1, q2, q3⟩ := h.own e
  rw [e1] at e2
  cases e2
  refine ⟨e1, ?_⟩
  have pm : (tot σ (.ref a :: vs) (rset ρ i .no) (.own t o :: cs)).Perm (tot σ (.ref a :: vs) ρ (.pk i :: cs)) := by
    rw [foot_cons_pk]
    rw [foot_cons_own]
    show (o.fp a ++ (foot (vs.map some) cs ++ foot σ (rset ρ i .no))).Perm (foot (vs.map some) cs ++ foot σ ρ)
    exact (List.perm_append_comm_assoc _ _ _).trans (List.Perm.append_left _ (foot_out e1 e).symm)
  refine h.gen (fun _ _ _ q => q) (fun _ o q => ⟨o, q⟩) (fun a ha => .inl (pm.mem_iff.mp ha)) (pm.nodup_iff.mpr h.nd) (fun hB => (h.sl.mono hB fun _ _ _ q => q).rsetNo) (fun hB => ?_) fun j q => h.pk j ?_
  · exact ⟨⟨a, rfl, q2.mono hB fun _ _ _ q => q, q3.1, q3.2⟩, (RCs.mono hB (fun _ _ _ q => q) h.tp).2⟩
  · simp only [List.mem_cons] at q ⊢
    rcases q with (z | z) | (z | z)
    · cases z
    · exact .inl (.inr z)
    · cases z
    · exact .inr (.inr z)
@[reducible] def frzC : C → C
  | .own _ (.lst ds) => .v (.list ds)
  | .p d => .v d
  | c => c
@[reducible] def frzs : List C → List C
  | [] => []
  | c :: cs => frzC c :: frzs cs
theorem frzs_eq : ∀ {cs : List C}, frzs cs = cs.map frzC
  | [] => rfl
  | c :: cs => by show frzC c :: frzs cs = _; rw [frzs_eq]; rfl
theorem footC_p (v : Option V) (d : D) : footC v (.p d) = [] := by
  cases v with
  | none => rfl
  | some x => cases x <;> rfl
theorem SR.unP {x : V} {d : D} (h : SR K g σ (x :: vs) H ρ (.p d :: cs)) : SR K g σ (x :: vs) H ρ (.v d :: cs) := by
  have ft : tot σ (x :: vs) ρ (.v d :: cs) = tot σ (x :: vs) ρ (.p d :: cs) := by rw [tot_cons, tot_cons, footC_v, footC_p]
  refine h.gen (fun _ _ _ q => q) (fun _ o q => ⟨o, q⟩) (fun a ha => .inl (by rw [ft] at ha; exact ha)) (by rw [ft]; exact h.nd) (fun hB => h.sl.mono hB fun _ _ _ q => q) (fun hB => ?_) fun j q => h.pk j ?_
  · obtain ⟨q1, q2⟩ := RCs.mono hB (fun _ _ _ q => q) h.tp
    obtain ⟨y, e, z1, z2⟩ := q1
    exact ⟨⟨y, e, z1⟩, q2⟩
  · simp only [List.mem_cons] at q ⊢
    rcases q with (z | z) | (z | z)
    · cases z
    · exact .inl (.inr z)
    · cases z
    · exact .inr (.inr z)
theorem SR.frzTop {x : V} {c : C} (h : SR K g σ (x :: vs) H ρ (c :: cs)) : SR K g σ (x :: vs) H ρ (frzC c :: cs) := by
  cases c with
  | own t o =>
    cases o with
    | lst ds => exact h.frzAt rfl rfl
    | dct _ => exact h
    | dtt _ => exact h
    | lck _ _ _ _ => exact h
    | prp _ _ => exact h
    | tre _ => exact h
  | no => exact h
  | v d => exact h
  | p d => exact h.unP
  | pk i => exact h
  | ln i => exact h
  | sub i p k => exact h
theorem SR.frzArgs : ∀ {xs : List V} {ccs : List C} {vs : List V} {cs : List C}, xs.length = ccs.length → SR K g σ (xs ++ vs) H ρ (ccs ++ cs) → SR K g σ (xs ++ vs) H ρ (ccs.map frzC ++ cs)
  | [], [], _, _, _, h => h
  | x :: xs, c :: ccs, vs, cs, hl, h => by
    have hl' : xs.length = ccs.length := by simpa using hl
    have h1 : SR K g σ (xs ++ x :: vs) H ρ (ccs ++ frzC c :: cs) := SR.unrot hl' (SR.frzTop h)
    have h2 := SR.frzArgs (xs := xs) (ccs := ccs) (vs := x :: vs) (cs := frzC c :: cs) hl' h1
    exact SR.rot (by simpa using hl') h2
  | [], _ :: _, _, _, h, _ => by simp at h
  | _ :: _, [], _, _, h, _ => by simp at h
end

/-! ### arguments -/
@[reducible] def wNil : WA := fun ρ Q _ => Q [] ρ
@[reducible] def wCons (we : WE) (wr : WA) : WA := fun ρ Q E => we ρ (fun c ρ1 => wr ρ1 (fun cs ρ2 => Q (c :: cs) ρ2) E) E
@[reducible] def wPk (i : Nat) : WE := fun ρ Q _ => match rget ρ i with
  | .own _ _ => Q (.pk i) ρ
  | _ => False
section
variable {X : Cx} {g : G} {W : WX} {e : Expr} {es : List Expr} {we : WE} {wr : WA} {pos : Pos}
theorem ea_nil : EA X g W [] wNil := ⟨_, pa_nil, fun σ vs H ρ cs QD ED Q hS hw hX hQ => hQ [] H [] ρ rfl hS hw⟩
theorem ea_cons (h : EE X g W e we) (hr : EA X g W es wr) (hs : starEach (e :: es) X.env = (false, eval e X.env) :: starEach es X.env := by rfl) : EA X g W (e :: es) (wCons we wr) := by
  obtain ⟨t, p, s⟩ := h.ex
  obtain ⟨u, p', s'⟩ := hr.ex
  refine ⟨_, pa_cons p p' hs, fun σ vs H ρ cs QD ED Q hS hw hX hQ => ?_⟩
  refine s σ vs H ρ cs _ ED _ hS hw hX fun x H1 c ρ1 S1 q1 => ?_
  refine s' σ (x :: vs) H1 ρ1 (c :: cs) _ ED _ S1 q1 hX fun xs H2 ccs ρ2 hl S2 q2 => ?_
  exact hQ (x :: xs) H2 (c :: ccs) ρ2 (by simp [hl]) (SR.rot hl S2) q2
theorem ee_pk {i : Nat} {x : Str} (hL : g.L i = true) (h : PE X (.Name x pos) (tVar i)) : EE X g W (.Name x pos) (wPk i) := by
  refine ⟨_, h, fun σ vs H ρ cs QD ED Q hS hw hX hQ => ?_⟩
  unfold wPk at hw
  split at hw
  · rename_i t o e
    obtain ⟨a, e1, _⟩ := hS.own e
    exact ⟨_, e1, hQ _ H _ ρ (hS.pushPk e1 hL) hw⟩
  · exact hw.elim
end

/-! ### displays, built-ins -/
@[reducible] def oTup : OL := fun ds k => ds.length ≤ 1000 ∧ k (.v (.tuple ds))
@[reducible] def oLst : OL := fun ds k => ds.length ≤ 1000 ∧ k (.own 0 (.lst ds))
theorem le1000 {n : Nat} (h : n ≤ 1000) : n ≤ sizeLine := Nat.le_of_lt (small1000 h)
theorem same_new {H : Hp} {p : Addr} {o : HO} (n : H p = none) : Same H (upd H p o) := fun b u q => by
  rw [upd_ne (ne_of_none q n)]; exact q
theorem new_tup {K : PySem.W.Frag} {O : List Addr} {H : Hp} {p : Addr} {xs : List V} {ds : List D} (n : H p = none) (hO : p ∉ O) (h : DpAll K (hide H O) xs ds) : Dp K (hide (upd H p (.tup xs)) O) (.ref p) (.tuple ds) := by
  refine .tup (.inl (.inl (hide_some.mpr ⟨hO, upd_same⟩))) (dpAll_mono (fun a o q => ?_) _ _ h)
  obtain ⟨h1, h2⟩ := hide_some.mp q
  exact hide_some.mpr ⟨h1, same_new n a o h2⟩
theorem new_lst {K : PySem.W.Frag} {O : List Addr} {H : Hp} {p : Addr} {xs : List V} {ds : List D} (n : H p = none) (h : DpAll K (hide H O) xs ds) : NewRes K O H (upd H p (.lst xs)) (.ref p) (.own 0 (.lst ds)) := by
  refine ⟨rfl, p, rfl, n, xs, upd_same, dpAll_mono (fun a o q => ?_) _ _ h⟩
  obtain ⟨h1, h2⟩ := hide_some.mp q
  refine hide_some.mpr ⟨fun z => ?_, same_new n a o h2⟩
  rcases List.mem_cons.mp z with z | z
  · rw [z, n] at h2; cases h2
  · exact h1 z
section
variable {K : PySem.W.Frag} {g : G} {W : WX} {ta : TA} {wa : WA}
@[reducible] def wL (o : OL) (wa : WA) : WE := fun ρ Q E => wa ρ (fun cs ρ1 => useL ρ1 cs o Q) E
theorem sem_L {r : List V → Hp → VK → Prop} {o : OL} (l : LiftL K r o) (ha : SemA K g W ta wa) : Sem K g W (tCB r ta) (wL o wa) := by
  intro σ vs H ρ cs QD ED Q hS hw hX hQ
  refine ha σ vs H ρ cs _ ED _ hS hw hX fun xs H1 ccs ρ1 hl S1 q1 => ?_
  exact SR.useL l hl S1 q1 fun v H' c S3 q3 => hQ v H' c ρ1 S3 q3
theorem lift_tup : LiftL K (fun xs H Q => xs.length ≤ sizeLine ∧ ∀ p, H p = none → Q (.ref p) (upd H p (.tup xs))) oTup := by
  intro O H xs ds QD Q hO hx q fin
  refine ⟨by rw [DL.DpAll.len hx]; exact le1000 q.1, fun p n => ?_⟩
  exact fin _ _ (.v _) (same_new n) (new_tup n (fun z => by obtain ⟨u, e⟩ := hO p z; rw [n] at e; cases e) hx) q.2
theorem lift_lst : LiftL K (fun xs H Q => xs.length ≤ sizeLine ∧ ∀ p, H p = none → Q (.ref p) (upd H p (.lst xs))) oLst := by
  intro O H xs ds QD Q hO hx q fin
  refine ⟨by rw [DL.DpAll.len hx]; exact le1000 q.1, fun p n => ?_⟩
  exact fin _ _ (.own 0 (.lst ds)) (same_new n) (new_lst n hx) q.2
end
section
variable {X : Cx} {g : G} {W : WX} {e : Expr} {es : List Expr} {wa : WA} {pos : Pos}
theorem ee_tup {x1} (h : EA X g W es wa) : EE X g W (.Tuple es x1 pos) (wL oTup wa) := by
  obtain ⟨t, p, s⟩ := h.ex
  exact ⟨_, pe_tup p, sem_L lift_tup s⟩
theorem ee_lst (h : EA X g W es wa) : EE X g W (.List es pos) (wL oLst wa) := by
  obtain ⟨t, p, s⟩ := h.ex
  exact ⟨_, pe_lst p, sem_L lift_lst s⟩
theorem ee_cb {x : Str} {p : Pos} {id : String} {r : List V → Hp → VK → Prop} {o : OL} (hc : CallR X (.builtin id) r) (l : LiftL X.K r o) (hg : Gl X x) (hm : X.mg x = none) (hv : bootBuiltins x = some (.builtin id)) (ha : EA X g W (e :: es) wa) (hn : x ≠ "__name__" := by decide)
    (hdb : (x == ("__debug__" : Str)) = false := by decide) (he : starEach (e :: es) X.env = (false, eval e X.env) :: starEach es X.env := by rfl) (hpl : (backTo pos (starEach es X.env)).any (·.1) = false := by rfl) : EE X g W (.Call (.Name x p) (e :: es) [] pos) (wL o wa) := by
  obtain ⟨t, q, s⟩ := ha.ex
  exact ⟨_, pe_callB hc hg hm hv q hn hdb he hpl, sem_L l s⟩
theorem ee_ct {x : Str} {p : Pos} {T : String} {r : List V → Hp → VK → Prop} {o : OL} (hc : CallR X (.type T) r) (l : LiftL X.K r o) (hg : Gl X x) (hm : X.mg x = none) (hv : bootBuiltins x = some (.type T)) (ha : EA X g W (e :: es) wa) (hn : x ≠ "__name__" := by decide)
    (hdb : (x == ("__debug__" : Str)) = false := by decide) (he : starEach (e :: es) X.env = (false, eval e X.env) :: starEach es X.env := by rfl) (hpl : (backTo pos (starEach es X.env)).any (·.1) = false := by rfl) : EE X g W (.Call (.Name x p) (e :: es) [] pos) (wL o wa) := by
  obtain ⟨t, q, s⟩ := ha.ex
  exact ⟨_, pe_callTy hc hg hm hv q hn hdb he hpl, sem_L l s⟩
end

/-! ### a def's promise over data -/
abbrev SpD := List C → (C → List C → Prop) → (XD → List C → Prop) → Prop
def tgOf (xs : List V) (t : Nat) : Addr := if t ≤ xs.length then (match xs[t - 1]? with
  | some (.ref a) => a
  | _ => 0) else t - (xs.length + 1)
theorem tgOf_adr (xs : List V) (a : Addr) : tgOf xs (xs.length + 1 + a) = a := by
  unfold tgOf
  have h : ¬ (xs.length + 1 + a ≤ xs.length) := fun z => absurd (Nat.le_trans (Nat.le_add_right (xs.length + 1) a) z) (Nat.not_succ_le_self _)
  rw [if_neg h]
  exact Nat.add_sub_cancel_left _ _
def mkG (H : Hp) (xs : List V) (as : List C) (P : List Addr) (L : Nat → Bool) : G := ⟨H, tgOf xs, foot (xs.map some) as, P, L, xs.length + 1, Nat.succ_pos _, tgOf_adr xs⟩
@[reducible] def C.ok : C → Bool
  | .v _ => true
  | .p _ => true
  | .own 0 _ => true
  | _ => false
abbrev L0 : Nat → Bool := fun _ => false
def spOf (K : PySem.W.Frag) (S : SpD) : Sp := fun vs H Q E => ∃ (as : List C) (P : List Addr) (QD : C → List C → Prop) (ED : XD → List C → Prop), SR K (mkG H vs as P L0) (vs.map some) [] H as [] ∧ S as QD ED ∧
  (∀ c rs, c.ok = true → QD c rs → ∀ v H', SR K (mkG H vs as P L0) (vs.map some) [v] H' rs [c] → Q v H') ∧
  (∀ x rs, ED x rs → ∀ cls d H', SR K (mkG H vs as P L0) (vs.map some) [] H' rs [] → XRep K (hide H' (tot (vs.map some) [] rs [] ++ P)) H' x cls d → E cls d H')
theorem SR.setL {K : PySem.W.Frag} {g g' : G} {σ : L2.St} {vs : List V} {H : Hp} {ρ : Rho} {cs : List C} (h : SR K g σ vs H ρ cs) (e1 : g'.H0 = g.H0) (e2 : g'.tg = g.tg) (e3 : g'.Oa = g.Oa) (e4 : g'.P0 = g.P0) (hp : ∀ i, (C.pk i ∈ cs ∨ C.ln i ∈ cs) → g'.L i = true) : SR K g' σ vs H ρ cs := by
  obtain ⟨H0, tg, Oa, P0, L, tn, tn0, tgA⟩ := g
  obtain ⟨H0', tg', Oa', P0', L', tn', tn0', tgA'⟩ := g'
  cases e1; cases e2; cases e3; cases e4
  refine ⟨h.fr, h.dm, h.pr, h.nw, h.nd, ?_, ?_, hp⟩
  · have q := h.sl
    revert q
    generalize hide H _ = B
    intro q
    have go : ∀ (σ0 : List (Option V)) (ρ0 : List C), RCs K ⟨H0, tg, Oa, P0, L, tn, tn0, tgA⟩ [] B H σ0 ρ0 → RCs K ⟨H0, tg, Oa, P0, L', tn', tn0', tgA'⟩ [] B H σ0 ρ0 := by
      intro σ0
      induction σ0 with
      | nil => intro ρ0 q; cases ρ0 <;> exact q
      | cons v σ0 ih =>
        intro ρ0 q
        cases ρ0 with
        | nil => exact q
        | cons c ρ0 => exact ⟨by cases c <;> exact q.1, ih ρ0 q.2⟩
    exact go _ _ q
  · have q := h.tp
    revert q
    generalize hide H _ = B
    intro q
    have go : ∀ (σ0 : List (Option V)) (ρ0 : List C), RCs K ⟨H0, tg, Oa, P0, L, tn, tn0, tgA⟩ σ B H σ0 ρ0 → RCs K ⟨H0, tg, Oa, P0, L', tn', tn0', tgA'⟩ σ B H σ0 ρ0 := by
      intro σ0
      induction σ0 with
      | nil => intro ρ0 q; cases ρ0 <;> exact q
      | cons v σ0 ih =>
        intro ρ0 q
        cases ρ0 with
        | nil => exact q
        | cons c ρ0 => exact ⟨by cases c <;> exact q.1, ih ρ0 q.2⟩
    exact go _ _ q
def argM (ρ : Rho) : Nat → List C → Option (List C)
  | _, [] => some []
  | k, .own _ o :: cs => (argM ρ (k + 1) cs).map (C.own (k + 1) o :: ·)
  | k, .p d :: cs => (argM ρ (k + 1) cs).map (C.p d :: ·)
  | k, c :: cs => match dat ρ c, argM ρ (k + 1) cs with
    | some d, some as => some (.v d :: as)
    | _, _ => none
@[reducible] def retag : C → C → C
  | .own t _, .own _ o => .own t o
  | .own _ _, _ => .no
  | c, _ => c
@[reducible] def retags : List C → List C → List C
  | c :: cs, r :: rs => retag c r :: retags cs rs
  | cs, [] => cs
  | [], _ => []
@[reducible] def C.lfo : C → Bool
  | .own _ (.lst ds) => lfree.lfreeAll ds
  | .own _ (.dct _) => false
  | .own _ (.dtt _) => false
  | .own _ (.lck _ _ _ _) => false
  | .own _ (.prp _ _) => false
  | .own _ (.tre _) => false
  | _ => true
theorem foot_argM {ρ : Rho} : ∀ {ys : List (Option V)} {qs as : List C} {k : Nat}, argM ρ k qs = some as → foot ys as = foot ys qs
  | ys, [], as, k, h => by cases h; rfl
  | [], q :: qs, as, k, _ => by cases as <;> rfl
  | y :: ys, q :: qs, as, k, h => by
    cases q with
    | own t o =>
      unfold argM at h
      cases e : argM ρ (k + 1) qs with
      | none => rw [e] at h; cases h
      | some as' =>
        rw [e] at h
        cases h
        show footC y (.own (k + 1) o) ++ foot ys as' = footC y (.own t o) ++ foot ys qs
        rw [foot_argM e]
        have e3 : footC y (.own (k + 1) o) = footC y (.own t o) := by
          cases y with
          | none => rfl
          | some x => cases x <;> rfl
        rw [e3]
    | p d =>
      unfold argM at h
      cases e : argM ρ (k + 1) qs with
      | none => rw [e] at h; cases h
      | some as' =>
        rw [e] at h
        cases h
        show footC y (.p d) ++ foot ys as' = footC y (.p d) ++ foot ys qs
        rw [foot_argM e]
    | _ =>
      unfold argM at h
      split at h
      · rename_i d as' e1 e2
        cases h
        show footC y (.v d) ++ foot ys as' = footC y _ ++ foot ys qs
        rw [foot_argM e2, footC_v]
        cases y with
        | none => rfl
        | some x => cases x <;> rfl
      · cases h
theorem foot_retags : ∀ {ys : List (Option V)} {qs rs : List C}, ys.length = qs.length → qs.length = rs.length → (foot ys (retags qs rs)).Sublist (foot ys rs)
  | [], [], [], _, _ => List.Sublist.refl _
  | y :: ys, q :: qs, r :: rs, h1, h2 => by
    have ih := foot_retags (ys := ys) (qs := qs) (rs := rs) (by simpa using h1) (by simpa using h2)
    have key : (footC y (retag q r)).Sublist (footC y r) := by
      cases q with
      | own t o =>
        cases r with
        | own t' o' =>
          show (footC y (.own t o')).Sublist (footC y (.own t' o'))
          cases y with
          | none => exact List.Sublist.refl _
          | some x => cases x <;> exact List.Sublist.refl _
        | _ =>
          show (footC y .no).Sublist _
          rw [footC_no]
          exact List.nil_sublist _
      | _ =>
        have e : ∀ c : C, (∀ t o, c ≠ .own t o) → footC y c = [] := fun c hc => by
          cases c with
          | own t o => exact absurd rfl (hc t o)
          | _ =>
            cases y with
            | none => rfl
            | some x => cases x <;> rfl
        rw [show footC y (retag _ r) = [] from e _ (fun t o z => by cases z)]
        exact List.nil_sublist _
    exact key.append ih
  | [], _ :: _, _, h, _ => by simp at h
  | _ :: _, [], _, h, _ => by simp at h
  | _, [], _ :: _, _, h => by simp at h
  | _, _ :: _, [], _, h => by simp at h
section
variable {K : PySem.W.Frag} {g : G} {σ : L2.St} {vs : List V} {H H' : Hp} {ρ : Rho} {cs : List C}
theorem dp_more {B : Hp} {A S T : List Addr} {v : V} {d : D} (hA : ∀ a ∈ A, ∃ xs, B a = some (.lst xs)) (hT : ∀ a ∈ T, a ∈ A ∨ a ∈ S) (hl : A = [] ∨ lfree d = true) (h : Dp K (hide B S) v d) : Dp K (hide B T) v d := by
  have up : ∀ R : List Addr, (∀ a ∈ T, a ∈ R) → Dp K (hide B R) v d → Dp K (hide B T) v d := fun R hR q => dp_mono (fun a o e => by
    obtain ⟨h1, h2⟩ := hide_some.mp e
    exact hide_some.mpr ⟨fun z => h1 (hR a z), h2⟩) _ _ q
  rcases hl with e | e
  · subst e
    exact up S (fun a ha => (hT a ha).resolve_left (by simp)) h
  · exact up (A ++ S) (fun a ha => List.mem_append.mpr (hT a ha)) (dp_lf hA d v e h)
theorem dpAll_more {B : Hp} {A S T : List Addr} : ∀ {ds : List D} {v : List V}, (∀ a ∈ A, ∃ xs, B a = some (.lst xs)) → (∀ a ∈ T, a ∈ A ∨ a ∈ S) → (A = [] ∨ lfree.lfreeAll ds = true) → DpAll K (hide B S) v ds → DpAll K (hide B T) v ds
  | [], _, _, _, _, h => by cases h; exact .nil
  | d :: ds, _, hA, hT, hl, h => by
    cases h with
    | cons h1 h2 =>
      refine .cons (dp_more hA hT (hl.imp id fun z => ?_) h1) (dpAll_more hA hT (hl.imp id fun z => ?_) h2)
      · have q : lfree d = true ∧ lfree.lfreeAll ds = true := by simpa [lfree.lfreeAll] using z
        exact q.1
      · have q : lfree d = true ∧ lfree.lfreeAll ds = true := by simpa [lfree.lfreeAll] using z
        exact q.2
theorem ownAt_more {B : Hp} {A S T : List Addr} {a : Addr} {o : OD} (hA : ∀ a ∈ A, ∃ xs, B a = some (.lst xs)) (hT : ∀ a ∈ T, a ∈ A ∨ a ∈ S) (hl : A = [] ∨ C.lfo (.own 0 o) = true) (h : OwnAt K (hide B S) B a o) : OwnAt K (hide B T) B a o := by
  cases o with
  | lst ds =>
    obtain ⟨xs, h1, h2⟩ := h
    exact ⟨xs, h1, dpAll_more hA hT hl h2⟩
  | dct kvs =>
    rcases hl with e | e
    · subst e
      refine h.mono (fun a o e => ?_) fun _ _ _ q => q
      obtain ⟨h1, h2⟩ := hide_some.mp e
      exact hide_some.mpr ⟨fun z => h1 ((hT a z).resolve_left (by simp)), h2⟩
    · cases e
  | lck _ ob ks kvs =>
    rcases hl with e | e
    · subst e
      refine h.mono (fun a o e => ?_) fun _ _ _ q => q
      obtain ⟨h1, h2⟩ := hide_some.mp e
      exact hide_some.mpr ⟨fun z => h1 ((hT a z).resolve_left (by simp)), h2⟩
    · cases e
  | prp _ _ =>
    rcases hl with e | e
    · subst e
      refine h.mono (fun a o e => ?_) fun _ _ _ q => q
      obtain ⟨h1, h2⟩ := hide_some.mp e
      exact hide_some.mpr ⟨fun z => h1 ((hT a z).resolve_left (by simp)), h2⟩
    · cases e
  | dtt kvs =>
    rcases hl with e | e
    · subst e
      refine h.mono (fun a o e => ?_) fun _ _ _ q => q
      obtain ⟨h1, h2⟩ := hide_some.mp e
      exact hide_some.mpr ⟨fun z => h1 ((hT a z).resolve_left (by simp)), h2⟩
    · cases e
  | tre l =>
    rcases hl with e | e
    · subst e
      refine h.mono (fun a o e => ?_) fun _ _ _ q => q
      obtain ⟨h1, h2⟩ := hide_some.mp e
      exact hide_some.mpr ⟨fun z => h1 ((hT a z).resolve_left (by simp)), h2⟩
    · cases e
theorem plain_more {B : Hp} {A S T : List Addr} {v : V} (hA : ∀ a ∈ A, ∃ xs, B a = some (.lst xs)) (hT : ∀ a ∈ T, a ∈ A ∨ a ∈ S) (h : PlainT (hide B S) v) : PlainT (hide B T) v := by
  obtain ⟨a, o, xs, e1, e2, e3⟩ := h
  obtain ⟨q1, q2⟩ := hide_some.mp e2
  refine ⟨a, o, xs, e1, hide_some.mpr ⟨fun z => ?_, q2⟩, e3⟩
  rcases hT a z with w | w
  · obtain ⟨ys, w⟩ := hA a w
    rw [q2] at w; cases w
  · exact q1 w
theorem SR.callM {xs : List V} {ccs as : List C} (h : SR K g σ (xs ++ vs) H ρ (ccs ++ cs)) (hl : xs.length = ccs.length) (ha : argM ρ 0 ccs = some as) :
    ∃ P, SR K (mkG H xs as P L0) (xs.map some) [] H as [] ∧
      (∀ v H' c rs, c.ok = true → SR K (mkG H xs as P L0) (xs.map some) [v] H' rs [c] → (ccs.any C.isLn = true → c.lf = true ∧ ∀ r ∈ retags ccs rs, r.lfo = true) → SR K g σ (v :: (xs ++ vs)) H' ρ (c :: (retags ccs rs ++ cs))) ∧
      (∀ H' rs, SR K (mkG H xs as P L0) (xs.map some) [] H' rs [] → (ccs.any C.isLn = true → ∀ r ∈ retags ccs rs, r.lfo = true) → SR K g σ (xs ++ vs) H' ρ (retags ccs rs ++ cs) ∧ (ccs.any C.isLn = false →
        Same (hide H' (tot (xs.map some) [] rs [] ++ P)) (hide H' (tot σ (xs ++ vs) ρ (retags ccs rs ++ cs) ++ g.P0)))) := by
  have fa : foot (xs.map some) as = foot (xs.map some) ccs := foot_argM ha
  have nd := h.nd
  rw [tot_app hl] at nd
  obtain ⟨nd1, nd2, nd3⟩ := List.nodup_append.mp nd
  have tp := h.tp
  rw [List.map_append] at tp
  obtain ⟨tp1, tp2⟩ := RCs.split (by simpa using hl) tp
  have base : SR K g σ vs H ρ cs := h.pops hl
  have hdj : ∀ a ∈ foot (xs.map some) ccs, a ∉ tot σ vs ρ cs ++ g.P0 := fun a h1 h2 => by
    rcases List.mem_append.mp h2 with z | z
    · exact nd3 a h1 a z rfl
    · exact h.pout a (by rw [tot_app hl]; exact List.mem_append_left _ h1) z
  have hsub : ∀ a ∈ lentA σ ρ ccs, a ∈ foot σ ρ := fun a q => by
    obtain ⟨i, t, zs, h1, h2, h3⟩ := lentA_mem q
    obtain ⟨b, e4, q5, _⟩ := h.own h3
    rw [h2] at e4
    cases e4
    exact q5
  have hlst : ∀ a ∈ lentA σ ρ ccs, ∃ xs, H a = some (.lst xs) := fun a q => by
    obtain ⟨i, t, zs, h1, h2, h3⟩ := lentA_mem q
    obtain ⟨b, e4, _, ⟨us, q2, _⟩, _⟩ := h.own h3
    rw [h2] at e4
    cases e4
    exact ⟨us, q2⟩
  refine ⟨(tot σ vs ρ cs ++ g.P0).filter fun a => decide (a ∉ lentA σ ρ ccs), ?_, ?_⟩
  · -- the callee's entry
    refine ⟨fun a o e _ => e, fun a o e => ⟨o, e⟩, fun a q => ?_, fun a q => .inl q, ?_, ?_, trivial, fun i q => by simp at q⟩
    · have q1 := (List.mem_filter.mp q).1
      refine ⟨fun z => ?_, base.domO a q1⟩
      have z' : a ∈ foot (xs.map some) as := z
      rw [fa] at z'
      exact hdj a z' q1
    · show (foot ([].map some) [] ++ foot (xs.map some) as).Nodup
      rw [fa]; exact nd1
    · have up : Same (hide H (tot σ (xs ++ vs) ρ (ccs ++ cs) ++ g.P0)) (hide H (foot (xs.map some) as ++ (tot σ vs ρ cs ++ g.P0).filter fun a => decide (a ∉ lentA σ ρ ccs))) := fun a o q => by
        obtain ⟨h1, h2⟩ := hide_some.mp q
        refine hide_some.mpr ⟨fun z => h1 ?_, h2⟩
        rw [tot_app hl, fa] at *
        rcases List.mem_append.mp z with z | z
        · exact List.mem_append_left _ (List.mem_append_left _ z)
        · rcases List.mem_append.mp (List.mem_filter.mp z).1 with z | z
          · exact List.mem_append_left _ (List.mem_append_right _ z)
          · exact List.mem_append_right _ z
      have key : ∀ (ys : List V) (qs as' : List C) (k : Nat), ys.length = qs.length → (∀ j, ys[j]? = xs[k + j]?) → (∀ c ∈ qs, c ∈ ccs) → (∀ a ∈ foot (ys.map some) qs, a ∈ foot (xs.map some) ccs) → RCs K g σ (hide H (tot σ (xs ++ vs) ρ (ccs ++ cs) ++ g.P0)) H (ys.map some) qs → argM ρ k qs = some as' →
          RCs K (mkG H xs as ((tot σ vs ρ cs ++ g.P0).filter fun a => decide (a ∉ lentA σ ρ ccs)) L0) [] (hide H (foot (xs.map some) as ++ (tot σ vs ρ cs ++ g.P0).filter fun a => decide (a ∉ lentA σ ρ ccs))) H (ys.map some) as' := by
        intro ys
        induction ys with
        | nil =>
          intro qs as' k hlen _ _ _ _ ham
          cases qs with
          | nil => cases ham; trivial
          | cons _ _ => simp at hlen
        | cons y ys ih =>
          intro qs as' k hlen hix hin hft hrc ham
          cases qs with
          | nil => simp at hlen
          | cons q qs =>
            have hq := hrc.1
            have next : ∀ as'', argM ρ (k + 1) qs = some as'' → RCs K (mkG H xs as ((tot σ vs ρ cs ++ g.P0).filter fun a => decide (a ∉ lentA σ ρ ccs)) L0) [] (hide H (foot (xs.map some) as ++ (tot σ vs ρ cs ++ g.P0).filter fun a => decide (a ∉ lentA σ ρ ccs))) H (ys.map some) as'' := fun as'' e =>
              ih qs as'' (k + 1) (by simpa using hlen) (fun j => by have := hix (j + 1); rw [List.getElem?_cons_succ] at this; rw [this]; congr 1; omega) (fun c hc => hin c (List.mem_cons_of_mem _ hc)) (fun a z => hft a (by rw [List.map_cons, foot]; exact List.mem_append_right _ z)) hrc.2 e
            have datum : ∀ d, (∃ d0 as'', dat ρ q = some d0 ∧ argM ρ (k + 1) qs = some as'' ∧ as' = .v d0 :: as'' ∧ d = d0) → Dp K (hide H (foot (xs.map some) as ++ (tot σ vs ρ cs ++ g.P0).filter fun a => decide (a ∉ lentA σ ρ ccs))) y d → RCs K (mkG H xs as ((tot σ vs ρ cs ++ g.P0).filter fun a => decide (a ∉ lentA σ ρ ccs)) L0) [] (hide H (foot (xs.map some) as ++ (tot σ vs ρ cs ++ g.P0).filter fun a => decide (a ∉ lentA σ ρ ccs))) H ((y :: ys).map some) as' := by
              rintro d ⟨d0, as'', e1, e2, e3, rfl⟩ hd
              subst e3
              exact ⟨⟨y, rfl, hd⟩, next _ e2⟩
            have spl : ∀ {q}, (∀ t o, q ≠ C.own t o) → (∀ d, q ≠ C.p d) → argM ρ k (q :: qs) = some as' → ∃ d as'', dat ρ q = some d ∧ argM ρ (k + 1) qs = some as'' ∧ as' = .v d :: as'' := by
              intro q hno hnp e
              unfold argM at e
              split at e
              · rename_i z; cases z
              · rename_i t o _ z; cases z; exact absurd rfl (hno _ _)
              · rename_i d _ z; cases z; exact absurd rfl (hnp _)
              · rename_i c cs' _ z
                cases z
                split at e
                · rename_i d as'' e1 e2
                  cases e
                  exact ⟨d, as'', e1, e2, rfl⟩
                · cases e
            cases q with
            | no => obtain ⟨d, as'', e1, _⟩ := spl (fun t o z => by cases z) (fun d z => by cases z) ham; cases e1
            | pk i => obtain ⟨d, as'', e1, _⟩ := spl (fun t o z => by cases z) (fun d z => by cases z) ham; cases e1
            | sub i p k => obtain ⟨d, as'', e1, _⟩ := spl (fun t o z => by cases z) (fun d z => by cases z) ham; cases e1
            | v d' =>
              obtain ⟨d, as'', e1, e2, e3⟩ := spl (fun t o z => by cases z) (fun d z => by cases z) ham
              cases e1
              obtain ⟨x, e4, q1⟩ := hq
              cases e4
              exact datum _ ⟨_, _, rfl, e2, e3, rfl⟩ (dp_mono up _ _ q1)
            | p d' =>
              unfold argM at ham
              cases e : argM ρ (k + 1) qs with
              | none => rw [e] at ham; cases ham
              | some as'' =>
                rw [e] at ham
                cases ham
                obtain ⟨x, e4, q1, q2⟩ := hq
                exact ⟨⟨x, e4, dp_mono up _ _ q1, q2.mono up⟩, next _ e⟩
            | own t o =>
              unfold argM at ham
              cases e : argM ρ (k + 1) qs with
              | none => rw [e] at ham; cases ham
              | some as'' =>
                rw [e] at ham
                cases ham
                obtain ⟨a, e4, q1, _⟩ := hq
                cases e4
                refine ⟨⟨a, rfl, q1.mono up fun _ _ _ z => z, fun _ => ?_, fun z => by cases z⟩, next _ e⟩
                have e5 := hix 0
                rw [List.getElem?_cons_zero, Nat.add_zero] at e5
                have hk : k < xs.length := (List.getElem?_eq_some_iff.mp e5.symm).1
                show (if k + 1 ≤ xs.length then (match xs[k + 1 - 1]? with
                  | some (.ref a) => a
                  | _ => 0) else k + 1 - (xs.length + 1)) = a
                rw [if_pos (by omega), Nat.add_sub_cancel, ← e5]
            | ln i =>
              obtain ⟨d, as'', e1, e2, e3⟩ := spl (fun t o z => by cases z) (fun d z => by cases z) ham
              refine datum _ ⟨_, _, e1, e2, e3, rfl⟩ ?_
              obtain ⟨x, e4, q1⟩ := hq
              cases e4
              have hin' := hin (.ln i) List.mem_cons_self
              revert e1
              show (match rget ρ i with
                | .own _ (.lst ds) => some (PyData.list ds)
                | .v d => some d
                | .p d => some d
                | _ => none) = some d → _
              split
              · rename_i t zs eo
                intro e1
                cases e1
                obtain ⟨a, e6, q7, ⟨us, q2, q3⟩, _⟩ := h.own eo
                rw [q1] at e6
                cases e6
                refine .lst (.inl (.inl (hide_some.mpr ⟨fun z => ?_, q2⟩))) (dpAll_mono up _ _ q3)
                rcases List.mem_append.mp z with z | z
                · rw [fa] at z
                  exact hdj a z (List.mem_append_left _ (List.mem_append_right _ q7))
                · exact of_decide_eq_true (List.mem_filter.mp z).2 (mem_lentA hin' q1 eo)
              · rename_i d' eo
                intro e1
                cases e1
                obtain ⟨x', e6, q2⟩ := h.slot eo
                rw [q1] at e6
                cases e6
                exact dp_mono up _ _ q2
              · rename_i d' eo
                intro e1
                cases e1
                obtain ⟨x', e6, q2, _⟩ := h.slotP eo
                rw [q1] at e6
                cases e6
                exact dp_mono up _ _ q2
              · intro e1; cases e1
      exact key xs ccs as 0 hl (fun j => by rw [Nat.zero_add]) (fun _ q => q) (fun _ q => q) tp1 ha
  · -- behind the call
    have common : ∀ (ws : List V) (H' : Hp) (ds rs : List C), SR K (mkG H xs as ((tot σ vs ρ cs ++ g.P0).filter fun a => decide (a ∉ lentA σ ρ ccs)) L0) (xs.map some) ws H' rs ds → ws.length = ds.length →
        (∀ c ∈ ds, c.ok = true) → ds.length ≤ 1 → (ccs.any C.isLn = true → (∀ c ∈ ds, c.lf = true) ∧ ∀ r ∈ retags ccs rs, r.lfo = true) → SR K g σ (ws ++ (xs ++ vs)) H' ρ (ds ++ (retags ccs rs ++ cs)) := by
      intro ws H' ds rs S' hwl hok hd1 hlf
      have lr : ccs.length = rs.length := by
        have q := S'.sl.len
        rw [List.length_map] at q
        omega
      have fr2 := foot_retags (ys := xs.map some) (by simpa using hl) lr
      have frN : ∀ a ∈ foot (xs.map some) (retags ccs rs), a ∈ foot (xs.map some) ccs ∨ H a = none := fun a q => by
        rcases S'.nw a (List.mem_append_right _ (fr2.subset q)) with z | z
        · exact .inl (by rw [← fa]; exact z)
        · exact .inr z
      have keep : ∀ a o, a ∉ foot (xs.map some) ccs → H a = some o → H' a = some o := fun a o n e => S'.fr a o e (by show a ∉ foot (xs.map some) as; rw [fa]; exact n)
      have fresh : ∀ a ∈ foot (ws.map some) ds, a ∈ foot (xs.map some) ccs ∨ H a = none := fun a q => by
        rcases S'.nw a (List.mem_append_left _ q) with z | z
        · exact .inl (by rw [← fa]; exact z)
        · exact .inr z
      have e1 : tot σ (ws ++ (xs ++ vs)) ρ (ds ++ (retags ccs rs ++ cs)) = foot (ws.map some) ds ++ (foot (xs.map some) (retags ccs rs) ++ tot σ vs ρ cs) := by
        rw [tot_app hwl, tot_app]
        have : ∀ {a b : List C}, a.length = b.length → (retags a b).length = a.length := by
          intro a
          induction a with
          | nil => intro b _; cases b <;> rfl
          | cons x a ih => intro b hb; cases b with
            | nil => simp at hb
            | cons y b => simp [retags, ih (b := b) (by simpa using hb)]
        rw [this lr]; exact hl
      have nd' : (foot (ws.map some) ds ++ foot (xs.map some) (retags ccs rs)).Nodup := ((List.Sublist.refl _).append fr2).nodup S'.nd
      have hT : ∀ a ∈ tot σ (ws ++ (xs ++ vs)) ρ (ds ++ (retags ccs rs ++ cs)) ++ g.P0, a ∈ lentA σ ρ ccs ∨ a ∈ tot (xs.map some) ws rs ds ++ (tot σ vs ρ cs ++ g.P0).filter fun a => decide (a ∉ lentA σ ρ ccs) := fun a q => by
        rw [e1] at q
        by_cases z : a ∈ lentA σ ρ ccs
        · exact .inl z
        · right
          rcases List.mem_append.mp q with q | q
          · rcases List.mem_append.mp q with q | q
            · exact List.mem_append_left _ (List.mem_append_left _ q)
            · rcases List.mem_append.mp q with q | q
              · exact List.mem_append_left _ (List.mem_append_right _ (fr2.subset q))
              · exact List.mem_append_right _ (List.mem_filter.mpr ⟨List.mem_append_left _ q, decide_eq_true z⟩)
          · exact List.mem_append_right _ (List.mem_filter.mpr ⟨List.mem_append_right _ q, decide_eq_true z⟩)
      have hA' : ∀ a ∈ lentA σ ρ ccs, ∃ xs, H' a = some (.lst xs) := fun a q => by
        obtain ⟨us, e⟩ := hlst a q
        exact ⟨us, keep a _ (fun z => hdj a z (List.mem_append_left _ (List.mem_append_right _ (hsub a q)))) e⟩
      have hE : lentA σ ρ ccs = [] ∨ ((∀ c ∈ ds, c.lf = true) ∧ ∀ r ∈ retags ccs rs, r.lfo = true) := by
        cases hb : ccs.any C.isLn with
        | false => exact .inl (lentA_none hb)
        | true => exact .inr (hlf hb)
      refine h.gen (fun a o n e => keep a o (fun z => n (by rw [tot_app hl]; exact List.mem_append_left _ z)) e) S'.dm (fun a q => ?_) ?_ (fun hB => h.sl.mono hB fun a q u e => ?_) (fun hB => ?_) (fun i q => h.pk i ?_)
      · rw [e1] at q
        rcases List.mem_append.mp q with q | q
        · exact (fresh a q).imp (fun z => by rw [tot_app hl]; exact List.mem_append_left _ z) id
        · rcases List.mem_append.mp q with q | q
          · exact (frN a q).imp (fun z => by rw [tot_app hl]; exact List.mem_append_left _ z) id
          · exact .inl (by rw [tot_app hl]; exact List.mem_append_right _ q)
      · rw [e1]
        obtain ⟨n1, n2, n3⟩ := List.nodup_append.mp nd'
        have oldT : ∀ a ∈ tot σ vs ρ cs, ∃ u, H a = some u := fun a z => h.there a (by rw [tot_app hl]; exact List.mem_append_right _ z)
        refine List.nodup_append.mpr ⟨n1, List.nodup_append.mpr ⟨n2, nd2, fun a q b z e => ?_⟩, fun a q b z e => ?_⟩
        · subst e
          rcases frN a q with w | w
          · exact nd3 a w a z rfl
          · obtain ⟨u, e2⟩ := oldT a z
            rw [w] at e2; cases e2
        · subst e
          rcases List.mem_append.mp z with z | z
          · exact n3 a q a z rfl
          · rcases fresh a q with w | w
            · exact nd3 a w a z rfl
            · obtain ⟨u, e2⟩ := oldT a z
              rw [w] at e2; cases e2
      · exact keep a u (fun z => hdj a z (List.mem_append_left _ (List.mem_append_right _ q))) e
      · rw [List.map_append, List.map_append]
        refine RCs.app ?_ (RCs.app ?_ (tp2.mono hB fun a q u e => keep a u (fun z => hdj a z (List.mem_append_left _ (List.mem_append_left _ q))) e))
        · -- the answer
          have go : ∀ (us : List V) (es : List C), (∀ c ∈ es, c ∈ ds) → RCs K (mkG H xs as ((tot σ vs ρ cs ++ g.P0).filter fun a => decide (a ∉ lentA σ ρ ccs)) L0) (xs.map some) (hide H' (tot (xs.map some) ws rs ds ++ (tot σ vs ρ cs ++ g.P0).filter fun a => decide (a ∉ lentA σ ρ ccs))) H' (us.map some) es →
              RCs K g σ (hide H' (tot σ (ws ++ (xs ++ vs)) ρ (ds ++ (retags ccs rs ++ cs)) ++ g.P0)) H' (us.map some) es := by
            intro us
            induction us with
            | nil => intro es _ z; cases es <;> exact z
            | cons u us ih =>
              intro es hin hr
              cases es with
              | nil => exact hr
              | cons e es =>
                refine ⟨?_, ih es (fun c hc => hin c (List.mem_cons_of_mem _ hc)) hr.2⟩
                have q := hr.1
                have hm := hin e List.mem_cons_self
                have hk := hok e hm
                cases e with
                | v d =>
                  obtain ⟨x, e2, q2⟩ := q
                  exact ⟨x, e2, dp_more hA' hT (hE.imp id fun z => z.1 _ hm) q2⟩
                | p d =>
                  obtain ⟨x, e2, q2, q3⟩ := q
                  exact ⟨x, e2, dp_more hA' hT (hE.imp id fun z => z.1 _ hm) q2, plain_more hA' hT q3⟩
                | own t o =>
                  obtain ⟨a, e2, q2, _, qf⟩ := q
                  cases e2
                  have t0 : t = 0 := by cases t with
                    | zero => rfl
                    | succ t => cases hk
                  subst t0
                  refine ⟨a, rfl, ownAt_more hA' hT (hE.imp id fun z => ?_) q2, fun z => absurd rfl z, fun _ => ?_⟩
                  · have z1 := z.1 _ hm
                    cases o with
                    | lst ds => exact z1
                    | dct _ => cases z1
                    | dtt _ => cases z1
                    | lck _ _ _ _ => cases z1
                    | prp _ _ => cases z1
                    | tre _ => cases z1
                  · have e3 : H a = none := qf rfl
                    cases e4 : g.H0 a with
                    | none => rfl
                    | some o' =>
                      obtain ⟨o2, e5⟩ := h.dm a o' e4
                      rw [e3] at e5; cases e5
                | no => cases hk
                | pk i => cases hk
                | ln i => cases hk
                | sub i p k => cases hk
          exact go ws ds (fun _ q => q) S'.tp
        · -- the arguments
          have go : ∀ (us : List V) (es rs' : List C), us.length = es.length → es.length = rs'.length → (∀ r ∈ retags es rs', r ∈ retags ccs rs) → (∀ c ∈ es, c ∈ ccs) → RCs K g σ (hide H (tot σ (xs ++ vs) ρ (ccs ++ cs) ++ g.P0)) H (us.map some) es →
              RCs K (mkG H xs as ((tot σ vs ρ cs ++ g.P0).filter fun a => decide (a ∉ lentA σ ρ ccs)) L0) [] (hide H' (tot (xs.map some) ws rs ds ++ (tot σ vs ρ cs ++ g.P0).filter fun a => decide (a ∉ lentA σ ρ ccs))) H' (us.map some) rs' →
              RCs K g σ (hide H' (tot σ (ws ++ (xs ++ vs)) ρ (ds ++ (retags ccs rs ++ cs)) ++ g.P0)) H' (us.map some) (retags es rs') := by
            intro us
            induction us with
            | nil =>
              intro es rs' h1 h2 _ _ _ _
              cases es with
              | nil => cases rs' with
                | nil => trivial
                | cons _ _ => simp at h2
              | cons _ _ => simp at h1
            | cons u us ih =>
              intro es rs' h1 h2 hrs hcs hr1 hr2
              cases es with
              | nil => simp at h1
              | cons e es =>
                cases rs' with
                | nil => simp at h2
                | cons r rs' =>
                  refine ⟨?_, ih es rs' (by simpa using h1) (by simpa using h2) (fun c hc => hrs c (List.mem_cons_of_mem _ hc)) (fun c hc => hcs c (List.mem_cons_of_mem _ hc)) hr1.2 hr2.2⟩
                  have q1 := hr1.1
                  have q2 := hr2.1
                  cases e with
                  | own t o =>
                    cases r with
                    | own t' o' =>
                      obtain ⟨a, e2, _, q3, q4⟩ := q1
                      cases e2
                      obtain ⟨b, e3, q5, _, _⟩ := q2
                      cases e3
                      refine ⟨a, rfl, ownAt_more hA' hT (hE.imp id fun z => (show C.lfo (.own 0 o') = true from (show C.lfo (.own t o') = C.lfo (.own 0 o') by cases o' <;> rfl) ▸ z.2 _ (hrs (.own t o') List.mem_cons_self))) q5, q3, q4⟩
                    | _ => exact trivial
                  | v d =>
                    obtain ⟨x, e2, q3⟩ := q1
                    exact ⟨x, e2, dp_mono hB _ _ q3⟩
                  | p d =>
                    obtain ⟨x, e2, q3, q4⟩ := q1
                    exact ⟨x, e2, dp_mono hB _ _ q3, q4.mono hB⟩
                  | no => exact trivial
                  | pk i => exact q1
                  | ln i => exact q1
                  | sub i p k => exact q1
          exact go xs ccs rs hl lr (fun _ q => q) (fun _ q => q) tp1 S'.sl
      · have nok : ∀ c ∈ ds, c ≠ .pk i ∧ c ≠ .ln i := fun c hc => ⟨fun z => (by have := hok c hc; rw [z] at this; cases this), fun z => (by have := hok c hc; rw [z] at this; cases this)⟩
        have inR : ∀ {a b : List C} (x : C), (∀ t o, x ≠ .own t o) → x ≠ .no → x ∈ retags a b → x ∈ a := by
          intro a
          induction a with
          | nil => intro b x _ _ z; cases b <;> exact z
          | cons y a ih =>
            intro b x h1 h2 z
            cases b with
            | nil => exact z
            | cons r b =>
              rcases List.mem_cons.mp z with e | z
              · cases y with
                | own t o => cases r with
                  | own t' o' => exact absurd e (h1 _ _)
                  | _ => exact absurd e h2
                | _ => rw [e]; exact List.mem_cons_self
              · exact List.mem_cons_of_mem _ (ih x h1 h2 z)
        rcases q with q | q
        · rcases List.mem_append.mp q with q | q
          · exact absurd rfl (nok _ q).1
          · rcases List.mem_append.mp q with q | q
            · exact .inl (List.mem_append_left _ (inR _ (fun t o z => by cases z) (fun z => by cases z) q))
            · exact .inl (List.mem_append_right _ q)
        · rcases List.mem_append.mp q with q | q
          · exact absurd rfl (nok _ q).2
          · rcases List.mem_append.mp q with q | q
            · exact .inr (List.mem_append_left _ (inR _ (fun t o z => by cases z) (fun z => by cases z) q))
            · exact .inr (List.mem_append_right _ q)
    refine ⟨fun v H' c rs hk S' hlf => ?_, fun H' rs S' hlf => ⟨?_, fun hb => ?_⟩⟩
    · exact common [v] H' [c] rs S' rfl (fun c' hc => by rw [List.mem_singleton.mp hc]; exact hk) (Nat.le_refl _) fun z => ⟨fun c' hc => by rw [List.mem_singleton.mp hc]; exact (hlf z).1, (hlf z).2⟩
    · exact common [] H' [] rs S' rfl (fun c' hc => by simp at hc) (Nat.zero_le _) (fun z => And.intro (fun c' hc => by simp at hc) (hlf z))
    · have lr : ccs.length = rs.length := by
        have q := S'.sl.len
        rw [List.length_map] at q
        omega
      have fr2 := foot_retags (ys := xs.map some) (by simpa using hl) lr
      intro a o e
      obtain ⟨h1, h2⟩ := hide_some.mp e
      refine hide_some.mpr ⟨fun z => h1 ?_, h2⟩
      have e0 := lentA_none (σ := σ) (ρ := ρ) hb
      have lrt : xs.length = (retags ccs rs).length := by
        have : ∀ {a b : List C}, a.length = b.length → (retags a b).length = a.length := by
          intro a
          induction a with
          | nil => intro b _; cases b <;> rfl
          | cons x a ih => intro b hb; cases b with
            | nil => simp at hb
            | cons y b => simp [retags, ih (b := b) (by simpa using hb)]
        rw [this lr]; exact hl
      rw [tot_app lrt] at z
      rcases List.mem_append.mp z with z | z
      · rcases List.mem_append.mp z with z | z
        · exact List.mem_append_left _ (List.mem_append_right _ (fr2.subset z))
        · exact List.mem_append_right _ (List.mem_filter.mpr ⟨List.mem_append_left _ z, decide_eq_true (by rw [e0]; simp)⟩)
      · exact List.mem_append_right _ (List.mem_filter.mpr ⟨List.mem_append_right _ z, decide_eq_true (by rw [e0]; simp)⟩)
end
end DL

set_option Elab.async false
set_option linter.all false
set_option maxRecDepth 100000
set_option maxHeartbeats 4000000
/-! DL, calls of the program's own defs. -/
namespace DL
open PySem PySem.Spec PyProof.Rows L2
section
variable {K : PySem.W.Frag} {g : G} {σ : L2.St} {vs : List V} {H H' : Hp} {ρ : Rho} {cs : List C}
theorem SR.popAll : ∀ {vs : List V} {cs : List C}, SR K g σ vs H ρ cs → SR K g σ [] H ρ []
  | [], [], h => h
  | _ :: _, _ :: _, h => SR.popAll h.pop
  | [], _ :: _, h => (show False from h.tp).elim
  | _ :: _, [], h => (show False from h.tp).elim
theorem XRep.mono {B B' : Hp} {x : XD} {cls : Value} {d : Option Addr} (e : x.fs = [] ∨ Same B B') (h : XRep K B H x cls d) : XRep K B' H x cls d := by
  refine ⟨h.1, h.2.imp id ?_⟩
  rintro ⟨ne, a, fs, e1, e2, e3⟩
  refine ⟨ne, a, fs, e1, e2, ?_⟩
  rcases e with e | e
  · exact absurd e ne
  · exact e3.mono e
theorem same_popAll (h : SR K g σ vs H ρ cs) : Same (hide H (tot σ vs ρ cs ++ g.P0)) (hide H (tot σ [] ρ [] ++ g.P0)) := fun a o e => by
  obtain ⟨h1, h2⟩ := hide_some.mp e
  refine hide_some.mpr ⟨fun z => h1 ?_, h2⟩
  rcases List.mem_append.mp z with z | z
  · exact List.mem_append_left _ (List.mem_append_right _ (show a ∈ foot σ ρ from z))
  · exact List.mem_append_right _ z
theorem SR.unCall {v : V} {c : C} {xs : List V} {ccs : List C} (hl : xs.length = ccs.length) (h : SR K g σ (v :: (xs ++ vs)) H ρ (c :: (ccs ++ cs))) : SR K g σ (v :: vs) H ρ (c :: cs) := SR.pops hl (SR.unrot hl h)
end
@[reducible] def okX (ccs : List C) (x : XD) : Prop := ccs.any C.isLn = true → x.fs = []
@[reducible] def callK (S : SpD) (ρ : Rho) (ccs : List C) (Q : KC) (E : KX) : Prop := useK ρ ccs fun ds => S (ds.map C.v) (fun c _ => okR ccs c ∧ Q c ρ) (fun x _ => okX ccs x ∧ E x ρ)
@[reducible] def hd1 (rs : List C) (k : C → Prop) : Prop := match rs with
  | r :: _ => k r
  | [] => False
@[reducible] def callP (S : SpD) (i : Nat) (ρ : Rho) (rest : List C) (Q : KC) (E : KX) : Prop := match rget ρ i with
  | .own t o => useK (rset ρ i .no) rest fun ds => S (.own 1 o :: ds.map C.v)
      (fun c rs => hd1 rs fun r => (rest.any C.isLn = true → c.lf = true ∧ (retag (.own t o) r).lfo = true) ∧ Q c (rset ρ i (retag (.own t o) r)))
      (fun x rs => hd1 rs fun r => (rest.any C.isLn = true → x.fs = [] ∧ (retag (.own t o) r).lfo = true) ∧ E x (rset ρ i (retag (.own t o) r)))
  | _ => False
@[reducible] def callA (S : SpD) (ρ : Rho) (ccs : List C) (Q : KC) (E : KX) : Prop := match ccs with
  | .pk i :: rest => callP S i ρ rest Q E
  | ccs => callK S ρ ccs Q E
@[reducible] def wCall (S : SpD) (wa : WA) : WE := fun ρ Q E => wa ρ (fun ccs ρ1 => callA S ρ1 ccs Q E) E
theorem isLn_frz : ∀ (ccs : List C), (ccs.map frzC).any C.isLn = ccs.any C.isLn
  | [] => rfl
  | c :: ccs => by
    have e : (frzC c).isLn = c.isLn := by
      cases c with
      | own t o => cases o <;> rfl
      | _ => rfl
    simp [e, isLn_frz ccs]
theorem argM_dats {ρ : Rho} : ∀ {ccs : List C} {ds : List D} {k : Nat}, dats ρ ccs = some ds → argM ρ k (ccs.map frzC) = some (ds.map C.v) ∧ (∀ rs : List C, rs.length = ccs.length → retags (ccs.map frzC) rs = ccs.map frzC) ∧ ∀ c ∈ ccs.map frzC, c.lfo = true
  | [], ds, k, h => by
    cases h
    exact ⟨rfl, fun rs _ => by cases rs <;> rfl, fun c hc => by simp at hc⟩
  | c :: ccs, ds, k, h => by
    unfold dats at h
    split at h
    · rename_i d ds' e1 e2
      cases h
      obtain ⟨i1, i2, i3⟩ := argM_dats (ccs := ccs) (k := k + 1) e2
      have key : ∀ c' : C, (∀ t o, c' ≠ .own t o) → (∀ d, c' ≠ .p d) → dat ρ c' = some d → argM ρ k (c' :: ccs.map frzC) = some (C.v d :: ds'.map C.v) ∧ (∀ rs : List C, rs.length = ccs.length + 1 → retags (c' :: ccs.map frzC) rs = c' :: ccs.map frzC) ∧ c'.lfo = true := by
        intro c' hn hp he
        refine ⟨?_, ?_, ?_⟩
        · cases c' with
          | own t o => exact absurd rfl (hn t o)
          | p d => exact absurd rfl (hp d)
          | _ =>
            unfold argM
            rw [he, i1]
        · intro rs hr
          cases rs with
          | nil => simp at hr
          | cons r rs =>
            cases c' with
            | own t o => exact absurd rfl (hn t o)
            | _ =>
              unfold retags
              rw [i2 rs (by simpa using hr)]
        · cases c' with
          | own t o => exact absurd rfl (hn t o)
          | _ => rfl
      have fin : ∀ c' : C, frzC c = c' → (∀ t o, c' ≠ .own t o) → (∀ d, c' ≠ .p d) → dat ρ c' = some d → argM ρ k ((c :: ccs).map frzC) = some ((d :: ds').map C.v) ∧ (∀ rs : List C, rs.length = (c :: ccs).length → retags ((c :: ccs).map frzC) rs = (c :: ccs).map frzC) ∧ ∀ q ∈ (c :: ccs).map frzC, q.lfo = true := by
        intro c' e hn hp he
        obtain ⟨k1, k2, k3⟩ := key c' hn hp he
        rw [List.map_cons, List.map_cons, e]
        refine ⟨k1, fun rs hr => k2 rs (by simpa using hr), fun q hq => ?_⟩
        rcases List.mem_cons.mp hq with z | z
        · rw [z]; exact k3
        · exact i3 q z
      cases c with
      | no => cases e1
      | pk i => cases e1
      | sub i p k => cases e1
      | p d' => cases e1; exact fin _ rfl (fun t o z => by cases z) (fun d z => by cases z) rfl
      | v d' => exact fin _ rfl (fun t o z => by cases z) (fun d z => by cases z) e1
      | ln i => exact fin _ rfl (fun t o z => by cases z) (fun d z => by cases z) e1
      | own t o =>
        cases o with
        | dct _ => cases e1
        | dtt _ => cases e1
        | lck _ _ _ _ => cases e1
        | prp _ _ => cases e1
        | tre _ => cases e1
        | lst zs =>
          cases e1
          exact fin _ rfl (fun t o z => by cases z) (fun d z => by cases z) rfl
    · cases h
section
variable {K : PySem.W.Frag} {g : G} {W : WX} {σ : L2.St} {vs : List V} {H : Hp} {ρ : Rho} {cs : List C} {i : Nat}
theorem entry_len {K : PySem.W.Frag} {g : G} {xs : List V} {ws : List V} {H : Hp} {rs ds : List C} (S' : SR K g (xs.map some) ws H rs ds) : rs.length = xs.length := by
  have q := S'.sl.len
  rw [List.length_map] at q
  omega
theorem SR.callD {S : SpD} {xs : List V} {ccs : List C} {QD : KC} {ED : KX} {E : XK} {Q : VK} (hl : xs.length = ccs.length) (h : SR K g σ (xs ++ vs) H ρ (ccs ++ cs)) (q : callK S ρ ccs QD ED) (hX : XEnds K g W σ ED) (hE : ∀ cls d σ H, W cls d σ H → E cls d H)
    (hQ : ∀ v H' c, SR K g σ (v :: vs) H' ρ (c :: cs) → QD c ρ → Q v H') : spOf K S xs H Q E := by
  obtain ⟨ds, e, q⟩ := useK_dats q
  obtain ⟨e, rt, lf⟩ := argM_dats (k := 0) e
  have h' := h.frzArgs hl
  have hl' : xs.length = (ccs.map frzC).length := by simpa using hl
  obtain ⟨P, entry, ret, exc⟩ := SR.callM h' hl' e
  refine ⟨_, P, _, _, entry, q, fun c rs hk ⟨ok, qd⟩ v H' S' => ?_, fun x rs ⟨ok, ed⟩ cls d H' S' xr => ?_⟩
  · have er := rt rs (by rw [entry_len S', hl])
    have S1 := ret v H' c rs hk S' fun z => ⟨ok (by rw [isLn_frz] at z; exact z), fun r hr => lf r (by rw [er] at hr; exact hr)⟩
    rw [er] at S1
    exact hQ v H' c (SR.unCall hl' S1) qd
  · have er := rt rs (by rw [entry_len S', hl])
    obtain ⟨S1, hs⟩ := exc H' rs S' fun z r hr => lf r (by rw [er] at hr; exact hr)
    rw [er] at S1 hs
    refine hE cls d σ H' (hX x ρ cls d H' S1.popAll (XRep.mono ?_ xr) ed)
    cases hb : ccs.any C.isLn with
    | true => exact .inl (ok hb)
    | false => exact .inr ((hs (by rw [isLn_frz]; exact hb)).trans (same_popAll S1))
theorem retag_own {t : Nat} {o : OD} {r : C} : (∃ o', retag (.own t o) r = .own t o') ∨ retag (.own t o) r = .no := by
  cases r with
  | own t' o' => exact .inl ⟨o', rfl⟩
  | _ => exact .inr rfl
theorem SR.putBack {x : V} {c : C} (h : SR K g σ (x :: vs) H ρ (c :: cs)) (e1 : σ[i]? = some (some x)) (e2 : rget ρ i = .no) (hc : c.plain = true ∨ c = .no) : SR K g σ vs H (rset ρ i c) cs := by
  rcases hc with hc | hc
  · exact h.moveIn hc e1 e2
  · subst hc
    exact (h.pop).clear i
theorem SR.callP {S : SpD} {x : V} {xs : List V} {ccs : List C} {QD : KC} {ED : KX} {E : XK} {Q : VK} (hl : xs.length = ccs.length) (h : SR K g σ (x :: (xs ++ vs)) H ρ (.pk i :: (ccs ++ cs))) (q : DL.callP S i ρ ccs QD ED) (hX : XEnds K g W σ ED) (hE : ∀ cls d σ H, W cls d σ H → E cls d H)
    (hQ : ∀ v H' c ρ', SR K g σ (v :: vs) H' ρ' (c :: cs) → QD c ρ' → Q v H') : spOf K S (x :: xs) H Q E := by
  unfold DL.callP at q
  split at q
  · rename_i t o eo
    obtain ⟨ds, e, q⟩ := useK_dats q
    obtain ⟨e, rt, lf⟩ := argM_dats (k := 1) e
    have hl' : xs.length = (ccs.map frzC).length := by simpa using hl
    have h1 : SR K g σ (x :: (xs ++ vs)) H ρ (.pk i :: (ccs.map frzC ++ cs)) := SR.rot hl' (SR.frzArgs hl (SR.unrot hl h))
    obtain ⟨ex, h2⟩ := h1.moveOut eo
    have hlen : i < ρ.length := rget_lt (by rw [eo]; exact fun z => nomatch z)
    have en : rget (rset ρ i .no) i = .no := rget_rset hlen
    have ea : argM (rset ρ i .no) 0 (.own t o :: ccs.map frzC) = some (.own 1 o :: ds.map C.v) := by
      unfold argM
      rw [e]
      rfl
    obtain ⟨P, entry, ret, exc⟩ := SR.callM (xs := x :: xs) (ccs := .own t o :: ccs.map frzC) h2 (by simp [hl]) ea
    have hb0 : ∀ ccs : List C, (C.own t o :: ccs).any C.isLn = ccs.any C.isLn := fun ccs => rfl
    refine ⟨_, P, _, _, entry, q, fun c rs hk qd v H' S' => ?_, fun y rs ed cls d H' S' xr => ?_⟩
    · have el := entry_len S'
      cases rs with
      | nil => exact qd.elim
      | cons r rs =>
        obtain ⟨ok, qd⟩ := qd
        have er := rt rs (by have : rs.length = xs.length := by simpa using el
                             rw [this, hl])
        have e3 : retags (.own t o :: ccs.map frzC) (r :: rs) = retag (.own t o) r :: ccs.map frzC := by
          show retag (.own t o) r :: retags (ccs.map frzC) rs = _
          rw [er]
        have S1 := ret v H' c (r :: rs) hk S' fun z => by
          have z' := ok (by rw [hb0, isLn_frz] at z; exact z)
          refine ⟨z'.1, fun p hp => ?_⟩
          rw [e3] at hp
          rcases List.mem_cons.mp hp with w | w
          · rw [w]; exact z'.2
          · exact lf p w
        rw [e3] at S1
        have S2 : SR K g σ (x :: (v :: (xs ++ vs))) H' (rset ρ i .no) (retag (.own t o) r :: (c :: (ccs.map frzC ++ cs))) := SR.rot (xs := [v]) (ccs := [c]) rfl S1
        have S3 := S2.putBack ex en (by
          rcases retag_own (t := t) (o := o) (r := r) with ⟨o', w⟩ | w
          · rw [w]; exact .inl rfl
          · exact .inr w)
        rw [rset_rset] at S3
        exact hQ v H' c _ (SR.unCall hl' S3) qd
    · have el := entry_len S'
      cases rs with
      | nil => exact ed.elim
      | cons r rs =>
        obtain ⟨ok, ed⟩ := ed
        have er := rt rs (by have : rs.length = xs.length := by simpa using el
                             rw [this, hl])
        have e3 : retags (.own t o :: ccs.map frzC) (r :: rs) = retag (.own t o) r :: ccs.map frzC := by
          show retag (.own t o) r :: retags (ccs.map frzC) rs = _
          rw [er]
        obtain ⟨S1, hs⟩ := exc H' (r :: rs) S' fun z p hp => by
          have z' := ok (by rw [hb0, isLn_frz] at z; exact z)
          rw [e3] at hp
          rcases List.mem_cons.mp hp with w | w
          · rw [w]; exact z'.2
          · exact lf p w
        rw [e3] at S1 hs
        have S3 := SR.putBack (i := i) S1 ex en (by
          rcases retag_own (t := t) (o := o) (r := r) with ⟨o', w⟩ | w
          · rw [w]; exact .inl rfl
          · exact .inr w)
        rw [rset_rset] at S3
        refine hE cls d σ H' (hX y _ cls d H' S3.popAll (XRep.mono ?_ xr) ed)
        cases hb : ccs.any C.isLn with
        | true => exact .inl (ok hb).1
        | false =>
          refine .inr ((hs (by rw [hb0, isLn_frz]; exact hb)).trans fun a u z => ?_)
          obtain ⟨z1, z2⟩ := hide_some.mp z
          refine hide_some.mpr ⟨fun w => z1 ?_, z2⟩
          rcases List.mem_append.mp w with w | w
          · refine List.mem_append_left _ ?_
            have w' : a ∈ foot σ (rset ρ i (retag (.own t o) r)) := w
            have pm := foot_in (σ := σ) (ρ := rset ρ i .no) (c := retag (.own t o) r) ex (by rw [rset_len]; exact hlen) en
            rw [rset_rset] at pm
            have w2 := pm.mem_iff.mp w'
            show a ∈ (footC (some x) (retag (.own t o) r) ++ foot ((xs ++ vs).map some) (ccs.map frzC ++ cs)) ++ foot σ (rset ρ i .no)
            rcases List.mem_append.mp w2 with w2 | w2
            · exact List.mem_append_left _ (List.mem_append_left _ w2)
            · exact List.mem_append_right _ w2
          · exact List.mem_append_right _ w
  · exact q.elim
end
section
variable {K : PySem.W.Frag} {g : G} {W : WX} {σ : L2.St} {vs : List V} {H : Hp} {ρ : Rho} {cs : List C} {i : Nat}
end
section
variable {X : Cx} {g : G} {W : WX} {CX : CXT} {k : Nat} {f : Addr} {fd : FuncData} {ps : List Str} {S : SpD} {E : XK} {x : Str} {p pos : Pos} {e : Expr} {es : List Expr} {wa : WA}
theorem ee_call (F : FnOk X.prog X.w X.K X.mg X.base CX k f fd ps (spOf X.K S)) (hr : Room k X.A) (hg : Gl X x) (hm : X.mg x = some (.ref f)) (hk : PySem.W.keepIn X.K (.ref f) = true) (hb : Binds X.K fd ps []) (hx : Passes CX X E) (hE : ∀ cls d σ H, W cls d σ H → E cls d H)
    (ha : EA X g W (e :: es) wa) (hdb : (x == ("__debug__" : Str)) = false := by decide) (he : starEach (e :: es) X.env = (false, eval e X.env) :: starEach es X.env := by rfl) (hpl : (backTo pos (starEach es X.env)).any (·.1) = false := by rfl) :
    EE X g W (.Call (.Name x p) (e :: es) [] pos) (wCall S wa) := by
  obtain ⟨t, q, s⟩ := ha.ex
  refine ⟨_, pe_call F hr hg hm hk hb .nil hx q hdb he hpl, fun σ vs H ρ cs QD ED Q hS hw hX hQ => ?_⟩
  refine s σ vs H ρ cs _ ED _ hS hw hX fun xs H1 ccs ρ1 hl S1 q1 => ?_
  rw [List.append_nil]
  unfold callA at q1
  split at q1
  · rename_i i rest
    cases xs with
    | nil => simp at hl
    | cons x xs => exact SR.callP (by simpa using hl) S1 q1 hX hE hQ
  · exact SR.callD hl S1 q1 hX hE fun v H' c S3 q3 => hQ v H' c ρ1 S3 q3
end
end DL

set_option Elab.async false
set_option linter.all false
set_option maxRecDepth 100000
set_option maxHeartbeats 4000000
/-! DL, statements, loops, comprehensions, a def's body. -/
namespace DL
open PySem PySem.Spec PyProof.Rows L2

structure EndsD where
  nx : Rho → Prop
  rt : KC
  bk : Rho → Prop
  ct : Rho → Prop
  ex : KX
abbrev WS := EndsD → Rho → Prop
def plainAll (cs : List C) : Prop := ∀ c ∈ cs, c.plain = true
structure EndsOk (K : PySem.W.Frag) (g : G) (W : WX) (vs : List V) (cs : List C) (DD : EndsD) (D : Ends) : Prop where
  nx : ∀ σ' H' ρ', SR K g σ' vs H' ρ' cs → DD.nx ρ' → D.nx σ' H'
  bk : ∀ σ' H' ρ', SR K g σ' vs H' ρ' cs → DD.bk ρ' → D.bk σ' H'
  ct : ∀ σ' H' ρ', SR K g σ' vs H' ρ' cs → DD.ct ρ' → D.ct σ' H'
  rt : ∀ v σ' H' c ρ', SR K g σ' (v :: vs) H' ρ' (c :: cs) → DD.rt c ρ' → D.rt v H'
  ex : ∀ σ', XEnds K g W σ' DD.ex
def SemS (K : PySem.W.Frag) (g : G) (W : WX) (t : TS) (w : WS) : Prop :=
  ∀ (σ : L2.St) (vs : List V) (H : Hp) (ρ : Rho) (cs : List C) (DD : EndsD) (D : Ends), SR K g σ vs H ρ cs → plainAll cs → w DD ρ → EndsOk K g W vs cs DD D → t D σ H
structure ES (X : Cx) (g : G) (W : WX) (st : Stmt) (w : WS) : Prop where
  ex : ∃ t, PS X st t ∧ SemS X.K g W t w
structure EB (X : Cx) (g : G) (W : WX) (sts : List Stmt) (w : WS) : Prop where
  ex : ∃ t, PSs X sts t ∧ SemS X.K g W t w
theorem plainAll.nopk {cs : List C} (h : plainAll cs) {j i : Nat} : (C.pk j ∈ cs ∨ C.ln j ∈ cs) → j ≠ i := fun q => by
  rcases q with q | q <;> cases h _ q
theorem plainAll.cons {c : C} {cs : List C} (h : plainAll cs) (hc : c.plain = true) : plainAll (c :: cs) := fun q hq => by
  rcases List.mem_cons.mp hq with e | hq
  · rw [e]; exact hc
  · exact h q hq

@[reducible] def wNext : WS := fun DD ρ => DD.nx ρ
def wSeq (w u : WS) : WS := fun DD ρ => w ⟨u DD, DD.rt, DD.bk, DD.ct, DD.ex⟩ ρ
@[reducible] def wDrop (we : WE) : WS := fun DD ρ => we ρ (fun _ ρ1 => DD.nx ρ1) DD.ex
@[reducible] def wRet (we : WE) : WS := fun DD ρ => we ρ (fun c ρ1 => DD.rt c ρ1) DD.ex
@[reducible] def wRetO (i : Nat) : WS := fun DD ρ => match rget ρ i with
  | .own t o => DD.rt (.own t o) (rset ρ i .no)
  | .v d => DD.rt (.v d) ρ
  | _ => False
@[reducible] def wIf (wt : WT) (w u : WS) : WS := fun DD ρ => wt ρ (fun b ρ1 => if b = true then w DD ρ1 else u DD ρ1) DD.ex
@[reducible] def wSet (i : Nat) (we : WE) : WS := fun DD ρ => we ρ (fun c ρ1 => c.plain = true ∧ DD.nx (rset ρ1 i c)) DD.ex
@[reducible] def wSetF (i : Nat) (we : WE) : WS := fun DD ρ => we ρ (fun c ρ1 => (frzC c).plain = true ∧ DD.nx (rset ρ1 i (frzC c))) DD.ex
section
variable {K : PySem.W.Frag} {g : G} {W : WX} {t u : TS} {w w' : WS} {te : TE} {we : WE}
theorem sem_next : SemS K g W tNext wNext := fun σ vs H ρ cs DD D hS hp hw hE => hE.nx σ H ρ hS hw
theorem sem_seq (h : SemS K g W t w) (h' : SemS K g W u w') : SemS K g W (tSeq t u) (wSeq w w') := fun σ vs H ρ cs DD D hS hp hw hE =>
  h σ vs H ρ cs _ _ hS hp hw ⟨fun σ' H' ρ' S' q => h' σ' vs H' ρ' cs DD D S' hp q hE, hE.bk, hE.ct, hE.rt, hE.ex⟩
theorem sem_drop (h : Sem K g W te we) : SemS K g W (tDrop te) (wDrop we) := fun σ vs H ρ cs DD D hS hp hw hE =>
  h σ vs H ρ cs _ _ _ hS hw (hE.ex σ) fun v H' c ρ' S' q => hE.nx σ H' ρ' S'.pop q
theorem sem_ret (h : Sem K g W te we) : SemS K g W (tRet te) (wRet we) := fun σ vs H ρ cs DD D hS hp hw hE =>
  h σ vs H ρ cs _ _ _ hS hw (hE.ex σ) fun v H' c ρ' S' q => hE.rt v σ H' c ρ' S' q
theorem sem_if {tc : TT} {wt : WT} (hc : SemT K g W tc wt) (h : SemS K g W t w) (h' : SemS K g W u w') : SemS K g W (tIfS tc t u) (wIf wt w w') := fun σ vs H ρ cs DD D hS hp hw hE =>
  hc σ vs H ρ cs _ _ _ hS hw (hE.ex σ) fun b H' ρ' S' q => by
    cases b with
    | true => exact h σ vs H' ρ' cs DD D S' hp q hE
    | false => exact h' σ vs H' ρ' cs DD D S' hp q hE
theorem SR.store {σ : L2.St} {vs : List V} {H : Hp} {ρ : Rho} {cs : List C} {i : Nat} {x : V} {c : C} (h : SR K g σ (x :: vs) H ρ (c :: cs)) (hc : c.plain = true) (hj : ∀ j, (C.pk j ∈ cs ∨ C.ln j ∈ cs) → j ≠ i) : SR K g (σ.set i (some x)) vs H (rset ρ i c) cs := by
  by_cases hi : i < σ.length
  · exact h.assign hc hi hj
  · have e1 : σ.set i (some x) = σ := List.set_eq_of_length_le (by omega)
    have e2 : rset ρ i c = ρ := by
      have hl : ρ.length ≤ i := by rw [← h.len]; omega
      clear h hj e1 hi
      induction ρ generalizing i with
      | nil => rfl
      | cons q ρ ih =>
        cases i with
        | zero => simp at hl
        | succ i =>
          show q :: rset ρ i c = q :: ρ
          rw [ih (by simpa using hl)]
    rw [e1, e2]
    exact h.pop
theorem sem_set {i : Nat} (h : Sem K g W te we) : SemS K g W (tAsg te (gName i)) (wSet i we) := fun σ vs H ρ cs DD D hS hp hw hE =>
  h σ vs H ρ cs _ _ _ hS hw (hE.ex σ) fun v H' c ρ' S' q => hE.nx _ H' _ (S'.store q.1 fun j => hp.nopk) q.2
theorem sem_setF {i : Nat} (h : Sem K g W te we) : SemS K g W (tAsg te (gName i)) (wSetF i we) := fun σ vs H ρ cs DD D hS hp hw hE =>
  h σ vs H ρ cs _ _ _ hS hw (hE.ex σ) fun v H' c ρ' S' q => hE.nx _ H' _ (S'.frzTop.store q.1 fun j => hp.nopk) q.2
end
section
variable {X : Cx} {g : G} {W : WX} {st : Stmt} {rest : List Stmt} {w u : WS} {e : Expr} {we : WE} {pos : Pos}
theorem eb_nil : EB X g W [] wNext := ⟨_, pss_nil, sem_next⟩
theorem eb_cons (h : ES X g W st w) (h' : EB X g W rest u) : EB X g W (st :: rest) (wSeq w u) := by
  obtain ⟨t, p, s⟩ := h.ex
  obtain ⟨t', p', s'⟩ := h'.ex
  exact ⟨_, pss_cons p p', sem_seq s s'⟩
theorem eb_one (h : ES X g W st w) : EB X g W [st] w := by
  obtain ⟨t, p, s⟩ := h.ex
  exact ⟨_, pss_one p, s⟩
theorem es_expr (h : EE X g W e we) (hs : swapsWith e none pos.line X.env = pure false := by rfl) : ES X g W (.Expr e pos) (wDrop we) := by
  obtain ⟨t, p, s⟩ := h.ex
  exact ⟨_, ps_expr p hs, sem_drop s⟩
theorem es_ret (h : EE X g W e we) : ES X g W (.Return (some e) pos) (wRet we) := by
  obtain ⟨t, p, s⟩ := h.ex
  exact ⟨_, ps_ret p, sem_ret s⟩
theorem es_retO {i : Nat} {x : Str} {p : Pos} (hL : g.L i = true) (h : PE X (.Name x p) (tVar i)) : ES X g W (.Return (some (.Name x p)) pos) (wRetO i) := by
  refine ⟨_, ps_ret h, fun σ vs H ρ cs DD D hS hp hw hE => ?_⟩
  unfold wRetO at hw
  split at hw
  · rename_i t o eo
    obtain ⟨a, e1, _⟩ := hS.own eo
    obtain ⟨_, S2⟩ := (hS.pushPk e1 hL).moveOut eo
    exact ⟨_, e1, hE.rt _ σ H _ _ S2 hw⟩
  · rename_i d eo
    obtain ⟨x, e1, q⟩ := hS.slot eo
    exact ⟨_, e1, hE.rt _ σ H _ ρ (SR.resV hS (Same.refl H) q) hw⟩
  · exact hw.elim
theorem es_if {c : Expr} {a b : List Stmt} {wt : WT} (hc : ET X g W c wt) (h : EB X g W a w) (h' : EB X g W b u) : ES X g W (.If c a b pos) (wIf wt w u) := by
  obtain ⟨t, p, s⟩ := hc.ex
  obtain ⟨t1, p1, s1⟩ := h.ex
  obtain ⟨t2, p2, s2⟩ := h'.ex
  exact ⟨_, ps_if p p1 p2, sem_if s s1 s2⟩
theorem es_set {i : Nat} {x : Str} {pos' : Pos} (hN : X.N.Nodup) (hi : X.N[i]? = some x) (hx : Loc X.env.scope x) (h : EE X g W e we) (hs : swapsWith e (some (.Name x pos')) pos.line X.env = pure false := by rfl) (hf : X.fn x = true ∨ X.env.scope.names.lookup x = some .local := by first | exact .inl rfl | exact .inr rfl | assumption) :
    ES X g W (.Assign [.Name x pos'] e pos) (wSet i we) := by
  obtain ⟨t, p, s⟩ := h.ex
  exact ⟨_, ps_set hN hi hx p hs hf, sem_set s⟩
theorem es_setF {i : Nat} {x : Str} {pos' : Pos} (hN : X.N.Nodup) (hi : X.N[i]? = some x) (hx : Loc X.env.scope x) (h : EE X g W e we) (hs : swapsWith e (some (.Name x pos')) pos.line X.env = pure false := by rfl) (hf : X.fn x = true ∨ X.env.scope.names.lookup x = some .local := by first | exact .inl rfl | exact .inr rfl | assumption) :
    ES X g W (.Assign [.Name x pos'] e pos) (wSetF i we) := by
  obtain ⟨t, p, s⟩ := h.ex
  exact ⟨_, ps_set hN hi hx p hs hf, sem_setF s⟩
end

/-! ### targets -/
abbrev WG := D → Rho → (Rho → Prop) → Prop
abbrev WGs := List D → Rho → (Rho → Prop) → Prop
def Only (T : List Nat) (σ σ' : L2.St) : Prop := σ'.length = σ.length ∧ ∀ j, j ∉ T → σ'[j]? = σ[j]?
def SemG (K : PySem.W.Frag) (g : G) (T : List Nat) (t : TG) (w : WG) : Prop :=
  ∀ (σ : L2.St) (vs : List V) (H : Hp) (ρ : Rho) (cs : List C) (x : V) (d : D) (QD : Rho → Prop) (Q : L2.St → Hp → Prop), SR K g σ (x :: vs) H ρ (.v d :: cs) → (∀ j ∈ T, ∀ i, (C.pk i ∈ cs ∨ C.ln i ∈ cs) → i ≠ j) → w d ρ QD →
    (∀ σ' H' ρ', SR K g σ' vs H' ρ' cs → DL.Only T σ σ' → QD ρ' → Q σ' H') → t x σ H Q
def SemGs (K : PySem.W.Frag) (g : G) (T : List Nat) (t : TGs) (w : WGs) : Prop :=
  ∀ (σ : L2.St) (vs : List V) (H : Hp) (ρ : Rho) (cs : List C) (xs : List V) (ds : List D) (QD : Rho → Prop) (Q : L2.St → Hp → Prop), xs.length = ds.length → SR K g σ (xs ++ vs) H ρ (ds.map C.v ++ cs) → (∀ j ∈ T, ∀ i, (C.pk i ∈ cs ∨ C.ln i ∈ cs) → i ≠ j) → w ds ρ QD →
    (∀ σ' H' ρ', SR K g σ' vs H' ρ' cs → DL.Only T σ σ' → QD ρ' → Q σ' H') → t xs σ H Q
structure EG (X : Cx) (g : G) (tg : Expr) (T : List Nat) (w : WG) : Prop where
  ex : ∃ t, PG X tg t ∧ SemG X.K g T t w
structure EGs (X : Cx) (g : G) (tgs : List Expr) (T : List Nat) (w : WGs) : Prop where
  ex : ∃ t, PGs X tgs t ∧ SemGs X.K g T t w
@[reducible] def wgName (i : Nat) : WG := fun d ρ Q => Q (rset ρ i (.v d))
@[reducible] def wgNil : WGs := fun ds ρ Q => match ds with
  | [] => Q ρ
  | _ => False
@[reducible] def wgCons (w : WG) (u : WGs) : WGs := fun ds ρ Q => match ds with
  | d :: ds => w d ρ fun ρ1 => u ds ρ1 Q
  | [] => False
@[reducible] def wgTup (n : Nat) (u : WGs) : WG := fun d ρ Q => match d with
  | .tuple ds => ds.length = n ∧ u ds ρ Q
  | _ => False
theorem tot_vs {σ : L2.St} {ρ : Rho} : ∀ {xs : List V} {ds : List D} {vs : List V} {cs : List C}, xs.length = ds.length → tot σ (xs ++ vs) ρ (ds.map C.v ++ cs) = tot σ vs ρ cs
  | [], [], _, _, _ => rfl
  | x :: xs, d :: ds, vs, cs, h => by
    show tot σ (x :: (xs ++ vs)) ρ (.v d :: (ds.map C.v ++ cs)) = _
    rw [foot_cons_v, tot_vs (by simpa using h)]
  | [], _ :: _, _, _, h => by simp at h
  | _ :: _, [], _, _, h => by simp at h
section
variable {K : PySem.W.Frag} {g : G} {σ : L2.St} {vs : List V} {H : Hp} {ρ : Rho} {cs : List C}
theorem SR.pushAll (h : SR K g σ vs H ρ cs) : ∀ {xs : List V} {ds : List D}, DpAll K (hide H (tot σ vs ρ cs ++ g.P0)) xs ds → SR K g σ (xs ++ vs) H ρ (ds.map C.v ++ cs)
  | _, [], q => by cases q; exact h
  | _, d :: ds, q => by
    cases q with
    | cons h1 h2 =>
      have r := SR.pushAll h h2
      have e := tot_vs (σ := σ) (ρ := ρ) (vs := vs) (cs := cs) (DL.DpAll.len h2)
      have q := SR.resV (H' := H) r (Same.refl H) (by rw [e]; exact h1)
      exact q
theorem only_set {i : Nat} {x : Option V} {T : List Nat} (hi : i ∈ T) : DL.Only T σ (σ.set i x) := ⟨by simp, fun j hj => List.getElem?_set_ne (fun e => hj (by rw [← e]; exact hi))⟩
theorem Only.trans {T T' : List Nat} {σ σ1 σ2 : L2.St} (a : DL.Only T σ σ1) (b : DL.Only T' σ1 σ2) : DL.Only (T ++ T') σ σ2 := ⟨b.1.trans a.1, fun j hj => by
  have h : j ∉ T ∧ j ∉ T' := by simpa using hj
  rw [b.2 j h.2, a.2 j h.1]⟩
theorem semG_name {i : Nat} : SemG K g [i] (gName i) (wgName i) := fun σ vs H ρ cs x d QD Q hS hp hw hQ =>
  hQ _ H _ (hS.store rfl fun j q => hp i (by simp) j q) (only_set (by simp)) hw
theorem semGs_nil : SemGs K g [] gNil wgNil := fun σ vs H ρ cs xs ds QD Q hl hS hp hw hQ => by
  cases ds with
  | nil =>
    cases xs with
    | nil => exact ⟨rfl, hQ σ H ρ hS ⟨rfl, fun _ _ => rfl⟩ hw⟩
    | cons _ _ => simp at hl
  | cons _ _ => exact hw.elim
theorem semGs_cons {T T' : List Nat} {t : TG} {u : TGs} {w : WG} {w' : WGs} (h : SemG K g T t w) (h' : SemGs K g T' u w') : SemGs K g (T ++ T') (gCons t u) (wgCons w w') := fun σ vs H ρ cs xs ds QD Q hl hS hp hw hQ => by
  cases ds with
  | nil => exact hw.elim
  | cons d ds =>
    cases xs with
    | nil => simp at hl
    | cons x xs =>
      refine ⟨x, xs, rfl, ?_⟩
      refine h σ (xs ++ vs) H ρ (ds.map C.v ++ cs) x d _ _ hS (fun j hj i q => hp j (List.mem_append_left _ hj) i ?_) hw fun σ1 H1 ρ1 S1 o1 q1 => ?_
      · have nm : ∀ z : C, (∀ e, z ≠ .v e) → z ∈ ds.map C.v ++ cs → z ∈ cs := fun z hz q => by
          rcases List.mem_append.mp q with q | q
          · obtain ⟨e, _, e2⟩ := List.mem_map.mp q
            exact absurd e2.symm (hz e)
          · exact q
        exact q.imp (nm _ fun e z => by cases z) (nm _ fun e z => by cases z)
      · exact h' σ1 vs H1 ρ1 cs xs ds QD Q (by simpa using hl) S1 (fun j hj => hp j (List.mem_append_right _ hj)) q1 fun σ2 H2 ρ2 S2 o2 q2 => hQ σ2 H2 ρ2 S2 (o1.trans o2) q2
theorem semG_tup {n : Nat} {T : List Nat} {t : TGs} {w : WGs} (h : SemGs K g T t w) : SemG K g T (gTup K n t) (wgTup n w) := fun σ vs H ρ cs x d QD Q hS hp hw hQ => by
  cases d with
  | tuple ds =>
    have q := hS.top
    cases q with
    | tup hs ha =>
      rename_i a xs
      have hs' : SqT K H a xs := seqT_same (fun b o e => (hide_some.mp e).2) hs
      refine ⟨a, xs, rfl, hs', by rw [DL.DpAll.len ha]; exact hw.1, ?_⟩
      exact h σ vs H ρ cs xs ds QD Q (DL.DpAll.len ha) (hS.pop.pushAll ha) hp hw.2 hQ
  | _ => exact hw.elim
end
@[reducible] def wAsg (we : WE) (wg : WG) : WS := fun DD ρ => we ρ (fun c ρ1 => match frzC c with
  | .v d => wg d ρ1 DD.nx
  | _ => False) DD.ex
section
variable {X : Cx} {g : G} {W : WX} {e tg : Expr} {es : List Expr} {we : WE} {wg : WG} {ws : WGs} {T T' : List Nat} {pos : Pos}
theorem eg_name {i : Nat} {x : Str} (hN : X.N.Nodup) (hi : X.N[i]? = some x) (hx : Loc X.env.scope x) (hf : X.fn x = true ∨ X.env.scope.names.lookup x = some .local := by first | exact .inl rfl | exact .inr rfl | assumption) : EG X g (.Name x pos) [i] (wgName i) := ⟨_, pg_name hN hi hx hf, semG_name⟩
theorem egs_nil : EGs X g [] [] wgNil := ⟨_, pgs_nil, semGs_nil⟩
theorem egs_cons (h : EG X g e T wg) (h' : EGs X g es T' ws) (hs : (assignEach (e :: es) X.env).map (·.2) = assign e X.env :: (assignEach es X.env).map (·.2) := by rfl) : EGs X g (e :: es) (T ++ T') (wgCons wg ws) := by
  obtain ⟨t, p, s⟩ := h.ex
  obtain ⟨t', p', s'⟩ := h'.ex
  exact ⟨_, pgs_cons p p' hs, semGs_cons s s'⟩
theorem eg_tup {k : Nat} {n : Nat} (hc : X.calm = true) (h : EGs X g es T ws) (hn : (assignEach es X.env).length = n := by rfl) (hst : (assignEach es X.env).findIdx? (·.1) = none := by rfl) : EG X g (.Tuple es k pos) T (wgTup n ws) := by
  obtain ⟨t, p, s⟩ := h.ex
  exact ⟨_, pg_tup hc p hn hst, semG_tup s⟩
theorem es_asg (h : EE X g W e we) (hg : EG X g tg T wg) (hs : swapsWithSole [tg] e pos.line X.env = pure false := by rfl) (hw : swappedStores [tg] e X.env = pure none := by rfl)
    (h1 : (assignEach [tg] X.env).map (·.2) = [assign tg X.env] := by rfl) : ES X g W (.Assign [tg] e pos) (wAsg we wg) := by
  obtain ⟨t, p, s⟩ := h.ex
  obtain ⟨t', p', s'⟩ := hg.ex
  refine ⟨_, ps_asg p p' hs hw h1, fun σ vs H ρ cs DD D hS hp hw hE => ?_⟩
  refine s σ vs H ρ cs _ _ _ hS hw (hE.ex σ) fun v H' c ρ' S' q => ?_
  split at q
  · rename_i d ec
    have S2 := S'.frzTop
    rw [ec] at S2
    exact s' σ vs H' ρ' cs v d _ _ S2 (fun j _ i => hp.nopk) q fun σ2 H2 ρ2 S3 _ q2 => hE.nx σ2 H2 ρ2 S3 q2
  · exact q.elim
end

/-! ### what loops walk -/
structure Walks (K : PySem.W.Frag) (J : It) (hs : List V) (hd ds : List D) : Prop where
  go : ∀ (H : Hp) (O : List Addr) (i : Nat), (∀ a ∈ O, ∃ u, H a = some u) → DpAll K (hide H O) hs hd → i < ds.length → J.go i H
  yld : ∀ (H : Hp) (O : List Addr) (i : Nat) (y : V) (H' : Hp) (d : D), (∀ a ∈ O, ∃ u, H a = some u) → DpAll K (hide H O) hs hd → J.yld i H y H' → ds[i]? = some d → Same H H' ∧ Dp K (hide H' O) y d
  stop : ∀ (H : Hp) (O : List Addr) (i : Nat), (∀ a ∈ O, ∃ u, H a = some u) → DpAll K (hide H O) hs hd → ds.length ≤ i → J.stop i H
abbrev WI := Rho → (List D → Rho → Prop) → KX → Prop
def SemI (K : PySem.W.Frag) (g : G) (W : WX) (t : TI) (w : WI) : Prop :=
  ∀ (σ : L2.St) (vs : List V) (H : Hp) (ρ : Rho) (cs : List C) (QD : List D → Rho → Prop) (ED : KX) (R : It → Hp → Prop), SR K g σ vs H ρ cs → w ρ QD ED → XEnds K g W σ ED →
    (∀ J hs hd ds H' ρ', hs.length = hd.length → SR K g σ (hs ++ vs) H' ρ' (hd.map C.v ++ cs) → Walks K J hs hd ds → QD ds ρ' → R J H') → t σ H R
structure EI (X : Cx) (g : G) (W : WX) (tg iter : Expr) (w : WI) : Prop where
  ex : ∃ t, PI X tg iter t ∧ SemI X.K g W t w
@[reducible] def forK (wg : WG) (body : WS) : List D → EndsD → Rho → Prop
  | [], DD, ρ => DD.nx ρ
  | d :: ds, DD, ρ => wg d ρ fun ρ1 => body ⟨forK wg body ds DD, DD.rt, DD.nx, forK wg body ds DD, DD.ex⟩ ρ1
@[reducible] def wFor (wi : WI) (wg : WG) (body : WS) : WS := fun DD ρ => wi ρ (fun ds ρ1 => forK wg body ds DD ρ1) DD.ex
theorem plainAll.vs {hd : List D} {cs : List C} (h : plainAll cs) : plainAll (hd.map C.v ++ cs) := fun c hc => by
  rcases List.mem_append.mp hc with q | q
  · obtain ⟨d, _, e⟩ := List.mem_map.mp q
    exact e ▸ rfl
  · exact h c q
section
variable {K : PySem.W.Frag} {g : G} {σ : L2.St} {vs : List V} {H : Hp} {ρ : Rho} {cs : List C}
theorem SR.tops {hs : List V} {hd : List D} (hl : hs.length = hd.length) (h : SR K g σ (hs ++ vs) H ρ (hd.map C.v ++ cs)) : DpAll K (hide H (tot σ vs ρ cs ++ g.P0)) hs hd := by
  have e0 : dats ρ (hd.map C.v) = some hd := by
    clear h hl
    induction hd with
    | nil => rfl
    | cons d hd ih => show (match some d, dats ρ (hd.map C.v) with | some d, some ds => some (d :: ds) | _, _ => none) = _; rw [ih]
  have tp := h.tp
  rw [List.map_append] at tp
  have q := (RCs.split (by simpa using hl) tp).1
  rw [tot_vs hl] at q
  clear tp e0 h
  induction hs generalizing hd with
  | nil => cases hd with
    | nil => exact .nil
    | cons _ _ => simp at hl
  | cons x hs ih => cases hd with
    | nil => simp at hl
    | cons d hd =>
      obtain ⟨⟨y, e, q1⟩, q2⟩ := q
      cases e
      exact .cons q1 (ih (by simpa using hl) q2)
theorem sem_for {W : WX} {T : List Nat} {ti : TI} {tgt : TG} {tb : TS} {wi : WI} {wg : WG} {wb : WS} (hi : SemI K g W ti wi) (hg : SemG K g T tgt wg) (hb : SemS K g W tb wb) : SemS K g W (tFor ti tgt tb) (wFor wi wg wb) := by
  intro σ vs H ρ cs DD D hS hp hw hE
  refine hi σ vs H ρ cs _ _ _ hS hw (hE.ex σ) fun J hs hd ds H1 ρ1 hl S1 wk q1 => ?_
  refine ⟨fun i m σ' H' => m = ds.length - i ∧ ∃ ρ', SR K g σ' (hs ++ vs) H' ρ' (hd.map C.v ++ cs) ∧ forK wg wb (ds.drop i) DD ρ', ⟨ds.length, by simp, ρ1, S1, by simpa using q1⟩, ?_⟩
  rintro i m σ2 H2 ⟨rfl, ρ2, S2, q2⟩
  have dom := (SR.pops (by simpa using hl) S2).domO
  have dd := SR.tops hl S2
  by_cases hlt : i < ds.length
  · refine .inr ⟨wk.go H2 _ i dom dd hlt, fun σ' H' => ∃ ρ', SR K g σ' (hs ++ vs) H' ρ' (hd.map C.v ++ cs) ∧ forK wg wb (ds.drop (i + 1)) DD ρ', fun σ' H' q => ⟨ds.length - (i + 1), by omega, rfl, q⟩, fun x H3 y => ?_⟩
    have ed : ds.drop i = ds[i] :: ds.drop (i + 1) := List.drop_eq_getElem_cons hlt
    rw [ed] at q2
    obtain ⟨sm, dx⟩ := wk.yld H2 _ i x H3 ds[i] dom dd y (List.getElem?_eq_getElem hlt)
    have S3 : SR K g σ2 (x :: (hs ++ vs)) H3 ρ2 (.v ds[i] :: (hd.map C.v ++ cs)) := SR.resV S2 sm (by rw [tot_vs hl]; exact dx)
    refine hg σ2 (hs ++ vs) H3 ρ2 (hd.map C.v ++ cs) x ds[i] _ _ S3 (fun j _ k => hp.vs.nopk) q2 fun σ4 H4 ρ4 S4 _ q4 => ?_
    refine hb σ4 (hs ++ vs) H4 ρ4 (hd.map C.v ++ cs) _ _ S4 hp.vs q4 ⟨fun σ' H' ρ' S' q => ⟨ρ', S', q⟩, fun σ' H' ρ' S' q => ?_, fun σ' H' ρ' S' q => ⟨ρ', S', q⟩, fun v σ' H' c ρ' S' q => ?_, hE.ex⟩
    · exact hE.nx σ' H' ρ' (SR.pops (by simpa using hl) S') q
    · exact hE.rt v σ' H' c ρ' (SR.pops (xs := hs) (ccs := hd.map C.v) (by simpa using hl) (SR.unrot (by simpa using hl) S')) q
  · refine .inl ⟨wk.stop H2 _ i dom dd (by omega), ?_⟩
    have ed : ds.drop i = [] := List.drop_eq_nil_of_le (by omega)
    rw [ed] at q2
    exact hE.nx σ2 H2 ρ2 (SR.pops (by simpa using hl) S2) q2
end
section
variable {X : Cx} {g : G} {W : WX} {tg iter : Expr} {body : List Stmt} {wi : WI} {wg : WG} {wb : WS} {T : List Nat} {pos : Pos}
theorem es_for (hp : PassesOwn (model X.prog X.w) X.A X.env X.xe) (hc : X.calm = true) (hi : EI X g W tg iter wi) (hg : EG X g tg T wg) (hb : EB X g W body wb) (hs : ∀ x, foldedSetIterable iter X.env x = pure x := by intro _; rfl) : ES X g W (.For tg iter body [] pos) (wFor wi wg wb) := by
  obtain ⟨t, p, s⟩ := hi.ex
  obtain ⟨t1, p1, s1⟩ := hg.ex
  obtain ⟨t2, p2, s2⟩ := hb.ex
  exact ⟨_, ps_for hp hc p p1 p2 hs, sem_for s s1 s2⟩
end
end DL

set_option Elab.async false
set_option linter.all false
set_option maxRecDepth 100000
set_option maxHeartbeats 4000000
/-! DL, a def keeps its promise; what is walked; comprehensions. -/
namespace DL
open PySem PySem.Spec PyProof.Rows L2

@[reducible] def back1 : C → Option C → C
  | .own t _, some (.own t' o') => if t' = t then .own t o' else .no
  | .own _ _, _ => .no
  | a, _ => a
@[reducible] def backs : List C → Rho → List C
  | [], _ => []
  | a :: as, [] => back1 a none :: backs as []
  | a :: as, c :: ρ => back1 a (some c) :: backs as ρ
@[reducible] def startD (n : Nat) (as : List C) : Rho := as ++ List.replicate (n - as.length) .no
section
variable {K : PySem.W.Frag} {g : G}
theorem SR.leave {H H' : Hp} {us : L2.St} {as : List C} {σ' : L2.St} {v : List V} {c : List C} {ρ' : Rho} (h : SR K g us [] H as []) (hH : g.H0 = H) (hO : g.Oa = foot us as) (h' : SR K g σ' v H' ρ' c) (hok : ∀ q ∈ c, q.ok = true) : SR K g us v H' (backs as ρ') c ∧ ∀ a ∈ foot us (backs as ρ'), a ∈ foot σ' ρ' := by
  have hlen := h.len
  have f0 : ∀ (u : Option V) (a : C), (∀ t o, a ≠ .own t o) → footC u a = [] := fun u a ha => by
    cases a with
    | own t o => exact absurd rfl (ha t o)
    | _ => cases u with
      | none => rfl
      | some x => cases x <;> rfl
  have fnil : ∀ (l : List (Option V)), foot l ([] : List C) = [] := fun l => by cases l <;> rfl
  -- an own parameter that is still there stands where it stood
  have own : ∀ (k : Nat) (us0 : List (Option V)) (as0 : List C) (σ0 : List (Option V)) (ρ0 : Rho), us0.length = as0.length → RCs K g [] (hide H (tot us [] as [] ++ g.P0)) H us0 as0 → RCs K g [] (hide H' (tot σ' v ρ' c ++ g.P0)) H' σ0 ρ0 →
      (foot us0 (backs as0 ρ0)).Sublist (foot σ0 ρ0) ∧ ∀ (B : Hp), Same (hide H' (tot σ' v ρ' c ++ g.P0)) B → Same (hide H (tot us [] as [] ++ g.P0)) B → RCs K g [] B H' us0 (backs as0 ρ0) := by
    intro k us0
    induction us0 with
    | nil =>
      intro as0 σ0 ρ0 hl _ _
      cases as0 with
      | nil => refine ⟨?_, fun B _ _ => ?_⟩ <;> cases ρ0 <;> first | exact trivial | exact List.nil_sublist _
      | cons _ _ => simp at hl
    | cons u us0 ih =>
      intro as0 σ0 ρ0 hl r1 r2
      cases as0 with
      | nil => simp at hl
      | cons a as0 =>
        cases ρ0 with
        | nil =>
          obtain ⟨i1, i2⟩ := ih as0 [] [] (by simpa using hl) r1.2 trivial
          have no : (foot (u :: us0) (.no :: backs as0 [])).Sublist (foot σ0 ([] : List C)) ∧ ∀ (B : Hp), Same (hide H' (tot σ' v ρ' c ++ g.P0)) B → Same (hide H (tot us [] as [] ++ g.P0)) B → RCs K g [] B H' (u :: us0) (.no :: backs as0 []) := by
            refine ⟨?_, fun B h1 h2 => ⟨trivial, i2 B h1 h2⟩⟩
            show (footC u .no ++ foot us0 (backs as0 [])).Sublist _
            rw [footC_no, fnil]
            exact i1
          have same : (∀ t o, a ≠ .own t o) → (foot (u :: us0) (a :: backs as0 [])).Sublist (foot σ0 ([] : List C)) ∧ ∀ (B : Hp), Same (hide H' (tot σ' v ρ' c ++ g.P0)) B → Same (hide H (tot us [] as [] ++ g.P0)) B → RCs K g [] B H' (u :: us0) (a :: backs as0 []) := by
            intro ha
            refine ⟨?_, fun B h1 h2 => ⟨?_, i2 B h1 h2⟩⟩
            · show (footC u a ++ foot us0 (backs as0 [])).Sublist _
              rw [f0 u a ha, fnil]
              exact i1
            · cases a with
              | own t o => exact absurd rfl (ha t o)
              | no => trivial
              | v d => obtain ⟨x, e, q⟩ := r1.1; exact ⟨x, e, dp_mono h2 _ _ q⟩
              | p d => obtain ⟨x, e, q, q'⟩ := r1.1; exact ⟨x, e, dp_mono h2 _ _ q, q'.mono h2⟩
              | pk i => exact r1.1
              | ln i => exact r1.1
              | sub i p k => exact r1.1
          cases a with
          | own t o => exact no
          | _ => exact same fun t o z => by cases z
        | cons c0 ρ0 =>
          cases σ0 with
          | nil => exact r2.elim
          | cons s0 σ0 =>
            obtain ⟨i1, i2⟩ := ih as0 σ0 ρ0 (by simpa using hl) r1.2 r2.2
            have no : (foot (u :: us0) (.no :: backs as0 ρ0)).Sublist (foot (s0 :: σ0) (c0 :: ρ0)) ∧ ∀ (B : Hp), Same (hide H' (tot σ' v ρ' c ++ g.P0)) B → Same (hide H (tot us [] as [] ++ g.P0)) B → RCs K g [] B H' (u :: us0) (.no :: backs as0 ρ0) := by
              refine ⟨?_, fun B h1 h2 => ⟨trivial, i2 B h1 h2⟩⟩
              show (footC u .no ++ foot us0 (backs as0 ρ0)).Sublist (footC s0 c0 ++ foot σ0 ρ0)
              rw [footC_no]
              exact i1.trans (List.sublist_append_right _ _)
            have same : (∀ t o, a ≠ .own t o) → (foot (u :: us0) (a :: backs as0 ρ0)).Sublist (foot (s0 :: σ0) (c0 :: ρ0)) ∧ ∀ (B : Hp), Same (hide H' (tot σ' v ρ' c ++ g.P0)) B → Same (hide H (tot us [] as [] ++ g.P0)) B → RCs K g [] B H' (u :: us0) (a :: backs as0 ρ0) := by
              intro ha
              refine ⟨?_, fun B h1 h2 => ⟨?_, i2 B h1 h2⟩⟩
              · show (footC u a ++ foot us0 (backs as0 ρ0)).Sublist (footC s0 c0 ++ foot σ0 ρ0)
                rw [f0 u a ha]
                exact i1.trans (List.sublist_append_right _ _)
              · cases a with
                | own t o => exact absurd rfl (ha t o)
                | no => trivial
                | v d => obtain ⟨x, e, q⟩ := r1.1; exact ⟨x, e, dp_mono h2 _ _ q⟩
                | p d => obtain ⟨x, e, q, q'⟩ := r1.1; exact ⟨x, e, dp_mono h2 _ _ q, q'.mono h2⟩
                | pk i => exact r1.1
                | ln i => exact r1.1
                | sub i p k => exact r1.1
            cases a with
            | own t o =>
              cases c0 with
              | own t' o' =>
                by_cases et : t' = t
                · have e : backs (.own t o :: as0) (.own t' o' :: ρ0) = .own t o' :: backs as0 ρ0 := by
                    show (if t' = t then C.own t o' else .no) :: backs as0 ρ0 = _
                    rw [if_pos et]
                  rw [e]
                  subst et
                  obtain ⟨b1, e1, _, p1, p2⟩ := r1.1
                  obtain ⟨b2, e2, o2, p3, p4⟩ := r2.1
                  have tn : t' ≠ 0 := fun z => by
                    have q := p2 z
                    have q2 := r1.1
                    obtain ⟨b3, e3, o3, _⟩ := q2
                    obtain ⟨u3, o4⟩ := o3.there
                    rw [e1] at e3; cases e3
                    rw [hH] at q
                    rw [q] at o4; cases o4
                  have eb : b1 = b2 := (p1 tn).symm.trans (p3 tn)
                  subst eb
                  subst e1; subst e2
                  exact ⟨i1.append_left _, fun B h1 h2 => ⟨⟨b1, rfl, o2.mono h1 fun _ _ _ q => q, p3, p4⟩, i2 B h1 h2⟩⟩
                · have e : backs (.own t o :: as0) (.own t' o' :: ρ0) = .no :: backs as0 ρ0 := by
                    show (if t' = t then C.own t o' else .no) :: backs as0 ρ0 = _
                    rw [if_neg et]
                  rw [e]
                  exact no
              | _ => exact no
            | _ => exact same fun t o z => by cases z
  obtain ⟨o0, o2⟩ := own 0 us as σ' ρ' hlen h.sl h'.sl
  have o1 : ∀ a ∈ foot us (backs as ρ'), a ∈ foot σ' ρ' := fun a q => o0.subset q
  have sub : ∀ a ∈ tot us v (backs as ρ') c, a ∈ tot σ' v ρ' c := fun a q => by
    rcases List.mem_append.mp q with z | z
    · exact List.mem_append_left _ z
    · exact List.mem_append_right _ (o1 a z)
  have hB2 : Same (hide H (tot us [] as [] ++ g.P0)) (hide H' (tot us v (backs as ρ') c ++ g.P0)) := fun a o e => by
    obtain ⟨h1, h2⟩ := hide_some.mp e
    have nO : a ∉ g.Oa := fun z => h1 (List.mem_append_left _ (List.mem_append_right _ (by rw [← hO]; exact z)))
    have e0 : g.H0 a = some o := by rw [hH]; exact h2
    refine hide_some.mpr ⟨fun z => ?_, h'.fr a o e0 nO⟩
    rcases List.mem_append.mp z with z | z
    · rcases h'.nw a (sub a z) with q | q
      · exact nO q
      · rw [e0] at q; cases q
    · exact h1 (List.mem_append_right _ z)
  refine ⟨?_, o1⟩
  refine h'.gen (fun _ _ _ q => q) (fun _ o q => ⟨o, q⟩) (fun a q => .inl (sub a q)) ?_ (fun hB => o2 _ hB hB2) (fun hB => ?_) h'.pk
  · have n1 := h'.nd
    have n2 := h.nd
    obtain ⟨p1, p2, p3⟩ := List.nodup_append.mp n1
    refine List.nodup_append.mpr ⟨p1, o0.nodup p2, fun a q b z e => ?_⟩
    subst e
    exact p3 a q a (o1 a z) rfl
  · have q := RCs.mono (B' := hide H' (tot us v (backs as ρ') c ++ g.P0)) (H' := H') hB (fun _ _ _ q => q) h'.tp
    refine q.slots fun j z => ?_
    rcases z with z | z <;> cases hok _ z
end
section
variable {P : Program} {w : World} {K : PySem.W.Frag} {mg : Str → Option Value} {base : Heap} {x qual : Str} {params : Arguments} {body : List Stmt} {scope : Scope} {dvs : List V} {kws : List (Str × V)} {f : Addr} {fd : FuncData}
theorem start_SR {H : Hp} {vs : List V} {as : List C} {P : List Addr} {L : Nat → Bool} {n : Nat} {N : List Str} (hn : N.length = n) (h : SR K (mkG H vs as P L0) (vs.map some) [] H as []) : SR K (mkG H vs as P L) (L2.start N vs) [] H (startD n as) [] := by
  have h1 : SR K (mkG H vs as P L) (vs.map some) [] H as [] := h.setL rfl rfl rfl rfl fun i q => by simp at q
  have hl : vs.length = as.length := by have := h.len; simpa using this
  have e1 : ∀ n, foot (List.replicate n none) (List.replicate n C.no) = [] := fun n => by
    induction n with
    | zero => rfl
    | succ n ih => rw [List.replicate_succ, List.replicate_succ]; show footC none .no ++ foot _ _ = []; rw [ih]; rfl
  have en : N.length - vs.length = n - as.length := by omega
  have ft : foot (L2.start N vs) (startD n as) = foot (vs.map some) as := by
    unfold L2.start startD
    rw [foot_app (by simpa using hl), en, e1, List.append_nil]
  have ft2 : tot (L2.start N vs) [] (startD n as) [] = tot (vs.map some) [] as [] := by
    show foot _ _ ++ foot (L2.start N vs) (startD n as) = foot _ _ ++ _
    rw [ft]
  refine h1.gen (fun _ _ _ q => q) (fun _ o q => ⟨o, q⟩) (fun a q => .inl (by rw [ft2] at q; exact q)) (by rw [ft2]; exact h1.nd) (fun hB => ?_) (fun hB => trivial) (fun i q => by simp at q)
  unfold L2.start startD at hB ⊢
  rw [en] at hB ⊢
  refine RCs.app (h1.sl.mono hB fun _ _ _ q => q) ?_
  have go : ∀ (B : Hp) (m : Nat), RCs K (mkG H vs as P L) [] B H (List.replicate m none) (List.replicate m C.no) := fun B m => by
    induction m with
    | zero => trivial
    | succ m ih => exact ⟨trivial, ih⟩
  exact go _ _
abbrev bodyEnds (as : List C) (QD : C → List C → Prop) (ED : XD → List C → Prop) : EndsD := ⟨fun ρ => QD (.v .none) (backs as ρ), fun c ρ => c.ok = true ∧ QD c (backs as ρ), fun _ => False, fun _ => False, fun x ρ => ED x (backs as ρ)⟩
theorem body_ok {X : Cx} (hK : X.K = K) {N : List Str} {n : Nat} (hn : N.length = n) {Sd : SpD} {ww : WS} {L : Nat → Bool} {W : WX} {E : XK} (hE : ∀ cls d σ H, E cls d H → W cls d σ H)
    (hb : ∀ g : G, g.L = L → EB X g W body ww) (hw : ∀ as QD ED, Sd as QD ED → ww (bodyEnds as QD ED) (startD n as)) {vs : List V} {H : Hp} {Q : VK} (h : spOf K Sd vs H Q E) :
    ∃ t, PSs X body t ∧ t { nx := fun _ H' => Q .non H', rt := Q } (L2.start N vs) H := by
  subst hK
  obtain ⟨as, P, QD, ED, entry, sd, ret, exc⟩ := h
  obtain ⟨t, p, s⟩ := (hb (mkG H vs as P L) rfl).ex
  have e1 : SR X.K (mkG H vs as P L) (vs.map some) [] H as [] := entry.setL rfl rfl rfl rfl fun i q => by simp at q
  refine ⟨t, p, s (L2.start N vs) [] H (startD n as) [] _ _ (start_SR hn entry) (fun c q => by simp at q) (hw as QD ED sd) ⟨fun σ' H' ρ' S' q => ?_, fun _ _ _ _ q => q, fun _ _ _ _ q => q, fun v σ' H' c ρ' S' q => ?_, fun σ' y ρ' cls d H' S' xr ed => ?_⟩⟩
  · obtain ⟨S2, _⟩ := SR.leave e1 rfl rfl (SR.resV S' (Same.refl H') .non) (fun q hq => by first | (rw [List.mem_singleton.mp hq]; done) | (rw [List.mem_singleton.mp hq]; rfl))
    exact ret _ _ rfl q _ H' (S2.setL rfl rfl rfl rfl fun i z => by simp at z)
  · obtain ⟨S2, _⟩ := SR.leave e1 rfl rfl S' (fun z hz => by rw [List.mem_singleton.mp hz]; exact q.1)
    refine ret _ _ q.1 q.2 _ H' (S2.setL rfl rfl rfl rfl fun i z => ?_)
    have := q.1
    rcases z with z | z <;> (rw [← List.mem_singleton.mp z] at this; cases this)
  · obtain ⟨S2, o1⟩ := SR.leave e1 rfl rfl S' (fun q hq => by simp at hq)
    refine hE cls d σ' H' (exc y _ ed cls d H' (S2.setL rfl rfl rfl rfl fun i z => by simp at z) (XRep.mono (.inr fun a o e => ?_) xr))
    obtain ⟨h1, h2⟩ := hide_some.mp e
    refine hide_some.mpr ⟨fun z => h1 ?_, h2⟩
    rcases List.mem_append.mp z with z | z
    · refine List.mem_append_left _ ?_
      exact List.mem_append_right _ (o1 a z)
    · exact List.mem_append_right _ z
end
end DL

set_option Elab.async false
set_option linter.all false
set_option maxRecDepth 100000
set_option maxHeartbeats 4000000
/-! DL: what is walked; comprehensions; subscripts, slices, built-ins. -/
namespace DL
open PySem PySem.Spec PyProof.Rows L2

/-! ### a def -/
section
variable {P : Program} {w : World} {K : PySem.W.Frag} {mg : Str → Option Value} {base : Heap} {x qual : Str} {params : Arguments} {body : List Stmt} {scope : Scope} {dvs : List V} {kws : List (Str × V)} {f : Addr} {fd : FuncData}
theorem fn0 {CX : CXT} {N ps : List Str} {n k : Nat} {Sd : SpD} {L : Nat → Bool} {ww : WS} (F : FunD K x qual params body scope dvs kws f fd) (S : FnScope N ps scope) (hn : N.length = n) (len : ∀ as QD ED, Sd as QD ED → as.length = ps.length)
    (hb : ∀ (cdv : Value) (A : Around) (outer : List Env) (s : Shared) (H : Hp) (E : XK), Room k (A.deeper (envOfC qual scope s.heap.objs.size f cdv)) → ∀ g : G, g.L = L → EB (cxOf CX P w K mg base N qual scope f cdv A outer s H E).nox g (fun _ _ _ _ => False) body ww)
    (hw : ∀ as QD ED, Sd as QD ED → ww (bodyEnds as QD fun _ _ => False) (startD n as)) : FnOk P w K mg base CX (k + 1) f fd ps (spOf K Sd) := by
  refine F.ok S (fun vs H Q E h => ?_) fun cdv A outer s H vs Q E hr h => ?_
  · obtain ⟨as, P, QD, ED, entry, sd, _⟩ := h
    have e := entry.len
    rw [List.length_map] at e
    rw [e, len as QD ED sd]
  · obtain ⟨as, P, QD, ED, entry, sd, ret, exc⟩ := h
    have h2 : spOf K (fun as QD ED' => ED' = (fun _ _ => False) ∧ ∃ ED, Sd as QD ED) vs H Q (fun _ _ _ => False) := ⟨as, P, QD, fun _ _ => False, entry, ⟨rfl, ED, sd⟩, ret, fun x rs z => z.elim⟩
    obtain ⟨t, p, q⟩ := body_ok (N := N) (X := (cxOf CX _ w K mg base N qual scope f cdv A outer s H E).nox) (K := K) rfl hn (W := fun _ _ _ _ => False) (E := fun _ _ _ => False) (fun _ _ _ _ z => z)
      (fun g hg => hb cdv A outer s H E hr g hg) (fun as' QD' ED' ⟨z1, ED2, z2⟩ => by rw [z1]; exact hw as' QD' ED2 z2) h2
    exact ⟨t, p.nox, q⟩
end

/-! ### what is walked -/
section
variable {K : PySem.W.Frag} {hs : List V} {hd ds : List D}
theorem walks_list {a : Addr} {ds : List D} : Walks K (Itl K a) [.ref a] [.list ds] ds := by
  have rd : ∀ {H : Hp} {O : List Addr}, DpAll K (hide H O) [V.ref a] [PyData.list ds] → ∃ xs, SqL K H a xs ∧ DpAll K (hide H O) xs ds := fun {H O} q => by
    cases q with
    | cons q _ =>
      cases q with
      | lst h1 h2 => exact ⟨_, Same.seq (fun b o e => (hide_some.mp e).2) h1, h2⟩
  refine ⟨fun H O i _ q hi => ?_, fun H O i y H' d _ q hy hd => ?_, fun H O i _ q hi => ?_⟩
  · obtain ⟨xs, h1, h2⟩ := rd q
    have hl : i < xs.length := by rw [DL.DpAll.len h2]; exact hi
    exact ⟨xs, xs[i], h1, List.getElem?_eq_getElem hl⟩
  · obtain ⟨xs, h1, h2⟩ := rd q
    obtain ⟨rfl, h3⟩ := hy
    obtain ⟨v, e1, e2⟩ := DL.DpAll.get h2 hd
    have e3 := h3 xs h1
    rw [e1] at e3
    cases e3
    exact ⟨Same.refl _, e2⟩
  · obtain ⟨xs, h1, h2⟩ := rd q
    exact ⟨xs, h1, by rw [DL.DpAll.len h2]; exact hi⟩
theorem walks_tup {a : Addr} {ds : List D} : Walks K (Itt K a) [.ref a] [.tuple ds] ds := by
  have rd : ∀ {H : Hp} {O : List Addr}, DpAll K (hide H O) [V.ref a] [PyData.tuple ds] → ∃ xs, SqT K H a xs ∧ DpAll K (hide H O) xs ds := fun {H O} q => by
    cases q with
    | cons q _ =>
      cases q with
      | tup h1 h2 => exact ⟨_, seqT_same (fun b o e => (hide_some.mp e).2) h1, h2⟩
  refine ⟨fun H O i _ q hi => ?_, fun H O i y H' d _ q hy hd => ?_, fun H O i _ q hi => ?_⟩
  · obtain ⟨xs, h1, h2⟩ := rd q
    have hl : i < xs.length := by rw [DL.DpAll.len h2]; exact hi
    exact ⟨xs, xs[i], h1, List.getElem?_eq_getElem hl⟩
  · obtain ⟨xs, h1, h2⟩ := rd q
    obtain ⟨rfl, h3⟩ := hy
    obtain ⟨v, e1, e2⟩ := DL.DpAll.get h2 hd
    have e3 := h3 xs h1
    rw [e1] at e3
    cases e3
    exact ⟨Same.refl _, e2⟩
  · obtain ⟨xs, h1, h2⟩ := rd q
    exact ⟨xs, h1, by rw [DL.DpAll.len h2]; exact hi⟩
def rangeD (lo : Int) (n : Nat) : List D := (List.range n).map fun (k : Nat) => PyData.int (lo + k)
theorem walks_range {lo : Int} {n : Nat} : Walks K (Itr lo n) [] [] (rangeD lo n) := by
  refine ⟨fun H O i _ q hi => ?_, fun H O i y H' d _ q hy hd => ?_, fun H O i _ q hi => ?_⟩
  · show i < n
    simpa [rangeD] using hi
  · obtain ⟨rfl, rfl⟩ := hy
    have hi : i < n := by
      have := (List.getElem?_eq_some_iff.mp hd).1
      simpa [rangeD] using this
    have e : (rangeD lo n)[i]? = some (.int (lo + i)) := by
      unfold rangeD
      rw [List.getElem?_map, List.getElem?_range hi]
      rfl
    rw [e] at hd
    cases hd
    exact ⟨Same.refl _, .int _⟩
  · show n ≤ i
    simpa [rangeD] using hi
def strD (x : Str) : List D := x.cps.toList.map fun c => PyData.str ⟨#[c]⟩
theorem walks_str {x : Str} : Walks K (Its x) [] [] (strD x) := by
  refine ⟨fun H O i _ q hi => ?_, fun H O i y H' d _ q hy hd => ?_, fun H O i _ q hi => ?_⟩
  · show i < x.cps.size
    simpa [strD] using hi
  · obtain ⟨rfl, c, e, rfl⟩ := hy
    have e2 : (strD x)[i]? = some (.str ⟨#[c]⟩) := by
      unfold strD
      rw [List.getElem?_map, Array.getElem?_toList, e]
      rfl
    rw [e2] at hd
    cases hd
    exact ⟨Same.refl _, .str _⟩
  · show x.cps.size ≤ i
    simpa [strD] using hi
end
@[reducible] def wIL (we : WE) : WI := fun ρ Q E => we ρ (fun c ρ1 => match frzC c with
  | .v (.list ds) => Q ds ρ1
  | _ => False) E
@[reducible] def wIR1 (wa : WA) : WI := fun ρ Q E => wa ρ (fun cs ρ1 => match cs with
  | [.v (.int j)] => (-(2 ^ 62) ≤ j ∧ j < 2 ^ 62) ∧ Q (rangeD 0 j.toNat) ρ1
  | _ => False) E
section
variable {X : Cx} {g : G} {W : WX} {tg e : Expr} {we : WE} {pos : Pos}
theorem ei_lst (h : EE X g W e we) : EI X g W tg e (wIL we) := by
  obtain ⟨t, p, s⟩ := h.ex
  refine ⟨_, pi_list p, fun σ vs H ρ cs QD ED R hS hw hX hQ => ?_⟩
  refine s σ vs H ρ cs _ ED _ hS hw hX fun x H1 c ρ1 S1 q1 => ?_
  split at q1
  · rename_i ds ec
    have S2 := S1.frzTop
    rw [ec] at S2
    have q := S2.top
    cases q with
    | lst h1 h2 =>
      rename_i a xs
      exact ⟨a, rfl, ⟨xs, Same.seq (fun b o e => (hide_some.mp e).2) h1⟩, hQ _ [.ref a] [.list ds] ds H1 ρ1 rfl S2 walks_list q1⟩
  · exact q1.elim
theorem ei_range1 {a : Expr} {wa : WA} {p : Pos} (hg : Gl X "range") (hm : X.mg "range" = none) (ha : EA X g W [a] wa) (hs : starEach [a] X.env = [(false, eval a X.env)] := by rfl) : EI X g W tg (.Call (.Name "range" p) [a] [] pos) (wIR1 wa) := by
  obtain ⟨t, q, s⟩ := ha.ex
  refine ⟨_, pi_range1 hg hm q hs, fun σ vs H ρ cs QD ED R hS hw hX hQ => ?_⟩
  refine s σ vs H ρ cs _ ED _ hS hw hX fun xs H1 ccs ρ1 hl S1 q1 => ?_
  split at q1
  · rename_i j
    match xs, hl with
    | [x], _ =>
      have q := S1.top
      cases q
      exact ⟨j, rfl, q1.1.1, q1.1.2, hQ _ [] [] _ H1 ρ1 rfl S1.pop walks_range q1.2⟩
  · exact q1.elim
end

/-! ### comprehensions -/
@[reducible] def clr (T : List Nat) (ρ : Rho) : Rho := match T with
  | [] => ρ
  | i :: T => rset (clr T ρ) i .no
@[reducible] def lcK (T : List Nat) (wg : WG) (wt : WT) (we : WE) : List D → List D → Rho → (List D → Rho → Prop) → Prop
  | [], acc, ρ, k => k acc ρ
  | d :: ds, acc, ρ, k => wg d ρ fun ρ1 => wt ρ1 (fun b ρ2 => if b = true then we ρ2 (fun c ρ3 => match frzC c with
      | .v d' => lcK T wg wt we ds (acc ++ [d']) (clr T ρ3) k
      | _ => False) (fun _ _ => False) else lcK T wg wt we ds acc (clr T ρ2) k) (fun _ _ => False)
@[reducible] def wYes : WT := fun ρ Q _ => Q true ρ
structure ETs (X : Cx) (g : G) (W : WX) (ifs : List Expr) (w : WT) : Prop where
  ex : ∃ t, PTs X ifs t ∧ SemT X.K g W t w
theorem ets_nil {X : Cx} {g : G} {W : WX} : ETs X g W [] wYes := ⟨_, pts_nil, fun σ vs H ρ cs QD ED Q hS hw hX hQ => hQ true H ρ hS hw⟩
theorem foot_agree : ∀ {σ σ' : List (Option V)} {ρ : Rho}, σ'.length = σ.length → (∀ j, rget ρ j ≠ .no → σ'[j]? = σ[j]?) → foot σ' ρ = foot σ ρ
  | [], [], _, _, _ => rfl
  | _ :: _, _ :: _, [], _, _ => rfl
  | v :: σ, v' :: σ', c :: ρ, hl, h => by
    have ih := foot_agree (σ := σ) (σ' := σ') (ρ := ρ) (by simpa using hl) fun j hj => by have := h (j + 1) hj; simpa using this
    have e : footC v' c = footC v c := by
      cases c with
      | no => rw [footC_no, footC_no]
      | _ =>
        have e1 := h 0 (fun z => by cases z)
        have e2 : v' = v := by simpa using e1
        rw [e2]
    show footC v' c ++ foot σ' ρ = footC v c ++ foot σ ρ
    rw [e, ih]
  | [], _ :: _, _, h, _ => by simp at h
  | _ :: _, [], _, h, _ => by simp at h
theorem RCs.agree {K : PySem.W.Frag} {g : G} {s : L2.St} {B H : Hp} : ∀ {σ σ' : List (Option V)} {ρ : Rho}, σ'.length = σ.length → (∀ j, rget ρ j ≠ .no → σ'[j]? = σ[j]?) → RCs K g s B H σ ρ → RCs K g s B H σ' ρ
  | [], [], _, _, _, h => h
  | _ :: _, _ :: _, [], _, _, h => h.elim
  | v :: σ, v' :: σ', c :: ρ, hl, h, r => by
    refine ⟨?_, RCs.agree (σ := σ) (σ' := σ') (ρ := ρ) (by simpa using hl) (fun j hj => by have := h (j + 1) hj; simpa using this) r.2⟩
    cases c with
    | no => trivial
    | _ =>
      have e1 := h 0 (fun z => by cases z)
      have e2 : v' = v := by simpa using e1
      rw [e2]
      exact r.1
  | [], _ :: _, _, h, _, _ => by simp at h
  | _ :: _, [], _, h, _, _ => by simp at h
section
variable {K : PySem.W.Frag} {g : G} {σ σ' : L2.St} {vs : List V} {H : Hp} {ρ : Rho} {cs : List C}
theorem SR.agree (h : SR K g σ vs H ρ cs) (hl : σ'.length = σ.length) (hj : ∀ j, rget ρ j ≠ .no → σ'[j]? = σ[j]?) (hp : ∀ j, (C.pk j ∈ cs ∨ C.ln j ∈ cs) → σ'[j]? = σ[j]?) : SR K g σ' vs H ρ cs := by
  have ft : tot σ' vs ρ cs = tot σ vs ρ cs := by
    show foot (vs.map some) cs ++ foot σ' ρ = _
    rw [foot_agree hl hj]
  exact h.gen (fun _ _ _ q => q) (fun _ o q => ⟨o, q⟩) (fun a q => .inl (by rw [ft] at q; exact q)) (by rw [ft]; exact h.nd) (fun hB => (h.sl.mono hB fun _ _ _ q => q).agree hl hj) (fun hB => (h.tp.mono hB fun _ _ _ q => q).slots hp) h.pk
theorem rget_rset_ne : ∀ {ρ : Rho} {i j : Nat} {c : C}, i ≠ j → rget (rset ρ i c) j = rget ρ j
  | [], _, _, _, _ => rfl
  | _ :: _, 0, 0, _, h => absurd rfl h
  | _ :: _, 0, _ + 1, _, _ => rfl
  | _ :: _, _ + 1, 0, _, _ => rfl
  | _ :: ρ, i + 1, j + 1, c, h => rget_rset_ne (ρ := ρ) (i := i) (j := j) (c := c) (fun e => h (by rw [e]))
theorem rget_over : ∀ {ρ : Rho} {i : Nat}, ρ.length ≤ i → rget ρ i = .no
  | [], _, _ => rfl
  | _ :: _, 0, h => by simp at h
  | _ :: ρ, i + 1, h => rget_over (ρ := ρ) (i := i) (by simpa using h)
theorem clr_len : ∀ {T : List Nat}, (clr T ρ).length = ρ.length
  | [] => rfl
  | i :: T => by show (rset (clr T ρ) i .no).length = _; rw [rset_len, clr_len]
theorem clr_in : ∀ {T : List Nat} {j : Nat}, j ∈ T → rget (clr T ρ) j = .no
  | i :: T, j, h => by
    show rget (rset (clr T ρ) i .no) j = .no
    by_cases e : i = j
    · subst e
      by_cases hl : i < ρ.length
      · exact rget_rset (by rw [clr_len]; exact hl)
      · exact rget_over (by rw [rset_len, clr_len]; omega)
    · rw [rget_rset_ne e]
      exact clr_in ((List.mem_cons.mp h).resolve_left fun z => e z.symm)
theorem SR.clrs (h : SR K g σ vs H ρ cs) : ∀ (T : List Nat), SR K g σ vs H (clr T ρ) cs
  | [] => h
  | i :: T => (SR.clrs h T).clear i
theorem wipe_get {T : List Nat} {j : Nat} (h : j ∉ T) : (wipe σ T)[j]? = σ[j]? := wipe_out h
theorem SR.wiped {T : List Nat} (h : SR K g σ vs H ρ cs) (hT : ∀ j ∈ T, rget ρ j = .no) (hL : ∀ j ∈ T, g.L j = false) : SR K g (wipe σ T) vs H ρ cs :=
  h.agree (wipe_length σ T) (fun j hj => wipe_get fun z => hj (hT j z)) fun j hj => wipe_get fun z => by
    have := h.pk j hj
    rw [hL j z] at this; cases this
theorem wipe_in : ∀ {T : List Nat} {j : Nat}, j ∈ T → j < σ.length → (wipe σ T)[j]? = some none
  | i :: T, j, h, hl => by
    show ((wipe σ T).set i none)[j]? = some none
    by_cases e : i = j
    · subst e
      rw [List.getElem?_set_self (by rw [wipe_length]; exact hl)]
    · rw [List.getElem?_set_ne e]
      exact wipe_in ((List.mem_cons.mp h).resolve_left fun z => e z.symm) hl
theorem only_wipe {T : List Nat} (h : DL.Only T σ σ') : wipe σ' T = wipe σ T := by
  apply List.ext_getElem?
  intro j
  by_cases hj : j ∈ T
  · by_cases hl : j < σ.length
    · rw [wipe_in hj hl, wipe_in hj (by rw [h.1]; exact hl)]
    · rw [List.getElem?_eq_none (by rw [wipe_length, h.1]; omega), List.getElem?_eq_none (by rw [wipe_length]; omega)]
  · rw [wipe_get hj, wipe_get hj, h.2 j hj]
theorem wipe_wipe {T : List Nat} : wipe (wipe σ T) T = wipe σ T := only_wipe ⟨wipe_length σ T, fun j hj => wipe_get hj⟩
end
def keptD (ρ : Rho) : List Nat → List D
  | [] => []
  | i :: T => (match rget ρ i with
    | .v d => d
    | _ => .none) :: keptD ρ T
section
variable {K : PySem.W.Frag} {g : G} {σ : L2.St} {vs : List V} {H : Hp} {ρ : Rho} {cs : List C}
theorem keptD_at (h : SR K g σ vs H ρ cs) : ∀ (T : List Nat), ∃ xs : List V, xs.length = (keptD ρ T).length ∧ DpAll K (hide H (tot σ vs ρ cs ++ g.P0)) xs (keptD ρ T) ∧ ∀ (k i : Nat) (d : D), T[k]? = some i → rget ρ i = .v d → ∃ x, xs[k]? = some x ∧ σ[i]? = some (some x)
  | [] => ⟨[], rfl, .nil, fun k i d e => by simp at e⟩
  | i :: T => by
    obtain ⟨xs, h1, h2, h3⟩ := keptD_at h T
    cases e : rget ρ i with
    | v d =>
      obtain ⟨x, e1, q⟩ := h.slot e
      have ek : keptD ρ (i :: T) = d :: keptD ρ T := by show (match rget ρ i with | .v d => d | _ => .none) :: _ = _; rw [e]
      rw [ek]
      refine ⟨x :: xs, by simp [h1], .cons q h2, fun k i' d' e2 e3 => ?_⟩
      cases k with
      | zero =>
        have e4 : i = i' := by simpa using e2
        subst e4
        exact ⟨x, rfl, e1⟩
      | succ k => obtain ⟨y, y1, y2⟩ := h3 k i' d' (by simpa using e2) e3; exact ⟨y, by simpa using y1, y2⟩
    | _ =>
      have ek : keptD ρ (i :: T) = .none :: keptD ρ T := by show (match rget ρ i with | .v d => d | _ => .none) :: _ = _; rw [e]
      rw [ek]
      refine ⟨.non :: xs, by simp [h1], .cons .non h2, fun k i' d' e2 e3 => ?_⟩
      cases k with
      | zero =>
        have e4 : i = i' := by simpa using e2
        subst e4
        rw [e] at e3; cases e3
      | succ k => obtain ⟨y, y1, y2⟩ := h3 k i' d' (by simpa using e2) e3; exact ⟨y, by simpa using y1, y2⟩
end
end DL

set_option Elab.async false
set_option linter.all false
set_option maxRecDepth 100000
set_option maxHeartbeats 4000000
/-! DL: comprehensions, own lists changed. -/
namespace DL
open PySem PySem.Spec PyProof.Rows L2

/-! ### one reading for a piece of syntax, whatever the context -/
def tOfE (K : PySem.W.Frag) (g : G) (W : WX) (w : WE) : TE := fun σ H Q => ∃ vs ρ cs QD ED, SR K g σ vs H ρ cs ∧ w ρ QD ED ∧ XEnds K g W σ ED ∧ ∀ v H' c ρ', SR K g σ (v :: vs) H' ρ' (c :: cs) → QD c ρ' → Q v H'
def tOfT (K : PySem.W.Frag) (g : G) (W : WX) (w : WT) : TT := fun σ H Q => ∃ vs ρ cs QD ED, SR K g σ vs H ρ cs ∧ w ρ QD ED ∧ XEnds K g W σ ED ∧ ∀ b H' ρ', SR K g σ vs H' ρ' cs → QD b ρ' → Q b H'
def tOfG (K : PySem.W.Frag) (g : G) (T : List Nat) (w : WG) : TG := fun x σ H Q => ∃ vs ρ cs d QD, SR K g σ (x :: vs) H ρ (.v d :: cs) ∧ (∀ j ∈ T, ∀ i, (C.pk i ∈ cs ∨ C.ln i ∈ cs) → i ≠ j) ∧ w d ρ QD ∧ ∀ σ' H' ρ', SR K g σ' vs H' ρ' cs → DL.Only T σ σ' → QD ρ' → Q σ' H'
section
variable {X : Cx} {g : G} {W : WX} {e : Expr} {ifs : List Expr} {T : List Nat}
theorem EE.can {w : WE} (h : EE X g W e w) : PE X e (tOfE X.K g W w) := by
  obtain ⟨t, p, s⟩ := h.ex
  exact ⟨fun pins sh σ H Q I ⟨vs, ρ, cs, QD, ED, hS, hw, hX, hQ⟩ => p.run pins sh σ H Q I (s σ vs H ρ cs QD ED Q hS hw hX hQ)⟩
theorem ETs.can {w : WT} (h : ETs X g W ifs w) : PTs X ifs (tOfT X.K g W w) := by
  obtain ⟨t, p, s⟩ := h.ex
  exact ⟨fun pins sh σ H Q I ⟨vs, ρ, cs, QD, ED, hS, hw, hX, hQ⟩ => p.run pins sh σ H Q I (s σ vs H ρ cs QD ED Q hS hw hX hQ)⟩
theorem EG.can {w : WG} (h : EG X g e T w) : PG X e (tOfG X.K g T w) := by
  obtain ⟨t, p, s⟩ := h.ex
  exact ⟨fun pins sh σ H x u Q I r ⟨vs, ρ, cs, d, QD, hS, hp, hw, hQ⟩ => p.run pins sh σ H x u Q I r (s σ vs H ρ cs x d QD Q hS hp hw hQ)⟩
end

section
variable {K : PySem.W.Frag} {g : G} {σ : L2.St} {vs : List V} {H H' : Hp} {ρ : Rho} {cs : List C}
theorem SR.mutTopG {a : Addr} {t : Nat} {o o' : OD} (h : SR K g σ (.ref a :: vs) H ρ (.own t o :: cs)) (keep : ∀ b u, b ∉ o.fp a → H b = some u → H' b = some u) (dom : ∀ b u, H b = some u → ∃ u', H' b = some u')
    (fr : ∀ b ∈ o'.fp a, b ∈ o.fp a ∨ H b = none) (nd' : (o'.fp a).Nodup) (new : OwnAt K (hide H' (tot σ (.ref a :: vs) ρ (.own t o' :: cs) ++ g.P0)) H' a o') : SR K g σ (.ref a :: vs) H' ρ (.own t o' :: cs) := by
  obtain ⟨b, e, q1, q2, q3⟩ := h.tp.1
  cases e
  have nd := h.nd
  rw [foot_cons_own] at nd
  obtain ⟨nd1, nd2, nd3⟩ := List.nodup_append.mp nd
  have na : ∀ b ∈ tot σ vs ρ cs, b ∉ o.fp a := fun b z w => nd3 b w b z rfl
  refine h.gen (fun b u n q => keep b u (fun z => n (by rw [foot_cons_own]; exact List.mem_append_left _ z)) q) dom (fun b q => ?_) ?_ (fun hB => h.sl.mono hB fun b z u q => keep b u (na b (List.mem_append_right _ z)) q) (fun hB => ?_) (fun j q => h.pk j ?_)
  · rw [foot_cons_own] at q ⊢
    rcases List.mem_append.mp q with z | z
    · exact (fr b z).imp (fun w => List.mem_append_left _ w) id
    · exact .inl (List.mem_append_right _ z)
  · rw [foot_cons_own]
    refine List.nodup_append.mpr ⟨nd', nd2, fun b z c w e => ?_⟩
    subst e
    rcases fr b z with y | y
    · exact na b w y
    · obtain ⟨u, e⟩ := h.pop.there b w
      rw [y] at e; cases e
  · refine ⟨⟨a, rfl, new, q2, q3⟩, h.tp.2.mono hB fun b z u q => keep b u (na b (List.mem_append_left _ z)) q⟩
  · simp only [List.mem_cons] at q ⊢
    rcases q with (z | z) | (z | z)
    · cases z
    · exact .inl (.inr z)
    · cases z
    · exact .inr (.inr z)
theorem SR.mutTop {a : Addr} {t : Nat} {o o' : OD} (h : SR K g σ (.ref a :: vs) H ρ (.own t o :: cs)) (keep : ∀ b u, b ≠ a → H b = some u → H' b = some u) (new : OwnAt K (hide H (tot σ (.ref a :: vs) ρ (.own t o :: cs) ++ g.P0)) H' a o') (f1 : o.fp a = [a] := by rfl) (f2 : o'.fp a = [a] := by rfl) : SR K g σ (.ref a :: vs) H' ρ (.own t o' :: cs) := by
  have ft : tot σ (.ref a :: vs) ρ (.own t o' :: cs) = tot σ (.ref a :: vs) ρ (.own t o :: cs) := by rw [foot_cons_own, foot_cons_own, f1, f2]
  refine h.mutTopG (fun b u n q => keep b u (fun z => n (by rw [f1, z]; exact List.mem_singleton.mpr rfl)) q) (fun b u q => ?_) (fun b z => .inl (by rw [f1, ← f2]; exact z)) (by rw [f2]; exact List.nodup_cons.mpr ⟨by simp, .nil⟩) ?_
  · by_cases e : b = a
    · rw [e]; exact new.there
    · exact ⟨u, keep b u e q⟩
  · rw [ft]
    refine new.mono (fun b u q => ?_) fun _ _ _ z => z
    obtain ⟨h1, h2⟩ := hide_some.mp q
    refine hide_some.mpr ⟨h1, keep b u (fun z => h1 ?_) h2⟩
    refine List.mem_append_left _ ?_
    rw [foot_cons_own, f1, z]
    exact List.mem_append_left _ (List.mem_singleton.mpr rfl)
theorem SR.appTop {a : Addr} {y : V} {d : D} {t : Nat} {ds : List D} (h : SR K g σ (y :: .ref a :: vs) H ρ (.v d :: .own t (.lst ds) :: cs)) : ∃ xs, H a = some (.lst xs) ∧ xs.length = ds.length ∧ SR K g σ (.ref a :: vs) (upd H a (.lst (xs ++ [y]))) ρ (.own t (.lst (ds ++ [d])) :: cs) := by
  have hy := h.top
  have h1 := h.pop
  obtain ⟨b, e, ⟨xs, q1, q2⟩, _⟩ := id h1.tp.1
  cases e
  refine ⟨xs, q1, DL.DpAll.len q2, h1.mutTop (fun b u n q => by rw [upd_ne n]; exact q) ⟨xs ++ [y], upd_same, ?_⟩⟩
  exact DL.DpAll.app q2 (.cons hy .nil)
end
@[reducible] def back (ρ : Rho) : List Nat → Rho → Rho
  | [], ρ' => ρ'
  | i :: T, ρ' => back ρ T (rset ρ' i (match rget ρ i with
    | .v d => .v d
    | _ => .no))
section
variable {K : PySem.W.Frag} {g : G} {σ : L2.St} {vs : List V} {H H' : Hp} {ρ ρ0 : Rho} {cs : List C}
theorem SR.backs_ : ∀ {T : List Nat} {ks : List V} {ρ : Rho}, ks.length = (keptD ρ0 T).length → (∀ (k i : Nat) (d : D), T[k]? = some i → rget ρ0 i = .v d → ∃ x, ks[k]? = some x ∧ σ[i]? = some (some x)) → SR K g σ (ks ++ vs) H ρ ((keptD ρ0 T).map C.v ++ cs) → SR K g σ vs H (back ρ0 T ρ) cs
  | [], ks, ρ, hl, _, h => by
    cases ks with
    | nil => exact h
    | cons _ _ => simp [keptD] at hl
  | i :: T, ks, ρ, hl, hk, h => by
    cases ks with
    | nil => simp [keptD] at hl
    | cons x ks =>
      have hk' : ∀ (k j : Nat) (d : D), T[k]? = some j → rget ρ0 j = .v d → ∃ y, ks[k]? = some y ∧ σ[j]? = some (some y) := fun k j d e1 e2 => by
        obtain ⟨y, y1, y2⟩ := hk (k + 1) j d (by simpa using e1) e2
        exact ⟨y, by simpa using y1, y2⟩
      cases e : rget ρ0 i with
      | v d =>
        have ek : keptD ρ0 (i :: T) = d :: keptD ρ0 T := by show (match rget ρ0 i with | .v d => d | _ => .none) :: _ = _; rw [e]
        rw [ek] at h hl
        obtain ⟨y, y1, y2⟩ := hk 0 i d rfl e
        have e3 : x = y := by simpa using y1
        subst e3
        have hlt : i < ρ.length := by rw [← h.len]; exact (List.getElem?_eq_some_iff.mp y2).1
        have h1 : SR K g σ (x :: (ks ++ vs)) H (rset ρ i .no) (.v d :: ((keptD ρ0 T).map C.v ++ cs)) := h.clear i
        have h2 := h1.moveIn rfl y2 (rget_rset hlt)
        rw [rset_rset] at h2
        show SR K g σ vs H (back ρ0 T (rset ρ i (match rget ρ0 i with | .v d => .v d | _ => .no))) cs
        rw [e]
        exact SR.backs_ (by simpa using hl) hk' h2
      | _ =>
        have ek : keptD ρ0 (i :: T) = .none :: keptD ρ0 T := by show (match rget ρ0 i with | .v d => d | _ => .none) :: _ = _; rw [e]
        rw [ek] at h hl
        have h1 : SR K g σ (ks ++ vs) H (rset ρ i .no) ((keptD ρ0 T).map C.v ++ cs) := (SR.pop (x := x) (c := .v .none) h).clear i
        show SR K g σ vs H (back ρ0 T (rset ρ i (match rget ρ0 i with | .v d => .v d | _ => .no))) cs
        rw [e]
        exact SR.backs_ (by simpa using hl) hk' h1
end
theorem SR.midV {K : PySem.W.Frag} {g : G} {σ : L2.St} {vs xs hs : List V} {H : Hp} {ρ : Rho} {cs ccs : List C} {hd : List D} (hl : xs.length = ccs.length) (hh : hs.length = hd.length) (h : SR K g σ (xs ++ (hs ++ vs)) H ρ (ccs ++ (hd.map C.v ++ cs))) :
    DpAll K (hide H (tot σ (xs ++ (hs ++ vs)) ρ (ccs ++ (hd.map C.v ++ cs)) ++ g.P0)) hs hd := by
  have tp := h.tp
  rw [List.map_append, List.map_append] at tp
  have q := (RCs.split (by simpa using hh) (RCs.split (by simpa using hl) tp).2).1
  revert q
  generalize hide H _ = B
  intro q
  clear tp h
  induction hs generalizing hd with
  | nil => cases hd with
    | nil => exact .nil
    | cons _ _ => simp at hh
  | cons x hs ih => cases hd with
    | nil => simp at hh
    | cons d hd =>
      obtain ⟨⟨y, e, q1⟩, q2⟩ := q
      cases e
      exact .cons q1 (ih (by simpa using hh) q2)
@[reducible] def wLcB (T : List Nat) (wi : WI) (wg : WG) (wt : WT) (we : WE) : WE := fun ρ Q E => wi ρ (fun ds ρ1 => ds.length ≤ sizeLine ∧ lcK T wg wt we ds [] (clr T ρ1) fun acc ρ2 => Q (.own 0 (.lst acc)) (back ρ1 T ρ2)) E
abbrev W0 : WX := fun _ _ _ _ => False
section
variable {K : PySem.W.Frag} {g : G} {W : WX} {T : List Nat} {ti : TI} {wi : WI} {wg : WG} {wt : WT} {we : WE}
theorem sem_lc (hL : ∀ j ∈ T, g.L j = false) (hi : SemI K g W ti wi) : Sem K g W (tLc ti (tOfG K g T wg) (tOfT K g W0 wt) (tOfE K g W0 we) T) (wLcB T wi wg wt we) := by
  intro σ vs H ρ cs QD ED Q hS hw hX hQ
  refine hi σ vs H ρ cs _ ED _ hS hw hX fun J hs hd ds H1 ρ1 hl S1 wk ⟨hlen, q1⟩ D nD => ?_
  obtain ⟨ks, k1, k2, k3⟩ := keptD_at S1 T
  have S2 : SR K g σ (ks ++ (hs ++ vs)) H1 ρ1 ((keptD ρ1 T).map C.v ++ (hd.map C.v ++ cs)) := S1.pushAll k2
  have S3 := S2.clrs T
  have S4 := S3.wiped (T := T) (fun j hj => clr_in hj) hL
  have S5 : SR K g (wipe σ T) (.ref D :: (ks ++ (hs ++ vs))) (upd H1 D (.lst [])) (clr T ρ1) (.own 0 (.lst []) :: ((keptD ρ1 T).map C.v ++ (hd.map C.v ++ cs))) := SR.res S4 (same_new nD) (new_lst nD .nil)
  refine ⟨fun i m H => m = ds.length - i ∧ ∃ acc ρ', SR K g (wipe σ T) (.ref D :: (ks ++ (hs ++ vs))) H ρ' (.own 0 (.lst acc) :: ((keptD ρ1 T).map C.v ++ (hd.map C.v ++ cs))) ∧ (∀ j ∈ T, rget ρ' j = .no) ∧ acc.length ≤ i ∧ lcK T wg wt we (ds.drop i) acc ρ' fun acc ρ2 => QD (.own 0 (.lst acc)) (back ρ1 T ρ2),
    ⟨ds.length, by simp, [], clr T ρ1, S5, fun j hj => clr_in hj, Nat.zero_le _, by simpa using q1⟩, ?_⟩
  rintro i m H2 ⟨rfl, acc, ρ2, S6, hno, hacc, q6⟩
  have hlk : ks.length = ((keptD ρ1 T).map C.v).length := by simpa using k1
  have hlh : hs.length = (hd.map C.v).length := by simpa using hl
  have S7 : SR K g (wipe σ T) (hs ++ vs) H2 ρ2 (hd.map C.v ++ cs) := SR.pops hlk S6.pop
  have dd := SR.tops hl S7
  have dom := (SR.pops hlh S7).domO
  by_cases hlt : i < ds.length
  · refine .inr ⟨wk.go H2 _ i dom dd hlt, fun H' => ∃ acc ρ', SR K g (wipe σ T) (.ref D :: (ks ++ (hs ++ vs))) H' ρ' (.own 0 (.lst acc) :: ((keptD ρ1 T).map C.v ++ (hd.map C.v ++ cs))) ∧ (∀ j ∈ T, rget ρ' j = .no) ∧ acc.length ≤ i + 1 ∧ lcK T wg wt we (ds.drop (i + 1)) acc ρ' fun acc ρ2 => QD (.own 0 (.lst acc)) (back ρ1 T ρ2),
      fun H' q => ⟨ds.length - (i + 1), by omega, rfl, q⟩, fun x H3 y => ?_⟩
    have ed : ds.drop i = ds[i] :: ds.drop (i + 1) := List.drop_eq_getElem_cons hlt
    rw [ed] at q6
    obtain ⟨sm, dx⟩ := wk.yld H2 _ i x H3 ds[i] dom dd y (List.getElem?_eq_getElem hlt)
    have dd2 := SR.midV (xs := .ref D :: ks) (ccs := .own 0 (.lst acc) :: (keptD ρ1 T).map C.v) (by simp [k1]) hl S6
    have dx2 := (wk.yld H2 _ i x H3 ds[i] S6.domO dd2 y (List.getElem?_eq_getElem hlt)).2
    have S9 : SR K g (wipe σ T) (x :: .ref D :: (ks ++ (hs ++ vs))) H3 ρ2 (.v ds[i] :: .own 0 (.lst acc) :: ((keptD ρ1 T).map C.v ++ (hd.map C.v ++ cs))) := SR.resV S6 sm dx2
    have noX : ∀ σ', XEnds K g W0 σ' (fun _ _ => False) := fun σ' _ _ _ _ _ _ _ z => z
    -- a turn's end
    have turn : ∀ {σ2 : L2.St} {H' : Hp} {ρ' : Rho} {acc' : List PyData}, DL.Only T (wipe σ T) σ2 → SR K g σ2 (.ref D :: (ks ++ (hs ++ vs))) H' ρ' (.own 0 (.lst acc') :: ((keptD ρ1 T).map C.v ++ (hd.map C.v ++ cs))) → acc'.length ≤ i + 1 → lcK T wg wt we (ds.drop (i + 1)) acc' (clr T ρ') (fun acc ρ2 => QD (.own 0 (.lst acc)) (back ρ1 T ρ2)) →
        ∃ acc ρ', SR K g (wipe σ T) (.ref D :: (ks ++ (hs ++ vs))) H' ρ' (.own 0 (.lst acc) :: ((keptD ρ1 T).map C.v ++ (hd.map C.v ++ cs))) ∧ (∀ j ∈ T, rget ρ' j = .no) ∧ acc.length ≤ i + 1 ∧ lcK T wg wt we (ds.drop (i + 1)) acc ρ' fun acc ρ2 => QD (.own 0 (.lst acc)) (back ρ1 T ρ2) := by
      intro σ2 H' ρ' acc' on S hle q
      have S' := (S.clrs T).wiped (T := T) (fun j hj => clr_in hj) hL
      rw [only_wipe on, wipe_wipe] at S'
      exact ⟨acc', clr T ρ', S', fun j hj => clr_in hj, hle, q⟩
    refine ⟨_, ρ2, _, ds[i], _, S9, fun j hj k q e => ?_, q6, fun σ2 H4 ρ4 S10 on q10 => ⟨by rw [only_wipe on, wipe_wipe], _, ρ4, _, _, fun _ _ => False, S10, q10, noX σ2, fun b H5 ρ5 S11 q11 => ?_⟩⟩
    · have q' := S6.pk k q
      rw [e, hL j hj] at q'; cases q'
    · cases b with
      | false =>
        rw [if_neg Bool.false_ne_true] at q11 ⊢
        exact turn on S11 (by omega) q11
      | true =>
        rw [if_pos rfl] at q11 ⊢
        refine ⟨_, ρ5, _, _, fun _ _ => False, S11, q11, noX σ2, fun z H6 c ρ6 S12 q12 => ?_⟩
        split at q12
        · rename_i d' ec
          have S13 := S12.frzTop
          rw [ec] at S13
          obtain ⟨zs, e1, e2, S14⟩ := S13.appTop
          exact ⟨zs, e1, by omega, turn on S14 (by simp; omega) q12⟩
        · exact q12.elim
  · refine .inl ⟨wk.stop H2 _ i dom dd (by omega), ?_⟩
    have ed : ds.drop i = [] := List.drop_eq_nil_of_le (by omega)
    rw [ed] at q6
    have S8 : SR K g σ (.ref D :: (ks ++ (hs ++ vs))) H2 ρ2 (.own 0 (.lst acc) :: ((keptD ρ1 T).map C.v ++ (hd.map C.v ++ cs))) := by
      refine S6.agree (wipe_length σ T).symm (fun j hj => (wipe_get fun z => hj (hno j z)).symm) fun j hj => (wipe_get fun z => ?_).symm
      have q' := S6.pk j hj
      rw [hL j z] at q'; cases q'
    have S9 : SR K g σ (ks ++ .ref D :: (hs ++ vs)) H2 ρ2 ((keptD ρ1 T).map C.v ++ .own 0 (.lst acc) :: (hd.map C.v ++ cs)) := SR.unrot hlk S8
    have S10 := SR.backs_ k1 k3 S9
    exact hQ (.ref D) H2 _ _ (SR.unCall hlh S10) q6
end
section
variable {X : Cx} {g : G} {W : WX} {elt tg iter : Expr} {ifs : List Expr} {scope : Scope} {own : List (Str × Nat)} {pos : Pos} {wi : WI} {wg : WG} {wt : WT} {we : WE}
theorem ee_lc (hc : X.calm = true) (hN : X.N.Nodup) (hL : ∀ j ∈ own.map (·.2), g.L j = false) (hi : EI X g W tg iter wi) (ok : BlkOk X.N X.env.scope scope own)
    (hg : ∀ (s : Shared) (H : Hp) (C : Addr) (cl : List (Str × Addr)) (fp : List Addr), EG (X.blk s H scope (compEnvC scope cl C X.env) fp) g tg (own.map (·.2)) wg)
    (ht : ∀ (s : Shared) (H : Hp) (C : Addr) (cl : List (Str × Addr)) (fp : List Addr), ETs (X.blk s H scope (compEnvC scope cl C X.env) fp) g W0 ifs wt)
    (he : ∀ (s : Shared) (H : Hp) (C : Addr) (cl : List (Str × Addr)) (fp : List Addr), EE (X.blk s H scope (compEnvC scope cl C X.env) fp) g W0 elt we) (hs : ∀ x, foldedSetIterable iter X.env x = pure x := by intro _; rfl) :
    EE X g W (.ListComp elt [⟨tg, iter, ifs, 0⟩] scope pos) (wLcB (own.map (·.2)) wi wg wt we) := by
  obtain ⟨t, p, s⟩ := hi.ex
  exact ⟨_, pe_lc hc hN p ok (fun s H C cl fp => (hg s H C cl fp).can) (fun s H C cl fp => (ht s H C cl fp).can) (fun s H C cl fp => (he s H C cl fp).can) hs, sem_lc hL s⟩
theorem es_setLcF {i : Nat} {y : Str} {py spos : Pos} (hc : X.calm = true) (hN : X.N.Nodup) (hy : X.N[i]? = some y) (hyl : X.env.scope.names.lookup y = some .local) (hsw : swapsWith (.ListComp elt [⟨tg, iter, ifs, 0⟩] scope pos) (some (.Name y py)) spos.line X.env = pure true)
    (hL : ∀ j ∈ own.map (·.2), g.L j = false) (hi : EI X g W tg iter wi) (ok : BlkOk X.N X.env.scope scope own)
    (hg : ∀ (s : Shared) (H : Hp) (C : Addr) (cl : List (Str × Addr)) (fp : List Addr), EG (X.blk s H scope (compEnvC scope cl C X.env) fp) g tg (own.map (·.2)) wg)
    (ht : ∀ (s : Shared) (H : Hp) (C : Addr) (cl : List (Str × Addr)) (fp : List Addr), ETs (X.blk s H scope (compEnvC scope cl C X.env) fp) g W0 ifs wt)
    (he : ∀ (s : Shared) (H : Hp) (C : Addr) (cl : List (Str × Addr)) (fp : List Addr), EE (X.blk s H scope (compEnvC scope cl C X.env) fp) g W0 elt we) (hs : ∀ x, foldedSetIterable iter X.env x = pure x := by intro _; rfl) :
    ES X g W (.Assign [.Name y py] (.ListComp elt [⟨tg, iter, ifs, 0⟩] scope pos) spos) (wSetF i (wLcB (own.map (·.2)) wi wg wt we)) := by
  obtain ⟨t, p, s⟩ := hi.ex
  exact ⟨_, ps_setLc hc hN hy hyl hsw p ok (fun s H C cl fp => (hg s H C cl fp).can) (fun s H C cl fp => (ht s H C cl fp).can) (fun s H C cl fp => (he s H C cl fp).can) hs, sem_setF (sem_lc hL s)⟩
end
end DL

set_option Elab.async false
set_option linter.all false
set_option maxRecDepth 100000
set_option maxHeartbeats 4000000
/-! DL: subscripts, slices, built-ins, own lists changed by statements. -/
namespace DL
open PySem PySem.Spec PyProof.Rows L2

/-! ### places -/
def optK {α : Type} (o : Option α) (k : α → Prop) : Prop := match o with
  | some a => k a
  | none => False
theorem optK_of {α : Type} {o : Option α} {k : α → Prop} {a : α} (e : o = some a) (h : k a) : optK o k := by subst e; exact h
theorem atI_0 {α : Type} {x : α} {xs : List α} : atI (x :: xs) 0 = some x := L2.atI_nat (j := 0) rfl
theorem atI_1 {α : Type} {x y : α} {xs : List α} : atI (x :: y :: xs) 1 = some y := L2.atI_nat (j := 1) rfl
theorem atI_2 {α : Type} {x y z : α} {xs : List α} : atI (x :: y :: z :: xs) 2 = some z := L2.atI_nat (j := 2) rfl
theorem atI_3 {α : Type} {x y z u : α} {xs : List α} : atI (x :: y :: z :: u :: xs) 3 = some u := L2.atI_nat (j := 3) rfl
theorem atI_4 {α : Type} {x y z u v : α} {xs : List α} : atI (x :: y :: z :: u :: v :: xs) 4 = some v := L2.atI_nat (j := 4) rfl
@[simp] theorem optK_some {α : Type} {a : α} {k : α → Prop} : optK (some a) k = k a := rfl
@[reducible] def oIx : O2 := fun d1 d2 k => match d1, d2 with
  | .list ds, .int i => optK (atI ds i) fun d => k (.v d)
  | .tuple ds, .int i => optK (atI ds i) fun d => k (.v d)
  | .str z, .int i => z.length ≤ sizeLine ∧ optK (atI z.cps.toList i) fun c => k (.v (.str ⟨#[c]⟩))
  | _, _ => False
theorem atI_dp {K : PySem.W.Frag} {B : Hp} {xs : List V} {ds : List D} {i : Int} {d : D} (h : DpAll K B xs ds) (e : atI ds i = some d) : ∃ v, atI xs i = some v ∧ Dp K B v d := by
  unfold atI at e ⊢
  rw [DL.DpAll.len h]
  cases q : ixN ds.length i with
  | none => rw [q] at e; cases e
  | some j =>
    rw [q] at e
    exact DL.DpAll.get h e
theorem same_hide {H : Hp} {O : List Addr} : Same (hide H O) H := fun _ _ e => (hide_some.mp e).2
theorem lift_ix {K : PySem.W.Frag} : Lift2 K (rIx K) oIx := by
  intro O H x y dx dy QD Q _ hx hy q fin
  cases hx with
  | lst h1 h2 =>
    cases hy <;> try exact q.elim
    rename_i i
    revert q
    show optK _ _ → _
    intro q
    rename_i ds
    cases e : atI ds i with
    | none => rw [e] at q; exact q.elim
    | some d =>
      rw [e] at q
      obtain ⟨v, e1, e2⟩ := atI_dp h2 e
      exact .inl ⟨_, _, i, v, rfl, rfl, Same.seq same_hide h1, e1, fin v H (.v d) (Same.refl H) e2 q⟩
  | tup h1 h2 =>
    cases hy <;> try exact q.elim
    rename_i i
    rename_i ds
    cases e : atI ds i with
    | none =>
      have q' : optK (atI ds i) _ := q
      rw [e] at q'; exact q'.elim
    | some d =>
      have q' : optK (atI ds i) _ := q
      rw [e] at q'
      obtain ⟨v, e1, e2⟩ := atI_dp h2 e
      exact .inr (.inl ⟨_, _, i, v, rfl, rfl, seqT_same same_hide h1, e1, fin v H (.v d) (Same.refl H) e2 q'⟩)
  | str z =>
    cases hy <;> try exact q.elim
    rename_i i
    obtain ⟨hz, q⟩ := q
    cases e : atI z.cps.toList i with
    | none => rw [e] at q; exact q.elim
    | some c =>
      rw [e] at q
      exact .inr (.inr ⟨z, i, c, rfl, rfl, hz, e, fin _ H (.v _) (Same.refl H) (.str _) q⟩)
  | _ => exact q.elim
section
variable {X : Cx} {g : G} {W : WX} {a b : Expr} {wa wb : WE} {pos : Pos}
theorem ee_ix (ha : EE X g W a wa) (hb : EE X g W b wb) (hp : PlainIx b := by intro _ _; rfl) : EE X g W (.Subscript a b pos) (wB oIx wa wb) := by
  obtain ⟨ta, p1, s1⟩ := ha.ex
  obtain ⟨tb, p2, s2⟩ := hb.ex
  exact ⟨_, pe_ix ix_seq p1 p2 hp, sem_op lift_ix s1 s2⟩
end

/-! ### slices -/
@[reducible] def cutD (ds : List D) (lo hi : Option Int) : List D := (ds.drop (HT.sIx ds.length 0 lo)).take (HT.sIx ds.length ds.length hi - HT.sIx ds.length 0 lo)
theorem DpAll.cut {K : PySem.W.Frag} {B : Hp} {xs : List V} {ds : List D} (lo hi : Option Int) (h : DpAll K B xs ds) : DpAll K B (cutV xs lo hi) (cutD ds lo hi) := by
  unfold cutV cutD
  rw [DL.DpAll.len h]
  exact DL.DpAll.takeN _ (DL.DpAll.dropN _ h)
abbrev WO := Rho → (Option Int → Rho → Prop) → KX → Prop
def SemO (K : PySem.W.Frag) (g : G) (W : WX) (t : TO) (w : WO) : Prop :=
  ∀ (σ : L2.St) (vs : List V) (H : Hp) (ρ : Rho) (cs : List C) (QD : Option Int → Rho → Prop) (ED : KX) (Q : Option Int → Hp → Prop), SR K g σ vs H ρ cs → w ρ QD ED → XEnds K g W σ ED →
    (∀ o H' ρ', SR K g σ vs H' ρ' cs → QD o ρ' → Q o H') → t σ H Q
structure EO (X : Cx) (g : G) (W : WX) (e : Option Expr) (w : WO) : Prop where
  ex : ∃ t, PO X e t ∧ SemO X.K g W t w
@[reducible] def wNoPart : WO := fun ρ Q _ => Q none ρ
@[reducible] def wPart (we : WE) : WO := fun ρ Q E => we ρ (fun c ρ1 => match c with
  | .v (.int i) => Q (some i) ρ1
  | _ => False) E
@[reducible] def oSl (lo hi : Option Int) : O1 := fun d k => match d with
  | .list ds => k (.own 0 (.lst (cutD ds lo hi)))
  | .tuple ds => k (.v (.tuple (cutD ds lo hi)))
  | .str z => z.length ≤ sizeLine ∧ k (.v (.str (cutS z lo hi)))
  | _ => False
@[reducible] def wSl (we : WE) (wl wh : WO) : WE := fun ρ Q E => we ρ (fun c ρ1 => wl ρ1 (fun lo ρ2 => wh ρ2 (fun hi ρ3 => use1 ρ3 c (oSl lo hi) Q) E) E) E
theorem cutD_whole {xs : List D} {lo hi : Option Int} (h : HT.sIx xs.length 0 lo = 0 ∧ HT.sIx xs.length xs.length hi = xs.length) : cutD xs lo hi = xs := by
  unfold cutD
  rw [h.1, h.2]
  simp
theorem lift_sl {K : PySem.W.Frag} (lo hi : Option Int) : Lift1 K (fun x H Q => rSlL K x lo hi H Q ∨ (rSlA K x lo hi H Q ∨ rSlS x lo hi H Q)) (oSl lo hi) := by
  intro O H x dx QD Q hO hx q fin
  cases hx with
  | lst h1 h2 => exact .inl ⟨_, _, rfl, Same.seq same_hide h1, fun p n => fin _ _ (.own 0 (.lst _)) (same_new n) (new_lst n (DL.DpAll.cut lo hi h2)) q⟩
  | tup h1 h2 =>
    refine .inr (.inl ⟨_, _, rfl, seqT_same same_hide h1, fun z => ?_, fun z p n => ?_⟩)
    · refine fin _ H (.v _) (Same.refl H) ?_ q
      rw [DL.DpAll.len h2] at z
      rw [cutD_whole z]
      exact .tup h1 h2
    · exact fin _ _ (.v _) (same_new n) (new_tup n (fun z => by obtain ⟨u, e⟩ := hO p z; rw [n] at e; cases e) (DL.DpAll.cut lo hi h2)) q
  | str z => exact .inr (.inr ⟨z, rfl, q.1, fin _ H (.v _) (Same.refl H) (.str _) q.2⟩)
  | _ => exact q.elim
section
variable {X : Cx} {g : G} {W : WX} {e : Expr} {lo hi : Option Expr} {we : WE} {wl wh : WO} {pos p2 : Pos}
theorem eo_none : EO X g W none wNoPart := ⟨_, po_none, fun σ vs H ρ cs QD ED Q hS hw hX hQ => hQ none H ρ hS hw⟩
theorem eo_some (h : EE X g W e we) : EO X g W (some e) (wPart we) := by
  obtain ⟨t, p, s⟩ := h.ex
  refine ⟨_, po_some p, fun σ vs H ρ cs QD ED Q hS hw hX hQ => ?_⟩
  refine s σ vs H ρ cs _ ED _ hS hw hX fun x H1 c ρ1 S1 q1 => ?_
  split at q1
  · rename_i i
    have q := S1.top
    cases q
    exact ⟨i, rfl, hQ _ H1 ρ1 S1.pop q1⟩
  · exact q1.elim
theorem ee_sl (he : EE X g W e we) (hl : EO X g W lo wl) (hh : EO X g W hi wh) : EE X g W (.Subscript e (.Slice lo hi none p2) pos) (wSl we wl wh) := by
  obtain ⟨t, p, s⟩ := he.ex
  obtain ⟨t1, q1, s1⟩ := hl.ex
  obtain ⟨t2, q2, s2⟩ := hh.ex
  refine ⟨_, pe_slice (SlR.or sl_list (SlR.or sl_tupA sl_str)) p q1 q2, fun σ vs H ρ cs QD ED Q hS hw hX hQ => ?_⟩
  refine s σ vs H ρ cs _ ED _ hS hw hX fun x H1 c ρ1 S1 z1 => ?_
  refine s1 σ (x :: vs) H1 ρ1 (c :: cs) _ ED _ S1 z1 hX fun l H2 ρ2 S2 z2 => ?_
  refine s2 σ (x :: vs) H2 ρ2 (c :: cs) _ ED _ S2 z2 hX fun h H3 ρ3 S3 z3 => ?_
  exact S3.use1 (lift_sl l h) z3 fun v H' c S4 q4 => hQ v H' c ρ3 S4 q4
end

/-! ### built-ins over data -/
section
variable {K : PySem.W.Frag}
@[reducible] def oLen : OL := fun ds k => match ds with
  | [.str x] => x.length ≤ sizeLine ∧ k (.v (.int x.length))
  | [.list es] => k (.v (.int es.length))
  | [.tuple es] => k (.v (.int es.length))
  | _ => False
theorem lift_len : LiftL K (fun xs H Q => ∃ x n, xs = [x] ∧ LenV K x H n ∧ Q (.int n) H) oLen := by
  intro O H xs ds QD Q _ hx q fin
  unfold oLen at q
  split at q
  · rename_i z
    cases hx with
    | cons h1 h2 => cases h2; cases h1; exact ⟨_, _, rfl, ⟨q.1, rfl⟩, fin _ H (.v _) (Same.refl H) (.int _) q.2⟩
  · rename_i es
    cases hx with
    | cons h1 h2 =>
      cases h2
      cases h1 with
      | lst a1 a2 => exact ⟨_, _, rfl, .inl ⟨_, Same.seq same_hide a1, rfl⟩, fin _ H (.v _) (Same.refl H) (by rw [DL.DpAll.len a2]; exact .int _) q⟩
  · rename_i es
    cases hx with
    | cons h1 h2 =>
      cases h2
      cases h1 with
      | tup a1 a2 => exact ⟨_, _, rfl, .inr ⟨_, seqT_same same_hide a1, rfl⟩, fin _ H (.v _) (Same.refl H) (by rw [DL.DpAll.len a2]; exact .int _) q⟩
  · exact q.elim
@[reducible] def oMin2 : OL := fun ds k => match ds with
  | [.int i, .int j] => k (.v (.int (if j < i then j else i)))
  | _ => False
@[reducible] def oMax2 : OL := fun ds k => match ds with
  | [.int i, .int j] => k (.v (.int (if j > i then j else i)))
  | _ => False
@[reducible] def oAbs : OL := fun ds k => match ds with
  | [.int i] => k (.v (.int (if i < 0 then -i else i)))
  | _ => False
@[reducible] def oInt1 : OL := fun ds k => match ds with
  | [.int i] => k (.v (.int i))
  | [.bool b] => k (.v (.int (if b then 1 else 0)))
  | _ => False
theorem lift_min2 : LiftL K (fun xs H Q => ∃ i j, xs = [.int i, .int j] ∧ Q (.int (if j < i then j else i)) H) oMin2 := by
  intro O H xs ds QD Q _ hx q fin
  unfold oMin2 at q
  split at q
  · rename_i i j
    cases hx with
    | cons h1 h2 => cases h2 with
      | cons h2 h3 => cases h3; cases h1; cases h2; exact ⟨_, _, rfl, fin _ H (.v _) (Same.refl H) (.int _) q⟩
  · exact q.elim
theorem lift_max2 : LiftL K (fun xs H Q => ∃ i j, xs = [.int i, .int j] ∧ Q (.int (if j > i then j else i)) H) oMax2 := by
  intro O H xs ds QD Q _ hx q fin
  unfold oMax2 at q
  split at q
  · rename_i i j
    cases hx with
    | cons h1 h2 => cases h2 with
      | cons h2 h3 => cases h3; cases h1; cases h2; exact ⟨_, _, rfl, fin _ H (.v _) (Same.refl H) (.int _) q⟩
  · exact q.elim
theorem lift_abs : LiftL K (fun xs H Q => ∃ i, xs = [.int i] ∧ Q (.int (if i < 0 then -i else i)) H) oAbs := by
  intro O H xs ds QD Q _ hx q fin
  unfold oAbs at q
  split at q
  · rename_i i
    cases hx with
    | cons h1 h2 => cases h2; cases h1; exact ⟨_, rfl, fin _ H (.v _) (Same.refl H) (.int _) q⟩
  · exact q.elim
theorem lift_int1 : LiftL K (fun xs H Q => (∃ i, xs = [.int i] ∧ Q (.int i) H) ∨ ∃ k, xs = [.bl k] ∧ Q (.int (if k then 1 else 0)) H) oInt1 := by
  intro O H xs ds QD Q _ hx q fin
  unfold oInt1 at q
  split at q
  · rename_i i
    cases hx with
    | cons h1 h2 => cases h2; cases h1; exact .inl ⟨_, rfl, fin _ H (.v _) (Same.refl H) (.int _) q⟩
  · rename_i b
    cases hx with
    | cons h1 h2 => cases h2; cases h1; exact .inr ⟨_, rfl, fin _ H (.v _) (Same.refl H) (.int _) q⟩
  · exact q.elim
@[reducible] def intsOf : List D → Option (List Int)
  | [] => some []
  | .int i :: ds => (intsOf ds).map (i :: ·)
  | _ => none
@[reducible] def boolsOf : List D → Option (List Bool)
  | [] => some []
  | .bool i :: ds => (boolsOf ds).map (i :: ·)
  | _ => none
@[reducible] def strsOf : List D → Option (List Str)
  | [] => some []
  | .str i :: ds => (strsOf ds).map (i :: ·)
  | _ => none
@[simp] theorem intsOf_map : ∀ (ns : List Int), intsOf (ns.map PyData.int) = some ns
  | [] => rfl
  | n :: ns => by rw [List.map_cons, intsOf, intsOf_map]; rfl
@[simp] theorem boolsOf_map : ∀ (ns : List Bool), boolsOf (ns.map PyData.bool) = some ns
  | [] => rfl
  | n :: ns => by rw [List.map_cons, boolsOf, boolsOf_map]; rfl
@[simp] theorem strsOf_map : ∀ (ns : List Str), strsOf (ns.map PyData.str) = some ns
  | [] => rfl
  | n :: ns => by rw [List.map_cons, strsOf, strsOf_map]; rfl
theorem intsOf_dp {B : Hp} : ∀ {ds : List D} {xs : List V} {ns : List Int}, DpAll K B xs ds → intsOf ds = some ns → xs = ns.map V.int
  | [], _, _, h, e => by cases h; cases e; rfl
  | d :: ds, _, ns, h, e => by
    cases h with
    | cons h1 h2 =>
      cases d <;> try cases e
      rename_i i
      rw [intsOf] at e
      cases q : intsOf ds with
      | none => rw [q] at e; cases e
      | some ms => rw [q] at e; cases e; cases h1; rw [intsOf_dp h2 q]; rfl
theorem boolsOf_dp {B : Hp} : ∀ {ds : List D} {xs : List V} {ns : List Bool}, DpAll K B xs ds → boolsOf ds = some ns → xs = ns.map V.bl
  | [], _, _, h, e => by cases h; cases e; rfl
  | d :: ds, _, ns, h, e => by
    cases h with
    | cons h1 h2 =>
      cases d <;> try cases e
      rename_i i
      rw [boolsOf] at e
      cases q : boolsOf ds with
      | none => rw [q] at e; cases e
      | some ms => rw [q] at e; cases e; cases h1; rw [boolsOf_dp h2 q]; rfl
theorem strsOf_dp {B : Hp} : ∀ {ds : List D} {xs : List V} {ns : List Str}, DpAll K B xs ds → strsOf ds = some ns → xs = ns.map V.str
  | [], _, _, h, e => by cases h; cases e; rfl
  | d :: ds, _, ns, h, e => by
    cases h with
    | cons h1 h2 =>
      cases d <;> try cases e
      rename_i i
      rw [strsOf] at e
      cases q : strsOf ds with
      | none => rw [q] at e; cases e
      | some ms => rw [q] at e; cases e; cases h1; rw [strsOf_dp h2 q]; rfl
@[reducible] def oAll : OL := fun ds k => match ds with
  | [.list es] => optK (boolsOf es) fun bs => k (.v (.bool (bs.all id)))
  | _ => False
theorem lift_all : LiftL K (rAll K) oAll := by
  intro O H xs ds QD Q _ hx q fin
  unfold oAll at q
  split at q
  · rename_i es
    cases hx with
    | cons h1 h2 =>
      cases h2
      cases h1 with
      | lst a1 a2 =>
        cases e : boolsOf es with
        | none => rw [e] at q; exact q.elim
        | some ns =>
          rw [e] at q
          have e2 := boolsOf_dp a2 e
          subst e2
          exact ⟨_, ns, rfl, Same.seq same_hide a1, fin _ H (.v _) (Same.refl H) (.bl _) q⟩
  · exact q.elim
@[reducible] def oTuple : OL := fun ds k => match ds with
  | [.list es] => k (.v (.tuple es))
  | [.tuple es] => k (.v (.tuple es))
  | _ => False
theorem lift_tuple : LiftL K (fun xs H Q => ∃ p ys, xs = [.ref p] ∧ ((SqL K H p ys ∧ ∀ l, H l = none → Q (.ref l) (upd H l (.tup ys))) ∨ (SqT K H p ys ∧ Q (.ref p) H))) oTuple := by
  intro O H xs ds QD Q hO hx q fin
  unfold oTuple at q
  split at q
  · rename_i es
    cases hx with
    | cons h1 h2 =>
      cases h2
      cases h1 with
      | lst a1 a2 => exact ⟨_, _, rfl, .inl ⟨Same.seq same_hide a1, fun p n => fin _ _ (.v _) (same_new n) (new_tup n (fun z => by obtain ⟨u, e⟩ := hO p z; rw [n] at e; cases e) a2) q⟩⟩
  · rename_i es
    cases hx with
    | cons h1 h2 =>
      cases h2
      cases h1 with
      | tup a1 a2 => exact ⟨_, _, rfl, .inr ⟨seqT_same same_hide a1, fin _ H (.v _) (Same.refl H) (.tup a1 a2) q⟩⟩
  · exact q.elim
@[reducible] def oList : OL := fun ds k => match ds with
  | [.list es] => k (.own 0 (.lst es))
  | [.tuple es] => k (.own 0 (.lst es))
  | _ => False
theorem lift_list : LiftL K (fun xs H Q => ∃ p ys, xs = [.ref p] ∧ (SqL K H p ys ∨ SqT K H p ys) ∧ ∀ l, H l = none → Q (.ref l) (upd H l (.lst ys))) oList := by
  intro O H xs ds QD Q hO hx q fin
  unfold oList at q
  split at q
  · rename_i es
    cases hx with
    | cons h1 h2 =>
      cases h2
      cases h1 with
      | lst a1 a2 => exact ⟨_, _, rfl, .inl (Same.seq same_hide a1), fun p n => fin _ _ (.own 0 (.lst _)) (same_new n) (new_lst n a2) q⟩
  · rename_i es
    cases hx with
    | cons h1 h2 =>
      cases h2
      cases h1 with
      | tup a1 a2 => exact ⟨_, _, rfl, .inr (seqT_same same_hide a1), fun p n => fin _ _ (.own 0 (.lst _)) (same_new n) (new_lst n a2) q⟩
  · exact q.elim
end
section
variable {X : Cx} {g : G} {W : WX} {e : Expr} {es : List Expr} {wa : WA} {pos p : Pos}
theorem ee_len (hg : Gl X "len") (hm : X.mg "len" = none) (ha : EA X g W (e :: es) wa) (he : starEach (e :: es) X.env = (false, eval e X.env) :: starEach es X.env := by rfl) (hpl : (backTo pos (starEach es X.env)).any (·.1) = false := by rfl) : EE X g W (.Call (.Name "len" p) (e :: es) [] pos) (wL oLen wa) :=
  ee_cb call_len lift_len hg hm PySem.boot_len ha (he := he) (hpl := hpl)
theorem ee_min2 (hc : X.calm = true) (hg : Gl X "min") (hm : X.mg "min" = none) (ha : EA X g W (e :: es) wa) (he : starEach (e :: es) X.env = (false, eval e X.env) :: starEach es X.env := by rfl) (hpl : (backTo pos (starEach es X.env)).any (·.1) = false := by rfl) : EE X g W (.Call (.Name "min" p) (e :: es) [] pos) (wL oMin2 wa) :=
  ee_cb (call_min2 hc) lift_min2 hg hm (by decide +kernel) ha (he := he) (hpl := hpl)
theorem ee_max2 (hc : X.calm = true) (hg : Gl X "max") (hm : X.mg "max" = none) (ha : EA X g W (e :: es) wa) (he : starEach (e :: es) X.env = (false, eval e X.env) :: starEach es X.env := by rfl) (hpl : (backTo pos (starEach es X.env)).any (·.1) = false := by rfl) : EE X g W (.Call (.Name "max" p) (e :: es) [] pos) (wL oMax2 wa) :=
  ee_cb (call_max2 hc) lift_max2 hg hm (by decide +kernel) ha (he := he) (hpl := hpl)
theorem ee_abs (hg : Gl X "abs") (hm : X.mg "abs" = none) (ha : EA X g W (e :: es) wa) (he : starEach (e :: es) X.env = (false, eval e X.env) :: starEach es X.env := by rfl) (hpl : (backTo pos (starEach es X.env)).any (·.1) = false := by rfl) : EE X g W (.Call (.Name "abs" p) (e :: es) [] pos) (wL oAbs wa) :=
  ee_cb call_abs lift_abs hg hm (by decide +kernel) ha (he := he) (hpl := hpl)
theorem ee_int1 (hg : Gl X "int") (hm : X.mg "int" = none) (ha : EA X g W (e :: es) wa) (he : starEach (e :: es) X.env = (false, eval e X.env) :: starEach es X.env := by rfl) (hpl : (backTo pos (starEach es X.env)).any (·.1) = false := by rfl) : EE X g W (.Call (.Name "int" p) (e :: es) [] pos) (wL oInt1 wa) :=
  ee_ct call_int1 lift_int1 hg hm (by decide +kernel) ha (he := he) (hpl := hpl)
theorem ee_all (hc : X.calm = true) (hg : Gl X "all") (hm : X.mg "all" = none) (ha : EA X g W (e :: es) wa) (he : starEach (e :: es) X.env = (false, eval e X.env) :: starEach es X.env := by rfl) (hpl : (backTo pos (starEach es X.env)).any (·.1) = false := by rfl) : EE X g W (.Call (.Name "all" p) (e :: es) [] pos) (wL oAll wa) :=
  ee_cb (cr_all hc) lift_all hg hm (by decide +kernel) ha (he := he) (hpl := hpl)
theorem ee_tuple (hg : Gl X "tuple") (hm : X.mg "tuple" = none) (ha : EA X g W (e :: es) wa) (he : starEach (e :: es) X.env = (false, eval e X.env) :: starEach es X.env := by rfl) (hpl : (backTo pos (starEach es X.env)).any (·.1) = false := by rfl) : EE X g W (.Call (.Name "tuple" p) (e :: es) [] pos) (wL oTuple wa) :=
  ee_ct call_tuple_of lift_tuple hg hm (by decide +kernel) ha (he := he) (hpl := hpl)
theorem ee_list (hg : Gl X "list") (hm : X.mg "list" = none) (ha : EA X g W (e :: es) wa) (he : starEach (e :: es) X.env = (false, eval e X.env) :: starEach es X.env := by rfl) (hpl : (backTo pos (starEach es X.env)).any (·.1) = false := by rfl) : EE X g W (.Call (.Name "list" p) (e :: es) [] pos) (wL oList wa) :=
  ee_ct call_list_of lift_list hg hm (by decide +kernel) ha (he := he) (hpl := hpl)
@[reducible] def isT (T : String) : D → Bool
  | .none => T == "NoneType" || T == "object"
  | .bool _ => T == "bool" || T == "int" || T == "object"
  | .int _ => T == "int" || T == "object"
  | .str _ => T == "str" || T == "object"
  | .list _ => T == "list" || T == "object"
  | .tuple _ => T == "tuple" || T == "object"
  | .dict _ => T == "dict" || T == "object"
@[reducible] def oIsi (T : String) : O1 := fun d k => k (.v (.bool (isT T d)))
theorem ee_isi {we : WE} {T : Str} {n : String} {p3 : Pos} (hg : Gl X "isinstance") (hm : X.mg "isinstance" = none) (hgT : Gl X T) (hmT : X.mg T = none) (hT : bootBuiltins T = some (.type n)) (hne : T ≠ "__name__" := by decide) (hdb : (T == ("__debug__" : Str)) = false := by decide)
    (hk : (["NoneType", "bool", "int", "str", "list", "tuple", "dict"].zip [.none, .bool true, .int 0, .str ⟨#[]⟩, .list [], .tuple [], .dict []]).all (fun q => decide (kitB q.1 n = some (isT n q.2))) = true) (h : EE X g W e we)
    (he : starEach [e, .Name T p3] X.env = (false, eval e X.env) :: starEach [.Name T p3] X.env := by rfl) (he2 : starEach [.Name T p3] X.env = (false, eval (.Name T p3) X.env) :: starEach [] X.env := by rfl) (hpl : (backTo pos (starEach [.Name T p3] X.env)).any (·.1) = false := by rfl) :
    EE X g W (.Call (.Name "isinstance" p) [e, .Name T p3] [] pos) (wU (oIsi n) we) := by
  obtain ⟨t, q, s⟩ := h.ex
  refine ⟨_, pe_callB call_isi hg hm (by decide +kernel) (pa_cons q (pa_cons (pe_bltn (v := .ty n) hgT hmT hT rfl hne hdb) pa_nil he2) he) (he := he) (hpl := hpl), fun σ vs H ρ cs QD ED Q hS hw hX hQ => ?_⟩
  refine s σ vs H ρ cs _ ED _ hS hw hX fun x H1 c ρ1 S1 q1 => ?_
  refine S1.use1 (r := fun x H Q => rIsi X.K [x, .ty n] H Q) (fun O H x dx QD Q _ hx q fin => ?_) q1 fun v H' c S3 q3 => hQ v H' c ρ1 S3 q3
  have fin' := fin (.bl (isT n dx)) H (.v (.bool (isT n dx))) (Same.refl H) (.bl _) q
  have kk : ∀ a d, (a, d) ∈ (["NoneType", "bool", "int", "str", "list", "tuple", "dict"].zip [PyData.none, .bool true, .int 0, .str ⟨#[]⟩, .list [], .tuple [], .dict []]) → kitB a n = some (isT n d) := fun a d m => of_decide_eq_true (List.all_eq_true.mp hk _ m)
  have mk : ∀ (a : String) (b : Bool), kitB a n = some b → TyX X.K H x (.type a) → b = isT n dx → rIsi X.K [x, .ty n] H Q := fun a b e ty eb => by
    subst eb
    exact ⟨x, .ty n, .type a, .type n, _, rfl, .ty n, ty, kit_ty e, fin'⟩
  cases hx with
  | non => exact mk "NoneType" _ (kk "NoneType" .none (by simp)) (.base .non) rfl
  | bl b => exact mk "bool" _ (kk "bool" (.bool true) (by simp)) (.base (.bl _)) rfl
  | int i => exact mk "int" _ (kk "int" (.int 0) (by simp)) (.base (.int _)) rfl
  | str z => exact mk "str" _ (kk "str" (.str ⟨#[]⟩) (by simp)) (.base (.str _)) rfl
  | lst h1 h2 =>
    refine mk "list" _ (kk "list" (.list []) (by simp)) ?_ rfl
    rcases h1 with (h1 | ⟨o, h1⟩) | ⟨o, its, m, h1, h3, _⟩
    · exact .base (.lst (hide_some.mp h1).2)
    · exact .base (.frz (hide_some.mp h1).2)
    · exact .kList h1 h3
  | tup h1 h2 =>
    refine mk "tuple" _ (kk "tuple" (.tuple []) (by simp)) ?_ rfl
    rcases h1 with (h1 | ⟨o, h1⟩) | ⟨o, its, m, h1, h3, _⟩
    · exact .base (.tup (hide_some.mp h1).2)
    · exact .fTuple (hide_some.mp h1).2
    · exact .kTuple h1 h3
  | dic h1 => exact mk "dict" _ (kk "dict" (.dict []) (by simp)) (.base (.dK (hide_some.mp h1).2)) rfl
theorem ee_isi2 {we : WE} {T : Str} {n : String} {p3 : Pos} (hg : Gl X "isinstance") (hm : X.mg "isinstance" = none) (hgT : Gl X T) (hmT : X.mg T = none) (h : EE X g W e we)
    (hT : bootBuiltins T = some (.type n) := by decide +kernel) (hk : (["NoneType", "bool", "int", "str", "list", "tuple", "dict"].zip [.none, .bool true, .int 0, .str ⟨#[]⟩, .list [], .tuple [], .dict []]).all (fun q => decide (kitB q.1 n = some (isT n q.2))) = true := by decide +kernel)
    (hne : T ≠ "__name__" := by decide) (hdb : (T == ("__debug__" : Str)) = false := by decide)
    (he : starEach [e, .Name T p3] X.env = (false, eval e X.env) :: starEach [.Name T p3] X.env := by rfl) (he2 : starEach [.Name T p3] X.env = (false, eval (.Name T p3) X.env) :: starEach [] X.env := by rfl) (hpl : (backTo pos (starEach [.Name T p3] X.env)).any (·.1) = false := by rfl) :
    EE X g W (.Call (.Name "isinstance" p) [e, .Name T p3] [] pos) (wU (oIsi n) we) := ee_isi hg hm hgT hmT hT hne hdb hk h he he2 hpl
end
end DL

set_option Elab.async false
set_option linter.all false
set_option maxRecDepth 100000
set_option maxHeartbeats 4000000
/-! DL: own lists changed by statements; += ; lists joined. -/
namespace DL
open PySem PySem.Spec PyProof.Rows L2

@[reducible] def lstOf (ρ : Rho) : C → Option (List D)
  | .own _ (.lst ds) => some ds
  | .ln i => match rget ρ i with
    | .own _ (.lst ds) => some ds
    | _ => none
  | _ => none
section
variable {K : PySem.W.Frag} {g : G} {σ : L2.St} {vs : List V} {H H' : Hp} {ρ : Rho} {cs : List C} {i : Nat}
theorem SR.lst {x : V} {c : C} {ds : List D} (h : SR K g σ (x :: vs) H ρ (c :: cs)) (e : lstOf ρ c = some ds) : ∃ a xs, x = .ref a ∧ H a = some (.lst xs) ∧ DpAll K (hide H (tot σ (x :: vs) ρ (c :: cs) ++ g.P0)) xs ds := by
  cases c with
  | own t o =>
    cases o with
    | lst es =>
      cases e
      obtain ⟨a, e1, ⟨xs, q1, q2⟩, _⟩ := h.tp.1
      cases e1
      exact ⟨a, xs, rfl, q1, q2⟩
    | dct _ => cases e
    | dtt _ => cases e
    | lck _ _ _ _ => cases e
    | prp _ _ => cases e
    | tre _ => cases e
  | ln i =>
    obtain ⟨y, e1, e2⟩ := h.tp.1
    cases e1
    revert e
    show (match rget ρ i with
      | .own _ (.lst ds) => some ds
      | _ => none) = some ds → _
    split
    · rename_i t es eo
      intro e
      cases e
      obtain ⟨a, e3, _, ⟨xs, q1, q2⟩, _⟩ := h.own eo
      rw [e2] at e3
      cases e3
      exact ⟨a, xs, rfl, q1, q2⟩
    · intro e; cases e
  | _ => cases e
theorem SR.mutSlot {a : Addr} {t : Nat} {o o' : OD} (h : SR K g σ vs H ρ cs) (e : rget ρ i = .own t o) (e1 : σ[i]? = some (some (.ref a))) (hL : g.L i = true) (keep : ∀ b u, b ≠ a → H b = some u → H' b = some u) (new : OwnAt K (hide H (tot σ vs ρ cs ++ g.P0)) H' a o') (f1 : o.fp a = [a] := by rfl) (f2 : o'.fp a = [a] := by rfl) : SR K g σ vs H' (rset ρ i (.own t o')) cs := by
  have hlt : i < ρ.length := by rw [← h.len]; exact (List.getElem?_eq_some_iff.mp e1).1
  obtain ⟨_, h2⟩ := (h.pushPk e1 hL).moveOut e
  have pm : ∀ b, b ∈ tot σ (.ref a :: vs) (rset ρ i .no) (.own t o :: cs) ↔ b ∈ tot σ vs ρ cs := fun b => by
    have p := foot_out e1 e
    rw [foot_cons_own, f1]
    rw [f1, List.singleton_append] at p
    show b ∈ a :: (foot (vs.map some) cs ++ foot σ (rset ρ i .no)) ↔ b ∈ foot (vs.map some) cs ++ foot σ ρ
    simp only [List.mem_append, List.mem_cons, p.mem_iff]
    constructor
    · rintro (z | z | z) <;> simp [z]
    · rintro (z | z | z) <;> simp [z]
  have h3 := h2.mutTop (o' := o') keep (by
    rw [hide_congr (O' := tot σ vs ρ cs ++ g.P0) fun b => by simp only [List.mem_append (t := g.P0), pm b]]
    exact new) f1 f2
  have h4 := h3.moveIn (i := i) rfl e1 (rget_rset hlt)
  rw [rset_rset] at h4
  exact h4
end

/-! ### x.append(e), x.extend(e), x.pop() of an own list in slot i -/
@[reducible] def wApp (i : Nat) (we : WE) : WE := fun ρ Q E => match rget ρ i with
  | .own _ (.lst _) => we ρ (fun c ρ1 => match frzC c, rget ρ1 i with
    | .v d, .own t (.lst ds) => ds.length < sizeLine ∧ Q (.v .none) (rset ρ1 i (.own t (.lst (ds ++ [d]))))
    | _, _ => False) E
  | _ => False
section
variable {X : Cx} {g : G} {W : WX} {e : Expr} {we : WE} {i : Nat} {x : Str} {p apos pos : Pos}
theorem own_list {K : PySem.W.Frag} {g : G} {σ : L2.St} {vs : List V} {H : Hp} {ρ : Rho} {cs : List C} {i t : Nat} {ds : List D} (h : SR K g σ vs H ρ cs) (e : rget ρ i = .own t (.lst ds)) : ∃ a xs, σ[i]? = some (some (.ref a)) ∧ H a = some (.lst xs) ∧ DpAll K (hide H (tot σ vs ρ cs ++ g.P0)) xs ds := by
  obtain ⟨a, e1, _, ⟨xs, q1, q2⟩, _⟩ := h.own e
  exact ⟨a, xs, e1, q1, q2⟩
theorem dpAll_up {K : PySem.W.Frag} {g : G} {σ : L2.St} {vs : List V} {H : Hp} {ρ : Rho} {cs : List C} {x : V} {c : C} {xs : List V} {ds : List D} (h : DpAll K (hide H (tot σ (x :: vs) ρ (c :: cs) ++ g.P0)) xs ds) : DpAll K (hide H (tot σ vs ρ cs ++ g.P0)) xs ds := by
  refine dpAll_mono (fun a o q => ?_) _ _ h
  obtain ⟨h1, h2⟩ := hide_some.mp q
  refine hide_some.mpr ⟨fun z => h1 ?_, h2⟩
  rw [tot_cons]
  rcases List.mem_append.mp z with z | z
  · exact List.mem_append_left _ (List.mem_append_right _ z)
  · exact List.mem_append_right _ z
theorem ee_app (hL : g.L i = true) (hx : PE X (.Name x p) (tVar i)) (h : EE X g W e we)
    (hbase : attributeBase (.Name x p) "append" X.env (eval (.Name x p) X.env) = eval (.Name x p) X.env := by rfl)
    (hfew : ((backTo pos (starEach [e] X.env)).all (fun x => !x.1) && (backToKw pos (keywordEach [] X.env)).all (fun x => x.1.isSome) && decide (([e] : List Expr).length + ([] : List Keyword).length + (if ([] : List Keyword).isEmpty then 0 else 1) < 30)) = true := by rfl)
    (hline : (apos.endLine == pos.line) = true := by rfl) (hs : starEach [e] X.env = (false, eval e X.env) :: starEach [] X.env := by rfl) (hplain : (backTo pos (starEach [] X.env)).any (·.1) = false := by rfl) :
    EE X g W (.Call (.Attribute (.Name x p) "append" apos) [e] [] pos) (wApp i we) := by
  obtain ⟨t, q, s⟩ := h.ex
  refine ⟨_, pe_bm PySem.F.plainAttrs_list PySem.F.slot_list_append PySem.F.type_list_append mt_append hx (pa_cons q pa_nil hs) hbase hfew hline hs hplain, fun σ vs H ρ cs QD ED Q hS hw hX hQ => ?_⟩
  unfold wApp at hw
  split at hw
  · rename_i t0 ds0 e0
    obtain ⟨a, xs, e1, e2, _⟩ := own_list hS e0
    refine ⟨.ref a, e1, .inl ⟨rfl, xs, .inl (.inl e2)⟩, ?_⟩
    refine s σ vs H ρ cs _ ED _ hS hw hX fun y H1 c ρ1 S1 q1 => ?_
    split at q1
    · rename_i d t1 ds1 ec eo
      have S2 := S1.frzTop
      rw [ec] at S2
      obtain ⟨a', xs', e3, e4, e5⟩ := own_list S2.pop eo
      rw [e1] at e3
      cases e3
      refine ⟨a, xs', y, rfl, rfl, e4, by rw [DL.DpAll.len e5]; exact q1.1, ?_⟩
      have S3 := S2.pop.mutSlot (H' := upd H1 a (.lst (xs' ++ [y]))) eo e1 hL (fun b u n z => by rw [upd_ne n]; exact z) (o' := .lst (ds1 ++ [d])) ⟨xs' ++ [y], upd_same, DL.DpAll.app e5 (.cons S2.top .nil)⟩
      exact hQ _ _ _ _ (SR.resV S3 (Same.refl _) .non) q1.2
    · exact q1.elim
  · exact hw.elim
def setI {α : Type} (xs : List α) (k : Int) (d : α) : Option (List α) := (ixN xs.length k).map fun j => xs.set j d
theorem setI_0 {α : Type} {x d : α} {xs : List α} : setI (x :: xs) 0 d = some (d :: xs) := by unfold setI ixN; simp <;> omega
theorem setI_1 {α : Type} {x y d : α} {xs : List α} : setI (x :: y :: xs) 1 d = some (x :: d :: xs) := by unfold setI ixN; simp <;> omega
theorem setI_2 {α : Type} {x y z d : α} {xs : List α} : setI (x :: y :: z :: xs) 2 d = some (x :: y :: d :: xs) := by unfold setI ixN; simp <;> omega
theorem setI_3 {α : Type} {x y z u d : α} {xs : List α} : setI (x :: y :: z :: u :: xs) 3 d = some (x :: y :: z :: d :: xs) := by unfold setI ixN; simp <;> omega
theorem setI_nat {α : Type} {xs : List α} {k : Nat} {d : α} (h : k < xs.length) : setI xs (k : Int) d = some (xs.set k d) := by
  unfold setI ixN
  simp
  omega
theorem setI_some {α : Type} {xs : List α} {k : Int} {d : α} {j : Nat} (h : ixN xs.length k = some j) : setI xs k d = some (xs.set j d) := by unfold setI; rw [h]; rfl
theorem setI_none {α : Type} {xs : List α} {k : Int} {d : α} (h : ixN xs.length k = none) : setI xs k d = none := by unfold setI; rw [h]; rfl
@[reducible] def wSetIx (i : Nat) (we wk : WE) : WS := fun DD ρ => we ρ (fun c ρ1 => match rget ρ1 i with
  | .own _ (.lst _) => wk ρ1 (fun c2 ρ2 => match frzC c, c2, rget ρ2 i with
    | .v d, .v (.int k), .own t (.lst ds) => optK (setI ds k d) fun es => DD.nx (rset ρ2 i (.own t (.lst es)))
    | _, _, _ => False) DD.ex
  | _ => False) DD.ex
theorem es_setIx {k : Expr} {wk : WE} {p2 : Pos} (hL : g.L i = true) (hx : PE X (.Name x p) (tVar i)) (h : EE X g W e we) (hk : EE X g W k wk)
    (ha : ∀ v, assign (.Subscript (.Name x p) k p2) X.env v = (do
      let ov ← holding [v] (eval (.Name x p) X.env)
      let iv ← holding [v, ov] (eval k X.env)
      standAt p2
      holding [v, ov, iv] (setItem ov iv v)
      release [v, ov, iv] []) := by intro _; rfl)
    (hs : swapsWithSole [.Subscript (.Name x p) k p2] e pos.line X.env = pure false := by rfl) (hw : swappedStores [.Subscript (.Name x p) k p2] e X.env = pure none := by rfl)
    (h1 : (assignEach [.Subscript (.Name x p) k p2] X.env).map (·.2) = [assign (.Subscript (.Name x p) k p2) X.env] := by rfl) : ES X g W (.Assign [.Subscript (.Name x p) k p2] e pos) (wSetIx i we wk) := by
  obtain ⟨t, q, s⟩ := h.ex
  obtain ⟨t2, q2, s2⟩ := hk.ex
  refine ⟨_, ps_asg q (pg_sub hx q2 set_list ha) hs hw h1, fun σ vs H ρ cs DD D hS hp hw hE => ?_⟩
  refine s σ vs H ρ cs _ _ _ hS hw (hE.ex σ) fun y H1 c ρ1 S1 z1 => ?_
  split at z1
  · rename_i t0 ds0 e0
    obtain ⟨a, xs, e1, _, _⟩ := own_list S1 e0
    refine ⟨.ref a, e1, ?_⟩
    refine s2 σ (y :: vs) H1 ρ1 (c :: cs) _ _ _ S1 z1 (hE.ex σ) fun z H2 c2 ρ2 S2 z2 => ?_
    split at z2
    · rename_i _ _ d k' t' ds ec eo
      have e5 := S2.top
      cases e5
      have S3 : SR X.K g σ (y :: vs) H2 ρ2 (.v d :: cs) := by
        have := S2.pop.frzTop
        rw [ec] at this
        exact this
      obtain ⟨a', xs', e3, e4, e6⟩ := own_list S3.pop eo
      rw [e1] at e3
      cases e3
      cases ej : ixN ds.length k' with
      | none => rw [setI_none ej] at z2; exact z2.elim
      | some j =>
        rw [setI_some ej] at z2
        refine ⟨a, xs', k', j, rfl, rfl, e4, by rw [DL.DpAll.len e6]; exact ej, ?_⟩
        have S4 := S3.pop.mutSlot (H' := upd H2 a (.lst (xs'.set j y))) eo e1 hL (fun b u n z => by rw [upd_ne n]; exact z) (o' := .lst (ds.set j d)) ⟨xs'.set j y, upd_same, DL.DpAll.setAt S3.top j e6⟩
        exact hE.nx σ _ _ S4 z2
    · exact z2.elim
  · exact z1.elim
@[reducible] def wFrz (i : Nat) : WE := fun ρ Q _ => match rget ρ i with
  | .v d => Q (.v d) ρ
  | .own _ (.lst ds) => Q (.v (.list ds)) (rset ρ i (.v (.list ds)))
  | _ => False
theorem ee_frz (hL : g.L i = true) (hx : PE X (.Name x p) (tVar i)) : EE X g W (.Name x p) (wFrz i) := by
  refine ⟨_, hx, fun σ vs H ρ cs QD ED Q hS hw hX hQ => ?_⟩
  unfold wFrz at hw
  split at hw
  · rename_i d e
    obtain ⟨x, e1, q1⟩ := hS.slot e
    exact ⟨x, e1, hQ x H _ ρ (SR.resV hS (Same.refl H) q1) hw⟩
  · rename_i t ds e
    obtain ⟨a, e1, _⟩ := hS.own e
    have hlt : i < ρ.length := by rw [← hS.len]; exact (List.getElem?_eq_some_iff.mp e1).1
    obtain ⟨_, S2⟩ := (hS.pushPk e1 hL).moveOut e
    have S3 := S2.frzTop
    have dx := S3.top
    have S4 := S3.moveIn (i := i) rfl e1 (rget_rset hlt)
    rw [rset_rset] at S4
    have dx2 : Dp X.K (hide H (tot σ vs (rset ρ i (.v (.list ds))) cs ++ g.P0)) (.ref a) (.list ds) := by
      have ef : tot σ vs (rset ρ i (.v (.list ds))) cs = tot σ vs (rset ρ i .no) cs := by
        have go : ∀ (σ : List (Option V)) (ρ : Rho) (i : Nat), foot σ (rset ρ i (.v (.list ds))) = foot σ (rset ρ i .no) := by
          intro σ
          induction σ with
          | nil => intro ρ i; have e : ∀ r : Rho, foot [] r = [] := fun r => by cases r <;> rfl
                   rw [e, e]
          | cons v σ ih =>
            intro ρ i
            cases ρ with
            | nil => rfl
            | cons c ρ =>
              cases i with
              | zero => show footC v (.v _) ++ _ = footC v .no ++ _; rw [footC_v, footC_no]
              | succ i => show footC v c ++ foot σ (rset ρ i _) = footC v c ++ foot σ (rset ρ i _); rw [ih]
        show foot _ _ ++ foot σ _ = foot _ _ ++ foot σ _
        rw [go]
      rw [ef]
      exact dx
    exact ⟨_, e1, hQ _ H _ _ (SR.resV S4 (Same.refl H) dx2) hw⟩
  · exact hw.elim
end
/-! ### a, b = a list -/
section
variable {X : Cx} {g : G} {W : WX} {es : List Expr} {ws : WGs} {T : List Nat} {pos : Pos}
@[reducible] def wPar (i j : Nat) (wa : WA) : WS := fun DD ρ => wa ρ (fun cs ρ1 => match frzs cs with
  | [.v d1, .v d2] => DD.nx (rset (rset ρ1 j (.v d2)) i (.v d1))
  | _ => False) DD.ex
theorem es_par {i j : Nat} {x y : Str} {a b : Expr} {wa : WA} {px py pt spos : Pos} {kt k2 pt2} (hc : X.calm = true) (hN : X.N.Nodup) (hi : X.N[i]? = some x) (hj : X.N[j]? = some y) (hij : i ≠ j) (hx : X.env.scope.names.lookup x = some .local) (hy : X.env.scope.names.lookup y = some .local) (ha : EA X g W [a, b] wa)
    (hw : swappedStores [.Tuple [.Name x px, .Name y py] kt pt] (.Tuple [a, b] k2 pt2) X.env = pure (some [x, y]))
    (hs : swapsWithSole [.Tuple [.Name x px, .Name y py] kt pt] (.Tuple [a, b] k2 pt2) spos.line X.env = pure false := by rfl) :
    ES X g W (.Assign [.Tuple [.Name x px, .Name y py] kt pt] (.Tuple [a, b] k2 pt2) spos) (wPar i j wa) := by
  obtain ⟨t, q, s⟩ := ha.ex
  refine ⟨_, ps_par hc hN hi hj hij hx hy q hw hs, fun σ vs H ρ cs DD D hS hp hw hE => ?_⟩
  refine s σ vs H ρ cs _ _ _ hS hw (hE.ex σ) fun xs H1 ccs ρ1 hl S1 q1 => ?_
  split at q1
  · rename_i d1 d2 ec
    rw [frzs_eq] at ec
    have S2 := S1.frzArgs hl
    rw [ec] at S2
    have hlen : ccs.length = 2 := by have := congrArg List.length ec; simpa using this
    match xs, hl with
    | [v, w], _ =>
      refine ⟨v, w, rfl, ?_⟩
      have S3 : SR X.K g σ (w :: (v :: vs)) H1 ρ1 (.v d2 :: (.v d1 :: cs)) := SR.rot (xs := [v]) (ccs := [.v d1]) rfl S2
      have S4 := S3.store (i := j) rfl (fun k z => (hp.cons (c := .v d1) rfl).nopk z)
      have S5 := S4.store (i := i) rfl (fun k z => hp.nopk z)
      rw [List.set_comm _ _ (Ne.symm hij)] at S5
      exact hE.nx _ H1 _ S5 q1
    | [], h => simp at h; omega
    | [_], h => simp at h; omega
    | _ :: _ :: _ :: _, h => simp at h; omega
  · exact q1.elim
end
end DL

set_option Elab.async false
set_option linter.all false
set_option maxRecDepth 100000
set_option maxHeartbeats 4000000
/-! DL: the program's defs by their names; walks over any sequence; unary minus; + and in of any data. -/
namespace DL
open PySem PySem.Spec PyProof.Rows L2

theorem lt_ {g : G} {L : Nat → Bool} (h : g.L = L) {i : Nat} (e : L i = true) : g.L i = true := by rw [h]; exact e
theorem lf_ {g : G} {L : Nat → Bool} (h : g.L = L) {T : List Nat} (e : (T.all fun j => !L j) = true) : ∀ j ∈ T, g.L j = false := fun j hj => by
  rw [h]
  have := List.all_eq_true.mp e j hj
  simpa using this
structure Has (P : Program) (w : World) (K : PySem.W.Frag) (mg : Str → Option Value) (base : Heap) (k : Nat) (x : Str) (S : SpD) : Prop where
  ex : ∃ (f : Addr) (fd : FuncData) (ps : List Str), FnOk P w K mg base (L2.CX P w) k f fd ps (spOf K S) ∧ mg x = some (.ref f) ∧ PySem.W.keepIn K (.ref f) = true ∧ Binds K fd ps []
section
variable {X : Cx} {g : G} {k : Nat} {S : SpD} {x : Str} {p pos : Pos} {e : Expr} {es : List Expr} {wa : WA}
theorem ee_has (h : Has X.prog X.w X.K X.mg X.base k x S) (hr : Room k X.A) (hg : Gl X x) (ha : EA X g W0 (e :: es) wa) (hdb : (x == ("__debug__" : Str)) = false := by decide)
    (he : starEach (e :: es) X.env = (false, eval e X.env) :: starEach es X.env := by rfl) (hpl : (backTo pos (starEach es X.env)).any (·.1) = false := by rfl) : EE X g W0 (.Call (.Name x p) (e :: es) [] pos) (wCall S wa) := by
  obtain ⟨f, fd, ps, F, hm, hk, hb⟩ := h.ex
  exact ee_call F hr hg hm hk hb passL (fun _ _ _ _ z => z) ha hdb he hpl
end
@[reducible] def oNeg : O1 := fun d k => match d with
  | .int i => k (.v (.int (-i)))
  | _ => False
theorem lift_neg {K : PySem.W.Frag} : Lift1 K (rU fun i => V.int (-i)) oNeg := by
  intro O H x dx QD Q _ hx q fin
  cases hx <;> try exact q.elim
  exact ⟨_, rfl, fin _ H (.v _) (Same.refl H) (.int _) q⟩
section
variable {X : Cx} {g : G} {W : WX} {a : Expr} {wa : WE} {pos : Pos}
theorem ee_neg (ha : EE X g W a wa) : EE X g W (.UnaryOp .USub a pos) (wU oNeg wa) := by
  obtain ⟨t, p, s⟩ := ha.ex
  exact ⟨_, pe_un un_neg p, sem_un lift_neg s⟩
end
def iSeq (K : PySem.W.Frag) (tl : TE) : TI := fun σ H R => tl σ H fun x H1 => (∃ a, x = .ref a ∧ (∃ xs, SqL K H1 a xs) ∧ R (Itl K a) H1) ∨ (∃ a, x = .ref a ∧ (∃ xs, SqT K H1 a xs) ∧ R (Itt K a) H1) ∨ ∃ z, x = .str z ∧ R (Its z) H1
theorem pi_seq {X : Cx} {tg l : Expr} {tl : TE} (hl : PE X l tl) : PI X tg l (iSeq X.K tl) := by
  refine ⟨fun pins s σ H R I h => ?_⟩
  refine thn (hl.run pins s σ H _ I h) fun v s1 ⟨x, H1, I1, r1, q1⟩ => ?_
  rcases q1 with ⟨a, e, ⟨xs, hq⟩, q⟩ | ⟨a, e, ⟨xs, hq⟩, q⟩ | ⟨z, e, q⟩
  · subst e
    cases r1
    obtain ⟨its, rv, p, hz⟩ := I1.list hq
    refine wpAny_pyIter_list p.isList ?_
    refine ⟨s1.heap.objs.size, [s1.heap.objs.size], _, _, H1, rfl, I1.kept (t' := s1.toks) fun b o e => Heap.get?_push_of_some _ e, turn_list a _, ⟨_, Heap.get?_push_size _ rfl, rfl, rfl⟩, fun b hb => ?_, q⟩
    have e : b = s1.heap.objs.size := by simpa using hb
    subst e
    exact I1.fpOk (Nat.le_refl _) (I1.hok.fresh (Nat.le_refl _))
  · subst e
    cases r1
    obtain ⟨its, rv, p, hz⟩ := I1.tuple hq
    refine wpAny_pyIter_tuple (show s1.heap.IsTuple a its.toArray from p) ?_
    refine ⟨s1.heap.objs.size, [s1.heap.objs.size], _, _, H1, rfl, I1.kept (t' := s1.toks) fun b o e => Heap.get?_push_of_some _ e, turn_tuple a _, ⟨_, Heap.get?_push_size _ rfl, rfl, rfl⟩, fun b hb => ?_, q⟩
    have e : b = s1.heap.objs.size := by simpa using hb
    subst e
    exact I1.fpOk (Nat.le_refl _) (I1.hok.fresh (Nat.le_refl _))
  · subst e
    obtain ⟨t, rfl⟩ := r1
    cases ha : z.cps.all (· < 128)
    · exact wpAny_pyIter_wide ha (pi_one (tk := s1.toks) I1 _ (turn_str _ z t "str_iterator" (.inr rfl)) ⟨_, Heap.get?_push_size _ rfl, rfl, rfl⟩ q)
    · exact wpAny_pyIter_ascii ha (pi_one (tk := s1.toks) I1 _ (turn_str _ z t "str_ascii_iterator" (.inl rfl)) ⟨_, Heap.get?_push_size _ rfl, rfl, rfl⟩ q)
@[reducible] def itemsD : D → Option (List D)
  | .list ds => some ds
  | .tuple ds => some ds
  | .str x => some (strD x)
  | _ => none
@[reducible] def wISeq (we : WE) : WI := fun ρ Q E => we ρ (fun c ρ1 => match frzC c with
  | .v d => optK (itemsD d) fun ds => Q ds ρ1
  | _ => False) E
theorem ei_seq {X : Cx} {g : G} {W : WX} {tg e : Expr} {we : WE} (h : EE X g W e we) : EI X g W tg e (wISeq we) := by
  obtain ⟨t, p, s⟩ := h.ex
  refine ⟨_, pi_seq p, fun σ vs H ρ cs QD ED R hS hw hX hQ => ?_⟩
  refine s σ vs H ρ cs _ ED _ hS hw hX fun x H1 c ρ1 S1 q1 => ?_
  split at q1
  · rename_i d ec
    have S2 := S1.frzTop
    rw [ec] at S2
    have q := S2.top
    cases q with
    | lst h1 h2 => exact .inl ⟨_, rfl, ⟨_, Same.seq same_hide h1⟩, hQ _ [_] [.list _] _ H1 ρ1 rfl S2 walks_list q1⟩
    | tup h1 h2 => exact .inr (.inl ⟨_, rfl, ⟨_, seqT_same same_hide h1⟩, hQ _ [_] [.tuple _] _ H1 ρ1 rfl S2 walks_tup q1⟩)
    | str z => exact .inr (.inr ⟨z, rfl, hQ _ [] [] _ H1 ρ1 rfl S2.pop walks_str q1⟩)
    | _ => exact q1.elim
  · exact q1.elim
end DL

set_option Elab.async false
set_option linter.all false
/-! for the proofs of readings: steps, loops -/
namespace DL
open PySem PySem.Spec PyProof.Rows L2
theorem ifb {A B : Prop} {b : Bool} (h : b = true → A) (h' : b = false → B) : if b = true then A else B := by
  cases b
  · exact h' rfl
  · exact h rfl
theorem eqv_int {a b : Int} : PyData.eqv (.int a) (.int b) = decide (a = b) := by first | rfl | simp [PyData.eqv]
theorem atI_mem {ds : List D} {x : Int} (h0 : 0 ≤ x) (h1 : x < ds.length) : ∃ d, atI ds x = some d ∧ d ∈ ds := by
  obtain ⟨j, rfl⟩ := Int.eq_ofNat_of_zero_le h0
  have hj : j < ds.length := by omega
  exact ⟨ds[j], L2.atI_nat (List.getElem?_eq_getElem hj), List.getElem_mem hj⟩
theorem log2_lt {m : Int} {k : Nat} (h : m.natAbs < 2 ^ k) (h0 : 0 < k) (h9 : k ≤ 9000) : m.natAbs.log2 < 9000 := Nat.lt_of_lt_of_le (PySem.Flt.log2_lt_of h0 h) h9
theorem log2_sm {m : Int} (h : m.natAbs < 18446744073709551616) : m.natAbs.log2 < 9000 := log2_lt (k := 64) h (by decide) (by decide)

theorem forK_ind {wg : WG} {body : WS} {DD : EndsD} (I : List D → Rho → Prop) (h0 : ∀ ρ, I [] ρ → DD.nx ρ)
    (h1 : ∀ d ds ρ (next : Rho → Prop), (∀ ρ', I ds ρ' → next ρ') → I (d :: ds) ρ → wg d ρ fun ρ1 => body ⟨next, DD.rt, DD.nx, next, DD.ex⟩ ρ1) : ∀ ds ρ, I ds ρ → forK wg body ds DD ρ
  | [], ρ, h => h0 ρ h
  | d :: ds, ρ, h => h1 d ds ρ _ (fun ρ' h' => forK_ind I h0 h1 ds ρ' h') h
theorem mem_range {lo : Int} {n : Nat} {d : D} (h : d ∈ rangeD lo n) : ∃ k : Int, d = .int k ∧ lo ≤ k ∧ k < lo + n := by
  obtain ⟨k, h1, rfl⟩ := List.mem_map.mp h
  have := List.mem_range.mp h1
  exact ⟨lo + k, rfl, by omega, by omega⟩
theorem eqv_intV {a b : Int} (h : a = b) : PyData.eqv (.int a) (.int b) = true := by rw [eqv_int]; exact decide_eq_true h
/-! states written out -/
theorem wSeq_i {w u : WS} {nx : Rho → Prop} {rt : KC} {bk ct : Rho → Prop} {ex : KX} {ρ ρ' : Rho} (e : ρ = ρ') (h : w ⟨u ⟨nx, rt, bk, ct, ex⟩, rt, bk, ct, ex⟩ ρ') : wSeq w u ⟨nx, rt, bk, ct, ex⟩ ρ := by
  subst e
  exact h
end DL

set_option Elab.async false
set_option linter.all false
set_option maxRecDepth 100000
set_option maxHeartbeats 4000000
/-! DL: enumerate, zip, reversed, range with a step -/
namespace DL
open PySem PySem.Spec PyProof.Rows L2

/-! ### enumerate of a tuple -/
section
variable {prog : Program} {w : World} {A : Around} {E : Value → Shared → Prop} {s : Shared}
end
/-! ### by data -/
def enumF : Nat → List D → List D
  | _, [] => []
  | k, d :: ds => .tuple [.int (k : Nat), d] :: enumF (k + 1) ds
theorem enumF_len : ∀ {k : Nat} {ds : List D}, (enumF k ds).length = ds.length
  | _, [] => rfl
  | k, d :: ds => by show (enumF (k + 1) ds).length + 1 = _; rw [enumF_len]; rfl
section
variable {K : PySem.W.Frag} {H : Hp} {O : List Addr} {a b : Addr} {ds es : List D}
end
@[reducible] def itemsLT : D → Option (List D)
  | .list ds => some ds
  | .tuple ds => some ds
  | _ => none
section
variable {X : Cx} {g : G} {W : WX} {tg a b c : Expr} {wa : WA} {p pos : Pos}
end
end DL

set_option Elab.async false
set_option linter.all false
set_option maxRecDepth 100000
set_option maxHeartbeats 4000000
/-! DL: more of Python: t[::-1], x in t, + of any kind, max and min of a list, int of a text -/
namespace DL
open PySem PySem.Spec PyProof.Rows L2
/-! ### t[::-1] of a tuple -/
section
variable {prog : Program} {w : World} {A : Around} {E : Value → Shared → Prop} {s : Shared}
end
theorem DpAll.rev {K : PySem.W.Frag} {B : Hp} : ∀ {xs : List V} {ds : List D}, DpAll K B xs ds → DpAll K B xs.reverse ds.reverse
  | _, [], h => by cases h; exact .nil
  | _, d :: ds, h => by
    cases h with
    | cons h1 h2 => rw [List.reverse_cons, List.reverse_cons]; exact DL.DpAll.app (DpAll.rev h2) (.cons h1 .nil)
/-! ### x in t -/
def rInA (K : PySem.W.Frag) (neg : Bool) : R2 := fun x y H Q => (∃ d ds, Dp K H x d ∧ (Dp K H y (.list ds) ∨ Dp K H y (.tuple ds)) ∧ SeqAt.shaped d = true ∧ SeqAt.shaped (.list ds) = true ∧ Q (.bl (if neg then !(ds.any fun z => PyData.eqv z d) else ds.any fun z => PyData.eqv z d)) H) ∨
  ∃ i j, x = .str i ∧ y = .str j ∧ Q (.bl (if neg then (Builtin.Str.occurrences j i 0 j.length 1).isEmpty else !(Builtin.Str.occurrences j i 0 j.length 1).isEmpty)) H
section
variable {X : Cx}
theorem op_inA (hu : X.A.units + 65 < cLine) : OpR X (compareOp .In) (rInA X.K false) := by
  intro pins s σ H x y v u Q I rx ry h
  rcases h with ⟨d, ds, hd, he, sd, se, q⟩ | ⟨i, j, rfl, rfl, q⟩
  · obtain ⟨as, r1⟩ := Dp.reads I d x v hd rx
    rcases he with he | he
    · obtain ⟨bs, r2⟩ := Dp.reads I (.list ds) y u he ry
      exact SeqAt.in_list_reads r2 r1 (SeqAt.canLay_of_shaped se) (SeqAt.canLay_of_shaped sd) (room_in_shaped sd hu) ⟨.bl _, H, I, rfl, q⟩
    · obtain ⟨bs, r2⟩ := Dp.reads I (.tuple ds) y u he ry
      exact SeqAt.in_tuple_reads r2 r1 (SeqAt.canLay_of_shaped se) (SeqAt.canLay_of_shaped sd) (room_in_shaped sd hu) ⟨.bl _, H, I, rfl, q⟩
  · exact op_in_str pins s σ H _ _ v u Q I rx ry ⟨i, j, rfl, rfl, q⟩
theorem op_notinA (hu : X.A.units + 65 < cLine) : OpR X (compareOp .NotIn) (rInA X.K true) := by
  intro pins s σ H x y v u Q I rx ry h
  rcases h with ⟨d, ds, hd, he, sd, se, q⟩ | ⟨i, j, rfl, rfl, q⟩
  · obtain ⟨as, r1⟩ := Dp.reads I d x v hd rx
    rcases he with he | he
    · obtain ⟨bs, r2⟩ := Dp.reads I (.list ds) y u he ry
      exact SeqAt.notIn_list_reads r2 r1 (SeqAt.canLay_of_shaped se) (SeqAt.canLay_of_shaped sd) (room_in_shaped sd hu) ⟨.bl _, H, I, rfl, q⟩
    · obtain ⟨bs, r2⟩ := Dp.reads I (.tuple ds) y u he ry
      exact SeqAt.notIn_tuple_reads r2 r1 (SeqAt.canLay_of_shaped se) (SeqAt.canLay_of_shaped sd) (room_in_shaped sd hu) ⟨.bl _, H, I, rfl, q⟩
  · exact op_notin_str pins s σ H _ _ v u Q I rx ry ⟨i, j, rfl, rfl, by rw [Bool.not_not]; exact q⟩
end
def inS (i j : Str) : Bool := !(Builtin.Str.occurrences j i 0 j.length 1).isEmpty
def memD (d : D) (ds : List D) : Bool := ds.any fun z => PyData.eqv z d
@[reducible] def oIn : O2 := fun d1 d2 k => match d2 with
  | .list ds => SeqAt.shaped d1 = true ∧ SeqAt.shaped (.list ds) = true ∧ k (.v (.bool (memD d1 ds)))
  | .tuple ds => SeqAt.shaped d1 = true ∧ SeqAt.shaped (.list ds) = true ∧ k (.v (.bool (memD d1 ds)))
  | .str j => match d1 with
    | .str i => k (.v (.bool (inS i j)))
    | _ => False
  | _ => False
@[reducible] def oNotIn : O2 := fun d1 d2 k => match d2 with
  | .list ds => SeqAt.shaped d1 = true ∧ SeqAt.shaped (.list ds) = true ∧ k (.v (.bool (!memD d1 ds)))
  | .tuple ds => SeqAt.shaped d1 = true ∧ SeqAt.shaped (.list ds) = true ∧ k (.v (.bool (!memD d1 ds)))
  | .str j => match d1 with
    | .str i => k (.v (.bool (!inS i j)))
    | _ => False
  | _ => False
theorem lift_in {K : PySem.W.Frag} : Lift2 K (rInA K false) oIn := by
  intro O H x y dx dy QD Q _ hx hy q fin
  have hx' := dp_hide hx
  have hy' := dp_hide hy
  cases dy with
  | list ds => exact .inl ⟨dx, ds, hx', .inl hy', q.1, q.2.1, fin _ H (.v _) (Same.refl H) (.bl _) q.2.2⟩
  | tuple ds => exact .inl ⟨dx, ds, hx', .inr hy', q.1, q.2.1, fin _ H (.v _) (Same.refl H) (.bl _) q.2.2⟩
  | str j =>
    cases dx with
    | str i => cases hx'; cases hy'; exact .inr ⟨i, j, rfl, rfl, fin _ H (.v _) (Same.refl H) (.bl _) q⟩
    | _ => exact q.elim
  | _ => exact q.elim
theorem lift_notin {K : PySem.W.Frag} : Lift2 K (rInA K true) oNotIn := by
  intro O H x y dx dy QD Q _ hx hy q fin
  have hx' := dp_hide hx
  have hy' := dp_hide hy
  cases dy with
  | list ds => exact .inl ⟨dx, ds, hx', .inl hy', q.1, q.2.1, fin _ H (.v _) (Same.refl H) (.bl _) q.2.2⟩
  | tuple ds => exact .inl ⟨dx, ds, hx', .inr hy', q.1, q.2.1, fin _ H (.v _) (Same.refl H) (.bl _) q.2.2⟩
  | str j =>
    cases dx with
    | str i =>
      cases hx'; cases hy'
      have e : (!inS i j) = (Builtin.Str.occurrences j i 0 j.length 1).isEmpty := Bool.not_not _
      have q2 : QD (.v (.bool (!inS i j))) := q
      rw [e] at q2
      exact .inr ⟨i, j, rfl, rfl, fin _ H (.v _) (Same.refl H) (.bl _) q2⟩
    | _ => exact q.elim
  | _ => exact q.elim
section
variable {X : Cx} {g : G} {W : WX} {a b : Expr} {wa wb : WE} {pos : Pos}
theorem units65 {k : Nat} {A : Around} (hr : Room k A) : A.units + 65 < cLine := by
  have := hr.un
  omega
theorem ee_in (hu : X.A.units + 65 < cLine) (ha : EE X g W a wa) (hb : EE X g W b wb) (hm : behindInMarks .In b = false := by rfl) : EE X g W (.Compare a [.In] [b] pos) (wB oIn wa wb) := ee_cmp (op_inA hu) lift_in ha hb hm
theorem et_notin (hu : X.A.units + 65 < cLine) (ha : EE X g W a wa) (hb : EE X g W b wb) (hm : behindInMarks .NotIn b = false := by rfl) : ET X g W (.Compare a [.NotIn] [b] pos) (wTst (wB oNotIn wa wb)) := et_cmp (op_notinA hu) lift_notin ha hb hm
end

/-! ### max and min of a list of numbers -/
section
variable {X : Cx} {g : G} {W : WX} {e : Expr} {es : List Expr} {wa : WA} {p pos : Pos}
end

/-! ### + of numbers, texts, tuples -/
def rPlus (K : PySem.W.Frag) : R2 := fun x y H Q => (∃ i j, x = .int i ∧ y = .int j ∧ Q (.int (i + j)) H) ∨ (∃ i j, x = .str i ∧ y = .str j ∧ i.length + j.length ≤ sizeLine ∧ Q (.str (i ++ j)) H) ∨ rCatA K x y H Q
section
variable {X : Cx}
theorem op_plus : OpR X (binaryOp .Add) (rPlus X.K) := by
  intro pins s σ H x y v u Q I rx ry h
  rcases h with h | h | h
  · exact op_add pins s σ H x y v u Q I rx ry h
  · exact op_add_str pins s σ H x y v u Q I rx ry h
  · exact op_catA pins s σ H x y v u Q I rx ry h
end
@[reducible] def oPlus : O2 := fun d1 d2 k => match d1, d2 with
  | .int i, .int j => k (.v (.int (i + j)))
  | .str i, .str j => i.length + j.length ≤ sizeLine ∧ k (.v (.str (i ++ j)))
  | .tuple ds, .tuple es => ds.length + es.length ≤ sizeLine ∧ k (.v (.tuple (ds ++ es)))
  | _, _ => False
theorem DpAll.nil_iff {K : PySem.W.Frag} {B : Hp} {xs : List V} {ds : List D} (h : DpAll K B xs ds) : xs = [] ↔ ds = [] := by
  cases h <;> simp
theorem lift_plus {K : PySem.W.Frag} : Lift2 K (rPlus K) oPlus := by
  intro O H x y dx dy QD Q hO hx hy q fin
  cases hx with
  | int i =>
    cases hy <;> try exact q.elim
    exact .inl ⟨_, _, rfl, rfl, fin _ H (.v _) (Same.refl H) (.int _) q⟩
  | str i =>
    cases hy <;> try exact q.elim
    exact .inr (.inl ⟨_, _, rfl, rfl, q.1, fin _ H (.v _) (Same.refl H) (.str _) q.2⟩)
  | tup h1 h2 =>
    cases hy with
    | tup g1 g2 =>
      rename_i a xs ds b ys es
      refine .inr (.inr ⟨_, _, _, _, rfl, rfl, seqT_same same_hide h1, seqT_same same_hide g1, by rw [DL.DpAll.len h2, DL.DpAll.len g2]; exact q.1, fun z => ?_, fun z1 z2 => ?_, fun z1 z2 p n => ?_⟩)
      · have e := (DpAll.nil_iff h2).mp z
        have q2 := q.2
        rw [e, List.nil_append] at q2
        exact fin _ H (.v _) (Same.refl H) (.tup g1 g2) q2
      · have e := (DpAll.nil_iff g2).mp z2
        have q2 := q.2
        rw [e, List.append_nil] at q2
        exact fin _ H (.v _) (Same.refl H) (.tup h1 h2) q2
      · exact fin _ _ (.v _) (same_new n) (new_tup n (fun z => by obtain ⟨u, e⟩ := hO p z; rw [n] at e; cases e) (DL.DpAll.app h2 g2)) q.2
    | _ => exact q.elim
  | _ => exact q.elim
theorem ee_plus {X : Cx} {g : G} {W : WX} {a b : Expr} {wa wb : WE} {pos : Pos} {P : Prop} (_ : P) (ha : EE X g W a wa) (hb : EE X g W b wb) : EE X g W (.BinOp a .Add b pos) (wB oPlus wa wb) := by
  obtain ⟨ta, p1, s1⟩ := ha.ex
  obtain ⟨tb, p2, s2⟩ := hb.ex
  exact ⟨_, pe_op op_plus p1 p2, sem_op lift_plus s1 s2⟩
/-! ### int of a text -/
end DL

set_option Elab.async false
set_option linter.all false
set_option maxRecDepth 100000
set_option maxHeartbeats 4000000
/-! DL: facts of data: how deep, equal or not -/
namespace DL
open PySem PySem.Spec PyProof.Rows L2
structure Lay (k : Nat) (d : D) : Prop where
  ok : d.canLay0 = true
  dp : d.depth ≤ k
theorem Lay.up {k m : Nat} {d : D} (h : Lay k d) (l : k ≤ m) : Lay m d := ⟨h.ok, Nat.le_trans h.dp l⟩
theorem Lay.int {k : Nat} (i : Int) : Lay k (.int i) := ⟨rfl, by simp [PyData.depth]⟩
theorem Lay.bool {k : Nat} (b : Bool) : Lay k (.bool b) := ⟨rfl, by simp [PyData.depth]⟩
theorem Lay.none {k : Nat} : Lay k .none := ⟨rfl, by simp [PyData.depth]⟩
theorem Lay.str {k : Nat} {x : Str} (h : PyData.canLay0 (.str x) = true) : Lay k (.str x) := ⟨h, by simp [PyData.depth]⟩
theorem lay_all {k : Nat} : ∀ {ds : List D}, (∀ d ∈ ds, Lay k d) → PyData.canLayAll0 ds = true ∧ PyData.depthAll ds ≤ k
  | [], _ => ⟨rfl, by simp [PyData.depthAll]⟩
  | d :: ds, h => by
    obtain ⟨h1, h2⟩ := lay_all (ds := ds) fun e he => h e (.tail _ he)
    obtain ⟨g1, g2⟩ := h d (.head _)
    refine ⟨by rw [PyData.canLayAll0, g1, h1]; rfl, ?_⟩
    simp only [PyData.depthAll]
    omega
theorem Lay.tuple {k : Nat} {ds : List D} (h : ∀ d ∈ ds, Lay k d) : Lay (k + 1) (.tuple ds) := by
  obtain ⟨h1, h2⟩ := lay_all h
  exact ⟨by rw [PyData.canLay0]; exact h1, by simp only [PyData.depth]; omega⟩
theorem Lay.list {k : Nat} {ds : List D} (h : ∀ d ∈ ds, Lay k d) : Lay (k + 1) (.list ds) := by
  obtain ⟨h1, h2⟩ := lay_all h
  exact ⟨by rw [PyData.canLay0]; exact h1, by simp only [PyData.depth]; omega⟩
theorem Lay.shaped {k : Nat} {d : D} (h : Lay k d) (l : k ≤ 64 := by decide) : SeqAt.shaped d = true := by
  show (d.canLay0 && decide (d.depth ≤ 64)) = true
  rw [Bool.and_eq_true]
  exact ⟨h.ok, decide_eq_true (Nat.le_trans h.dp l)⟩
theorem Lay.refl {k : Nat} {d : D} (h : Lay k d) : PyData.eqv d d = true := SeqAt.eqv_refl d h.ok
/-! ### comprehensions -/
theorem lcK_ind {T : List Nat} {wg : WG} {wt : WT} {we : WE} {k : List D → Rho → Prop} (I : List D → List D → Rho → Prop) (h0 : ∀ acc ρ, I [] acc ρ → k acc ρ)
    (h1 : ∀ d ds acc ρ (next : List D → Rho → Prop), (∀ acc' ρ', I ds acc' ρ' → next acc' ρ') → I (d :: ds) acc ρ → wg d ρ fun ρ1 => wt ρ1 (fun b ρ2 => if b = true then we ρ2 (fun c ρ3 => match frzC c with
      | .v d' => next (acc ++ [d']) (clr T ρ3)
      | _ => False) (fun _ _ => False) else next acc (clr T ρ2)) (fun _ _ => False)) : ∀ ds acc ρ, I ds acc ρ → lcK T wg wt we ds acc ρ k
  | [], acc, ρ, h => h0 acc ρ h
  | d :: ds, acc, ρ, h => h1 d ds acc ρ _ (fun acc' ρ' h' => lcK_ind I h0 h1 ds acc' ρ' h') h
theorem rangeD_cons {lo : Int} {n : Nat} : rangeD lo (n + 1) = .int lo :: rangeD (lo + 1) n := by
  unfold rangeD
  rw [List.range_succ_eq_map, List.map_cons, List.map_map]
  have e : lo + ((0 : Nat) : Int) = lo := by omega
  rw [e]
  congr 1
  apply List.map_congr_left
  intro k _
  show PyData.int (lo + ((k + 1 : Nat) : Int)) = .int (lo + 1 + (k : Int))
  congr 1
  omega
theorem rangeD_zero {lo : Int} : rangeD lo 0 = [] := rfl
theorem rangeD_len {lo : Int} {n : Nat} : (rangeD lo n).length = n := by simp [rangeD]
theorem lcK_eq {T : List Nat} {wg : WG} {wt : WT} {we : WE} {ds acc : List D} {ρ ρ' : Rho} {k : List D → Rho → Prop} (e : ρ = ρ') (h : lcK T wg wt we ds acc ρ' k) : lcK T wg wt we ds acc ρ k := by
  subst e
  exact h
theorem forK_eq {wg : WG} {wb : WS} {ds : List D} {DD : EndsD} {ρ ρ' : Rho} (e : ρ = ρ') (h : forK wg wb ds DD ρ') : forK wg wb ds DD ρ := by
  subst e
  exact h
theorem lcK_xs {α : Type} {T : List Nat} {wg : WG} {wt : WT} {we : WE} {k : List D → Rho → Prop} {ρ0 : Rho} {inj : α → D} (g : α → Option D) :
    ∀ (xs : List α) (acc : List D), (∀ x ∈ xs, ∀ next : Option D → Rho → Prop, next (g x) ρ0 → wg (inj x) ρ0 fun ρ1 => wt ρ1 (fun b ρ2 => if b = true then we ρ2 (fun c ρ3 => match frzC c with
      | .v d' => next (some d') (clr T ρ3)
      | _ => False) (fun _ _ => False) else next none (clr T ρ2)) (fun _ _ => False)) → k (acc ++ xs.filterMap g) ρ0 → lcK T wg wt we (xs.map inj) acc ρ0 k
  | [], acc, _, h => by
    rw [List.filterMap_nil, List.append_nil] at h
    exact h
  | x :: xs, acc, h1, h => by
    refine h1 x (.head _) (fun o ρ => match o with
      | some d' => lcK T wg wt we (xs.map inj) (acc ++ [d']) ρ k
      | none => lcK T wg wt we (xs.map inj) acc ρ k) ?_
    have rest : ∀ acc', k (acc' ++ xs.filterMap g) ρ0 → lcK T wg wt we (xs.map inj) acc' ρ0 k := fun acc' => lcK_xs g xs acc' fun e he => h1 e (.tail _ he)
    cases e : g x with
    | none =>
      show lcK T wg wt we (xs.map inj) acc ρ0 k
      refine rest acc ?_
      rw [List.filterMap_cons, e] at h
      exact h
    | some d' =>
      show lcK T wg wt we (xs.map inj) (acc ++ [d']) ρ0 k
      refine rest _ ?_
      rw [List.filterMap_cons, e] at h
      rw [List.append_assoc]
      exact h
theorem lcK_ys {α : Type} {T : List Nat} {wg : WG} {wt : WT} {we : WE} {k : List D → Rho → Prop} {ρ0 : Rho} {inj : α → D} (g : α → D) (xs : List α)
    (h : ∀ x ∈ xs, ∀ next : Option D → Rho → Prop, next (some (g x)) ρ0 → wg (inj x) ρ0 fun ρ1 => wt ρ1 (fun b ρ2 => if b = true then we ρ2 (fun c ρ3 => match frzC c with
      | .v d' => next (some d') (clr T ρ3)
      | _ => False) (fun _ _ => False) else next none (clr T ρ2)) (fun _ _ => False)) (fin : k (xs.map g) ρ0) : lcK T wg wt we (xs.map inj) [] ρ0 k := by
  refine lcK_xs (fun x => some (g x)) xs [] h ?_
  rw [List.nil_append]
  have e : xs.filterMap (fun x => some (g x)) = xs.map g := by
    clear h fin
    induction xs with
    | nil => rfl
    | cons x xs ih => rw [List.filterMap_cons, List.map_cons, ih]
  rw [e]
  exact fin
theorem lcK_rg {T : List Nat} {wg : WG} {wt : WT} {we : WE} {k : List D → Rho → Prop} {ρ0 : Rho} {lo : Int} (g : Nat → Option D) (n : Nat)
    (h : ∀ x, x < n → ∀ next : Option D → Rho → Prop, next (g x) ρ0 → wg (.int (lo + (x : Nat))) ρ0 fun ρ1 => wt ρ1 (fun b ρ2 => if b = true then we ρ2 (fun c ρ3 => match frzC c with
      | .v d' => next (some d') (clr T ρ3)
      | _ => False) (fun _ _ => False) else next none (clr T ρ2)) (fun _ _ => False)) (fin : k ((List.range n).filterMap g) ρ0) : lcK T wg wt we (rangeD lo n) [] ρ0 k := by
  refine lcK_xs (inj := fun (x : Nat) => PyData.int (lo + x)) g (List.range n) [] (fun x hx => h x (List.mem_range.mp hx)) ?_
  rw [List.nil_append]
  exact fin
theorem lfreeAll_of : ∀ {ds : List D}, (∀ d ∈ ds, lfree d = true) → lfree.lfreeAll ds = true
  | [], _ => rfl
  | d :: ds, h => by
    rw [lfree.lfreeAll, h d (.head _), lfreeAll_of fun e he => h e (.tail _ he)]
    rfl
theorem lfree_tup {ds : List D} (h : ∀ d ∈ ds, lfree d = true) : lfree (.tuple ds) = true := by
  show lfree.lfreeAll ds = true
  exact lfreeAll_of h
theorem lf_ints {k : Nat} {ns : List Int} : C.lf (.own k (.lst (ns.map PyData.int))) = true := by
  show lfree.lfreeAll _ = true
  refine lfreeAll_of fun d hd => ?_
  obtain ⟨x, _, rfl⟩ := List.mem_map.mp hd
  rfl
theorem lf_strs {k : Nat} {ns : List Str} : C.lf (.own k (.lst (ns.map PyData.str))) = true := by
  show lfree.lfreeAll _ = true
  refine lfreeAll_of fun d hd => ?_
  obtain ⟨x, _, rfl⟩ := List.mem_map.mp hd
  rfl
theorem isT_tuple_none {b : Bool} {i : Int} {x : Str} {ds : List D} : isT "tuple" PyData.none = false := by simp [isT]
theorem isT_tuple_bool {b : Bool} {i : Int} {x : Str} {ds : List D} : isT "tuple" (.bool b) = false := by simp [isT]
theorem isT_tuple_int {b : Bool} {i : Int} {x : Str} {ds : List D} : isT "tuple" (.int i) = false := by simp [isT]
theorem isT_tuple_str {b : Bool} {i : Int} {x : Str} {ds : List D} : isT "tuple" (.str x) = false := by simp [isT]
theorem isT_tuple_list {b : Bool} {i : Int} {x : Str} {ds : List D} : isT "tuple" (.list ds) = false := by simp [isT]
theorem isT_tuple_tuple {b : Bool} {i : Int} {x : Str} {ds : List D} : isT "tuple" (.tuple ds) = true := by simp [isT]
theorem isT_int_none {b : Bool} {i : Int} {x : Str} {ds : List D} : isT "int" PyData.none = false := by simp [isT]
theorem isT_int_bool {b : Bool} {i : Int} {x : Str} {ds : List D} : isT "int" (.bool b) = true := by simp [isT]
theorem isT_int_int {b : Bool} {i : Int} {x : Str} {ds : List D} : isT "int" (.int i) = true := by simp [isT]
theorem isT_int_str {b : Bool} {i : Int} {x : Str} {ds : List D} : isT "int" (.str x) = false := by simp [isT]
theorem isT_int_list {b : Bool} {i : Int} {x : Str} {ds : List D} : isT "int" (.list ds) = false := by simp [isT]
theorem isT_int_tuple {b : Bool} {i : Int} {x : Str} {ds : List D} : isT "int" (.tuple ds) = false := by simp [isT]
theorem isT_bool_none {b : Bool} {i : Int} {x : Str} {ds : List D} : isT "bool" PyData.none = false := by simp [isT]
theorem isT_bool_bool {b : Bool} {i : Int} {x : Str} {ds : List D} : isT "bool" (.bool b) = true := by simp [isT]
theorem isT_bool_int {b : Bool} {i : Int} {x : Str} {ds : List D} : isT "bool" (.int i) = false := by simp [isT]
theorem isT_bool_str {b : Bool} {i : Int} {x : Str} {ds : List D} : isT "bool" (.str x) = false := by simp [isT]
theorem isT_bool_list {b : Bool} {i : Int} {x : Str} {ds : List D} : isT "bool" (.list ds) = false := by simp [isT]
theorem isT_bool_tuple {b : Bool} {i : Int} {x : Str} {ds : List D} : isT "bool" (.tuple ds) = false := by simp [isT]
theorem isT_str_none {b : Bool} {i : Int} {x : Str} {ds : List D} : isT "str" PyData.none = false := by simp [isT]
theorem isT_str_bool {b : Bool} {i : Int} {x : Str} {ds : List D} : isT "str" (.bool b) = false := by simp [isT]
theorem isT_str_int {b : Bool} {i : Int} {x : Str} {ds : List D} : isT "str" (.int i) = false := by simp [isT]
theorem isT_str_str {b : Bool} {i : Int} {x : Str} {ds : List D} : isT "str" (.str x) = true := by simp [isT]
theorem isT_str_list {b : Bool} {i : Int} {x : Str} {ds : List D} : isT "str" (.list ds) = false := by simp [isT]
theorem isT_str_tuple {b : Bool} {i : Int} {x : Str} {ds : List D} : isT "str" (.tuple ds) = false := by simp [isT]
theorem isT_list_none {b : Bool} {i : Int} {x : Str} {ds : List D} : isT "list" PyData.none = false := by simp [isT]
theorem isT_list_bool {b : Bool} {i : Int} {x : Str} {ds : List D} : isT "list" (.bool b) = false := by simp [isT]
theorem isT_list_int {b : Bool} {i : Int} {x : Str} {ds : List D} : isT "list" (.int i) = false := by simp [isT]
theorem isT_list_str {b : Bool} {i : Int} {x : Str} {ds : List D} : isT "list" (.str x) = false := by simp [isT]
theorem isT_list_list {b : Bool} {i : Int} {x : Str} {ds : List D} : isT "list" (.list ds) = true := by simp [isT]
theorem isT_list_tuple {b : Bool} {i : Int} {x : Str} {ds : List D} : isT "list" (.tuple ds) = false := by simp [isT]
end DL

set_option Elab.async false
set_option linter.all false
/-! the head: a law's promise over data -/
namespace DL
open PySem PySem.Spec PyProof.Rows L2
theorem mkG_start {K : PySem.W.Frag} {H : Hp} {x : V} {d : D} (h : Dp K H x d) : SR K (mkG H [x] [.v d] [] L0) [some x] [] H [.v d] [] := by
  have e : tot [some x] [] [C.v d] [] = [] := by
    show foot [] [] ++ (footC (some x) (.v d) ++ foot [] []) = []
    cases x <;> rfl
  refine ⟨fun a o q _ => q, fun a o q => ⟨o, q⟩, fun a z => (by cases z), fun a z => ?_, ?_, ?_, ?_, fun i z => ?_⟩
  · rw [e] at z; cases z
  · rw [e]; exact .nil
  · rw [e]
    refine ⟨⟨x, rfl, dp_mono (fun a o q => hide_some.mpr ⟨fun z => (by cases z), q⟩) _ _ h⟩, trivial⟩
  · trivial
  · rcases z with z | z <;> cases z
theorem sp_law {K : PySem.W.Frag} {S : SpD} {n : Nat} (hn : n ≤ sizeLine) (law_in : ∀ ns : List Int, ns.length ≤ n → S [.v (.list (ns.map PyData.int))] (fun c _ => c = .v (.bool true)) (fun _ _ => False))
    (H : Hp) (a : Addr) (ns : List Int) (hl : ns.length ≤ n) (hO : L2.Only H) (hS : SqL K H a (ns.map V.int)) : spOf K S [.ref a] H (fun v _ => v = .bl true) fun _ _ _ => False := by
  have hd : Dp K H (.ref a) (.list (ns.map PyData.int)) := by
    refine .lst hS ?_
    clear hS hl
    induction ns with
    | nil => exact .nil
    | cons i ns ih => exact .cons (.int i) ih
  refine ⟨[.v (.list (ns.map PyData.int))], [], _, _, mkG_start hd, law_in ns hl, fun c rs _ e v H' S1 => ?_, fun x rs z => z.elim⟩
  subst e
  obtain ⟨y, e1, e2⟩ := S1.tp.1
  cases e1
  cases e2
  rfl
theorem walk_dl {l : PySem.W.OpenLaw} {n k : Nat} {q : Program} {loose : List Str} {XP : (Str → Option Value) → Heap → Prop} {YP : World → Heap → Prop} {d : DefRec} {x : Str}
    (hn : l.most = some n) (hn2 : n ≤ sizeLine) (hdf : d.params.defaults = []) (hr : Room k callerA) {S : SpD}
    (F : ∀ (w : World) (mg : Str → Option Value) (fa : Addr) (h : Heap), YP w h → h.Ns mainGlobals mg → mg d.name = some (.ref fa) →
      ∃ (K : PySem.W.Frag) (fd : FuncData), K.In h ∧ (∀ (s : Shared) (u : Value), BindsTo s fd ⟨[u], []⟩ [(x, u)]) ∧
        ∀ base : Heap, K.In base → base.Ns mainGlobals mg → FnOk l.prog w K mg base (L2.CX l.prog w) k fa fd [x] (spOf K S))
    (law_in : ∀ ns : List Int, ns.length ≤ n → S [.v (.list (ns.map PyData.int))] (fun c _ => c = .v (.bool true)) (fun _ _ => False)) :
    PySem.W.WalkO q loose XP YP l.row.toRowW d [] (fun f vs => PySem.call f vs) := by
  refine Att.attach_call hn hdf fun w s₀ s₁ mg mb fa o pm cd doc a vs ns G Y ho hd hcd hmg hobj hints hlen hg => ?_
  obtain ⟨K, fd, KX, hb, hF⟩ := F w mg fa _ Y G.T.g hmg
  exact law_call KX G.T.g G.T.b G.T.builtins G.T.nolimit hg hobj hints (Nat.le_trans hlen hn2) hr hF hb (fun H hO hS => sp_law hn2 law_in H a ns hlen hO hS) fun H e s' h => by
    obtain ⟨_, _, _, _, _, _, _, _, _, _, _, _, z⟩ := h
    exact z.elim
end DL

set_option Elab.async false
set_option linter.all false
set_option maxRecDepth 100000
set_option maxHeartbeats 4000000
/-! DL, at the machine's level: set(list of ints), sorted(set) of any size, min with a default -/
namespace DLS
open PySem PySem.Spec PyProof.Rows L2
section
variable {P : Program} {w : World} {A : Around} {E : Value → Shared → Prop} {s : Shared}
abbrev set0 (w : World) : Obj := { cls := .type "set", dict := none, data := .set #[] 0 (.fresh 0 0 (!w.params.followText "set-order")) }
abbrev GoalS (P : Program) (w : World) (s : Shared) (ns : List Int) (s₂ : Shared) : Prop := ∃ h' tk c, s₂ = { s with heap := h', toks := tk } ∧ SetR w h' s.heap.objs.size (fun j => decide (j ∈ ns)) c ∧ c ≤ ns.length ∧ ∀ b o, s.heap.get? b = some o → h'.get? b = some o
theorem init_listI {l : Addr} {items : Array Value} {ns : List Int} (hh : A.handled = none) (hl : s.heap.IsList l items) (hit : IntsAre items.toList ns) (hb : ns.length + 1 < scanBound) :
    codeAny (model P w) A (.call (.builtin "set.__init__") ⟨[.ref s.heap.objs.size, .ref l], []⟩) (wants (fun r s₂ => r = .none ∧ GoalS P w s ns s₂) E) { s with heap := s.heap.push (set0 w) } := by
  have hisz : items.size = ns.length := (Array.length_toList (xs := items)).symm.trans (IntsAre.length hit)
  have hS : (s.heap.push (set0 w)).get? s.heap.objs.size = some (set0 w) := Heap.get?_push_size _ rfl
  refine codeAny_call_builtin F.called_set.init.plain F.entry_set_init (check_set_init_1 ⟨_, hS, rfl⟩ ?_)
  obtain ⟨ol, hol, hcl, nl, hdl⟩ := id hl
  obtain ⟨ocls, odict, odata, oslots⟩ := ol
  simp only at hcl hdl; subst hcl hdl
  have hl1 : (s.heap.push (set0 w)).IsList l items := hl.push _
  have hol' : (s.heap.push (set0 w)).get? l = some { cls := .type "list", dict := odict, data := .seq items nl, slots := oslots } := Heap.get?_push_of_some _ hol
  have k1 := F.sub_list_set; have k2 := F.sub_list_frozenset
  have k3 : (Value.type "list" == Value.type "dict") = false := by decide
  unfold Builtin.«set.__init__» noKeywords Builtin.Frozenset.updateFrom
  generalize hPI : pyIter = PI
  wp_walk
  subst hPI
  refine wpAny_pyIter_list hl1 (wpAny_bind (wpAny_runValue ?_))
  have lt : l < s.heap.objs.size := Heap.lt_size hol
  have z1 : (s.heap.push (set0 w)).objs.size = s.heap.objs.size + 1 := Heap.size_push ..
  have hh3 : A.in1.in1.handled = none := by simp [hh]
  have n1 : l ≠ (s.heap.push (set0 w)).objs.size := by rw [z1]; exact Nat.ne_of_lt (Nat.lt_succ_of_lt lt)
  have n2 : s.heap.objs.size ∉ [(s.heap.push (set0 w)).objs.size, l] := by
    rw [z1]; simp only [List.mem_cons, List.not_mem_nil, or_false]
    exact fun z => z.elim (fun z => absurd z (Nat.ne_of_lt (Nat.lt_succ_self _))) fun z => absurd z (Nat.ne_of_gt lt)
  have hv : ∀ (i : Nat) (v : Value), items[i]? = some v → ∃ k t, ns[i]? = some k ∧ v = .int k t := by
    intro i v e
    have hi : i < ns.length := by rw [← hisz]; exact (Array.getElem?_eq_some_iff.mp e).1
    obtain ⟨t, q⟩ := IntsAre.int_at hit i v (by rw [Array.getElem?_toList]; exact e)
    rw [List.getD_eq_getElem?_getD, List.getElem?_eq_getElem hi] at q
    exact ⟨ns[i], t, List.getElem?_eq_getElem hi, q⟩
  refine set_update_ints (Walks.list hh3 _ l n1 items).toS s.heap.objs.size n2 ns hisz hb hv (items.size - 0) 0 { s with heap := (s.heap.push (set0 w)).push { cls := .type "list_iterator", data := .fields #[.ref l, .int 0 0] } } (by omega) (Nat.zero_le _)
    ⟨⟨_, Heap.get?_push_size _ rfl, rfl, rfl⟩, hl1.push _⟩ ?_ fun s' c' hm hc' hS' => ?_
  · exact ⟨0, Nat.le_refl 0, setR_new_at (h := (s.heap.push (set0 w)).push { cls := .type "list_iterator", data := .fields #[.ref l, .int 0 0] }) (Heap.get?_push_of_some _ hS)⟩
  obtain ⟨h', g2, d', tk', os'⟩ := s'
  obtain rfl : g2 = s.gens := hm.gens
  obtain rfl : d' = s.drawn := hm.drawn
  obtain rfl : os' = s.os := hm.os
  rw [hisz] at hc'
  refine wpAny_pure ?_
  show wpAny _ _ (ret Value.none) _ _ _
  refine wpAny_pure ⟨rfl, h', tk', c', rfl, hS', hc', fun b o e => ?_⟩
  have b0 : b < s.heap.objs.size := Heap.lt_size e
  refine hm.heap b o ?_ (Heap.get?_push_of_some _ (Heap.get?_push_of_some _ e))
  rw [z1]; simp only [List.mem_cons, List.not_mem_nil, or_false]
  exact fun z => z.elim (fun z => absurd z (Nat.ne_of_lt b0)) fun z => absurd z (Nat.ne_of_lt (Nat.lt_succ_of_lt b0))
theorem call_set_listI {l : Addr} {items : Array Value} {ns : List Int} {Q : Value → Shared → Prop} (hh : A.handled = none) (hl : s.heap.IsList l items) (hit : IntsAre items.toList ns) (hb : ns.length + 1 < scanBound)
    (h : ∀ s₂, GoalS P w s ns s₂ → Q (.ref s.heap.objs.size) s₂) : wpAny (model P w) A (call (.type "set") [.ref l]) Q E s := by
  obtain ⟨c, tl, hmro⟩ := F.called_set.mro
  have a1 := F.called_set.made; have a2 := F.called_set.sub; have a3 := F.called_set.notType
  have a4 := F.called_set.canCreate; have a5 := F.typeCall_set_1 (.ref l); have a6 := F.called_set.init.lookup
  refine wpAny_call (codeAny_of_tree ?_)
  show wpAny _ _ (callAny (.type "set") _) _ _ _
  refine wpAny_pure ⟨Code.quiet_builtin _ (by decide +kernel), codeAny_builtin F.entry_type_call ?_⟩
  rw [Around.under_plain (weight_type_call_type "set" [.ref l] []) rfl]
  repeat (any_goals (first | assumption | wp_step))
  refine codeAny_mono (code_set_led1 (.ref l) (E := E) (Q₁ := fun obj s₁ => obj = .ref s.heap.objs.size ∧ s₁ = { s with heap := s.heap.push (set0 w) }) ⟨rfl, rfl⟩) fun r s₁ hr => ?_
  match r, hr with
  | .error e, hr => exact hr
  | .ok (.ret obj), hr =>
    obtain ⟨rfl, rfl⟩ := hr
    have hT : Shared.TypeIs { s with heap := s.heap.push (set0 w) } (.ref s.heap.objs.size) "set" := ⟨_, Heap.get?_push_size _ rfl, rfl⟩
    have a7 := F.called_set.init.bind (.ref s.heap.objs.size)
    repeat (any_goals (first | assumption | wp_step))
    refine codeAny_mono (init_listI (E := E) hh hl hit hb) fun r₂ s₂ hr₂ => ?_
    match r₂, hr₂ with
    | .error e, hr₂ => exact hr₂
    | .ok (.ret r), hr₂ =>
      obtain ⟨rfl, hr₂⟩ := hr₂
      repeat (any_goals (first | assumption | wp_step))
      exact h _ hr₂
    | .ok .next, hr₂ => exact hr₂.elim
    | .ok .brk, hr₂ => exact hr₂.elim
    | .ok .cont, hr₂ => exact hr₂.elim
  | .ok .next, hr => exact hr.elim
  | .ok .brk, hr => exact hr.elim
  | .ok .cont, hr => exact hr.elim
theorem sorted_setI {a : Addr} {S : Int → Bool} {n : Nat} {Q : Value → Shared → Prop} (R : SetR w s.heap a S n) (hh : A.handled = none)
    (hQ : ∀ s' p (out : List Value) (c : Nat) (ms : List Int), (∀ b o, s.heap.get? b = some o → s'.heap.get? b = some o) → s'.gens = s.gens → s'.os = s.os → s.heap.objs.size ≤ p →
      s'.heap.get? p = some (seqObj "list" out.toArray c) → IntsAre out ms → ms.Pairwise (· < ·) → (∀ k, k ∈ ms ↔ S k = true) → ms.length = n → Q (.ref p) s') :
    wpAny (model P w) A (call (.builtin "sorted") [.ref a]) Q E s := by
  obtain ⟨o, es, ep, t, ho, hex, hd, g, nd, hm, hb, hf, hn, hr, hl⟩ := R
  refine Calls.call_function_entry kind_sorted plain_sorted entry_sorted (args_sorted1 _) ?_
  unfold Builtin.«sorted»
  refine wpAny_bind (m := checkCount "sorted" 1 1 _) (wpAny_pure ?_)
  refine wpAny_bind (collect_set (A := A.in1) hh ⟨o, ho, hex.1, hd⟩ hf hb hr hl fun s1 vs k1 hz g1 o1 pm => ?_)
  have e1 : vs.length = n := pm.length_eq.trans (by rw [List.length_map, Array.length_toList]; exact hn)
  have e2 : vs.length ≤ sizeLine := by rw [e1, ← hn, sizeLine_eq]; unfold scanBound at hb; omega
  have hI : IntsAre vs (vs.map SrtO.iv) := SrtO.ints_iv fun v hv => by
    obtain ⟨e, he, q⟩ := List.mem_map.mp (pm.mem_iff.mp hv)
    obtain ⟨k, tk, z, _⟩ := g e he
    exact ⟨k, tk, q.symm.trans z⟩
  have pk : (vs.map SrtO.iv).Perm (es.toList.map keyOf) := by
    have q := pm.map SrtO.iv
    rw [List.map_map] at q
    have e3 : es.toList.map (SrtO.iv ∘ fun x => x.2) = es.toList.map keyOf := List.map_congr_left fun e he => by
      obtain ⟨k, tk, z, _⟩ := g e he
      show SrtO.iv e.2 = keyOf e
      unfold keyOf
      rw [z]; rfl
    rw [e3] at q; exact q
  refine wpAny_bind (wpAny_newList ?_ e2)
  have hoL : (s1.heap.push (seqObj "list" vs.toArray 0)).get? s1.heap.objs.size = some (seqObj "list" vs.toArray 0) := Heap.get?_push_size _ rfl
  refine wpAny_bind (wpAny_holding (wpAny_call_entry slot_list_sort ⟨_, hoL, rfl⟩ entry_list_sort (SrtO.list_sort_ord (s := { s1 with heap := s1.heap.push (seqObj "list" vs.toArray 0) }) SrtO.swo_int hoL e2 (fun h2 => SrtO.ints_sortable hI h2) fun out h1 h2 => ⟨_, rfl, ?_⟩) (args_list_sort _)))
  obtain ⟨k2, k3, k4⟩ := SrtO.ints_out hI h1 h2
  obtain ⟨c, hc⟩ := sortedHeap_at (vs := vs) (out := out.toArray) hoL
  have pn := k3.trans pk
  refine wpAny_pure ⟨_, rfl, hQ _ s1.heap.objs.size out c (out.map SrtO.iv) (fun b u e => ?_) g1 o1 hz hc k2 (lt_of_le_nodup _ k4 (pn.nodup_iff.mpr nd)) (fun k => by rw [pn.mem_iff, ← hm k]) (pn.length_eq.trans (by rw [List.length_map, Array.length_toList]; exact hn))⟩
  have q := k1 b u e
  have lt := Heap.lt_size q
  exact (sortedHeap_old (Nat.ne_of_lt lt) (by rw [size_push']; exact Nat.lt_succ_of_lt lt)).trans (Heap.get?_push_of_some _ q)
/-! min(xs, default=d) -/
section
variable {R : Result → Shared → Prop} {I : Addr} {fp wr : List Addr} {n : Nat} {Pv : Nat → Value → Prop} {St : Nat → Heap → Prop} {d : Value}
end
end
end DLS

set_option Elab.async false
set_option linter.all false
set_option maxRecDepth 100000
set_option maxHeartbeats 4000000
/-! DL: sorted(set(xs)), min(xs, default=d), comparisons of four, a raise that is never reached -/
namespace DLS
open PySem PySem.Spec PyProof.Rows L2
section
variable {P : Program} {w : World} {A : Around} {E : Value → Shared → Prop} {s : Shared}
end
end DLS
namespace DL
open PySem PySem.Spec PyProof.Rows L2
/-! ### min(xs, default=d) -/
section
variable {X : Cx}
end
section
variable {X : Cx} {g : G} {W : WX} {e d : Expr} {we wd : WE} {p kp pos : Pos}
end
/-! ### sorted(set(xs)) -/
def rSortSet (K : PySem.W.Frag) : V → Hp → VK → Prop := fun x H Q => ∃ (l : Addr) (ns : List Int), x = V.ref l ∧ SqL K H l (ns.map V.int) ∧ ns.length ≤ 4000 ∧
  ∀ (ms : List Int) (p : Addr), ms.Pairwise (· < ·) → (∀ k, k ∈ ms ↔ k ∈ ns) → ms.length ≤ ns.length → H p = none → Q (.ref p) (upd H p (.lst (ms.map V.int)))
section
variable {X : Cx} {g : G} {W : WX} {e : Expr} {te : TE} {we : WE} {p p2 q pos : Pos}
theorem pe_sortSet (hc : X.calm = true) (hg : Gl X "sorted") (hm : X.mg "sorted" = none) (hg2 : Gl X "set") (hm2 : X.mg "set" = none) (ha : PE X e te) (na : starEach [e] X.env = (false, eval e X.env) :: starEach [] X.env := by rfl) :
    PE X (.Call (.Name "sorted" p) [.Call (.Name "set" p2) [e] [] q] [] pos) (tUn (rSortSet X.K) te) := by
  refine ⟨fun pins s σ H Q I h => ?_⟩
  refine Call_ (ld_blt I hg hm boot_sorted ?_)
  refine PyProof.Rows.callWith_builtin1 (PyProof.Rows.args_cons ?_ rfl) rfl rfl
  refine Call_ (ld_blt I hg2 hm2 boot_set ?_)
  refine PyProof.Rows.callWith_type1 (PyProof.Rows.args_cons (thn (ha.run pins s σ H _ I h) fun v s1 ⟨x, H1, I1, r1, q1⟩ => PyProof.Rows.args_nil ?_) na) na rfl
  obtain ⟨l, ns, rfl, hq, hl, q1⟩ := q1
  cases r1
  obtain ⟨its, rv, pl, hz⟩ := I1.list hq
  refine DLS.call_set_listI (ns := ns) (I1.ok.hd hc) pl.isList (by simpa using rv.ints) (by unfold scanBound; omega) fun s2 ⟨h', tk, c, e2, R, hcn, hk⟩ => ?_
  subst e2
  refine PyProof.Rows.args_nil ?_
  have I2 : Inv X pins σ H1 { s1 with heap := h', toks := tk } := I1.kept hk
  refine DLS.sorted_setI (s := { s1 with heap := h', toks := tk }) R (I2.ok.hd hc) fun s' pp out c2 ms k g o hp hgt hi hs hmem hlen => ?_
  have hle : ms.length ≤ ns.length := by omega
  have hlen : (ms.map V.int).length ≤ sizeLine := by rw [List.length_map, sizeLine_eq]; omega
  have hn : H1 pp = none := I2.hok.fresh hp
  have J : Inv X pins σ (upd H1 pp (.lst (ms.map V.int))) { { s1 with heap := h', toks := tk } with heap := s'.heap, gens := s'.gens, drawn := s'.drawn, toks := s'.toks } :=
    I2.call (ch := []) (Un.laid k hp hn) (I2.hok.laid k hp ⟨hlen, out, c2, vals_of_ints hi, hgt⟩) (by rw [g]; exact I2.bare) (fun _ z => nomatch z)
  have e : s' = { { s1 with heap := h', toks := tk } with heap := s'.heap, gens := s'.gens, drawn := s'.drawn, toks := s'.toks } := by
    cases s'
    cases o
    rfl
  rw [e]
  exact ⟨.ref pp, _, J, rfl, q1 ms pp hs (fun k => by rw [hmem k, decide_eq_true_eq]) hle hn⟩
@[reducible] def oSortSet : O1 := fun d k => match d with
  | .list es => optK (intsOf es) fun ns => ns.length ≤ 4000 ∧ ∀ ms : List Int, ms.Pairwise (· < ·) → (∀ k, k ∈ ms ↔ k ∈ ns) → ms.length ≤ ns.length → k (.own 0 (.lst (ms.map PyData.int)))
  | _ => False
theorem lift_sortSet {K : PySem.W.Frag} : Lift1 K (rSortSet K) oSortSet := by
  intro O H x dx QD Q _ hx q fin
  cases hx with
  | lst a1 a2 =>
    rename_i a xs es
    have q : optK (intsOf es) _ := q
    cases e : intsOf es with
    | none => rw [e] at q; exact q.elim
    | some ns =>
      rw [e] at q
      have e2 := intsOf_dp a2 e
      subst e2
      exact ⟨_, ns, rfl, Same.seq same_hide a1, q.1, fun ms p h1 h2 h3 n => fin _ _ (.own 0 (.lst _)) (same_new n) (new_lst n (DL.DpAll.ints ms)) (q.2 ms h1 h2 h3)⟩
  | _ => exact q.elim
theorem ee_sortSet (hc : X.calm = true) (hg : Gl X "sorted") (hm : X.mg "sorted" = none) (hg2 : Gl X "set") (hm2 : X.mg "set" = none) (ha : EE X g W e we) (na : starEach [e] X.env = (false, eval e X.env) :: starEach [] X.env := by rfl) :
    EE X g W (.Call (.Name "sorted" p) [.Call (.Name "set" p2) [e] [] q] [] pos) (wU oSortSet we) := by
  obtain ⟨te, p1, s1⟩ := ha.ex
  exact ⟨_, pe_sortSet hc hg hm hg2 hm2 p1 na, sem_un lift_sortSet s1⟩
end
/-! ### a op b op' c op'' d, whole numbers -/
def tChain3 (r r' r'' : R2) (ta tb tc td : TE) : TE := fun σ H Q => ta σ H fun x H1 => tb σ H1 fun y H2 => r x y H2 fun z H3 => ∃ k, z = .bl k ∧ if k = true then tc σ H3 fun u H4 => r' y u H4 fun z' H5 => ∃ k', z' = .bl k' ∧ (if k' = true then td σ H5 fun v H6 => r'' u v H6 Q else Q (.bl false) H5) else Q (.bl false) H3
section
variable {X : Cx} {a b c d : Expr} {ta tb tc td : TE} {pos : Pos}
theorem pe_chain3 {op op' op'' : CmpOp} {r r' r'' : R2} (ho : OpR X (compareOp op) r) (ho' : OpR X (compareOp op') r') (ho'' : OpR X (compareOp op'') r'') (ha : PE X a ta) (hb : PE X b tb) (hc : PE X c tc) (hd : PE X d td)
    (hm : lastMarks [op, op', op''] [b, c, d] = false := by with_unfolding_all rfl) : PE X (.Compare a [op, op', op''] [b, c, d] pos) (tChain3 r r' r'' ta tb tc td) := by
  refine ⟨fun pins s σ H Q I h => Compare_chain (thn (ha.run pins s σ H _ I h) fun v s1 ⟨x, H1, I1, r1, q1⟩ => chain_link (thn (hb.run pins s1 σ H1 _ I1 q1) fun u s2 ⟨y, H2, I2, r2, q2⟩ => thn (ho pins s2 σ H2 x y v u _ I2 r1 r2 q2) fun d s3 ⟨z, H3, I3, r3, k, e, q3⟩ => ?_)) hm⟩
  subst e
  cases r3
  refine wpAny_truthy_bool ?_
  cases k with
  | false => exact ite_ff ⟨.bl false, H3, I3, rfl, q3⟩
  | true =>
    refine ite_tt (chain_link (thn (hc.run pins s3 σ H3 _ I3 q3) fun u2 s4 ⟨y2, H4, I4, r4, q4⟩ => thn (ho' pins s4 σ H4 y y2 u u2 _ I4 r2 r4 q4) fun d2 s5 ⟨z2, H5, I5, r5, k2, e2, q5⟩ => ?_))
    subst e2
    cases r5
    refine wpAny_truthy_bool ?_
    cases k2 with
    | false => exact ite_ff ⟨.bl false, H5, I5, rfl, q5⟩
    | true => exact ite_tt (chain_last (thn (hd.run pins s5 σ H5 _ I5 q5) fun w' s6 ⟨z', H6, I6, r6, q6⟩ => ho'' pins s6 σ H6 y2 z' u2 w' Q I6 r4 r6 q6))
end
@[reducible] def wInt (we : WE) (ρ : Rho) (k : Int → Rho → Prop) (E : KX) : Prop := we ρ (fun c ρ1 => match c with
  | .v (.int i) => k i ρ1
  | _ => False) E
@[reducible] def wCh3 (f f' f'' : Int → Int → Bool) (wa wb wc wd : WE) : WE := fun ρ Q E => wInt wa ρ (fun i ρ1 => wInt wb ρ1 (fun j ρ2 => if f i j = true then wInt wc ρ2 (fun k ρ3 => if f' j k = true then wInt wd ρ3 (fun l ρ4 => Q (.v (.bool (f'' k l))) ρ4) E else Q (.v (.bool false)) ρ3) E else Q (.v (.bool false)) ρ2) E) E
section
variable {K : PySem.W.Frag} {g : G} {W : WX} {t ta tb tc td : TE} {w wa wb wc wd : WE}
theorem sem_int (h : Sem K g W t w) {σ : L2.St} {vs : List V} {H : Hp} {ρ : Rho} {cs : List C} {k : Int → Rho → Prop} {ED : KX} {Q : VK} (hS : SR K g σ vs H ρ cs) (hw : wInt w ρ k ED) (hX : XEnds K g W σ ED)
    (hQ : ∀ i H' ρ', SR K g σ vs H' ρ' cs → k i ρ' → Q (.int i) H') : t σ H Q := by
  refine h σ vs H ρ cs _ ED _ hS hw hX fun x H1 c1 ρ1 S1 q1 => ?_
  split at q1
  · have := S1.top
    cases this
    exact hQ _ H1 ρ1 S1.pop q1
  · exact q1.elim
theorem sem_chain3 {f f' f'' : Int → Int → Bool} (ha : Sem K g W ta wa) (hb : Sem K g W tb wb) (hc : Sem K g W tc wc) (hd : Sem K g W td wd) :
    Sem K g W (tChain3 (rI0 fun i j => .bl (f i j)) (rI0 fun i j => .bl (f' i j)) (rI0 fun i j => .bl (f'' i j)) ta tb tc td) (wCh3 f f' f'' wa wb wc wd) := by
  intro σ vs H ρ cs QD ED Q hS hw hX hQ
  refine sem_int ha hS hw hX fun i H1 ρ1 S1 q1 => sem_int hb S1 q1 hX fun j H2 ρ2 S2 q2 => ⟨i, j, rfl, rfl, _, rfl, ?_⟩
  by_cases z : f i j = true
  · rw [if_pos z] at q2 ⊢
    refine sem_int hc S2 q2 hX fun k H3 ρ3 S3 q3 => ⟨j, k, rfl, rfl, _, rfl, ?_⟩
    by_cases z2 : f' j k = true
    · rw [if_pos z2] at q3 ⊢
      exact sem_int hd S3 q3 hX fun l H4 ρ4 S4 q4 => ⟨k, l, rfl, rfl, hQ _ H4 _ ρ4 (SR.resV S4 (Same.refl H4) (.bl _)) q4⟩
    · rw [if_neg z2] at q3 ⊢
      exact hQ _ H3 _ ρ3 (SR.resV S3 (Same.refl H3) (.bl _)) q3
  · rw [if_neg z] at q2 ⊢
    exact hQ _ H2 _ ρ2 (SR.resV S2 (Same.refl H2) (.bl _)) q2
end
section
variable {X : Cx} {g : G} {W : WX} {a b c d : Expr} {wa wb wc wd : WE} {pos : Pos}
theorem ee_chain3 {op op' op'' : CmpOp} {f f' f'' : Int → Int → Bool} (ho : OpR X (compareOp op) (rI0 fun i j => .bl (f i j))) (ho' : OpR X (compareOp op') (rI0 fun i j => .bl (f' i j))) (ho'' : OpR X (compareOp op'') (rI0 fun i j => .bl (f'' i j))) (ha : EE X g W a wa) (hb : EE X g W b wb) (hc : EE X g W c wc) (hd : EE X g W d wd)
    (hm : lastMarks [op, op', op''] [b, c, d] = false := by with_unfolding_all rfl) : EE X g W (.Compare a [op, op', op''] [b, c, d] pos) (wCh3 f f' f'' wa wb wc wd) := by
  obtain ⟨ta, p1, s1⟩ := ha.ex
  obtain ⟨tb, p2, s2⟩ := hb.ex
  obtain ⟨tc, p3, s3⟩ := hc.ex
  obtain ⟨td, p4, s4⟩ := hd.ex
  exact ⟨_, pe_chain3 ho ho' ho'' p1 p2 p3 p4 hm, sem_chain3 s1 s2 s3 s4⟩
@[reducible] def wNever : WS := fun _ _ => False
end
end DL

set_option Elab.async false
set_option linter.all false
set_option maxRecDepth 100000
set_option maxHeartbeats 4000000
/-! DL: texts: s * k -/
namespace DL
open PySem PySem.Spec PyProof.Rows L2
def repS (x : Str) (k : Nat) : Str := ⟨(List.replicate k x.cps.toList).flatten.toArray⟩
theorem foldl_app : ∀ (l : List (Array Nat)) (a : Array Nat), (l.foldl (· ++ ·) a).toList = a.toList ++ (l.map Array.toList).flatten
  | [], a => by simp
  | b :: l, a => by
    rw [List.foldl_cons, foldl_app l]
    simp
theorem repS_fold (x : Str) (k : Nat) : (⟨(List.replicate k x.cps).foldl (· ++ ·) #[]⟩ : Str) = repS x k := by
  unfold repS
  congr 1
  apply Array.ext'
  rw [foldl_app]
  simp
def rMulS : R2 := fun x y H Q => ∃ (a : Str) (k : Int), x = .str a ∧ y = .int k ∧ a.length ≤ 1000 ∧ -1000 ≤ k ∧ k ≤ 1000 ∧ Q (.str (repS a k.toNat)) H
theorem toolong_no {n : Nat} (h : n ≤ 1000000) : Builtin.Str.tooLong n = false := by
  unfold Builtin.Str.tooLong
  have : n ≤ sizeLine := by rw [sizeLine_eq]; omega
  first | exact decide_eq_false (by omega) | (simp; omega)
section
variable {X : Cx}
theorem op_mulS : OpR X (binaryOp .Mult) rMulS := by
  intro pins s σ H x y v u Q I rx ry h
  obtain ⟨a, k, rfl, rfl, hl, k0, k1, q⟩ := h
  obtain ⟨t, rfl⟩ := rx
  obtain ⟨t', rfl⟩ := ry
  have hle : a.length * k.toNat ≤ 1000000 := Nat.le_trans (Nat.mul_le_mul hl (show k.toNat ≤ 1000 by omega)) (by decide)
  refine P.mul_str ?_ (fun h1 _ h2 => ?_) (fun _ _ => toolong_no hle) ?_
  · rw [decide_eq_false (by omega), decide_eq_false (by omega)]; rfl
  · have h3 : ((2 : Int) ^ 63 - 1) / k ≥ 1000 := (Int.le_ediv_iff_mul_le (by omega)).mpr (by omega)
    omega
  · by_cases c1 : k < 1
    · rw [if_pos c1]
      have e : repS a k.toNat = Str.empty := by
        have : k.toNat = 0 := by omega
        rw [this]
        first | rfl | decide
      rw [e] at q
      exact ⟨by decide, .str Str.empty, H, I.tok _, ⟨_, rfl⟩, q⟩
    · rw [if_neg c1]
      by_cases c2 : (k == 1 || a.length == 0) = true
      · rw [if_pos c2]
        have e : repS a k.toNat = a := by
          unfold repS
          rcases Bool.or_eq_true_iff.mp c2 with z | z
          · have : k = 1 := by simpa using z
            subst this
            simp
          · have z2 : a.cps.toList = [] := by
              have : a.cps.size = 0 := by simpa [Str.length] using z
              simpa using this
            obtain ⟨c⟩ := a
            have : c = #[] := by simpa using z2
            subst this
            simp
        rw [e] at q
        exact ⟨.str a, H, I, ⟨_, rfl⟩, q⟩
      · rw [if_neg c2, repS_fold]
        refine ⟨?_, .str _, H, I.tok _, ⟨_, rfl⟩, q⟩
        have e : (repS a k.toNat).length = a.length * k.toNat := by
          unfold repS Str.length
          simp [Nat.mul_comm]
        first
          | (rw [e]; exact Nat.le_trans hle (by rw [sizeLine_eq]; decide))
          | (show Builtin.Str.tooLong _ = false; rw [e]; exact toolong_no hle)
end
@[reducible] def oMulS : O2 := fun d1 d2 k => match d1, d2 with
  | .str a, .int i => a.length ≤ 1000 ∧ (-1000 ≤ i ∧ i ≤ 1000) ∧ k (.v (.str (repS a i.toNat)))
  | _, _ => False
theorem lift_mulS {K : PySem.W.Frag} : Lift2 K rMulS oMulS := by
  intro O H x y dx dy QD Q hO hx hy q fin
  cases hx <;> try exact q.elim
  cases hy <;> try exact q.elim
  exact ⟨_, _, rfl, rfl, q.1, q.2.1.1, q.2.1.2, fin _ H (.v _) (Same.refl H) (.str _) q.2.2⟩
theorem ee_mulS {X : Cx} {g : G} {W : WX} {a b : Expr} {wa wb : WE} {pos : Pos} (ha : EE X g W a wa) (hb : EE X g W b wb) : EE X g W (.BinOp a .Mult b pos) (wB oMulS wa wb) := by
  obtain ⟨ta, p1, s1⟩ := ha.ex
  obtain ⟨tb, p2, s2⟩ := hb.ex
  exact ⟨_, pe_op op_mulS p1 p2, sem_op lift_mulS s1 s2⟩
/-! texts as lists of signs -/
@[reducible] def T (l : List Nat) : Str := ⟨l.toArray⟩
theorem T_list {l : List Nat} : (T l).cps.toList = l := by simp [T]
theorem T_len {l : List Nat} : (T l).length = l.length := by simp [T, Str.length]
theorem T_app {a b : List Nat} : T a ++ T b = T (a ++ b) := by
  show Str.append _ _ = _
  simp [Str.append, T]
theorem T_inj {a b : List Nat} (h : T a = T b) : a = b := by
  have := congrArg (fun z => z.cps.toList) h
  simpa [T] using this
theorem T_rep {l : List Nat} {n : Nat} : repS (T l) n = T (List.replicate n l).flatten := by
  unfold repS
  rw [T_list]
theorem flat_rep {c n : Nat} : (List.replicate n [c]).flatten = List.replicate n c := by
  induction n with
  | zero => rfl
  | succ n ih => rw [List.replicate_succ, List.flatten_cons, ih]; rfl
theorem T_drop {l : List Nat} {k : Nat} (h : k ≤ l.length) : cutS (T l) (some (k : Int)) none = T (l.drop k) := by
  unfold cutS
  rw [T_list, T_len, HT.sIx_none, HT.sIx_nat, Nat.min_eq_left h]
  congr 2
  exact List.take_of_length_le (by rw [List.length_drop]; exact Nat.le_refl _)
theorem T_take {l : List Nat} {k : Nat} (h : k ≤ l.length) : cutS (T l) none (some (k : Int)) = T (l.take k) := by
  unfold cutS
  rw [T_list, T_len, HT.sIx_none, HT.sIx_nat, Nat.min_eq_left h, Nat.sub_zero, List.drop_zero]
end DL

set_option Elab.async false
set_option linter.all false
set_option maxRecDepth 100000
set_option maxHeartbeats 4000000
/-! DLOwn: a comprehension over an own list that stays own -/
namespace DL
open PySem PySem.Spec PyProof.Rows L2
section
variable {K : PySem.W.Frag} {g : G} {W : WX} {T : List Nat} {wg : WG} {wt : WT} {we : WE} {i0 : Nat}
end
section
variable {X : Cx} {g : G} {W : WX} {elt tg : Expr} {ifs : List Expr} {scope : Scope} {own : List (Str × Nat)} {pos p : Pos} {wg : WG} {wt : WT} {we : WE} {i : Nat} {x : Str}
end
end DL

set_option Elab.async false
set_option linter.all false
/-! loops over lists given as data, over ranges -/
namespace DL
open PySem PySem.Spec PyProof.Rows L2
theorem forK_st {wg : WG} {body : WS} {DD : EndsD} {ρ : Rho} (ds : List D) (I : Rho → Prop) (h : I ρ) (h0 : ∀ ρ, I ρ → DD.nx ρ)
    (h1 : ∀ d ∈ ds, ∀ (ρ : Rho) (next : Rho → Prop), (∀ ρ', I ρ' → next ρ') → I ρ → wg d ρ fun ρ1 => body ⟨next, DD.rt, DD.nx, next, DD.ex⟩ ρ1) : forK wg body ds DD ρ :=
  forK_ind (fun es ρ => (∀ d ∈ es, d ∈ ds) ∧ I ρ) (fun ρ z => h0 ρ z.2) (fun d es ρ next hn z => h1 d (z.1 d (.head _)) ρ next (fun ρ' y => hn ρ' ⟨fun d' hd => z.1 d' (.tail _ hd), y⟩) z.2) ds ρ ⟨fun _ h => h, h⟩
theorem forK_n {wg : WG} {body : WS} {DD : EndsD} {ρ : Rho} (ds : List D) (I : Nat → Rho → Prop) (h : I 0 ρ) (h0 : ∀ ρ, I ds.length ρ → DD.nx ρ)
    (h1 : ∀ (k : Nat) (d : D) (ρ : Rho) (next : Rho → Prop), k < ds.length → d ∈ ds → (∀ ρ', I (k + 1) ρ' → next ρ') → I k ρ → wg d ρ fun ρ1 => body ⟨next, DD.rt, DD.nx, next, DD.ex⟩ ρ1) : forK wg body ds DD ρ :=
  forK_ind (fun es ρ => (∀ d ∈ es, d ∈ ds) ∧ ∃ k, k + es.length = ds.length ∧ I k ρ) (fun ρ z => by
      obtain ⟨_, k, e, i⟩ := z
      rw [List.length_nil, Nat.add_zero] at e
      rw [e] at i
      exact h0 ρ i) (fun d es ρ next hn z => by
      obtain ⟨hm, k, e, i⟩ := z
      rw [List.length_cons] at e
      exact h1 k d ρ next (by omega) (hm d (.head _)) (fun ρ' y => hn ρ' ⟨fun d' hd => hm d' (.tail _ hd), k + 1, by omega, y⟩) i) ds ρ ⟨fun _ h => h, 0, by omega, h⟩
theorem lcK_r0 {T : List Nat} {wg : WG} {wt : WT} {we : WE} {k : List D → Rho → Prop} {ρ0 : Rho} (g : Nat → Option D) (n : Nat)
    (h : ∀ x, x < n → ∀ next : Option D → Rho → Prop, next (g x) ρ0 → wg (.int (x : Nat)) ρ0 fun ρ1 => wt ρ1 (fun b ρ2 => if b = true then we ρ2 (fun c ρ3 => match frzC c with
      | .v d' => next (some d') (clr T ρ3)
      | _ => False) (fun _ _ => False) else next none (clr T ρ2)) (fun _ _ => False)) (fin : k ((List.range n).filterMap g) ρ0) : lcK T wg wt we (rangeD 0 n) [] ρ0 k :=
  lcK_rg g n (fun x hx next hn => by
    rw [Int.zero_add]
    exact h x hx next hn) fin
def forN (wg : WG) (body : WS) (ds : List D) (DD : EndsD) (ρ : Rho) : Prop := forK wg body ds DD ρ
@[reducible] def wForN (wi : WI) (wg : WG) (body : WS) : WS := fun DD ρ => wi ρ (fun ds ρ1 => forN wg body ds DD ρ1) DD.ex
theorem forN_of {wg : WG} {body : WS} {ds : List D} {DD : EndsD} {ρ : Rho} (h : forK wg body ds DD ρ) : forN wg body ds DD ρ := h
section
variable {X : Cx} {g : G} {W : WX} {tg iter : Expr} {body : List Stmt} {wi : WI} {wg : WG} {wb : WS} {T : List Nat} {pos : Pos}
theorem es_forN (hp : PassesOwn (model X.prog X.w) X.A X.env X.xe) (hc : X.calm = true) (hi : EI X g W tg iter wi) (hg : EG X g tg T wg) (hb : EB X g W body wb) (hs : ∀ x, foldedSetIterable iter X.env x = pure x := by intro _; rfl) : ES X g W (.For tg iter body [] pos) (wForN wi wg wb) := es_for hp hc hi hg hb hs
end
end DL
namespace DL
open PySem PySem.Spec PyProof.Rows L2
theorem eb_never {X : Cx} {g : G} {W : WX} {sts : List Stmt} : EB X g W sts wNever := ⟨fun _ _ _ => False, ⟨fun _ _ _ _ _ _ h => h.elim⟩, fun _ _ _ _ _ _ _ _ _ hw _ => hw⟩
end DL
namespace DL
open PySem PySem.Spec PyProof.Rows L2
theorem ifb_t {A B : Prop} {b : Bool} (h : b = true) (a : A) : if b = true then A else B := by rw [if_pos h]; exact a
theorem ifb_f {A B : Prop} {b : Bool} (h : b = false) (a : B) : if b = true then A else B := by rw [if_neg (by rw [h]; exact Bool.false_ne_true)]; exact a
end DL
namespace DL
open PySem PySem.Spec PyProof.Rows L2
end DL

set_option Elab.async false
set_option linter.all false
set_option maxRecDepth 100000
/-! range(i, j) of numbers of any size -/
namespace DL
open PySem PySem.Spec PyProof.Rows L2
section
variable {X : Cx} {tg : Expr}
end
section
variable {X : Cx} {g : G} {W : WX} {tg e : Expr} {we : WE} {pos : Pos}
end
end DL

set_option Elab.async false
set_option linter.all false
set_option maxRecDepth 100000
/-! sorted(list of texts) -/
namespace DL
open PySem PySem.Spec PyProof.Rows L2
section
variable {X : Cx} {g : G} {W : WX} {e : Expr} {es : List Expr} {wa : WA} {p pos : Pos}
end
end DL

set_option Elab.async false
set_option linter.all false
set_option maxRecDepth 100000
set_option maxHeartbeats 4000000
/-! DL: x.insert(i, e) of an own list in a slot -/
namespace DL
open PySem PySem.Spec PyProof.Rows L2
section
variable {X : Cx} {g : G} {W : WX} {a b : Expr} {wa : WA} {i : Nat} {x : Str} {p apos pos : Pos}
end
end DL

set_option Elab.async false
set_option linter.all false
set_option maxRecDepth 100000
set_option maxHeartbeats 4000000
/-! DL: the program's own exceptions are raised -/
namespace DL
open PySem PySem.Spec PyProof.Rows L2
section
variable {X : Cx} {x : Str} {p pos pos' : Pos}
end
end DL

set_option Elab.async false
set_option linter.all false
set_option maxRecDepth 100000
set_option maxHeartbeats 4000000
/-! DL: defs that are promised only where no repr is under way (there repr of nested data has a meaning) -/
namespace DL
open PySem PySem.Spec PyProof.Rows L2
section
variable {P : Program} {w : World} {K : PySem.W.Frag} {mg : Str → Option Value} {base : Heap} {x qual : Str} {params : Arguments} {body : List Stmt} {scope : Scope} {dvs : List V} {kws : List (Str × V)} {f : Addr} {fd : FuncData}
end
section
variable {X : Cx} {g : G} {k : Nat} {S : SpD} {x : Str} {p pos : Pos} {e : Expr} {es : List Expr} {wa : WA}
end
/-! ### the end of a law whose own def shows data -/
end DL

set_option Elab.async false
set_option linter.all false
set_option maxRecDepth 100000
set_option maxHeartbeats 4000000
/-! DL: repr of nested data -/
namespace DL
open PySem PySem.Spec PyProof.Rows L2
/-! ### == of texts, whatever their signs -/
section
variable {X : Cx} {g : G} {W : WX} {a b : Expr} {wa wb : WE} {pos : Pos}
end
/-! ### how long what is shown may be -/
theorem join_le {m : Nat} : ∀ {ts : List Str}, (∀ t ∈ ts, t.length ≤ m) → (Str.join ", " ts).length ≤ ts.length * (m + 2)
  | [], _ => Nat.zero_le _
  | [x], h => by
    have := h x (.head _)
    show x.length ≤ 1 * (m + 2)
    omega
  | x :: y :: r, h => by
    have ih := join_le (ts := y :: r) fun t ht => h t (.tail _ ht)
    have hx := h x (.head _)
    have e : (Str.join ", " (x :: y :: r)).length = x.length + 2 + (Str.join ", " (y :: r)).length := by
      show (x ++ ", " ++ Str.join ", " (y :: r)).length = _
      rw [strLen_append, strLen_append]
      rfl
    rw [e]
    have e2 : (x :: y :: r).length * (m + 2) = (y :: r).length * (m + 2) + (m + 2) := by rw [List.length_cons, Nat.succ_mul]
    omega
theorem tuple_le {m : Nat} {ts : List Str} (h : ∀ t ∈ ts, t.length ≤ m) : (tupleText ts).length ≤ ts.length * (m + 2) + 3 := by
  have := join_le h
  unfold tupleText
  rw [strLen_append, strLen_append]
  have e1 : (("(" : String) : Str).length = 1 := rfl
  have e2 : ((if (ts.length == 1) = true then ",)" else ")" : String) : Str).length ≤ 2 := by split <;> decide
  omega
theorem textFrom_le {m : Nat} : ∀ {ts : List Str} {k : Nat} {acc : Str}, (∀ t ∈ ts, t.length ≤ m) → (textFrom k acc ts).length ≤ acc.length + ts.length * (m + 2)
  | [], _, _, _ => Nat.le_add_right _ _
  | t :: ts, k, acc, h => by
    have ih := textFrom_le (ts := ts) (k := k + 1) (acc := acc ++ (if k > 0 then ", " else "" : String) ++ t) fun t ht => h t (.tail _ ht)
    have ht := h t (.head _)
    have e : (acc ++ (if k > 0 then ", " else "" : String) ++ t).length ≤ acc.length + 2 + t.length := by
      rw [strLen_append, strLen_append]
      have : ((if k > 0 then ", " else "" : String) : Str).length ≤ 2 := by split <;> decide
      omega
    show (textFrom (k + 1) (acc ++ (if k > 0 then ", " else "" : String) ++ t) ts).length ≤ _
    rw [List.length_cons, Nat.succ_mul]
    omega
theorem list_le {m : Nat} {ts : List Str} (h : ∀ t ∈ ts, t.length ≤ m) : (listText ts).length ≤ ts.length * (m + 2) + 2 := by
  unfold listText
  have := textFrom_le (k := 0) (acc := ("[" : String)) h
  rw [strLen_append]
  have e1 : (("[" : String) : Str).length = 1 := rfl
  have e2 : (("]" : String) : Str).length = 1 := rfl
  omega
theorem shownAll_eq : ∀ {ds : List D}, PyData.shownAll ds = ds.map PyData.shown
  | [] => by unfold PyData.shownAll; rfl
  | d :: ds => by unfold PyData.shownAll; rw [shownAll_eq]; rfl
theorem showableAll_eq : ∀ {ds : List D}, PyData.showableAll ds = ds.all PyData.showable
  | [] => by unfold PyData.showableAll; rfl
  | d :: ds => by unfold PyData.showableAll; rw [showableAll_eq]; rfl
theorem hasDictAll_eq : ∀ {ds : List D}, PyData.hasDictAll ds = ds.any PyData.hasDict
  | [] => by unfold PyData.hasDictAll; rfl
  | d :: ds => by unfold PyData.hasDictAll; rw [hasDictAll_eq]; rfl
theorem depthAll_le {n : Nat} : ∀ {ds : List D}, (∀ d ∈ ds, d.depth ≤ n) → PyData.depthAll ds ≤ n
  | [], _ => Nat.zero_le _
  | d :: ds, h => Nat.max_le.mpr ⟨h d (.head _), depthAll_le fun e he => h e (.tail _ he)⟩
theorem depth_tuple {n : Nat} {ds : List D} (h : ∀ d ∈ ds, d.depth ≤ n) : (PyData.tuple ds).depth ≤ n + 1 := Nat.succ_le_succ (depthAll_le h)
theorem depth_list {n : Nat} {ds : List D} (h : ∀ d ∈ ds, d.depth ≤ n) : (PyData.list ds).depth ≤ n + 1 := Nat.succ_le_succ (depthAll_le h)
structure Shn (n m : Nat) (d : D) : Prop where
  ok : d.showable = true
  nd : d.hasDict = false
  dp : d.depth ≤ n
  sz : d.shown.length ≤ m
theorem Shn.up {n m n' m' : Nat} {d : D} (h : Shn n m d) (hn : n ≤ n') (hm : m ≤ m') : Shn n' m' d := ⟨h.ok, h.nd, Nat.le_trans h.dp hn, Nat.le_trans h.sz hm⟩
theorem Shn.none {n m : Nat} (h : 4 ≤ m) : Shn n m .none := ⟨rfl, rfl, Nat.zero_le _, by unfold PyData.shown; exact h⟩
theorem Shn.int {n k : Nat} {i : Int} (hk : 0 < k) (h : i.natAbs < 10 ^ k) (h9 : k ≤ 500) : Shn n (k + 1) (.int i) := ⟨by
    unfold PyData.showable
    refine decide_eq_true ?_
    have : i.natAbs < 2 ^ 1920 := Nat.lt_of_lt_of_le h (Nat.le_trans (Nat.pow_le_pow_right (by decide) h9) (by decide +kernel))
    exact PySem.Flt.log2_lt_of (by decide) this, rfl, Nat.zero_le _, by unfold PyData.shown; rw [PySem.ofString_length]; exact int_text_length_le10 hk h⟩
theorem Shn.str {n : Nat} {x : Str} (h : ∀ c ∈ x.cps.toList, c < 16 ^ 8) : Shn n (10 * x.length + 2) (.str x) := ⟨rfl, rfl, Nat.zero_le _, by unfold PyData.shown; exact StrLaws.reprText_len x h⟩
theorem Shn.tuple {n m : Nat} {ds : List D} (h : ∀ d ∈ ds, Shn n m d) : Shn (n + 1) (ds.length * (m + 2) + 3) (.tuple ds) := by
  refine ⟨?_, ?_, ?_, ?_⟩
  · unfold PyData.showable; rw [showableAll_eq]; exact List.all_eq_true.mpr fun d hd => (h d hd).ok
  · unfold PyData.hasDict; rw [hasDictAll_eq]; exact List.any_eq_false.mpr fun d hd => by rw [(h d hd).nd]; exact Bool.false_ne_true
  · exact depth_tuple fun d hd => (h d hd).dp
  · unfold PyData.shown
    rw [shownAll_eq]
    have := tuple_le (m := m) (ts := ds.map PyData.shown) fun t ht => by
      obtain ⟨d, hd, rfl⟩ := List.mem_map.mp ht
      exact (h d hd).sz
    rwa [List.length_map] at this
theorem Shn.list {n m : Nat} {ds : List D} (h : ∀ d ∈ ds, Shn n m d) : Shn (n + 1) (ds.length * (m + 2) + 2) (.list ds) := by
  refine ⟨?_, ?_, ?_, ?_⟩
  · unfold PyData.showable; rw [showableAll_eq]; exact List.all_eq_true.mpr fun d hd => (h d hd).ok
  · unfold PyData.hasDict; rw [hasDictAll_eq]; exact List.any_eq_false.mpr fun d hd => by rw [(h d hd).nd]; exact Bool.false_ne_true
  · exact depth_list fun d hd => (h d hd).dp
  · unfold PyData.shown
    rw [shownAll_eq]
    have := list_le (m := m) (ts := ds.map PyData.shown) fun t ht => by
      obtain ⟨d, hd, rfl⟩ := List.mem_map.mp ht
      exact (h d hd).sz
    rwa [List.length_map] at this
end DL

set_option Elab.async false
set_option linter.all false
set_option maxRecDepth 100000
set_option maxHeartbeats 4000000
/-! DL: sorted of tuples that begin with unlike tuples of whole numbers -/
namespace DL
open PySem PySem.Spec PyProof.Rows L2
section
variable {prog : Program} {w : World} {A : Around} {s : Shared}
end
/-! ### over data -/
section
variable {X : Cx} {g : G} {W : WX} {e : Expr} {es : List Expr} {wa : WA} {p pos : Pos}
end
end DL

set_option Elab.async false
set_option linter.all false
set_option maxRecDepth 100000
set_option maxHeartbeats 4000000
/-! DLDict: own dicts of slots: {}, d.get(k, x), d[k], k in d, d[k] = v, sorted(d). -/
namespace DL
open PySem PySem.Spec PyProof.Rows L2
@[reducible] def keyD : D → Option Key
  | .int i => some (.inl i)
  | .str s => some (.inr s)
  | _ => none
section
variable {K : PySem.W.Frag} {B : Hp}
/-! what the heap holds -/
end
section
variable {K : PySem.W.Frag} {g : G} {σ : L2.St} {vs : List V} {H H' : Hp} {ρ : Rho} {cs : List C} {i t : Nat}
theorem dp_up {x y : V} {c : C} {d : D} (h : Dp K (hide H (tot σ (x :: vs) ρ (c :: cs) ++ g.P0)) y d) : Dp K (hide H (tot σ vs ρ cs ++ g.P0)) y d := by
  refine dp_mono (fun a o q => ?_) _ _ h
  obtain ⟨h1, h2⟩ := hide_some.mp q
  refine hide_some.mpr ⟨fun z => h1 ?_, h2⟩
  rw [tot_cons]
  rcases List.mem_append.mp z with z | z
  · exact List.mem_append_left _ (List.mem_append_right _ z)
  · exact List.mem_append_right _ z
end
section
variable {X : Cx} {g : G} {W : WX} {e k d : Expr} {we wk wd : WE} {i : Nat} {x : Str} {p apos pos p2 : Pos}
end
end DL

set_option Elab.async false
set_option linter.all false
set_option maxRecDepth 100000
set_option maxHeartbeats 4000000
/-! DLSrtS: sorted of tuples that begin with unlike texts; sorted(d.items()) -/
namespace DL
open PySem PySem.Spec PyProof.Rows L2
/-! ### the order of texts -/
/-! ### the sort -/
section
variable {prog : Program} {w : World} {A : Around} {s : Shared}
end
/-! ### over data -/
section
variable {X : Cx} {g : G} {W : WX} {e : Expr} {es : List Expr} {wa : WA} {p pos : Pos}
end
end DL

set_option Elab.async false
set_option linter.all false
set_option maxRecDepth 100000
set_option maxHeartbeats 4000000
/-! DLItems: sorted(d.items()) of a dict with texts for keys -/
namespace DL
open PySem PySem.Spec PyProof.Rows L2
section
variable {X : Cx}
end
/-! ### over data -/
section
variable {X : Cx} {g : G} {W : WX} {i : Nat} {x : Str} {p p2 apos cpos pos : Pos}
end
/-! ### sorted(d), the keys texts -/
def txS : Value → Str
  | .str x _ => x
  | _ => ⟨#[]⟩
section
variable {prog : Program} {w : World} {A : Around} {s : Shared}
end
section
variable {X : Cx}
end
section
variable {X : Cx} {g : G} {W : WX} {i : Nat} {x : Str} {p p2 pos : Pos}
end
/-! ### texts compared -/
section
variable {X : Cx} {g : G} {W : WX} {a b : Expr} {wa wb : WE} {pos : Pos}
end
end DL

set_option Elab.async false
set_option linter.all false
set_option maxRecDepth 100000
set_option maxHeartbeats 4000000
/-! DLDflt: calls that leave out parameters whose defaults are whole numbers -/
namespace DL
open PySem PySem.Spec PyProof.Rows L2
section
variable {X : Cx} {g : G} {W : WX} {CX : CXT} {k : Nat} {f : Addr} {fd : FuncData} {ps : List Str} {S : SpD} {E : XK} {x : Str} {p pos : Pos} {e : Expr} {es : List Expr} {wa : WA}
variable {dvs : List Int}
end
end DL

set_option Elab.async false
set_option linter.all false
set_option maxRecDepth 100000
set_option maxHeartbeats 4000000
/-! DLHd: what a head is asked (definitions that the head's reckoning needs, apart from the layer) -/
namespace DL
open PySem PySem.Spec PyProof.Rows L2
end DL

set_option Elab.async false
set_option linter.all false
set_option maxRecDepth 100000
set_option maxHeartbeats 4000000
/-! DL: try .. except in a def's own suite; isinstance of what is caught -/
namespace DL
open PySem PySem.Spec PyProof.Rows L2
/-! ### blocks that stand in no loop -/
section
variable {X : Cx} {g : G} {W : WX} {st : Stmt} {rest sts : List Stmt} {w u : WS}
end
/-! ### the body of a def -/
section
variable {P : Program} {w : World} {K : PySem.W.Frag} {mg : Str → Option Value} {base : Heap} {x qual : Str} {params : Arguments} {body : List Stmt} {scope : Scope} {dvs : List V} {kws : List (Str × V)} {f : Addr} {fd : FuncData}
end
/-! ### calls of defs that may let exceptions out, within the try -/
section
variable {X : Cx} {g : G} {W : WX} {k : Nat} {S : SpD} {x : Str} {p pos : Pos} {e : Expr} {es : List Expr} {wa : WA}
end
/-! ### the clause -/
/-! ### the suite: the slot of the exception's name holds it -/
section
variable {X : Cx} {g : G} {i : Nat} {a : Addr} {oe : Obj} {pn : List (Addr × Obj)} {p p1 p2 pos : Pos} {n y : Str}
end
/-! ### the suite's statements -/
section
variable {X : Cx} {g : G} {i : Nat} {a : Addr} {st : Stmt} {rest : List Stmt} {w u : WS} {pos : Pos}
end
/-! ### try: .. except X as n: .. -/
section
variable {X : Cx} {g : G} {W : WX} {x n : Str} {i : Nat} {body suite : List Stmt} {b₀ : Stmt} {np pos pos' : Pos} {wb ws : WS}
end
/-! ### the head, with one more Bool -/
/-! ### calls with defaults, within the try -/
section
variable {X : Cx} {g : G} {W : WX} {k : Nat} {S : SpD} {x : Str} {p pos : Pos} {e : Expr} {es : List Expr} {wa : WA} {dvs : List Int}
end
end DL

set_option Elab.async false
set_option linter.all false
set_option maxRecDepth 100000
set_option maxHeartbeats 4000000
/-! DLCat: + of lists, data or own -/
namespace DL
open PySem PySem.Spec PyProof.Rows L2
def rCatL (K : PySem.W.Frag) : R2 := fun x y H Q => ∃ l b xs zs, x = .ref l ∧ y = .ref b ∧ SqL K H l xs ∧ SqL K H b zs ∧ xs.length + zs.length ≤ sizeLine ∧ ∀ p, H p = none → Q (.ref p) (upd H p (.lst (xs ++ zs)))
theorem op_catL {X : Cx} : OpR X (binaryOp .Add) (rCatL X.K) := by
  intro pins s σ H x y v u Q I rx ry h
  obtain ⟨l, b, xs, zs, rfl, rfl, hH, hB, hz, q⟩ := h
  cases rx
  cases ry
  obtain ⟨its, r, ⟨⟨c1, d1, t1, s1⟩, n, e, k1, k2, k3⟩, z⟩ := I.list hH
  obtain ⟨its2, r2, ⟨⟨c2, d2, t2, s2⟩, n2, e2, j1, j2, j3⟩, z2⟩ := I.list hB
  simp only at k1 k2 k3 j1 j2 j3
  subst k1 k2 k3 j1 j2 j3
  have hl := r.length
  have hl2 := r2.length
  refine concat_meets ⟨_, e, rfl⟩ ⟨_, e2, rfl⟩ noFill_list_add seq_list_add PySem.F.slot_list_add PySem.F.entry_list_add (PySem.F.args_list_add_2 _ _) (list_addW l b its.toArray its2.toArray n n2 none none s1 s2 (by rw [List.size_toArray, List.size_toArray]; omega)) ⟨e, e2, ?_⟩
  have ea : its.toArray ++ its2.toArray = (its ++ its2).toArray := by simp
  rw [ea]
  exact ⟨.ref _, _, I.lnew (t' := s.toks) (r.append r2) (by rw [List.length_append]; omega), rfl, q _ I.fresh⟩
@[reducible] def oCatL : O2 := fun d1 d2 k => match d1, d2 with
  | .list ds, .list es => ds.length + es.length ≤ sizeLine ∧ k (.own 0 (.lst (ds ++ es)))
  | _, _ => False
theorem lift_catL {K : PySem.W.Frag} : Lift2 K (rCatL K) oCatL := by
  intro O H x y dx dy QD Q hO hx hy q fin
  cases hx with
  | lst h1 h2 =>
    cases hy with
    | lst g1 g2 =>
      refine ⟨_, _, _, _, rfl, rfl, same_hide.seq h1, same_hide.seq g1, by rw [DL.DpAll.len h2, DL.DpAll.len g2]; exact q.1, fun p n => ?_⟩
      exact fin _ _ (.own 0 (.lst _)) (same_new n) (new_lst n (DL.DpAll.app h2 g2)) q.2
    | _ => exact q.elim
  | _ => exact q.elim
theorem ee_catL {X : Cx} {g : G} {W : WX} {a b : Expr} {wa wb : WE} {pos : Pos} (ha : EE X g W a wa) (hb : EE X g W b wb) : EE X g W (.BinOp a .Add b pos) (wB oCatL wa wb) := by
  obtain ⟨ta, p1, s1⟩ := ha.ex
  obtain ⟨tb, p2, s2⟩ := hb.ex
  exact ⟨_, pe_op op_catL p1 p2, sem_op lift_catL s1 s2⟩
end DL

set_option Elab.async false
set_option linter.all false
set_option maxRecDepth 100000
set_option maxHeartbeats 4000000
/-! DLDictL: dict(xs), xs a list of pairs with unlike keys -/
namespace DL
open PySem PySem.Spec PyProof.Rows L2
section
variable {X : Cx} {g : G} {W : WX} {e : Expr} {es : List Expr} {wa : WA} {p pos : Pos}
end
end DL

set_option Elab.async false
set_option linter.all false
set_option maxRecDepth 100000
set_option maxHeartbeats 4000000
/-! DLKw: calls with keywords whose values are whole numbers -/
namespace DL
open PySem PySem.Spec PyProof.Rows L2
structure KwF where
  n : Nat
  ks : List Str
  a : Nat
  rev : Bool
  b : Nat
section
variable {K : PySem.W.Frag} {x qual : Str} {params : Arguments} {body : List Stmt} {scope : Scope} {dvs : List V} {kws : List (Str × V)} {f : Addr} {fd : FuncData} {ps : List Str}
end
section
variable {X : Cx} {g : G} {W : WX} {k : Nat} {S : SpD} {x : Str} {p pos kpos : Pos} {e : Expr} {es : List Expr} {kws : List Keyword} {wa wk : WA} {we : WE} {dvs : List Int} {qs : List KwF} {nm : Option Str}
end
end DL

set_option Elab.async false
set_option linter.all false
set_option maxRecDepth 100000
set_option maxHeartbeats 4000000
/-! DLZip3: zip of three lists -/
namespace DL
open PySem PySem.Spec PyProof.Rows L2
section
variable {K : PySem.W.Frag} {a b c : Addr} {ds es fs : List D}
end
section
variable {X : Cx} {g : G} {W : WX} {a b c : Expr} {wa : WA} {p pos : Pos}
end
end DL

set_option Elab.async false
set_option linter.all false
set_option maxRecDepth 100000
set_option maxHeartbeats 4000000
/-! DLIdx: xs.index(x), xs.count(x), xs data -/
namespace DL
open PySem PySem.Spec PyProof.Rows L2
section
variable {X : Cx} {g : G} {W : WX} {a b : Expr} {wa wb : WE} {apos pos : Pos}
end
end DL

set_option Elab.async false
set_option linter.all false
set_option maxRecDepth 100000
set_option maxHeartbeats 4000000
/-! DLCallE: a call whose last argument is a lent slot. -/
namespace DL
open PySem PySem.Spec PyProof.Rows L2
section
variable {K : PySem.W.Frag} {g : G} {W : WX} {σ : L2.St} {vs : List V} {H : Hp} {ρ : Rho} {cs : List C} {i : Nat}
end
section
variable {X : Cx} {g : G} {W : WX} {CX : CXT} {k : Nat} {f : Addr} {fd : FuncData} {ps : List Str} {S : SpD} {E : XK} {x : Str} {p pos : Pos} {e : Expr} {es : List Expr} {wa : WA}
end
end DL

set_option Elab.async false
set_option linter.all false
set_option maxRecDepth 100000
set_option maxHeartbeats 4000000
/-! DL: a, b, c = x, y, z -/
namespace DL
open PySem PySem.Spec PyProof.Rows L2
section
variable {X : Cx} {g : G} {W : WX}
end
end DL

set_option Elab.async false
set_option linter.all false
set_option maxRecDepth 100000
set_option maxHeartbeats 4000000
/-! DL: a, b = x, y and a, b, c = x, y, z where a name is a cell (a pair is made and taken apart); own objects stay so -/
namespace DL
open PySem PySem.Spec PyProof.Rows L2
section
variable {X : Cx} {g : G} {W : WX}
end
end DL

set_option Elab.async false
set_option linter.all false
set_option maxRecDepth 100000
set_option maxHeartbeats 4000000
/-! DL: sorted of pairs of whole numbers -/
namespace DL
open PySem PySem.Spec PyProof.Rows L2
section
variable {X : Cx}
end
/-! ### over data -/
section
variable {X : Cx} {g : G} {W : WX} {e : Expr} {es : List Expr} {wa : WA} {p pos : Pos}
end
end DL

set_option Elab.async false
set_option linter.all false
set_option maxRecDepth 100000
set_option maxHeartbeats 4000000
/-! DLOrd: <, >, <=, >= of data that are alike place by place; a list times a number -/
namespace DL
open PySem PySem.Spec PyProof.Rows L2
section
variable {X : Cx}
end
section
variable {X : Cx} {g : G} {W : WX} {a b : Expr} {wa wb : WE} {pos : Pos}
end
/-! ### a list times a number -/
theorem DpAll.rep {K : PySem.W.Frag} {B : Hp} {xs : List V} {ds : List D} (h : DpAll K B xs ds) : ∀ n : Nat, DpAll K B (List.replicate n xs).flatten (List.replicate n ds).flatten
  | 0 => .nil
  | n + 1 => by
    rw [List.replicate_succ, List.flatten_cons, List.replicate_succ, List.flatten_cons]
    exact DL.DpAll.app h (DpAll.rep h n)
@[reducible] def wRep (wa wb : WE) : WE := fun ρ Q E => wa ρ (fun c1 ρ1 => wb ρ1 (fun c2 ρ2 => match c2 with
  | .v (.int k) => optK (lstOf ρ2 c1) fun as => (-(2 ^ 63) ≤ k ∧ k < 2 ^ 63 ∧ as.length * k.toNat ≤ sizeLine) ∧ Q (.own 0 (.lst (List.replicate k.toNat as).flatten)) ρ2
  | _ => False) E) E
theorem ee_rep {X : Cx} {g : G} {W : WX} {a b : Expr} {wa wb : WE} {pos : Pos} (ha : EE X g W a wa) (hb : EE X g W b wb) : EE X g W (.BinOp a .Mult b pos) (wRep wa wb) := by
  obtain ⟨ta, p1, s1⟩ := ha.ex
  obtain ⟨tb, p2, s2⟩ := hb.ex
  refine ⟨_, pe_op op_rep p1 p2, fun σ vs H ρ cs QD ED Q hS hw hX hQ => ?_⟩
  refine s1 σ vs H ρ cs _ ED _ hS hw hX fun x H1 c1 ρ1 S1 q1 => ?_
  refine s2 σ (x :: vs) H1 ρ1 (c1 :: cs) _ ED _ S1 q1 hX fun y H2 c2 ρ2 S2 q2 => ?_
  split at q2
  · rename_i k
    have q := S2.top
    cases q
    cases e1 : lstOf ρ2 c1 with
    | none => rw [e1] at q2; exact q2.elim
    | some as =>
      rw [e1] at q2
      obtain ⟨a, xs, g1, g2, g3⟩ := (S2.pop).lst e1
      subst g1
      obtain ⟨⟨k1, k2, k3⟩, q2⟩ := q2
      refine ⟨a, k, xs, rfl, rfl, g2, k1, k2, by rw [DL.DpAll.len g3]; exact k3, fun p n => ?_⟩
      have S3 := S2.pop.pop
      exact hQ _ _ _ ρ2 (SR.res S3 (same_new n) (new_lst n (DpAll.rep (dpAll_up g3) _))) q2
  · exact q2.elim
end DL

set_option Elab.async false
set_option linter.all false
set_option maxRecDepth 100000
set_option maxHeartbeats 4000000
/-! DLLr: list(range(a, b, c)), numbers of any size -/
namespace PySem
open Sem (wp)
open AutoSeq1 (wpAny_loadPart')
section
variable {prog : Program} {w : World} {A : Around} {E : Value → Shared → Prop} {s : Shared}
end
end PySem
namespace DL
open PySem PySem.Spec PyProof.Rows L2
section
variable {X : Cx}
end
end DL

set_option Elab.async false
set_option linter.all false
set_option maxRecDepth 100000
/-! DL: x not in range(n); except X: without a name -/
namespace DL
open PySem PySem.Spec PyProof.Rows L2
section
variable {X : Cx} {a b : Expr} {ta : TE} {pos p p2 : Pos}
end
/-! ### try: .. except X: .. -/
section
variable {X : Cx} {g : G} {W : WX} {x : Str} {body suite : List Stmt} {b₀ : Stmt} {np pos pos' : Pos} {wb ws : WS}
end
end DL

set_option Elab.async false
set_option linter.all false
set_option maxRecDepth 100000
set_option maxHeartbeats 4000000
/-! DLStr: methods of texts: upper, join, zfill, partition, strip -/
namespace DL
open PySem PySem.Spec PyProof.Rows L2
section
variable {K : PySem.W.Frag} {g : G} {W : WX} {ta tb : TE} {wa wb : WE} {r : V → List V → Hp → VK → Prop} {o : O2}
end
section
variable {X : Cx} {g : G} {W : WX} {a b : Expr} {wa wb : WE} {apos pos : Pos}
end
end DL

set_option Elab.async false
set_option linter.all false
set_option maxRecDepth 100000
set_option maxHeartbeats 4000000
/-! DLIxT: x[n] as a target (x an own list, n a local whole number): x[a], x[b] = x[b], x[a] -/
namespace DL
open PySem PySem.Spec PyProof.Rows L2
section
variable {X : Cx} {g : G}
end
end DL

set_option Elab.async false
set_option linter.all false
set_option maxRecDepth 100000
set_option maxHeartbeats 4000000
/-! DLLz: list(zip(a, b)), a and b lists -/
namespace PySem
open Sem (wp)
structure ZipS (xs ys : Array Value) (z TI TO i1 i2 l1 l2 : Addr) (i : Nat) (h : Heap) : Prop where
  hTI : IsPair h TI (.ref i1) (.ref i2)
  h1 : h.IsListIter i1 l1 i
  h2 : h.IsListIter i2 l2 i
  hl1 : h.IsList l1 xs
  hl2 : h.IsList l2 ys
  hz : (IsZip h z TI TO .none ∧ ∃ a b, IsPair h TO a b) ∨ ∃ T f oT, IsZipHeld h z TI TO T f ∧ h.get? T = some oT ∧ T ≠ z ∧ T ≠ i1 ∧ T ≠ i2
theorem ZipS.frame {xs ys : Array Value} {z TI TO i1 i2 l1 l2 : Addr} {i : Nat} {h h' : Heap} {S : Addr} (st : ZipS xs ys z TI TO i1 i2 l1 l2 i h) (b : ∀ c ∈ [z, TI, TO, i1, i2, l1, l2], c < S) (hT : ∀ T f, IsZipHeld h z TI TO T f → T ≠ S)
    (hk : ∀ c o, c ≠ S → h.get? c = some o → h'.get? c = some o) : ZipS xs ys z TI TO i1 i2 l1 l2 i h' := by
  have n : ∀ c ∈ [z, TI, TO, i1, i2, l1, l2], c ≠ S := fun c hc => Nat.ne_of_lt (b c hc)
  obtain ⟨hTI, h1, h2, hl1, hl2, hz⟩ := st
  refine ⟨hk _ _ (n _ (by simp)) hTI, h1.at fun o e => hk _ o (n _ (by simp)) e, h2.at fun o e => hk _ o (n _ (by simp)) e, hl1.at fun o e => hk _ o (n _ (by simp)) e, hl2.at fun o e => hk _ o (n _ (by simp)) e, ?_⟩
  rcases hz with ⟨hz, a, c, hTO⟩ | ⟨T, f, oT, hz, hT', r1, r2, r3⟩
  · exact .inl ⟨hk _ _ (n _ (by simp)) hz, a, c, hk _ _ (n _ (by simp)) hTO⟩
  · exact .inr ⟨T, f, oT, hk _ _ (n _ (by simp)) hz, hk _ _ (hT T f hz) hT', r1, r2, r3⟩
section
variable {prog : Program} {w : World} {A : Around} {R : Result → Shared → Prop} {z TI TO i1 i2 l1 l2 : Addr} {xs ys : Array Value}
end
end PySem
namespace DL
open PySem PySem.Spec PyProof.Rows L2
section
variable {X : Cx}
end
end DL

set_option Elab.async false
set_option linter.all false
set_option maxRecDepth 100000
set_option maxHeartbeats 4000000
/-! DLFs: f-strings of texts and whole numbers; str of a text -/
namespace DL
open PySem PySem.Spec PyProof.Rows L2
abbrev WJ := Str → Rho → (Str → Rho → Prop) → KX → Prop
section
variable {X : Cx} {g : G} {W : WX} {e : Expr} {es : List Expr} {we : WE} {wj : WJ} {pos : Pos}
end
end DL

set_option Elab.async false
set_option linter.all false
set_option maxRecDepth 100000
set_option maxHeartbeats 4000000
/-! DLMl: a short text told many times -/
namespace DL
open PySem PySem.Spec PyProof.Rows L2
section
variable {X : Cx}
end
end DL

set_option Elab.async false
set_option linter.all false
set_option maxRecDepth 100000
set_option maxHeartbeats 4000000
/-! DL, at the machine's level: set(list of texts), its length, and sorted of it -/
namespace DLS
open PySem PySem.Spec PyProof.Rows L2 DL PySem.Froz
section
variable {P : Program} {w : World} {A : Around} {E : Value → Shared → Prop} {s : Shared}
def SetT (P : Program) (w : World) (h : Heap) (a : Addr) (l : List Str) : Prop :=
  ∃ (es : Array (Int × Value)) (ep : Nat) (t : SetTable), h.get? a = some (sObj "set" (es, ep, t)) ∧ TxOk P w (es, ep, t) l ∧ l.Nodup ∧ (∀ e ∈ es.toList, ∃ u, e.2 = Value.str (txS e.2) u) ∧ (es.toList.map fun e => txS e.2).Perm l ∧
    Ris t.place.toList ∧ (w.params.followText "set-order" = true ∨ t.led = true)
theorem SetT.at {h h' : Heap} {a : Addr} {l : List Str} (R : SetT P w h a l) (k : ∀ o, h.get? a = some o → h'.get? a = some o) : SetT P w h' a l := by
  obtain ⟨es, ep, t, ho, r⟩ := R
  exact ⟨es, ep, t, k _ ho, r⟩
theorem tail_perm {ep : Nat} {es1 : Array (Int × Value)} {t2 : SetTable} {wd : Bool} : (tailTx ep es1 t2 wd).1.toList.Perm es1.toList := by
  unfold tailTx
  split
  · exact relayAll_perm t2 es1 _
  · exact List.Perm.refl _
theorem tail_ris {ep : Nat} {es1 : Array (Int × Value)} {t2 : SetTable} {wd : Bool} (r : Ris t2.place.toList) : Ris (tailTx ep es1 t2 wd).2.2.place.toList := by
  unfold tailTx
  split
  · exact relayAll_ris t2 es1 _
  · exact r
theorem tail_led {ep : Nat} {es1 : Array (Int × Value)} {t2 : SetTable} {wd : Bool} : (tailTx ep es1 t2 wd).2.2.led = t2.led := by
  unfold tailTx
  split
  · exact relayAll_led t2 es1 _
  · rfl
theorem add_perm {h : Int} {v : Value} {D : SD} : (addTx h v D).1.toList.Perm (D.1.toList ++ [(h, v)]) := by
  unfold addTx
  refine tail_perm.trans ?_
  have p := layNew_perm D.2.2 D.1 h v
  rw [Array.toList_push] at p
  exact p
theorem add_ris {h : Int} {v : Value} {D : SD} (r : Ris D.2.2.place.toList) : Ris (addTx h v D).2.2.place.toList := by
  unfold addTx
  refine tail_ris ?_
  have q := layNew_ris D.2.2 D.1 h v r
  split <;> exact q
theorem add_led {h : Int} {v : Value} {D : SD} : (addTx h v D).2.2.led = D.2.2.led := by
  unfold addTx
  rw [tail_led]
  have q := layNew_led D.2.2 D.1 h v
  split <;> exact q
theorem setT_add {a : Addr} {l : List Str} {k : Str} {u : Tok} {Q : Bool → Shared → Prop} (R : SetT P w s.heap a l) (hb : l.length + 1 < scanBound)
    (hQ : ∀ h' r, Heap.SameBut a s.heap h' → SetT P w h' a (if k ∈ l then l else k :: l) → Q r { s with heap := h' }) : wpAny (model P w) A (setAddHashed a (.str k u) (hashStr w k)) Q E s := by
  obtain ⟨es, ep, t, ho, F, nd, sv, pm, hr, hl⟩ := id R
  by_cases hk : k ∈ l
  · have hd : (sObj "set" (es, ep, t)).data = .set es ep t := rfl
    have hf : t.fits es.size = true := F.fit
    have hel : ElemsOf (strKind P w) es.toList := F.el
    have hsz : es.size = l.length := F.sz
    have hb0 : es.size < scanBound := by omega
    have hkey : (strKind P w).is k (.str k u) = true := is_str k u
    unfold setAddHashed setAddHashedIn
    refine wpAny_holding (wpAny_bind (wpAny_setState_of ho hd hf ?_))
    dsimp only
    rw [byScan_of rfl hb0 hel]
    simp only [↓reduceIte]
    unfold setAddByScan
    refine wpAny_bind ?_
    refine wpAny_bind (wpAny_rule ?_)
    refine wpAny_bind (wpAny_setScan_of (knd := strKind P w) (k := k) hkey ho hd hf hel ?_)
    cases hfi : List.findIdx? (fun e => (strKind P w).is k e.2) es.toList with
    | some j =>
      dsimp only
      refine wpAny_pure (wpAny_pure ?_)
      refine hQ s.heap _ (Heap.SameBut.refl a s.heap) ?_
      rw [if_pos hk]
      exact R
    | none =>
      obtain ⟨e, he, q⟩ := (F.mem k).mp hk
      have c := List.findIdx?_eq_none_iff.mp hfi e he
      rw [q] at c
      cases c
  · refine add_x ho F hk hb (hQ _ _ (Heap.SameBut.update s.heap a _) ?_)
    rw [if_neg hk]
    have ap := add_perm (h := hashStr w k) (v := .str k u) (D := (es, ep, t))
    refine ⟨_, _, _, get_upd (sObj "set" (addTx (hashStr w k) (.str k u) (es, ep, t))) ho rfl, add_ok u F, List.nodup_cons.mpr ⟨hk, nd⟩, fun e he => ?_, ?_, add_ris hr, hl.imp id fun z => (add_led (h := hashStr w k) (v := .str k u) (D := (es, ep, t))).trans z⟩
    · rcases List.mem_append.mp (ap.mem_iff.mp he) with z | z
      · exact sv e z
      · rw [List.mem_singleton.mp z]; exact ⟨u, rfl⟩
    · refine (ap.map _).trans ?_
      rw [List.map_append, List.map_singleton]
      exact (List.perm_append_singleton _ _).trans (pm.cons _)
theorem setT_new {h : Heap} {a : Addr} (ho : h.get? a = some (set0 w)) : SetT P w h a [] :=
  ⟨#[], 0, _, ho, TxOk.nil rfl, List.nodup_nil, (fun e he => by simp at he), List.Perm.refl _, List.Pairwise.nil, by
    show _ ∨ (!w.params.followText "set-order") = true
    cases w.params.followText "set-order"
    · exact .inr rfl
    · exact .inl rfl⟩
theorem set_update_txts {I : Addr} {fp wr : List Addr} {G : Array GenState → Array GenState → Prop} {n : Nat} {Pv : Nat → Value → Prop} {St : Nat → Shared → Prop} {R : Result → Shared → Prop}
    (W : WalksS P w A.in1 I fp wr G n Pv St) (S : Addr) (hSf : S ∉ fp) (ts : List Str) (hn : n = ts.length) (hb : ts.length + 1 < scanBound) (hval : ∀ i v, Pv i v → ∃ k t, ts[i]? = some k ∧ v = Value.str k t) :
    ∀ (k i : Nat) (s : Shared), n - i = k → i ≤ n → St i s → (∃ l, l.length ≤ i ∧ SetT P w s.heap S l ∧ ∀ x, x ∈ l ↔ x ∈ ts.take i) →
      (∀ s' l, Moved (S :: wr) G s s' → l.length ≤ n → SetT P w s'.heap S l → (∀ x, x ∈ l ↔ x ∈ ts) → R (.ok (.ret .none)) s') →
      codeAny (model P w) A (.builtin "set.update.loop" ⟨[.ref S, .ref I], []⟩) R s := by
  have hSw : S ∉ wr := fun h => hSf (W.sub _ h)
  have hsub : ∀ b ∈ wr, b ∈ S :: wr := fun b hb => List.mem_cons_of_mem _ hb
  intro k
  induction k with
  | zero =>
    intro i s hk' hi hst ⟨l, hc, hS, hm⟩ hR
    have hin : i = n := by omega
    subst hin
    refine codeAny_builtin F.entry_set_update_loop ?_
    rw [Around.under_plainId F.plain_set_update_loop _]
    show wpAny _ A.in1 (pyNext (.ref I) >>= _) _ _ s
    refine wpAny_bind (W.done s _ _ hst fun s' hmv => ?_)
    show wpAny _ A.in1 (ret Value.none) _ _ s'
    have e : ts.take i = ts := List.take_of_length_le (by omega)
    rw [e] at hm
    exact wpAny_pure (hR s' l (hmv.mono hsub) hc (hS.at fun o e => hmv.heap S o hSw e) hm)
  | succ k ih =>
    intro i s hk' hi hst ⟨l, hc, hS, hm⟩ hR
    have hlt : i < n := by omega
    refine codeAny_builtin F.entry_set_update_loop ?_
    rw [Around.under_plainId F.plain_set_update_loop _]
    show wpAny _ A.in1 (pyNext (.ref I) >>= _) _ _ s
    refine wpAny_bind (W.item i s _ _ hlt hst fun v s' hP hst' hmv => ?_)
    obtain ⟨z, t, hz, rfl⟩ := hval i v hP
    have hS' : SetT P w s'.heap S l := hS.at fun o e => hmv.heap S o hSw e
    show wpAny _ A.in1 (holding [Value.str z t] (setAdd S (.str z t)) >>= _) _ _ s'
    refine wpAny_bind (wpAny_holding ?_)
    unfold setAdd
    refine wpAny_holding ?_
    refine wpAny_bind ((strKind P w).pyHash (k := z) (is_str z t) ?_)
    refine setT_add (s := { s' with toks := s'.toks + 1 }) hS' (by omega) fun h' r hsb hS2 => ?_
    refine wpAny_pure ⟨plainId_quiet F.plain_set_update_loop _, ih (i + 1) _ (by omega) hlt (W.frame _ s' _ _ hst' (Nat.le_succ _) fun b hb o e => ?_) ⟨_, ?_, hS2, fun x => ?_⟩ fun s'' l2 hmv'' hc'' hS'' hm'' => ?_⟩
    · rw [hsb.2 b (fun h : b = S => hSf (by rw [← h]; exact hb))]; exact e
    · split
      · omega
      · rw [List.length_cons]; omega
    · rw [List.take_add_one, hz]
      by_cases hk : z ∈ l
      · rw [if_pos hk, hm x]
        have := (hm z).mp hk
        constructor
        · exact fun h => List.mem_append_left _ h
        · intro h
          rcases List.mem_append.mp h with h | h
          · exact h
          · have e : x = z := by simpa using h
            rw [e]; exact this
      · rw [if_neg hk, List.mem_cons, hm x]
        simp [List.mem_append, or_comm]
    · refine hR s'' l2 (Moved.trans W.gtrans ((hmv.mono hsub).then_heap (Nat.le_succ _) fun b o hb e => ?_) hmv'') hc'' hS'' hm''
      rw [hsb.2 b (fun h : b = S => hb (by rw [h]; exact List.mem_cons_self))]; exact e
abbrev GoalT (P : Program) (w : World) (s : Shared) (ts : List Str) (s₂ : Shared) : Prop := ∃ h' tk l, s₂ = { s with heap := h', toks := tk } ∧ SetT P w h' s.heap.objs.size l ∧ l.length ≤ ts.length ∧ (∀ x, x ∈ l ↔ x ∈ ts) ∧ ∀ b o, s.heap.get? b = some o → h'.get? b = some o
theorem init_listT {l : Addr} {items : Array Value} {ts : List Str} (hh : A.handled = none) (hl : s.heap.IsList l items) (hisz : items.size = ts.length) (hv : ∀ (i : Nat) (v : Value), items[i]? = some v → ∃ k t, ts[i]? = some k ∧ v = Value.str k t) (hb : ts.length + 1 < scanBound) :
    codeAny (model P w) A (.call (.builtin "set.__init__") ⟨[.ref s.heap.objs.size, .ref l], []⟩) (wants (fun r s₂ => r = .none ∧ GoalT P w s ts s₂) E) { s with heap := s.heap.push (set0 w) } := by
  have hS : (s.heap.push (set0 w)).get? s.heap.objs.size = some (set0 w) := Heap.get?_push_size _ rfl
  refine codeAny_call_builtin F.called_set.init.plain F.entry_set_init (check_set_init_1 ⟨_, hS, rfl⟩ ?_)
  obtain ⟨ol, hol, hcl, nl, hdl⟩ := id hl
  obtain ⟨ocls, odict, odata, oslots⟩ := ol
  simp only at hcl hdl; subst hcl hdl
  have hl1 : (s.heap.push (set0 w)).IsList l items := hl.push _
  have hol' : (s.heap.push (set0 w)).get? l = some { cls := .type "list", dict := odict, data := .seq items nl, slots := oslots } := Heap.get?_push_of_some _ hol
  have k1 := F.sub_list_set; have k2 := F.sub_list_frozenset
  have k3 : (Value.type "list" == Value.type "dict") = false := by decide
  unfold Builtin.«set.__init__» noKeywords Builtin.Frozenset.updateFrom
  generalize hPI : pyIter = PI
  wp_walk
  subst hPI
  refine wpAny_pyIter_list hl1 (wpAny_bind (wpAny_runValue ?_))
  have lt : l < s.heap.objs.size := Heap.lt_size hol
  have z1 : (s.heap.push (set0 w)).objs.size = s.heap.objs.size + 1 := Heap.size_push ..
  have hh3 : A.in1.in1.handled = none := by simp [hh]
  have n1 : l ≠ (s.heap.push (set0 w)).objs.size := by rw [z1]; exact Nat.ne_of_lt (Nat.lt_succ_of_lt lt)
  have n2 : s.heap.objs.size ∉ [(s.heap.push (set0 w)).objs.size, l] := by
    rw [z1]; simp only [List.mem_cons, List.not_mem_nil, or_false]
    exact fun z => z.elim (fun z => absurd z (Nat.ne_of_lt (Nat.lt_succ_self _))) fun z => absurd z (Nat.ne_of_gt lt)
  refine set_update_txts (Walks.list hh3 _ l n1 items).toS s.heap.objs.size n2 ts hisz hb hv (items.size - 0) 0 { s with heap := (s.heap.push (set0 w)).push { cls := .type "list_iterator", data := .fields #[.ref l, .int 0 0] } } (by omega) (Nat.zero_le _)
    ⟨⟨_, Heap.get?_push_size _ rfl, rfl, rfl⟩, hl1.push _⟩ ?_ fun s' l' hm hc' hS' hx' => ?_
  · exact ⟨[], Nat.le_refl 0, setT_new (h := (s.heap.push (set0 w)).push { cls := .type "list_iterator", data := .fields #[.ref l, .int 0 0] }) (Heap.get?_push_of_some _ hS), fun x => by simp⟩
  obtain ⟨h', g2, d', tk', os'⟩ := s'
  obtain rfl : g2 = s.gens := hm.gens
  obtain rfl : d' = s.drawn := hm.drawn
  obtain rfl : os' = s.os := hm.os
  rw [hisz] at hc'
  refine wpAny_pure ?_
  show wpAny _ _ (ret Value.none) _ _ _
  refine wpAny_pure ⟨rfl, h', tk', l', rfl, hS', hc', hx', fun b o e => ?_⟩
  have b0 : b < s.heap.objs.size := Heap.lt_size e
  refine hm.heap b o ?_ (Heap.get?_push_of_some _ (Heap.get?_push_of_some _ e))
  rw [z1]; simp only [List.mem_cons, List.not_mem_nil, or_false]
  exact fun z => z.elim (fun z => absurd z (Nat.ne_of_lt b0)) fun z => absurd z (Nat.ne_of_lt (Nat.lt_succ_of_lt b0))
theorem call_set_listT {l : Addr} {items : Array Value} {ts : List Str} {Q : Value → Shared → Prop} (hh : A.handled = none) (hl : s.heap.IsList l items) (hisz : items.size = ts.length) (hv : ∀ (i : Nat) (v : Value), items[i]? = some v → ∃ k t, ts[i]? = some k ∧ v = Value.str k t) (hb : ts.length + 1 < scanBound)
    (h : ∀ s₂, GoalT P w s ts s₂ → Q (.ref s.heap.objs.size) s₂) : wpAny (model P w) A (call (.type "set") [.ref l]) Q E s := by
  obtain ⟨c, tl, hmro⟩ := F.called_set.mro
  have a1 := F.called_set.made; have a2 := F.called_set.sub; have a3 := F.called_set.notType
  have a4 := F.called_set.canCreate; have a5 := F.typeCall_set_1 (.ref l); have a6 := F.called_set.init.lookup
  refine wpAny_call (codeAny_of_tree ?_)
  show wpAny _ _ (callAny (.type "set") _) _ _ _
  refine wpAny_pure ⟨Code.quiet_builtin _ (by decide +kernel), codeAny_builtin F.entry_type_call ?_⟩
  rw [Around.under_plain (weight_type_call_type "set" [.ref l] []) rfl]
  repeat (any_goals (first | assumption | wp_step))
  refine codeAny_mono (code_set_led1 (.ref l) (E := E) (Q₁ := fun obj s₁ => obj = .ref s.heap.objs.size ∧ s₁ = { s with heap := s.heap.push (set0 w) }) ⟨rfl, rfl⟩) fun r s₁ hr => ?_
  match r, hr with
  | .error e, hr => exact hr
  | .ok (.ret obj), hr =>
    obtain ⟨rfl, rfl⟩ := hr
    have hT : Shared.TypeIs { s with heap := s.heap.push (set0 w) } (.ref s.heap.objs.size) "set" := ⟨_, Heap.get?_push_size _ rfl, rfl⟩
    have a7 := F.called_set.init.bind (.ref s.heap.objs.size)
    repeat (any_goals (first | assumption | wp_step))
    refine codeAny_mono (init_listT (E := E) hh hl hisz hv hb) fun r₂ s₂ hr₂ => ?_
    match r₂, hr₂ with
    | .error e, hr₂ => exact hr₂
    | .ok (.ret r), hr₂ =>
      obtain ⟨rfl, hr₂⟩ := hr₂
      repeat (any_goals (first | assumption | wp_step))
      exact h _ hr₂
    | .ok .next, hr₂ => exact hr₂.elim
    | .ok .brk, hr₂ => exact hr₂.elim
    | .ok .cont, hr₂ => exact hr₂.elim
  | .ok .next, hr => exact hr.elim
  | .ok .brk, hr => exact hr.elim
  | .ok .cont, hr => exact hr.elim
theorem len_setT {a : Addr} {l : List Str} {Q : Value → Shared → Prop} (R : SetT P w s.heap a l) (hb : l.length < scanBound)
    (hQ : Q (.int l.length (s.toks + 1)) { s with toks := s.toks + 1 + 1 }) : wpAny (model P w) A (call (.builtin "len") [.ref a]) Q E s := by
  obtain ⟨es, ep, t, ho, F, nd, sv, pm, hr, hl⟩ := R
  have hz : es.size = l.length := F.sz
  refine call_len_set ho ⟨rfl, rfl, rfl⟩ rfl F.fit (by unfold scanBound at hb; show ((es.size : Nat) : Int) < _; omega) ?_
  show Q (.int ((es.size : Nat) : Int) _) _
  rw [hz]
  exact hQ
end
end DLS

set_option Elab.async false
set_option linter.all false
set_option maxRecDepth 100000
set_option maxHeartbeats 4000000
/-! DL: sorted(set(xs)) and len(set(xs)), xs a list of texts -/
namespace DL
open PySem PySem.Spec PyProof.Rows L2
theorem vals_txt : ∀ {ts : List Str} {its : List Value}, Vals (ts.map V.str) its → its.length = ts.length ∧ ∀ (i : Nat) (v : Value), its[i]? = some v → ∃ k t, ts[i]? = some k ∧ v = Value.str k t
  | [], _, .nil => ⟨rfl, fun i v h => by simp at h⟩
  | x :: ts, _, .cons (b := u) ⟨tk, e⟩ h => by
    obtain ⟨a, b⟩ := vals_txt h
    refine ⟨by rw [List.length_cons, List.length_cons, a], fun i v hv => ?_⟩
    cases i with
    | zero =>
      have hv : some u = some v := hv
      cases hv
      exact ⟨x, tk, rfl, e⟩
    | succ i => exact b i v hv
def rLenSet (K : PySem.W.Frag) : V → Hp → VK → Prop := fun x H Q => ∃ (l : Addr) (ts : List Str), x = V.ref l ∧ SqL K H l (ts.map V.str) ∧ ts.length ≤ 4000 ∧
  ∀ (ms : List Str), ms.Nodup → (∀ k, k ∈ ms ↔ k ∈ ts) → Q (.int (ms.length : Nat)) H
section
variable {X : Cx} {g : G} {W : WX} {e : Expr} {te : TE} {we : WE} {p p2 q pos : Pos}
theorem pe_lenSet (hc : X.calm = true) (hg : Gl X "len") (hm : X.mg "len" = none) (hg2 : Gl X "set") (hm2 : X.mg "set" = none) (ha : PE X e te) (na : starEach [e] X.env = (false, eval e X.env) :: starEach [] X.env := by rfl) :
    PE X (.Call (.Name "len" p) [.Call (.Name "set" p2) [e] [] q] [] pos) (tUn (rLenSet X.K) te) := by
  refine ⟨fun pins s σ H Q I h => ?_⟩
  refine Call_ (ld_blt I hg hm boot_len ?_)
  refine PyProof.Rows.callWith_builtin1 (PyProof.Rows.args_cons ?_ rfl) rfl rfl
  refine Call_ (ld_blt I hg2 hm2 boot_set ?_)
  refine PyProof.Rows.callWith_type1 (PyProof.Rows.args_cons (thn (ha.run pins s σ H _ I h) fun v s1 ⟨x, H1, I1, r1, q1⟩ => PyProof.Rows.args_nil ?_) na) na rfl
  obtain ⟨l, ts, rfl, hq, hl, q1⟩ := q1
  cases r1
  obtain ⟨its, rv, pl, hz⟩ := I1.list hq
  obtain ⟨vl, vv⟩ := vals_txt rv
  refine DLS.call_set_listT (ts := ts) (I1.ok.hd hc) pl.isList (by rw [List.size_toArray]; exact vl) (fun i v h => vv i v (by rw [← h, List.getElem?_toArray])) (by unfold scanBound; omega) fun s2 ⟨h', tk, c, e2, R, hcn, hx, hk⟩ => ?_
  subst e2
  refine PyProof.Rows.args_nil ?_
  have I2 : Inv X pins σ H1 { s1 with heap := h', toks := tk } := I1.kept hk
  have nd : c.Nodup := by obtain ⟨_, _, _, _, _, nd, _⟩ := R; exact nd
  refine DLS.len_setT (s := { s1 with heap := h', toks := tk }) R (by unfold scanBound; omega) ?_
  exact ⟨.int (c.length : Nat), H1, I2.tok _, ⟨_, rfl⟩, q1 c nd hx⟩
@[reducible] def oLenSet : O1 := fun d k => match d with
  | .list es => optK (strsOf es) fun ts => ts.length ≤ 4000 ∧ ∀ ms : List Str, ms.Nodup → (∀ k, k ∈ ms ↔ k ∈ ts) → k (.v (.int (ms.length : Nat)))
  | _ => False
theorem lift_lenSet {K : PySem.W.Frag} : Lift1 K (rLenSet K) oLenSet := by
  intro O H x dx QD Q _ hx q fin
  cases hx with
  | lst a1 a2 =>
    rename_i a xs es
    have q : optK (strsOf es) _ := q
    cases e : strsOf es with
    | none => rw [e] at q; exact q.elim
    | some ts =>
      rw [e] at q
      have e2 := strsOf_dp a2 e
      subst e2
      exact ⟨_, ts, rfl, Same.seq same_hide a1, q.1, fun ms h1 h2 => fin _ H (.v _) (Same.refl H) (.int _) (q.2 ms h1 h2)⟩
  | _ => exact q.elim
theorem ee_lenSet (hc : X.calm = true) (hg : Gl X "len") (hm : X.mg "len" = none) (hg2 : Gl X "set") (hm2 : X.mg "set" = none) (ha : EE X g W e we) (na : starEach [e] X.env = (false, eval e X.env) :: starEach [] X.env := by rfl) :
    EE X g W (.Call (.Name "len" p) [.Call (.Name "set" p2) [e] [] q] [] pos) (wU oLenSet we) := by
  obtain ⟨te, p1, s1⟩ := ha.ex
  exact ⟨_, pe_lenSet hc hg hm hg2 hm2 p1 na, sem_un lift_lenSet s1⟩
end
end DL

set_option Elab.async false
set_option linter.all false
set_option maxRecDepth 100000
set_option maxHeartbeats 4000000
/-! DLDic: empty dicts within data: {} as data; == of it and a text -/
namespace DL
open PySem PySem.Spec PyProof.Rows L2
section
variable {prog : Program} {w : World} {A : Around} {E : Value → Shared → Prop} {s : Shared}
theorem dict_declines_text {a : Addr} {z : Str} {u : Tok} {Q : Value → Shared → Prop} (ht : s.TypeIs (.ref a) "dict") (h : Q .notImplemented s) :
    wpAny (model prog w) A (call (.builtin "dict.__eq__") [.ref a, .str z u]) Q E s := by
  refine wpAny_call_entry PySem.F.slot_dict_eq ht PySem.F.entry_dict_eq ?_ (PySem.F.args_dict_eq_2 _ _)
  show wpAny _ _ (Builtin.Dict.dictSlotArgs "__eq__" _ >>= _) _ _ _
  refine wpAny_bind ?_
  unfold Builtin.Dict.dictSlotArgs
  refine wpAny_bind (wpAny_notOrdered_dict ht ?_)
  show wpAny _ _ (pure (Value.ref a, Value.str z u)) _ _ s
  refine wpAny_pure (wpAny_bind (wpAny_isInstance (T := "str") (typeIs_str s z u) PySem.F.sub_str_dict ?_))
  simp only [Bool.not_false, if_true]
  refine wpAny_bind (wpAny_rule ?_)
  exact wpAny_bind (wpAny_pure (wpAny_pure ⟨_, rfl, h⟩))
theorem text_declines_dict (b : Str) (u : Tok) (l : Addr) (c : Value) (es : Array DictEntry) (n : Nat) (dd : Option Addr) (sl : Array (Option Value)) :
    Meets (Builtin.«str.__eq__» ⟨[.str b u, .ref l], []⟩) (fun _ R s => s.heap.get? l = some { cls := c, dict := dd, data := .dict es n, slots := sl } ∧ R (.ok (.ret .notImplemented)) s) :=
  .of_wp fun prog w A R s h => by obtain ⟨hp, g, d, tk, os⟩ := s; obtain ⟨hl, h⟩ := h; wp_walk using wpAny_loadPart' hl, wpAny_load hl; exact ⟨_, rfl, h⟩
theorem dict_eq_text {a : Addr} {o : Obj} {es : Array DictEntry} {n : Nat} {z : Str} {u : Tok} {Q : Value → Shared → Prop} (ho : s.heap.get? a = some o) (hc : o.ExactDict) (hd : o.data = .dict es n) (hu : A.units < cLine) (h : Q (.bool false) s) :
    wpAny (model prog w) A (compareOp .Eq (.ref a) (.str z u)) Q E s := by
  obtain ⟨cls, dd, data, sl⟩ := o
  have e1 : cls = .type "dict" := hc.1
  simp only at hd
  subst e1 hd
  exact SeqAt.rc_eq_decline_or (k := false) ⟨_, ho, rfl⟩ (typeIs_str s z u) (by decide) PySem.F.sub_str_dict PySem.F.slot_dict_eq PySem.F.slot_str_eq_refl
    (fun _ hq => dict_declines_text ⟨_, ho, rfl⟩ hq)
    (fun _ hq => call_meets PySem.F.slot_str_eq_refl (typeIs_str s z u) PySem.F.entry_str_eq (PySem.F.args_str_eq_2 _ _) (text_declines_dict z u a (.type "dict") es n dd sl) ⟨ho, hq⟩)
    (fun _ hq => wpAny_of_eq (rfl : isSame (.ref a) (.str z u) = pure false) hq) (.inr hu) h
end
def rEqX (K : PySem.W.Frag) : R2 := fun x y H Q => rEqD K x y H Q ∨ ∃ d z, Dp K H x d ∧ (d = .dict [] ∨ isT "tuple" d = true ∨ isT "list" d = true) ∧ y = .str z ∧ Q (.bl false) H
theorem op_eqX {X : Cx} (hu : X.A.units + 64 < cLine) : OpR X (compareOp .Eq) (rEqX X.K) := by
  intro pins s σ H x y v u Q I rx ry h
  rcases h with h | ⟨d, z, hx, hd, rfl, q⟩
  · exact op_eqD hu pins s σ H x y v u Q I rx ry h
  · obtain ⟨t, rfl⟩ := ry
    cases hx with
    | dic h1 =>
      cases rx
      obtain ⟨_, _, us, rel, o, es, ep, e1, e2, e3, _⟩ := dk_rd I.hok (.inl h1)
      exact dict_eq_text e1 e2 e3 (by omega) ⟨.bl _, H, I, rfl, q⟩
    | lst h1 h2 =>
      cases rx
      obtain ⟨us, rv, ⟨o, m, e1, e2, _, e3⟩, _⟩ := I.list h1
      exact SeqAt.RcAt.list_str z t ⟨o, e1, e2, m, e3⟩ (by omega) _ _ _ _ ⟨.bl _, H, I, rfl, q⟩
    | tup h1 h2 =>
      cases rx
      obtain ⟨us, rv, ⟨o, e1, e2, m, e3⟩, _⟩ := I.tuple h1
      exact SeqAt.RcAt.tuple_str z t ⟨o, e1, e2, m, e3⟩ (by omega) _ _ _ _ ⟨.bl _, H, I, rfl, q⟩
    | _ => rcases hd with e | e | e <;> cases e
def EqOk (d1 d2 : D) : Prop := (SeqAt.shaped d1 = true ∧ SeqAt.shaped d2 = true) ∨ ((d1 = .dict [] ∨ isT "tuple" d1 = true ∨ isT "list" d1 = true) ∧ isT "str" d2 = true)
@[reducible] def oEqX : O2 := fun d1 d2 k => EqOk d1 d2 ∧ k (.v (.bool (PyData.eqv d1 d2)))
theorem lift_eqX {K : PySem.W.Frag} : Lift2 K (rEqX K) oEqX := fun O H x y dx dy QD Q _ hx hy q fin => by
  rcases q.1 with ⟨s1, s2⟩ | ⟨hd, s2⟩
  · exact .inl ⟨dx, dy, dp_hide hx, dp_hide hy, s1, s2, fin _ H (.v _) (Same.refl H) (.bl _) q.2⟩
  · cases hy with
    | str z =>
      have e : PyData.eqv dx (.str z) = false := by rcases hd with rfl | e | e <;> first | rfl | (cases dx <;> first | rfl | cases e)
      have q2 := q.2
      rw [e] at q2
      exact .inr ⟨dx, z, dp_hide hx, hd, rfl, fin _ H (.v _) (Same.refl H) (.bl _) q2⟩
    | _ => exact absurd (show false = true from s2) (by decide)
/-! ### + of numbers, a truth and a number, texts, tuples -/
def rPlusB (K : PySem.W.Frag) : R2 := fun x y H Q => rPlus K x y H Q ∨ ∃ b j, x = .bl b ∧ y = .int j ∧ Q (.int ((if b = true then 1 else 0) + j)) H
theorem op_plusB {X : Cx} : OpR X (binaryOp .Add) (rPlusB X.K) := by
  intro pins s σ H x y v u Q I rx ry h
  rcases h with h | ⟨b, j, rfl, rfl, q⟩
  · exact op_plus pins s σ H x y v u Q I rx ry h
  · cases (show v = Value.bool b from rx)
    obtain ⟨t, rfl⟩ := ry
    exact IntBool.add_bool_int ⟨.int _, H, I.tok _, ⟨_, rfl⟩, q⟩
@[reducible] def oPlusB : O2 := fun d1 d2 k => match d1, d2 with
  | .bool b, .int j => k (.v (.int ((if b = true then 1 else 0) + j)))
  | .int i, .int j => k (.v (.int (i + j)))
  | .str i, .str j => i.length + j.length ≤ sizeLine ∧ k (.v (.str (i ++ j)))
  | .tuple ds, .tuple es => ds.length + es.length ≤ sizeLine ∧ k (.v (.tuple (ds ++ es)))
  | _, _ => False
theorem lift_plusB {K : PySem.W.Frag} : Lift2 K (rPlusB K) oPlusB := by
  intro O H x y dx dy QD Q hO hx hy q fin
  cases dx with
  | bool b =>
    cases hx
    cases hy <;> try exact q.elim
    exact .inr ⟨_, _, rfl, rfl, fin _ H (.v _) (Same.refl H) (.int _) q⟩
  | int i => cases dy <;> first | exact q.elim | exact .inl (lift_plus O H x y _ _ QD Q hO hx hy q fin)
  | str i => cases dy <;> first | exact q.elim | exact .inl (lift_plus O H x y _ _ QD Q hO hx hy q fin)
  | tuple i => cases dy <;> first | exact q.elim | exact .inl (lift_plus O H x y _ _ QD Q hO hx hy q fin)
  | _ => exact q.elim
theorem ee_plusB {X : Cx} {g : G} {W : WX} {a b : Expr} {wa wb : WE} {pos : Pos} (ha : EE X g W a wa) (hb : EE X g W b wb) : EE X g W (.BinOp a .Add b pos) (wB oPlusB wa wb) := by
  obtain ⟨ta, p1, s1⟩ := ha.ex
  obtain ⟨tb, p2, s2⟩ := hb.ex
  exact ⟨_, pe_op op_plusB p1 p2, sem_op lift_plusB s1 s2⟩
/-! ### x[k], x an own list: the item may hold lists, too -/
@[reducible] def wOIx (i : Nat) (wk : WE) : WE := fun ρ Q E => match rget ρ i with
  | .own _ (.lst _) => wk ρ (fun c1 ρ1 => match c1, rget ρ1 i with
    | .v (.int k), .own _ (.lst ds) => optK (atI ds k) fun d => Q (.v d) ρ1
    | _, _ => False) E
  | _ => False
theorem ee_oix {X : Cx} {g : G} {W : WX} {i : Nat} {x : Str} {p pos : Pos} {k : Expr} {wk : WE} (hx : PE X (.Name x p) (tVar i)) (hk : EE X g W k wk) (hp : PlainIx k := by intro _ _; rfl) : EE X g W (.Subscript (.Name x p) k pos) (wOIx i wk) := by
  obtain ⟨t1, p1, s1⟩ := hk.ex
  refine ⟨_, pe_ix ix_seq hx p1 hp, fun σ vs H ρ cs QD ED Q hS hw hX hQ => ?_⟩
  unfold wOIx at hw
  split at hw
  · rename_i t0 ds0 e0
    obtain ⟨a, ys, e1, _, _⟩ := own_list hS e0
    refine ⟨.ref a, e1, ?_⟩
    refine s1 σ vs H ρ cs _ ED _ hS hw hX fun y H1 c1 ρ1 S1 q1 => ?_
    split at q1
    · rename_i j t' ds eo
      obtain ⟨a', xs, e3, e4, e5⟩ := own_list S1 eo
      rw [e1] at e3
      cases e3
      cases ei : atI ds j with
      | none =>
        have q1 : optK (atI ds j) _ := q1
        rw [ei] at q1
        exact q1.elim
      | some d =>
        have q1 : optK (atI ds j) fun d => QD (.v d) ρ1 := q1
        rw [ei] at q1
        have q1 : QD (.v d) ρ1 := q1
        have ey := S1.top
        cases ey
        obtain ⟨v, h1, h2⟩ := atI_dp e5 ei
        exact .inl ⟨a, xs, j, v, rfl, rfl, .inl (.inl e4), h1, hQ _ _ (.v d) ρ1 (SR.resV S1.pop (Same.refl _) (dp_up h2)) q1⟩
    · exact q1.elim
  · exact hw.elim
@[reducible] def wDat0 : WE := fun ρ Q _ => Q (.v (.dict [])) ρ
section
variable {X : Cx} {g : G} {W : WX} {a b : Expr} {wa wb : WE} {pos : Pos}
theorem ee_dat0 : EE X g W (.Dict [] [] pos) wDat0 := ⟨_, pe_dnewK, fun σ vs H ρ cs QD ED Q hS hw hX hQ => fun a n =>
  hQ _ _ (.v (.dict [])) ρ (SR.res hS (same_new n) (.dic (hide_some.mpr ⟨fun z => (by obtain ⟨u, e⟩ := hS.domO a z; rw [n] at e; cases e), upd_same⟩))) hw⟩
theorem et_eqX (hu : X.A.units + 64 < cLine) (ha : EE X g W a wa) (hb : EE X g W b wb) : ET X g W (.Compare a [.Eq] [b] pos) (wTst (wB oEqX wa wb)) := et_cmp (op_eqX hu) lift_eqX ha hb (nomark _)
end
end DL

set_option Elab.async false
set_option linter.all false
set_option maxRecDepth 100000
set_option maxHeartbeats 4000000
/-! DLDni: k in d, k not in d as tests -/
namespace DL
open PySem PySem.Spec PyProof.Rows L2
section
variable {X : Cx} {g : G} {W : WX} {k : Expr} {wk : WE} {x : Str} {p pos : Pos} {i : Nat}
end
end DL

set_option Elab.async false
set_option linter.all false
set_option maxRecDepth 100000
set_option maxHeartbeats 4000000
/-! CFH: the promises of the laws' drawing helpers, alike in all laws -/
namespace CFH
open PySem PySem.Spec PyProof.Rows L2 DL
structure Hd where
  a : Int
  b : Int
  c : Int
@[reducible] def hd (h : Hd) : List D := [.int h.a, .int h.b, .int h.c]
structure Hd.ok (h : Hd) (n : Nat) : Prop where
  a0 : 0 ≤ h.a
  b0 : 0 ≤ h.b
  b1 : h.b < 4611686018427387904
  c0 : 0 ≤ h.c
  c1 : h.c ≤ n
@[reducible] def hc (h : Hd) : C := .own 1 (.lst (hd h))
def S_law_hand : SpD := fun as Q _ => ∃ (ns : List Int) (k : Int), as = [.v (.list (ns.map PyData.int)), .v (.int k)] ∧ 0 ≤ k ∧ k ≤ 1000 ∧ ∀ h : Hd, h.ok 0 → Q (.own 0 (.lst (hd h))) as
def S_law_take : SpD := fun as Q _ => ∃ (h : Hd) (n : Nat) (m : Int), as = [hc h, .v (.int m)] ∧ h.ok n ∧ n ≤ 1000000 ∧ 0 < m ∧ m.natAbs.log2 < 9000 ∧ ∀ (h' : Hd) (x : Int), h'.ok (n + 1) → 0 ≤ x → x < m → Q (.v (.int x)) [hc h', .v (.int m)]
def Boxed (d : D) (ds : List D) : Prop := d = .list ds ∨ d = .tuple ds ∨ ∃ s : Str, d = .str s ∧ ds = strD s ∧ s.length ≤ sizeLine
def S_law_pick : SpD := fun as Q _ => ∃ (h : Hd) (n : Nat) (b : D) (ds : List D), as = [hc h, .v b] ∧ h.ok n ∧ n ≤ 1000000 ∧ 0 < ds.length ∧ ds.length ≤ 1000000 ∧ Boxed b ds ∧ ∀ (h' : Hd) (d : D), h'.ok (n + 1) → d ∈ ds → Q (.v d) [hc h', .v b]
@[reducible] def wholeD : D → Bool
  | .int _ => true
  | _ => false
def S_law_whole : SpD := fun as Q _ => ∃ d : D, as = [.v d] ∧ Q (.v (.bool (wholeD d))) as
def S_law_great : SpD := fun as Q _ => ∃ (h : Hd) (n : Nat), as = [hc h] ∧ h.ok n ∧ n ≤ 900000 ∧ ∀ (h' : Hd) (x : Int), h'.ok (n + 4) → 0 ≤ x → x < 1000000000000000000000000000000000000000000000000000000000000 → Q (.v (.int x)) [hc h']
theorem len_law_hand : ∀ as QD ED, S_law_hand as QD ED → as.length = 2 := by
  rintro as QD ED ⟨_, _, rfl, _⟩
  rfl
theorem len_law_take : ∀ as QD ED, S_law_take as QD ED → as.length = 2 := by
  rintro as QD ED ⟨_, _, _, rfl, _⟩
  rfl
theorem len_law_pick : ∀ as QD ED, S_law_pick as QD ED → as.length = 2 := by
  rintro as QD ED ⟨_, _, _, _, rfl, _⟩
  rfl
theorem len_law_great : ∀ as QD ED, S_law_great as QD ED → as.length = 1 := by
  rintro as QD ED ⟨_, _, rfl, _⟩
  rfl

theorem Hd.ok.up {h : Hd} {n m : Nat} (o : h.ok n) (l : n ≤ m) : h.ok m := ⟨o.a0, o.b0, o.b1, o.c0, by have := o.c1; omega⟩
@[reducible] def big : Int := 1000000000000000000000000000000000000000000000000000000000000
theorem big_log {m : Int} (h0 : 0 < m) (h : m ≤ big) : m.natAbs.log2 < 9000 := log2_lt (k := 200) (by unfold big at h; omega) (by decide) (by decide)
theorem take_i {h : Hd} {n : Nat} {m : Int} {Q E} (o : h.ok n) (hn : n ≤ 1000000) (hm : 0 < m) (hl : m.natAbs.log2 < 9000) (q : ∀ (h' : Hd) (x : Int), h'.ok (n + 1) → 0 ≤ x → x < m → Q (.v (.int x)) [hc h', .v (.int m)]) : S_law_take [hc h, .v (.int m)] Q E := ⟨h, n, m, rfl, o, hn, hm, hl, q⟩
theorem great_i {h : Hd} {n : Nat} {Q E} (o : h.ok n) (hn : n ≤ 900000) (q : ∀ (h' : Hd) (x : Int), h'.ok (n + 4) → 0 ≤ x → x < 1000000000000000000000000000000000000000000000000000000000000 → Q (.v (.int x)) [hc h']) : S_law_great [hc h] Q E := ⟨h, n, rfl, o, hn, q⟩
theorem pick_i {h : Hd} {n : Nat} {ds : List D} {Q E} (o : h.ok n) (hn : n ≤ 1000000) (h0 : 0 < ds.length) (h1 : ds.length ≤ 1000000) (q : ∀ (h' : Hd) (d : D), h'.ok (n + 1) → d ∈ ds → Q (.v d) [hc h', .v (.list ds)]) : S_law_pick [hc h, .v (.list ds)] Q E := ⟨h, n, .list ds, ds, rfl, o, hn, h0, h1, .inl rfl, q⟩
theorem strD_len {s : Str} : (strD s).length = s.length := by
  unfold strD
  rw [List.length_map]
  rfl
theorem pick_z {h : Hd} {n : Nat} (ns : List Int) {ds : List D} {Q E} (e : ds = ns.map PyData.int) (o : h.ok n) (hn : n ≤ 1000000) (h0 : 0 < ns.length) (h1 : ns.length ≤ 1000000) (q : ∀ (h' : Hd) (x : Int), h'.ok (n + 1) → x ∈ ns → Q (.v (.int x)) [hc h', .v (.list ds)]) : S_law_pick [hc h, .v (.list ds)] Q E := ⟨h, n, .list ds, ds, rfl, o, hn, by rw [e, List.length_map]; exact h0, by rw [e, List.length_map]; exact h1, .inl rfl, fun h' d o' hd => by
  rw [e] at hd
  obtain ⟨x, hx, rfl⟩ := List.mem_map.mp hd
  exact q h' x o' hx⟩
theorem whole_i {d : D} {Q E} (q : Q (.v (.bool (wholeD d))) [.v d]) : S_law_whole [.v d] Q E := ⟨d, rfl, q⟩
end CFH

set_option Elab.async false
set_option linter.all false
set_option maxRecDepth 100000
set_option maxHeartbeats 4000000
/-! CFWd: words of the laws: the promise -/
namespace CFWd
open PySem PySem.Spec PyProof.Rows L2 DL CFH
def signs : Str := "abcdefghijklmnopqrstuvwxyz0123456789"
theorem sg_len : signs.cps.toList.length = 36 := by decide +kernel
theorem sg_sz : signs.length ≤ sizeLine := by
  have : signs.length = 36 := by decide +kernel
  rw [this, sizeLine_eq]; decide
structure WordOk (x : Str) : Prop where
  l1 : 1 ≤ x.length
  l8 : x.length ≤ 8
  sg : ∀ c ∈ x.cps.toList, c ∈ signs.cps.toList
structure WsOk (ws : List Str) : Prop where
  nd : ws.Nodup
  ok : ∀ w ∈ ws, WordOk w
  /-- they differ at one place -/
  ap : ∃ a : Nat, (∀ w ∈ ws, (w.cps.toList[a]?).isSome = true) ∧ ws.Pairwise fun x y => x.cps.toList[a]? ≠ y.cps.toList[a]?
def sgAt (j : Nat) : Nat := signs.cps.toList.getD j 0
theorem sg_at {j : Nat} (h : j < 36) : signs.cps.toList[j]? = some (sgAt j) := by
  unfold sgAt
  rw [List.getD_eq_getElem?_getD, List.getElem?_eq_getElem (by rw [sg_len]; exact h)]
  rfl
theorem sg_mem {j : Nat} (h : j < 36) : sgAt j ∈ signs.cps.toList := List.mem_of_getElem? (sg_at h)
theorem sg_inj' : ∀ i < 36, ∀ j < 36, sgAt i = sgAt j → i = j := by decide +kernel
theorem sg_inj {i j : Nat} (hi : i < 36) (hj : j < 36) (h : sgAt i = sgAt j) : i = j := sg_inj' i hi j hj h
def wordL (c a b : Nat) (short : Bool) (b0 st k : Nat) : List Nat := List.replicate a c ++ [sgAt ((b0 + st * k) % 36)] ++ (if short = true ∧ k % 2 = 1 then [] else List.replicate b c)
theorem word_ok {c a b : Nat} {short : Bool} {b0 st k : Nat} (hc : c ∈ signs.cps.toList) (hl : a + b ≤ 7) : WordOk (T (wordL c a b short b0 st k)) := by
  unfold wordL
  refine ⟨?_, ?_, ?_⟩
  · rw [T_len]; simp only [List.length_append, List.length_cons, List.length_nil]; omega
  · rw [T_len]; split <;> simp <;> omega
  · rw [T_list]
    intro z hz
    rcases List.mem_append.mp hz with hz | hz
    · rcases List.mem_append.mp hz with hz | hz
      · rw [List.eq_of_mem_replicate hz]; exact hc
      · rw [List.mem_singleton.mp hz]; exact sg_mem (Nat.mod_lt _ (by decide))
    · split at hz
      · cases hz
      · rw [List.eq_of_mem_replicate hz]; exact hc
theorem word_inj {c a b : Nat} {short : Bool} {b0 st k k' : Nat} (hs : st = 1 ∨ st = 5 ∨ st = 7 ∨ st = 11 ∨ st = 13 ∨ st = 17) (hk : k < 36) (hk' : k' < 36) (h : wordL c a b short b0 st k = wordL c a b short b0 st k') : k = k' := by
  have g : ∀ k, (wordL c a b short b0 st k)[a]? = some (sgAt ((b0 + st * k) % 36)) := fun k => by
    unfold wordL
    rw [List.append_assoc, List.getElem?_append_right (by simp)]
    simp
  have e := g k
  rw [h, g k'] at e
  have e2 := sg_inj (Nat.mod_lt _ (by decide)) (Nat.mod_lt _ (by decide)) (Option.some.inj e)
  rcases hs with rfl | rfl | rfl | rfl | rfl | rfl <;> omega
theorem words_ok {c a b : Nat} {short : Bool} {b0 st n : Nat} (hs : st = 1 ∨ st = 5 ∨ st = 7 ∨ st = 11 ∨ st = 13 ∨ st = 17) (hn : n ≤ 36) (hc : c ∈ signs.cps.toList) (hl : a + b ≤ 7) : WsOk ((List.range n).map fun k => T (wordL c a b short b0 st k)) := by
  have g : ∀ k, (T (wordL c a b short b0 st k)).cps.toList[a]? = some (sgAt ((b0 + st * k) % 36)) := fun k => by
    show (wordL c a b short b0 st k).toArray.toList[a]? = _
    unfold wordL
    rw [List.append_assoc, List.toList_toArray, List.getElem?_append_right (by simp)]
    simp
  refine ⟨?_, fun w hw => ?_, a, fun w hw => ?_, ?_⟩
  · refine List.pairwise_map.mpr ((show (List.range n).Pairwise (· ≠ ·) from List.nodup_range).imp_of_mem fun {x y} hx hy z e => z (word_inj hs ?_ ?_ (T_inj e)))
    · have := List.mem_range.mp hx; omega
    · have := List.mem_range.mp hy; omega
  · obtain ⟨k, _, rfl⟩ := List.mem_map.mp hw
    exact word_ok hc hl
  · obtain ⟨k, _, rfl⟩ := List.mem_map.mp hw
    rw [g]
    rfl
  · refine List.pairwise_map.mpr ((show (List.range n).Pairwise (· ≠ ·) from List.nodup_range).imp_of_mem fun {x y} hx hy z e => z ?_)
    have kx := List.mem_range.mp hx
    have ky := List.mem_range.mp hy
    rw [g, g] at e
    have e2 := sg_inj (Nat.mod_lt _ (by decide)) (Nat.mod_lt _ (by decide)) (Option.some.inj e)
    rcases hs with rfl | rfl | rfl | rfl | rfl | rfl <;> omega
theorem WsOk.take {ws : List Str} (h : WsOk ws) (k : Nat) : WsOk (ws.take k) := by
  obtain ⟨a, h1, h2⟩ := h.ap
  exact ⟨h.nd.sublist (List.take_sublist _ _), fun w hw => h.ok w (List.mem_of_mem_take hw), a, fun w hw => h1 w (List.mem_of_mem_take hw), h2.sublist (List.take_sublist _ _)⟩
def S_law_words : SpD := fun as Q _ => ∃ (h : Hd) (n : Nat) (m : Int), as = [hc h, .v (.int m)] ∧ h.ok n ∧ n ≤ 800000 ∧ 0 ≤ m ∧ m ≤ 36 ∧ ∀ (h' : Hd) (ws : List Str), h'.ok (n + 10) → (ws.length : Int) = m → WsOk ws → Q (.own 0 (.lst (ws.map PyData.str))) [hc h', .v (.int m)]
theorem len_law_words : ∀ as QD ED, S_law_words as QD ED → as.length = 2 := by
  rintro as QD ED ⟨_, _, _, rfl, _⟩
  rfl
end CFWd

set_option Elab.async false
set_option linter.all false
set_option maxRecDepth 100000
set_option maxHeartbeats 4000000
/-! CFIs: words, turns, layers of anything -/
namespace CFIs
open PySem PySem.Spec PyProof.Rows L2 DL CFH
mutual
/-- data whose texts are not long -/
def sml : D → Bool
  | .str s => decide (s.length ≤ 100000)
  | .list ds => smlAll ds
  | .tuple ds => smlAll ds
  | _ => true
def smlAll : List D → Bool
  | [] => true
  | d :: ds => sml d && smlAll ds
end
theorem sml_all : ∀ {ds : List D}, smlAll ds = true ↔ ∀ d ∈ ds, sml d = true
  | [] => ⟨fun _ _ h => (by cases h), fun _ => rfl⟩
  | d :: ds => by
    show (sml d && smlAll ds) = true ↔ _
    rw [Bool.and_eq_true, sml_all]
    constructor
    · rintro ⟨a, b⟩ x hx
      rcases List.mem_cons.mp hx with z | z
      · rw [z]; exact a
      · exact b x z
    · exact fun h => ⟨h d (.head _), fun x hx => h x (.tail _ hx)⟩
theorem sml_tup {ds : List D} : sml (.tuple ds) = true ↔ ∀ d ∈ ds, sml d = true := sml_all
theorem sml_str {s : Str} (h : sml (.str s) = true) : s.length ≤ 100000 := of_decide_eq_true h
theorem sml_of {s : Str} (h : s.length ≤ 100000) : sml (.str s) = true := decide_eq_true h
@[reducible] def SIG : Str := "abcdefghijklmnopqrstuvwxyz0123456789"
def isWh : D → Bool
  | .int _ => true
  | _ => false
def sgOk : D → Bool
  | .str c => inS c SIG
  | _ => false
def isWd : D → Bool
  | .str s => decide (1 ≤ s.length ∧ s.length ≤ 8) && (strD s).all sgOk
  | _ => false
def isTu (low high : Int) : D → Bool
  | .tuple [.int b, .int e, h] => isWd h && decide (low ≤ b ∧ b < e ∧ e ≤ high)
  | _ => false
def enT : D → Int
  | .tuple [_, .int e, _] => e
  | _ => 0
def tuF (most : Int) : Int → List D → Bool
  | _, [] => true
  | low, t :: ts => isTu low most t && tuF most (enT t) ts
def areTu (most : Int) : D → Bool
  | .tuple ts => decide (ts.length ≤ 12) && tuF most 0 ts
  | _ => false
def isLy : D → Bool
  | .tuple [w, .int s, .int d, ts] => isWd w && decide (1 ≤ d ∧ d ≤ 60) && decide (0 ≤ s ∧ s < 1440 * d) && areTu (1440 * d) ts
  | _ => false
theorem isT_str {d : D} (h : isT "str" d = true) : ∃ s, d = .str s := by
  cases d <;> first | exact ⟨_, rfl⟩ | (simp [isT] at h)
theorem isT_tup {d : D} (h : isT "tuple" d = true) : ∃ s, d = .tuple s := by
  cases d <;> first | exact ⟨_, rfl⟩ | (simp [isT] at h)
theorem isWh_eq {d : D} : isWh d = (isT "int" d && !isT "bool" d) := by cases d <;> rfl
theorem isWh_int {d : D} (h : isWh d = true) : ∃ i, d = .int i := by
  cases d <;> first | exact ⟨_, rfl⟩ | cases h
theorem isWd_no {d : D} (h : isT "str" d = false) : isWd d = false := by
  cases d <;> first | rfl | (simp [isT] at h)
theorem isTu_no {low high : Int} {d : D} (h : isT "tuple" d = false) : isTu low high d = false := by
  cases d <;> first | rfl | (simp [isT] at h)
theorem areTu_no {most : Int} {d : D} (h : isT "tuple" d = false) : areTu most d = false := by
  cases d <;> first | rfl | (simp [isT] at h)
theorem isLy_no {d : D} (h : isT "tuple" d = false) : isLy d = false := by
  cases d <;> first | rfl | (simp [isT] at h)
theorem isTu_3 {low high : Int} {b e h : D} : isTu low high (.tuple [b, e, h]) = (isWh b && isWh e && isWd h && (match b, e with
    | .int b, .int e => decide (low ≤ b ∧ b < e ∧ e ≤ high)
    | _, _ => false)) := by
  cases b <;> cases e <;> first | rfl | (unfold isTu isWh; simp)
theorem isTu_len {low high : Int} {ds : List D} (h : ds.length ≠ 3) : isTu low high (.tuple ds) = false := by
  match ds, h with
  | [], _ => rfl
  | [_], _ => simp [isTu, isLy]
  | [_, _], _ => simp [isTu, isLy]
  | _ :: _ :: _ :: _ :: _, _ => simp [isTu]
theorem len3 {ds : List D} (h : ds.length = 3) : ∃ a b c, ds = [a, b, c] := by
  match ds, h with
  | [a, b, c], _ => exact ⟨a, b, c, rfl⟩
theorem len4 {ds : List D} (h : ds.length = 4) : ∃ a b c e, ds = [a, b, c, e] := by
  match ds, h with
  | [a, b, c, e], _ => exact ⟨a, b, c, e, rfl⟩
theorem isLy_len {ds : List D} (h : ds.length ≠ 4) : isLy (.tuple ds) = false := by
  match ds, h with
  | [], _ => rfl
  | [_], _ => simp [isTu, isLy]
  | [_, _], _ => simp [isTu, isLy]
  | [_, _, _], _ => simp [isTu, isLy]
  | _ :: _ :: _ :: _ :: _ :: _, _ => simp [isLy]
theorem isWd_bad {s : Str} (h : ¬ (1 ≤ s.length ∧ s.length ≤ 8)) : isWd (.str s) = false := by
  show (decide _ && _) = false
  rw [decide_eq_false h]
  rfl
theorem isWd_at {s : Str} (h : 1 ≤ s.length ∧ s.length ≤ 8) : isWd (.str s) = (strD s).all sgOk := by
  show (decide _ && _) = _
  rw [decide_eq_true h, Bool.true_and]
theorem areTu_bad {most : Int} {ds : List D} (h : ¬ ds.length ≤ 12) : areTu most (.tuple ds) = false := by
  show (decide _ && _) = false
  rw [decide_eq_false h]
  rfl
theorem areTu_at {most : Int} {ds : List D} (h : ds.length ≤ 12) : areTu most (.tuple ds) = tuF most 0 ds := by
  show (decide _ && _) = _
  rw [decide_eq_true h, Bool.true_and]
theorem isTu_get {low high : Int} {d : D} (h : isTu low high d = true) : ∃ b e hd, d = .tuple [.int b, .int e, hd] ∧ low ≤ b ∧ b < e ∧ e ≤ high := by
  unfold isTu at h
  split at h
  · rename_i b e hd
    rw [Bool.and_eq_true] at h
    exact ⟨b, e, hd, rfl, of_decide_eq_true h.2⟩
  · cases h
theorem isLy_4 {w s e ts : D} : isLy (.tuple [w, s, e, ts]) = (isWd w && isWh s && isWh e && (match s, e with
    | .int s, .int d => decide (1 ≤ d ∧ d ≤ 60) && decide (0 ≤ s ∧ s < 1440 * d) && areTu (1440 * d) ts
    | _, _ => false)) := by
  cases s <;> cases e <;> first | rfl | (unfold isLy isWh; simp [Bool.and_assoc])
def S_is_whole : SpD := fun as Q _ => ∃ d : D, as = [.v d] ∧ Q (.v (.bool (isWh d))) as
def S_is_word : SpD := fun as Q _ => ∃ d : D, as = [.v d] ∧ sml d = true ∧ Q (.v (.bool (isWd d))) as
def S_is_turn : SpD := fun as Q _ => ∃ (d : D) (low high : Int), as = [.v d, .v (.int low), .v (.int high)] ∧ sml d = true ∧ Q (.v (.bool (isTu low high d))) as
def S_are_turns : SpD := fun as Q _ => ∃ (d : D) (most : Int), as = [.v d, .v (.int most)] ∧ sml d = true ∧ Q (.v (.bool (areTu most d))) as
def S_is_layer : SpD := fun as Q _ => ∃ d : D, as = [.v d] ∧ sml d = true ∧ Q (.v (.bool (isLy d))) as
theorem len_is_whole : ∀ as QD ED, S_is_whole as QD ED → as.length = 1 := by
  rintro as QD ED ⟨_, rfl, _⟩
  rfl
theorem len_is_word : ∀ as QD ED, S_is_word as QD ED → as.length = 1 := by
  rintro as QD ED ⟨_, rfl, _⟩
  rfl
theorem len_is_turn : ∀ as QD ED, S_is_turn as QD ED → as.length = 3 := by
  rintro as QD ED ⟨_, _, _, rfl, _⟩
  rfl
theorem len_are_turns : ∀ as QD ED, S_are_turns as QD ED → as.length = 2 := by
  rintro as QD ED ⟨_, _, rfl, _⟩
  rfl
theorem len_is_layer : ∀ as QD ED, S_is_layer as QD ED → as.length = 1 := by
  rintro as QD ED ⟨_, rfl, _⟩
  rfl
end CFIs

set_option Elab.async false
set_option linter.all false
set_option maxRecDepth 100000
set_option maxHeartbeats 4000000
/-! CFIj: moments, jumps of anything -/
namespace CFIj
open PySem PySem.Spec PyProof.Rows L2 DL CFH CFIs
def isMo : D → Bool
  | .int t => decide (0 ≤ t ∧ t < big)
  | _ => false
def isJu : D → Bool
  | .tuple [.int a, .int b] => decide (1 ≤ a ∧ a < big) && decide (b ≠ 0 ∧ -1440 ≤ b ∧ b ≤ 1440)
  | _ => false
def fsT : D → Int
  | .tuple (.int a :: _) => a
  | _ => 0
def risL (ns : List Int) : Bool := (List.range (ns.length - 1)).all fun k => decide (ns.getD k 0 < ns.getD (k + 1) 0)
def areJu : D → Bool
  | .tuple ts => decide (ts.length ≤ 8) && (ts.all isJu && risL (ts.map fsT))
  | _ => false
theorem isMo_no {d : D} (h : isWh d = false) : isMo d = false := by
  cases d <;> first | rfl | (simp [isWh] at h)
theorem isMo_get {d : D} (h : isMo d = true) : ∃ t, d = .int t ∧ 0 ≤ t ∧ t < big := by
  unfold isMo at h
  split at h
  · have := of_decide_eq_true h
    exact ⟨_, rfl, this.1, this.2⟩
  · cases h
theorem isJu_no {d : D} (h : isT "tuple" d = false) : isJu d = false := by
  cases d <;> first | rfl | (simp [isT] at h)
theorem areJu_no {d : D} (h : isT "tuple" d = false) : areJu d = false := by
  cases d <;> first | rfl | (simp [isT] at h)
theorem len2 {ds : List D} (h : ds.length = 2) : ∃ a b, ds = [a, b] := by
  match ds, h with
  | [a, b], _ => exact ⟨a, b, rfl⟩
theorem isJu_len {ds : List D} (h : ds.length ≠ 2) : isJu (.tuple ds) = false := by
  match ds, h with
  | [], _ => rfl
  | [_], _ => simp [isJu]
  | _ :: _ :: _ :: _, _ => simp [isJu]
theorem isJu_2 {a b : D} : isJu (.tuple [a, b]) = (isMo a && isWh b && (match a, b with
    | .int a, .int b => decide (a ≠ 0) && decide (b ≠ 0 ∧ -1440 ≤ b ∧ b ≤ 1440)
    | _, _ => false)) := by
  match a, b with
  | .int i, .int j =>
    show (decide (1 ≤ i ∧ i < big) && decide _) = (decide (0 ≤ i ∧ i < big) && true && (decide (i ≠ 0) && decide _))
    have e : decide (1 ≤ i ∧ i < big) = (decide (0 ≤ i ∧ i < big) && decide (i ≠ 0)) := by
      rw [← Bool.decide_and]
      exact decide_eq_decide.mpr ⟨fun h => ⟨⟨by omega, h.2⟩, by omega⟩, fun h => ⟨by omega, h.1.2⟩⟩
    rw [e, Bool.and_true, Bool.and_assoc]
  | .int i, .none | .int i, .bool _ | .int i, .str _ | .int i, .list _ | .int i, .tuple _ | .int i, .dict _ => simp [isJu, isWh]
  | .none, _ | .bool _, _ | .str _, _ | .list _, _ | .tuple _, _ | .dict _, _ => simp [isJu, isMo]
theorem isJu_a {a b : D} (h : isMo a = false) : isJu (.tuple [a, b]) = false := by
  rw [isJu_2, h, Bool.false_and, Bool.false_and]
theorem isJu_z {b : D} : isJu (.tuple [.int 0, b]) = false := by
  cases b <;> simp [isJu]
theorem isJu_b {a b : D} (h : isWh b = false) : isJu (.tuple [a, b]) = false := by
  rw [isJu_2, h, Bool.and_false, Bool.false_and]
theorem isJu_ii {i j : Int} (h : isMo (.int i) = true) (h0 : i ≠ 0) : isJu (.tuple [.int i, .int j]) = decide (j ≠ 0 ∧ -1440 ≤ j ∧ j ≤ 1440) := by
  rw [isJu_2, h]
  show (true && true && (decide _ && decide _)) = _
  rw [decide_eq_true h0]
  rfl
theorem areJu_bad {ds : List D} (h : ¬ ds.length ≤ 8) : areJu (.tuple ds) = false := by
  show (decide _ && _) = false
  rw [decide_eq_false h]
  rfl
theorem areJu_at {ds : List D} (h : ds.length ≤ 8) : areJu (.tuple ds) = (ds.all isJu && risL (ds.map fsT)) := by
  show (decide _ && _) = _
  rw [decide_eq_true h, Bool.true_and]
theorem isJu_get {d : D} (h : isJu d = true) : ∃ a b, d = .tuple [.int a, .int b] ∧ 1 ≤ a ∧ a < big ∧ b ≠ 0 ∧ -1440 ≤ b ∧ b ≤ 1440 := by
  unfold isJu at h
  split at h
  · rename_i a b
    rw [Bool.and_eq_true] at h
    have h1 := of_decide_eq_true h.1
    have h2 := of_decide_eq_true h.2
    exact ⟨a, b, rfl, h1.1, h1.2, h2.1, h2.2.1, h2.2.2⟩
  · cases h
theorem lcK_id {T : List Nat} {wg : WG} {wt : WT} {we : WE} {k : List D → Rho → Prop} {ρ0 : Rho} (g : D → D) (xs : List D)
    (h : ∀ x ∈ xs, ∀ next : Option D → Rho → Prop, next (some (g x)) ρ0 → wg x ρ0 fun ρ1 => wt ρ1 (fun b ρ2 => if b = true then we ρ2 (fun c ρ3 => match frzC c with
      | .v d' => next (some d') (clr T ρ3)
      | _ => False) (fun _ _ => False) else next none (clr T ρ2)) (fun _ _ => False)) (fin : k (xs.map g) ρ0) : lcK T wg wt we xs [] ρ0 k := by
  have e := lcK_ys (inj := fun d : D => d) g xs h fin
  rwa [show xs.map (fun d : D => d) = xs from List.map_id xs] at e
theorem fs_get {d : D} (h : isJu d = true) : ∃ a b, d = .tuple [.int a, .int b] ∧ fsT d = a := by
  obtain ⟨a, b, rfl, _⟩ := isJu_get h
  exact ⟨a, b, rfl, rfl⟩
def S_is_moment : SpD := fun as Q _ => ∃ d : D, as = [.v d] ∧ Q (.v (.bool (isMo d))) as
def S_is_rising : SpD := fun as Q _ => ∃ ns : List Int, as = [.v (.list (ns.map PyData.int))] ∧ ns.length ≤ 1000 ∧ Q (.v (.bool (risL ns))) as
def S_is_jump : SpD := fun as Q _ => ∃ d : D, as = [.v d] ∧ Q (.v (.bool (isJu d))) as
def S_are_jumps : SpD := fun as Q _ => ∃ d : D, as = [.v d] ∧ Q (.v (.bool (areJu d))) as
theorem len_is_moment : ∀ as QD ED, S_is_moment as QD ED → as.length = 1 := by
  rintro as QD ED ⟨_, rfl, _⟩
  rfl
theorem len_is_rising : ∀ as QD ED, S_is_rising as QD ED → as.length = 1 := by
  rintro as QD ED ⟨_, rfl, _⟩
  rfl
theorem len_is_jump : ∀ as QD ED, S_is_jump as QD ED → as.length = 1 := by
  rintro as QD ED ⟨_, rfl, _⟩
  rfl
theorem len_are_jumps : ∀ as QD ED, S_are_jumps as QD ED → as.length = 1 := by
  rintro as QD ED ⟨_, rfl, _⟩
  rfl
end CFIj

set_option Elab.async false
set_option linter.all false
set_option maxRecDepth 100000
set_option maxHeartbeats 4000000
/-! CFCl: the clock: shown, reading, moment_of: promises and their mathematics -/
namespace CFCl
open PySem PySem.Spec PyProof.Rows L2 DL CFH
abbrev Pr := Int × Int
@[reducible] def cplD (p : Pr) : D := .tuple [.int p.1, .int p.2]
@[reducible] def psD (ps : List Pr) : D := .tuple (ps.map cplD)
def Ris : Int → List Pr → Prop
  | _, [] => True
  | lo, p :: js => lo < p.1 ∧ Ris p.1 js
theorem Ris.mono : ∀ {lo lo' : Int} {js : List Pr}, lo' ≤ lo → Ris lo js → Ris lo' js
  | _, _, [], _, h => trivial
  | _, _, _ :: _, l, h => ⟨by have := h.1; omega, h.2⟩
theorem Ris.mem : ∀ {lo : Int} {js : List Pr}, Ris lo js → ∀ p ∈ js, lo < p.1
  | _, q :: js, h, p, hp => by
    rcases List.mem_cons.mp hp with e | hp
    · rw [e]; exact h.1
    · exact Ris.mem (lo := _) (Ris.mono (by have := h.1; omega) h.2) p hp
def JOk (js : List Pr) : Prop := Ris 0 js ∧ js.length ≤ 8 ∧ ∀ p ∈ js, p.1 < big ∧ p.2 ≠ 0 ∧ -1440 ≤ p.2 ∧ p.2 ≤ 1440

/-! ### promises -/
end CFCl

set_option Elab.async false
set_option linter.all false
set_option maxRecDepth 100000
set_option maxHeartbeats 4000000
/-! CFRu: the runs of the clock: promises and their mathematics -/
namespace CFRu
open PySem PySem.Spec PyProof.Rows L2 DL CFH CFCl
@[reducible] def optD : Option Int → D
  | none => .none
  | some z => .int z
def Below (t : Int) : Option Int → Prop
  | none => True
  | some z => t < z
instance {t : Int} : ∀ e, Decidable (Below t e)
  | none => isTrue trivial
  | some z => inferInstanceAs (Decidable (t < z))
theorem Below.mono {s t : Int} : ∀ {e : Option Int}, s ≤ t → Below t e → Below s e
  | none, _, _ => trivial
  | some z, h, h' => Int.lt_of_le_of_lt h h'
/-! what is true of them -/
def St (R : Int → Int) (t : Int) : Prop := 0 < t ∧ R t = R (t - 1)
def Beg (R : Int → Int) (t : Int) : Prop := t = 0 ∨ ¬ (St R t ↔ St R (t - 1)) ∨ R t > R (t - 1) + 1
/-! ### promises -/
end CFRu

set_option Elab.async false
set_option linter.all false
set_option maxRecDepth 100000
set_option maxHeartbeats 4000000
/-! CFCh: the laws' helpers about the clock -/
namespace CFCh
open PySem PySem.Spec PyProof.Rows L2 DL CFH CFCl
theorem Ris_snoc : ∀ {lo : Int} {js : List Pr} {p : Pr}, Ris lo js → (∀ q ∈ js, q.1 < p.1) → lo < p.1 → Ris lo (js ++ [p])
  | _, [], _, _, _, h => ⟨h, trivial⟩
  | _, q :: js, p, h, h', _ => ⟨h.1, Ris_snoc h.2 (fun r hr => h' r (.tail _ hr)) (h' q (.head _))⟩
theorem pow60 : (10 : Int) ^ Int.toNat 60 = big := by decide
theorem lf_js {js : List Pr} : lfree (.tuple (js.map cplD)) = true := lfree_tup fun d hd => by
  obtain ⟨p, _, rfl⟩ := List.mem_map.mp hd
  rfl
def S_law_moment : SpD := fun as Q _ => ∃ (h : Hd) (n : Nat), as = [hc h] ∧ h.ok n ∧ n ≤ 800000 ∧ ∀ (h' : Hd) (x : Int), h'.ok (n + 5) → 0 ≤ x → x < big → Q (.v (.int x)) [hc h']
def S_law_jumps : SpD := fun as Q _ => ∃ (h : Hd) (n : Nat), as = [hc h] ∧ h.ok n ∧ n ≤ 700000 ∧ ∀ (h' : Hd) (js : List Pr), h'.ok (n + 200) → JOk js → Q (.v (psD js)) [hc h']
theorem moment_i {h : Hd} {n : Nat} {Q E} (o : h.ok n) (hn : n ≤ 800000) (q : ∀ (h' : Hd) (x : Int), h'.ok (n + 5) → 0 ≤ x → x < big → Q (.v (.int x)) [hc h']) : S_law_moment [hc h] Q E := ⟨h, n, rfl, o, hn, q⟩
theorem len_law_moment : ∀ as QD ED, S_law_moment as QD ED → as.length = 1 := by
  rintro as QD ED ⟨_, _, rfl, _⟩
  rfl
theorem len_law_jumps : ∀ as QD ED, S_law_jumps as QD ED → as.length = 1 := by
  rintro as QD ED ⟨_, _, rfl, _⟩
  rfl
end CFCh

set_option Elab.async false
set_option linter.all false
set_option maxRecDepth 100000
set_option maxHeartbeats 4000000
/-! CFBk: turns, layers, changes, books as data -/
namespace CFBk
open PySem PySem.Spec PyProof.Rows L2 DL CFH CFCl CFRu CFWd
abbrev Trn := Int × Int × Str
@[reducible] def trnD (t : Trn) : D := .tuple [.int t.1, .int t.2.1, .str t.2.2]
@[reducible] def trnsD (ts : List Trn) : D := .tuple (ts.map trnD)
structure Lyr where
  word : Str
  start : Int
  days : Int
  turns : List Trn
@[reducible] def lyrD (l : Lyr) : D := .tuple [.str l.word, .int l.start, .int l.days, trnsD l.turns]
@[reducible] def lyrsD (ls : List Lyr) : D := .tuple (ls.map lyrD)
def TrnsOk (most : Int) : Int → List Trn → Prop
  | _, [] => True
  | lo, t :: ts => lo ≤ t.1 ∧ t.1 < t.2.1 ∧ t.2.1 ≤ most ∧ WordOk t.2.2 ∧ TrnsOk most t.2.1 ts
structure LyrOk (l : Lyr) : Prop where
  wd : WordOk l.word
  d1 : 1 ≤ l.days
  d60 : l.days ≤ 60
  s0 : 0 ≤ l.start
  s1 : l.start < 1440 * l.days
  n12 : l.turns.length ≤ 12
  ts : TrnsOk (1440 * l.days) 0 l.turns
theorem lf_trns {ts : List Trn} : lfree (trnsD ts) = true := lfree_tup fun d hd => by
  obtain ⟨x, _, rfl⟩ := List.mem_map.mp hd
  rfl
theorem lf_lyr0 {l : Lyr} : lfree (lyrD l) = true := lfree_tup fun d hd => by
  simp only [List.mem_cons, List.not_mem_nil, or_false] at hd
  rcases hd with rfl | rfl | rfl | rfl
  · rfl
  · rfl
  · rfl
  · exact lf_trns
inductive Chg where
  | away (h : Str) (b : Int) (e : Option Int)
  | on (h : Str) (b : Int) (e : Option Int)
  | stand (h o : Str) (b : Int) (e : Option Int)
def Chg.b : Chg → Int
  | away _ b _ => b
  | on _ b _ => b
  | stand _ _ b _ => b
def Chg.e : Chg → Option Int
  | away _ _ e => e
  | on _ _ e => e
  | stand _ _ _ e => e
def Chg.h : Chg → Str
  | away h _ _ => h
  | on h _ _ => h
  | stand h _ _ _ => h
def Chg.kind : Chg → Str
  | away _ _ _ => "away"
  | on _ _ _ => "on"
  | stand _ _ _ _ => "for"
def chgL : Chg → List D
  | .away h b e => [.str "away", .str h, .int b, optD e]
  | .on h b e => [.str "on", .str h, .int b, optD e]
  | .stand h o b e => [.str "for", .str h, .str o, .int b, optD e]
@[reducible] def chgD (c : Chg) : D := .tuple (chgL c)
@[reducible] def chgsD (cs : List Chg) : D := .tuple (cs.map chgD)
theorem lf_chg0 {c : Chg} : lfree (chgD c) = true := by
  cases c <;> (rename_i e; cases e <;> rfl)
theorem lf_chg {c : Chg} : C.lf (.v (chgD c)) = true := lf_chg0
theorem chg_m2 {c : Chg} : atI (chgL c) (-2) = some (.int c.b) := by cases c <;> rfl
theorem chg_0 {c : Chg} : atI (chgL c) 0 = some (.str c.kind) := by cases c <;> rfl
theorem chg_1 {c : Chg} : atI (chgL c) 1 = some (.str c.h) := by cases c <;> rfl
def Chg.Hands (c : Chg) (p : Str → Prop) : Prop := match c with
  | away h _ _ => p h
  | on h _ _ => p h
  | stand h o _ _ => p h ∧ p o ∧ h ≠ o
structure ChgOk (c : Chg) : Prop where
  hs : c.Hands WordOk
  b0 : 0 ≤ c.b
  b1 : c.b < big
  e1 : ∀ e, c.e = some e → c.b < e ∧ e < big
structure Bk where
  js : List Pr
  ls : List Lyr
  cs : List Chg
@[reducible] def bkD (b : Bk) : D := .tuple [psD b.js, lyrsD b.ls, chgsD b.cs]
structure BkOk (b : Bk) : Prop where
  js : JOk b.js
  l4 : b.ls.length ≤ 4
  ls : ∀ l ∈ b.ls, LyrOk l
  wd : (b.ls.map (·.word)).Nodup
  c24 : b.cs.length ≤ 24
  cs : ∀ c ∈ b.cs, ChgOk c
end CFBk

set_option Elab.async false
set_option linter.all false
set_option maxRecDepth 100000
set_option maxHeartbeats 4000000
/-! CFTu: turns of numbers -/
namespace CFTu
open PySem PySem.Spec PyProof.Rows L2 DL CFH CFCl CFRu CFWd CFBk
def placeL (l : Lyr) (r : Int) : Int := (r - l.start) % (1440 * l.days)
end CFTu

set_option Elab.async false
set_option linter.all false
set_option maxRecDepth 100000
set_option maxHeartbeats 4000000
/-! CFTd: who is called: told, stand, first -/
namespace CFTd
open PySem PySem.Spec PyProof.Rows L2 DL CFH CFCl CFRu CFWd CFBk CFTu
theorem sg_small : ∀ c ∈ signs.cps.toList, c < 0x110000 := by decide +kernel
theorem word_ok {x : Str} (h : WordOk x) : PyData.canLay0 (.str x) = true := by
  show x.cps.all (· < 0x110000) = true
  rw [Array.all_eq_true]
  intro i hi
  have := sg_small _ (h.sg x.cps[i] (by simp))
  simpa using this
theorem lay_w {k : Nat} {x : Str} (h : WordOk x) : Lay k (.str x) := Lay.str (word_ok h)
theorem eqv_str {a b : Str} : PyData.eqv (.str a) (.str b) = decide (a = b) := by
  simp only [PyData.eqv]
  by_cases h : a = b
  · subst h; simp
  · simp [h]
inductive Rw where
  | non (w : Str)
  | turn (h w : Str) (j : Nat)
  | sub (h w : Str) (j k : Nat)
  | on (h : Str) (k : Nat)
  | away (m : Nat) (r : Rw)
def rwL : Rw → List D
  | .non w => [.str "none", .str w]
  | .turn h w j => [.str "turn", .str h, .str w, .int (j : Nat)]
  | .sub h w j k => [.str "for", .str h, .str w, .int (j : Nat), .int (k : Nat)]
  | .on h k => [.str "on", .str h, .int (k : Nat)]
  | .away m r => [.str "away", .int (m : Nat), .tuple (rwL r)]
def Rw.hand : Rw → Option Str
  | .turn h _ _ => some h
  | .sub h _ _ _ => some h
  | .on h _ => some h
  | _ => none
def Rw.kind : Rw → Str
  | .non _ => "none"
  | .turn _ _ _ => "turn"
  | .sub _ _ _ _ => "for"
  | .on _ _ => "on"
  | .away _ _ => "away"
theorem rw_0 {r : Rw} : atI (rwL r) 0 = some (.str r.kind) := by cases r <;> rfl
def Rw.Ok : Rw → Prop
  | .non w => WordOk w
  | .turn h w _ => WordOk h ∧ WordOk w
  | .sub h w _ _ => WordOk h ∧ WordOk w
  | .on h _ => WordOk h
  | .away _ r => r.Ok
theorem Rw.Ok.hand {r : Rw} {h : Str} (o : r.Ok) (e : r.hand = some h) : WordOk h := by
  cases r <;> cases e
  · exact o.1
  · exact o.1
  · exact o
/-! what is told -/
def coversL (c : Chg) (t : Int) : Bool := decide (c.b ≤ t) && (match c.e with
  | none => true
  | some e => decide (t < e))
/-! facts -/
structure BkW (b : Bk) : Prop where
  js : b.js.length ≤ 100
  ls : ∀ l ∈ b.ls, LyrOk l
  l4 : b.ls.length ≤ 100
  cs : ∀ c ∈ b.cs, ChgOk c
  c24 : b.cs.length ≤ 200
theorem trns_hand {M : Int} : ∀ {lo : Int} {ts : List Trn}, TrnsOk M lo ts → ∀ t ∈ ts, WordOk t.2.2
  | _, u :: ts, h, t, ht => by
    rcases List.mem_cons.mp ht with z | z
    · rw [z]; exact h.2.2.2.1
    · exact trns_hand h.2.2.2.2 t z
/-! promises -/
end CFTd

set_option Elab.async false
set_option linter.all false
set_option maxRecDepth 100000
set_option maxHeartbeats 4000000
/-! CFRd: the laws' reading by the last moments ahead of jumps, one sum kept -/
namespace CFRd
open PySem PySem.Spec PyProof.Rows L2 DL CFH CFCl CFCh
end CFRd

set_option Elab.async false
set_option linter.all false
set_option maxRecDepth 100000
set_option maxHeartbeats 4000000
/-! CFRw: the laws' own rows -/
namespace CFRw
open PySem PySem.Spec PyProof.Rows L2 DL CFH CFCl CFRu CFWd CFBk CFTu CFTd
end CFRw

set_option Elab.async false
set_option linter.all false
set_option maxRecDepth 100000
set_option maxHeartbeats 4000000
/-! CFCg: a drawn change -/
namespace CFCg
open PySem PySem.Spec PyProof.Rows L2 DL CFH CFCl CFRu CFWd CFBk
abbrev wsD (ws : List Str) : D := .list (ws.map PyData.str)
def S_law_change : SpD := fun as Q _ => ∃ (h : Hd) (n : Nat) (ws : List Str) (low : Int), as = [hc h, .v (wsD ws), .v (.int low)] ∧ h.ok n ∧ n ≤ 700000 ∧ WsOk ws ∧ 0 < ws.length ∧ ws.length ≤ 1000 ∧ 0 ≤ low ∧
  ∀ (h' : Hd) (c : Chg), h'.ok (n + 30) → ChgOk c → c.Hands (· ∈ ws) → Q (.v (chgD c)) [hc h', .v (wsD ws), .v (.int low)]
theorem len_law_change : ∀ as QD ED, S_law_change as QD ED → as.length = 3 := by
  rintro as QD ED ⟨_, _, _, _, rfl, _⟩
  rfl
end CFCg

set_option Elab.async false
set_option linter.all false
set_option maxRecDepth 100000
set_option maxHeartbeats 4000000
/-! CFLa: what can be laid: changes, rows, layers, books; kinds of changes -/
namespace CFLa
open PySem PySem.Spec PyProof.Rows L2 DL CFH CFCl CFRu CFWd CFBk CFCg CFTu CFTd CFRw
theorem s_for : PyData.canLay0 (.str "for") = true := by decide +kernel
theorem lay_chg {c : Chg} (h : ChgOk c) : Lay 1 (chgD c) := by
  have hs := h.hs
  cases c with
  | away x b e =>
    exact Lay.tuple (k := 0) fun d hd => by
      simp only [chgL, List.mem_cons, List.not_mem_nil, or_false] at hd
      rcases hd with rfl | rfl | rfl | rfl
      · exact Lay.str (by decide +kernel)
      · exact lay_w hs
      · exact Lay.int _
      · cases e
        · exact Lay.none
        · exact Lay.int _
  | on x b e =>
    exact Lay.tuple (k := 0) fun d hd => by
      simp only [chgL, List.mem_cons, List.not_mem_nil, or_false] at hd
      rcases hd with rfl | rfl | rfl | rfl
      · exact Lay.str (by decide +kernel)
      · exact lay_w hs
      · exact Lay.int _
      · cases e
        · exact Lay.none
        · exact Lay.int _
  | stand x o b e =>
    exact Lay.tuple (k := 0) fun d hd => by
      simp only [chgL, List.mem_cons, List.not_mem_nil, or_false] at hd
      rcases hd with rfl | rfl | rfl | rfl | rfl
      · exact Lay.str (by decide +kernel)
      · exact lay_w hs.1
      · exact lay_w hs.2.1
      · exact Lay.int _
      · cases e
        · exact Lay.none
        · exact Lay.int _
theorem lay_cs {cs : List Chg} (h : ∀ c ∈ cs, ChgOk c) : Lay 2 (chgsD cs) := Lay.tuple (k := 1) fun d hd => by
    obtain ⟨x, hx, rfl⟩ := List.mem_map.mp hd
    exact lay_chg (h x hx)
theorem lay_ps {ps : List Pr} : Lay 2 (psD ps) := Lay.tuple (k := 1) fun d hd => by
    obtain ⟨p, _, rfl⟩ := List.mem_map.mp hd
    exact Lay.tuple (k := 0) fun d hd => by
      simp only [List.mem_cons, List.not_mem_nil, or_false] at hd
      rcases hd with rfl | rfl <;> exact Lay.int _
theorem lay_trn {t : Trn} (h : WordOk t.2.2) : Lay 1 (trnD t) := Lay.tuple (k := 0) fun d hd => by
    simp only [List.mem_cons, List.not_mem_nil, or_false] at hd
    rcases hd with rfl | rfl | rfl
    · exact Lay.int _
    · exact Lay.int _
    · exact lay_w h
theorem lay_trns {ts : List Trn} (h : ∀ t ∈ ts, WordOk t.2.2) : Lay 2 (trnsD ts) := Lay.tuple (k := 1) fun d hd => by
    obtain ⟨t, ht, rfl⟩ := List.mem_map.mp hd
    exact lay_trn (h t ht)
theorem lay_lyr {l : Lyr} (h : WordOk l.word) (ht : ∀ t ∈ l.turns, WordOk t.2.2) : Lay 3 (lyrD l) := Lay.tuple (k := 2) fun d hd => by
    simp only [List.mem_cons, List.not_mem_nil, or_false] at hd
    rcases hd with rfl | rfl | rfl | rfl
    · exact lay_w h
    · exact Lay.int _
    · exact Lay.int _
    · exact lay_trns ht
end CFLa

set_option Elab.async false
set_option linter.all false
set_option maxRecDepth 100000
set_option maxHeartbeats 4000000
/-! CFIc: spans, changes of anything -/
namespace CFIc
open PySem PySem.Spec PyProof.Rows L2 DL CFH CFCl CFRu CFWd CFBk CFIs CFIj
def isSp (b e : D) : Bool := isMo b && (match e with
  | .none => true
  | e => isMo e && (match b, e with
    | .int x, .int y => decide (x < y)
    | _, _ => false))
def isCh : D → Bool
  | .tuple [.str k, h, b, e] => (decide (k = "away") || decide (k = "on")) && (isWd h && isSp b e)
  | .tuple [.str k, h, o, b, e] => decide (k = "for") && (isWd o && (!PyData.eqv h o && (isWd h && isSp b e)))
  | _ => false
theorem sp_none {b : D} : isSp b .none = isMo b := by
  show (isMo b && true) = _
  rw [Bool.and_true]
theorem sp_no {b e : D} (h : isMo b = false) : isSp b e = false := by
  show (isMo b && _) = _
  rw [h]; rfl
theorem sp_noE {b e : D} (h : isMo e = false) (n : e ≠ .none) : isSp b e = false := by
  unfold isSp
  cases e with
  | none => exact absurd rfl n
  | _ => simp only [h, Bool.false_and, Bool.and_false]
theorem sp_at {x y : Int} (h : isMo (.int x) = true) (h' : isMo (.int y) = true) : isSp (.int x) (.int y) = decide (x < y) := by
  show (isMo (.int x) && (isMo (.int y) && decide (x < y))) = _
  rw [h, h']; rfl
theorem ch_no {d : D} (h : isT "tuple" d = false) : isCh d = false := by
  cases d <;> first | rfl | (simp [isT] at h)
theorem ch_4 {k h b e : D} : isCh (.tuple [k, h, b, e]) = (match k with
    | .str k => (decide (k = "away") || decide (k = "on")) && (isWd h && isSp b e)
    | _ => false) := by cases k <;> rfl
theorem ch_5 {k h o b e : D} : isCh (.tuple [k, h, o, b, e]) = (match k with
    | .str k => decide (k = "for") && (isWd o && (!PyData.eqv h o && (isWd h && isSp b e)))
    | _ => false) := by cases k <;> rfl
theorem ch_len {ds : List D} (h : ¬ (4 ≤ ds.length ∧ ds.length ≤ 5)) : isCh (.tuple ds) = false := by
  match ds, h with
  | [], _ | [_], _ | [_, _], _ | [_, _, _], _ => simp [isCh]
  | [_, _, _, _], h => exact absurd ⟨Nat.le_refl 4, Nat.le_of_ble_eq_true rfl⟩ h
  | [_, _, _, _, _], h => exact absurd ⟨Nat.le_of_ble_eq_true rfl, Nat.le_refl 5⟩ h
  | _ :: _ :: _ :: _ :: _ :: _ :: _, _ => simp [isCh]
theorem len45 {ds : List D} (h : 4 ≤ ds.length ∧ ds.length ≤ 5) : (∃ k a b e, ds = [k, a, b, e]) ∨ (∃ k a o b e, ds = [k, a, o, b, e]) := by
  match ds, h with
  | [k, a, b, e], _ => exact .inl ⟨k, a, b, e, rfl⟩
  | [k, a, o, b, e], _ => exact .inr ⟨k, a, o, b, e, rfl⟩
  | [], h | [_], h | [_, _], h | [_, _, _], h => exact absurd h.1 (by simp)
  | _ :: _ :: _ :: _ :: _ :: _ :: _, h => exact absurd h.2 (by simp)
theorem mo_of {t : Int} (h0 : 0 ≤ t) (h1 : t < big) : isMo (.int t) = true := decide_eq_true ⟨h0, h1⟩
theorem lay_parts {k : Nat} {ds : List D} (h : Lay k (.tuple ds)) : ∀ x ∈ ds, Lay k x := by
  have a : PyData.canLayAll0 ds = true := by have := h.ok; rw [PyData.canLay0] at this; exact this
  have b : PyData.depthAll ds ≤ k := by have := h.dp; simp only [PyData.depth] at this; omega
  clear h
  induction ds with
  | nil => exact fun x hx => nomatch hx
  | cons d ds ih =>
    rw [PyData.canLayAll0, Bool.and_eq_true] at a
    simp only [PyData.depthAll] at b
    intro x hx
    rcases List.mem_cons.mp hx with e | hx
    · rw [e]; exact ⟨a.1, by omega⟩
    · exact ih a.2 (by omega) x hx
theorem mem_two {s : Str} : memD (.str s) [.str "away", .str "on"] = (decide (s = "away") || decide (s = "on")) := by
  show (PyData.eqv (.str "away") (.str s) || (PyData.eqv (.str "on") (.str s) || false)) = _
  rw [CFTd.eqv_str, CFTd.eqv_str, Bool.or_false]
  congr 1 <;> exact decide_eq_decide.mpr ⟨Eq.symm, Eq.symm⟩
def S_is_span : SpD := fun as Q _ => ∃ b e : D, as = [.v b, .v e] ∧ Q (.v (.bool (isSp b e))) as
def LayD (d : D) : Prop := ∀ ds, d = .tuple ds → ∀ x ∈ ds, (x = .dict [] ∨ isT "tuple" x = true ∨ isT "list" x = true) ∨ Lay 60 x
def S_is_change : SpD := fun as Q _ => ∃ d : D, as = [.v d] ∧ sml d = true ∧ LayD d ∧ Q (.v (.bool (isCh d))) as
theorem len_is_span : ∀ as QD ED, S_is_span as QD ED → as.length = 2 := by
  rintro as QD ED ⟨_, _, rfl, _⟩
  rfl
theorem len_is_change : ∀ as QD ED, S_is_change as QD ED → as.length = 1 := by
  rintro as QD ED ⟨_, rfl, _⟩
  rfl
end CFIc

set_option Elab.async false
set_option linter.all false
set_option maxRecDepth 100000
set_option maxHeartbeats 4000000
/-! CFRa: first_from, how_many -/
namespace CFRa
open PySem PySem.Spec PyProof.Rows L2 DL CFH
@[reducible] def ff (rest by_ low : Int) : Int := low + (rest - low) % by_
def hm (rest by_ low high : Int) : Int := if high ≤ ff rest by_ low then 0 else (high - 1 - ff rest by_ low) / by_ + 1
/-! the plain law -/
end CFRa

set_option Elab.async false
set_option linter.all false
set_option maxRecDepth 100000
set_option maxHeartbeats 4000000
/-! CFRb: gcd, inverse, agree, clash_of, joined: promises and their mathematics -/
namespace CFRb
open PySem PySem.Spec PyProof.Rows L2 DL CFH
def zl (a b : Int) : Int := ((Int.lcm a b : Nat) : Int)
def Sm (x : Int) : Prop := x.natAbs < 2 ^ 8900
theorem Sm.of_le {x y : Int} (h : Sm y) (l : x.natAbs ≤ y.natAbs) : Sm x := Nat.lt_of_le_of_lt l h
theorem Sm.neg {x : Int} (h : Sm x) : Sm (-x) := h.of_le (by omega)
theorem Sm.big {x : Int} (h0 : 0 ≤ x) (h : x ≤ big) : Sm x := by
  have e : (2 : Nat) ^ 200 ≤ 2 ^ 8900 := Nat.pow_le_pow_right (by decide) (by decide)
  refine Nat.lt_of_lt_of_le (m := 2 ^ 200) ?_ e
  unfold CFH.big at h
  omega

/-! ### pairs -/
abbrev Pr := Int × Int
@[reducible] def cplD (p : Pr) : D := .tuple [.int p.1, .int p.2]
@[reducible] def psD (ps : List Pr) : D := .tuple (ps.map cplD)
/-! ### promises -/
end CFRb

set_option Elab.async false
set_option linter.all false
set_option maxRecDepth 100000
set_option maxHeartbeats 4000000
/-! CFPl: the plain layers of a moment's span -/
namespace CFPl
open PySem PySem.Spec PyProof.Rows L2 DL CFH CFCl CFRu CFWd CFBk CFCg CFTu CFTd CFLa
end CFPl

set_option Elab.async false
set_option linter.all false
set_option maxRecDepth 100000
set_option maxHeartbeats 4000000
/-! CFEd: edges -/
namespace CFEd
open PySem PySem.Spec PyProof.Rows L2 DL CFH CFCl CFRu CFWd CFBk
end CFEd

set_option Elab.async false
set_option linter.all false
set_option maxRecDepth 100000
set_option maxHeartbeats 4000000
/-! CFLe: the laws' own edges; where runs begin -/
namespace CFLe
open PySem PySem.Spec PyProof.Rows L2 DL CFH CFCl CFRu CFWd CFBk CFEd
instance {R : Int → Int} {t : Int} : Decidable (CFRu.St R t) := inferInstanceAs (Decidable (0 < t ∧ R t = R (t - 1)))
instance {R : Int → Int} {t : Int} : Decidable (Beg R t) := inferInstanceAs (Decidable (t = 0 ∨ ¬ (CFRu.St R t ↔ CFRu.St R (t - 1)) ∨ R t > R (t - 1) + 1))
end CFLe

set_option Elab.async false
set_option linter.all false
set_option maxRecDepth 100000
set_option maxHeartbeats 4000000
/-! CFSp: plain spans: what stays alike from edge to edge -/
namespace CFSp
open PySem PySem.Spec PyProof.Rows L2 DL CFH CFCl CFRu CFWd CFBk CFCg CFTu CFTd CFLa CFPl CFEd CFLe
def inP (p : Int) (t : Trn) : Bool := decide (t.1 ≤ p ∧ p < t.2.1)
end CFSp

set_option Elab.async false
set_option linter.all false
set_option maxRecDepth 100000
set_option maxHeartbeats 4000000
/-! CFLo: lots: who is called, by pieces of the day and rests of its number -/
namespace CFLo
open PySem PySem.Spec PyProof.Rows L2 DL CFH CFCl CFRu CFWd CFBk CFTu CFRb CFSp
/-! ### a layer's hand at a number -/
def whoL (l : Lyr) (r : Int) : Option Str := (l.turns.find? (inP (placeL l r))).map (·.2.2)
/-! ### the lot of a day -/
abbrev Lt := List Int × Option Str
def lotOf : List Lyr → Int → Int → Lt
  | [], _, _ => ([], none)
  | l :: ls, m, d => match whoL l (1440 * d + m) with
    | some h => ([d % l.days], some h)
    | none => (d % l.days :: (lotOf ls m d).1, (lotOf ls m d).2)
def rnd (ls : List Lyr) : Int := ls.foldl (fun n l => zl n l.days) 1
/-! ### the order of the rests -/
/-! ### joining -/
/-! ### layer by layer -/
structure Ah where
  rs : List Int
  r : Int
  n : Int
structure Inv (ls : List Lyr) (m : Int) (s : List Lt × List Ah) : Prop where
  nd : (s.1.map (·.1) ++ s.2.map (·.rs)).Nodup
  fd : ∀ x ∈ s.1, x.2.isSome = true ∧ ∃ d, lotOf ls m d = x
  ah : ∀ a ∈ s.2, 0 ≤ a.r ∧ a.r < a.n ∧ a.n = rnd ls ∧ a.rs.length = ls.length ∧ ∀ d, d % a.n = a.r ↔ lotOf ls m d = (a.rs, none)
  al : ∀ d, lotOf ls m d ∈ s.1 ∨ ∃ a ∈ s.2, lotOf ls m d = (a.rs, none)
/-! ### how many at each time -/
abbrev s0 : List Lt × List Ah := ([], [⟨[], 0, 1⟩])
/-! ### data -/
/-! ### cuts -/
/-! ### all pieces -/
/-! ### promises -/
end CFLo

set_option Elab.async false
set_option linter.all false
set_option maxRecDepth 100000
set_option maxHeartbeats 4000000
/-! CFLc: the laws' own cuts of the day; within a piece a layer has one turn -/
namespace CFLc
open PySem PySem.Spec PyProof.Rows L2 DL CFH CFCl CFRu CFWd CFBk CFTu CFRb CFSp CFLo
end CFLc

set_option Elab.async false
set_option linter.all false
set_option maxRecDepth 100000
set_option maxHeartbeats 4000000
/-! CFLy: a drawn layer -/
namespace CFLy
open PySem PySem.Spec PyProof.Rows L2 DL CFH CFCl CFRu CFWd CFBk CFCg
def S_law_minute : SpD := fun as Q _ => ∃ (h : Hd) (n : Nat) (m : Int), as = [hc h, .v (.int m)] ∧ h.ok n ∧ n ≤ 800000 ∧ 1 ≤ m ∧ m ≤ 1000 ∧ ∀ (h' : Hd) (x : Int), h'.ok (n + 4) → 0 ≤ x → x ≤ 1440 * m → Q (.v (.int x)) [hc h', .v (.int m)]
structure LyrW (l : Lyr) : Prop where
  wd : WordOk l.word
  d1 : 1 ≤ l.days
  d60 : l.days ≤ 60
  s0 : 0 ≤ l.start
  s1 : l.start < 1440 * l.days
  ts : TrnsOk (1440 * l.days) 0 l.turns
def S_law_layer : SpD := fun as Q _ => ∃ (h : Hd) (n : Nat) (wd : Str) (ws : List Str) (days most : Int), as = [hc h, .v (.str wd), .v (wsD ws), .v (.int days), .v (.int most)] ∧ h.ok n ∧ n ≤ 600000 ∧ WordOk wd ∧ 0 < ws.length ∧ ws.length ≤ 1000 ∧ (∀ w ∈ ws, WordOk w) ∧ 1 ≤ days ∧ days ≤ 60 ∧ 0 ≤ most ∧ most ≤ 15 ∧
  ∀ (h' : Hd) (l : Lyr), h'.ok (n + 200) → LyrW l → l.word = wd → l.days = days → (∀ t ∈ l.turns, t.2.2 ∈ ws) → ((l.turns.length : Int) ≤ most ∨ l.turns.length ≤ 1) → Q (.v (lyrD l)) [hc h', .v (.str wd), .v (wsD ws), .v (.int days), .v (.int most)]
theorem minute_i {h : Hd} {n : Nat} {m : Int} {Q E} (o : h.ok n) (hn : n ≤ 800000) (m1 : 1 ≤ m) (m2 : m ≤ 1000) (q : ∀ (h' : Hd) (x : Int), h'.ok (n + 4) → 0 ≤ x → x ≤ 1440 * m → Q (.v (.int x)) [hc h', .v (.int m)]) : S_law_minute [hc h, .v (.int m)] Q E := ⟨h, n, m, rfl, o, hn, m1, m2, q⟩
theorem len_law_minute : ∀ as QD ED, S_law_minute as QD ED → as.length = 2 := by
  rintro as QD ED ⟨_, _, _, rfl, _⟩
  rfl
theorem len_law_layer : ∀ as QD ED, S_law_layer as QD ED → as.length = 5 := by
  rintro as QD ED ⟨_, _, _, _, _, _, rfl, _⟩
  rfl
theorem trns_app {most : Int} : ∀ {lo : Int} {ts : List Trn} {t : Trn}, TrnsOk most lo ts → (∀ u ∈ ts, u.2.1 ≤ t.1) → lo ≤ t.1 → t.1 < t.2.1 → t.2.1 ≤ most → WordOk t.2.2 → TrnsOk most lo (ts ++ [t])
  | _, [], _, _, _, h1, h2, h3, h4 => ⟨h1, h2, h3, h4, trivial⟩
  | _, u :: ts, t, h, hu, h1, h2, h3, h4 => ⟨h.1, h.2.1, h.2.2.1, h.2.2.2.1, trns_app h.2.2.2.2 (fun v hv => hu v (.tail _ hv)) (hu u (.head _)) h2 h3 h4⟩
end CFLy

set_option Elab.async false
set_option linter.all false
set_option maxRecDepth 100000
set_option maxHeartbeats 4000000
/-! CFCr: a crowded book -/
namespace CFCr
open PySem PySem.Spec PyProof.Rows L2 DL CFH CFCl CFRu CFWd CFBk CFCg CFLy CFTd CFLa
end CFCr

set_option Elab.async false
set_option linter.all false
set_option maxRecDepth 100000
set_option maxHeartbeats 4000000
/-! CFNr: moments near a book's edges -/
namespace CFNr
open PySem PySem.Spec PyProof.Rows L2 DL CFH CFCl CFRu CFWd CFBk
end CFNr

set_option Elab.async false
set_option linter.all false
set_option maxRecDepth 100000
set_option maxHeartbeats 4000000
/-! CFLs: drawn layers -/
namespace CFLs
open PySem PySem.Spec PyProof.Rows L2 DL CFH CFCl CFRu CFWd CFBk CFCg CFLy
def menus : Bool → List (List Int)
  | false => [[1, 2, 3, 4, 6, 12], [7], [1, 2], [1, 7], [2, 5, 10], [3, 9]]
  | true => [[1, 2, 3, 4, 6, 12], [7, 14, 28], [1, 2, 4, 7, 14, 28], [3, 5, 15, 30, 60], [8, 9], [5, 11]]
end CFLs

set_option Elab.async false
set_option linter.all false
set_option maxRecDepth 100000
set_option maxHeartbeats 4000000
/-! k22: the promises -/
namespace K22
open PySem PySem.Spec PyProof.Rows L2 DL CFH CFCl CFRu CFWd CFBk CFCg CFTu CFTd CFRw
def awayH : Chg → Option Str
  | .away h _ _ => some h
  | _ => none
def onH : Chg → Option Str
  | .on h _ _ => some h
  | _ => none
def forH (o : Str) : Chg → Option Str
  | .stand h o' _ _ => if o' = o then some h else none
  | _ => none
abbrev covF (cs : List Chg) (t : Int) : List Chg := cs.filter fun c => coversL c t
def goneW (cs : List Chg) : List Str := cs.filterMap awayH
def forsW (cs : List Chg) (h : Str) : Str := (cs.filterMap (forH h)).getLast?.getD h
/-! the law's books -/
def S_law_change : SpD := fun as Q _ => ∃ (h : Hd) (ws : List Str) (low : Int), as = [hc h, .v (wsD ws), .v (.int low)] ∧ h.ok 0 ∧ WsOk ws ∧ 2 ≤ ws.length ∧ ws.length ≤ 10 ∧ 3 ≤ low ∧ low ≤ 1000000000100 ∧
  ∀ (h' : Hd) (c : Chg), h'.ok 100 → ChgOk c → c.b ≤ low → (∀ e, c.e = some e → low + 10 ≤ e) → Q (.v (chgD c)) [hc h', .v (wsD ws), .v (.int low)]
def S_law : SpD := fun as Q _ => ∃ ns : List Int, as = [.v (.list (ns.map PyData.int))] ∧ ns.length ≤ 63 ∧ ∀ rs, Q (.v (.bool true)) rs
theorem law_in : ∀ ns : List Int, ns.length ≤ 63 → S_law [.v (.list (ns.map PyData.int))] (fun c _ => c = .v (.bool true)) (fun _ _ => False) := fun ns h => ⟨ns, rfl, h, fun _ => rfl⟩
theorem len_law_change : ∀ as QD ED, S_law_change as QD ED → as.length = 3 := by
  rintro as QD ED ⟨_, _, _, rfl, _⟩
  rfl
theorem len_law : ∀ as QD ED, S_law as QD ED → as.length = 1 := by
  rintro as QD ED ⟨_, rfl, _⟩
  rfl
end K22

set_option Elab.async false
set_option linter.all false
set_option maxRecDepth 100000
set_option maxHeartbeats 4000000
/-! k25: the promises -/
namespace K25
open PySem PySem.Spec PyProof.Rows L2 DL CFH CFCl CFRu CFWd CFBk CFCg CFTu CFTd CFLa CFPl CFSp CFEd CFLe CFRw
open K22 (covF goneW forsW awayH forH)
def S_law : SpD := fun as Q _ => ∃ ns : List Int, as = [.v (.list (ns.map PyData.int))] ∧ ns.length ≤ 63 ∧ ∀ rs, Q (.v (.bool true)) rs
theorem law_in : ∀ ns : List Int, ns.length ≤ 63 → S_law [.v (.list (ns.map PyData.int))] (fun c _ => c = .v (.bool true)) (fun _ _ => False) := fun ns h => ⟨ns, rfl, h, fun _ => rfl⟩
theorem len_law : ∀ as QD ED, S_law as QD ED → as.length = 1 := by
  rintro as QD ED ⟨_, rfl, _⟩
  rfl
end K25

set_option Elab.async false
set_option linter.all false
set_option maxRecDepth 100000
set_option maxHeartbeats 4000000
/-! CFRh: who is there, by the laws' own look at changes and layers -/
namespace CFRh
open PySem PySem.Spec PyProof.Rows L2 DL CFH CFCl CFRu CFWd CFBk CFCg CFTu CFTd CFLa CFPl CFSp
open K22 (covF goneW forsW awayH forH onH)
end CFRh

set_option Elab.async false
set_option linter.all false
set_option maxRecDepth 100000
set_option maxHeartbeats 4000000
/-! CFNn: who is called next that isn't named: spans, soonest, chains -/
namespace CFNn
open PySem PySem.Spec PyProof.Rows L2 DL CFH CFCl CFRu CFWd CFBk CFCg CFTu CFTd CFLa CFPl CFSp CFEd CFLe CFRh
/-! plain layers in order -/
/-! the first moment in a turn -/
/-! the soonest that isn't named -/
/-! the next that isn't named -/
/-! the spans from a moment on -/
abbrev Sp := Int × Option Int × List Lyr
/-! the rows that stand, each hand once -/
/-! chains -/
end CFNn

set_option Elab.async false
set_option linter.all false
set_option maxRecDepth 100000
set_option maxHeartbeats 4000000
/-! CFFr: the next gap, the next moment of a hand -/
namespace CFFr
open PySem PySem.Spec PyProof.Rows L2 DL CFH CFCl CFRu CFWd CFBk CFTu CFTd CFPl CFRa CFRb CFSp CFEd CFRh CFNn CFLo CFLc
/-! ### one day's lot, by moments -/
/-! ### the first moment of a lot -/
/-! ### spans -/
end CFFr

set_option Elab.async false
set_option linter.all false
set_option maxRecDepth 100000
set_option maxHeartbeats 4000000
/-! CFCn: counting moments; sums by names -/
namespace CFCn
open PySem PySem.Spec PyProof.Rows L2 DL CFH CFCl CFRu CFWd CFBk CFTu CFTd CFPl CFRa CFRb CFSp CFEd CFRh CFNn CFLo CFLc CFFr
def bI (b : Bool) : Int := if b then 1 else 0
/-! ### sums by names -/
end CFCn

set_option Elab.async false
set_option linter.all false
set_option maxRecDepth 100000
set_option maxHeartbeats 4000000
/-! DL: trees of objects, parts of them lent; calls with any number of lent slots and parts. -/
namespace DL
open PySem PySem.Spec PyProof.Rows L2

/-! ### a part of a tree -/
def Tre.own : Tre → List Addr
  | .ld a _ => [a]
  | .lst a _ => [a]
  | .tup a _ => [a]
  | .ins a dx _ _ _ => [a, dx]
  | .exc a da _ => a :: da.toList
  | _ => []
section
variable {K : PySem.W.Frag} {B B' H H' : Hp}
theorem all_set : ∀ {xs : List Tre} {vs : List V} {i : Nat} {m : Tre}, TreAll K B H xs vs → xs[i]? = some m → ∃ u, vs[i]? = some u ∧ TreAt K B H m u ∧
    ∀ (n : Tre) (B' H' : Hp), Same B B' → TreAt K B' H' n u → (∀ a ∈ Tre.foots (xs.set i (.hole 0)), ∀ o, H a = some o → H' a = some o) → TreAll K B' H' (xs.set i n) vs
  | [], _, i, m, _, h => by simp at h
  | x :: xs, vs, 0, m, q, h => by
    have e : x = m := by simpa using h
    subst e
    obtain ⟨v, ws, rfl, q1, q2⟩ := q
    exact ⟨v, rfl, q1, fun n B' H' hB z keep => ⟨v, ws, rfl, z, TreAll.mono hB xs ws (fun a ha o w => keep a (by rw [List.set_cons_zero, Tre.foots]; exact List.mem_append_right _ ha) o w) q2⟩⟩
  | x :: xs, vs, i + 1, m, q, h => by
    obtain ⟨v, ws, rfl, q1, q2⟩ := q
    obtain ⟨u, e, z1, z2⟩ := all_set (i := i) q2 (by simpa using h)
    exact ⟨u, by simpa using e, z1, fun n B' H' hB z keep => ⟨v, ws, rfl, TreAt.mono hB x v (fun a ha o w => keep a (by rw [List.set_cons_succ, Tre.foots]; exact List.mem_append_left _ ha) o w) q1, z2 n B' H' hB z fun a ha => keep a (by rw [List.set_cons_succ, Tre.foots]; exact List.mem_append_right _ ha)⟩⟩
end
section
variable {K : PySem.W.Frag} {g : G} {σ : L2.St} {vs : List V} {H : Hp} {ρ : Rho} {cs : List C} {i : Nat}
end
/-! ### calls: every own slot, part or new object among the arguments is the callee's -/
def conv (n : Nat) : List C → List C → List C
  | .sub _ _ a :: cs, .own _ o :: as => .own (n + a) o :: conv n cs as
  | _ :: cs, a :: as => a :: conv n cs as
  | _, _ => []
inductive Conv : C → C → Prop
  | pk (i : Nat) (t : Nat) (o : OD) : Conv (.pk i) (.own t o)
  | sub (i : Nat) (p : List Nat) (a : Addr) (m : Tre) : Conv (.sub i p a) (.own 0 (.tre m))
  | same (c : C) (h1 : ∀ i, c ≠ .pk i) (h2 : ∀ i p a, c ≠ .sub i p a) : Conv c c
inductive Convs : List C → List C → Prop
  | nil : Convs [] []
  | cons {c a : C} {cs as : List C} : Conv c a → Convs cs as → Convs (c :: cs) (a :: as)
theorem Convs.len : ∀ {cs as : List C}, Convs cs as → cs.length = as.length
  | _, _, .nil => rfl
  | _, _, .cons _ h => by rw [List.length_cons, List.length_cons, Convs.len h]
theorem Convs.isLn : ∀ {cs as : List C} {n : Nat}, Convs cs as → (conv n cs as).any C.isLn = cs.any C.isLn
  | _, _, n, .nil => rfl
  | _, _, n, .cons (c := c) (a := a) (cs := cs) (as := as) q h => by
    have ih := Convs.isLn (n := n) h
    cases q with
    | pk i t o => show ((C.own t o).isLn || (conv n cs as).any C.isLn) = ((C.pk i).isLn || _); rw [ih]
    | sub i p a m => show ((C.own (n + a) (.tre m)).isLn || (conv n cs as).any C.isLn) = ((C.sub i p a).isLn || _); rw [ih]
    | same c h1 h2 =>
      have e : conv n (c :: cs) (c :: as) = c :: conv n cs as := by
        cases c with
        | sub i p a => exact absurd rfl (h2 i p a)
        | _ => rfl
      rw [e, List.any_cons, List.any_cons, ih]
section
variable {K : PySem.W.Frag} {g : G} {W : WX} {σ : L2.St} {vs : List V} {H : Hp} {ρ : Rho} {cs : List C} {i : Nat}
end
section
variable {K : PySem.W.Frag} {g : G} {W : WX} {σ : L2.St} {vs : List V} {H : Hp} {ρ : Rho} {cs : List C} {i : Nat}
end
section
variable {X : Cx} {g : G} {W : WX} {CX : CXT} {k : Nat} {f : Addr} {fd : FuncData} {ps : List Str} {S : SpD} {E : XK} {x : Str} {p pos : Pos} {e : Expr} {es : List Expr} {wa : WA}
end
end DL
namespace DL
end DL

set_option Elab.async false
set_option linter.all false
set_option maxRecDepth 100000
set_option maxHeartbeats 4000000
/-! DLPlain: plain tuples: tuple(xs) of a list, dict(t); sorted(f(..).items()) -/
namespace DL
open PySem PySem.Spec PyProof.Rows L2
section
variable {X : Cx}
end
section
variable {X : Cx} {g : G} {W : WX} {e : Expr} {es : List Expr} {wa : WA} {we : WE} {p pos : Pos}
end
/-! ### dict(t), t a plain tuple of pairs -/
section
variable {K : PySem.W.Frag} {g : G} {σ : L2.St} {vs : List V} {H : Hp} {ρ : Rho} {cs : List C}
end
section
variable {X : Cx} {g : G} {W : WX} {e : Expr} {we : WE} {i : Nat} {x : Str} {p p2 apos cpos pos : Pos}
end
/-! ### calls that keep plain tuples plain; new lists frozen -/
section
variable {X : Cx} {g : G} {W : WX} {k : Nat} {S : SpD} {x : Str} {p pos : Pos} {e : Expr} {es : List Expr} {wa : WA} {we : WE}
end
end DL

set_option Elab.async false
set_option linter.all false
set_option maxRecDepth 100000
set_option maxHeartbeats 4000000
/-! CFCb: nights counted: the promises -/
namespace CFCb
open PySem PySem.Spec PyProof.Rows L2 DL CFH CFWd CFLo CFCn
end CFCb

set_option Elab.async false
set_option linter.all false
set_option maxRecDepth 100000
set_option maxHeartbeats 4000000
/-! CFRo: one round of layers, minutes by hands -/
namespace CFRo
open PySem PySem.Spec PyProof.Rows L2 DL CFH CFCl CFRu CFWd CFBk CFTu CFTd CFPl CFRa CFRb CFSp CFEd CFRh CFNn CFLo CFLc CFFr CFCn
/-! ### residues -/
/-! ### the rows that the program gathers -/
end CFRo

set_option Elab.async false
set_option linter.all false
set_option maxRecDepth 100000
set_option maxHeartbeats 4000000
/-! CFFw: drawn layers have few lots; what rows of counts add up to -/
namespace CFFw
open PySem PySem.Spec PyProof.Rows L2 DL CFH CFCl CFRu CFWd CFBk CFTu CFTd CFPl CFRa CFRb CFSp CFEd CFRh CFNn CFLo CFLc CFFr CFCn CFRo CFLs
theorem sub_len {α : Type} : ∀ {l m : List α}, l.Nodup → (∀ x ∈ l, x ∈ m) → l.length ≤ m.length
  | [], _, _, _ => Nat.zero_le _
  | x :: l, m, h, s => by
    obtain ⟨h1, h2⟩ := List.nodup_cons.mp h
    obtain ⟨a, b, rfl⟩ := List.append_of_mem (s x (.head _))
    have ih := sub_len (l := l) (m := a ++ b) h2 fun y hy => by
      rcases List.mem_append.mp (s y (.tail _ hy)) with z | z
      · exact List.mem_append_left _ z
      · rcases List.mem_cons.mp z with e | z
        · rw [e] at hy; exact absurd hy h1
        · exact List.mem_append_right _ z
    rw [List.length_append] at ih
    rw [List.length_append, List.length_cons, List.length_cons]
    omega
/-! ### the sum of rows of counts -/
end CFFw

set_option Elab.async false
set_option linter.all false
set_option maxRecDepth 100000
set_option maxHeartbeats 4000000
/-! CFSv: minutes served, by hands -/
namespace CFSv
open PySem PySem.Spec PyProof.Rows L2 DL CFH CFCl CFRu CFWd CFBk CFTu CFTd CFPl CFRa CFRb CFSp CFEd CFRh CFNn CFLo CFLc CFFr CFCn CFRo CFFw
/-! ### days -/
/-! ### moments of a lot -/
/-! ### the windows of a span -/
def inS (sp : List (Int × Int)) (m : Int) : Int := (sp.map fun s => bI (decide (s.1 ≤ m ∧ m < s.2))).sum
/-! ### lots and windows -/
/-! ### served -/
end CFSv

set_option Elab.async false
set_option linter.all false
set_option maxRecDepth 100000
set_option maxHeartbeats 4000000
/-! CFBo: a book drawn, as k57 to k62 draw it -/
namespace CFBo
open PySem PySem.Spec PyProof.Rows L2 DL CFH CFCl CFRu CFWd CFBk CFCg CFLy CFTd CFLa
def menus : List (List Int) := [[1, 2, 3, 4, 6, 12], [7], [1, 2], [2, 5, 10], [3, 9]]
structure BoOk (ws : List Str) (mj mc : Int) (b : Bk) : Prop where
  jo : JOk b.js
  jl : (b.js.length : Int) ≤ mj
  ls : ∀ l ∈ b.ls, LyrOk l
  l3 : b.ls.length ≤ 3
  tn : ∀ l ∈ b.ls, l.turns.length * b.ls.length ≤ 6
  dn : ∃ m ∈ menus, ∀ l ∈ b.ls, l.days ∈ m
  lh : ∀ l ∈ b.ls, ∀ t ∈ l.turns, t.2.2 ∈ ws
  cs : ∀ c ∈ b.cs, ChgOk c
  cl : (b.cs.length : Int) ≤ mc
  ch : ∀ c ∈ b.cs, c.Hands (· ∈ ws)
theorem BoOk.wk {ws : List Str} {mj mc : Int} {b : Bk} (h : BoOk ws mj mc b) (hm : mc ≤ 200) : BkW b := ⟨by have := h.jo.2.1; omega, h.ls, by have := h.l3; omega, h.cs, by have := h.cl; omega⟩
end CFBo

set_option Elab.async false
set_option linter.all false
set_option maxRecDepth 100000
set_option maxHeartbeats 4000000
/-! CFFb: drawn books have few lots; what served tells of them -/
namespace CFFb
open PySem PySem.Spec PyProof.Rows L2 DL CFH CFCl CFRu CFWd CFBk CFTu CFTd CFPl CFRa CFRb CFSp CFEd CFRh CFNn CFLo CFLc CFFr CFCn CFRo CFFw CFSv
/-! ### served over the whole day -/
end CFFb

set_option Elab.async false
set_option linter.all false
set_option maxRecDepth 100000
set_option maxHeartbeats 4000000
/-! DLLck: for k in d, d an own dict of texts or numbers: locked while the loop runs -/
namespace DL
open PySem PySem.Spec PyProof.Rows L2
section
variable {K : PySem.W.Frag} {g : G} {σ : L2.St} {vs : List V} {H H' : Hp} {ρ : Rho} {cs : List C} {i t : Nat}
theorem SR.lck {a : Addr} {ob : Obj} {ks : List (Key × V)} {kvs : List (Key × D)} (h : SR K g σ vs H ρ cs) (e : rget ρ i = .own t (.lck a ob ks kvs)) : σ[i]? = some (some (.ref a)) ∧ H a = some (.frz ob (.dK ks)) ∧ DpKV K (hide H (tot σ vs ρ cs ++ g.P0)) ks kvs := by
  obtain ⟨b, e1, _, ⟨e2, q1, q2⟩, _⟩ := h.own e
  subst e2
  exact ⟨e1, q1, q2⟩
end
/-! ### d[k] of a locked dict -/
section
variable {X : Cx} {g : G} {W : WX} {tg k : Expr} {body : List Stmt} {wk : WE} {wg : WG} {wb : WS} {T : List Nat} {i : Nat} {x : Str} {p pos : Pos}
end
/-! ### {k: v} -/
section
variable {X : Cx} {g : G} {W : WX} {k v : Expr} {wk wv : WE} {pos : Pos}
end
/-! ### d.update(a new dict) -/
section
variable {X : Cx} {g : G} {W : WX} {i : Nat} {e : Expr} {we : WE} {x : Str} {p apos pos : Pos}
end
end DL

set_option Elab.async false
set_option linter.all false
set_option maxRecDepth 100000
set_option maxHeartbeats 4000000
/-! CFSr: nights shared: what the program reckons, and the promises -/
namespace CFSr
open PySem PySem.Spec PyProof.Rows L2 DL CFH CFWd CFLo CFCn CFRo CFFb CFCb
abbrev Ns := List (List Str)
/-! ### what the program reckons -/
/-! ### plans -/
/-! ### the promises -/
/-! ### the dict of ways -/
end CFSr

set_option Elab.async false
set_option linter.all false
set_option maxRecDepth 100000
set_option maxHeartbeats 4000000
/-! DL: instances of own classes: fields, methods, made; nodes of trees read and changed. -/
namespace DL
open PySem PySem.Spec PyProof.Rows L2

/-! ### nodes -/
section
variable {K : PySem.W.Frag} {g : G} {σ : L2.St} {vs : List V} {H H' : Hp} {ρ : Rho} {cs : List C} {i : Nat}
end
/-! ### names of fields -/
/-! ### o.f -/
theorem TreAll.len {K : PySem.W.Frag} {B H : Hp} : ∀ {xs : List Tre} {vs : List V}, TreAll K B H xs vs → xs.length = vs.length
  | [], vs, h => by
    have e : vs = [] := h
    subst e; rfl
  | x :: xs, vs, h => by
    obtain ⟨v, ws, rfl, _, h2⟩ := h
    rw [List.length_cons, List.length_cons, TreAll.len h2]
theorem TreAll.at_ {K : PySem.W.Frag} {B H : Hp} {xs : List Tre} {vs : List V} {n : Nat} {m : Tre} (h : TreAll K B H xs vs) (e : xs[n]? = some m) : ∃ u, vs[n]? = some u ∧ TreAt K B H m u := by
  obtain ⟨u, a, b, _⟩ := all_set h e
  exact ⟨u, a, b⟩
section
variable {X : Cx} {g : G} {W : WX} {o e : Expr} {es : List Expr} {we wo : WE} {wa : WA} {CLS f : Str} {NS : List Str} {n : Nat} {pos pos' apos : Pos}
/-! ### o[e] of a list or tuple node -/
end
/-! ### what is stored in a tree -/
section
variable {K : PySem.W.Frag} {g : G} {σ : L2.St} {vs : List V} {B B' H H' : Hp} {ρ : Rho} {cs : List C} {i : Nat}
end
/-! ### o.f = e -/
section
variable {X : Cx} {g : G} {W : WX} {o e : Expr} {es : List Expr} {we wo : WE} {wa : WA} {CLS f : Str} {NS : List Str} {n : Nat} {pos pos' apos : Pos}
end
/-! ### o.append(e), o.pop() of a list node -/
section
variable {X : Cx} {g : G} {W : WX} {o e : Expr} {es : List Expr} {we wo : WE} {wa : WA} {CLS f : Str} {NS : List Str} {n : Nat} {pos pos' apos : Pos}
end
/-! ### methods -/
section
variable {X : Cx} {CX : CXT} {k : Nat} {f C : Addr} {fd : FuncData} {ps : List Str} {sp : Sp} {E : L2.St → XK} {x m : Str} {p pos apos : Pos} {e o : Expr} {es : List Expr} {ta : TE} {t : TA}
end
section
variable {X : Cx} {g : G} {W : WX} {k : Nat} {S : SpD} {o e : Expr} {es : List Expr} {we wo : WE} {wa : WA} {CLS m : Str} {NS : List Str} {pos pos' apos : Pos}
end
/-! ### a new instance -/
section
variable {K : PySem.W.Frag} {g : G} {W : WX} {σ : L2.St} {vs : List V} {H H' : Hp} {ρ : Rho} {cs : List C} {i : Nat}
end
section
variable {X : Cx} {g : G} {W : WX} {k : Nat} {S : SpD} {x : Str} {p : Pos} {o e : Expr} {es : List Expr} {we wo : WE} {wa : WA} {CLS m : Str} {NS : List Str} {pos pos' apos : Pos}
end
end DL

set_option Elab.async false
set_option linter.all false
set_option maxRecDepth 100000
set_option maxHeartbeats 4000000
/-! DL: lists of data that are nodes: compared, walked. -/
namespace DL
open PySem PySem.Spec PyProof.Rows L2
/-! ### == of a list node -/
section
variable {X : Cx} {g : G} {W : WX} {o e : Expr} {we wo : WE} {pos : Pos}
end
/-! ### a list node walked; it stays as it is -/
section
variable {K : PySem.W.Frag} {g : G} {σ : L2.St} {vs : List V} {H H' : Hp} {ρ : Rho} {cs : List C} {i : Nat}
end
section
variable {X : Cx} {g : G} {W : WX} {tg o : Expr} {body : List Stmt} {wo : WE} {wg : WG} {wb : WS} {T : List Nat} {pos : Pos}
end
/-! ### a comprehension over a list node -/
section
variable {K : PySem.W.Frag} {g : G} {W : WX} {T : List Nat} {t0 : TE} {wo : WE} {wg : WG} {wt : WT} {we : WE}
end
section
variable {X : Cx} {g : G} {W : WX} {elt tg o : Expr} {ifs : List Expr} {scope : Scope} {own : List (Str × Nat)} {pos p : Pos} {wg : WG} {wt : WT} {we wo : WE}
end
end DL

set_option Elab.async false
set_option linter.all false
set_option maxRecDepth 100000
set_option maxHeartbeats 4000000
/-! CFKp: books judged, keepers -/
namespace CFKp
open PySem PySem.Spec PyProof.Rows L2 DL CFH CFCl CFRu CFWd CFBk CFIs CFIj CFIc
/-! ### books are books -/
def S_is_book : SpD := fun as Q _ => ∃ b : Bk, as = [.v (bkD b)] ∧ BkOk b ∧ Q (.v (.bool true)) as
theorem len_is_book : ∀ as QD ED, S_is_book as QD ED → as.length = 1 := by
  rintro as QD ED ⟨_, rfl, _⟩
  rfl
end CFKp

set_option Elab.async false
set_option linter.all false
set_option maxRecDepth 100000
set_option maxHeartbeats 4000000
/-! CFJn: jumps, so many at most -/
namespace CFJn
open PySem PySem.Spec PyProof.Rows L2 DL CFH CFCl CFCh
def S_law_jumps : SpD := fun as Q _ => ∃ (h : Hd) (n : Nat) (m : Int), as = [hc h, .v (.int m)] ∧ h.ok n ∧ n ≤ 700000 ∧ 0 ≤ m ∧ m ≤ 8 ∧ ∀ (h' : Hd) (js : List Pr), h'.ok (n + 200) → JOk js → (js.length : Int) ≤ m → Q (.v (psD js)) [hc h', .v (.int m)]
theorem len_law_jumps : ∀ as QD ED, S_law_jumps as QD ED → as.length = 2 := by
  rintro as QD ED ⟨_, _, _, rfl, _⟩
  rfl
end CFJn

set_option Elab.async false
set_option linter.all false
set_option maxRecDepth 100000
set_option maxHeartbeats 4000000
/-! k19: books looked at -/
namespace K19
open PySem PySem.Spec PyProof.Rows L2 DL CFH CFCl CFRu CFWd CFBk CFIs CFIj CFIc CFKp
mutual
/-- data of which nothing is long or strange -/
def okE : D → Bool
  | .str s => decide (s.length ≤ 1000) && PyData.canLay0 (.str s)
  | .list ds => decide (ds.length ≤ 1000) && okA ds
  | .tuple ds => decide (ds.length ≤ 1000) && okA ds
  | .dict kvs => kvs.isEmpty
  | _ => true
def okA : List D → Bool
  | [] => true
  | d :: ds => okE d && okA ds
end
mutual
/-- what is drawn, ahead of any spoiling -/
def oo : D → Bool
  | .str s => decide (s.length ≤ 1000) && PyData.canLay0 (.str s)
  | .tuple ds => decide (ds.length ≤ 400) && ooA ds
  | .list _ => false
  | .dict _ => false
  | _ => true
def ooA : List D → Bool
  | [] => true
  | d :: ds => oo d && ooA ds
end
theorem okA_iff : ∀ {ds : List D}, okA ds = true ↔ ∀ d ∈ ds, okE d = true
  | [] => ⟨fun _ _ h => (by cases h), fun _ => rfl⟩
  | d :: ds => by
    show (okE d && okA ds) = true ↔ _
    rw [Bool.and_eq_true, okA_iff, List.forall_mem_cons]
theorem ooA_iff : ∀ {ds : List D}, ooA ds = true ↔ ∀ d ∈ ds, oo d = true
  | [] => ⟨fun _ _ h => (by cases h), fun _ => rfl⟩
  | d :: ds => by
    show (oo d && ooA ds) = true ↔ _
    rw [Bool.and_eq_true, ooA_iff, List.forall_mem_cons]
theorem okE_tup {ds : List D} : okE (.tuple ds) = true ↔ ds.length ≤ 1000 ∧ ∀ d ∈ ds, okE d = true := by
  show (decide (ds.length ≤ 1000) && okA ds) = true ↔ _
  rw [Bool.and_eq_true, decide_eq_true_iff, okA_iff]
theorem okE_lst {ds : List D} : okE (.list ds) = true ↔ ds.length ≤ 1000 ∧ ∀ d ∈ ds, okE d = true := by
  show (decide (ds.length ≤ 1000) && okA ds) = true ↔ _
  rw [Bool.and_eq_true, decide_eq_true_iff, okA_iff]
theorem oo_tup {ds : List D} : oo (.tuple ds) = true ↔ ds.length ≤ 400 ∧ ∀ d ∈ ds, oo d = true := by
  show (decide (ds.length ≤ 400) && ooA ds) = true ↔ _
  rw [Bool.and_eq_true, decide_eq_true_iff, ooA_iff]
mutual
theorem oo_ok : ∀ d : D, oo d = true → okE d = true
  | .none, _ => rfl
  | .bool _, _ => rfl
  | .int _, _ => rfl
  | .str _, h => h
  | .list _, h => by cases h
  | .tuple ds, h => by
    obtain ⟨h1, h2⟩ := Bool.and_eq_true_iff.mp h
    show (decide (ds.length ≤ 1000) && okA ds) = true
    rw [oo_okA ds h2, Bool.and_true, decide_eq_true_iff]
    have := of_decide_eq_true h1
    omega
  | .dict _, h => by cases h
theorem oo_okA : ∀ ds : List D, ooA ds = true → okA ds = true
  | [], _ => rfl
  | d :: ds, h => by
    obtain ⟨h1, h2⟩ := Bool.and_eq_true_iff.mp h
    show (okE d && okA ds) = true
    rw [oo_ok d h1, oo_okA ds h2]
    rfl
end
mutual
theorem oo_lf : ∀ d : D, oo d = true → lfree d = true
  | .none, _ => rfl
  | .bool _, _ => rfl
  | .int _, _ => rfl
  | .str _, _ => rfl
  | .list _, h => by cases h
  | .tuple ds, h => by
    obtain ⟨h1, h2⟩ := Bool.and_eq_true_iff.mp h
    exact oo_lfA ds h2
  | .dict _, h => by cases h
theorem oo_lfA : ∀ ds : List D, ooA ds = true → lfree.lfreeAll ds = true
  | [], _ => rfl
  | d :: ds, h => by
    obtain ⟨h1, h2⟩ := Bool.and_eq_true_iff.mp h
    show (lfree d && lfree.lfreeAll ds) = true
    rw [oo_lf d h1, oo_lfA ds h2]
    rfl
end
mutual
theorem okE_sml : ∀ d : D, okE d = true → sml d = true
  | .none, _ => rfl
  | .bool _, _ => rfl
  | .int _, _ => rfl
  | .str s, h => by
    obtain ⟨h1, _⟩ := Bool.and_eq_true_iff.mp h
    have := of_decide_eq_true h1
    exact sml_of (by omega)
  | .list ds, h => by
    obtain ⟨h1, h2⟩ := Bool.and_eq_true_iff.mp h
    exact okA_sml ds h2
  | .tuple ds, h => by
    obtain ⟨h1, h2⟩ := Bool.and_eq_true_iff.mp h
    exact okA_sml ds h2
  | .dict _, _ => rfl
theorem okA_sml : ∀ ds : List D, okA ds = true → smlAll ds = true
  | [], _ => rfl
  | d :: ds, h => by
    obtain ⟨h1, h2⟩ := Bool.and_eq_true_iff.mp h
    show (sml d && smlAll ds) = true
    rw [okE_sml d h1, okA_sml ds h2]
    rfl
end
theorem okE_ly {d : D} (h : okE d = true) : LayD d := by
  intro ds e x hx
  subst e
  have hx := (okE_tup.mp h).2 x hx
  cases x with
  | none => exact .inr Lay.none
  | bool b => exact .inr (Lay.bool b)
  | int i => exact .inr (Lay.int i)
  | str s => exact .inr (Lay.str (Bool.and_eq_true_iff.mp hx).2)
  | list _ => exact .inl (.inr (.inr rfl))
  | tuple _ => exact .inl (.inr (.inl rfl))
  | dict kvs => exact .inl (.inl (by rw [List.isEmpty_iff.mp hx]))
structure Org (d : D) : Prop where
  ok : oo d = true
  ly : Lay 10 d
theorem Org.parts {ds : List D} (h : Org (.tuple ds)) : ∀ x ∈ ds, Org x := fun x hx => ⟨(oo_tup.mp h.ok).2 x hx, lay_parts h.ly x hx⟩
theorem oo_wd {s : Str} (h : WordOk s) : oo (.str s) = true := by
  show (decide (s.length ≤ 1000) && PyData.canLay0 (.str s)) = true
  have := h.l8
  rw [CFTd.word_ok h, decide_eq_true (by omega)]
  rfl
theorem oo_ps {js : List Pr} (h : js.length ≤ 400) : oo (psD js) = true := oo_tup.mpr ⟨by rw [List.length_map]; exact h, fun d hd => by
  obtain ⟨p, _, rfl⟩ := List.mem_map.mp hd
  rfl⟩
theorem oo_trns {ts : List Trn} (h : ts.length ≤ 400) (w : ∀ t ∈ ts, WordOk t.2.2) : oo (trnsD ts) = true := oo_tup.mpr ⟨by rw [List.length_map]; exact h, fun d hd => by
  obtain ⟨t, ht, rfl⟩ := List.mem_map.mp hd
  exact oo_tup.mpr ⟨Nat.le_of_ble_eq_true rfl, fun x hx => by
    simp only [List.mem_cons, List.not_mem_nil, or_false] at hx
    rcases hx with rfl | rfl | rfl
    · rfl
    · rfl
    · exact oo_wd (w t ht)⟩⟩
theorem oo_lyr {l : Lyr} (h : CFLy.LyrW l) (n : l.turns.length ≤ 400) : oo (lyrD l) = true := oo_tup.mpr ⟨Nat.le_of_ble_eq_true rfl, fun x hx => by
    simp only [List.mem_cons, List.not_mem_nil, or_false] at hx
    rcases hx with rfl | rfl | rfl | rfl
    · exact oo_wd h.wd
    · rfl
    · rfl
    · exact oo_trns n (CFTd.trns_hand h.ts)⟩
theorem oo_chg {c : Chg} (h : ChgOk c) : oo (chgD c) = true := by
  have hs := h.hs
  have ho : ∀ e : Option Int, oo (optD e) = true := fun e => by cases e <;> rfl
  cases c with
  | away a b e =>
    refine oo_tup.mpr ⟨Nat.le_of_ble_eq_true rfl, fun x hx => ?_⟩
    simp only [chgL, List.mem_cons, List.not_mem_nil, or_false] at hx
    rcases hx with rfl | rfl | rfl | rfl
    · decide +kernel
    · exact oo_wd hs
    · rfl
    · exact ho e
  | on a b e =>
    refine oo_tup.mpr ⟨Nat.le_of_ble_eq_true rfl, fun x hx => ?_⟩
    simp only [chgL, List.mem_cons, List.not_mem_nil, or_false] at hx
    rcases hx with rfl | rfl | rfl | rfl
    · decide +kernel
    · exact oo_wd hs
    · rfl
    · exact ho e
  | stand a o b e =>
    refine oo_tup.mpr ⟨Nat.le_of_ble_eq_true rfl, fun x hx => ?_⟩
    simp only [chgL, List.mem_cons, List.not_mem_nil, or_false] at hx
    rcases hx with rfl | rfl | rfl | rfl | rfl
    · decide +kernel
    · exact oo_wd hs.1
    · exact oo_wd hs.2.1
    · rfl
    · exact ho e
structure LyD (l : Lyr) : Prop where
  w : CFLy.LyrW l
  n : l.turns.length ≤ 400
theorem org_bk {js : List Pr} {ls : List Lyr} {cs : List Chg} (hj : js.length ≤ 400) (hl : ∀ l ∈ ls, LyD l) (nl : ls.length ≤ 400) (hc : ∀ c ∈ cs, ChgOk c) (nc : cs.length ≤ 400) : Org (.tuple [psD js, lyrsD ls, chgsD cs]) := by
  constructor
  · refine oo_tup.mpr ⟨Nat.le_of_ble_eq_true rfl, fun x hx => ?_⟩
    simp only [List.mem_cons, List.not_mem_nil, or_false] at hx
    rcases hx with rfl | rfl | rfl
    · exact oo_ps hj
    · exact oo_tup.mpr ⟨by rw [List.length_map]; exact nl, fun d hd => by
        obtain ⟨l, h, rfl⟩ := List.mem_map.mp hd
        exact oo_lyr (hl l h).w (hl l h).n⟩
    · exact oo_tup.mpr ⟨by rw [List.length_map]; exact nc, fun d hd => by
        obtain ⟨c, h, rfl⟩ := List.mem_map.mp hd
        exact oo_chg (hc c h)⟩
  · refine (Lay.tuple (k := 4) fun d hd => ?_).up (by decide)
    simp only [List.mem_cons, List.not_mem_nil, or_false] at hd
    rcases hd with rfl | rfl | rfl
    · exact CFLa.lay_ps.up (by decide)
    · exact Lay.tuple (k := 3) fun d hd => by
        obtain ⟨l, h, rfl⟩ := List.mem_map.mp hd
        exact CFLa.lay_lyr (hl l h).w.wd (CFTd.trns_hand (hl l h).w.ts)
    · exact (CFLa.lay_cs hc).up (by decide)
theorem lf_js {js : List Pr} : lfree (psD js) = true := lfree_tup fun d hd => by
  obtain ⟨p, _, rfl⟩ := List.mem_map.mp hd
  rfl
theorem lfa_iff : ∀ {ds : List D}, lfree.lfreeAll ds = true ↔ ∀ d ∈ ds, lfree d = true
  | [] => ⟨fun _ _ h => (by cases h), fun _ => rfl⟩
  | d :: ds => by
    show (lfree d && lfree.lfreeAll ds) = true ↔ _
    rw [Bool.and_eq_true, lfa_iff]
    constructor
    · rintro ⟨a, b⟩ x hx
      rcases List.mem_cons.mp hx with z | z
      · rw [z]; exact a
      · exact b x z
    · exact fun h => ⟨h d (.head _), fun x hx => h x (.tail _ hx)⟩
theorem lfa_cut {ds : List D} {lo hi : Option Int} (h : lfree.lfreeAll ds = true) : lfree.lfreeAll (DL.cutD ds lo hi) = true := lfa_iff.mpr fun d hd => lfa_iff.mp h d (List.mem_of_mem_drop (List.mem_of_mem_take hd))
theorem cut_mem {ds : List D} {lo hi : Option Int} {d : D} (h : d ∈ DL.cutD ds lo hi) : d ∈ ds := List.mem_of_mem_drop (List.mem_of_mem_take h)
theorem cut_lenD {ds : List D} {lo hi : Option Int} : (DL.cutD ds lo hi).length ≤ ds.length := by
  unfold DL.cutD
  rw [List.length_take, List.length_drop]
  omega
theorem at_wrap {ds : List D} {i : Int} (h0 : -(ds.length : Int) ≤ i) (h1 : i < ds.length) : ∃ y, atI ds i = some y ∧ y ∈ ds := by
  have key : ∀ j : Nat, j < ds.length → ∃ y, ds[j]? = some y ∧ y ∈ ds := fun j hj => ⟨ds[j], List.getElem?_eq_getElem hj, List.getElem_mem hj⟩
  unfold atI ixN
  by_cases z : 0 ≤ i
  · rw [if_pos z, if_pos h1]
    exact key _ (by omega)
  · rw [if_neg z, if_pos h0]
    exact key _ (by omega)
/-! ### whether anything is a book -/
def wdT : D → Str
  | .tuple (.str w :: _) => w
  | _ => ""
def isBk : D → Bool
  | .tuple [js, .tuple ls, .tuple cs] => areJu js && (decide (ls.length ≤ 4) && (decide (cs.length ≤ 24) && (ls.all isLy && (cs.all isCh && decide ((ls.map wdT).Nodup)))))
  | _ => false
def isWhR (lo hi : Int) : D → Bool
  | .int i => decide (lo ≤ i) && decide (i ≤ hi)
  | _ => false
def isRow (d : D) (n : Int) : Bool := match d with
  | .tuple ds => decide ((ds.length : Int) = n)
  | _ => false
theorem bk_no {d : D} (h : isT "tuple" d = false) : isBk d = false := by
  cases d <;> first | rfl | (simp [isT] at h)
theorem bk_len {ds : List D} (h : ds.length ≠ 3) : isBk (.tuple ds) = false := by
  match ds, h with
  | [], _ => rfl
  | [_], _ => rfl
  | [a, b], _ => cases b <;> rfl
  | a :: b :: c :: _ :: _, _ => cases b <;> cases c <;> rfl
theorem bk_at {js : D} {ls cs : List D} : isBk (.tuple [js, .tuple ls, .tuple cs]) = (areJu js && (decide (ls.length ≤ 4) && (decide (cs.length ≤ 24) && (ls.all isLy && (cs.all isCh && decide ((ls.map wdT).Nodup)))))) := rfl
theorem bk_1 {js l c : D} (h : isT "tuple" l = false) : isBk (.tuple [js, l, c]) = false := by
  cases l <;> first | rfl | (simp [isT] at h)
theorem bk_2 {js l c : D} (h : isT "tuple" c = false) : isBk (.tuple [js, l, c]) = false := by
  cases c <;> first | (cases l <;> rfl) | (simp [isT] at h)
theorem bk_j {js l c : D} (h : areJu js = false) : isBk (.tuple [js, l, c]) = false := by
  cases l <;> cases c <;> first | rfl | (rw [bk_at, h]; rfl)
theorem ly_wd {d : D} (h : isLy d = true) : ∃ r, d = .tuple (.str (wdT d) :: r) := by
  unfold isLy at h
  split at h
  · rename_i w s e ts
    rw [Bool.and_eq_true, Bool.and_eq_true, Bool.and_eq_true] at h
    have hw := h.1.1.1
    cases w <;> first | exact ⟨_, rfl⟩ | cases hw
  · cases h
theorem ris_two {x y : Int} {r : List Int} : risL (x :: y :: r) = (decide (x < y) && risL (y :: r)) := by
  unfold risL
  rw [show (x :: y :: r).length - 1 = ((y :: r).length - 1) + 1 by simp, List.range_succ_eq_map, List.all_cons, List.all_map]
  rfl
def juF : Int → List D → Bool
  | _, [] => true
  | a, t :: ts => isJu t && (decide (a < fsT t) && juF (fsT t) ts)
theorem juF_eq : ∀ {a : Int} {ts : List D}, juF a ts = (ts.all isJu && risL (a :: ts.map fsT))
  | _, [] => rfl
  | a, t :: ts => by
    show (isJu t && (decide (a < fsT t) && juF (fsT t) ts)) = _
    rw [juF_eq, List.all_cons, List.map_cons, ris_two]
    cases isJu t <;> cases decide (a < fsT t) <;> simp
theorem ju_fs {t : D} (h : isJu t = true) : 0 < fsT t := by
  obtain ⟨a, b, rfl, a1, _⟩ := isJu_get h
  show 0 < a
  omega
theorem juF_at {ts : List D} : (ts.all isJu && risL (ts.map fsT)) = juF 0 ts := by
  rw [juF_eq]
  cases ts with
  | nil => rfl
  | cons t ts =>
    rw [List.map_cons, ris_two]
    cases e : isJu t with
    | false => rw [List.all_cons, e]; rfl
    | true => rw [decide_eq_true (ju_fs e), Bool.true_and]
theorem sub_len : ∀ {ms ts : List Str}, ms.Nodup → (∀ k ∈ ms, k ∈ ts) → ms.length ≤ ts.length
  | [], _, _, _ => Nat.zero_le _
  | m :: ms, ts, nd, h => by
    obtain ⟨n1, n2⟩ := List.nodup_cons.mp nd
    have hm := h m (.head _)
    have ih := sub_len (ts := ts.erase m) n2 fun k hk => (List.mem_erase_of_ne (fun z : k = m => n1 (z ▸ hk))).mpr (h k (.tail _ hk))
    rw [List.length_erase_of_mem hm] at ih
    have := List.length_pos_of_mem hm
    rw [List.length_cons]
    omega
theorem dup_of : ∀ {ts : List Str}, ¬ ts.Nodup → ∃ x, x ∈ ts ∧ x ∈ ts.erase x
  | [], h => absurd List.nodup_nil h
  | t :: ts, h => by
    by_cases z : t ∈ ts
    · exact ⟨t, .head _, by rw [List.erase_cons_head]; exact z⟩
    · obtain ⟨x, h1, h2⟩ := dup_of (ts := ts) fun n => h (List.nodup_cons.mpr ⟨z, n⟩)
      have ne : ¬ t = x := fun e => z (e ▸ h1)
      exact ⟨x, .tail _ h1, by rw [List.erase_cons_tail (by simpa using ne)]; exact .tail _ h2⟩
theorem len_nd {ms ts : List Str} (nd : ms.Nodup) (h : ∀ k, k ∈ ms ↔ k ∈ ts) : decide (ms.length = ts.length) = decide ts.Nodup := by
  refine decide_eq_decide.mpr ⟨fun e => ?_, fun n => ((List.perm_ext_iff_of_nodup nd n).mpr h).length_eq⟩
  refine Classical.byContradiction fun n => ?_
  obtain ⟨x, h1, h2⟩ := dup_of n
  have l := sub_len (ts := ts.erase x) nd fun k hk => by
    by_cases z : k = x
    · rw [z]; exact h2
    · exact (List.mem_erase_of_ne z).mpr ((h k).mp hk)
  rw [List.length_erase_of_mem h1] at l
  have := List.length_pos_of_mem h1
  omega
/-! ### promises -/
def S_is_book : SpD := fun as Q _ => ∃ d : D, as = [.v d] ∧ okE d = true ∧ Q (.v (.bool (isBk d))) as
def S_law_jump_row : SpD := fun as Q _ => ∃ (h : Hd) (n : Nat) (m : Int), as = [hc h, .v (.int m)] ∧ h.ok n ∧ n ≤ 700000 ∧ 0 ≤ m ∧ m ≤ 20 ∧ ∀ (h' : Hd) (js : List Pr), h'.ok (n + 100) → js.length ≤ 20 → Q (.v (psD js)) [hc h', .v (.int m)]
def S_law_good : SpD := fun as Q _ => ∃ (h : Hd) (n : Nat), as = [hc h] ∧ h.ok n ∧ n ≤ 400000 ∧ ∀ (h' : Hd) (ds : List D), h'.ok (n + 20000) → Org (.tuple ds) → Q (.v (.tuple ds)) [hc h']
def S_law_odd : SpD := fun as Q _ => ∃ (h : Hd) (n : Nat) (d : D), as = [hc h, .v d] ∧ h.ok n ∧ n ≤ 700000 ∧ Org d ∧ (∀ (h' : Hd) (e : D), h'.ok (n + 2) → okE e = true → Q (.v e) [hc h', .v d]) ∧
  ∀ (h' : Hd) (es : List D), h'.ok (n + 2) → okE (.list es) = true → Q (.own 0 (.lst es)) [hc h', .v d]
def S_law_spoilt : Nat → SpD
  | 0 => fun _ _ _ => False
  | k + 1 => fun as Q _ => ∃ (h : Hd) (n : Nat) (d : D), as = [hc h, .v d, .v (.int (k : Nat))] ∧ h.ok n ∧ n + 20 * k ≤ 600000 ∧ k ≤ 100 ∧ Org d ∧ (∀ (h' : Hd) (e : D), h'.ok (n + 20 * (k + 1)) → okE e = true → Q (.v e) [hc h', .v d, .v (.int (k : Nat))]) ∧
    ∀ (h' : Hd) (es : List D), h'.ok (n + 20 * (k + 1)) → okE (.list es) = true → Q (.own 0 (.lst es)) [hc h', .v d, .v (.int (k : Nat))]
def S_law_is_whole : SpD := fun as Q _ => ∃ (d : D) (lo hi : Int), as = [.v d, .v (.int lo), .v (.int hi)] ∧ Q (.v (.bool (isWhR lo hi d))) as
def S_law_is_row : SpD := fun as Q _ => ∃ (d : D) (n : Int), as = [.v d, .v (.int n)] ∧ Q (.v (.bool (isRow d n))) as
def S_law_is_word : SpD := fun as Q _ => ∃ d : D, as = [.v d] ∧ sml d = true ∧ Q (.v (.bool (isWd d))) as
def S_law_are_jumps : SpD := fun as Q _ => ∃ d : D, as = [.v d] ∧ okE d = true ∧ Q (.v (.bool (areJu d))) as
def S_law_is_layer : SpD := fun as Q _ => ∃ d : D, as = [.v d] ∧ okE d = true ∧ Q (.v (.bool (isLy d))) as
def S_law_is_change : SpD := fun as Q _ => ∃ d : D, as = [.v d] ∧ okE d = true ∧ Q (.v (.bool (isCh d))) as
def S_law_is_book : SpD := fun as Q _ => ∃ d : D, as = [.v d] ∧ okE d = true ∧ Q (.v (.bool (isBk d))) as
def S_law_same : SpD := fun as Q _ => ∃ a b : Bool, as = [.v (.bool a), .v (.bool b)] ∧ Q (.v (.bool (a == b))) as
def S_law : SpD := fun as Q _ => ∃ ns : List Int, as = [.v (.list (ns.map PyData.int))] ∧ ns.length ≤ 63 ∧ ∀ rs, Q (.v (.bool true)) rs
theorem law_in : ∀ ns : List Int, ns.length ≤ 63 → S_law [.v (.list (ns.map PyData.int))] (fun c _ => c = .v (.bool true)) (fun _ _ => False) := fun ns h => ⟨ns, rfl, h, fun _ => rfl⟩
theorem len_is_book : ∀ as QD ED, S_is_book as QD ED → as.length = 1 := by
  rintro as QD ED ⟨_, rfl, _⟩
  rfl
theorem len_law_jump_row : ∀ as QD ED, S_law_jump_row as QD ED → as.length = 2 := by
  rintro as QD ED ⟨_, _, _, rfl, _⟩
  rfl
theorem len_law_good : ∀ as QD ED, S_law_good as QD ED → as.length = 1 := by
  rintro as QD ED ⟨_, _, rfl, _⟩
  rfl
theorem len_law_odd : ∀ as QD ED, S_law_odd as QD ED → as.length = 2 := by
  rintro as QD ED ⟨_, _, _, rfl, _⟩
  rfl
theorem len_law_spoilt : ∀ d as QD ED, S_law_spoilt d as QD ED → as.length = 3 := by
  intro d as QD ED h
  cases d with
  | zero => exact h.elim
  | succ d =>
    obtain ⟨_, _, _, rfl, _⟩ := h
    rfl
theorem len_law_is_whole : ∀ as QD ED, S_law_is_whole as QD ED → as.length = 3 := by
  rintro as QD ED ⟨_, _, _, rfl, _⟩
  rfl
theorem len_law_is_row : ∀ as QD ED, S_law_is_row as QD ED → as.length = 2 := by
  rintro as QD ED ⟨_, _, rfl, _⟩
  rfl
theorem len_law_is_word : ∀ as QD ED, S_law_is_word as QD ED → as.length = 1 := by
  rintro as QD ED ⟨_, rfl, _⟩
  rfl
theorem len_law_are_jumps : ∀ as QD ED, S_law_are_jumps as QD ED → as.length = 1 := by
  rintro as QD ED ⟨_, rfl, _⟩
  rfl
theorem len_law_is_layer : ∀ as QD ED, S_law_is_layer as QD ED → as.length = 1 := by
  rintro as QD ED ⟨_, rfl, _⟩
  rfl
theorem len_law_is_change : ∀ as QD ED, S_law_is_change as QD ED → as.length = 1 := by
  rintro as QD ED ⟨_, rfl, _⟩
  rfl
theorem len_law_is_book : ∀ as QD ED, S_law_is_book as QD ED → as.length = 1 := by
  rintro as QD ED ⟨_, rfl, _⟩
  rfl
theorem len_law_same : ∀ as QD ED, S_law_same as QD ED → as.length = 2 := by
  rintro as QD ED ⟨_, _, rfl, _⟩
  rfl
theorem len_law : ∀ as QD ED, S_law as QD ED → as.length = 1 := by
  rintro as QD ED ⟨_, rfl, _⟩
  rfl
end K19

set_option Elab.async false
set_option linter.all false
set_option maxRecDepth 100000
set_option maxHeartbeats 4000000

/-! generated: the readings of the defs of k19 -/
namespace K19
open PySem PySem.Spec PyProof.Rows L2 DL CFIs CFIj CFIc CFH CFCh CFWd CFJn CFLy CFCg
def L_is_book : Nat → Bool := fun j => ([] : List Nat).contains j
def w_is_book : WS := wSeq (wIf (wOr (wNot (wTst (wU (oIsi "tuple") (wVar 0)))) (wOr (wTst (wB oNe (wL oLen (wCons (wVar 0) wNil)) (wC (.int 3)))) (wNot (wTst (wCall CFIj.S_are_jumps (wCons (wB oIx (wVar 0) (wC (.int 0))) wNil))))))
    (wRet (wC (.bool false)))
    wNext)
    (wSeq (wPar 1 2 (wCons (wB oIx (wVar 0) (wC (.int 1))) (wCons (wB oIx (wVar 0) (wC (.int 2))) wNil)))
    (wSeq (wIf (wOr (wNot (wTst (wU (oIsi "tuple") (wVar 1)))) (wTst (wB oGt (wL oLen (wCons (wVar 1) wNil)) (wC (.int 4)))))
    (wRet (wC (.bool false)))
    wNext)
    (wSeq (wIf (wOr (wNot (wTst (wU (oIsi "tuple") (wVar 2)))) (wTst (wB oGt (wL oLen (wCons (wVar 2) wNil)) (wC (.int 24)))))
    (wRet (wC (.bool false)))
    wNext)
    (wSeq (wIf (wOr (wNot (wTst (wL oAll (wCons (wLcB [4] (wISeq (wVar 1)) (wgName 4) wYes (wCall CFIs.S_is_layer (wCons (wVar 4) wNil))) wNil)))) (wNot (wTst (wL oAll (wCons (wLcB [5] (wISeq (wVar 2)) (wgName 5) wYes (wCall CFIc.S_is_change (wCons (wVar 5) wNil))) wNil)))))
    (wRet (wC (.bool false)))
    wNext)
    (wRet (wB oEq (wU oLenSet (wLcB [4] (wISeq (wVar 1)) (wgName 4) wYes (wB oIx (wVar 4) (wC (.int 0))))) (wL oLen (wCons (wVar 1) wNil))))))))
def n_is_book : Nat := 6
def L_law_jump_row : Nat → Bool := fun j => [0, 2].contains j
def w_law_jump_row : WS := wSeq (wSet 2 (wL oLst wNil))
    (wSeq (wSetF 3 (wC (.int 0)))
    (wSeq (wFor (wIR1 (wCons (wVar 1) wNil)) (wgName 4)
    (wSeq (wSetF 3 (wB oAdd (wB oAdd (wVar 3) (wC (.int 1))) (wCall CFH.S_law_take (wCons (wPk 0) (wCons (wC (.int 500)) wNil)))))
    (wDrop (wApp 2 (wL oTup (wCons (wVar 3) (wCons (wCall CFH.S_law_pick (wCons (wPk 0) (wCons (wL oLst (wCons (wC (.int 60)) (wCons (wU oNeg (wC (.int 60))) (wCons (wC (.int 1440)) (wCons (wU oNeg (wC (.int 1440))) (wCons (wC (.int 1)) (wCons (wU oNeg (wC (.int 1))) wNil))))))) wNil))) wNil)))))))
    (wRet (wL oTuple (wCons (wLn 2) wNil)))))
def n_law_jump_row : Nat := 5
def L_law_good : Nat → Bool := fun j => [0].contains j
def w_law_good : WS := wSeq (wSetF 1 (wCall CFWd.S_law_words (wCons (wPk 0) (wCons (wC (.int 3)) wNil))))
    (wSeq (wSetF 2 (wCall CFWd.S_law_words (wCons (wPk 0) (wCons (wC (.int 5)) wNil))))
    (wSeq (wSetF 3 (wCall CFH.S_law_take (wCons (wPk 0) (wCons (wC (.int 4)) wNil))))
    (wSeq (wSetF 4 (wCall CFH.S_law_take (wCons (wPk 0) (wCons (wC (.int 6)) wNil))))
    (wSeq (wSetF 5 (wCall CFJn.S_law_jumps (wCons (wPk 0) (wCons (wC (.int 3)) wNil))))
    (wSeq (wSetF 6 (wLcB [10] (wIR1 (wCons (wCall CFH.S_law_take (wCons (wPk 0) (wCons (wC (.int 4)) wNil))) wNil)) (wgName 10) wYes (wCall CFLy.S_law_layer (wCons (wPk 0) (wCons (wB oIx (wVar 2) (wVar 10)) (wCons (wVar 1) (wCons (wB oAdd (wC (.int 1)) (wCall CFH.S_law_take (wCons (wPk 0) (wCons (wC (.int 4)) wNil)))) (wCons (wC (.int 2)) wNil))))))))
    (wSeq (wSetF 7 (wLcB [10] (wIR1 (wCons (wCall CFH.S_law_take (wCons (wPk 0) (wCons (wC (.int 4)) wNil))) wNil)) (wgName 10) wYes (wCall CFCg.S_law_change (wCons (wPk 0) (wCons (wVar 1) (wCons (wC (.int 50)) wNil))))))
    (wSeq (wIf (wTst (wB oEq (wVar 3) (wC (.int 0))))
    (wSeq (wSetF 5 (wCall S_law_jump_row (wCons (wPk 0) (wCons (wB oAdd (wC (.int 8)) (wL oInt1 (wCons (wB oEq (wVar 4) (wC (.int 0))) wNil))) wNil))))
    (wSeq (wSetF 6 (wLcB [10] (wIR1 (wCons (wB oAdd (wC (.int 4)) (wL oInt1 (wCons (wB oEq (wVar 4) (wC (.int 1))) wNil))) wNil)) (wgName 10) wYes (wCall CFLy.S_law_layer (wCons (wPk 0) (wCons (wB oIx (wVar 2) (wVar 10)) (wCons (wVar 1) (wCons (wC (.int 60)) (wCons (wC (.int 13)) wNil))))))))
    (wSeq (wSetF 8 (wCall CFCg.S_law_change (wCons (wPk 0) (wCons (wVar 1) (wCons (wC (.int 50)) wNil)))))
    (wSetF 7 (wRep (wL oLst (wCons (wVar 8) wNil)) (wB oAdd (wC (.int 24)) (wL oInt1 (wCons (wB oEq (wVar 4) (wC (.int 2))) wNil))))))))
    wNext)
    (wRet (wL oTup (wCons (wVar 5) (wCons (wL oTuple (wCons (wVar 6) wNil)) (wCons (wL oTuple (wCons (wVar 7) wNil)) wNil))))))))))))
def n_law_good : Nat := 11
def L_law_odd : Nat → Bool := fun j => [0].contains j
def w_law_odd : WS := wSeq (wSetF 2 (wCall CFH.S_law_take (wCons (wPk 0) (wCons (wC (.int 6)) wNil))))
    (wSeq (wIf (wTst (wB oEq (wVar 2) (wC (.int 0))))
    (wRet (wCall CFH.S_law_pick (wCons (wPk 0) (wCons (wL oLst (wCons (wC (.bool true)) (wCons (wC (.bool false)) (wCons (wC .none) (wCons (wU oNeg (wC (.int 1))) (wCons (wC (.int 0)) (wCons (wC (.int 1)) (wCons (wB oPow (wC (.int 10)) (wC (.int 60))) (wCons (wC (.int 61)) (wCons (wC (.int 86400)) (wCons (wC (.int 1441)) (wCons (wU oNeg (wC (.int 1441))) (wCons (wC (.int 1440)) wNil))))))))))))) wNil))))
    wNext)
    (wSeq (wIf (wTst (wB oEq (wVar 2) (wC (.int 1))))
    (wRet (wCall CFH.S_law_pick (wCons (wPk 0) (wCons (wL oLst (wCons (wC (.str "")) (wCons (wC (.str "a")) (wCons (wC (.str "abcdefghi")) (wCons (wC (.str "A")) (wCons (wC (.str "on")) (wCons (wC (.str "away")) wNil))))))) wNil))))
    wNext)
    (wSeq (wIf (wTst (wB oEq (wVar 2) (wC (.int 2))))
    (wRet (wCall CFH.S_law_pick (wCons (wPk 0) (wCons (wL oLst (wCons (wL oTup wNil) (wCons (wL oTup (wCons (wC (.str "a")) wNil)) (wCons (wL oLst wNil) (wCons (wL oTup (wCons (wC (.int 0)) (wCons (wC (.int 1)) wNil))) (wCons wDat0 (wCons (wL oTup (wCons (wC (.int 1)) (wCons (wC (.int 1)) wNil))) (wCons (wL oTup (wCons (wC (.int 0)) (wCons (wC (.int 1)) (wCons (wC (.str "a")) wNil)))) wNil)))))))) wNil))))
    wNext)
    (wSeq (wIf (wTst (wU (oIsi "int") (wVar 1)))
    (wRet (wB oPlusB (wVar 1) (wCall CFH.S_law_pick (wCons (wPk 0) (wCons (wL oLst (wCons (wC (.int 1)) (wCons (wU oNeg (wC (.int 1))) (wCons (wC (.int 1440)) (wCons (wU oNeg (wC (.int 1440))) (wCons (wB oPow (wC (.int 10)) (wC (.int 60))) wNil)))))) wNil)))))
    wNext)
    (wSeq (wIf (wTst (wU (oIsi "tuple") (wVar 1)))
    (wRet (wL oList (wCons (wVar 1) wNil)))
    wNext)
    (wRet (wVar 1)))))))
def n_law_odd : Nat := 3
def L_law_spoilt : Nat → Bool := fun j => [0, 3].contains j
def w_law_spoilt (Sc : SpD) : WS := wSeq (wIf (wOr (wNot (wTst (wU (oIsi "tuple") (wVar 1)))) (wOr (wTst (wB oEq (wVar 2) (wC (.int 0)))) (wTst (wB oEq (wCall CFH.S_law_take (wCons (wPk 0) (wCons (wC (.int 5)) wNil))) (wC (.int 0))))))
    (wRet (wCall S_law_odd (wCons (wPk 0) (wCons (wVar 1) wNil))))
    wNext)
    (wSeq (wSet 3 (wL oList (wCons (wVar 1) wNil)))
    (wSeq (wSetF 4 (wCall CFH.S_law_take (wCons (wPk 0) (wCons (wC (.int 8)) wNil))))
    (wSeq (wSetF 5 (wCall CFH.S_law_take (wCons (wPk 0) (wCons (wB oAdd (wL oLen (wCons (wLn 3) wNil)) (wC (.int 1))) wNil))))
    (wSeq (wIf (wTst (wB oEq (wVar 4) (wC (.int 0))))
    (wSet 3 (wB oCatL (wB oCatL (wSl (wLn 3) wNoPart (wPart (wVar 5))) (wL oLst (wCons (wCall S_law_odd (wCons (wPk 0) (wCons (wC .none) wNil))) wNil))) (wSl (wLn 3) (wPart (wVar 5)) wNoPart)))
    (wIf (wTst (wB oEq (wLn 3) (wL oLst wNil)))
    (wSet 3 (wL oLst (wCons (wCall S_law_odd (wCons (wPk 0) (wCons (wC .none) wNil))) wNil)))
    (wIf (wTst (wB oEq (wVar 4) (wC (.int 1))))
    (wSet 3 (wB oCatL (wSl (wLn 3) wNoPart (wPart (wVar 5))) (wSl (wLn 3) (wPart (wB oAdd (wVar 5) (wC (.int 1)))) wNoPart)))
    (wIf (wTst (wB oEq (wVar 4) (wC (.int 2))))
    (wSet 3 (wB oCatL (wB oCatL (wSl (wLn 3) wNoPart (wPart (wVar 5))) (wL oLst (wCons (wOIx 3 (wB oSub (wVar 5) (wC (.int 1)))) wNil))) (wSl (wLn 3) (wPart (wVar 5)) wNoPart)))
    (wSeq (wSetF 5 (wCall CFH.S_law_take (wCons (wPk 0) (wCons (wL oLen (wCons (wLn 3) wNil)) wNil))))
    (wSetIx 3 (wCall Sc (wCons (wPk 0) (wCons (wOIx 3 (wVar 5)) (wCons (wB oSub (wVar 2) (wC (.int 1))) wNil)))) (wVar 5)))))))
    (wRet (wL oTuple (wCons (wFrz 3) wNil)))))))
def n_law_spoilt : Nat := 6
def L_law_is_whole : Nat → Bool := fun j => ([] : List Nat).contains j
def w_law_is_whole : WS := wRet (wAndV (wU (oIsi "int") (wVar 0)) (wAndV (wNotV (wU (oIsi "bool") (wVar 0))) (wAndV (wB oLe (wVar 1) (wVar 0)) (wB oLe (wVar 0) (wVar 2)))))
def n_law_is_whole : Nat := 3
def L_law_is_row : Nat → Bool := fun j => ([] : List Nat).contains j
def w_law_is_row : WS := wRet (wAndV (wU (oIsi "tuple") (wVar 0)) (wB oEq (wL oLen (wCons (wVar 0) wNil)) (wVar 1)))
def n_law_is_row : Nat := 2
def L_law_is_word : Nat → Bool := fun j => ([] : List Nat).contains j
def w_law_is_word : WS := wSeq (wIf (wOr (wNot (wTst (wU (oIsi "str") (wVar 0)))) (wOr (wTst (wB oLt (wL oLen (wCons (wVar 0) wNil)) (wC (.int 1)))) (wTst (wB oGt (wL oLen (wCons (wVar 0) wNil)) (wC (.int 8))))))
    (wRet (wC (.bool false)))
    wNext)
    (wRet (wL oAll (wCons (wLcB [2] (wISeq (wVar 0)) (wgName 2) wYes (wB oIn (wVar 2) (wC (.str "abcdefghijklmnopqrstuvwxyz0123456789")))) wNil)))
def n_law_is_word : Nat := 3
def L_law_are_jumps : Nat → Bool := fun j => ([] : List Nat).contains j
def w_law_are_jumps : WS := wSeq (wIf (wOr (wNot (wTst (wU (oIsi "tuple") (wVar 0)))) (wTst (wB oGt (wL oLen (wCons (wVar 0) wNil)) (wC (.int 8)))))
    (wRet (wC (.bool false)))
    wNext)
    (wSeq (wSetF 1 (wC (.int 0)))
    (wSeq (wFor (wISeq (wVar 0)) (wgName 2)
    (wSeq (wIf (wOr (wNot (wTst (wCall S_law_is_row (wCons (wVar 2) (wCons (wC (.int 2)) wNil))))) (wNot (wTst (wCall S_law_is_whole (wCons (wB oIx (wVar 2) (wC (.int 0))) (wCons (wB oAdd (wVar 1) (wC (.int 1))) (wCons (wB oSub (wB oPow (wC (.int 10)) (wC (.int 60))) (wC (.int 1))) wNil)))))))
    (wRet (wC (.bool false)))
    wNext)
    (wSeq (wIf (wOr (wNot (wTst (wCall S_law_is_whole (wCons (wB oIx (wVar 2) (wC (.int 1))) (wCons (wU oNeg (wC (.int 1440))) (wCons (wC (.int 1440)) wNil)))))) (wTst (wB oEq (wB oIx (wVar 2) (wC (.int 1))) (wC (.int 0)))))
    (wRet (wC (.bool false)))
    wNext)
    (wSetF 1 (wB oIx (wVar 2) (wC (.int 0)))))))
    (wRet (wC (.bool true)))))
def n_law_are_jumps : Nat := 3
def L_law_is_layer : Nat → Bool := fun j => ([] : List Nat).contains j
def w_law_is_layer : WS := wSeq (wIf (wOr (wNot (wTst (wCall S_law_is_row (wCons (wVar 0) (wCons (wC (.int 4)) wNil))))) (wOr (wNot (wTst (wCall S_law_is_word (wCons (wB oIx (wVar 0) (wC (.int 0))) wNil)))) (wNot (wTst (wCall S_law_is_whole (wCons (wB oIx (wVar 0) (wC (.int 2))) (wCons (wC (.int 1)) (wCons (wC (.int 60)) wNil))))))))
    (wRet (wC (.bool false)))
    wNext)
    (wSeq (wIf (wOr (wNot (wTst (wCall S_law_is_whole (wCons (wB oIx (wVar 0) (wC (.int 1))) (wCons (wC (.int 0)) (wCons (wB oSub (wB oMul (wC (.int 1440)) (wB oIx (wVar 0) (wC (.int 2)))) (wC (.int 1))) wNil)))))) (wOr (wNot (wTst (wU (oIsi "tuple") (wB oIx (wVar 0) (wC (.int 3)))))) (wTst (wB oGt (wL oLen (wCons (wB oIx (wVar 0) (wC (.int 3))) wNil)) (wC (.int 12))))))
    (wRet (wC (.bool false)))
    wNext)
    (wSeq (wSetF 1 (wC (.int 0)))
    (wSeq (wFor (wISeq (wB oIx (wVar 0) (wC (.int 3)))) (wgName 2)
    (wSeq (wIf (wOr (wNot (wTst (wCall S_law_is_row (wCons (wVar 2) (wCons (wC (.int 3)) wNil))))) (wNot (wTst (wCall S_law_is_whole (wCons (wB oIx (wVar 2) (wC (.int 0))) (wCons (wVar 1) (wCons (wB oMul (wC (.int 1440)) (wB oIx (wVar 0) (wC (.int 2)))) wNil)))))))
    (wRet (wC (.bool false)))
    wNext)
    (wSeq (wIf (wOr (wNot (wTst (wCall S_law_is_whole (wCons (wB oIx (wVar 2) (wC (.int 1))) (wCons (wB oAdd (wB oIx (wVar 2) (wC (.int 0))) (wC (.int 1))) (wCons (wB oMul (wC (.int 1440)) (wB oIx (wVar 0) (wC (.int 2)))) wNil)))))) (wNot (wTst (wCall S_law_is_word (wCons (wB oIx (wVar 2) (wC (.int 2))) wNil)))))
    (wRet (wC (.bool false)))
    wNext)
    (wSetF 1 (wB oIx (wVar 2) (wC (.int 1)))))))
    (wRet (wC (.bool true))))))
def n_law_is_layer : Nat := 3
def L_law_is_change : Nat → Bool := fun j => ([] : List Nat).contains j
def w_law_is_change : WS := wSeq (wIf (wOr (wNot (wTst (wU (oIsi "tuple") (wVar 0)))) (wOr (wTst (wB oNotIn (wL oLen (wCons (wVar 0) wNil)) (wL oTup (wCons (wC (.int 4)) (wCons (wC (.int 5)) wNil))))) (wNot (wTst (wU (oIsi "str") (wB oIx (wVar 0) (wC (.int 0))))))))
    (wRet (wC (.bool false)))
    wNext)
    (wSeq (wIf (wOr (wTst (wB oNotIn (wB oIx (wVar 0) (wC (.int 0))) (wL oTup (wCons (wC (.str "away")) (wCons (wC (.str "for")) (wCons (wC (.str "on")) wNil)))))) (wTst (wB oNe (wL oLen (wCons (wVar 0) wNil)) (wB oAdd (wC (.int 4)) (wL oInt1 (wCons (wB oEq (wB oIx (wVar 0) (wC (.int 0))) (wC (.str "for"))) wNil))))))
    (wRet (wC (.bool false)))
    wNext)
    (wSeq (wIf (wOr (wNot (wTst (wL oAll (wCons (wLcB [2] (wISeq (wSl (wVar 0) (wPart (wC (.int 1))) (wPart (wU oNeg (wC (.int 2)))))) (wgName 2) wYes (wCall S_law_is_word (wCons (wVar 2) wNil))) wNil)))) (wAnd (wTst (wB oEq (wB oIx (wVar 0) (wC (.int 0))) (wC (.str "for")))) (wTst (wB oEq (wB oIx (wVar 0) (wC (.int 1))) (wB oIx (wVar 0) (wC (.int 2)))))))
    (wRet (wC (.bool false)))
    wNext)
    (wSeq (wIf (wNot (wTst (wCall S_law_is_whole (wCons (wB oIx (wVar 0) (wU oNeg (wC (.int 2)))) (wCons (wC (.int 0)) (wCons (wB oSub (wB oPow (wC (.int 10)) (wC (.int 60))) (wC (.int 1))) wNil))))))
    (wRet (wC (.bool false)))
    wNext)
    (wRet (wOrV (wU oIsN (wB oIx (wVar 0) (wU oNeg (wC (.int 1))))) (wCall S_law_is_whole (wCons (wB oIx (wVar 0) (wU oNeg (wC (.int 1)))) (wCons (wB oAdd (wB oIx (wVar 0) (wU oNeg (wC (.int 2)))) (wC (.int 1))) (wCons (wB oSub (wB oPow (wC (.int 10)) (wC (.int 60))) (wC (.int 1))) wNil)))))))))
def n_law_is_change : Nat := 3
def L_law_is_book : Nat → Bool := fun j => ([] : List Nat).contains j
def w_law_is_book : WS := wSeq (wIf (wOr (wNot (wTst (wCall S_law_is_row (wCons (wVar 0) (wCons (wC (.int 3)) wNil))))) (wNot (wTst (wCall S_law_are_jumps (wCons (wB oIx (wVar 0) (wC (.int 0))) wNil)))))
    (wRet (wC (.bool false)))
    wNext)
    (wSeq (wIf (wOr (wNot (wTst (wU (oIsi "tuple") (wB oIx (wVar 0) (wC (.int 1)))))) (wOr (wTst (wB oGt (wL oLen (wCons (wB oIx (wVar 0) (wC (.int 1))) wNil)) (wC (.int 4)))) (wNot (wTst (wL oAll (wCons (wLcB [3] (wISeq (wB oIx (wVar 0) (wC (.int 1)))) (wgName 3) wYes (wCall S_law_is_layer (wCons (wVar 3) wNil))) wNil))))))
    (wRet (wC (.bool false)))
    wNext)
    (wSeq (wSetF 1 (wLcB [3] (wISeq (wB oIx (wVar 0) (wC (.int 1)))) (wgName 3) wYes (wB oIx (wVar 3) (wC (.int 0)))))
    (wSeq (wIf (wOr (wTst (wB oNe (wU oLenSet (wVar 1)) (wL oLen (wCons (wVar 1) wNil)))) (wOr (wNot (wTst (wU (oIsi "tuple") (wB oIx (wVar 0) (wC (.int 2)))))) (wTst (wB oGt (wL oLen (wCons (wB oIx (wVar 0) (wC (.int 2))) wNil)) (wC (.int 24))))))
    (wRet (wC (.bool false)))
    wNext)
    (wRet (wL oAll (wCons (wLcB [3] (wISeq (wB oIx (wVar 0) (wC (.int 2)))) (wgName 3) wYes (wCall S_law_is_change (wCons (wVar 3) wNil))) wNil))))))
def n_law_is_book : Nat := 4
def L_law_same : Nat → Bool := fun j => ([] : List Nat).contains j
def w_law_same : WS := wRet (wAndV (wU (oIsi "bool") (wVar 0)) (wB oEq (wVar 0) (wVar 1)))
def n_law_same : Nat := 2
def L_law : Nat → Bool := fun j => [2].contains j
def w_law : WS := wSeq (wFor (wIR1 (wCons (wL oMax2 (wCons (wC (.int 2)) (wCons (wL oMin2 (wCons (wC (.int 10)) (wCons (wL oLen (wCons (wVar 0) wNil)) wNil))) wNil))) wNil)) (wgName 1)
    (wSeq (wSet 2 (wCall CFH.S_law_hand (wCons (wVar 0) (wCons (wVar 1) wNil))))
    (wSeq (wSetF 3 (wCall S_law_good (wCons (wPk 2) wNil)))
    (wForN (wIL (wL oLst (wCons (wVar 3) (wCons (wCall (S_law_spoilt 5) (wCons (wPk 2) (wCons (wVar 3) (wCons (wC (.int 4)) wNil)))) wNil)))) (wgName 4)
    (wSeq (wIf (wNot (wTst (wCall S_law_same (wCons (wCall S_is_book (wCons (wVar 4) wNil)) (wCons (wCall S_law_is_book (wCons (wVar 4) wNil)) wNil)))))
    (wRet (wC (.bool false)))
    wNext)
    (wIf (wAnd (wTst (wU (oIsi "tuple") (wVar 4))) (wTst (wB oGt (wL oLen (wCons (wVar 4) wNil)) (wC (.int 1)))))
    (wSeq (wIf (wNot (wTst (wCall S_law_same (wCons (wCall CFIj.S_are_jumps (wCons (wB oIx (wVar 4) (wC (.int 0))) wNil)) (wCons (wCall S_law_are_jumps (wCons (wB oIx (wVar 4) (wC (.int 0))) wNil)) wNil)))))
    (wRet (wC (.bool false)))
    wNext)
    (wSeq (wSetF 5 (wIte (wTst (wU (oIsi "tuple") (wB oIx (wVar 4) (wC (.int 1))))) (wSl (wL oList (wCons (wB oIx (wVar 4) (wC (.int 1))) wNil)) wNoPart (wPart (wC (.int 5)))) (wL oLst (wCons (wB oIx (wVar 4) (wC (.int 1))) wNil))))
    (wIf (wNot (wTst (wL oAll (wCons (wLcB [7] (wISeq (wVar 5)) (wgName 7) wYes (wCall S_law_same (wCons (wCall CFIs.S_is_layer (wCons (wVar 7) wNil)) (wCons (wCall S_law_is_layer (wCons (wVar 7) wNil)) wNil)))) wNil))))
    (wRet (wC (.bool false)))
    wNext)))
    wNext))))))
    (wRet (wC (.bool true)))
def n_law : Nat := 8
end K19

set_option Elab.async false
set_option linter.all false
set_option maxRecDepth 100000
set_option maxHeartbeats 4000000

/-! generated: readings shared by laws -/
namespace CFIs
open PySem PySem.Spec PyProof.Rows L2 DL CFWd
def L_is_whole : Nat → Bool := fun j => ([] : List Nat).contains j
def w_is_whole : WS := wRet (wAndV (wU (oIsi "int") (wVar 0)) (wNotV (wU (oIsi "bool") (wVar 0))))
def n_is_whole : Nat := 1
def L_is_word : Nat → Bool := fun j => ([] : List Nat).contains j
def w_is_word : WS := wSeq (wIf (wOr (wNot (wTst (wU (oIsi "str") (wVar 0)))) (wNot (wTst (wCh (oI fun i j => .bool ((fun i j => decide (i ≤ j)) i j)) (oI fun i j => .bool ((fun i j => decide (i ≤ j)) i j)) (wC (.int 1)) (wL oLen (wCons (wVar 0) wNil)) (wC (.int 8))))))
    (wRet (wC (.bool false)))
    wNext)
    (wRet (wL oAll (wCons (wLcB [2] (wISeq (wVar 0)) (wgName 2) wYes (wB oIn (wVar 2) (wC (.str "abcdefghijklmnopqrstuvwxyz0123456789")))) wNil)))
def n_is_word : Nat := 3
def L_is_turn : Nat → Bool := fun j => ([] : List Nat).contains j
def w_is_turn : WS := wSeq (wIf (wOr (wNot (wTst (wU (oIsi "tuple") (wVar 0)))) (wTst (wB oNe (wL oLen (wCons (wVar 0) wNil)) (wC (.int 3)))))
    (wRet (wC (.bool false)))
    wNext)
    (wSeq (wAsg (wVar 0) (wgTup 3 (wgCons (wgName 3) (wgCons (wgName 4) (wgCons (wgName 5) wgNil)))))
    (wSeq (wIf (wOr (wNot (wTst (wCall S_is_whole (wCons (wVar 3) wNil)))) (wOr (wNot (wTst (wCall S_is_whole (wCons (wVar 4) wNil)))) (wNot (wTst (wCall S_is_word (wCons (wVar 5) wNil))))))
    (wRet (wC (.bool false)))
    wNext)
    (wRet (wCh3 (fun i j => decide (i ≤ j)) (fun i j => decide (i < j)) (fun i j => decide (i ≤ j)) (wVar 1) (wVar 3) (wVar 4) (wVar 2)))))
def n_is_turn : Nat := 6
def L_are_turns : Nat → Bool := fun j => ([] : List Nat).contains j
def w_are_turns : WS := wSeq (wIf (wOr (wNot (wTst (wU (oIsi "tuple") (wVar 0)))) (wTst (wB oGt (wL oLen (wCons (wVar 0) wNil)) (wC (.int 12)))))
    (wRet (wC (.bool false)))
    wNext)
    (wSeq (wSetF 2 (wC (.int 0)))
    (wSeq (wFor (wISeq (wVar 0)) (wgName 3)
    (wSeq (wIf (wNot (wTst (wCall S_is_turn (wCons (wVar 3) (wCons (wVar 2) (wCons (wVar 1) wNil))))))
    (wRet (wC (.bool false)))
    wNext)
    (wSetF 2 (wB oIx (wVar 3) (wC (.int 1))))))
    (wRet (wC (.bool true)))))
def n_are_turns : Nat := 4
def L_is_layer : Nat → Bool := fun j => ([] : List Nat).contains j
def w_is_layer : WS := wSeq (wIf (wOr (wNot (wTst (wU (oIsi "tuple") (wVar 0)))) (wTst (wB oNe (wL oLen (wCons (wVar 0) wNil)) (wC (.int 4)))))
    (wRet (wC (.bool false)))
    wNext)
    (wSeq (wAsg (wVar 0) (wgTup 4 (wgCons (wgName 1) (wgCons (wgName 2) (wgCons (wgName 3) (wgCons (wgName 4) wgNil))))))
    (wSeq (wIf (wOr (wNot (wTst (wCall S_is_word (wCons (wVar 1) wNil)))) (wOr (wNot (wTst (wCall S_is_whole (wCons (wVar 2) wNil)))) (wNot (wTst (wCall S_is_whole (wCons (wVar 3) wNil))))))
    (wRet (wC (.bool false)))
    wNext)
    (wSeq (wIf (wOr (wNot (wTst (wCh (oI fun i j => .bool ((fun i j => decide (i ≤ j)) i j)) (oI fun i j => .bool ((fun i j => decide (i ≤ j)) i j)) (wC (.int 1)) (wVar 3) (wC (.int 60))))) (wNot (wTst (wCh (oI fun i j => .bool ((fun i j => decide (i ≤ j)) i j)) (oI fun i j => .bool ((fun i j => decide (i < j)) i j)) (wC (.int 0)) (wVar 2) (wB oMul (wC (.int 1440)) (wVar 3))))))
    (wRet (wC (.bool false)))
    wNext)
    (wRet (wCall S_are_turns (wCons (wVar 4) (wCons (wB oMul (wC (.int 1440)) (wVar 3)) wNil)))))))
def n_is_layer : Nat := 5
end CFIs

set_option Elab.async false
set_option linter.all false
set_option maxRecDepth 100000
set_option maxHeartbeats 4000000

/-! generated: readings shared by laws -/
namespace CFIj
open PySem PySem.Spec PyProof.Rows L2 DL CFIs
def L_is_moment : Nat → Bool := fun j => ([] : List Nat).contains j
def w_is_moment : WS := wRet (wAndV (wCall CFIs.S_is_whole (wCons (wVar 0) wNil)) (wCh (oI fun i j => .bool ((fun i j => decide (i ≤ j)) i j)) (oI fun i j => .bool ((fun i j => decide (i < j)) i j)) (wC (.int 0)) (wVar 0) (wC (.int 1000000000000000000000000000000000000000000000000000000000000))))
def n_is_moment : Nat := 1
def L_is_rising : Nat → Bool := fun j => ([] : List Nat).contains j
def w_is_rising : WS := wRet (wL oAll (wCons (wLcB [2] (wIR1 (wCons (wB oSub (wL oLen (wCons (wVar 0) wNil)) (wC (.int 1))) wNil)) (wgName 2) wYes (wB oLt (wB oIx (wVar 0) (wVar 2)) (wB oIx (wVar 0) (wB oAdd (wVar 2) (wC (.int 1)))))) wNil))
def n_is_rising : Nat := 3
def L_is_jump : Nat → Bool := fun j => ([] : List Nat).contains j
def w_is_jump : WS := wSeq (wIf (wOr (wNot (wTst (wU (oIsi "tuple") (wVar 0)))) (wTst (wB oNe (wL oLen (wCons (wVar 0) wNil)) (wC (.int 2)))))
    (wRet (wC (.bool false)))
    wNext)
    (wSeq (wAsg (wVar 0) (wgTup 2 (wgCons (wgName 1) (wgCons (wgName 2) wgNil))))
    (wSeq (wIf (wOr (wNot (wTst (wCall S_is_moment (wCons (wVar 1) wNil)))) (wTst (wB oEq (wVar 1) (wC (.int 0)))))
    (wRet (wC (.bool false)))
    wNext)
    (wRet (wAndV (wCall CFIs.S_is_whole (wCons (wVar 2) wNil)) (wAndV (wB oNe (wVar 2) (wC (.int 0))) (wB oLe (wL oAbs (wCons (wVar 2) wNil)) (wC (.int 1440))))))))
def n_is_jump : Nat := 3
def L_are_jumps : Nat → Bool := fun j => ([] : List Nat).contains j
def w_are_jumps : WS := wSeq (wIf (wOr (wNot (wTst (wU (oIsi "tuple") (wVar 0)))) (wTst (wB oGt (wL oLen (wCons (wVar 0) wNil)) (wC (.int 8)))))
    (wRet (wC (.bool false)))
    wNext)
    (wSeq (wIf (wNot (wTst (wL oAll (wCons (wLcB [2] (wISeq (wVar 0)) (wgName 2) wYes (wCall S_is_jump (wCons (wVar 2) wNil))) wNil))))
    (wRet (wC (.bool false)))
    wNext)
    (wRet (wCall S_is_rising (wCons (wLcB [2] (wISeq (wVar 0)) (wgName 2) wYes (wB oIx (wVar 2) (wC (.int 0)))) wNil))))
def n_are_jumps : Nat := 3
end CFIj

set_option Elab.async false
set_option linter.all false
set_option maxRecDepth 100000
set_option maxHeartbeats 4000000

/-! generated: readings shared by laws -/
namespace CFIc
open PySem PySem.Spec PyProof.Rows L2 DL CFIs CFIj
def L_is_span : Nat → Bool := fun j => ([] : List Nat).contains j
def w_is_span : WS := wSeq (wIf (wNot (wTst (wCall CFIj.S_is_moment (wCons (wVar 0) wNil))))
    (wRet (wC (.bool false)))
    wNext)
    (wRet (wOrV (wU oIsN (wVar 1)) (wAndV (wCall CFIj.S_is_moment (wCons (wVar 1) wNil)) (wB oLt (wVar 0) (wVar 1)))))
def n_is_span : Nat := 2
def L_is_change : Nat → Bool := fun j => ([] : List Nat).contains j
def w_is_change : WS := wSeq (wIf (wOr (wNot (wTst (wU (oIsi "tuple") (wVar 0)))) (wOr (wNot (wTst (wCh (oI fun i j => .bool ((fun i j => decide (i ≤ j)) i j)) (oI fun i j => .bool ((fun i j => decide (i ≤ j)) i j)) (wC (.int 4)) (wL oLen (wCons (wVar 0) wNil)) (wC (.int 5))))) (wNot (wTst (wU (oIsi "str") (wB oIx (wVar 0) (wC (.int 0))))))))
    (wRet (wC (.bool false)))
    wNext)
    (wSeq (wIf (wTst (wB oEq (wB oIx (wVar 0) (wC (.int 0))) (wC (.str "for"))))
    (wIf (wOr (wTst (wB oEq (wL oLen (wCons (wVar 0) wNil)) (wC (.int 4)))) (wOr (wNot (wTst (wCall CFIs.S_is_word (wCons (wB oIx (wVar 0) (wC (.int 2))) wNil)))) (wTst (wB oEqX (wB oIx (wVar 0) (wC (.int 1))) (wB oIx (wVar 0) (wC (.int 2)))))))
    (wRet (wC (.bool false)))
    wNext)
    (wIf (wOr (wTst (wB oNotIn (wB oIx (wVar 0) (wC (.int 0))) (wL oTup (wCons (wC (.str "away")) (wCons (wC (.str "on")) wNil))))) (wTst (wB oEq (wL oLen (wCons (wVar 0) wNil)) (wC (.int 5)))))
    (wRet (wC (.bool false)))
    wNext))
    (wRet (wAndV (wCall CFIs.S_is_word (wCons (wB oIx (wVar 0) (wC (.int 1))) wNil)) (wCall S_is_span (wCons (wB oIx (wVar 0) (wU oNeg (wC (.int 2)))) (wCons (wB oIx (wVar 0) (wU oNeg (wC (.int 1)))) wNil))))))
def n_is_change : Nat := 1
end CFIc

set_option Elab.async false
set_option linter.all false
set_option maxRecDepth 100000
set_option maxHeartbeats 4000000

/-! generated: readings shared by laws -/
namespace CFTd
open PySem PySem.Spec PyProof.Rows L2 DL CFWd CFBk CFTu CFCl
end CFTd

set_option Elab.async false
set_option linter.all false
set_option maxRecDepth 100000
set_option maxHeartbeats 4000000

/-! generated: readings shared by laws -/
namespace CFH
open PySem PySem.Spec PyProof.Rows L2 DL
def L_law_hand : Nat → Bool := fun j => ([] : List Nat).contains j
def w_law_hand : WS := wSeq (wSetF 2 (wC (.int 0)))
    (wSeq (wIf (wTst (wB oLt (wVar 1) (wL oLen (wCons (wVar 0) wNil))))
    (wSetF 2 (wB oIx (wVar 0) (wVar 1)))
    wNext)
    (wRet (wL oLst (wCons (wB oMul (wVar 2) (wL oInt1 (wCons (wB oGe (wVar 2) (wB oPow (wC (.int 10)) (wC (.int 18)))) wNil))) (wCons (wB oAdd (wB oAdd (wB oMod (wVar 2) (wC (.int 2305843009213693951))) (wB oMul (wC (.int 7919)) (wVar 1))) (wC (.int 3))) (wCons (wC (.int 0)) wNil))))))
def n_law_hand : Nat := 3
def L_law_take : Nat → Bool := fun j => [0].contains j
def w_law_take : WS := wSeq (wIf (wTst (wB oGt (wB oIx (wLn 0) (wC (.int 0))) (wC (.int 0))))
    (wSeq (wSetF 2 (wB oMod (wB oIx (wLn 0) (wC (.int 0))) (wVar 1)))
    (wSeq (wSetIx 0 (wB oDiv (wB oIx (wLn 0) (wC (.int 0))) (wVar 1)) (wC (.int 0)))
    (wRet (wVar 2))))
    wNext)
    (wSeq (wSetIx 0 (wB oAdd (wB oIx (wLn 0) (wC (.int 2))) (wC (.int 1))) (wC (.int 2)))
    (wSeq (wSetF 3 (wB oIx (wLn 0) (wC (.int 2))))
    (wSeq (wSetF 4 (wB oAdd (wB oAdd (wC (.int 48271)) (wB oMul (wB oMul (wC (.int 2)) (wVar 3)) (wVar 3))) (wB oMul (wC (.int 65537)) (wVar 3))))
    (wSeq (wSetF 5 (wB oMod (wB oMul (wB oAdd (wB oIx (wLn 0) (wC (.int 1))) (wB oMul (wC (.int 1299709)) (wVar 3))) (wVar 4)) (wC (.int 2305843009213693921))))
    (wSeq (wSetF 6 (wB oAdd (wB oAdd (wB oMod (wVar 5) (wC (.int 1000003))) (wB oMul (wVar 3) (wC (.int 99991)))) (wC (.int 11))))
    (wSeq (wSetF 5 (wB oMod (wB oMul (wVar 5) (wVar 6)) (wC (.int 2305843009213693907))))
    (wRet (wB oMod (wB oAdd (wB oDiv (wVar 5) (wC (.int 97))) (wB oDiv (wVar 5) (wC (.int 1000033)))) (wVar 1)))))))))
def n_law_take : Nat := 7
def L_law_pick : Nat → Bool := fun j => [0].contains j
def w_law_pick : WS := wRet (wB oIx (wVar 1) (wCall S_law_take (wCons (wPk 0) (wCons (wL oLen (wCons (wVar 1) wNil)) wNil))))
def n_law_pick : Nat := 2
def L_law_great : Nat → Bool := fun j => [0].contains j
def w_law_great : WS := wSeq (wSetF 1 (wC (.int 0)))
    (wSeq (wFor (wIR1 (wCons (wC (.int 4)) wNil)) (wgName 2)
    (wSetF 1 (wB oAdd (wB oMul (wVar 1) (wB oPow (wC (.int 10)) (wC (.int 15)))) (wCall S_law_take (wCons (wPk 0) (wCons (wB oPow (wC (.int 10)) (wC (.int 15))) wNil))))))
    (wRet (wVar 1)))
def n_law_great : Nat := 3
end CFH

set_option Elab.async false
set_option linter.all false
set_option maxRecDepth 100000
set_option maxHeartbeats 4000000

/-! generated: readings shared by laws -/
namespace CFCl
open PySem PySem.Spec PyProof.Rows L2 DL CFH
end CFCl

set_option Elab.async false
set_option linter.all false
set_option maxRecDepth 100000
set_option maxHeartbeats 4000000

/-! generated: readings shared by laws -/
namespace CFCh
open PySem PySem.Spec PyProof.Rows L2 DL CFH CFCl
def L_law_moment : Nat → Bool := fun j => [0].contains j
def w_law_moment : WS := wSeq (wSetF 1 (wCall CFH.S_law_take (wCons (wPk 0) (wCons (wC (.int 8)) wNil))))
    (wSeq (wIf (wTst (wB oLt (wVar 1) (wC (.int 5))))
    (wRet (wCall CFH.S_law_take (wCons (wPk 0) (wCons (wC (.int 20000)) wNil))))
    wNext)
    (wSeq (wIf (wTst (wB oEq (wVar 1) (wC (.int 5))))
    (wRet (wCall CFH.S_law_take (wCons (wPk 0) (wCons (wC (.int 9000000)) wNil))))
    wNext)
    (wSeq (wIf (wTst (wB oEq (wVar 1) (wC (.int 6))))
    (wRet (wCall CFH.S_law_great (wCons (wPk 0) wNil)))
    wNext)
    (wRet (wB oSub (wB oSub (wB oPow (wC (.int 10)) (wC (.int 60))) (wC (.int 1))) (wCall CFH.S_law_take (wCons (wPk 0) (wCons (wC (.int 9000)) wNil))))))))
def n_law_moment : Nat := 2
def L_law_jumps : Nat → Bool := fun j => [0, 1].contains j
def w_law_jumps : WS := wSeq (wSet 1 (wL oLst wNil))
    (wSeq (wSetF 2 (wC (.int 0)))
    (wSeq (wFor (wIR1 (wCons (wCall CFH.S_law_take (wCons (wPk 0) (wCons (wC (.int 9)) wNil))) wNil)) (wgName 3)
    (wSeq (wSetF 4 (wCall CFH.S_law_take (wCons (wPk 0) (wCons (wC (.int 5)) wNil))))
    (wSeq (wIf (wTst (wB oLt (wVar 4) (wC (.int 2))))
    (wSetF 2 (wB oAdd (wB oAdd (wVar 2) (wC (.int 1))) (wCall CFH.S_law_take (wCons (wPk 0) (wCons (wB oIx (wL oLst (wCons (wC (.int 1)) (wCons (wC (.int 5)) wNil))) (wVar 4)) wNil)))))
    (wIf (wTst (wB oLt (wVar 4) (wC (.int 4))))
    (wSetF 2 (wB oAdd (wB oAdd (wVar 2) (wC (.int 1))) (wCall CFH.S_law_take (wCons (wPk 0) (wCons (wC (.int 4000)) wNil)))))
    (wSetF 2 (wB oAdd (wB oAdd (wVar 2) (wC (.int 1))) (wCall S_law_moment (wCons (wPk 0) wNil))))))
    (wSeq (wSetF 5 (wCall CFH.S_law_pick (wCons (wPk 0) (wCons (wL oLst (wCons (wC (.int 60)) (wCons (wU oNeg (wC (.int 60))) (wCons (wC (.int 30)) (wCons (wU oNeg (wC (.int 30))) (wCons (wC (.int 1)) (wCons (wU oNeg (wC (.int 1))) (wCons (wC (.int 1440)) (wCons (wU oNeg (wC (.int 1440))) (wCons (wC (.int 0)) (wCons (wC (.int 0)) (wCons (wC (.int 0)) wNil)))))))))))) wNil))))
    (wSeq (wIf (wTst (wB oEq (wVar 5) (wC (.int 0))))
    (wSetF 5 (wB oSub (wCall CFH.S_law_take (wCons (wPk 0) (wCons (wC (.int 2881)) wNil))) (wC (.int 1440))))
    wNext)
    (wSeq (wIf (wTst (wB oEq (wVar 5) (wC (.int 0))))
    (wSetF 5 (wU oNeg (wC (.int 1439))))
    wNext)
    (wIf (wTst (wB oLt (wVar 2) (wB oPow (wC (.int 10)) (wC (.int 60)))))
    (wDrop (wApp 1 (wL oTup (wCons (wVar 2) (wCons (wVar 5) wNil)))))
    wNext)))))))
    (wRet (wL oTuple (wCons (wLn 1) wNil)))))
def n_law_jumps : Nat := 6
end CFCh

set_option Elab.async false
set_option linter.all false
set_option maxRecDepth 100000
set_option maxHeartbeats 4000000

/-! generated: readings shared by laws -/
namespace CFLy
open PySem PySem.Spec PyProof.Rows L2 DL CFH CFWd CFCg
def L_law_minute : Nat → Bool := fun j => [0].contains j
def w_law_minute : WS := wSeq (wSetF 2 (wCall CFH.S_law_take (wCons (wPk 0) (wCons (wC (.int 3)) wNil))))
    (wSeq (wSetF 3 (wCall CFH.S_law_take (wCons (wPk 0) (wCons (wVar 1) wNil))))
    (wSeq (wIf (wTst (wB oEq (wVar 2) (wC (.int 0))))
    (wRet (wB oMul (wC (.int 1440)) (wB oAdd (wVar 3) (wCall CFH.S_law_take (wCons (wPk 0) (wCons (wC (.int 2)) wNil))))))
    wNext)
    (wSeq (wIf (wTst (wB oEq (wVar 2) (wC (.int 1))))
    (wRet (wB oAdd (wB oMul (wC (.int 1440)) (wVar 3)) (wCall CFH.S_law_pick (wCons (wPk 0) (wCons (wL oLst (wCons (wC (.int 480)) (wCons (wC (.int 540)) (wCons (wC (.int 1020)) (wCons (wC (.int 1080)) (wCons (wC (.int 1320)) (wCons (wC (.int 360)) wNil))))))) wNil)))))
    wNext)
    (wRet (wB oAdd (wB oMul (wC (.int 1440)) (wVar 3)) (wCall CFH.S_law_take (wCons (wPk 0) (wCons (wC (.int 1441)) wNil))))))))
def n_law_minute : Nat := 4
def L_law_layer : Nat → Bool := fun j => [0, 8].contains j
def w_law_layer : WS := wSeq (wSetF 5 (wB oMul (wCall CFH.S_law_take (wCons (wPk 0) (wCons (wB oMul (wC (.int 1440)) (wVar 3)) wNil))) (wCall CFH.S_law_take (wCons (wPk 0) (wCons (wC (.int 2)) wNil)))))
    (wSeq (wIf (wTst (wB oEq (wCall CFH.S_law_take (wCons (wPk 0) (wCons (wC (.int 8)) wNil))) (wC (.int 0))))
    (wRet (wL oTup (wCons (wVar 1) (wCons (wVar 5) (wCons (wVar 3) (wCons (wL oTup (wCons (wL oTup (wCons (wC (.int 0)) (wCons (wB oMul (wC (.int 1440)) (wVar 3)) (wCons (wCall CFH.S_law_pick (wCons (wPk 0) (wCons (wVar 2) wNil))) wNil)))) wNil)) wNil))))))
    wNext)
    (wSeq (wSetF 7 (wU oSortSet (wLcB [6] (wIR1 (wCons (wB oAdd (wC (.int 1)) (wVar 4)) wNil)) (wgName 6) wYes (wCall S_law_minute (wCons (wPk 0) (wCons (wVar 3) wNil))))))
    (wSeq (wSet 8 (wL oLst wNil))
    (wSeq (wFor (wIR1 (wCons (wB oSub (wL oLen (wCons (wVar 7) wNil)) (wC (.int 1))) wNil)) (wgName 6)
    (wIf (wTst (wB oGt (wCall CFH.S_law_take (wCons (wPk 0) (wCons (wC (.int 4)) wNil))) (wC (.int 0))))
    (wDrop (wApp 8 (wL oTup (wCons (wB oIx (wVar 7) (wVar 6)) (wCons (wB oIx (wVar 7) (wB oAdd (wVar 6) (wC (.int 1)))) (wCons (wCall CFH.S_law_pick (wCons (wPk 0) (wCons (wVar 2) wNil))) wNil))))))
    wNext))
    (wRet (wL oTup (wCons (wVar 1) (wCons (wVar 5) (wCons (wVar 3) (wCons (wL oTuple (wCons (wLn 8) wNil)) wNil))))))))))
def n_law_layer : Nat := 10
end CFLy

set_option Elab.async false
set_option linter.all false
set_option maxRecDepth 100000
set_option maxHeartbeats 4000000

/-! generated: readings shared by laws -/
namespace CFCg
open PySem PySem.Spec PyProof.Rows L2 DL CFH CFCh
def L_law_change : Nat → Bool := fun j => [0].contains j
def w_law_change : WS := wSeq (wSetF 3 (wCall CFH.S_law_take (wCons (wPk 0) (wCons (wC (.int 3)) wNil))))
    (wSeq (wSetF 4 (wB oAdd (wVar 2) (wCall CFH.S_law_take (wCons (wPk 0) (wCons (wC (.int 3000)) wNil)))))
    (wSeq (wIf (wTst (wB oEq (wCall CFH.S_law_take (wCons (wPk 0) (wCons (wC (.int 8)) wNil))) (wC (.int 0))))
    (wSetF 4 (wCall CFCh.S_law_moment (wCons (wPk 0) wNil)))
    wNext)
    (wSeq (wSetF 4 (wL oMin2 (wCons (wVar 4) (wCons (wB oSub (wB oPow (wC (.int 10)) (wC (.int 60))) (wC (.int 2))) wNil))))
    (wSeq (wSetF 5 (wCall CFH.S_law_take (wCons (wPk 0) (wCons (wC (.int 6)) wNil))))
    (wSeq (wSetF 6 (wL oMin2 (wCons (wB oAdd (wB oAdd (wVar 4) (wC (.int 1))) (wCall CFH.S_law_take (wCons (wPk 0) (wCons (wC (.int 3000)) wNil)))) (wCons (wB oSub (wB oPow (wC (.int 10)) (wC (.int 60))) (wC (.int 1))) wNil))))
    (wSeq (wIf (wTst (wB oEq (wVar 5) (wC (.int 0))))
    (wSetF 6 (wC .none))
    (wIf (wTst (wB oEq (wVar 5) (wC (.int 1))))
    (wSetF 6 (wB oAdd (wVar 4) (wC (.int 1))))
    wNext))
    (wSeq (wIf (wAnd (wTst (wB oEq (wVar 3) (wC (.int 0)))) (wTst (wB oGt (wL oLen (wCons (wVar 1) wNil)) (wC (.int 1)))))
    (wSeq (wSetF 7 (wCall CFH.S_law_take (wCons (wPk 0) (wCons (wL oLen (wCons (wVar 1) wNil)) wNil))))
    (wSeq (wSetF 8 (wB oMod (wB oAdd (wB oAdd (wVar 7) (wC (.int 1))) (wCall CFH.S_law_take (wCons (wPk 0) (wCons (wB oSub (wL oLen (wCons (wVar 1) wNil)) (wC (.int 1))) wNil)))) (wL oLen (wCons (wVar 1) wNil))))
    (wRet (wL oTup (wCons (wC (.str "for")) (wCons (wB oIx (wVar 1) (wVar 7)) (wCons (wB oIx (wVar 1) (wVar 8)) (wCons (wVar 4) (wCons (wVar 6) wNil)))))))))
    wNext)
    (wRet (wL oTup (wCons (wCall CFH.S_law_pick (wCons (wPk 0) (wCons (wL oLst (wCons (wC (.str "away")) (wCons (wC (.str "away")) (wCons (wC (.str "on")) wNil)))) wNil))) (wCons (wCall CFH.S_law_pick (wCons (wPk 0) (wCons (wVar 1) wNil))) (wCons (wVar 4) (wCons (wVar 6) wNil)))))))))))))
def n_law_change : Nat := 9
end CFCg

set_option Elab.async false
set_option linter.all false
set_option maxRecDepth 100000
set_option maxHeartbeats 4000000

/-! generated: readings shared by laws -/
namespace CFJn
open PySem PySem.Spec PyProof.Rows L2 DL CFH CFCl CFCh
def L_law_jumps : Nat → Bool := fun j => [0, 2].contains j
def w_law_jumps : WS := wSeq (wSet 2 (wL oLst wNil))
    (wSeq (wSetF 3 (wC (.int 0)))
    (wSeq (wFor (wIR1 (wCons (wCall CFH.S_law_take (wCons (wPk 0) (wCons (wB oAdd (wVar 1) (wC (.int 1))) wNil))) wNil)) (wgName 4)
    (wSeq (wSetF 5 (wCall CFH.S_law_take (wCons (wPk 0) (wCons (wC (.int 4)) wNil))))
    (wSeq (wIf (wTst (wB oEq (wVar 5) (wC (.int 0))))
    (wSetF 3 (wB oAdd (wB oAdd (wVar 3) (wC (.int 1))) (wCall CFH.S_law_take (wCons (wPk 0) (wCons (wC (.int 5)) wNil)))))
    (wIf (wTst (wB oLt (wVar 5) (wC (.int 3))))
    (wSetF 3 (wB oAdd (wB oAdd (wVar 3) (wC (.int 1))) (wCall CFH.S_law_take (wCons (wPk 0) (wCons (wC (.int 4000)) wNil)))))
    (wSetF 3 (wB oAdd (wB oAdd (wVar 3) (wC (.int 1))) (wCall CFCh.S_law_moment (wCons (wPk 0) wNil))))))
    (wSeq (wSetF 6 (wCall CFH.S_law_pick (wCons (wPk 0) (wCons (wL oLst (wCons (wC (.int 60)) (wCons (wU oNeg (wC (.int 60))) (wCons (wC (.int 30)) (wCons (wU oNeg (wC (.int 30))) (wCons (wC (.int 1)) (wCons (wU oNeg (wC (.int 1))) (wCons (wC (.int 1440)) (wCons (wU oNeg (wC (.int 1440))) (wCons (wC (.int 0)) (wCons (wC (.int 0)) wNil))))))))))) wNil))))
    (wSeq (wIf (wTst (wB oEq (wVar 6) (wC (.int 0))))
    (wSetF 6 (wB oSub (wCall CFH.S_law_take (wCons (wPk 0) (wCons (wC (.int 2880)) wNil))) (wC (.int 1440))))
    wNext)
    (wSeq (wIf (wAnd (wTst (wB oGt (wVar 6) (wU oNeg (wC (.int 1))))) (wTst (wB oLt (wVar 6) (wC (.int 1)))))
    (wSetF 6 (wC (.int 1440)))
    wNext)
    (wIf (wTst (wB oLt (wVar 3) (wB oPow (wC (.int 10)) (wC (.int 60)))))
    (wDrop (wApp 2 (wL oTup (wCons (wVar 3) (wCons (wVar 6) wNil)))))
    wNext)))))))
    (wRet (wL oTuple (wCons (wLn 2) wNil)))))
def n_law_jumps : Nat := 7
end CFJn

set_option Elab.async false
set_option linter.all false
set_option maxRecDepth 100000
set_option maxHeartbeats 4000000

/-! generated: readings shared by laws -/
namespace CFWd
open PySem PySem.Spec PyProof.Rows L2 DL CFH
def L_law_words : Nat → Bool := fun j => [0, 8].contains j
def w_law_words : WS := wSeq (wSetF 2 (wC (.str "abcdefghijklmnopqrstuvwxyz0123456789")))
    (wSeq (wPar 3 4 (wCons (wCall CFH.S_law_take (wCons (wPk 0) (wCons (wC (.int 36)) wNil))) (wCons (wCall CFH.S_law_pick (wCons (wPk 0) (wCons (wL oLst (wCons (wC (.int 1)) (wCons (wC (.int 5)) (wCons (wC (.int 7)) (wCons (wC (.int 11)) (wCons (wC (.int 13)) (wCons (wC (.int 17)) wNil))))))) wNil))) wNil)))
    (wSeq (wSetF 5 (wB oMulS (wB oIx (wVar 2) (wCall CFH.S_law_take (wCons (wPk 0) (wCons (wC (.int 36)) wNil)))) (wCall CFH.S_law_pick (wCons (wPk 0) (wCons (wL oLst (wCons (wC (.int 0)) (wCons (wC (.int 1)) (wCons (wC (.int 0)) (wCons (wC (.int 2)) (wCons (wC (.int 7)) wNil)))))) wNil)))))
    (wSeq (wSetF 6 (wCall CFH.S_law_take (wCons (wPk 0) (wCons (wB oAdd (wL oLen (wCons (wVar 5) wNil)) (wC (.int 1))) wNil))))
    (wSeq (wSetF 7 (wCall CFH.S_law_take (wCons (wPk 0) (wCons (wC (.int 2)) wNil))))
    (wSeq (wSet 8 (wL oLst wNil))
    (wSeq (wFor (wIR1 (wCons (wVar 1) wNil)) (wgName 9)
    (wSeq (wSetF 10 (wSl (wVar 5) (wPart (wVar 6)) wNoPart))
    (wSeq (wIf (wAnd (wTst (wB oEq (wVar 7) (wC (.int 1)))) (wTst (wB oEq (wB oMod (wVar 9) (wC (.int 2))) (wC (.int 1)))))
    (wSetF 10 (wC (.str "")))
    wNext)
    (wSeq (wSetF 11 (wB oIx (wVar 2) (wB oMod (wB oAdd (wVar 3) (wB oMul (wVar 4) (wVar 9))) (wC (.int 36)))))
    (wDrop (wApp 8 (wB oPlus (wB oPlus (wSl (wVar 5) wNoPart (wPart (wVar 6))) (wVar 11)) (wVar 10))))))))
    (wRetO 8)))))))
def n_law_words : Nat := 12
end CFWd

section
open PySem PySem.Spec PyProof.Rows L2 DL CFH
local macro_rules | `(tactic| tm_at "dw") => `(tactic| with_reducible (conv => whnf))
local macro_rules | `(tactic| tm_at "dside") => `(tactic| first | with_reducible assumption | ((with_reducible show CDivW _ _); exact ⟨by omega, log2_sm (by omega)⟩) | exact rfl | exact True.intro | exact Nat.le_of_ble_eq_true rfl | (intro z; first | exact rfl | exact (Bool.false_ne_true z).elim) | (intro _; (with_reducible refine And.intro ?_ ?_) <;> first | exact rfl | assumption) | (intro _; assumption) | (intro _; with_reducible exact lf_ints) | (intro _; with_reducible exact lf_strs) | ((with_reducible show SeqAt.shaped (PyData.str _) = true); exact (Lay.str (k := 0) (by first | assumption | decide +kernel)).shaped) | omega | (simp only [List.length_map, List.length_reverse, List.length_append, List.length_cons, List.length_nil]; omega) | exact And.intro (by omega) (by with_reducible assumption) | exact And.intro (by omega) (by decide +kernel) | exact And.intro (by omega) (And.intro (by omega) (by omega)) | exact MulOk.left ⟨by omega, by omega⟩ | exact MulOk.right ⟨by omega, by omega⟩ | exact le1000 (by first | omega | (simp only [List.length_map, List.length_reverse, List.length_append, List.length_cons, List.length_nil, rangeD_len, enumF_len]; omega)) | with_reducible exact lf_ints | with_reducible exact lf_strs | assumption | decide)
local macro_rules | `(tactic| tm_at "do") => `(tactic| first | with_reducible exact intsOf_map _ | with_reducible exact boolsOf_map _ | ((with_reducible show lstOf _ _ = _); with_unfolding_all exact rfl) | ((with_reducible show intsOf _ = _); with_unfolding_all exact rfl) | ((with_reducible show itemsD _ = _); with_unfolding_all exact rfl) | ((with_reducible show itemsLT _ = _); with_unfolding_all exact rfl) | ((with_reducible show boolsOf _ = _); with_unfolding_all exact rfl) | ((with_reducible show strsOf _ = _); with_unfolding_all exact rfl) | ((with_reducible show keyD _ = _); with_unfolding_all exact rfl) | with_reducible exact atI_0 | with_reducible exact atI_1 | with_reducible exact atI_2 | with_reducible exact atI_3 | with_reducible exact atI_4 | with_reducible exact setI_0 | with_reducible exact setI_1 | with_reducible exact setI_2 | with_reducible exact setI_3)
local macro_rules | `(tactic| tm_at "dz") => `(tactic| (intro z; (try simp only [decide_eq_true_eq, decide_eq_false_iff_not, eqv_int, Bool.not_eq_true', Bool.not_eq_false', Bool.not_not, Bool.false_eq_true, reduceCtorEq, Int.not_lt, Int.not_le, wholeD, List.length_cons, List.length_nil, List.length_map, isT_tuple_none, isT_tuple_bool, isT_tuple_int, isT_tuple_str, isT_tuple_list, isT_tuple_tuple, isT_int_none, isT_int_bool, isT_int_int, isT_int_str, isT_int_list, isT_int_tuple, isT_bool_none, isT_bool_bool, isT_bool_int, isT_bool_str, isT_bool_list, isT_bool_tuple, isT_str_none, isT_str_bool, isT_str_int, isT_str_str, isT_str_list, isT_str_tuple, isT_list_none, isT_list_bool, isT_list_int, isT_list_str, isT_list_list, isT_list_tuple] at z); try (first | (exfalso; omega) | exact (Bool.false_ne_true z).elim | (cases z; done))))
local macro_rules | `(tactic| tm_at "dnorm") => `(tactic| first | ((simp only [rset, rget, frzC, retag, clr, back]); done) | ((simp only [rset, rget, frzC, retag, clr, back]); exact rfl) | exact rfl)
local macro_rules | `(tactic| tm_at "dh") => `(tactic| first | ((with_reducible show wSeq _ _ _ _); with_reducible refine wSeq_i (by tm_at "dnorm") ?_) | ((with_reducible show optK _ _); with_reducible refine optK_of (by tm_at "do") ?_) | (with_reducible refine ifb ?_ ?_) <;> tm_at "dz" | ((with_reducible refine And.intro ?_ ?_); tm_at "dside") | fail "dh")
local macro_rules | `(tactic| tm_at "dc") => `(tactic| fail "dc")
local macro_rules | `(tactic| tm_at "dt") => `(tactic| first | (tm_at "dh" <;> (try tm_at "dw")) | (tm_at "dc" <;> (try tm_at "dw")))
local macro_rules | `(tactic| tm_at "dstart") => `(tactic| simp only [startD, List.length_cons, List.length_nil, Nat.reduceAdd, Nat.reduceSub, List.replicate, List.cons_append, List.nil_append])
local macro_rules | `(tactic| tm_at "dl") => `(tactic| ((try tm_at "dw"); repeat' tm_at "dt"))
local macro_rules | `(tactic| tm_at "dlc") => `(tactic| first | with_reducible refine lcK_eq (by tm_at "dnorm") ?_ | with_reducible refine forK_eq (by tm_at "dnorm") ?_)

section
set_option Elab.async false
set_option linter.all false
set_option maxRecDepth 100000
set_option maxHeartbeats 4000000
namespace CFIs
open PySem PySem.Spec PyProof.Rows L2 DL CFH CFWd
local macro_rules | `(tactic| tm_at "dpos") => `(tactic| first | omega | decide)
local macro_rules | `(tactic| tm_at "dlog") => `(tactic| first | exact log2_sm (by omega) | exact CFH.big_log (by omega) (by omega) | assumption | exact log2_sm (by decide))
local macro_rules | `(tactic| tm_at "dc") => `(tactic| ((with_reducible show CFH.S_law_take _ _ _); refine CFH.take_i (by assumption) (by omega) (by tm_at "dpos") (by tm_at "dlog") (fun _ _ _ _ _ => ?_)))
local macro_rules | `(tactic| tm_at "dc") => `(tactic| ((with_reducible show CFH.S_law_great _ _ _); refine CFH.great_i (by assumption) (by omega) (fun _ _ _ _ _ => ?_)))
local macro_rules | `(tactic| tm_at "dc") => `(tactic| ((with_reducible show CFH.S_law_whole _ _ _); refine CFH.whole_i ?_))
local macro_rules | `(tactic| tm_at "dh") => `(tactic| first | ((with_reducible show ite _ _ _); first | (with_reducible refine DL.ifb_t (by with_reducible assumption) ?_) | (with_reducible refine DL.ifb_f (by with_reducible assumption) ?_)) | fail "dk")
local macro_rules | `(tactic| tm_at "do") => `(tactic| with_reducible assumption)
theorem ok_is_whole : ∀ as QD ED, S_is_whole as QD ED → w_is_whole (bodyEnds as QD fun _ _ => False) (startD n_is_whole as) := by
  rintro as QD ED ⟨d, rfl, q⟩
  rw [isWh_eq] at q
  unfold n_is_whole w_is_whole
  tm_at "dstart"
  tm_at "dl"
  · rw [‹isT "int" d = true›, Bool.true_and] at q
    exact q
  · rw [‹isT "int" d = false›, Bool.false_and] at q
    exact q
theorem ok_is_word : ∀ as QD ED, S_is_word as QD ED → w_is_word (bodyEnds as QD fun _ _ => False) (startD n_is_word as) := by
  rintro as QD ED ⟨d, rfl, hs, q⟩
  unfold n_is_word w_is_word
  tm_at "dstart"
  tm_at "dl"
  · rw [isWd_no ‹_›] at q
    exact q
  obtain ⟨s, rfl⟩ := isT_str ‹_›
  have sl := sml_str hs
  have sz : s.length ≤ sizeLine := Nat.le_trans sl (Nat.le_of_ble_eq_true rfl)
  tm_at "dl"
  · rw [isWd_bad (by omega)] at q
    exact q
  · rw [isWd_at (by omega)] at q
    rename_i g1 g8
    refine ⟨by rw [strD_len]; exact sz, ?_⟩
    rw [show strD s = (strD s).map id from (List.map_id _).symm]
    refine lcK_ys (fun x : D => PyData.bool (sgOk x)) (strD s) (fun x hx next hnx => ?_) ?_
    · obtain ⟨c, _, rfl⟩ := List.mem_map.mp hx
      simp only [id_eq]
      tm_at "dl"
      exact hnx
    · tm_at "dl"
      rw [show ((strD s).map fun x => PyData.bool (sgOk x)) = ((strD s).map sgOk).map PyData.bool by rw [List.map_map]; rfl]
      refine optK_of (boolsOf_map _) ?_
      rw [List.all_map]
      tm_at "dl"
      exact q
  · rw [isWd_bad (by omega)] at q
    exact q
theorem ok_is_turn : ∀ as QD ED, S_is_turn as QD ED → w_is_turn (bodyEnds as QD fun _ _ => False) (startD n_is_turn as) := by
  rintro as QD ED ⟨d, low, high, rfl, hs, q⟩
  unfold n_is_turn w_is_turn
  tm_at "dstart"
  tm_at "dl"
  · rw [isTu_no ‹_›] at q
    exact q
  obtain ⟨ds, rfl⟩ := isT_tup ‹_›
  have hs := sml_tup.mp hs
  tm_at "dl"
  · rw [isTu_len (fun e => ‹¬ (ds.length : Int) = 3› (by omega))] at q
    exact q
  obtain ⟨b, e, h, rfl⟩ := len3 (ds := ds) (by omega)
  have hh : sml h = true := hs h (by simp)
  rw [isTu_3] at q
  tm_at "dl"
  refine ⟨b, rfl, ?_⟩
  tm_at "dl"
  · rw [‹isWh b = false›, Bool.false_and, Bool.false_and, Bool.false_and] at q
    exact q
  refine ⟨e, rfl, ?_⟩
  tm_at "dl"
  · rw [‹isWh e = false›, Bool.and_false, Bool.false_and, Bool.false_and] at q
    exact q
  refine ⟨h, rfl, hh, ?_⟩
  tm_at "dl"
  · rw [‹isWd h = false›, Bool.and_false, Bool.false_and] at q
    exact q
  obtain ⟨i, rfl⟩ := isWh_int ‹isWh b = true›
  obtain ⟨j, rfl⟩ := isWh_int ‹isWh e = true›
  rw [‹isWd h = true›] at q
  tm_at "dl"
  all_goals have q : QD (.v (.bool (decide (low ≤ i ∧ i < j ∧ j ≤ high)))) _ := q
  · rw [show decide (low ≤ i ∧ i < j ∧ j ≤ high) = decide (j ≤ high) from decide_eq_decide.mpr ⟨fun h => h.2.2, fun h => ⟨‹_›, ‹_›, h⟩⟩] at q
    exact q
  · rw [decide_eq_false (by omega)] at q
    exact q
  · rw [decide_eq_false (by omega)] at q
    exact q
theorem ok_are_turns : ∀ as QD ED, S_are_turns as QD ED → w_are_turns (bodyEnds as QD fun _ _ => False) (startD n_are_turns as) := by
  rintro as QD ED ⟨d, most, rfl, hs, q⟩
  unfold n_are_turns w_are_turns
  tm_at "dstart"
  tm_at "dl"
  · rw [areTu_no ‹_›] at q
    exact q
  obtain ⟨ds, rfl⟩ := isT_tup ‹_›
  have hs := sml_tup.mp hs
  tm_at "dl"
  · rw [areTu_bad (by omega)] at q
    exact q
  rw [areTu_at (by omega)] at q
  refine forK_ind (fun es ρ => (∀ d ∈ es, sml d = true) ∧ ∃ (low : Int) (c3 : C), ρ = [.v (.tuple ds), .v (.int most), .v (.int low), c3] ∧ QD (.v (.bool (tuF most low es))) [.v (.tuple ds), .v (.int most)]) ?_ ?_ _ _ ⟨hs, 0, _, rfl, q⟩
  · rintro ρ ⟨_, low, c3, rfl, q⟩
    tm_at "dl"
    exact q
  rintro t es ρ next hn ⟨hs, low, c3, rfl, q⟩
  have ht := hs t (.head _)
  have q : QD (.v (.bool (isTu low most t && tuF most (enT t) es))) _ := q
  tm_at "dl"
  refine ⟨t, low, most, rfl, ht, ?_⟩
  tm_at "dl"
  · rw [‹isTu low most t = false›, Bool.false_and] at q
    exact q
  · rw [‹isTu low most t = true›, Bool.true_and] at q
    obtain ⟨b, e, hd, rfl, _⟩ := isTu_get ‹_›
    have a1 : atI [.int b, .int e, hd] 1 = some (.int e) := atI_1
    tm_at "dl"
    exact hn _ ⟨fun d h => hs d (.tail _ h), e, _, rfl, q⟩
theorem ok_is_layer : ∀ as QD ED, S_is_layer as QD ED → w_is_layer (bodyEnds as QD fun _ _ => False) (startD n_is_layer as) := by
  rintro as QD ED ⟨d, rfl, hs, q⟩
  unfold n_is_layer w_is_layer
  tm_at "dstart"
  tm_at "dl"
  · rw [isLy_no ‹_›] at q
    exact q
  obtain ⟨ds, rfl⟩ := isT_tup ‹_›
  have hs := sml_tup.mp hs
  tm_at "dl"
  · rw [isLy_len (fun e => ‹¬ (ds.length : Int) = 4› (by omega))] at q
    exact q
  obtain ⟨w, s, e, ts, rfl⟩ := len4 (ds := ds) (by omega)
  have hw : sml w = true := hs w (by simp)
  have ht : sml ts = true := hs ts (by simp)
  rw [isLy_4] at q
  tm_at "dl"
  refine ⟨w, rfl, hw, ?_⟩
  tm_at "dl"
  · rw [‹isWd w = false›, Bool.false_and, Bool.false_and, Bool.false_and] at q
    exact q
  refine ⟨s, rfl, ?_⟩
  tm_at "dl"
  · rw [‹isWh s = false›, Bool.and_false, Bool.false_and, Bool.false_and] at q
    exact q
  refine ⟨e, rfl, ?_⟩
  tm_at "dl"
  · rw [‹isWh e = false›, Bool.and_false, Bool.false_and] at q
    exact q
  obtain ⟨s, rfl⟩ := isWh_int ‹isWh s = true›
  obtain ⟨e, rfl⟩ := isWh_int ‹isWh e = true›
  rw [‹isWd w = true›] at q
  have q : QD (.v (.bool (decide (1 ≤ e ∧ e ≤ 60) && decide (0 ≤ s ∧ s < 1440 * e) && areTu (1440 * e) ts))) _ := q
  have mo : MulOk 1440 e := MulOk.left (by decide)
  tm_at "dl"
  all_goals first
    | (rw [decide_eq_false (show ¬ (1 ≤ e ∧ e ≤ 60) by omega), Bool.false_and, Bool.false_and] at q
       exact q)
    | (rw [decide_eq_false (show ¬ (0 ≤ s ∧ s < 1440 * e) by omega), Bool.and_false, Bool.false_and] at q
       exact q)
    | (rw [decide_eq_true (show 1 ≤ e ∧ e ≤ 60 by omega), decide_eq_true (show 0 ≤ s ∧ s < 1440 * e by omega)] at q
       refine ⟨ts, 1440 * e, rfl, ht, ?_⟩
       tm_at "dl"
       exact q)
end CFIs
end

section
set_option Elab.async false
set_option linter.all false
set_option maxRecDepth 100000
set_option maxHeartbeats 4000000
namespace CFIj
open PySem PySem.Spec PyProof.Rows L2 DL CFH CFIs
local macro_rules | `(tactic| tm_at "dpos") => `(tactic| first | omega | decide)
local macro_rules | `(tactic| tm_at "dlog") => `(tactic| first | exact log2_sm (by omega) | exact CFH.big_log (by omega) (by omega) | assumption | exact log2_sm (by decide))
local macro_rules | `(tactic| tm_at "dc") => `(tactic| ((with_reducible show CFH.S_law_take _ _ _); refine CFH.take_i (by assumption) (by omega) (by tm_at "dpos") (by tm_at "dlog") (fun _ _ _ _ _ => ?_)))
local macro_rules | `(tactic| tm_at "dc") => `(tactic| ((with_reducible show CFH.S_law_great _ _ _); refine CFH.great_i (by assumption) (by omega) (fun _ _ _ _ _ => ?_)))
local macro_rules | `(tactic| tm_at "dc") => `(tactic| ((with_reducible show CFH.S_law_whole _ _ _); refine CFH.whole_i ?_))
local macro_rules | `(tactic| tm_at "dh") => `(tactic| first | ((with_reducible show ite _ _ _); first | (with_reducible refine DL.ifb_t (by with_reducible assumption) ?_) | (with_reducible refine DL.ifb_f (by with_reducible assumption) ?_)) | fail "dk")
local macro_rules | `(tactic| tm_at "do") => `(tactic| with_reducible assumption)
theorem ok_is_moment : ∀ as QD ED, S_is_moment as QD ED → w_is_moment (bodyEnds as QD fun _ _ => False) (startD n_is_moment as) := by
  rintro as QD ED ⟨d, rfl, q⟩
  unfold n_is_moment w_is_moment
  tm_at "dstart"
  tm_at "dl"
  refine ⟨d, rfl, ?_⟩
  cases e : isWh d with
  | true =>
    obtain ⟨t, rfl⟩ := isWh_int e
    have q : QD (.v (.bool (decide (0 ≤ t ∧ t < big)))) _ := q
    tm_at "dl"
    · rw [show decide (0 ≤ t ∧ t < big) = decide (t < 1000000000000000000000000000000000000000000000000000000000000) from decide_eq_decide.mpr ⟨fun h => h.2, fun h => ⟨‹_›, h⟩⟩] at q
      exact q
    · rw [decide_eq_false (by omega)] at q
      exact q
  | false =>
    rw [isMo_no e] at q
    tm_at "dl"
    exact q
theorem ok_is_rising : ∀ as QD ED, S_is_rising as QD ED → w_is_rising (bodyEnds as QD fun _ _ => False) (startD n_is_rising as) := by
  rintro as QD ED ⟨ns, rfl, nl, q⟩
  unfold n_is_rising w_is_rising
  tm_at "dstart"
  tm_at "dl"
  rw [show (((ns.map PyData.int).length : Int) - 1).toNat = ns.length - 1 by rw [List.length_map]; omega]
  refine lcK_r0 (fun k => some (.bool (decide (ns.getD k 0 < ns.getD (k + 1) 0)))) _ (fun k hk next hnx => ?_) ?_
  · have g : ∀ j, j < ns.length → ns[j]? = some (ns.getD j 0) := fun j hj => by
      rw [List.getD_eq_getElem?_getD, List.getElem?_eq_getElem hj]
      rfl
    have a0 : atI (ns.map PyData.int) (k : Int) = some (.int (ns.getD k 0)) := L2.atI_nat (by rw [List.getElem?_map, g k (by omega)]; rfl)
    have a1 : atI (ns.map PyData.int) ((k : Int) + 1) = some (.int (ns.getD (k + 1) 0)) := L2.atI_nat (j := k + 1) (by rw [List.getElem?_map, g (k + 1) (by omega)]; rfl)
    tm_at "dl"
    exact hnx
  · tm_at "dl"
    rw [show ((List.range (ns.length - 1)).filterMap fun k => some (PyData.bool (decide (ns.getD k 0 < ns.getD (k + 1) 0)))) = ((List.range (ns.length - 1)).map fun k => decide (ns.getD k 0 < ns.getD (k + 1) 0)).map PyData.bool by rw [List.map_map, ← List.filterMap_eq_map]; rfl]
    refine optK_of (boolsOf_map _) ?_
    rw [List.all_map]
    tm_at "dl"
    exact q
theorem ok_is_jump : ∀ as QD ED, S_is_jump as QD ED → w_is_jump (bodyEnds as QD fun _ _ => False) (startD n_is_jump as) := by
  rintro as QD ED ⟨d, rfl, q⟩
  unfold n_is_jump w_is_jump
  tm_at "dstart"
  tm_at "dl"
  · rw [isJu_no ‹_›] at q
    exact q
  obtain ⟨ds, rfl⟩ := isT_tup ‹_›
  tm_at "dl"
  · rw [isJu_len (fun e => ‹¬ (ds.length : Int) = 2› (by omega))] at q
    exact q
  obtain ⟨a, b, rfl⟩ := len2 (ds := ds) (by omega)
  tm_at "dl"
  refine ⟨a, rfl, ?_⟩
  cases ea : isMo a with
  | false =>
    rw [isJu_a ea] at q
    tm_at "dl"
    exact q
  | true =>
    obtain ⟨i, rfl, i0, i1⟩ := isMo_get ea
    tm_at "dl"
    · rename_i z
      subst z
      rw [isJu_z] at q
      exact q
    refine ⟨b, rfl, ?_⟩
    cases eb : isWh b with
    | false =>
      rw [isJu_b eb] at q
      tm_at "dl"
      exact q
    | true =>
      obtain ⟨j, rfl⟩ := isWh_int eb
      rw [isJu_ii ea ‹_›] at q
      tm_at "dl"
      · rename_i z
        rw [show decide (j ≠ 0 ∧ -1440 ≤ j ∧ j ≤ 1440) = decide ((if j < 0 then -j else j) ≤ 1440) from decide_eq_decide.mpr ⟨fun h => by split <;> omega, fun h => ⟨z, by split at h <;> omega, by split at h <;> omega⟩⟩] at q
        exact q
      · rename_i z
        rw [decide_eq_false (fun h => h.1 z)] at q
        exact q
theorem ok_are_jumps : ∀ as QD ED, S_are_jumps as QD ED → w_are_jumps (bodyEnds as QD fun _ _ => False) (startD n_are_jumps as) := by
  rintro as QD ED ⟨d, rfl, q⟩
  unfold n_are_jumps w_are_jumps
  tm_at "dstart"
  tm_at "dl"
  · rw [areJu_no ‹_›] at q
    exact q
  obtain ⟨ds, rfl⟩ := isT_tup ‹_›
  tm_at "dl"
  · rw [areJu_bad (by omega)] at q
    exact q
  rw [areJu_at (by omega)] at q
  refine lcK_id (fun x : D => PyData.bool (isJu x)) ds (fun x hx next hnx => ?_) ?_
  · tm_at "dl"
    refine ⟨x, rfl, ?_⟩
    tm_at "dl"
    exact hnx
  tm_at "dl"
  rw [show (ds.map fun x => PyData.bool (isJu x)) = (ds.map isJu).map PyData.bool by rw [List.map_map]; rfl]
  refine optK_of (boolsOf_map _) ?_
  rw [List.all_map]
  tm_at "dl"
  · rw [show ds.all isJu = false from ‹_›, Bool.false_and] at q
    exact q
  have ha : ds.all isJu = true := ‹_›
  rw [ha, Bool.true_and] at q
  refine lcK_id (fun x : D => PyData.int (fsT x)) ds (fun x hx next hnx => ?_) ?_
  · obtain ⟨i, j, rfl, ef⟩ := fs_get (List.all_eq_true.mp ha x hx)
    rw [ef] at hnx
    tm_at "dl"
    exact hnx
  tm_at "dl"
  refine ⟨ds.map fsT, by rw [List.map_map]; rfl, by rw [List.length_map]; omega, ?_⟩
  tm_at "dl"
  exact q
end CFIj
end

section
set_option Elab.async false
set_option linter.all false
set_option maxRecDepth 100000
set_option maxHeartbeats 4000000
namespace CFIc
open PySem PySem.Spec PyProof.Rows L2 DL CFH CFWd CFBk CFIs CFIj
local macro_rules | `(tactic| tm_at "dpos") => `(tactic| first | omega | decide)
local macro_rules | `(tactic| tm_at "dlog") => `(tactic| first | exact log2_sm (by omega) | exact CFH.big_log (by omega) (by omega) | assumption | exact log2_sm (by decide))
local macro_rules | `(tactic| tm_at "dc") => `(tactic| ((with_reducible show CFH.S_law_take _ _ _); refine CFH.take_i (by assumption) (by omega) (by tm_at "dpos") (by tm_at "dlog") (fun _ _ _ _ _ => ?_)))
local macro_rules | `(tactic| tm_at "dc") => `(tactic| ((with_reducible show CFH.S_law_great _ _ _); refine CFH.great_i (by assumption) (by omega) (fun _ _ _ _ _ => ?_)))
local macro_rules | `(tactic| tm_at "dc") => `(tactic| ((with_reducible show CFH.S_law_whole _ _ _); refine CFH.whole_i ?_))
local macro_rules | `(tactic| tm_at "dh") => `(tactic| first | ((with_reducible show ite _ _ _); first | (with_reducible refine DL.ifb_t (by with_reducible assumption) ?_) | (with_reducible refine DL.ifb_f (by with_reducible assumption) ?_)) | fail "dk")
local macro_rules | `(tactic| tm_at "do") => `(tactic| with_reducible assumption)
theorem ok_is_span : ∀ as QD ED, S_is_span as QD ED → w_is_span (bodyEnds as QD fun _ _ => False) (startD n_is_span as) := by
  rintro as QD ED ⟨b, e, rfl, q⟩
  unfold n_is_span w_is_span
  tm_at "dstart"
  tm_at "dl"
  refine ⟨b, rfl, ?_⟩
  cases hb : isMo b with
  | false =>
    rw [sp_no hb] at q
    tm_at "dl"
    exact q
  | true =>
    obtain ⟨x, rfl, x0, x1⟩ := isMo_get hb
    cases e with
    | none =>
      rw [sp_none, hb] at q
      tm_at "dl"
      exact q
    | int y =>
      tm_at "dl"
      refine ⟨.int y, rfl, ?_⟩
      cases hy : isMo (.int y) with
      | false =>
        rw [sp_noE hy (by intro z; cases z)] at q
        tm_at "dl"
        exact q
      | true =>
        rw [sp_at hb hy] at q
        tm_at "dl"
        exact q
    | bool b2 =>
      have hy : isMo (.bool b2) = false := rfl
      have hn : PyData.bool b2 ≠ .none := by intro z; cases z
      rw [sp_noE hy hn] at q
      tm_at "dl"
      refine ⟨_, rfl, ?_⟩
      tm_at "dl"
      exact q
    | str s2 =>
      have hy : isMo (.str s2) = false := rfl
      have hn : PyData.str s2 ≠ .none := by intro z; cases z
      rw [sp_noE hy hn] at q
      tm_at "dl"
      refine ⟨_, rfl, ?_⟩
      tm_at "dl"
      exact q
    | list l2 =>
      have hy : isMo (.list l2) = false := rfl
      have hn : PyData.list l2 ≠ .none := by intro z; cases z
      rw [sp_noE hy hn] at q
      tm_at "dl"
      refine ⟨_, rfl, ?_⟩
      tm_at "dl"
      exact q
    | tuple t2 =>
      have hy : isMo (.tuple t2) = false := rfl
      have hn : PyData.tuple t2 ≠ .none := by intro z; cases z
      rw [sp_noE hy hn] at q
      tm_at "dl"
      refine ⟨_, rfl, ?_⟩
      tm_at "dl"
      exact q
    | dict d2 =>
      have hy : isMo (.dict d2) = false := rfl
      have hn : PyData.dict d2 ≠ .none := by intro z; cases z
      rw [sp_noE hy hn] at q
      tm_at "dl"
      refine ⟨_, rfl, ?_⟩
      tm_at "dl"
      exact q
theorem ok_is_change : ∀ as QD ED, S_is_change as QD ED → w_is_change (bodyEnds as QD fun _ _ => False) (startD n_is_change as) := by
  rintro as QD ED ⟨d, rfl, sm, ly, q⟩
  unfold n_is_change w_is_change
  tm_at "dstart"
  tm_at "dl"
  all_goals try (rw [ch_no ‹isT "tuple" d = false›] at q; exact q)
  obtain ⟨ds, rfl⟩ := isT_tup ‹_›
  have sm := sml_tup.mp sm
  rcases Classical.em (¬ (4 ≤ ds.length ∧ ds.length ≤ 5)) with hl | hl
  · rw [ch_len hl] at q
    tm_at "dl"
    all_goals exact q
  have hl := Classical.not_not.mp hl
  have szd : ds.length ≤ sizeLine := by rw [sizeLine_eq]; omega
  have s1 : SeqAt.shaped (.str "for") = true := (Lay.str (k := 0) CFLa.s_for).shaped
  have s2 : SeqAt.shaped (.list [.str "away", .str "on"]) = true := by decide +kernel
  rcases len45 hl with ⟨k, a, b, e, rfl⟩ | ⟨k, a, o, b, e, rfl⟩
  · have sa := sm a (by simp)
    have lk := ly _ rfl k (by simp)
    by_cases hs : ∃ s, k = .str s
    rotate_left
    · have q0 : isCh (.tuple [k, a, b, e]) = false := by rw [ch_4]; cases k <;> first | rfl | exact absurd ⟨_, rfl⟩ hs
      rw [q0] at q
      cases k <;> first | exact absurd ⟨_, rfl⟩ hs | (tm_at "dl"; exact q)
    obtain ⟨s, rfl⟩ := hs
    replace lk : SeqAt.shaped (.str s) = true := lk.elim (fun z => by rcases z with z | z | z <;> cases z) Lay.shaped
    rw [ch_4] at q
    have mt := mem_two (s := s)
    by_cases f : s = "for"
    · subst f
      have ef : PyData.eqv (.str "for") (.str "for") = true := by rw [CFTd.eqv_str]; exact decide_eq_true rfl
      have q : QD (.v (.bool false)) _ := q
      tm_at "dl"
      exact q
    have ef : PyData.eqv (.str s) (.str "for") = false := by rw [CFTd.eqv_str]; exact decide_eq_false f
    cases hm : (decide (s = "away") || decide (s = "on")) with
    | false =>
      rw [hm] at mt
      have mt2 : (!memD (.str s) [.str "away", .str "on"]) = true := by rw [mt]; rfl
      have q : QD (.v (.bool ((decide (s = "away") || decide (s = "on")) && (isWd a && isSp b e)))) _ := q
      rw [hm] at q
      tm_at "dl"
      exact q
    | true =>
      rw [hm] at mt
      have mt2 : (!memD (.str s) [.str "away", .str "on"]) = false := by rw [mt]; rfl
      have q : QD (.v (.bool ((decide (s = "away") || decide (s = "on")) && (isWd a && isSp b e)))) _ := q
      rw [hm, Bool.true_and] at q
      tm_at "dl"
      refine ⟨a, rfl, sa, ?_⟩
      cases hw : isWd a with
      | false =>
        rw [hw] at q
        tm_at "dl"
        exact q
      | true =>
        rw [hw, Bool.true_and] at q
        tm_at "dl"
        refine ⟨(fun z => nomatch z), (fun z => nomatch z), (fun z => nomatch z), ?_⟩
        refine ⟨b, e, rfl, ?_⟩
        tm_at "dl"
        exact q
  · have sa := sm a (by simp)
    have so := sm o (by simp)
    have lk := ly _ rfl k (by simp)
    have la := ly _ rfl a (by simp)
    have lo := ly _ rfl o (by simp)
    by_cases hs : ∃ s, k = .str s
    rotate_left
    · have q0 : isCh (.tuple [k, a, o, b, e]) = false := by rw [ch_5]; cases k <;> first | rfl | exact absurd ⟨_, rfl⟩ hs
      rw [q0] at q
      cases k <;> first | exact absurd ⟨_, rfl⟩ hs | (tm_at "dl"; exact q)
    obtain ⟨s, rfl⟩ := hs
    replace lk : SeqAt.shaped (.str s) = true := lk.elim (fun z => by rcases z with z | z | z <;> cases z) Lay.shaped
    rw [ch_5] at q
    have q : QD (.v (.bool (decide (s = "for") && (isWd o && (!PyData.eqv a o && (isWd a && isSp b e)))))) _ := q
    have mt := mem_two (s := s)
    by_cases f : s = "for"
    · rw [decide_eq_true f, Bool.true_and] at q
      have ef : PyData.eqv (.str s) (.str "for") = true := by rw [CFTd.eqv_str]; exact decide_eq_true f
      tm_at "dl"
      refine ⟨o, rfl, so, ?_⟩
      cases hw : isWd o with
      | false =>
        rw [hw] at q
        tm_at "dl"
        exact q
      | true =>
        rw [hw, Bool.true_and] at q
        have eqo : EqOk a o := by
          rcases lo with lo | lo
          · exfalso
            rcases lo with rfl | hz | hz
            · cases hw
            · cases o <;> first | cases hw | exact absurd (show false = true from hz) (by decide)
            · cases o <;> first | cases hw | exact absurd (show false = true from hz) (by decide)
          · rcases la with la | la
            · refine .inr ⟨la, ?_⟩
              cases o <;> first | rfl | cases hw
            · exact .inl ⟨la.shaped, lo.shaped⟩
        clear la lo
        cases hv : PyData.eqv a o with
        | true =>
          rw [hv] at q
          have q : QD (.v (.bool false)) _ := q
          tm_at "dl"
          exact q
        | false =>
          rw [hv] at q
          have q : QD (.v (.bool (isWd a && isSp b e))) _ := q
          tm_at "dl"
          refine ⟨a, rfl, sa, ?_⟩
          cases hw : isWd a with
          | false =>
            rw [hw] at q
            tm_at "dl"
            exact q
          | true =>
            rw [hw, Bool.true_and] at q
            tm_at "dl"
            refine ⟨(fun z => nomatch z), (fun z => nomatch z), (fun z => nomatch z), ?_⟩
            refine ⟨b, e, rfl, ?_⟩
            tm_at "dl"
            exact q
    · rw [decide_eq_false f, Bool.false_and] at q
      have ef : PyData.eqv (.str s) (.str "for") = false := by rw [CFTd.eqv_str]; exact decide_eq_false f
      tm_at "dl"
      all_goals exact q
end CFIc
end

section
set_option Elab.async false
set_option linter.all false
set_option maxRecDepth 100000
set_option maxHeartbeats 4000000
namespace CFTd
open PySem PySem.Spec PyProof.Rows L2 DL CFH CFCl CFRu CFWd CFBk CFTu
local macro_rules | `(tactic| tm_at "do") => `(tactic| first | with_reducible exact chg_m2 | with_reducible exact chg_0 | with_reducible exact chg_1 | with_reducible exact rw_0)
end CFTd
end

section
set_option Elab.async false
set_option linter.all false
set_option maxRecDepth 100000
set_option maxHeartbeats 4000000
namespace CFH
open PySem PySem.Spec PyProof.Rows L2 DL
theorem ok_law_take : ∀ as QD ED, S_law_take as QD ED → w_law_take (bodyEnds as QD fun _ _ => False) (startD n_law_take as) := by
  rintro as QD ED ⟨h, n, m, rfl, ho, hn, hm, hl, q⟩
  obtain ⟨a0, b0, b1, c0, c1⟩ := ho
  unfold n_law_take w_law_take
  tm_at "dstart"
  tm_at "dl"
  · exact q ⟨h.a / m, h.b, h.c⟩ (h.a % m) ⟨Int.ediv_nonneg a0 (by omega), b0, b1, c0, by show h.c ≤ _; omega⟩ (Int.emod_nonneg _ (by omega)) (Int.emod_lt_of_pos _ hm)
  · exact q ⟨h.a, h.b, h.c + 1⟩ _ ⟨a0, b0, b1, by show 0 ≤ h.c + 1; omega, by show h.c + 1 ≤ _; omega⟩ (Int.emod_nonneg _ (by omega)) (Int.emod_lt_of_pos _ hm)
theorem ok_law_pick : ∀ as QD ED, S_law_pick as QD ED → w_law_pick (bodyEnds as QD fun _ _ => False) (startD n_law_pick as) := by
  rintro as QD ED ⟨h, n, b, ds, rfl, ho, hn, h0, h1, bx, q⟩
  unfold n_law_pick w_law_pick
  rcases bx with rfl | rfl | ⟨s, rfl, rfl, sl⟩
  · tm_at "dstart"
    tm_at "dl"
    refine ⟨h, n, ds.length, rfl, ho, hn, by omega, log2_sm (by omega), fun h' x ho' x0 x1 => ?_⟩
    tm_at "dl"
    obtain ⟨d, e, hd⟩ := atI_mem x0 x1
    refine optK_of e ?_
    tm_at "dl"
    exact q h' d ho' hd
  · tm_at "dstart"
    tm_at "dl"
    refine ⟨h, n, ds.length, rfl, ho, hn, by omega, log2_sm (by omega), fun h' x ho' x0 x1 => ?_⟩
    tm_at "dl"
    obtain ⟨d, e, hd⟩ := atI_mem x0 x1
    refine optK_of e ?_
    tm_at "dl"
    exact q h' d ho' hd
  · rw [strD_len] at h0 h1
    tm_at "dstart"
    tm_at "dl"
    refine ⟨h, n, s.length, rfl, ho, hn, by omega, log2_sm (by omega), fun h' x ho' x0 x1 => ?_⟩
    tm_at "dl"
    have xl : x.toNat < s.cps.toList.length := by
      show x.toNat < s.cps.size
      have : s.length = s.cps.size := rfl
      omega
    have e : atI s.cps.toList x = some (s.cps.toList[x.toNat]) := by
      have := L2.atI_nat (xs := s.cps.toList) (j := x.toNat) (List.getElem?_eq_getElem xl)
      rwa [show ((x.toNat : Nat) : Int) = x by omega] at this
    refine optK_of e ?_
    tm_at "dl"
    exact q h' _ ho' (List.mem_map_of_mem (f := fun c => PyData.str ⟨#[c]⟩) (List.getElem_mem xl))
theorem ok_law_hand : ∀ as QD ED, S_law_hand as QD ED → w_law_hand (bodyEnds as QD fun _ _ => False) (startD n_law_hand as) := by
  rintro as QD ED ⟨ns, k, rfl, h0, h1, q⟩
  unfold n_law_hand w_law_hand
  tm_at "dstart"
  have e : ∀ c : Int, (0 ≤ c * (if decide ((10:Int) ^ Int.toNat 18 ≤ c) = true then 1 else 0)) := by
    intro c
    by_cases h : (10:Int) ^ Int.toNat 18 ≤ c
    · rw [if_pos (decide_eq_true h), Int.mul_one]
      exact Int.le_trans (by decide) h
    · rw [if_neg (fun z => h (of_decide_eq_true z)), Int.mul_zero]
      exact Int.le_refl 0
  have mo : ∀ c : Int, MulOk c (if decide ((10:Int) ^ Int.toNat 18 ≤ c) = true then 1 else 0) := by
    intro c
    refine MulOk.right ?_
    split <;> decide
  have fin : ∀ c : Int, (Hd.mk (c * (if decide ((10:Int) ^ Int.toNat 18 ≤ c) = true then 1 else 0)) (c % 2305843009213693951 + 7919 * k + 3) 0).ok 0 := fun c => ⟨e c, by show 0 ≤ c % 2305843009213693951 + 7919 * k + 3; omega, by show c % 2305843009213693951 + 7919 * k + 3 < _; omega, Int.le_refl 0, Int.le_refl 0⟩
  tm_at "dl"
  · obtain ⟨d, e1, e2⟩ := atI_mem (ds := ns.map PyData.int) h0 (by rename_i z; first | exact z | exact of_decide_eq_true z | (rw [List.length_map]; exact z) | (rw [List.length_map]; exact of_decide_eq_true z) | (simp only [decide_eq_true_eq, List.length_map] at z; rw [List.length_map]; exact z))
    obtain ⟨c, _, rfl⟩ := List.mem_map.mp e2
    refine optK_of e1 ?_
    have m := mo c
    tm_at "dl"
    exact q _ (fin c)
  · have m := mo 0
    tm_at "dl"
    exact q _ (fin 0)
theorem ok_law_great : ∀ as QD ED, S_law_great as QD ED → w_law_great (bodyEnds as QD fun _ _ => False) (startD n_law_great as) := by
  rintro as QD ED ⟨h, n, rfl, ho, hn, q⟩
  unfold n_law_great w_law_great
  tm_at "dstart"
  tm_at "dl"
  show forK _ _ [.int 0, .int 1, .int 2, .int 3] _ _
  have m0 : MulOk 0 ((10:Int) ^ Int.toNat 15) := MulOk.left (by decide)
  tm_at "dl"
  refine ⟨h, n, 1000000000000000, rfl, ho, by omega, by decide, log2_sm (by decide), fun h1 x1 o1 a1 b1 => ?_⟩
  have m1 := MulOk.right (i := 0 * (10:Int) ^ Int.toNat 15 + x1) (j := (10:Int) ^ Int.toNat 15) (by decide)
  tm_at "dl"
  refine ⟨h1, n + 1, 1000000000000000, rfl, o1, by omega, by decide, log2_sm (by decide), fun h2 x2 o2 a2 b2 => ?_⟩
  have m2 := MulOk.right (i := (0 * (10:Int) ^ Int.toNat 15 + x1) * (10:Int) ^ Int.toNat 15 + x2) (j := (10:Int) ^ Int.toNat 15) (by decide)
  tm_at "dl"
  refine ⟨h2, n + 2, 1000000000000000, rfl, o2, by omega, by decide, log2_sm (by decide), fun h3 x3 o3 a3 b3 => ?_⟩
  have m3 := MulOk.right (i := ((0 * (10:Int) ^ Int.toNat 15 + x1) * (10:Int) ^ Int.toNat 15 + x2) * (10:Int) ^ Int.toNat 15 + x3) (j := (10:Int) ^ Int.toNat 15) (by decide)
  tm_at "dl"
  refine ⟨h3, n + 3, 1000000000000000, rfl, o3, by omega, by decide, log2_sm (by decide), fun h4 x4 o4 a4 b4 => ?_⟩
  tm_at "dl"
  have e : (10:Int) ^ Int.toNat 15 = 1000000000000000 := by decide
  rw [e] at *
  exact q h4 ((((0 * 1000000000000000 + x1) * 1000000000000000 + x2) * 1000000000000000 + x3) * 1000000000000000 + x4) o4 (by omega) (by omega)
end CFH
end

section
set_option Elab.async false
set_option linter.all false
set_option maxRecDepth 100000
set_option maxHeartbeats 4000000
namespace CFCl
open PySem PySem.Spec PyProof.Rows L2 DL CFH
local macro_rules | `(tactic| tm_at "dpos") => `(tactic| first | omega | decide)
local macro_rules | `(tactic| tm_at "dlog") => `(tactic| first | exact log2_sm (by omega) | exact CFH.big_log (by omega) (by omega) | assumption | exact log2_sm (by decide))
local macro_rules | `(tactic| tm_at "dc") => `(tactic| ((with_reducible show CFH.S_law_take _ _ _); refine CFH.take_i (by assumption) (by omega) (by tm_at "dpos") (by tm_at "dlog") (fun _ _ _ _ _ => ?_)))
local macro_rules | `(tactic| tm_at "dc") => `(tactic| ((with_reducible show CFH.S_law_great _ _ _); refine CFH.great_i (by assumption) (by omega) (fun _ _ _ _ _ => ?_)))
local macro_rules | `(tactic| tm_at "dc") => `(tactic| ((with_reducible show CFH.S_law_whole _ _ _); refine CFH.whole_i ?_))
end CFCl
end

section
set_option Elab.async false
set_option linter.all false
set_option maxRecDepth 100000
set_option maxHeartbeats 4000000
namespace CFCh
open PySem PySem.Spec PyProof.Rows L2 DL CFH CFCl
local macro_rules | `(tactic| tm_at "dpos") => `(tactic| first | omega | decide)
local macro_rules | `(tactic| tm_at "dlog") => `(tactic| first | exact log2_sm (by omega) | exact CFH.big_log (by omega) (by omega) | assumption | exact log2_sm (by decide))
local macro_rules | `(tactic| tm_at "dc") => `(tactic| ((with_reducible show CFH.S_law_take _ _ _); refine CFH.take_i (by assumption) (by omega) (by tm_at "dpos") (by tm_at "dlog") (fun _ _ _ _ _ => ?_)))
local macro_rules | `(tactic| tm_at "dc") => `(tactic| ((with_reducible show CFH.S_law_great _ _ _); refine CFH.great_i (by assumption) (by omega) (fun _ _ _ _ _ => ?_)))
local macro_rules | `(tactic| tm_at "dc") => `(tactic| ((with_reducible show CFH.S_law_whole _ _ _); refine CFH.whole_i ?_))
local macro_rules | `(tactic| tm_at "dc") => `(tactic| ((with_reducible show S_law_moment _ _ _); refine moment_i (by assumption) (by omega) (fun _ _ _ _ _ => ?_)))
theorem ok_law_jumps : ∀ as QD ED, S_law_jumps as QD ED → w_law_jumps (bodyEnds as QD fun _ _ => False) (startD n_law_jumps as) := by
  rintro as QD ED ⟨h, n, rfl, ho, hn, q⟩
  unfold n_law_jumps w_law_jumps
  tm_at "dstart"
  tm_at "dl"
  rename_i h1 m o1 m0 m1
  have rl : (rangeD 0 m.toNat).length = m.toNat := rangeD_len
  refine forK_ind (fun ds ρ => ∃ (h : Hd) (k : Nat) (js : List Pr) (a : Int) (c3 c4 c5 : C) (L : List D), h.ok k ∧ k + 20 * ds.length ≤ n + 200 ∧ js.length + ds.length ≤ 8 ∧ Ris 0 js ∧ 0 ≤ a ∧ (∀ p ∈ js, p.1 ≤ a ∧ p.1 < big ∧ p.2 ≠ 0 ∧ -1440 ≤ p.2 ∧ p.2 ≤ 1440) ∧ ρ = [.own 1 (.lst (CFH.hd h)), .own 0 (.lst L), .v (.int a), c3, c4, c5] ∧ L = js.map cplD) ?_ ?_ _ _ ⟨h1, _, [], 0, _, _, _, _, o1, by omega, by show 0 + _ ≤ 8; omega, trivial, by omega, (fun p hp => by cases hp), rfl, rfl⟩
  · rintro ρ ⟨h2, k, js, a, c3, c4, c5, L, o2, hk, hl, hr, ha, hj, rfl, rfl⟩
    have lf := lf_js (js := js)
    tm_at "dl"
    exact q h2 js (o2.up hk) ⟨hr, hl, fun p hp => (hj p hp).2⟩
  · rintro d ds ρ next hnx ⟨h2, k, js, a, c3, c4, c5, L, o2, hk, hl, hr, ha, hj, rfl, rfl⟩
    clear q o1 rl m0 m1 ho
    rw [List.length_cons] at hk hl
    have e60 : (10 : Int) ^ Int.toNat 60 = 1000000000000000000000000000000000000000000000000000000000000 := by decide
    have leaf : ∀ (h3 : Hd) (k3 : Nat) (a3 b3 : Int) (c3 c4 : C), h3.ok k3 → k3 ≤ k + 15 → a < a3 → b3 ≠ 0 → -1440 ≤ b3 → b3 ≤ 1440 → (a3 < 10 ^ Int.toNat 60 → next [.own 1 (.lst (CFH.hd h3)), .own 0 (.lst (js.map cplD ++ [.tuple [.int a3, .int b3]])), .v (.int a3), c3, c4, .v (.int b3)]) ∧ next [.own 1 (.lst (CFH.hd h3)), .own 0 (.lst (js.map cplD)), .v (.int a3), c3, c4, .v (.int b3)] := by
      intro h3 k3 a3 b3 c3 c4 o3 hk3 hlt b0 b1 b2
      refine ⟨fun h60 => hnx _ ⟨h3, k3, js ++ [(a3, b3)], a3, _, _, _, _, o3, by omega, by rw [List.length_append, List.length_singleton]; omega, Ris_snoc hr (fun q hq => by have := (hj q hq).1; show q.1 < a3; omega) (by show 0 < a3; omega), by omega, fun p hp => ?_, rfl, by rw [List.map_append]; rfl⟩,
        hnx _ ⟨h3, k3, js, a3, _, _, _, _, o3, by omega, by omega, hr, by omega, fun p hp => ⟨by have := (hj p hp).1; omega, (hj p hp).2⟩, rfl, rfl⟩⟩
      rcases List.mem_append.mp hp with z | z
      · exact ⟨by have := (hj p z).1; omega, (hj p z).2⟩
      · rw [List.mem_singleton.mp z]
        exact ⟨Int.le_refl _, by rw [e60] at h60; exact h60, b0, b1, b2⟩
    clear hnx
    tm_at "dl"
    · rename_i h3 way o3 w0 w1 z
      obtain ⟨d2, ed, hd⟩ := atI_mem (ds := [PyData.int 1, PyData.int 5]) w0 (by show way < 2; omega)
      obtain ⟨t, rfl, t0, t1⟩ : ∃ t : Int, d2 = .int t ∧ 1 ≤ t ∧ t ≤ 5 := by
        simp only [List.mem_cons, List.not_mem_nil, or_false] at hd
        rcases hd with rfl | rfl <;> exact ⟨_, rfl, by decide, by decide⟩
      refine optK_of ed ?_
      tm_at "dl"
      refine pick_z [60, -60, 30, -30, 1, -1, 1440, -1440, 0, 0, 0] rfl (by assumption) (by omega) (by decide) (by decide) fun h4 r o4 e4 => ?_
      obtain ⟨r0, r1⟩ : -1440 ≤ r ∧ r ≤ 1440 := by
        simp only [List.mem_cons, List.not_mem_nil, or_false] at e4
        omega
      clear e4
      tm_at "dl"
      all_goals first | exact (leaf _ _ _ _ _ _ (by assumption) (by omega) (by omega) (by omega) (by omega) (by omega)).1 (by assumption) | exact (leaf _ _ _ _ _ _ (by assumption) (by omega) (by omega) (by omega) (by omega) (by omega)).2
    · refine pick_z [60, -60, 30, -30, 1, -1, 1440, -1440, 0, 0, 0] rfl (by assumption) (by omega) (by decide) (by decide) fun h4 r o4 e4 => ?_
      obtain ⟨r0, r1⟩ : -1440 ≤ r ∧ r ≤ 1440 := by
        simp only [List.mem_cons, List.not_mem_nil, or_false] at e4
        omega
      clear e4
      tm_at "dl"
      all_goals first | exact (leaf _ _ _ _ _ _ (by assumption) (by omega) (by omega) (by omega) (by omega) (by omega)).1 (by assumption) | exact (leaf _ _ _ _ _ _ (by assumption) (by omega) (by omega) (by omega) (by omega) (by omega)).2
    · refine pick_z [60, -60, 30, -30, 1, -1, 1440, -1440, 0, 0, 0] rfl (by assumption) (by omega) (by decide) (by decide) fun h4 r o4 e4 => ?_
      obtain ⟨r0, r1⟩ : -1440 ≤ r ∧ r ≤ 1440 := by
        simp only [List.mem_cons, List.not_mem_nil, or_false] at e4
        omega
      clear e4
      tm_at "dl"
      all_goals first | exact (leaf _ _ _ _ _ _ (by assumption) (by omega) (by omega) (by omega) (by omega) (by omega)).1 (by assumption) | exact (leaf _ _ _ _ _ _ (by assumption) (by omega) (by omega) (by omega) (by omega) (by omega)).2
end CFCh
end

section
set_option Elab.async false
set_option linter.all false
set_option maxRecDepth 100000
set_option maxHeartbeats 4000000
namespace CFCh
open PySem PySem.Spec PyProof.Rows L2 DL CFH CFCl
local macro_rules | `(tactic| tm_at "dpos") => `(tactic| first | omega | decide)
local macro_rules | `(tactic| tm_at "dlog") => `(tactic| first | exact log2_sm (by omega) | exact CFH.big_log (by omega) (by omega) | assumption | exact log2_sm (by decide))
local macro_rules | `(tactic| tm_at "dc") => `(tactic| ((with_reducible show CFH.S_law_take _ _ _); refine CFH.take_i (by assumption) (by omega) (by tm_at "dpos") (by tm_at "dlog") (fun _ _ _ _ _ => ?_)))
local macro_rules | `(tactic| tm_at "dc") => `(tactic| ((with_reducible show CFH.S_law_great _ _ _); refine CFH.great_i (by assumption) (by omega) (fun _ _ _ _ _ => ?_)))
local macro_rules | `(tactic| tm_at "dc") => `(tactic| ((with_reducible show CFH.S_law_whole _ _ _); refine CFH.whole_i ?_))
local macro_rules | `(tactic| tm_at "dc") => `(tactic| ((with_reducible show S_law_moment _ _ _); refine moment_i (by assumption) (by omega) (fun _ _ _ _ _ => ?_)))
theorem ok_law_moment : ∀ as QD ED, S_law_moment as QD ED → w_law_moment (bodyEnds as QD fun _ _ => False) (startD n_law_moment as) := by
  rintro as QD ED ⟨h, n, rfl, ho, hn, q⟩
  unfold n_law_moment w_law_moment
  tm_at "dstart"
  tm_at "dl"
  · exact q _ _ (Hd.ok.up (by assumption) (by omega)) (by assumption) (by unfold big; omega)
  · exact q _ _ (Hd.ok.up (by assumption) (by omega)) (by assumption) (by unfold big; omega)
  · exact q _ _ (Hd.ok.up (by assumption) (by omega)) (by assumption) (by unfold big; omega)
  · rw [pow60]
    exact q _ _ (Hd.ok.up (by assumption) (by omega)) (by unfold big; omega) (by unfold big; omega)
end CFCh
end

section
set_option Elab.async false
set_option linter.all false
set_option maxRecDepth 100000
set_option maxHeartbeats 4000000
namespace CFLy
open PySem PySem.Spec PyProof.Rows L2 DL CFH CFCl CFRu CFWd CFBk CFCg
local macro_rules | `(tactic| tm_at "dpos") => `(tactic| first | omega | decide)
local macro_rules | `(tactic| tm_at "dlog") => `(tactic| first | exact log2_sm (by omega) | exact CFH.big_log (by omega) (by omega) | assumption | exact log2_sm (by decide))
local macro_rules | `(tactic| tm_at "dc") => `(tactic| ((with_reducible show CFH.S_law_take _ _ _); refine CFH.take_i (by assumption) (by omega) (by tm_at "dpos") (by tm_at "dlog") (fun _ _ _ _ _ => ?_)))
local macro_rules | `(tactic| tm_at "dc") => `(tactic| ((with_reducible show CFH.S_law_great _ _ _); refine CFH.great_i (by assumption) (by omega) (fun _ _ _ _ _ => ?_)))
local macro_rules | `(tactic| tm_at "dc") => `(tactic| ((with_reducible show CFH.S_law_whole _ _ _); refine CFH.whole_i ?_))
theorem ok_law_minute : ∀ as QD ED, S_law_minute as QD ED → w_law_minute (bodyEnds as QD fun _ _ => False) (startD n_law_minute as) := by
  rintro as QD ED ⟨h, n, m, rfl, ho, hn, m1, m2, q⟩
  unfold n_law_minute w_law_minute
  have mo : ∀ x : Int, MulOk 1440 x := fun x => MulOk.left (by decide)
  tm_at "dstart"
  tm_at "dl"
  · exact q _ _ (Hd.ok.up (by assumption) (by omega)) (by omega) (by omega)
  · refine pick_z [480, 540, 1020, 1080, 1320, 360] rfl (by assumption) (by omega) (by decide) (by decide) fun h4 r o4 e4 => ?_
    obtain ⟨r0, r1⟩ : 0 ≤ r ∧ r ≤ 1440 := by
      simp only [List.mem_cons, List.not_mem_nil, or_false] at e4
      omega
    clear e4
    tm_at "dl"
    exact q _ _ (Hd.ok.up (by assumption) (by omega)) (by omega) (by omega)
  · exact q _ _ (Hd.ok.up (by assumption) (by omega)) (by omega) (by omega)
theorem ok_law_layer : ∀ as QD ED, S_law_layer as QD ED → w_law_layer (bodyEnds as QD fun _ _ => False) (startD n_law_layer as) := by
  rintro as QD ED ⟨h, n, wd, ws, days, most, rfl, ho, hn, hw, w0, w1, hws, d1, d2, m0, m1, q⟩
  unfold n_law_layer w_law_layer
  have mo : ∀ x : Int, MulOk 1440 x := fun x => MulOk.left (by decide)
  tm_at "dstart"
  tm_at "dl"
  · rename_i h1 x o1 x0 x1 h2 y o2 y0 y1 h3 w o3 w2 w3 z
    obtain ⟨s0, s1⟩ : 0 ≤ x * y ∧ x * y < 1440 * days := by
      rcases (show y = 0 ∨ y = 1 by omega) with rfl | rfl
      · rw [Int.mul_zero]; omega
      · rw [Int.mul_one]; omega
    generalize x * y = st at s0 s1 ⊢
    refine pick_i o3 (by omega) (by rw [List.length_map]; exact w0) (by rw [List.length_map]; omega) fun h4 nm o4 hnm => ?_
    obtain ⟨v, hv, rfl⟩ := List.mem_map.mp hnm
    tm_at "dl"
    exact q h4 ⟨wd, st, days, [(0, 1440 * days, v)]⟩ (o4.up (by omega)) ⟨hw, d1, d2, s0, s1, ⟨Int.le_refl _, by show (0 : Int) < 1440 * days; omega, Int.le_refl _, hws v hv, trivial⟩⟩ rfl rfl (fun t ht => by rw [List.mem_singleton.mp ht]; exact hv) (.inr (Nat.le_refl 1))
  · rename_i h1 x o1 x0 x1 h2 y o2 y0 y1 h3 w o3 w2 w3 z
    obtain ⟨s0, s1⟩ : 0 ≤ x * y ∧ x * y < 1440 * days := by
      rcases (show y = 0 ∨ y = 1 by omega) with rfl | rfl
      · rw [Int.mul_zero]; omega
      · rw [Int.mul_one]; omega
    generalize x * y = st at s0 s1 ⊢
    tm_at "dlc"
    have rl : (rangeD 0 (1 + most).toNat).length = (1 + most).toNat := rangeD_len
    refine lcK_ind (fun es acc ρ => ∃ (h : Hd) (kk : Nat) (ms : List Int), h.ok kk ∧ kk + 4 * es.length ≤ n + 100 ∧ acc = ms.map PyData.int ∧ ((ms.length + es.length : Nat) : Int) = 1 + most ∧ (∀ m ∈ ms, 0 ≤ m ∧ m ≤ 1440 * days) ∧ ρ = [.own 1 (.lst (CFH.hd h)), .v (.str wd), .v (wsD ws), .v (.int days), .v (.int most), .v (.int st), .no, .no, .no, .no]) ?_ ?_ _ _ _ ⟨h3, _, [], o3, by omega, rfl, by rw [List.length_nil]; omega, (fun m hm => by cases hm), rfl⟩
    · rintro acc ρ ⟨h4, kk, ms, o4, hk, rfl, hms, hb, rfl⟩
      rw [List.length_nil] at hms hk
      have lm : ms.length ≤ 4000 := by omega
      tm_at "dl"
      intro es p1 p2 p3
      have eb : ∀ m ∈ es, 0 ≤ m ∧ m ≤ 1440 * days := fun m hm => hb m ((p2 m).mp hm)
      have el : ((es.length : Nat) : Int) ≤ 1 + most := by omega
      have em : (es.map PyData.int).length = es.length := List.length_map ..
      have g : ∀ k, k + 1 < es.length → ∃ a b, (es.map PyData.int)[k]? = some (.int a) ∧ (es.map PyData.int)[k + 1]? = some (.int b) ∧ a < b ∧ 0 ≤ a ∧ b ≤ 1440 * days ∧ es[k]? = some a ∧ es[k + 1]? = some b := fun k hk => by
        refine ⟨es[k], es[k + 1], ?_, ?_, List.pairwise_iff_getElem.mp p1 k (k + 1) (by omega) hk (by omega), (eb _ (List.getElem_mem _)).1, (eb _ (List.getElem_mem _)).2, List.getElem?_eq_getElem (by omega), List.getElem?_eq_getElem hk⟩
        · rw [List.getElem?_map, List.getElem?_eq_getElem (by omega)]; rfl
        · rw [List.getElem?_map, List.getElem?_eq_getElem hk]; rfl
      clear p1 p2 p3 hb eb
      tm_at "dl"
      refine forK_ind (fun ds ρ => ∃ (h : Hd) (kk k : Nat) (ts : List Trn) (c6 : C), ds = rangeD (k : Int) (es.length - 1 - k) ∧ k ≤ es.length - 1 ∧ h.ok kk ∧ kk + 2 * (es.length - 1 - k) ≤ n + 190 ∧ TrnsOk (1440 * days) 0 ts ∧ (∀ a, es[k]? = some a → ∀ u ∈ ts, u.2.1 ≤ a) ∧ ts.length ≤ k ∧ (∀ t ∈ ts, t.2.2 ∈ ws) ∧ ρ = [.own 1 (.lst (CFH.hd h)), .v (.str wd), .v (wsD ws), .v (.int days), .v (.int most), .v (.int st), c6, .v (.list (es.map PyData.int)), .own 0 (.lst (ts.map trnD)), .no]) ?_ ?_ _ _ ⟨h4, kk, 0, [], _, ?_, Nat.zero_le _, o4, by omega, trivial, (fun a _ u hu => by cases hu), Nat.zero_le _, (fun u hu => by cases hu), rfl⟩
      · rintro ρ ⟨h5, kk5, k, ts, c6, hd, hk5, o5, hkk, ht, _, hl, hh, rfl⟩
        have lf : C.lf (.own 0 (.lst (ts.map trnD))) = true := lfreeAll_of fun d hd => by
          obtain ⟨x, _, rfl⟩ := List.mem_map.mp hd
          rfl
        clear g
        tm_at "dl"
        exact q h5 ⟨wd, st, days, ts⟩ (o5.up (by omega)) ⟨hw, d1, d2, s0, s1, ht⟩ rfl rfl hh (.inl (by show ((ts.length : Nat) : Int) ≤ most; omega))
      · rintro d ds ρ next hnx ⟨h5, kk5, k, ts, c6, hd, hk5, o5, hkk, ht, hu, hl, hh, rfl⟩
        have hkl : k + 1 < es.length := by
          rcases Nat.lt_or_ge (k + 1) es.length with z | z
          · exact z
          · rw [show es.length - 1 - k = 0 by omega, rangeD_zero] at hd; cases hd
        rw [show es.length - 1 - k = (es.length - 1 - (k + 1)) + 1 by omega, rangeD_cons] at hd
        obtain ⟨rfl, rfl⟩ : d = .int (k : Nat) ∧ ds = rangeD ((k : Int) + 1) (es.length - 1 - (k + 1)) := by
          cases hd
          exact ⟨rfl, rfl⟩
        clear hd q
        obtain ⟨a, b, g1, g2, ab, a0, b1, ea, eb⟩ := g k hkl
        have leaf : ∀ (h6 : Hd) (k6 : Nat) (v : Str) (c6 : C), h6.ok k6 → k6 ≤ kk5 + 2 → (v ∈ ws → next [.own 1 (.lst (CFH.hd h6)), .v (.str wd), .v (wsD ws), .v (.int days), .v (.int most), .v (.int st), c6, .v (.list (es.map PyData.int)), .own 0 (.lst (ts.map trnD ++ [.tuple [.int a, .int b, .str v]])), .no]) ∧ next [.own 1 (.lst (CFH.hd h6)), .v (.str wd), .v (wsD ws), .v (.int days), .v (.int most), .v (.int st), c6, .v (.list (es.map PyData.int)), .own 0 (.lst (ts.map trnD)), .no] := fun h6 k6 v c6 o6 hk6 => by
          refine ⟨fun hv => hnx _ ⟨h6, k6, k + 1, ts ++ [(a, b, v)], c6, by push_cast; rfl, by omega, o6, by omega, trns_app ht (hu a ea) a0 ab b1 (hws v hv), fun a' e' u hu' => ?_, by rw [List.length_append, List.length_singleton]; omega, fun t ht' => ?_, by rw [List.map_append]; rfl⟩, hnx _ ⟨h6, k6, k + 1, ts, c6, by push_cast; rfl, by omega, o6, by omega, ht, fun a' e' u hu' => ?_, by omega, hh, rfl⟩⟩
          · rw [eb] at e'
            cases e'
            rcases List.mem_append.mp hu' with z | z
            · have := hu a ea u z; omega
            · rw [List.mem_singleton.mp z]; exact Int.le_refl _
          · rcases List.mem_append.mp ht' with z | z
            · exact hh t z
            · rw [List.mem_singleton.mp z]; exact hv
          · rw [eb] at e'
            cases e'
            have := hu a ea u hu'
            omega
        have sz : (ts.map trnD).length < sizeLine := by rw [List.length_map, sizeLine_eq]; omega
        clear hnx g hu ht hh
        tm_at "dl"
        · refine optK_of (L2.atI_nat g1) ?_
          tm_at "dl"
          refine optK_of (show atI (es.map PyData.int) ((k : Int) + 1) = some (.int b) from L2.atI_nat g2) ?_
          tm_at "dl"
          refine pick_i (by assumption) (by omega) (by rw [List.length_map]; exact w0) (by rw [List.length_map]; omega) fun h7 nm o7 hnm => ?_
          obtain ⟨v, hv, rfl⟩ := List.mem_map.mp hnm
          tm_at "dl"
          exact (leaf h7 _ v _ o7 (by omega)).1 hv
        · exact (leaf _ _ wd _ (by assumption) (by omega)).2
      · rw [em]
        show rangeD 0 _ = _
        congr 1
        omega
    · rintro d es acc ρ nx hnx ⟨h4, kk, ms, o4, hk, rfl, hms, hb, rfl⟩
      rw [List.length_cons] at hms hk
      tm_at "dl"
      refine minute_i o4 (by omega) d1 (by omega) fun h5 x5 o5 x50 x51 => ?_
      tm_at "dl"
      refine hnx _ _ ⟨h5, _, ms ++ [x5], o5, by omega, by rw [List.map_append]; rfl, by rw [List.length_append, List.length_singleton]; omega, fun m hm => ?_, rfl⟩
      rcases List.mem_append.mp hm with z | z
      · exact hb m z
      · rw [List.mem_singleton.mp z]; exact ⟨x50, x51⟩
end CFLy
end

section
set_option Elab.async false
set_option linter.all false
set_option maxRecDepth 100000
set_option maxHeartbeats 4000000
namespace CFCg
open PySem PySem.Spec PyProof.Rows L2 DL CFH CFCl CFRu CFWd CFBk CFCh
local macro_rules | `(tactic| tm_at "dpos") => `(tactic| first | omega | decide)
local macro_rules | `(tactic| tm_at "dlog") => `(tactic| first | exact log2_sm (by omega) | exact CFH.big_log (by omega) (by omega) | assumption | exact log2_sm (by decide))
local macro_rules | `(tactic| tm_at "dc") => `(tactic| ((with_reducible show CFH.S_law_take _ _ _); refine CFH.take_i (by assumption) (by omega) (by tm_at "dpos") (by tm_at "dlog") (fun _ _ _ _ _ => ?_)))
local macro_rules | `(tactic| tm_at "dc") => `(tactic| ((with_reducible show CFH.S_law_great _ _ _); refine CFH.great_i (by assumption) (by omega) (fun _ _ _ _ _ => ?_)))
local macro_rules | `(tactic| tm_at "dc") => `(tactic| ((with_reducible show CFH.S_law_whole _ _ _); refine CFH.whole_i ?_))
local macro_rules | `(tactic| tm_at "dc") => `(tactic| ((with_reducible show CFCh.S_law_moment _ _ _); refine moment_i (by assumption) (by omega) (fun _ _ _ _ _ => ?_)))
theorem wrap {a d L : Int} (a0 : 0 ≤ a) (a1 : a < L) (d0 : 0 ≤ d) (d1 : d < L - 1) : ∃ j : Nat, (a + 1 + d) % L = j ∧ (j : Int) < L ∧ (j : Int) ≠ a := by
  by_cases z : a + 1 + d < L
  · exact ⟨(a + 1 + d).toNat, by rw [Int.emod_eq_of_lt (by omega) z]; omega, by omega, by omega⟩
  · refine ⟨(a + 1 + d - L).toNat, ?_, by omega, by omega⟩
    rw [← Int.sub_emod_right, Int.emod_eq_of_lt (by omega) (by omega)]
    omega
theorem ok_law_change : ∀ as QD ED, S_law_change as QD ED → w_law_change (bodyEnds as QD fun _ _ => False) (startD n_law_change as) := by
  rintro as QD ED ⟨h, n, ws, low, rfl, ho, hn, hw, w0, w1, l0, q⟩
  unfold n_law_change w_law_change
  have g : ∀ j : Nat, j < ws.length → ∃ x, (ws.map PyData.str)[j]? = some (.str x) ∧ ws[j]? = some x := fun j hj => ⟨ws[j], by rw [List.getElem?_map, List.getElem?_eq_getElem hj]; rfl, List.getElem?_eq_getElem hj⟩
  have nd : ∀ (i j : Nat) (x y : Str), ws[i]? = some x → ws[j]? = some y → i ≠ j → x ≠ y := fun i j x y e1 e2 ne z => by
    subst z
    obtain ⟨i1, e1⟩ := List.getElem?_eq_some_iff.mp e1
    obtain ⟨j1, e2⟩ := List.getElem?_eq_some_iff.mp e2
    exact ne ((List.getElem_inj hw.nd).mp (e1.trans e2.symm))
  have leaf : ∀ (h3 : Hd) (b : Int) (eo : Option Int) (x : Str) , h3.ok (n + 30) → 0 ≤ b → b ≤ big - 2 → (∀ e, eo = some e → b < e ∧ e ≤ big - 1) → x ∈ ws →
      QD (.v (chgD (.away x b eo))) [hc h3, .v (wsD ws), .v (.int low)] ∧ QD (.v (chgD (.on x b eo))) [hc h3, .v (wsD ws), .v (.int low)] ∧ ∀ y, y ∈ ws → x ≠ y → QD (.v (chgD (.stand x y b eo))) [hc h3, .v (wsD ws), .v (.int low)] := fun h3 b eo x o b0 b1 he hx => by
    have he' : ∀ e, eo = some e → b < e ∧ e < big := fun e z => ⟨(he e z).1, by have := (he e z).2; omega⟩
    exact ⟨q h3 _ o ⟨hw.ok x hx, b0, by show b < big; omega, he'⟩ hx, q h3 _ o ⟨hw.ok x hx, b0, by show b < big; omega, he'⟩ hx, fun y hy ne => q h3 _ o ⟨⟨hw.ok x hx, hw.ok y hy, ne⟩, b0, by show b < big; omega, he'⟩ ⟨hx, hy, ne⟩⟩
  clear q
  have hb : (2 : Int) ≤ big := by decide
  have wl : (ws.map PyData.str).length = ws.length := List.length_map ..
  tm_at "dstart"
  tm_at "dl"
  all_goals first
    | (refine pick_i (by assumption) (by omega) (by decide) (by decide) fun h5 kd o5 hkd => ?_
       have hkd : kd = .str "away" ∨ kd = .str "on" := by
         simp only [List.mem_cons, List.not_mem_nil, or_false] at hkd
         rcases hkd with z | z | z
         · exact .inl z
         · exact .inl z
         · exact .inr z
       tm_at "dl"
       refine pick_i (by assumption) (by omega) (by omega) (by omega) fun h6 nm o6 hnm => ?_
       obtain ⟨x, hx, rfl⟩ := List.mem_map.mp hnm
       rcases hkd with rfl | rfl
       all_goals
         tm_at "dl"
         simp only [pow60]
         first
           | exact (leaf _ _ none x (o6.up (by omega)) (by omega) (by omega) (fun e z => nomatch z) hx).1
           | exact (leaf _ _ none x (o6.up (by omega)) (by omega) (by omega) (fun e z => nomatch z) hx).2.1
           | exact (leaf _ _ (some _) x (o6.up (by omega)) (by omega) (by omega) (fun e z => by cases z; omega) hx).1
           | exact (leaf _ _ (some _) x (o6.up (by omega)) (by omega) (by omega) (fun e z => by cases z; omega) hx).2.1)
    | (rename_i h5 a o5 a0 a1 h6 d o6 d0 d1
       rw [wl] at a1 d1
       obtain ⟨j, ej, j1, jn⟩ := wrap a0 a1 d0 d1
       obtain ⟨a, rfl⟩ := Int.eq_ofNat_of_zero_le a0
       obtain ⟨x, gx, ex⟩ := g a (by omega)
       obtain ⟨y, gy, ey⟩ := g j (by omega)
       have ne := nd a j x y ex ey (by omega)
       refine optK_of (L2.atI_nat gx) ?_
       tm_at "dl"
       rw [wl, ej]
       refine optK_of (L2.atI_nat gy) ?_
       tm_at "dl"
       simp only [pow60]
       first
         | exact (leaf _ _ none x (o6.up (by omega)) (by omega) (by omega) (fun e z => nomatch z) (List.mem_of_getElem? ex)).2.2 y (List.mem_of_getElem? ey) ne
         | exact (leaf _ _ (some _) x (o6.up (by omega)) (by omega) (by omega) (fun e z => by cases z; omega) (List.mem_of_getElem? ex)).2.2 y (List.mem_of_getElem? ey) ne)
end CFCg
end

section
set_option Elab.async false
set_option linter.all false
set_option maxRecDepth 100000
set_option maxHeartbeats 4000000
namespace CFJn
open PySem PySem.Spec PyProof.Rows L2 DL CFH CFCl CFCh
local macro_rules | `(tactic| tm_at "dpos") => `(tactic| first | omega | decide)
local macro_rules | `(tactic| tm_at "dlog") => `(tactic| first | exact log2_sm (by omega) | exact CFH.big_log (by omega) (by omega) | assumption | exact log2_sm (by decide))
local macro_rules | `(tactic| tm_at "dc") => `(tactic| ((with_reducible show CFH.S_law_take _ _ _); refine CFH.take_i (by assumption) (by omega) (by tm_at "dpos") (by tm_at "dlog") (fun _ _ _ _ _ => ?_)))
local macro_rules | `(tactic| tm_at "dc") => `(tactic| ((with_reducible show CFH.S_law_great _ _ _); refine CFH.great_i (by assumption) (by omega) (fun _ _ _ _ _ => ?_)))
local macro_rules | `(tactic| tm_at "dc") => `(tactic| ((with_reducible show CFH.S_law_whole _ _ _); refine CFH.whole_i ?_))
local macro_rules | `(tactic| tm_at "dc") => `(tactic| ((with_reducible show CFCh.S_law_moment _ _ _); refine moment_i (by assumption) (by omega) (fun _ _ _ _ _ => ?_)))
theorem ok_law_jumps : ∀ as QD ED, S_law_jumps as QD ED → w_law_jumps (bodyEnds as QD fun _ _ => False) (startD n_law_jumps as) := by
  rintro as QD ED ⟨h, n, mo, rfl, ho, hn, mo0, mo1, q⟩
  unfold n_law_jumps w_law_jumps
  tm_at "dstart"
  tm_at "dl"
  rename_i h1 m o1 m0 m1
  have rl : (rangeD 0 m.toNat).length = m.toNat := rangeD_len
  refine forK_ind (fun ds ρ => ∃ (h : Hd) (k : Nat) (js : List Pr) (a : Int) (c3 c4 c5 : C) (L : List D), h.ok k ∧ k + 20 * ds.length ≤ n + 200 ∧ ((js.length + ds.length : Nat) : Int) ≤ mo ∧ Ris 0 js ∧ 0 ≤ a ∧ (∀ p ∈ js, p.1 ≤ a ∧ p.1 < big ∧ p.2 ≠ 0 ∧ -1440 ≤ p.2 ∧ p.2 ≤ 1440) ∧ ρ = [.own 1 (.lst (CFH.hd h)), .v (.int mo), .own 0 (.lst L), .v (.int a), c3, c4, c5] ∧ L = js.map cplD) ?_ ?_ _ _ ⟨h1, _, [], 0, _, _, _, _, o1, by omega, by rw [List.length_nil]; omega, trivial, by omega, (fun p hp => by cases hp), rfl, rfl⟩
  · rintro ρ ⟨h2, k, js, a, c3, c4, c5, L, o2, hk, hl, hr, ha, hj, rfl, rfl⟩
    have lf := lf_js (js := js)
    rw [List.length_nil] at hl
    tm_at "dl"
    exact q h2 js (o2.up hk) ⟨hr, by omega, fun p hp => (hj p hp).2⟩ (by omega)
  · rintro d ds ρ next hnx ⟨h2, k, js, a, c3, c4, c5, L, o2, hk, hl, hr, ha, hj, rfl, rfl⟩
    clear q o1 rl m0 m1 ho
    rw [List.length_cons] at hk hl
    have e60 : (10 : Int) ^ Int.toNat 60 = 1000000000000000000000000000000000000000000000000000000000000 := by decide
    have leaf : ∀ (h3 : Hd) (k3 : Nat) (a3 b3 : Int) (c3 c4 : C), h3.ok k3 → k3 ≤ k + 15 → a < a3 → b3 ≠ 0 → -1440 ≤ b3 → b3 ≤ 1440 → (a3 < 10 ^ Int.toNat 60 → next [.own 1 (.lst (CFH.hd h3)), .v (.int mo), .own 0 (.lst (js.map cplD ++ [.tuple [.int a3, .int b3]])), .v (.int a3), c3, c4, .v (.int b3)]) ∧ next [.own 1 (.lst (CFH.hd h3)), .v (.int mo), .own 0 (.lst (js.map cplD)), .v (.int a3), c3, c4, .v (.int b3)] := by
      intro h3 k3 a3 b3 c3 c4 o3 hk3 hlt b0 b1 b2
      refine ⟨fun h60 => hnx _ ⟨h3, k3, js ++ [(a3, b3)], a3, _, _, _, _, o3, by omega, by rw [List.length_append, List.length_singleton]; omega, Ris_snoc hr (fun q hq => by have := (hj q hq).1; show q.1 < a3; omega) (by show 0 < a3; omega), by omega, fun p hp => ?_, rfl, by rw [List.map_append]; rfl⟩,
        hnx _ ⟨h3, k3, js, a3, _, _, _, _, o3, by omega, by omega, hr, by omega, fun p hp => ⟨by have := (hj p hp).1; omega, (hj p hp).2⟩, rfl, rfl⟩⟩
      rcases List.mem_append.mp hp with z | z
      · exact ⟨by have := (hj p z).1; omega, (hj p z).2⟩
      · rw [List.mem_singleton.mp z]
        exact ⟨Int.le_refl _, by rw [e60] at h60; exact h60, b0, b1, b2⟩
    have l9 : js.length ≤ 8 := by omega
    clear hnx hj
    tm_at "dl"
    all_goals
      refine pick_z [60, -60, 30, -30, 1, -1, 1440, -1440, 0, 0] rfl (by assumption) (by omega) (by decide) (by decide) fun h4 r o4 e4 => ?_
      obtain ⟨r0, r1⟩ : -1440 ≤ r ∧ r ≤ 1440 := by
        simp only [List.mem_cons, List.not_mem_nil, or_false] at e4
        omega
      clear e4
      tm_at "dl"
    all_goals first | exact (leaf _ _ _ _ _ _ (by assumption) (by omega) (by omega) (by omega) (by omega) (by omega)).1 (by assumption) | exact (leaf _ _ _ _ _ _ (by assumption) (by omega) (by omega) (by omega) (by omega) (by omega)).2
end CFJn
end

section
set_option Elab.async false
set_option linter.all false
set_option maxRecDepth 100000
set_option maxHeartbeats 4000000
namespace CFWd
open PySem PySem.Spec PyProof.Rows L2 DL CFH
local macro_rules | `(tactic| tm_at "dpos") => `(tactic| first | omega | decide)
local macro_rules | `(tactic| tm_at "dlog") => `(tactic| first | exact log2_sm (by omega) | exact CFH.big_log (by omega) (by omega) | assumption | exact log2_sm (by decide))
local macro_rules | `(tactic| tm_at "dc") => `(tactic| ((with_reducible show CFH.S_law_take _ _ _); refine CFH.take_i (by assumption) (by omega) (by tm_at "dpos") (by tm_at "dlog") (fun _ _ _ _ _ => ?_)))
local macro_rules | `(tactic| tm_at "dc") => `(tactic| ((with_reducible show CFH.S_law_great _ _ _); refine CFH.great_i (by assumption) (by omega) (fun _ _ _ _ _ => ?_)))
local macro_rules | `(tactic| tm_at "dc") => `(tactic| ((with_reducible show CFH.S_law_whole _ _ _); refine CFH.whole_i ?_))
theorem ok_law_words : ∀ as QD ED, S_law_words as QD ED → w_law_words (bodyEnds as QD fun _ _ => False) (startD n_law_words as) := by
  rintro as QD ED ⟨h, n, m, rfl, ho, hn, m0, m1, q⟩
  unfold n_law_words w_law_words
  have sz : (Str.ofString "abcdefghijklmnopqrstuvwxyz0123456789").length ≤ sizeLine := sg_sz
  tm_at "dstart"
  tm_at "dl"
  rename_i h1 b0 o1 b00 b01
  refine pick_z [1, 5, 7, 11, 13, 17] rfl o1 (by omega) (by decide) (by decide) fun h2 st o2 hst => ?_
  obtain ⟨st, rfl, hs6, st17⟩ : ∃ k : Nat, st = k ∧ (fun k : Nat => k = 1 ∨ k = 5 ∨ k = 7 ∨ k = 11 ∨ k = 13 ∨ k = 17) k ∧ k ≤ 17 := by
    have hst : st = 1 ∨ st = 5 ∨ st = 7 ∨ st = 11 ∨ st = 13 ∨ st = 17 := by simpa using hst
    exact ⟨st.toNat, by omega, by show _ ∨ _; omega, by omega⟩
  clear hst
  tm_at "dl"
  rename_i h3 x o3 x0 x1
  obtain ⟨x, rfl⟩ := Int.eq_ofNat_of_zero_le x0
  have hx : x < 36 := by omega
  refine optK_of (L2.atI_nat (sg_at hx)) ?_
  have hc := sg_mem hx
  generalize sgAt x = c at hc
  tm_at "dl"
  refine pick_z [0, 1, 0, 2, 7] rfl o3 (by omega) (by decide) (by decide) fun h4 r o4 hr => ?_
  obtain ⟨r, rfl, hr7⟩ : ∃ k : Nat, r = k ∧ k ≤ 7 := by
    simp only [List.mem_cons, List.not_mem_nil, or_false] at hr
    exact ⟨r.toNat, by omega, by omega⟩
  clear hr
  have l1 : (⟨#[c]⟩ : Str).length ≤ 1000 := by show (T [c]).length ≤ 1000; rw [T_len]; exact Nat.le_of_ble_eq_true rfl
  have er : repS ⟨#[c]⟩ (r : Int).toNat = T (List.replicate r c) := by
    rw [Int.toNat_natCast]
    show repS (T [c]) r = _
    rw [T_rep, flat_rep]
  have el : (T (List.replicate r c)).length = r := by rw [T_len, List.length_replicate]
  tm_at "dl"
  rw [er, el]
  tm_at "dl"
  rename_i h5 a o5 a0 a1 h6 s o6 s0 s1
  obtain ⟨a, rfl⟩ := Int.eq_ofNat_of_zero_le a0
  have har : a ≤ r := by omega
  have sz2 : (T (List.replicate r c)).length ≤ sizeLine := by rw [el, sizeLine_eq]; omega
  have ea : cutS (T (List.replicate r c)) (some (a : Int)) none = T (List.replicate (r - a) c) := by
    rw [T_drop (by rw [List.length_replicate]; exact har), List.drop_replicate]
  have eb : cutS (T (List.replicate r c)) none (some (a : Int)) = T (List.replicate a c) := by
    rw [T_take (by rw [List.length_replicate]; exact har), List.take_replicate, Nat.min_eq_left har]
  obtain ⟨b0, rfl⟩ := Int.eq_ofNat_of_zero_le b00
  obtain ⟨m, rfl⟩ := Int.eq_ofNat_of_zero_le m0
  have fin := fun k (hk : k ≤ 36) => words_ok (c := c) (a := a) (b := r - a) (short := decide (s = 1)) (b0 := b0) (st := st) (n := k) hs6 hk hc (by omega)
  refine forK_ind (fun ds ρ => ∃ (k : Nat) (c9 c10 c11 : C), ds = rangeD (k : Int) (m - k) ∧ k ≤ m ∧ ρ = [CFH.hc h6, .v (.int m), .v (.str (Str.ofString "abcdefghijklmnopqrstuvwxyz0123456789")), .v (.int b0), .v (.int st), .v (.str (T (List.replicate r c))), .v (.int a), .v (.int s), .own 0 (.lst (((List.range k).map fun i => T (wordL c a (r - a) (decide (s = 1)) b0 st i)).map PyData.str)), c9, c10, c11]) ?_ ?_ _ _ ⟨0, _, _, _, by rw [Int.toNat_natCast]; rfl, Nat.zero_le _, rfl⟩
  · rintro ρ ⟨k, c9, c10, c11, hd, hk, rfl⟩
    have : k = m := by
      rcases Nat.lt_or_ge k m with z | z
      · rw [show m - k = (m - k - 1) + 1 by omega, rangeD_cons] at hd; cases hd
      · omega
    subst this
    tm_at "dl"
    exact q h6 _ (o6.up (by omega)) (by simp) (fin k (by omega))
  · rintro d ds ρ next hnx ⟨k, c9, c10, c11, hd, hk, rfl⟩
    have hkm : k < m := by
      rcases Nat.lt_or_ge k m with z | z
      · exact z
      · rw [show m - k = 0 by omega, rangeD_zero] at hd; cases hd
    rw [show m - k = (m - (k + 1)) + 1 by omega, rangeD_cons] at hd
    obtain ⟨rfl, rfl⟩ : d = .int (k : Nat) ∧ ds = rangeD ((k : Int) + 1) (m - (k + 1)) := by
      cases hd
      exact ⟨rfl, rfl⟩
    clear hd
    have mo : MulOk (st : Int) (k : Int) := MulOk.left ⟨by omega, by omega⟩
    have ei : ((b0 : Int) + (st : Int) * (k : Int)) % 36 = (((b0 + st * k) % 36 : Nat) : Int) := by push_cast; rfl
    have hj : (b0 + st * k) % 36 < 36 := Nat.mod_lt _ (by decide)
    have hsg := sg_at hj
    have leaf : ∀ (c9 c10 c11 : C) (w : Str), w = T (wordL c a (r - a) (decide (s = 1)) b0 st k) → next [CFH.hc h6, .v (.int m), .v (.str (Str.ofString "abcdefghijklmnopqrstuvwxyz0123456789")), .v (.int b0), .v (.int st), .v (.str (T (List.replicate r c))), .v (.int a), .v (.int s), .own 0 (.lst (((List.range k).map fun i => T (wordL c a (r - a) (decide (s = 1)) b0 st i)).map PyData.str ++ [.str w])), c9, c10, c11] := fun c9 c10 c11 w hw => hnx _ ⟨k + 1, c9, c10, c11, by push_cast; rfl, hkm, by rw [List.range_succ, List.map_append, List.map_append, hw]; rfl⟩
    clear hnx fin q
    have lf : (((List.range k).map fun i => T (wordL c a (r - a) (decide (s = 1)) b0 st i)).map PyData.str).length < sizeLine := by
      rw [List.length_map, List.length_map, List.length_range, sizeLine_eq]
      omega
    tm_at "dl"
    all_goals
      refine optK_of (by rw [ei]; exact L2.atI_nat hsg) ?_
      tm_at "dl"
    all_goals
      rw [eb]
      refine ⟨le1000 (by show (T (List.replicate a c)).length + (T [sgAt ((b0 + st * k) % 36)]).length ≤ 1000; rw [T_len, T_len, List.length_replicate]; show a + 1 ≤ 1000; omega), ?_⟩
      have e1 : T (List.replicate a c) ++ (⟨#[sgAt ((b0 + st * k) % 36)]⟩ : Str) = T (List.replicate a c ++ [sgAt ((b0 + st * k) % 36)]) := T_app
      tm_at "dl"
      rw [e1]
      try rw [ea]
      refine ⟨le1000 ?_, ?_⟩
    · show (T _).length + (T []).length ≤ 1000
      rw [T_len, T_len, List.length_append, List.length_replicate]
      show a + 1 + 0 ≤ 1000
      omega
    rotate_left
    · rw [T_len, T_len, List.length_append, List.length_replicate, List.length_replicate]
      show a + 1 + (r - a) ≤ 1000
      omega
    rotate_left
    · rw [T_len, T_len, List.length_append, List.length_replicate, List.length_replicate]
      show a + 1 + (r - a) ≤ 1000
      omega
    rotate_left
    all_goals
      tm_at "dl"
      refine leaf _ _ _ _ ?_
      unfold wordL
    · rename_i z1 z2
      have e2 : k % 2 = 1 := by omega
      rw [if_pos ⟨decide_eq_true z1, e2⟩]
      exact T_app
    · rename_i z1 z2
      rw [if_neg (fun z => by omega)]
      exact T_app
    · rename_i z1 _
      rw [if_neg (fun z => z1 (of_decide_eq_true z.1))]
      exact T_app
end CFWd
end

section
set_option Elab.async false
set_option linter.all false
set_option maxRecDepth 100000
set_option maxHeartbeats 4000000
namespace K19
open PySem PySem.Spec PyProof.Rows L2 DL CFH CFCl CFRu CFWd CFBk CFIs CFIj CFIc CFKp
local macro_rules | `(tactic| tm_at "dpos") => `(tactic| first | omega | decide)
local macro_rules | `(tactic| tm_at "dlog") => `(tactic| first | exact log2_sm (by omega) | exact CFH.big_log (by omega) (by omega) | assumption | exact log2_sm (by decide))
local macro_rules | `(tactic| tm_at "dc") => `(tactic| ((with_reducible show CFH.S_law_take _ _ _); refine CFH.take_i (by assumption) (by omega) (by tm_at "dpos") (by tm_at "dlog") (fun _ _ _ _ _ => ?_)))
local macro_rules | `(tactic| tm_at "dc") => `(tactic| ((with_reducible show CFH.S_law_great _ _ _); refine CFH.great_i (by assumption) (by omega) (fun _ _ _ _ _ => ?_)))
local macro_rules | `(tactic| tm_at "dc") => `(tactic| ((with_reducible show CFH.S_law_whole _ _ _); refine CFH.whole_i ?_))
local macro_rules | `(tactic| tm_at "dpos") => `(tactic| first | omega | decide)
local macro_rules | `(tactic| tm_at "dlog") => `(tactic| first | exact log2_sm (by omega) | exact CFH.big_log (by omega) (by omega) | assumption | exact log2_sm (by decide))
local macro_rules | `(tactic| tm_at "dc") => `(tactic| ((with_reducible show CFH.S_law_take _ _ _); refine CFH.take_i (by assumption) (by omega) (by tm_at "dpos") (by tm_at "dlog") (fun _ _ _ _ _ => ?_)))
local macro_rules | `(tactic| tm_at "dc") => `(tactic| ((with_reducible show CFH.S_law_great _ _ _); refine CFH.great_i (by assumption) (by omega) (fun _ _ _ _ _ => ?_)))
local macro_rules | `(tactic| tm_at "dc") => `(tactic| ((with_reducible show CFH.S_law_whole _ _ _); refine CFH.whole_i ?_))
local macro_rules | `(tactic| tm_at "dh") => `(tactic| first | ((with_reducible show ite _ _ _); first | (with_reducible refine DL.ifb_t (by with_reducible assumption) ?_) | (with_reducible refine DL.ifb_f (by with_reducible assumption) ?_)) | fail "dk")
local macro_rules | `(tactic| tm_at "do") => `(tactic| with_reducible assumption)
theorem lcK_dj {α : Type} {inj : α → D} {T : List Nat} {wg : WG} {wt : WT} {we : WE} {k : List D → Rho → Prop} {ρ : Rho} (ds : List D) (I : List α → Rho → Prop) (h : I [] ρ) (h0 : ∀ xs ρ, xs.length = ds.length → I xs ρ → k (xs.map inj) ρ)
    (h1 : ∀ (xs : List α) (d : D) (ρ : Rho) (next : List D → Rho → Prop), ds[xs.length]? = some d → (∀ x ρ', I (xs ++ [x]) ρ' → next (xs.map inj ++ [inj x]) ρ') → I xs ρ → wg d ρ fun ρ1 => wt ρ1 (fun b ρ2 => if b = true then we ρ2 (fun c ρ3 => match frzC c with
      | .v d' => next (xs.map inj ++ [d']) (clr T ρ3)
      | _ => False) (fun _ _ => False) else next (xs.map inj) (clr T ρ2)) (fun _ _ => False)) : lcK T wg wt we ds [] ρ k :=
  lcK_ind (fun es acc ρ => ∃ xs, acc = xs.map inj ∧ xs.length ≤ ds.length ∧ ds.drop xs.length = es ∧ I xs ρ) (fun acc ρ z => by
      obtain ⟨xs, rfl, e, e2, i⟩ := z
      have := List.drop_eq_nil_iff.mp e2
      exact h0 xs ρ (by omega) i) (fun d es acc ρ next hn z => by
      obtain ⟨xs, rfl, e, e2, i⟩ := z
      have l : xs.length < ds.length := by
        rcases Nat.lt_or_ge xs.length ds.length with y | y
        · exact y
        · rw [List.drop_of_length_le y] at e2; cases e2
      rw [List.drop_eq_getElem_cons l] at e2
      obtain ⟨e3, e4⟩ := List.cons.inj e2
      exact h1 xs d ρ next (by rw [← e3]; exact List.getElem?_eq_getElem l) (fun x ρ' y => hn _ _ ⟨xs ++ [x], by rw [List.map_append]; rfl, by rw [List.length_append, List.length_singleton]; omega, by rw [List.length_append, List.length_singleton]; exact e4, y⟩) i) ds [] ρ ⟨[], rfl, Nat.zero_le _, rfl, h⟩
theorem range_j {n j : Nat} {d : D} (h : (rangeD 0 n)[j]? = some d) : d = .int (j : Int) ∧ j < n := by
  have l : j < n := by
    have := (List.getElem?_eq_some_iff.mp h).1
    rw [rangeD_len] at this
    exact this
  refine ⟨?_, l⟩
  unfold rangeD at h
  rw [List.getElem?_map, List.getElem?_range l] at h
  have h : PyData.int (0 + (j : Int)) = d := Option.some.inj h
  rw [← h, Int.zero_add]
theorem ok_law_same : ∀ as QD ED, S_law_same as QD ED → w_law_same (bodyEnds as QD fun _ _ => False) (startD n_law_same as) := by
  rintro as QD ED ⟨a, b, rfl, q⟩
  unfold n_law_same w_law_same
  tm_at "dstart"
  tm_at "dl"
  exact q
theorem ok_law_is_whole : ∀ as QD ED, S_law_is_whole as QD ED → w_law_is_whole (bodyEnds as QD fun _ _ => False) (startD n_law_is_whole as) := by
  rintro as QD ED ⟨d, lo, hi, rfl, q⟩
  unfold n_law_is_whole w_law_is_whole
  tm_at "dstart"
  cases d with
  | int i =>
    have q : QD (.v (.bool (decide (lo ≤ i) && decide (i ≤ hi)))) _ := q
    tm_at "dl"
    · rw [decide_eq_true ‹lo ≤ i›, Bool.true_and] at q
      exact q
    · rw [decide_eq_false (Int.not_le.mpr ‹i < lo›), Bool.false_and] at q
      exact q
  | _ =>
    tm_at "dl"
    exact q
theorem ok_law_is_row : ∀ as QD ED, S_law_is_row as QD ED → w_law_is_row (bodyEnds as QD fun _ _ => False) (startD n_law_is_row as) := by
  rintro as QD ED ⟨d, n, rfl, q⟩
  unfold n_law_is_row w_law_is_row
  tm_at "dstart"
  cases d with
  | tuple ds =>
    have q : QD (.v (.bool (decide ((ds.length : Int) = n)))) _ := q
    tm_at "dl"
    rw [eqv_int]
    exact q
  | _ =>
    tm_at "dl"
    exact q
theorem ok_law_jump_row : ∀ as QD ED, S_law_jump_row as QD ED → w_law_jump_row (bodyEnds as QD fun _ _ => False) (startD n_law_jump_row as) := by
  rintro as QD ED ⟨h, n, m, rfl, ho, hn, m0, m1, q⟩
  unfold n_law_jump_row w_law_jump_row
  tm_at "dstart"
  tm_at "dl"
  have l20 : (rangeD 0 m.toNat).length ≤ 20 := by rw [rangeD_len]; omega
  refine forK_n _ (fun k ρ => ∃ (h' : Hd) (js : List Pr) (a : Int) (c4 : C), h'.ok (n + 2 * k) ∧ js.length = k ∧ ρ = [hc h', .v (.int m), .own 0 (.lst (js.map cplD)), .v (.int a), c4]) ⟨h, [], 0, _, ho, rfl, rfl⟩ ?_ ?_
  · rintro ρ ⟨h', js, a, c4, o1, hl, rfl⟩
    have szj : (js.map cplD).length ≤ sizeLine := by rw [List.length_map, sizeLine_eq]; omega
    have lfj := lf_js (js := js)
    have lfj2 : C.lf (.v (psD js)) = true := lfj
    have q := q h' js (o1.up (by omega)) (by omega)
    tm_at "dl"
    all_goals first | exact q | trace_state
  · rintro k d ρ next hk hd hnx ⟨h', js, a, c4, o1, hl, rfl⟩
    clear q
    tm_at "dl"
    refine pick_i (by assumption) (by omega) (Nat.zero_lt_succ _) (Nat.le_of_ble_eq_true rfl) fun h2 e o2 he => ?_
    obtain ⟨j, rfl⟩ : ∃ j : Int, e = .int j := by
      simp only [List.mem_cons, List.not_mem_nil, or_false] at he
      rcases he with rfl | rfl | rfl | rfl | rfl | rfl <;> exact ⟨_, rfl⟩
    clear he
    tm_at "dl"
    rename_i x _ _ _
    refine hnx _ ⟨h2, js ++ [(a + 1 + x, j)], a + 1 + x, .v d, o2.up (by omega), by rw [List.length_append, hl]; rfl, ?_⟩
    rw [List.map_append]
    rfl
theorem ok_law_odd : ∀ as QD ED, S_law_odd as QD ED → w_law_odd (bodyEnds as QD fun _ _ => False) (startD n_law_odd as) := by
  rintro as QD ED ⟨h, n, d, rfl, ho, hn, pd, q, q2⟩
  unfold n_law_odd w_law_odd
  tm_at "dstart"
  tm_at "dl"
  · refine pick_i (by assumption) (by omega) (Nat.zero_lt_succ _) (Nat.le_of_ble_eq_true rfl) fun h2 e o2 he => ?_
    have pe : okE e = true := by
      simp only [List.mem_cons, List.not_mem_nil, or_false] at he
      rcases he with rfl | rfl | rfl | rfl | rfl | rfl | rfl | rfl | rfl | rfl | rfl | rfl <;> rfl
    have q := q h2 e (o2.up (by omega)) pe
    tm_at "dl"
    exact q
  · refine pick_i (by assumption) (by omega) (Nat.zero_lt_succ _) (Nat.le_of_ble_eq_true rfl) fun h2 e o2 he => ?_
    have pe : okE e = true := by
      simp only [List.mem_cons, List.not_mem_nil, or_false] at he
      rcases he with rfl | rfl | rfl | rfl | rfl | rfl <;> decide +kernel
    have q := q h2 e (o2.up (by omega)) pe
    tm_at "dl"
    exact q
  · refine pick_i (by assumption) (by omega) (Nat.zero_lt_succ _) (Nat.le_of_ble_eq_true rfl) fun h2 e o2 he => ?_
    have pe : okE e = true := by
      simp only [List.mem_cons, List.not_mem_nil, or_false] at he
      rcases he with rfl | rfl | rfl | rfl | rfl | rfl | rfl <;> decide +kernel
    have q := q h2 e (o2.up (by omega)) pe
    tm_at "dl"
    exact q
  · refine pick_i (by assumption) (by omega) (Nat.zero_lt_succ _) (Nat.le_of_ble_eq_true rfl) fun h2 e o2 he => ?_
    obtain ⟨j, rfl⟩ : ∃ j : Int, e = .int j := by
      simp only [List.mem_cons, List.not_mem_nil, or_false] at he
      rcases he with rfl | rfl | rfl | rfl | rfl <;> exact ⟨_, rfl⟩
    clear he
    have q : ∀ i : Int, QD (.v (.int i)) [hc h2, .v d] := fun i => q h2 _ (o2.up (by omega)) rfl
    cases d with
    | int i => tm_at "dl"; exact q _
    | bool b => tm_at "dl"; exact q _
    | _ => exact absurd ‹isT "int" _ = true› (fun z => by cases z)
  · obtain ⟨ds, rfl⟩ := isT_tup ‹isT "tuple" d = true›
    have oe := okE_tup.mp (oo_ok _ pd.ok)
    have szd : ds.length ≤ sizeLine := by rw [sizeLine_eq]; omega
    have q2 := q2 _ ds (Hd.ok.up ‹_› (by omega)) (okE_lst.mpr oe)
    tm_at "dl"
    all_goals first | exact q2 | trace_state
  · exact q _ _ (Hd.ok.up ‹_› (by omega)) (oo_ok _ pd.ok)
theorem ok_law_is_word : ∀ as QD ED, S_law_is_word as QD ED → w_law_is_word (bodyEnds as QD fun _ _ => False) (startD n_law_is_word as) := by
  rintro as QD ED ⟨d, rfl, hs, q⟩
  unfold n_law_is_word w_law_is_word
  tm_at "dstart"
  tm_at "dl"
  · rw [isWd_no ‹_›] at q
    exact q
  obtain ⟨s, rfl⟩ := isT_str ‹_›
  have sl := sml_str hs
  have sz : s.length ≤ sizeLine := Nat.le_trans sl (Nat.le_of_ble_eq_true rfl)
  tm_at "dl"
  · rw [isWd_bad (by omega)] at q
    exact q
  · rw [isWd_bad (by omega)] at q
    exact q
  · rw [isWd_at (by omega)] at q
    refine ⟨by rw [strD_len]; exact sz, ?_⟩
    rw [show strD s = (strD s).map id from (List.map_id _).symm]
    refine lcK_ys (fun x : D => PyData.bool (sgOk x)) (strD s) (fun x hx next hnx => ?_) ?_
    · obtain ⟨c, _, rfl⟩ := List.mem_map.mp hx
      simp only [id_eq]
      tm_at "dl"
      exact hnx
    · tm_at "dl"
      rw [show ((strD s).map fun x => PyData.bool (sgOk x)) = ((strD s).map sgOk).map PyData.bool by rw [List.map_map]; rfl]
      refine optK_of (boolsOf_map _) ?_
      rw [List.all_map]
      tm_at "dl"
      exact q
theorem ok_law_are_jumps : ∀ as QD ED, S_law_are_jumps as QD ED → w_law_are_jumps (bodyEnds as QD fun _ _ => False) (startD n_law_are_jumps as) := by
  rintro as QD ED ⟨d, rfl, ok, q⟩
  unfold n_law_are_jumps w_law_are_jumps
  tm_at "dstart"
  tm_at "dl"
  · rw [areJu_no ‹_›] at q
    exact q
  obtain ⟨ds, rfl⟩ := isT_tup ‹_›
  have oe := (okE_tup.mp ok).2
  tm_at "dl"
  · rw [areJu_bad (by omega)] at q
    exact q
  rw [areJu_at (by omega), juF_at] at q
  refine forK_ind (fun es ρ => (∀ x ∈ es, okE x = true) ∧ ∃ (a : Int) (c2 : C), ρ = [.v (.tuple ds), .v (.int a), c2] ∧ 0 ≤ a ∧ QD (.v (.bool (juF a es))) [.v (.tuple ds)]) ?_ ?_ _ _ ⟨oe, 0, _, rfl, by decide, q⟩
  · rintro ρ ⟨_, a, c2, rfl, _, q⟩
    tm_at "dl"
    exact q
  · rintro t es ρ next hnx ⟨oe, a, c2, rfl, a0, q⟩
    have ht := oe t (.head _)
    have q : QD (.v (.bool (isJu t && (decide (a < fsT t) && juF (fsT t) es)))) _ := q
    have eB : big = 10 ^ Int.toNat 60 := by decide +kernel
    tm_at "dl"
    refine ⟨t, 2, rfl, ?_⟩
    by_cases hr : isRow t 2 = true
    rotate_left
    · have hr := eq_false_of_ne_true hr
      have hj : isJu t = false := by
        cases e : isJu t with
        | false => rfl
        | true =>
          obtain ⟨x, y, rfl, _⟩ := isJu_get e
          cases hr
      rw [hj, Bool.false_and] at q
      rw [hr]
      tm_at "dl"
      exact q
    rw [hr]
    tm_at "dl"
    obtain ⟨x, y, rfl⟩ : ∃ x y, t = .tuple [x, y] := by
      cases t with
      | tuple us =>
        obtain ⟨x, y, rfl⟩ := len2 (ds := us) (by have := of_decide_eq_true hr; omega)
        exact ⟨x, y, rfl⟩
      | _ => cases hr
    tm_at "dl"
    refine ⟨x, a + 1, 10 ^ Int.toNat 60 - 1, rfl, ?_⟩
    cases x with
    | int i =>
      have q : QD (.v (.bool (isJu (.tuple [.int i, y]) && (decide (a < i) && juF i es)))) _ := q
      by_cases c1 : a + 1 ≤ i ∧ i ≤ 10 ^ Int.toNat 60 - 1
      · have e : isWhR (a + 1) (10 ^ Int.toNat 60 - 1) (.int i) = true := by
          show (decide _ && decide _) = true
          rw [decide_eq_true c1.1, decide_eq_true c1.2]
          rfl
        have ai : a < i := by omega
        rw [decide_eq_true ai, Bool.true_and] at q
        show _ ∧ _
        rw [e]
        tm_at "dl"
        refine ⟨y, -1440, 1440, rfl, ?_⟩
        cases y with
        | int j =>
          have ej : isJu (.tuple [.int i, .int j]) = (decide (1 ≤ i ∧ i < big) && decide (j ≠ 0 ∧ -1440 ≤ j ∧ j ≤ 1440)) := rfl
          have r1 : decide (1 ≤ i ∧ i < big) = true := decide_eq_true (by omega)
          rw [ej, r1, Bool.true_and] at q
          show _ ∧ _
          by_cases c2 : -1440 ≤ j ∧ j ≤ 1440
          · have e2 : isWhR (-1440) 1440 (.int j) = true := by
              show (decide _ && decide _) = true
              rw [decide_eq_true c2.1, decide_eq_true c2.2]
              rfl
            rw [e2]
            by_cases j0 : j = 0
            · rw [decide_eq_false (by omega), Bool.false_and] at q
              have ez : PyData.eqv (.int j) (.int 0) = true := eqv_intV j0
              tm_at "dl"
              all_goals first | exact q | trace_state
            · rw [decide_eq_true (by omega), Bool.true_and] at q
              have ez : PyData.eqv (.int j) (.int 0) = false := by rw [eqv_int]; exact decide_eq_false j0
              tm_at "dl"
              all_goals first | exact hnx _ ⟨fun x hx => oe x (.tail _ hx), i, _, rfl, by omega, q⟩ | (exfalso; omega) | trace_state
          · have e2 : isWhR (-1440) 1440 (.int j) = false := by
              show (decide _ && decide _) = false
              rw [← Bool.decide_and]
              exact decide_eq_false c2
            rw [e2]
            rw [decide_eq_false (by omega), Bool.false_and] at q
            tm_at "dl"
            exact q
        | _ =>
          rw [isJu_b] at q
          rotate_left
          · rfl
          rw [Bool.false_and] at q
          tm_at "dl"
          all_goals first | exact q | trace_state
      · have e : isWhR (a + 1) (10 ^ Int.toNat 60 - 1) (.int i) = false := by
          show (decide _ && decide _) = false
          rw [← Bool.decide_and]
          exact decide_eq_false c1
        show _ ∧ _
        rw [e]
        have q : QD (.v (.bool false)) [.v (.tuple ds)] := by
          by_cases ai : a < i
          · rw [isJu_a, Bool.false_and] at q
            · exact q
            · exact decide_eq_false (by omega)
          · rw [decide_eq_false ai, Bool.false_and, Bool.and_false] at q
            exact q
        tm_at "dl"
        exact q
    | _ =>
      rw [isJu_a] at q
      rotate_left
      · rfl
      rw [Bool.false_and] at q
      tm_at "dl"
      all_goals first | exact q | trace_state
theorem row_get {d : D} {n : Int} (h : isRow d n = true) : ∃ ds, d = .tuple ds ∧ (ds.length : Int) = n := by
  cases d with
  | tuple ds => exact ⟨ds, rfl, of_decide_eq_true h⟩
  | _ => cases h
theorem whr_int {lo hi : Int} {d : D} (h : isWhR lo hi d = true) : ∃ i, d = .int i ∧ lo ≤ i ∧ i ≤ hi := by
  cases d with
  | int i =>
    have h : (decide (lo ≤ i) && decide (i ≤ hi)) = true := h
    rw [Bool.and_eq_true, decide_eq_true_iff, decide_eq_true_iff] at h
    exact ⟨i, rfl, h⟩
  | _ => cases h
theorem whr_at {lo hi i : Int} : isWhR lo hi (.int i) = decide (lo ≤ i ∧ i ≤ hi) := by
  show (decide _ && decide _) = _
  rw [← Bool.decide_and]
def w_ly : WS := (wSeq (wIf (wOr (wNot (wTst (wCall S_law_is_whole (wCons (wB oIx (wVar 0) (wC (.int 1))) (wCons (wC (.int 0)) (wCons (wB oSub (wB oMul (wC (.int 1440)) (wB oIx (wVar 0) (wC (.int 2)))) (wC (.int 1))) wNil)))))) (wOr (wNot (wTst (wU (oIsi "tuple") (wB oIx (wVar 0) (wC (.int 3)))))) (wTst (wB oGt (wL oLen (wCons (wB oIx (wVar 0) (wC (.int 3))) wNil)) (wC (.int 12))))))
    (wRet (wC (.bool false)))
    wNext)
    (wSeq (wSetF 1 (wC (.int 0)))
    (wSeq (wFor (wISeq (wB oIx (wVar 0) (wC (.int 3)))) (wgName 2)
    (wSeq (wIf (wOr (wNot (wTst (wCall S_law_is_row (wCons (wVar 2) (wCons (wC (.int 3)) wNil))))) (wNot (wTst (wCall S_law_is_whole (wCons (wB oIx (wVar 2) (wC (.int 0))) (wCons (wVar 1) (wCons (wB oMul (wC (.int 1440)) (wB oIx (wVar 0) (wC (.int 2)))) wNil)))))))
    (wRet (wC (.bool false)))
    wNext)
    (wSeq (wIf (wOr (wNot (wTst (wCall S_law_is_whole (wCons (wB oIx (wVar 2) (wC (.int 1))) (wCons (wB oAdd (wB oIx (wVar 2) (wC (.int 0))) (wC (.int 1))) (wCons (wB oMul (wC (.int 1440)) (wB oIx (wVar 0) (wC (.int 2)))) wNil)))))) (wNot (wTst (wCall S_law_is_word (wCons (wB oIx (wVar 2) (wC (.int 2))) wNil)))))
    (wRet (wC (.bool false)))
    wNext)
    (wSetF 1 (wB oIx (wVar 2) (wC (.int 1)))))))
    (wRet (wC (.bool true))))))
def w_law_is_layer1 : WS := wSeq (wIf (wOr (wNot (wTst (wCall S_law_is_row (wCons (wVar 0) (wCons (wC (.int 4)) wNil))))) (wOr (wNot (wTst (wCall S_law_is_word (wCons (wB oIx (wVar 0) (wC (.int 0))) wNil)))) (wNot (wTst (wCall S_law_is_whole (wCons (wB oIx (wVar 0) (wC (.int 2))) (wCons (wC (.int 1)) (wCons (wC (.int 60)) wNil))))))))
    (wRet (wC (.bool false)))
    wNext)
    w_ly
theorem ly_tail {w s ts : D} {k : Int} {c1 c2 : C} {QD : C → Rho → Prop} (hw : isWd w = true) (k1 : 1 ≤ k) (k60 : k ≤ 60) (ot : okE ts = true) (q : QD (.v (.bool (isLy (.tuple [w, s, .int k, ts])))) [.v (.tuple [w, s, .int k, ts])]) :
    w_ly (bodyEnds [.v (.tuple [w, s, .int k, ts])] QD fun _ _ => False) [.v (.tuple [w, s, .int k, ts]), c1, c2] := by
  unfold w_ly
  have a2 : atI [w, s, .int k, ts] 2 = some (.int k) := L2.atI_nat (j := 2) rfl
  have a3 : atI [w, s, .int k, ts] 3 = some ts := L2.atI_nat (j := 3) rfl
  have mo : MulOk 1440 k := MulOk.left (by decide)
  tm_at "dl"
  refine ⟨s, 0, 1440 * k - 1, rfl, ?_⟩
  cases hs : isWhR 0 (1440 * k - 1) s with
  | false =>
    have q : QD (.v (.bool false)) [.v (.tuple [w, s, .int k, ts])] := by
      rw [isLy_4, hw] at q
      cases s with
      | int s =>
        rw [whr_at] at hs
        have hs := of_decide_eq_false hs
        have q : QD (.v (.bool (decide (1 ≤ k ∧ k ≤ 60) && decide (0 ≤ s ∧ s < 1440 * k) && areTu (1440 * k) ts))) _ := q
        rw [decide_eq_false (show ¬ (0 ≤ s ∧ s < 1440 * k) from fun h => hs ⟨h.1, by omega⟩), Bool.and_false, Bool.false_and] at q
        exact q
      | _ => exact q
    tm_at "dl"
    exact q
  | true =>
    obtain ⟨s, rfl, s0, s1⟩ := whr_int hs
    have el : isLy (.tuple [w, .int s, .int k, ts]) = areTu (1440 * k) ts := by
      rw [isLy_4, hw]
      show (decide (1 ≤ k ∧ k ≤ 60) && decide (0 ≤ s ∧ s < 1440 * k) && areTu (1440 * k) ts) = _
      rw [decide_eq_true ⟨k1, k60⟩, decide_eq_true (show 0 ≤ s ∧ s < 1440 * k from ⟨s0, by omega⟩)]
      rfl
    rw [el] at q
    clear el hs
    tm_at "dl"
    · rw [areTu_no ‹isT "tuple" ts = false›] at q
      exact q
    obtain ⟨us, rfl⟩ := isT_tup ‹isT "tuple" ts = true›
    have oe := okE_tup.mp ot
    tm_at "dl"
    · rw [areTu_bad (by omega)] at q
      exact q
    rw [areTu_at (by omega)] at q
    refine forK_ind (fun es ρ => (∀ x ∈ es, okE x = true) ∧ ∃ (a : Int) (c2 : C), ρ = [.v (.tuple [w, .int s, .int k, .tuple us]), .v (.int a), c2] ∧ QD (.v (.bool (tuF (1440 * k) a es))) [.v (.tuple [w, .int s, .int k, .tuple us])]) ?_ ?_ _ _ ⟨oe.2, 0, _, rfl, q⟩
    · rintro ρ ⟨_, a, c2, rfl, q⟩
      tm_at "dl"
      exact q
    · rintro t es ρ next hnx ⟨oe, a, c2, rfl, q⟩
      have ht := oe t (.head _)
      have q : QD (.v (.bool (isTu a (1440 * k) t && tuF (1440 * k) (enT t) es))) _ := q
      tm_at "dl"
      refine ⟨t, 3, rfl, ?_⟩
      cases hr : isRow t 3 with
      | false =>
        have e : isTu a (1440 * k) t = false := by
          cases t with
          | tuple ds => exact isTu_len (fun z => by have := of_decide_eq_false (show decide ((ds.length : Int) = 3) = false from hr); omega)
          | _ => rfl
        rw [e, Bool.false_and] at q
        tm_at "dl"
        exact q
      | true =>
        obtain ⟨ds, rfl, hl⟩ := row_get hr
        obtain ⟨b, e, hd, rfl⟩ := len3 (ds := ds) (by omega)
        have oh := okE_sml _ ((okE_tup.mp ht).2 hd (by simp))
        have b2 : atI [b, e, hd] 2 = some hd := L2.atI_nat (j := 2) rfl
        rw [isTu_3] at q
        tm_at "dl"
        refine ⟨b, a, 1440 * k, rfl, ?_⟩
        cases hb : isWhR a (1440 * k) b with
        | false =>
          have q : QD (.v (.bool false)) [.v (.tuple [w, .int s, .int k, .tuple us])] := by
            cases b with
            | int i =>
              rw [whr_at] at hb
              have hb := of_decide_eq_false hb
              cases e with
              | int j =>
                have q : QD (.v (.bool (true && true && isWd hd && decide (a ≤ i ∧ i < j ∧ j ≤ 1440 * k) && tuF (1440 * k) j es))) _ := q
                rw [decide_eq_false (show ¬ (a ≤ i ∧ i < j ∧ j ≤ 1440 * k) from fun h => hb ⟨h.1, by omega⟩), Bool.and_false, Bool.false_and] at q
                exact q
              | _ => exact q
            | _ => exact q
          tm_at "dl"
          exact q
        | true =>
          obtain ⟨i, rfl, i0, i1⟩ := whr_int hb
          tm_at "dl"
          refine ⟨e, i + 1, 1440 * k, rfl, ?_⟩
          cases he : isWhR (i + 1) (1440 * k) e with
          | false =>
            have q : QD (.v (.bool false)) [.v (.tuple [w, .int s, .int k, .tuple us])] := by
              cases e with
              | int j =>
                rw [whr_at] at he
                have he := of_decide_eq_false he
                have q : QD (.v (.bool (true && true && isWd hd && decide (a ≤ i ∧ i < j ∧ j ≤ 1440 * k) && tuF (1440 * k) j es))) _ := q
                rw [decide_eq_false (show ¬ (a ≤ i ∧ i < j ∧ j ≤ 1440 * k) from fun h => he ⟨by omega, h.2.2⟩), Bool.and_false, Bool.false_and] at q
                exact q
              | _ => exact q
            tm_at "dl"
            exact q
          | true =>
            obtain ⟨j, rfl, j0, j1⟩ := whr_int he
            have q : QD (.v (.bool (true && true && isWd hd && decide (a ≤ i ∧ i < j ∧ j ≤ 1440 * k) && tuF (1440 * k) j es))) _ := q
            rw [decide_eq_true (show a ≤ i ∧ i < j ∧ j ≤ 1440 * k from ⟨i0, by omega, j1⟩)] at q
            tm_at "dl"
            refine ⟨hd, rfl, oh, ?_⟩
            cases hh : isWd hd with
            | false =>
              rw [hh] at q
              tm_at "dl"
              exact q
            | true =>
              rw [hh] at q
              tm_at "dl"
              exact hnx _ ⟨fun x hx => oe x (.tail _ hx), j, _, rfl, q⟩
theorem ok_law_is_layer : ∀ as QD ED, S_law_is_layer as QD ED → w_law_is_layer (bodyEnds as QD fun _ _ => False) (startD n_law_is_layer as) := by
  rintro as QD ED ⟨d, rfl, ok, q⟩
  rw [show w_law_is_layer = w_law_is_layer1 from rfl]
  unfold n_law_is_layer w_law_is_layer1
  tm_at "dstart"
  tm_at "dl"
  refine ⟨d, 4, rfl, ?_⟩
  cases hr : isRow d 4 with
  | false =>
    have e : isLy d = false := by
      cases d with
      | tuple ds => exact isLy_len (fun z => by have := of_decide_eq_false (show decide ((ds.length : Int) = 4) = false from hr); omega)
      | _ => rfl
    rw [e] at q
    tm_at "dl"
    exact q
  | true =>
    obtain ⟨ds, rfl, hl⟩ := row_get hr
    obtain ⟨w, s, e, ts, rfl⟩ := len4 (ds := ds) (by omega)
    have oe := (okE_tup.mp ok).2
    have ow := okE_sml _ (oe w (by simp))
    have ot := oe ts (by simp)
    rw [isLy_4] at q
    tm_at "dl"
    refine ⟨w, rfl, ow, ?_⟩
    cases hw : isWd w with
    | false =>
      rw [hw, Bool.false_and, Bool.false_and, Bool.false_and] at q
      tm_at "dl"
      exact q
    | true =>
      have a2 : atI [w, s, e, ts] 2 = some e := L2.atI_nat (j := 2) rfl
      rw [hw, Bool.true_and] at q
      tm_at "dl"
      refine ⟨e, 1, 60, rfl, ?_⟩
      cases he : isWhR 1 60 e with
      | false =>
        have q : QD (.v (.bool false)) [.v (.tuple [w, s, e, ts])] := by
          cases e with
          | int k =>
            rw [whr_at] at he
            have he := of_decide_eq_false he
            cases s with
            | int s =>
              have q : QD (.v (.bool (decide (1 ≤ k ∧ k ≤ 60) && decide (0 ≤ s ∧ s < 1440 * k) && areTu (1440 * k) ts))) _ := q
              rw [decide_eq_false he] at q
              exact q
            | _ => exact q
          | _ => cases s <;> exact q
        tm_at "dl"
        exact q
      | true =>
        obtain ⟨k, rfl, k1, k60⟩ := whr_int he
        have q : QD (.v (.bool (isLy (.tuple [w, s, .int k, ts])))) [.v (.tuple [w, s, .int k, ts])] := by
          rw [isLy_4, hw, Bool.true_and]
          exact q
        tm_at "dl"
        exact ly_tail hw k1 k60 ot q
theorem mem_three {s : Str} : memD (.str s) [.str "away", .str "for", .str "on"] = (decide (s = "away") || (decide (s = "for") || decide (s = "on"))) := by
  show (PyData.eqv (.str "away") (.str s) || (PyData.eqv (.str "for") (.str s) || (PyData.eqv (.str "on") (.str s) || false))) = _
  rw [CFTd.eqv_str, CFTd.eqv_str, CFTd.eqv_str, Bool.or_false]
  congr 1
  · exact decide_eq_decide.mpr ⟨Eq.symm, Eq.symm⟩
  · congr 1 <;> exact decide_eq_decide.mpr ⟨Eq.symm, Eq.symm⟩
theorem mem45 {n : Nat} : memD (.int n) [.int 4, .int 5] = (decide (n = 4) || decide (n = 5)) := by
  show ((4 : Int) == n || ((5 : Int) == n || false)) = _
  rw [Bool.or_false]
  congr 1
  · rw [Bool.eq_iff_iff, beq_iff_eq, decide_eq_true_iff]; omega
  · rw [Bool.eq_iff_iff, beq_iff_eq, decide_eq_true_iff]; omega
set_option hygiene false in
local macro_rules | `(tactic| tm_at "kl") => `(tactic| first | exact absurd (m1.symm.trans ‹memD (PyData.str _) _ = false›) (by decide) | exact absurd (m1.symm.trans ‹memD (PyData.str _) _ = true›) (by decide) | exact absurd ‹¬ _ = (4 : Int) + _› (by rw [ef]; decide) | exact absurd ‹_ = (4 : Int) + _› (by rw [ef]; decide))

def w_ch : WS := (wSeq (wIf (wNot (wTst (wCall S_law_is_whole (wCons (wB oIx (wVar 0) (wU oNeg (wC (.int 2)))) (wCons (wC (.int 0)) (wCons (wB oSub (wB oPow (wC (.int 10)) (wC (.int 60))) (wC (.int 1))) wNil))))))
    (wRet (wC (.bool false)))
    wNext)
    (wRet (wOrV (wU oIsN (wB oIx (wVar 0) (wU oNeg (wC (.int 1))))) (wCall S_law_is_whole (wCons (wB oIx (wVar 0) (wU oNeg (wC (.int 1)))) (wCons (wB oAdd (wB oIx (wVar 0) (wU oNeg (wC (.int 2)))) (wC (.int 1))) (wCons (wB oSub (wB oPow (wC (.int 10)) (wC (.int 60))) (wC (.int 1))) wNil)))))))
def w_law_is_change1 : WS := wSeq (wIf (wOr (wNot (wTst (wU (oIsi "tuple") (wVar 0)))) (wOr (wTst (wB oNotIn (wL oLen (wCons (wVar 0) wNil)) (wL oTup (wCons (wC (.int 4)) (wCons (wC (.int 5)) wNil))))) (wNot (wTst (wU (oIsi "str") (wB oIx (wVar 0) (wC (.int 0))))))))
    (wRet (wC (.bool false)))
    wNext)
    (wSeq (wIf (wOr (wTst (wB oNotIn (wB oIx (wVar 0) (wC (.int 0))) (wL oTup (wCons (wC (.str "away")) (wCons (wC (.str "for")) (wCons (wC (.str "on")) wNil)))))) (wTst (wB oNe (wL oLen (wCons (wVar 0) wNil)) (wB oAdd (wC (.int 4)) (wL oInt1 (wCons (wB oEq (wB oIx (wVar 0) (wC (.int 0))) (wC (.str "for"))) wNil))))))
    (wRet (wC (.bool false)))
    wNext)
    (wSeq (wIf (wOr (wNot (wTst (wL oAll (wCons (wLcB [2] (wISeq (wSl (wVar 0) (wPart (wC (.int 1))) (wPart (wU oNeg (wC (.int 2)))))) (wgName 2) wYes (wCall S_law_is_word (wCons (wVar 2) wNil))) wNil)))) (wAnd (wTst (wB oEq (wB oIx (wVar 0) (wC (.int 0))) (wC (.str "for")))) (wTst (wB oEq (wB oIx (wVar 0) (wC (.int 1))) (wB oIx (wVar 0) (wC (.int 2)))))))
    (wRet (wC (.bool false)))
    wNext)
    w_ch))
theorem ch_tail {ds : List D} {b e : D} {c1 c2 : C} {QD : C → Rho → Prop} (hb : atI ds (-2) = some b) (he : atI ds (-1) = some e) (q : QD (.v (.bool (isSp b e))) [.v (.tuple ds)]) :
    w_ch (bodyEnds [.v (.tuple ds)] QD fun _ _ => False) [.v (.tuple ds), c1, c2] := by
  unfold w_ch
  have eB : big = 10 ^ Int.toNat 60 := by decide +kernel
  tm_at "dl"
  refine ⟨b, 0, 10 ^ Int.toNat 60 - 1, rfl, ?_⟩
  cases wb : isWhR 0 (10 ^ Int.toNat 60 - 1) b with
  | false =>
    have hm : isMo b = false := by
      cases b with
      | int i =>
        rw [whr_at] at wb
        exact decide_eq_false (fun h => of_decide_eq_false wb ⟨h.1, by omega⟩)
      | _ => rfl
    rw [sp_no hm] at q
    tm_at "dl"
    exact q
  | true =>
    obtain ⟨i, rfl, i0, i1⟩ := whr_int wb
    have hm := mo_of i0 (show i < big by omega)
    cases e with
    | none =>
      rw [sp_none, hm] at q
      tm_at "dl"
      exact q
    | int j =>
      have q : QD (.v (.bool (isMo (.int i) && (isMo (.int j) && decide (i < j))))) _ := q
      have e1 : (isMo (.int j) && decide (i < j)) = isWhR (i + 1) (10 ^ Int.toNat 60 - 1) (.int j) := by
        rw [whr_at]
        show (decide (0 ≤ j ∧ j < big) && _) = _
        rw [← Bool.decide_and]
        exact decide_eq_decide.mpr ⟨fun h => ⟨by omega, by omega⟩, fun h => ⟨⟨by omega, by omega⟩, by omega⟩⟩
      rw [hm, Bool.true_and, e1] at q
      tm_at "dl"
      refine ⟨.int j, i + 1, 10 ^ Int.toNat 60 - 1, rfl, ?_⟩
      tm_at "dl"
      exact q
    | _ =>
      have q : QD (.v (.bool (isMo (.int i) && (isMo _ && false)))) _ := q
      rw [Bool.and_false, Bool.and_false] at q
      tm_at "dl"
      refine ⟨_, i + 1, 10 ^ Int.toNat 60 - 1, rfl, ?_⟩
      simp only [isWhR]
      tm_at "dl"
      exact q
theorem ok_law_is_change : ∀ as QD ED, S_law_is_change as QD ED → w_law_is_change (bodyEnds as QD fun _ _ => False) (startD n_law_is_change as) := by
  rintro as QD ED ⟨d, rfl, ok, q⟩
  have sm := okE_sml _ ok
  have ly := okE_ly ok
  rw [show w_law_is_change = w_law_is_change1 from rfl]
  unfold n_law_is_change w_law_is_change1
  tm_at "dstart"
  tm_at "dl"
  all_goals try (rw [ch_no ‹isT "tuple" d = false›] at q; exact q)
  obtain ⟨ds, rfl⟩ := isT_tup ‹_›
  have sm := sml_tup.mp sm
  tm_at "dl"
  · rw [ch_len (fun h => by
      have m := mem45 (n := ds.length)
      rw [‹memD _ _ = false›] at m
      have := m.symm
      rw [Bool.or_eq_false_iff] at this
      have a := of_decide_eq_false this.1
      have b := of_decide_eq_false this.2
      omega)] at q
    exact q
  have hl : 4 ≤ ds.length ∧ ds.length ≤ 5 := by
    have m := mem45 (n := ds.length)
    rw [‹memD _ _ = true›] at m
    rcases Bool.or_eq_true_iff.mp m.symm with z | z
    · have := of_decide_eq_true z; omega
    · have := of_decide_eq_true z; omega
  rcases len45 hl with ⟨k, a, b, e, rfl⟩ | ⟨k, a, o, b, e, rfl⟩
  · have sa := sm a (by simp)
    have lk := ly _ rfl k (by simp)
    by_cases hs : ∃ s, k = .str s
    rotate_left
    · have q0 : isCh (.tuple [k, a, b, e]) = false := by rw [ch_4]; cases k <;> first | rfl | exact absurd ⟨_, rfl⟩ hs
      rw [q0] at q
      cases k <;> first | exact absurd ⟨_, rfl⟩ hs | (tm_at "dl"; exact q)
    obtain ⟨s, rfl⟩ := hs
    replace lk : SeqAt.shaped (.str s) = true := lk.elim (fun z => by rcases z with z | z | z <;> cases z) Lay.shaped
    rw [ch_4] at q
    have s2 : SeqAt.shaped (.list [.str "away", .str "for", .str "on"]) = true := by decide +kernel
    have s3 : SeqAt.shaped (.str "for") = true := (Lay.str (k := 0) CFLa.s_for).shaped
    have q : QD (.v (.bool ((decide (s = "away") || decide (s = "on")) && (isWd a && isSp b e)))) _ := q
    have ec : DL.cutD [.str s, a, b, e] (some 1) (some (-2)) = [a] := rfl
    by_cases f : s = "for"
    · subst f
      have ef : PyData.eqv (.str "for") (.str "for") = true := by decide +kernel
      have m1 : memD (.str "for") [.str "away", .str "for", .str "on"] = true := by decide +kernel
      rw [show (decide (("for" : Str) = "away") || decide (("for" : Str) = "on")) = false by decide +kernel, Bool.false_and] at q
      tm_at "dl"
      all_goals first | exact q | tm_at "kl" | trace_state
    have ef : PyData.eqv (.str s) (.str "for") = false := by rw [CFTd.eqv_str]; exact decide_eq_false f
    cases hm : (decide (s = "away") || decide (s = "on")) with
    | false =>
      have m1 : memD (.str s) [.str "away", .str "for", .str "on"] = false := by rw [mem_three, decide_eq_false f]; rw [Bool.or_eq_false_iff] at hm; rw [hm.1, hm.2]; rfl
      rw [hm, Bool.false_and] at q
      tm_at "dl"
      all_goals first | exact q | tm_at "kl" | trace_state
    | true =>
      have m1 : memD (.str s) [.str "away", .str "for", .str "on"] = true := by rw [mem_three]; rcases Bool.or_eq_true_iff.mp hm with z | z <;> rw [z] <;> simp
      rw [hm, Bool.true_and] at q
      tm_at "dl"
      all_goals try tm_at "kl"
      rw [ec]
      tm_at "dl"
      refine ⟨a, rfl, sa, ?_⟩
      cases hw : isWd a with
      | false =>
        rw [hw, Bool.false_and] at q
        tm_at "dl"
        all_goals first | exact q | tm_at "kl" | trace_state
      | true =>
        rw [hw, Bool.true_and] at q
        tm_at "dl"
        all_goals first | exact ch_tail rfl rfl q | trace_state
  · have sa := sm a (by simp)
    have so := sm o (by simp)
    have lk := ly _ rfl k (by simp)
    have la := ly _ rfl a (by simp)
    have lo := ly _ rfl o (by simp)
    by_cases hs : ∃ s, k = .str s
    rotate_left
    · have q0 : isCh (.tuple [k, a, o, b, e]) = false := by rw [ch_5]; cases k <;> first | rfl | exact absurd ⟨_, rfl⟩ hs
      rw [q0] at q
      cases k <;> first | exact absurd ⟨_, rfl⟩ hs | (tm_at "dl"; exact q)
    obtain ⟨s, rfl⟩ := hs
    replace lk : SeqAt.shaped (.str s) = true := lk.elim (fun z => by rcases z with z | z | z <;> cases z) Lay.shaped
    rw [ch_5] at q
    have s2 : SeqAt.shaped (.list [.str "away", .str "for", .str "on"]) = true := by decide +kernel
    have s3 : SeqAt.shaped (.str "for") = true := (Lay.str (k := 0) CFLa.s_for).shaped
    have q : QD (.v (.bool (decide (s = "for") && (isWd o && (!PyData.eqv a o && (isWd a && isSp b e)))))) _ := q
    have ec : DL.cutD [.str s, a, o, b, e] (some 1) (some (-2)) = [a, o] := rfl
    by_cases f : s = "for"
    · subst f
      have ef : PyData.eqv (.str "for") (.str "for") = true := by decide +kernel
      have m1 : memD (.str "for") [.str "away", .str "for", .str "on"] = true := by decide +kernel
      rw [decide_eq_true rfl, Bool.true_and] at q
      tm_at "dl"
      all_goals try tm_at "kl"
      rw [ec]
      tm_at "dl"
      refine ⟨a, rfl, sa, ?_⟩
      cases hwa : isWd a with
      | false =>
        rw [hwa, Bool.false_and, Bool.and_false, Bool.and_false] at q
        tm_at "dl"
        refine ⟨o, rfl, so, ?_⟩
        tm_at "dl"
        all_goals first | exact q | tm_at "kl" | trace_state
      | true =>
        rw [hwa, Bool.true_and] at q
        tm_at "dl"
        refine ⟨o, rfl, so, ?_⟩
        cases hwo : isWd o with
        | false =>
          rw [hwo, Bool.false_and] at q
          tm_at "dl"
          all_goals first | exact q | tm_at "kl" | trace_state
        | true =>
          rw [hwo, Bool.true_and] at q
          have la : SeqAt.shaped a = true := by
            rcases la with (rfl | hz | hz) | la
            · cases hwa
            · cases a <;> first | cases hwa | exact absurd (show false = true from hz) (by decide)
            · cases a <;> first | cases hwa | exact absurd (show false = true from hz) (by decide)
            · exact la.shaped
          have lo : SeqAt.shaped o = true := by
            rcases lo with (rfl | hz | hz) | lo
            · cases hwo
            · cases o <;> first | cases hwo | exact absurd (show false = true from hz) (by decide)
            · cases o <;> first | cases hwo | exact absurd (show false = true from hz) (by decide)
            · exact lo.shaped
          cases hv : PyData.eqv a o with
          | true =>
            rw [hv] at q
            have q : QD (.v (.bool false)) _ := q
            tm_at "dl"
            all_goals first | exact q | tm_at "kl" | trace_state
          | false =>
            rw [hv] at q
            have q : QD (.v (.bool (isSp b e))) _ := q
            tm_at "dl"
            all_goals first | exact ch_tail rfl rfl q | trace_state
    · rw [decide_eq_false f, Bool.false_and] at q
      have ef : PyData.eqv (.str s) (.str "for") = false := by rw [CFTd.eqv_str]; exact decide_eq_false f
      tm_at "dl"
      all_goals first | exact q | tm_at "kl" | trace_state
theorem ok_is_book : ∀ as QD ED, S_is_book as QD ED → w_is_book (bodyEnds as QD fun _ _ => False) (startD n_is_book as) := by
  rintro as QD ED ⟨d, rfl, ok, q⟩
  unfold n_is_book w_is_book
  tm_at "dstart"
  tm_at "dl"
  · rw [bk_no ‹isT "tuple" d = false›] at q
    exact q
  obtain ⟨ds, rfl⟩ := isT_tup ‹isT "tuple" d = true›
  have oe := (okE_tup.mp ok).2
  tm_at "dl"
  · rw [bk_len (fun z => ‹¬ (ds.length : Int) = 3› (by omega))] at q
    exact q
  obtain ⟨js, l, c, rfl⟩ := len3 (ds := ds) (by omega)
  have ol := oe l (by simp)
  have oc := oe c (by simp)
  have b2 : atI [js, l, c] 2 = some c := L2.atI_nat (j := 2) rfl
  tm_at "dl"
  refine ⟨js, rfl, ?_⟩
  cases hj : areJu js with
  | false =>
    rw [bk_j hj] at q
    tm_at "dl"
    exact q
  | true =>
    tm_at "dl"
    · rw [bk_1 ‹isT "tuple" l = false›] at q
      exact q
    obtain ⟨ls, rfl⟩ := isT_tup ‹isT "tuple" l = true›
    have ol := (okE_tup.mp ol).2
    tm_at "dl"
    · have q : QD (.v (.bool false)) [.v (.tuple [js, .tuple ls, c])] := by
        cases c with
        | tuple cs =>
          rw [bk_at, decide_eq_false (show ¬ ls.length ≤ 4 by omega), Bool.false_and, Bool.and_false] at q
          exact q
        | _ => exact q
      exact q
    · rw [bk_2 ‹isT "tuple" c = false›] at q
      exact q
    obtain ⟨cs, rfl⟩ := isT_tup ‹isT "tuple" c = true›
    have oc := (okE_tup.mp oc).2
    tm_at "dl"
    · rw [bk_at, decide_eq_false (show ¬ cs.length ≤ 24 by omega), Bool.false_and, Bool.and_false, Bool.and_false] at q
      exact q
    have q : QD (.v (.bool (ls.all isLy && (cs.all isCh && decide ((ls.map wdT).Nodup))))) [.v (.tuple [js, .tuple ls, .tuple cs])] := by
      rw [bk_at, hj, decide_eq_true (show ls.length ≤ 4 by omega), decide_eq_true (show cs.length ≤ 24 by omega)] at q
      exact q
    refine lcK_id (fun x => PyData.bool (isLy x)) ls (fun x hx next hnx => ?_) ?_
    · clear q
      tm_at "dl"
      refine ⟨x, rfl, okE_sml _ (ol x hx), ?_⟩
      tm_at "dl"
      exact hnx
    rw [show (ls.map fun x => PyData.bool (isLy x)) = (ls.map isLy).map PyData.bool by rw [List.map_map]; rfl]
    have ea : (ls.map isLy).all id = ls.all isLy := by rw [List.all_map]; rfl
    have ec : (cs.map isCh).all id = cs.all isCh := by rw [List.all_map]; rfl
    cases h1 : ls.all isLy with
    | false =>
      rw [h1] at q ea
      tm_at "dl"
      all_goals first | exact q | exact absurd (ea.symm.trans ‹_ = true›) (by decide) | trace_state
    | true =>
      rw [h1, Bool.true_and] at q
      rw [h1] at ea
      tm_at "dl"
      all_goals try exact absurd (ea.symm.trans ‹(ls.map isLy).all id = false›) (by decide)
      refine lcK_id (fun x => PyData.bool (isCh x)) cs (fun x hx next hnx => ?_) ?_
      · clear q
        tm_at "dl"
        refine ⟨x, rfl, okE_sml _ (oc x hx), okE_ly (oc x hx), ?_⟩
        tm_at "dl"
        exact hnx
      rw [show (cs.map fun x => PyData.bool (isCh x)) = (cs.map isCh).map PyData.bool by rw [List.map_map]; rfl]
      cases h2 : cs.all isCh with
      | false =>
        rw [h2] at q ec
        tm_at "dl"
        all_goals first | exact q | exact absurd (ec.symm.trans ‹(cs.map isCh).all id = true›) (by decide) | trace_state
      | true =>
        rw [h2, Bool.true_and] at q
        rw [h2] at ec
        tm_at "dl"
        all_goals try exact absurd (ec.symm.trans ‹(cs.map isCh).all id = false›) (by decide)
        refine lcK_id (fun x => PyData.str (wdT x)) ls (fun x hx next hnx => ?_) ?_
        · clear q
          obtain ⟨r, e⟩ := ly_wd (List.all_eq_true.mp h1 x hx)
          generalize wdT x = w at e hnx
          subst e
          have a0 : atI (PyData.str w :: r) 0 = some (.str w) := atI_0
          tm_at "dl"
          exact hnx
        rw [show (ls.map fun x => PyData.str (wdT x)) = (ls.map wdT).map PyData.str by rw [List.map_map]; rfl]
        have ss : strsOf ((ls.map wdT).map PyData.str) = some (ls.map wdT) := strsOf_map _
        have ll : (ls.map wdT).length = ls.length := List.length_map _
        tm_at "dl"
        intro ms nd hm
        have ln := len_nd nd hm
        rw [ll] at ln
        rw [← ln] at q
        tm_at "dl"
        rw [eqv_int, show decide ((ms.length : Int) = (ls.length : Int)) = decide (ms.length = ls.length) from decide_eq_decide.mpr Int.ofNat_inj]
        exact q
theorem ok_law_is_book : ∀ as QD ED, S_law_is_book as QD ED → w_law_is_book (bodyEnds as QD fun _ _ => False) (startD n_law_is_book as) := by
  rintro as QD ED ⟨d, rfl, ok, q⟩
  unfold n_law_is_book w_law_is_book
  tm_at "dstart"
  tm_at "dl"
  refine ⟨d, 3, rfl, ?_⟩
  cases hr : isRow d 3 with
  | false =>
    have e : isBk d = false := by
      cases d with
      | tuple ds => exact bk_len (fun z => by have := of_decide_eq_false (show decide ((ds.length : Int) = 3) = false from hr); omega)
      | _ => rfl
    rw [e] at q
    tm_at "dl"
    exact q
  | true =>
    obtain ⟨ds, rfl, hl⟩ := row_get hr
    obtain ⟨js, l, c, rfl⟩ := len3 (ds := ds) (by omega)
    have oe := (okE_tup.mp ok).2
    have oj := oe js (by simp)
    have ol := oe l (by simp)
    have oc := oe c (by simp)
    have b2 : atI [js, l, c] 2 = some c := L2.atI_nat (j := 2) rfl
    tm_at "dl"
    refine ⟨js, rfl, oj, ?_⟩
    cases hj : areJu js with
    | false =>
      rw [bk_j hj] at q
      tm_at "dl"
      exact q
    | true =>
      tm_at "dl"
      · rw [bk_1 ‹isT "tuple" l = false›] at q
        exact q
      obtain ⟨ls, rfl⟩ := isT_tup ‹isT "tuple" l = true›
      have ol := (okE_tup.mp ol).2
      tm_at "dl"
      · have q : QD (.v (.bool false)) [.v (.tuple [js, .tuple ls, c])] := by
          cases c with
          | tuple cs =>
            rw [bk_at, decide_eq_false (show ¬ ls.length ≤ 4 by omega), Bool.false_and, Bool.and_false] at q
            exact q
          | _ => exact q
        exact q
      refine lcK_id (fun x => PyData.bool (isLy x)) ls (fun x hx next hnx => ?_) ?_
      · clear q
        tm_at "dl"
        refine ⟨x, rfl, ol x hx, ?_⟩
        tm_at "dl"
        exact hnx
      rw [show (ls.map fun x => PyData.bool (isLy x)) = (ls.map isLy).map PyData.bool by rw [List.map_map]; rfl]
      have ea : (ls.map isLy).all id = ls.all isLy := by rw [List.all_map]; rfl
      cases h1 : ls.all isLy with
      | false =>
        have q : QD (.v (.bool false)) [.v (.tuple [js, .tuple ls, c])] := by
          cases c with
          | tuple cs =>
            rw [bk_at, h1, Bool.false_and, Bool.and_false, Bool.and_false, Bool.and_false] at q
            exact q
          | _ => exact q
        rw [h1] at ea
        tm_at "dl"
        all_goals first | exact q | exact absurd (ea.symm.trans ‹_ = true›) (by decide) | trace_state
      | true =>
        rw [h1] at ea
        tm_at "dl"
        all_goals try exact absurd (ea.symm.trans ‹(ls.map isLy).all id = false›) (by decide)
        refine lcK_id (fun x => PyData.str (wdT x)) ls (fun x hx next hnx => ?_) ?_
        · clear q
          obtain ⟨r, e⟩ := ly_wd (List.all_eq_true.mp h1 x hx)
          generalize wdT x = w at e hnx
          subst e
          have a0 : atI (PyData.str w :: r) 0 = some (.str w) := atI_0
          tm_at "dl"
          exact hnx
        rw [show (ls.map fun x => PyData.str (wdT x)) = (ls.map wdT).map PyData.str by rw [List.map_map]; rfl]
        have ss : strsOf ((ls.map wdT).map PyData.str) = some (ls.map wdT) := strsOf_map _
        have ll : ((ls.map wdT).map PyData.str).length = ls.length := by rw [List.length_map, List.length_map]
        tm_at "dl"
        intro ms nd hm
        have ln := len_nd nd hm
        rw [List.length_map] at ln
        have en : decide ((ms.length : Int) = (((ls.map wdT).map PyData.str).length : Nat)) = decide ((ls.map wdT).Nodup) := by
          rw [← ln, ll]
          exact decide_eq_decide.mpr Int.ofNat_inj
        cases hn : decide ((ls.map wdT).Nodup) with
        | false =>
          have q : QD (.v (.bool false)) [.v (.tuple [js, .tuple ls, c])] := by
            cases c with
            | tuple cs =>
              rw [bk_at, hn, Bool.and_false, Bool.and_false, Bool.and_false, Bool.and_false, Bool.and_false] at q
              exact q
            | _ => exact q
          rw [hn] at en
          have en := of_decide_eq_false en
          tm_at "dl"
          all_goals first | exact q | trace_state
        | true =>
          rw [hn] at en
          have en := of_decide_eq_true en
          tm_at "dl"
          · rw [bk_2 ‹isT "tuple" c = false›] at q
            exact q
          obtain ⟨cs, rfl⟩ := isT_tup ‹isT "tuple" c = true›
          have oc := (okE_tup.mp oc).2
          have ec : (cs.map isCh).all id = cs.all isCh := by rw [List.all_map]; rfl
          tm_at "dl"
          · rw [bk_at, decide_eq_false (show ¬ cs.length ≤ 24 by omega), Bool.false_and, Bool.and_false, Bool.and_false] at q
            exact q
          rw [bk_at, hj, h1, hn, decide_eq_true (show ls.length ≤ 4 by omega), decide_eq_true (show cs.length ≤ 24 by omega), Bool.and_true] at q
          have q : QD (.v (.bool (cs.all isCh))) [.v (.tuple [js, .tuple ls, .tuple cs])] := q
          rw [← ec] at q
          refine lcK_id (fun x => PyData.bool (isCh x)) cs (fun x hx next hnx => ?_) ?_
          · clear q
            tm_at "dl"
            refine ⟨x, rfl, oc x hx, ?_⟩
            tm_at "dl"
            exact hnx
          rw [show (cs.map fun x => PyData.bool (isCh x)) = (cs.map isCh).map PyData.bool by rw [List.map_map]; rfl]
          tm_at "dl"
          all_goals first | exact q | trace_state
theorem cut_ins {ds : List D} {e : D} {a b c d : Option Int} (oe : ∀ x ∈ ds, okE x = true) (h : okE e = true) : ∀ x ∈ DL.cutD ds a b ++ [e] ++ DL.cutD ds c d, okE x = true := fun x hx => by
  rcases List.mem_append.mp hx with z | z
  · rcases List.mem_append.mp z with z | z
    · exact oe x (cut_mem z)
    · rw [List.mem_singleton.mp z]; exact h
  · exact oe x (cut_mem z)
theorem ds_nil (ds : List D) : (PyData.eqv (.list ds) (.list []) = true ∧ ds = []) ∨ (PyData.eqv (.list ds) (.list []) = false ∧ 0 < ds.length) := by
  cases ds with
  | nil => exact .inl ⟨rfl, rfl⟩
  | cons x xs => exact .inr ⟨rfl, Nat.zero_lt_succ _⟩
theorem ok_law_spoilt : ∀ d as QD ED, S_law_spoilt (d + 1) as QD ED → w_law_spoilt (S_law_spoilt d) (bodyEnds as QD fun _ _ => False) (startD n_law_spoilt as) := by
  rintro k as QD ED ⟨h, n, d, rfl, ho, hn, hk, og, q1, q2⟩
  unfold n_law_spoilt w_law_spoilt
  tm_at "dstart"
  tm_at "dl"
  · refine ⟨_, _, d, rfl, by assumption, by omega, og, fun h' e o' oe => ?_, fun h' es o' oe => ?_⟩
    · have q1 := q1 h' e (o'.up (by omega)) oe
      tm_at "dl"
      exact q1
    · have q2 := q2 h' es (o'.up (by omega)) oe
      tm_at "dl"
      exact q2
  · refine ⟨_, _, d, rfl, by assumption, by omega, og, fun h' e o' oe => ?_, fun h' es o' oe => ?_⟩
    · have q1 := q1 h' e (o'.up (by omega)) oe
      tm_at "dl"
      exact q1
    · have q2 := q2 h' es (o'.up (by omega)) oe
      tm_at "dl"
      exact q2
  · refine ⟨_, _, d, rfl, by assumption, by omega, og, fun h' e o' oe => ?_, fun h' es o' oe => ?_⟩
    · have q1 := q1 h' e (o'.up (by omega)) oe
      tm_at "dl"
      exact q1
    · have q2 := q2 h' es (o'.up (by omega)) oe
      tm_at "dl"
      exact q2
  obtain ⟨ds, rfl⟩ := isT_tup ‹isT "tuple" d = true›
  have oi := oo_tup.mp og.ok
  have lfd : lfree.lfreeAll ds = true := oo_lfA ds (ooA_iff.mpr oi.2)
  have d5 := oi.1
  have oe : ∀ x ∈ ds, okE x = true := fun x hx => oo_ok x (oi.2 x hx)
  have szd : ds.length ≤ sizeLine := by rw [sizeLine_eq]; omega
  have shd : SeqAt.shaped (.list ds) = true := (Lay.list (k := 10) fun x hx => lay_parts og.ly x hx).shaped
  have sh0 : SeqAt.shaped (.list []) = true := by decide +kernel
  have ogn : Org .none := ⟨rfl, Lay.none⟩
  have fin : ∀ (h' : Hd) (es : List D), h'.ok (n + 20 * (k + 1)) → es.length ≤ 1000 → (∀ x ∈ es, okE x = true) → QD (.v (.tuple es)) [hc h', .v (.tuple ds), .v (.int (k : Nat))] := fun h' es o' l e => q1 h' _ o' (okE_tup.mpr ⟨l, e⟩)
  obtain ⟨j, rfl⟩ : ∃ j, k = j + 1 := ⟨k - 1, by omega⟩
  clear q1 q2
  rcases ds_nil ds with ⟨en, dn⟩ | ⟨en, dp⟩
  · tm_at "dl"
    · rename_i x _ _ _ _
      have a1 := cut_lenD (ds := ds) (lo := none) (hi := some x)
      have a2 := cut_lenD (ds := ds) (lo := some x) (hi := none)
      refine ⟨fun _ => lfa_cut lfd, ?_⟩
      tm_at "dl"
      refine ⟨_, _, .none, rfl, by assumption, by omega, ogn, fun h' e o' oe2 => ?_, fun h' us o' oe2 => ?_⟩
      · have fin := fin h' (DL.cutD ds none (some x) ++ [e] ++ DL.cutD ds (some x) none) (o'.up (by omega)) (by rw [List.length_append, List.length_append, List.length_singleton]; omega) (cut_ins oe oe2)
        have sz2 : (DL.cutD ds none (some x)).length + [e].length ≤ sizeLine := by rw [sizeLine_eq, List.length_singleton]; omega
        have sz3 : (DL.cutD ds none (some x) ++ [e]).length + (DL.cutD ds (some x) none).length ≤ sizeLine := by rw [List.length_append, sizeLine_eq, List.length_singleton]; omega
        have sz4 : (DL.cutD ds none (some x) ++ [e] ++ DL.cutD ds (some x) none).length ≤ sizeLine := by rw [List.length_append, List.length_append, sizeLine_eq, List.length_singleton]; omega
        tm_at "dl"
        refine ⟨fun _ => lfa_cut lfd, ?_⟩
        tm_at "dl"
        exact fin
      · have fin := fin h' (DL.cutD ds none (some x) ++ [PyData.list us] ++ DL.cutD ds (some x) none) (o'.up (by omega)) (by rw [List.length_append, List.length_append, List.length_singleton]; omega) (cut_ins oe oe2)
        have sz2 : (DL.cutD ds none (some x)).length + [PyData.list us].length ≤ sizeLine := by rw [sizeLine_eq, List.length_singleton]; omega
        have sz3 : (DL.cutD ds none (some x) ++ [PyData.list us]).length + (DL.cutD ds (some x) none).length ≤ sizeLine := by rw [List.length_append, sizeLine_eq, List.length_singleton]; omega
        have sz4 : (DL.cutD ds none (some x) ++ [PyData.list us] ++ DL.cutD ds (some x) none).length ≤ sizeLine := by rw [List.length_append, List.length_append, sizeLine_eq, List.length_singleton]; omega
        tm_at "dl"
        refine ⟨fun _ => lfa_cut lfd, ?_⟩
        tm_at "dl"
        exact fin
    · refine ⟨_, _, .none, rfl, by assumption, by omega, ogn, fun h' e o' oe2 => ?_, fun h' us o' oe2 => ?_⟩
      · have fin := fin h' [e] (o'.up (by omega)) (Nat.le_of_ble_eq_true rfl) (fun x hx => by rw [List.mem_singleton.mp hx]; exact oe2)
        tm_at "dl"
        exact fin
      · have fin := fin h' [.list us] (o'.up (by omega)) (Nat.le_of_ble_eq_true rfl) (fun x hx => by rw [List.mem_singleton.mp hx]; exact oe2)
        tm_at "dl"
        exact fin
  · tm_at "dl"
    · rename_i x _ _ _ _
      have a1 := cut_lenD (ds := ds) (lo := none) (hi := some x)
      have a2 := cut_lenD (ds := ds) (lo := some x) (hi := none)
      refine ⟨fun _ => lfa_cut lfd, ?_⟩
      tm_at "dl"
      refine ⟨_, _, .none, rfl, by assumption, by omega, ogn, fun h' e o' oe2 => ?_, fun h' us o' oe2 => ?_⟩
      · have fin := fin h' (DL.cutD ds none (some x) ++ [e] ++ DL.cutD ds (some x) none) (o'.up (by omega)) (by rw [List.length_append, List.length_append, List.length_singleton]; omega) (cut_ins oe oe2)
        have sz2 : (DL.cutD ds none (some x)).length + [e].length ≤ sizeLine := by rw [sizeLine_eq, List.length_singleton]; omega
        have sz3 : (DL.cutD ds none (some x) ++ [e]).length + (DL.cutD ds (some x) none).length ≤ sizeLine := by rw [List.length_append, sizeLine_eq, List.length_singleton]; omega
        have sz4 : (DL.cutD ds none (some x) ++ [e] ++ DL.cutD ds (some x) none).length ≤ sizeLine := by rw [List.length_append, List.length_append, sizeLine_eq, List.length_singleton]; omega
        tm_at "dl"
        refine ⟨fun _ => lfa_cut lfd, ?_⟩
        tm_at "dl"
        exact fin
      · have fin := fin h' (DL.cutD ds none (some x) ++ [PyData.list us] ++ DL.cutD ds (some x) none) (o'.up (by omega)) (by rw [List.length_append, List.length_append, List.length_singleton]; omega) (cut_ins oe oe2)
        have sz2 : (DL.cutD ds none (some x)).length + [PyData.list us].length ≤ sizeLine := by rw [sizeLine_eq, List.length_singleton]; omega
        have sz3 : (DL.cutD ds none (some x) ++ [PyData.list us]).length + (DL.cutD ds (some x) none).length ≤ sizeLine := by rw [List.length_append, sizeLine_eq, List.length_singleton]; omega
        have sz4 : (DL.cutD ds none (some x) ++ [PyData.list us] ++ DL.cutD ds (some x) none).length ≤ sizeLine := by rw [List.length_append, List.length_append, sizeLine_eq, List.length_singleton]; omega
        tm_at "dl"
        refine ⟨fun _ => lfa_cut lfd, ?_⟩
        tm_at "dl"
        exact fin
    · rename_i x _ _ _ _ _
      have a1 := cut_lenD (ds := ds) (lo := none) (hi := some x)
      have a2 := cut_lenD (ds := ds) (lo := some (x + 1)) (hi := none)
      refine ⟨fun _ => lfa_cut lfd, ?_⟩
      tm_at "dl"
      refine ⟨fun _ => lfa_cut lfd, ?_⟩
      have fin := fin _ (DL.cutD ds none (some x) ++ DL.cutD ds (some (x + 1)) none) (Hd.ok.up (by assumption) (by omega)) (by rw [List.length_append]; omega) (fun y hy => (List.mem_append.mp hy).elim (fun z => oe y (cut_mem z)) (fun z => oe y (cut_mem z)))
      have sz2 : (DL.cutD ds none (some x)).length + (DL.cutD ds (some (x + 1)) none).length ≤ sizeLine := by rw [sizeLine_eq]; omega
      have sz3 : (DL.cutD ds none (some x) ++ DL.cutD ds (some (x + 1)) none).length ≤ sizeLine := by rw [List.length_append, sizeLine_eq]; omega
      tm_at "dl"
      exact fin
    · rename_i x _ x0 x1 _ _ _
      have a1 := cut_lenD (ds := ds) (lo := none) (hi := some x)
      have a2 := cut_lenD (ds := ds) (lo := some x) (hi := none)
      obtain ⟨y, ey, hy⟩ := at_wrap (ds := ds) (i := x - 1) (by omega) (by omega)
      refine ⟨fun _ => lfa_cut lfd, ?_⟩
      have fin := fin _ (DL.cutD ds none (some x) ++ [y] ++ DL.cutD ds (some x) none) (Hd.ok.up (by assumption) (by omega)) (by rw [List.length_append, List.length_append, List.length_singleton]; omega) (cut_ins oe (oe y hy))
      have sz2 : (DL.cutD ds none (some x)).length + [y].length ≤ sizeLine := by rw [sizeLine_eq, List.length_singleton]; omega
      have sz3 : (DL.cutD ds none (some x) ++ [y]).length + (DL.cutD ds (some x) none).length ≤ sizeLine := by rw [List.length_append, sizeLine_eq, List.length_singleton]; omega
      have sz4 : (DL.cutD ds none (some x) ++ [y] ++ DL.cutD ds (some x) none).length ≤ sizeLine := by rw [List.length_append, List.length_append, sizeLine_eq, List.length_singleton]; omega
      tm_at "dl"
      refine ⟨fun _ => lfa_cut lfd, ?_⟩
      tm_at "dl"
      exact fin
    · rename_i x ox x0 x1
      obtain ⟨i, rfl⟩ := Int.eq_ofNat_of_zero_le x0
      have hi : i < ds.length := by omega
      have ey : ds[i]? = some ds[i] := List.getElem?_eq_getElem hi
      have hy := List.getElem_mem hi
      refine optK_of (L2.atI_nat ey) ?_
      tm_at "dl"
      show S_law_spoilt (j + 1) [hc _, .v ds[i], .v (.int (((j + 1 : Nat) : Int) - 1))] _ _
      rw [show ((j + 1 : Nat) : Int) - 1 = (j : Nat) by omega]
      have okS : ∀ e : D, okE e = true → ∀ x ∈ ds.set i e, okE x = true := fun e he x hx => by
        rcases List.mem_or_eq_of_mem_set hx with z | z
        · exact oe x z
        · rw [z]; exact he
      refine ⟨_, _, ds[i], rfl, ox, by omega, by omega, og.parts _ hy, fun h' e o' oe2 => ?_, fun h' us o' oe2 => ?_⟩
      · have fin := fin h' (ds.set i e) (o'.up (by omega)) (by rw [List.length_set]; omega) (okS e oe2)
        have szs : (ds.set i e).length ≤ sizeLine := by rw [List.length_set]; exact szd
        tm_at "dl"
        refine optK_of (setI_nat hi) ?_
        tm_at "dl"
        exact fin
      · have fin := fin h' (ds.set i (.list us)) (o'.up (by omega)) (by rw [List.length_set]; omega) (okS _ oe2)
        have szs : (ds.set i (.list us)).length ≤ sizeLine := by rw [List.length_set]; exact szd
        tm_at "dl"
        refine optK_of (setI_nat hi) ?_
        tm_at "dl"
        exact fin
def w_bk : WS := (wSeq (wIf (wTst (wB oEq (wVar 3) (wC (.int 0))))
    (wSeq (wSetF 5 (wCall S_law_jump_row (wCons (wPk 0) (wCons (wB oAdd (wC (.int 8)) (wL oInt1 (wCons (wB oEq (wVar 4) (wC (.int 0))) wNil))) wNil))))
    (wSeq (wSetF 6 (wLcB [10] (wIR1 (wCons (wB oAdd (wC (.int 4)) (wL oInt1 (wCons (wB oEq (wVar 4) (wC (.int 1))) wNil))) wNil)) (wgName 10) wYes (wCall CFLy.S_law_layer (wCons (wPk 0) (wCons (wB oIx (wVar 2) (wVar 10)) (wCons (wVar 1) (wCons (wC (.int 60)) (wCons (wC (.int 13)) wNil))))))))
    (wSeq (wSetF 8 (wCall CFCg.S_law_change (wCons (wPk 0) (wCons (wVar 1) (wCons (wC (.int 50)) wNil)))))
    (wSetF 7 (wRep (wL oLst (wCons (wVar 8) wNil)) (wB oAdd (wC (.int 24)) (wL oInt1 (wCons (wB oEq (wVar 4) (wC (.int 2))) wNil))))))))
    wNext)
    (wRet (wL oTup (wCons (wVar 5) (wCons (wL oTuple (wCons (wVar 6) wNil)) (wCons (wL oTuple (wCons (wVar 7) wNil)) wNil))))))
def w_law_good1 : WS := wSeq (wSetF 1 (wCall CFWd.S_law_words (wCons (wPk 0) (wCons (wC (.int 3)) wNil))))
    (wSeq (wSetF 2 (wCall CFWd.S_law_words (wCons (wPk 0) (wCons (wC (.int 5)) wNil))))
    (wSeq (wSetF 3 (wCall CFH.S_law_take (wCons (wPk 0) (wCons (wC (.int 4)) wNil))))
    (wSeq (wSetF 4 (wCall CFH.S_law_take (wCons (wPk 0) (wCons (wC (.int 6)) wNil))))
    (wSeq (wSetF 5 (wCall CFJn.S_law_jumps (wCons (wPk 0) (wCons (wC (.int 3)) wNil))))
    (wSeq (wSetF 6 (wLcB [10] (wIR1 (wCons (wCall CFH.S_law_take (wCons (wPk 0) (wCons (wC (.int 4)) wNil))) wNil)) (wgName 10) wYes (wCall CFLy.S_law_layer (wCons (wPk 0) (wCons (wB oIx (wVar 2) (wVar 10)) (wCons (wVar 1) (wCons (wB oAdd (wC (.int 1)) (wCall CFH.S_law_take (wCons (wPk 0) (wCons (wC (.int 4)) wNil)))) (wCons (wC (.int 2)) wNil))))))))
    (wSeq (wSetF 7 (wLcB [10] (wIR1 (wCons (wCall CFH.S_law_take (wCons (wPk 0) (wCons (wC (.int 4)) wNil))) wNil)) (wgName 10) wYes (wCall CFCg.S_law_change (wCons (wPk 0) (wCons (wVar 1) (wCons (wC (.int 50)) wNil))))))
    w_bk))))))
theorem rep_flat {c : Chg} : ∀ {n : Nat}, (List.replicate n [chgD c]).flatten = (List.replicate n c).map chgD
  | 0 => rfl
  | n + 1 => by rw [List.replicate_succ, List.replicate_succ, List.flatten_cons, List.map_cons, rep_flat]; rfl
theorem bk_tail {h0 h : Hd} {n k : Nat} {ws vs : List Str} {c3 c4 : Int} {js : List Pr} {ls : List Lyr} {cs : List Chg} {QD : C → Rho → Prop} (ho : h.ok k) (hk : k ≤ n + 5000) (hn : n ≤ 400000)
    (wl : (ws.length : Int) = 3) (wok : WsOk ws) (vl : (vs.length : Int) = 5) (vok : WsOk vs) (jl : js.length ≤ 400) (lok : ∀ l ∈ ls, LyD l) (nl : ls.length ≤ 400) (cok : ∀ c ∈ cs, ChgOk c) (nc : cs.length ≤ 400)
    (q : ∀ (h' : Hd) (ds : List D), h'.ok (n + 20000) → Org (.tuple ds) → QD (.v (.tuple ds)) [hc h']) :
    w_bk (bodyEnds [hc h0] QD fun _ _ => False) [hc h, .v (CFCg.wsD ws), .v (CFCg.wsD vs), .v (.int c3), .v (.int c4), .v (psD js), .v (.list (ls.map lyrD)), .v (.list (cs.map chgD)), .no, .no, .no] := by
  unfold w_bk
  have wk : ∀ j : Nat, j < 5 → ∃ v, vs[j]? = some v ∧ WordOk v := fun j hj => ⟨vs[j]'(by omega), List.getElem?_eq_getElem _, vok.ok _ (List.getElem_mem _)⟩
  tm_at "dl"
  · clear jl lok nl cok nc
    refine ⟨_, _, _, rfl, ho, by omega, by split <;> omega, by split <;> omega, fun h1 js2 o1 jl2 => ?_⟩
    tm_at "dl"
    refine lcK_dj (inj := lyrD) _ (fun ls ρ => ∃ h' : Hd, h'.ok (k + 500 + 250 * ls.length) ∧ (∀ l ∈ ls, LyD l) ∧ ∃ c6 c7 : C, ρ = [hc h', .v (CFCg.wsD ws), .v (CFCg.wsD vs), .v (.int c3), .v (.int c4), .v (psD js2), c6, c7, .no, .no, .no]) ⟨h1, o1.up (by omega), (fun l hl => nomatch hl), _, _, rfl⟩ ?_ ?_
    · rintro ls2 ρ hl ⟨h7, o7, lok, c6, c7, rfl⟩
      have nl : ls2.length ≤ 5 := by rw [hl, rangeD_len]; split <;> omega
      tm_at "dl"
      refine ⟨_, _, ws, 50, rfl, o7, by omega, wok, by omega, by omega, by decide, fun h8 c o8 co _ => ?_⟩
      tm_at "dl"
      obtain ⟨r, er, r0, r1⟩ : ∃ r : Int, (24 + if PyData.eqv (.int c4) (.int 2) = true then (1 : Int) else 0) = r ∧ 24 ≤ r ∧ r ≤ 25 := ⟨_, rfl, by split <;> omega, by split <;> omega⟩
      rw [er]
      refine ⟨⟨by omega, by omega, by rw [List.length_singleton, Nat.one_mul, sizeLine_eq]; omega⟩, ?_⟩
      have q := q h8 _ (o8.up (by omega)) (org_bk (js := js2) (ls := ls2) (cs := List.replicate r.toNat c) (by omega) lok (by omega) (fun x hx => by rw [List.eq_of_mem_replicate hx]; exact co) (by rw [List.length_replicate]; omega))
      rw [show chgsD (List.replicate r.toNat c) = .tuple (List.replicate r.toNat [chgD c]).flatten by rw [rep_flat]] at q
      tm_at "dl"
      all_goals first | exact q | trace_state
    · rintro ls2 d ρ next hd hnx ⟨h7, o7, lok, c6, c7, rfl⟩
      obtain ⟨ed, jl⟩ := range_j hd
      subst ed
      have lt : ls2.length < 5 := by revert jl; split <;> (intro jl; omega)
      obtain ⟨v, ev, hv⟩ := wk _ lt
      have a2 : atI (vs.map PyData.str) (ls2.length : Int) = some (.str v) := L2.atI_nat (by rw [List.getElem?_map, ev]; rfl)
      clear q
      tm_at "dl"
      refine ⟨_, _, v, ws, 60, 13, rfl, o7, by omega, hv, by omega, by omega, fun w hw => wok.ok w hw, by omega, by omega, by decide, by decide, fun h9 l o9 lw e1 e2 hm hl2 => ?_⟩
      have lfl : lfree (lyrD l) = true := lf_lyr0
      tm_at "dl"
      refine hnx l _ ⟨h9, o9.up (by rw [List.length_append, List.length_singleton]; omega), fun y hy => ?_, _, _, rfl⟩
      rcases List.mem_append.mp hy with z | z
      · exact lok y z
      · rw [List.mem_singleton.mp z]; exact ⟨lw, by omega⟩
  · exact q h _ (ho.up (by omega)) (org_bk jl lok nl cok nc)
theorem ok_law_good : ∀ as QD ED, S_law_good as QD ED → w_law_good (bodyEnds as QD fun _ _ => False) (startD n_law_good as) := by
  rintro as QD ED ⟨h, n, rfl, ho, hn, q⟩
  rw [show w_law_good = w_law_good1 from rfl]
  unfold n_law_good w_law_good1
  tm_at "dstart"
  tm_at "dl"
  refine ⟨h, n, 3, rfl, ho, by omega, by decide, by decide, fun h1 ws o1 wl wok => ?_⟩
  tm_at "dl"
  refine ⟨h1, _, 5, rfl, o1, by omega, by decide, by decide, fun h2 vs o2 vl vok => ?_⟩
  tm_at "dl"
  refine ⟨_, _, 3, rfl, by assumption, by omega, by decide, by decide, fun h5 js o5 jok jl => ?_⟩
  tm_at "dl"
  rename_i h6 m o6 m0 m4
  have wk : ∀ j : Nat, j < 5 → ∃ v, vs[j]? = some v ∧ WordOk v := fun j hj => ⟨vs[j]'(by omega), List.getElem?_eq_getElem _, vok.ok _ (List.getElem_mem _)⟩
  refine lcK_dj (inj := lyrD) _ (fun ls ρ => ∃ h' : Hd, h'.ok (n + 500 + 250 * ls.length) ∧ (∀ l ∈ ls, LyD l) ∧ ∃ c3 c4 : Int, ρ = [hc h', .v (CFCg.wsD ws), .v (CFCg.wsD vs), .v (.int c3), .v (.int c4), .v (psD js), .no, .no, .no, .no, .no]) ⟨h6, o6.up (by omega), (fun l hl => nomatch hl), _, _, rfl⟩ ?_ ?_
  · rintro ls ρ hl ⟨h7, o7, lok, c3, c4, rfl⟩
    have nl : ls.length ≤ 4 := by rw [hl, rangeD_len]; omega
    tm_at "dl"
    rename_i h8 m2 o8 m20 m24
    refine lcK_dj (inj := chgD) _ (fun cs ρ => ∃ h' : Hd, h'.ok (n + 2000 + 100 * cs.length) ∧ (∀ c ∈ cs, ChgOk c) ∧ ρ = [hc h', .v (CFCg.wsD ws), .v (CFCg.wsD vs), .v (.int c3), .v (.int c4), .v (psD js), .v (.list (ls.map lyrD)), .no, .no, .no, .no]) ⟨h8, o8.up (by omega), (fun c hc => nomatch hc), rfl⟩ ?_ ?_
    · rintro cs ρ hlc ⟨h9, o9, cok, rfl⟩
      have nc : cs.length ≤ 4 := by rw [hlc, rangeD_len]; omega
      tm_at "dl"
      exact bk_tail (n := n) o9 (by omega) hn wl wok vl vok (by have := jok.2.1; omega) lok (by omega) cok (by omega) q
    · rintro cs d ρ next hd hnx ⟨h9, o9, cok, rfl⟩
      obtain ⟨ed, jl⟩ := range_j hd
      clear q
      tm_at "dl"
      refine ⟨_, _, ws, 50, rfl, o9, by omega, wok, by omega, by omega, by decide, fun h10 c o10 co _ => ?_⟩
      have lfc := lf_chg (c := c)
      tm_at "dl"
      refine hnx c _ ⟨h10, o10.up (by rw [List.length_append, List.length_singleton]; omega), fun x hx => ?_, rfl⟩
      rcases List.mem_append.mp hx with z | z
      · exact cok x z
      · rw [List.mem_singleton.mp z]; exact co
  · rintro ls d ρ next hd hnx ⟨h7, o7, lok, c3, c4, rfl⟩
    obtain ⟨ed, jl⟩ := range_j hd
    subst ed
    have lt : ls.length < 5 := by omega
    obtain ⟨v, ev, hv⟩ := wk _ lt
    have a2 : atI (vs.map PyData.str) (ls.length : Int) = some (.str v) := L2.atI_nat (by rw [List.getElem?_map, ev]; rfl)
    clear q
    tm_at "dl"
    rename_i h8 x o8 x0 x4
    refine ⟨_, _, v, ws, 1 + x, 2, rfl, o8, by omega, hv, by omega, by omega, fun w hw => wok.ok w hw, by omega, by omega, by decide, by decide, fun h9 l o9 lw e1 e2 hm hl2 => ?_⟩
    have lfl : lfree (lyrD l) = true := lf_lyr0
    tm_at "dl"
    refine hnx l _ ⟨h9, o9.up (by rw [List.length_append, List.length_singleton]; omega), fun y hy => ?_, _, _, rfl⟩
    rcases List.mem_append.mp hy with z | z
    · exact lok y z
    · rw [List.mem_singleton.mp z]; exact ⟨lw, by omega⟩
def w_th : WS := (wSeq (wIf (wNot (wTst (wCall S_law_same (wCons (wCall S_is_book (wCons (wVar 4) wNil)) (wCons (wCall S_law_is_book (wCons (wVar 4) wNil)) wNil)))))
    (wRet (wC (.bool false)))
    wNext)
    (wIf (wAnd (wTst (wU (oIsi "tuple") (wVar 4))) (wTst (wB oGt (wL oLen (wCons (wVar 4) wNil)) (wC (.int 1)))))
    (wSeq (wIf (wNot (wTst (wCall S_law_same (wCons (wCall CFIj.S_are_jumps (wCons (wB oIx (wVar 4) (wC (.int 0))) wNil)) (wCons (wCall S_law_are_jumps (wCons (wB oIx (wVar 4) (wC (.int 0))) wNil)) wNil)))))
    (wRet (wC (.bool false)))
    wNext)
    (wSeq (wSetF 5 (wIte (wTst (wU (oIsi "tuple") (wB oIx (wVar 4) (wC (.int 1))))) (wSl (wL oList (wCons (wB oIx (wVar 4) (wC (.int 1))) wNil)) wNoPart (wPart (wC (.int 5)))) (wL oLst (wCons (wB oIx (wVar 4) (wC (.int 1))) wNil))))
    (wIf (wNot (wTst (wL oAll (wCons (wLcB [7] (wISeq (wVar 5)) (wgName 7) wYes (wCall S_law_same (wCons (wCall CFIs.S_is_layer (wCons (wVar 7) wNil)) (wCons (wCall S_law_is_layer (wCons (wVar 7) wNil)) wNil)))) wNil))))
    (wRet (wC (.bool false)))
    wNext)))
    wNext))
def w_law1 : WS := wSeq (wFor (wIR1 (wCons (wL oMax2 (wCons (wC (.int 2)) (wCons (wL oMin2 (wCons (wC (.int 10)) (wCons (wL oLen (wCons (wVar 0) wNil)) wNil))) wNil))) wNil)) (wgName 1)
    (wSeq (wSet 2 (wCall CFH.S_law_hand (wCons (wVar 0) (wCons (wVar 1) wNil))))
    (wSeq (wSetF 3 (wCall S_law_good (wCons (wPk 2) wNil)))
    (wForN (wIL (wL oLst (wCons (wVar 3) (wCons (wCall (S_law_spoilt 5) (wCons (wPk 2) (wCons (wVar 3) (wCons (wC (.int 4)) wNil)))) wNil)))) (wgName 4)
    w_th))))
    (wRet (wC (.bool true)))
theorem th_ok {DD : EndsD} {l k g x : D} {h : Hd} {c5 : C} (ok : okE x = true) (hn : ∀ c5 : C, DD.nx [.v l, .v k, .own 0 (.lst (CFH.hd h)), .v g, .v x, c5, .no, .no]) :
    w_th DD [.v l, .v k, .own 0 (.lst (CFH.hd h)), .v g, .v x, c5, .no, .no] := by
  unfold w_th
  tm_at "dl"
  refine ⟨x, rfl, ok, ?_⟩
  tm_at "dl"
  refine ⟨x, rfl, ok, ?_⟩
  tm_at "dl"
  refine ⟨isBk x, isBk x, rfl, ?_⟩
  rw [beq_self_eq_true]
  tm_at "dl"
  · obtain ⟨us, rfl⟩ := isT_tup ‹isT "tuple" x = true›
    have oe := (okE_tup.mp ok)
    have szu : us.length ≤ sizeLine := by rw [sizeLine_eq]; omega
    tm_at "dl"
    · obtain ⟨a, b, r, rfl⟩ : ∃ a b r, us = a :: b :: r := by
        match us, ‹1 < (us.length : Int)› with
        | [], z => exact absurd z (by simp)
        | [_], z => exact absurd z (by simp)
        | a :: b :: r, _ => exact ⟨a, b, r, rfl⟩
      have oa := oe.2 a (by simp)
      have ob := oe.2 b (by simp)
      tm_at "dl"
      refine ⟨a, rfl, ?_⟩
      tm_at "dl"
      refine ⟨a, rfl, oa, ?_⟩
      tm_at "dl"
      refine ⟨areJu a, areJu a, rfl, ?_⟩
      rw [beq_self_eq_true]
      tm_at "dl"
      · obtain ⟨vs, rfl⟩ := isT_tup ‹isT "tuple" b = true›
        have ov := okE_tup.mp ob
        have szv : vs.length ≤ sizeLine := by rw [sizeLine_eq]; omega
        tm_at "dl"
        refine ⟨Nat.le_trans cut_lenD szv, ?_⟩
        refine lcK_id (fun _ => PyData.bool true) (DL.cutD vs none (some 5)) (fun y hy next hnx => ?_) ?_
        · have oy := ov.2 y (cut_mem hy)
          tm_at "dl"
          refine ⟨y, rfl, okE_sml _ oy, ?_⟩
          tm_at "dl"
          refine ⟨y, rfl, oy, ?_⟩
          tm_at "dl"
          refine ⟨isLy y, isLy y, rfl, ?_⟩
          rw [beq_self_eq_true]
          tm_at "dl"
          exact hnx
        · rw [show ((DL.cutD vs none (some 5)).map fun _ => PyData.bool true) = ((DL.cutD vs none (some 5)).map fun _ => true).map PyData.bool by rw [List.map_map]; rfl]
          refine optK_of (boolsOf_map _) ?_
          rw [show ((DL.cutD vs none (some 5)).map fun _ => true).all id = true by rw [List.all_map]; simp]
          tm_at "dl"
          exact hn _
      · refine ⟨b, rfl, okE_sml _ ob, ?_⟩
        tm_at "dl"
        refine ⟨b, rfl, ob, ?_⟩
        tm_at "dl"
        refine ⟨isLy b, isLy b, rfl, ?_⟩
        rw [beq_self_eq_true]
        tm_at "dl"
        exact hn _
    · exact hn _
  · exact hn _
theorem ok_law : ∀ as QD ED, S_law as QD ED → w_law (bodyEnds as QD fun _ _ => False) (startD n_law as) := by
  rintro as QD ED ⟨ns, rfl, hl, q⟩
  rw [show w_law = w_law1 from rfl]
  unfold n_law w_law1
  have szn : ns.length ≤ sizeLine := by rw [sizeLine_eq]; omega
  tm_at "dstart"
  tm_at "dl"
  refine forK_st _ (fun ρ => ∃ c1 c2 c3 c4 c5 : C, ρ = [.v (.list (ns.map PyData.int)), c1, c2, c3, c4, c5, .no, .no]) ⟨_, _, _, _, _, rfl⟩ ?_ ?_
  · rintro ρ ⟨c1, c2, c3, c4, c5, rfl⟩
    tm_at "dl"
    exact q _
  · rintro e he ρ next hnx ⟨c1, c2, c3, c4, c5, rfl⟩
    have hnx := fun a b c d e => hnx _ ⟨a, b, c, d, e, rfl⟩
    obtain ⟨k, rfl, k0, k1⟩ := mem_range he
    clear he
    tm_at "dl"
    refine ⟨ns, k, rfl, k0, by omega, fun h ho => ?_⟩
    tm_at "dl"
    refine ⟨h, 0, rfl, ho, by omega, fun h1 ds o1 og => ?_⟩
    tm_at "dl"
    have od := oo_ok _ og.ok
    refine ⟨h1, _, .tuple ds, rfl, o1, Nat.le_of_ble_eq_true rfl, by decide, og, fun h2 e o2 oe => ?_, fun h2 us o2 oe => ?_⟩
    · tm_at "dl"
      refine forN_of (forK_st _ (fun ρ => ∃ c4 c5 : C, ρ = [.v (.list (ns.map PyData.int)), .v (.int k), .own 0 (.lst (CFH.hd h2)), .v (.tuple ds), c4, c5, .no, .no]) ⟨_, _, rfl⟩ ?_ ?_)
      · rintro ρ ⟨c4, c5, rfl⟩
        exact hnx _ _ _ _ _
      · rintro x hx ρ next hnx2 ⟨c4, c5, rfl⟩
        have ox : okE x = true := by
          simp only [List.mem_cons, List.not_mem_nil, or_false] at hx
          rcases hx with rfl | rfl
          · exact od
          · exact oe
        exact th_ok ox fun _ => hnx2 _ ⟨_, _, rfl⟩
    · tm_at "dl"
      refine forN_of (forK_st _ (fun ρ => ∃ c4 c5 : C, ρ = [.v (.list (ns.map PyData.int)), .v (.int k), .own 0 (.lst (CFH.hd h2)), .v (.tuple ds), c4, c5, .no, .no]) ⟨_, _, rfl⟩ ?_ ?_)
      · rintro ρ ⟨c4, c5, rfl⟩
        exact hnx _ _ _ _ _
      · rintro x hx ρ next hnx2 ⟨c4, c5, rfl⟩
        have ox : okE x = true := by
          simp only [List.mem_cons, List.not_mem_nil, or_false] at hx
          rcases hx with rfl | rfl
          · exact od
          · exact oe
        exact th_ok ox fun _ => hnx2 _ ⟨_, _, rfl⟩
end K19
end

end

set_option Elab.async false
set_option linter.all false
set_option maxRecDepth 100000
set_option maxHeartbeats 4000000

/-! generated: the derivations, the end -/
namespace K19
open PySem PySem.Spec PyProof.Rows L2 DL K19H CFIs CFIj CFIc CFH CFCh CFWd CFJn CFLy CFCg
abbrev N_is_whole : List Str := ["thing"]
abbrev P_is_whole : List Str := ["thing"]
theorem sc_is_whole : FnScope N_is_whole P_is_whole (defScope st_is_whole) := ⟨rfl, rfl, rfl, by decide +kernel, rfl, by decide +kernel, by decide +kernel⟩
abbrev N_is_moment : List Str := ["thing"]
abbrev P_is_moment : List Str := ["thing"]
theorem sc_is_moment : FnScope N_is_moment P_is_moment (defScope st_is_moment) := ⟨rfl, rfl, rfl, by decide +kernel, rfl, by decide +kernel, by decide +kernel⟩
abbrev N_is_word : List Str := ["thing", "#0", "sign"]
abbrev P_is_word : List Str := ["thing"]
theorem sc_is_word : FnScope N_is_word P_is_word (defScope st_is_word) := ⟨rfl, rfl, rfl, by decide +kernel, rfl, by decide +kernel, by decide +kernel⟩
abbrev N_is_rising : List Str := ["row", "#0", "k"]
abbrev P_is_rising : List Str := ["row"]
theorem sc_is_rising : FnScope N_is_rising P_is_rising (defScope st_is_rising) := ⟨rfl, rfl, rfl, by decide +kernel, rfl, by decide +kernel, by decide +kernel⟩
abbrev N_is_span : List Str := ["begin", "end"]
abbrev P_is_span : List Str := ["begin", "end"]
theorem sc_is_span : FnScope N_is_span P_is_span (defScope st_is_span) := ⟨rfl, rfl, rfl, by decide +kernel, rfl, by decide +kernel, by decide +kernel⟩
abbrev N_is_change : List Str := ["thing"]
abbrev P_is_change : List Str := ["thing"]
theorem sc_is_change : FnScope N_is_change P_is_change (defScope st_is_change) := ⟨rfl, rfl, rfl, by decide +kernel, rfl, by decide +kernel, by decide +kernel⟩
abbrev N_is_jump : List Str := ["thing", "at", "by"]
abbrev P_is_jump : List Str := ["thing"]
theorem sc_is_jump : FnScope N_is_jump P_is_jump (defScope st_is_jump) := ⟨rfl, rfl, rfl, by decide +kernel, rfl, by decide +kernel, by decide +kernel⟩
abbrev N_are_jumps : List Str := ["thing", "#0", "jump"]
abbrev P_are_jumps : List Str := ["thing"]
theorem sc_are_jumps : FnScope N_are_jumps P_are_jumps (defScope st_are_jumps) := ⟨rfl, rfl, rfl, by decide +kernel, rfl, by decide +kernel, by decide +kernel⟩
abbrev N_is_turn : List Str := ["thing", "low", "high", "begin", "end", "hand"]
abbrev P_is_turn : List Str := ["thing", "low", "high"]
theorem sc_is_turn : FnScope N_is_turn P_is_turn (defScope st_is_turn) := ⟨rfl, rfl, rfl, by decide +kernel, rfl, by decide +kernel, by decide +kernel⟩
abbrev N_are_turns : List Str := ["thing", "most", "low", "turn"]
abbrev P_are_turns : List Str := ["thing", "most"]
theorem sc_are_turns : FnScope N_are_turns P_are_turns (defScope st_are_turns) := ⟨rfl, rfl, rfl, by decide +kernel, rfl, by decide +kernel, by decide +kernel⟩
abbrev N_is_layer : List Str := ["thing", "word", "start", "days", "turns"]
abbrev P_is_layer : List Str := ["thing"]
theorem sc_is_layer : FnScope N_is_layer P_is_layer (defScope st_is_layer) := ⟨rfl, rfl, rfl, by decide +kernel, rfl, by decide +kernel, by decide +kernel⟩
abbrev N_is_book : List Str := ["thing", "layers", "changes", "#0", "layer", "change"]
abbrev P_is_book : List Str := ["thing"]
theorem sc_is_book : FnScope N_is_book P_is_book (defScope st_is_book) := ⟨rfl, rfl, rfl, by decide +kernel, rfl, by decide +kernel, by decide +kernel⟩
abbrev N_law_hand : List Str := ["_law_script", "_law_k", "_law_cell"]
abbrev P_law_hand : List Str := ["_law_script", "_law_k"]
theorem sc_law_hand : FnScope N_law_hand P_law_hand (defScope st_law_hand) := ⟨rfl, rfl, rfl, by decide +kernel, rfl, by decide +kernel, by decide +kernel⟩
abbrev N_law_take : List Str := ["_law_hand_here", "_law_many", "_law_digit", "_law_turn", "_law_more", "_law_mixed", "_law_other"]
abbrev P_law_take : List Str := ["_law_hand_here", "_law_many"]
theorem sc_law_take : FnScope N_law_take P_law_take (defScope st_law_take) := ⟨rfl, rfl, rfl, by decide +kernel, rfl, by decide +kernel, by decide +kernel⟩
abbrev N_law_pick : List Str := ["_law_hand_here", "_law_some"]
abbrev P_law_pick : List Str := ["_law_hand_here", "_law_some"]
theorem sc_law_pick : FnScope N_law_pick P_law_pick (defScope st_law_pick) := ⟨rfl, rfl, rfl, by decide +kernel, rfl, by decide +kernel, by decide +kernel⟩
abbrev N_law_great : List Str := ["_law_hand_here", "_law_found", "_law_k"]
abbrev P_law_great : List Str := ["_law_hand_here"]
theorem sc_law_great : FnScope N_law_great P_law_great (defScope st_law_great) := ⟨rfl, rfl, rfl, by decide +kernel, rfl, by decide +kernel, by decide +kernel⟩
abbrev N_law_moment : List Str := ["_law_hand_here", "_law_way"]
abbrev P_law_moment : List Str := ["_law_hand_here"]
theorem sc_law_moment : FnScope N_law_moment P_law_moment (defScope st_law_moment) := ⟨rfl, rfl, rfl, by decide +kernel, rfl, by decide +kernel, by decide +kernel⟩
abbrev N_law_words : List Str := ["_law_hand_here", "_law_many", "_law_signs", "_law_begin", "_law_step", "_law_stem", "_law_at", "_law_short", "_law_words_here", "_law_k", "_law_behind", "_law_sign"]
abbrev P_law_words : List Str := ["_law_hand_here", "_law_many"]
theorem sc_law_words : FnScope N_law_words P_law_words (defScope st_law_words) := ⟨rfl, rfl, rfl, by decide +kernel, rfl, by decide +kernel, by decide +kernel⟩
abbrev N_law_jumps : List Str := ["_law_hand_here", "_law_most", "_law_found", "_law_at", "_law_k", "_law_way", "_law_by"]
abbrev P_law_jumps : List Str := ["_law_hand_here", "_law_most"]
theorem sc_law_jumps : FnScope N_law_jumps P_law_jumps (defScope st_law_jumps) := ⟨rfl, rfl, rfl, by decide +kernel, rfl, by decide +kernel, by decide +kernel⟩
abbrev N_law_minute : List Str := ["_law_hand_here", "_law_days", "_law_way", "_law_day"]
abbrev P_law_minute : List Str := ["_law_hand_here", "_law_days"]
theorem sc_law_minute : FnScope N_law_minute P_law_minute (defScope st_law_minute) := ⟨rfl, rfl, rfl, by decide +kernel, rfl, by decide +kernel, by decide +kernel⟩
abbrev N_law_layer : List Str := ["_law_hand_here", "_law_word", "_law_names", "_law_days", "_law_most", "_law_start", "_law_k", "_law_ends", "_law_turns", "#0"]
abbrev P_law_layer : List Str := ["_law_hand_here", "_law_word", "_law_names", "_law_days", "_law_most"]
theorem sc_law_layer : FnScope N_law_layer P_law_layer (defScope st_law_layer) := ⟨rfl, rfl, rfl, by decide +kernel, rfl, by decide +kernel, by decide +kernel⟩
abbrev N_law_change : List Str := ["_law_hand_here", "_law_names", "_law_low", "_law_way", "_law_begin", "_law_ending", "_law_end", "_law_at", "_law_other"]
abbrev P_law_change : List Str := ["_law_hand_here", "_law_names", "_law_low"]
theorem sc_law_change : FnScope N_law_change P_law_change (defScope st_law_change) := ⟨rfl, rfl, rfl, by decide +kernel, rfl, by decide +kernel, by decide +kernel⟩
abbrev N_law_jump_row : List Str := ["_law_hand_here", "_law_many", "_law_found", "_law_at", "_law_k"]
abbrev P_law_jump_row : List Str := ["_law_hand_here", "_law_many"]
theorem sc_law_jump_row : FnScope N_law_jump_row P_law_jump_row (defScope st_law_jump_row) := ⟨rfl, rfl, rfl, by decide +kernel, rfl, by decide +kernel, by decide +kernel⟩
abbrev N_law_good : List Str := ["_law_hand_here", "_law_names", "_law_words_here", "_law_full", "_law_more", "_law_jumps_here", "_law_layers", "_law_changes", "_law_one", "#0", "_law_k"]
abbrev P_law_good : List Str := ["_law_hand_here"]
theorem sc_law_good : FnScope N_law_good P_law_good (defScope st_law_good) := ⟨rfl, rfl, rfl, by decide +kernel, rfl, by decide +kernel, by decide +kernel⟩
abbrev N_law_odd : List Str := ["_law_hand_here", "_law_thing", "_law_way"]
abbrev P_law_odd : List Str := ["_law_hand_here", "_law_thing"]
theorem sc_law_odd : FnScope N_law_odd P_law_odd (defScope st_law_odd) := ⟨rfl, rfl, rfl, by decide +kernel, rfl, by decide +kernel, by decide +kernel⟩
abbrev N_law_spoilt : List Str := ["_law_hand_here", "_law_thing", "_law_deep", "_law_row", "_law_way", "_law_at"]
abbrev P_law_spoilt : List Str := ["_law_hand_here", "_law_thing", "_law_deep"]
theorem sc_law_spoilt : FnScope N_law_spoilt P_law_spoilt (defScope st_law_spoilt) := ⟨rfl, rfl, rfl, by decide +kernel, rfl, by decide +kernel, by decide +kernel⟩
abbrev N_law_is_whole : List Str := ["_law_thing", "_law_low", "_law_high"]
abbrev P_law_is_whole : List Str := ["_law_thing", "_law_low", "_law_high"]
theorem sc_law_is_whole : FnScope N_law_is_whole P_law_is_whole (defScope st_law_is_whole) := ⟨rfl, rfl, rfl, by decide +kernel, rfl, by decide +kernel, by decide +kernel⟩
abbrev N_law_is_row : List Str := ["_law_thing", "_law_many"]
abbrev P_law_is_row : List Str := ["_law_thing", "_law_many"]
theorem sc_law_is_row : FnScope N_law_is_row P_law_is_row (defScope st_law_is_row) := ⟨rfl, rfl, rfl, by decide +kernel, rfl, by decide +kernel, by decide +kernel⟩
abbrev N_law_is_word : List Str := ["_law_thing", "#0", "_law_sign"]
abbrev P_law_is_word : List Str := ["_law_thing"]
theorem sc_law_is_word : FnScope N_law_is_word P_law_is_word (defScope st_law_is_word) := ⟨rfl, rfl, rfl, by decide +kernel, rfl, by decide +kernel, by decide +kernel⟩
abbrev N_law_are_jumps : List Str := ["_law_thing", "_law_ahead", "_law_one"]
abbrev P_law_are_jumps : List Str := ["_law_thing"]
theorem sc_law_are_jumps : FnScope N_law_are_jumps P_law_are_jumps (defScope st_law_are_jumps) := ⟨rfl, rfl, rfl, by decide +kernel, rfl, by decide +kernel, by decide +kernel⟩
abbrev N_law_is_layer : List Str := ["_law_thing", "_law_ahead", "_law_one"]
abbrev P_law_is_layer : List Str := ["_law_thing"]
theorem sc_law_is_layer : FnScope N_law_is_layer P_law_is_layer (defScope st_law_is_layer) := ⟨rfl, rfl, rfl, by decide +kernel, rfl, by decide +kernel, by decide +kernel⟩
abbrev N_law_is_change : List Str := ["_law_thing", "#0", "_law_word"]
abbrev P_law_is_change : List Str := ["_law_thing"]
theorem sc_law_is_change : FnScope N_law_is_change P_law_is_change (defScope st_law_is_change) := ⟨rfl, rfl, rfl, by decide +kernel, rfl, by decide +kernel, by decide +kernel⟩
abbrev N_law_is_book : List Str := ["_law_thing", "_law_words_here", "#0", "_law_one"]
abbrev P_law_is_book : List Str := ["_law_thing"]
theorem sc_law_is_book : FnScope N_law_is_book P_law_is_book (defScope st_law_is_book) := ⟨rfl, rfl, rfl, by decide +kernel, rfl, by decide +kernel, by decide +kernel⟩
abbrev N_law_same : List Str := ["_law_found", "_law_due"]
abbrev P_law_same : List Str := ["_law_found", "_law_due"]
theorem sc_law_same : FnScope N_law_same P_law_same (defScope st_law_same) := ⟨rfl, rfl, rfl, by decide +kernel, rfl, by decide +kernel, by decide +kernel⟩
abbrev N_law : List Str := ["_law_script", "_law_k", "_law_hand_here", "_law_good_here", "_law_thing", "_law_some", "#0", "_law_one"]
abbrev P_law : List Str := ["_law_script"]
theorem sc_law : FnScope N_law P_law (defScope st_law) := ⟨rfl, rfl, rfl, by decide +kernel, rfl, by decide +kernel, by decide +kernel⟩
section
variable {P : Program} {w : World} {K : PySem.W.Frag} {mg : Str → Option Value} {base : Heap}
theorem has_is_whole {a : Addr} {fd : FuncData} (F : FunD K "is_whole" "is_whole" (defArgs st_is_whole) (defBody st_is_whole) (defScope st_is_whole) [] [] a fd) (gl : mg "is_whole" = some (.ref a)) (m_isinstance : mg "isinstance" = none) (m_int : mg "int" = none) (m_bool : mg "bool" = none) : Has P w K mg base 1 "is_whole" CFIs.S_is_whole :=
  ⟨a, fd, P_is_whole, fn0 (k := 0) (L := CFIs.L_is_whole) (ww := CFIs.w_is_whole) F sc_is_whole rfl CFIs.len_is_whole (by
      intro cdv A outer s H E hr g hgL
      unfold CFIs.w_is_whole
      refine eb_one ?_
      refine es_ret ?_
      refine ee_and ?_ ?_
      refine ee_isi2 (by rfl) m_isinstance (by rfl) m_int ?_
      exact ee_var (pv 0)
      refine ee_one ?_
      refine ee_not ?_
      refine ee_isi2 (by rfl) m_isinstance (by rfl) m_bool ?_
      exact ee_var (pv 0)) CFIs.ok_is_whole, gl, F.kp, F.bindsN (fun _ _ _ _ _ _ us hl => match us, hl with | [_], _ => rfl)⟩
theorem has_is_moment {a : Addr} {fd : FuncData} (F : FunD K "is_moment" "is_moment" (defArgs st_is_moment) (defBody st_is_moment) (defScope st_is_moment) [] [] a fd) (gl : mg "is_moment" = some (.ref a)) (h_is_whole : Has P w K mg base 1 "is_whole" CFIs.S_is_whole) (c_LATEST : ∃ t, mg "LATEST" = some (.int 1000000000000000000000000000000000000000000000000000000000000 t)) : Has P w K mg base 2 "is_moment" CFIj.S_is_moment :=
  ⟨a, fd, P_is_moment, fn0 (k := 1) (L := CFIj.L_is_moment) (ww := CFIj.w_is_moment) F sc_is_moment rfl CFIj.len_is_moment (by
      intro cdv A outer s H E hr g hgL
      unfold CFIj.w_is_moment
      refine eb_one ?_
      refine es_ret ?_
      refine ee_and ?_ ?_
      refine ee_has h_is_whole (hr.mono (by decide)) (by rfl) ?_
      refine ea_cons ?_ ?_
      exact ee_var (pv 0)
      exact ea_nil
      refine ee_one ?_
      refine ee_chain (f := fun i j => decide (i ≤ j)) (f' := fun i j => decide (i < j)) op_le op_lt ?_ ?_ ?_
      exact ee_int
      exact ee_var (pv 0)
      exact ee_gint (by rfl) c_LATEST.choose_spec) CFIj.ok_is_moment, gl, F.kp, F.bindsN (fun _ _ _ _ _ _ us hl => match us, hl with | [_], _ => rfl)⟩
theorem has_is_word {a : Addr} {fd : FuncData} (F : FunD K "is_word" "is_word" (defArgs st_is_word) (defBody st_is_word) (defScope st_is_word) [] [] a fd) (gl : mg "is_word" = some (.ref a)) (m_isinstance : mg "isinstance" = none) (m_str : mg "str" = none) (m_len : mg "len" = none) (m_all : mg "all" = none) (c_SIGNS : ∃ t, mg "SIGNS" = some (.str "abcdefghijklmnopqrstuvwxyz0123456789" t)) : Has P w K mg base 1 "is_word" CFIs.S_is_word :=
  ⟨a, fd, P_is_word, fn0 (k := 0) (L := CFIs.L_is_word) (ww := CFIs.w_is_word) F sc_is_word rfl CFIs.len_is_word (by
      intro cdv A outer s H E hr g hgL
      unfold CFIs.w_is_word
      refine eb_cons ?_ ?_
      refine es_if ?_ ?_ ?_
      refine et_w ?_
      refine ew_or ?_ ?_
      refine et_not ?_
      refine et_val ?_
      refine ee_isi2 (by rfl) m_isinstance (by rfl) m_str ?_
      exact ee_var (pv 0)
      refine ew_or1 ?_
      refine et_not ?_
      refine et_chain (f := fun i j => decide (i ≤ j)) (f' := fun i j => decide (i ≤ j)) op_le op_le ?_ ?_ ?_
      exact ee_int
      refine ee_len (by rfl) m_len ?_
      refine ea_cons ?_ ?_
      exact ee_var (pv 0)
      exact ea_nil
      exact ee_int
      refine eb_one ?_
      refine es_ret ?_
      exact ee_bl
      exact eb_nil
      refine eb_one ?_
      refine es_ret ?_
      refine ee_all rfl (by rfl) m_all ?_
      refine ea_cons ?_ ?_
      refine ee_lc (own := [("sign", 2)]) rfl sc_is_word.nd (lf_ hgL rfl) ?_ (blkOk_by (own := [("sign", 2)]) (N := N_is_word) (sc := defScope st_is_word) (by decide +kernel)) (fun _ _ _ _ _ => eg_name (i := 2) sc_is_word.nd rfl (Or.inl rfl)) (fun _ _ _ _ _ => ets_nil) (fun _ _ _ _ _ => ee_in (units65 hr) (ee_var (pv 2)) (ee_gstr (by rfl) c_SIGNS.choose_spec))
      refine ei_seq ?_
      exact ee_var (pv 0)
      exact ea_nil) CFIs.ok_is_word, gl, F.kp, F.bindsN (fun _ _ _ _ _ _ us hl => match us, hl with | [_], _ => rfl)⟩
theorem has_is_rising {a : Addr} {fd : FuncData} (F : FunD K "is_rising" "is_rising" (defArgs st_is_rising) (defBody st_is_rising) (defScope st_is_rising) [] [] a fd) (gl : mg "is_rising" = some (.ref a)) (m_all : mg "all" = none) (m_range : mg "range" = none) (m_len : mg "len" = none) : Has P w K mg base 1 "is_rising" CFIj.S_is_rising :=
  ⟨a, fd, P_is_rising, fn0 (k := 0) (L := CFIj.L_is_rising) (ww := CFIj.w_is_rising) F sc_is_rising rfl CFIj.len_is_rising (by
      intro cdv A outer s H E hr g hgL
      unfold CFIj.w_is_rising
      refine eb_one ?_
      refine es_ret ?_
      refine ee_all rfl (by rfl) m_all ?_
      refine ea_cons ?_ ?_
      refine ee_lc (own := [("k", 2)]) rfl sc_is_rising.nd (lf_ hgL rfl) ?_ (blkOk_by (own := [("k", 2)]) (N := N_is_rising) (sc := defScope st_is_rising) (by decide +kernel)) (fun _ _ _ _ _ => eg_name (i := 2) sc_is_rising.nd rfl (Or.inl rfl)) (fun _ _ _ _ _ => ets_nil) (fun _ _ _ _ _ => ee_lt (ee_ix (ee_var (pv 0)) (ee_var (pv 2))) (ee_ix (ee_var (pv 0)) (ee_add (ee_var (pv 2)) ee_int)))
      refine ei_range1 (by rfl) m_range ?_
      refine ea_cons ?_ ?_
      refine ee_sub ?_ ?_
      refine ee_len (by rfl) m_len ?_
      refine ea_cons ?_ ?_
      exact ee_var (pv 0)
      exact ea_nil
      exact ee_int
      exact ea_nil
      exact ea_nil) CFIj.ok_is_rising, gl, F.kp, F.bindsN (fun _ _ _ _ _ _ us hl => match us, hl with | [_], _ => rfl)⟩
theorem has_is_span {a : Addr} {fd : FuncData} (F : FunD K "is_span" "is_span" (defArgs st_is_span) (defBody st_is_span) (defScope st_is_span) [] [] a fd) (gl : mg "is_span" = some (.ref a)) (h_is_moment : Has P w K mg base 2 "is_moment" CFIj.S_is_moment) : Has P w K mg base 3 "is_span" CFIc.S_is_span :=
  ⟨a, fd, P_is_span, fn0 (k := 2) (L := CFIc.L_is_span) (ww := CFIc.w_is_span) F sc_is_span rfl CFIc.len_is_span (by
      intro cdv A outer s H E hr g hgL
      unfold CFIc.w_is_span
      refine eb_cons ?_ ?_
      refine es_if ?_ ?_ ?_
      refine et_not ?_
      refine et_val ?_
      refine ee_has h_is_moment (hr.mono (by decide)) (by rfl) ?_
      refine ea_cons ?_ ?_
      exact ee_var (pv 0)
      exact ea_nil
      refine eb_one ?_
      refine es_ret ?_
      exact ee_bl
      exact eb_nil
      refine eb_one ?_
      refine es_ret ?_
      refine ee_or ?_ ?_
      refine ee_isN ?_
      exact ee_var (pv 1)
      refine ee_one ?_
      refine ee_and ?_ ?_
      refine ee_has h_is_moment (hr.mono (by decide)) (by rfl) ?_
      refine ea_cons ?_ ?_
      exact ee_var (pv 1)
      exact ea_nil
      refine ee_one ?_
      refine ee_lt ?_ ?_
      exact ee_var (pv 0)
      exact ee_var (pv 1)) CFIc.ok_is_span, gl, F.kp, F.bindsN (fun _ _ _ _ _ _ us hl => match us, hl with | [_, _], _ => rfl)⟩
theorem has_is_change {a : Addr} {fd : FuncData} (F : FunD K "is_change" "is_change" (defArgs st_is_change) (defBody st_is_change) (defScope st_is_change) [] [] a fd) (gl : mg "is_change" = some (.ref a)) (m_isinstance : mg "isinstance" = none) (m_tuple : mg "tuple" = none) (m_len : mg "len" = none) (m_str : mg "str" = none) (h_is_word : Has P w K mg base 1 "is_word" CFIs.S_is_word) (h_is_span : Has P w K mg base 3 "is_span" CFIc.S_is_span) : Has P w K mg base 4 "is_change" CFIc.S_is_change :=
  ⟨a, fd, P_is_change, fn0 (k := 3) (L := CFIc.L_is_change) (ww := CFIc.w_is_change) F sc_is_change rfl CFIc.len_is_change (by
      intro cdv A outer s H E hr g hgL
      unfold CFIc.w_is_change
      refine eb_cons ?_ ?_
      refine es_if ?_ ?_ ?_
      refine et_w ?_
      refine ew_or ?_ ?_
      refine et_not ?_
      refine et_val ?_
      refine ee_isi2 (by rfl) m_isinstance (by rfl) m_tuple ?_
      exact ee_var (pv 0)
      refine ew_or ?_ ?_
      refine et_not ?_
      refine et_chain (f := fun i j => decide (i ≤ j)) (f' := fun i j => decide (i ≤ j)) op_le op_le ?_ ?_ ?_
      exact ee_int
      refine ee_len (by rfl) m_len ?_
      refine ea_cons ?_ ?_
      exact ee_var (pv 0)
      exact ea_nil
      exact ee_int
      refine ew_or1 ?_
      refine et_not ?_
      refine et_val ?_
      refine ee_isi2 (by rfl) m_isinstance (by rfl) m_str ?_
      refine ee_ix ?_ ?_
      exact ee_var (pv 0)
      exact ee_int
      refine eb_one ?_
      refine es_ret ?_
      exact ee_bl
      exact eb_nil
      refine eb_cons ?_ ?_
      refine es_if ?_ ?_ ?_
      refine et_eq hr.units ?_ ?_
      refine ee_ix ?_ ?_
      exact ee_var (pv 0)
      exact ee_int
      exact ee_str
      refine eb_one ?_
      refine es_if ?_ ?_ ?_
      refine et_w ?_
      refine ew_or ?_ ?_
      refine et_eq hr.units ?_ ?_
      refine ee_len (by rfl) m_len ?_
      refine ea_cons ?_ ?_
      exact ee_var (pv 0)
      exact ea_nil
      exact ee_int
      refine ew_or ?_ ?_
      refine et_not ?_
      refine et_val ?_
      refine ee_has h_is_word (hr.mono (by decide)) (by rfl) ?_
      refine ea_cons ?_ ?_
      refine ee_ix ?_ ?_
      exact ee_var (pv 0)
      exact ee_int
      exact ea_nil
      refine ew_or1 ?_
      refine et_eqX hr.units ?_ ?_
      refine ee_ix ?_ ?_
      exact ee_var (pv 0)
      exact ee_int
      refine ee_ix ?_ ?_
      exact ee_var (pv 0)
      exact ee_int
      refine eb_one ?_
      refine es_ret ?_
      exact ee_bl
      exact eb_nil
      refine eb_one ?_
      refine es_if ?_ ?_ ?_
      refine et_w ?_
      refine ew_or ?_ ?_
      refine et_notin (units65 hr) ?_ ?_
      refine ee_ix ?_ ?_
      exact ee_var (pv 0)
      exact ee_int
      refine ee_tup ?_
      refine ea_cons ?_ ?_
      exact ee_str
      refine ea_cons ?_ ?_
      exact ee_str
      exact ea_nil
      refine ew_or1 ?_
      refine et_eq hr.units ?_ ?_
      refine ee_len (by rfl) m_len ?_
      refine ea_cons ?_ ?_
      exact ee_var (pv 0)
      exact ea_nil
      exact ee_int
      refine eb_one ?_
      refine es_ret ?_
      exact ee_bl
      exact eb_nil
      refine eb_one ?_
      refine es_ret ?_
      refine ee_and ?_ ?_
      refine ee_has h_is_word (hr.mono (by decide)) (by rfl) ?_
      refine ea_cons ?_ ?_
      refine ee_ix ?_ ?_
      exact ee_var (pv 0)
      exact ee_int
      exact ea_nil
      refine ee_one ?_
      refine ee_has h_is_span (hr.mono (by decide)) (by rfl) ?_
      refine ea_cons ?_ ?_
      refine ee_ix ?_ ?_
      exact ee_var (pv 0)
      refine ee_neg ?_
      exact ee_int
      refine ea_cons ?_ ?_
      refine ee_ix ?_ ?_
      exact ee_var (pv 0)
      refine ee_neg ?_
      exact ee_int
      exact ea_nil) CFIc.ok_is_change, gl, F.kp, F.bindsN (fun _ _ _ _ _ _ us hl => match us, hl with | [_], _ => rfl)⟩
theorem has_is_jump {a : Addr} {fd : FuncData} (F : FunD K "is_jump" "is_jump" (defArgs st_is_jump) (defBody st_is_jump) (defScope st_is_jump) [] [] a fd) (gl : mg "is_jump" = some (.ref a)) (m_isinstance : mg "isinstance" = none) (m_tuple : mg "tuple" = none) (m_len : mg "len" = none) (h_is_moment : Has P w K mg base 2 "is_moment" CFIj.S_is_moment) (h_is_whole : Has P w K mg base 1 "is_whole" CFIs.S_is_whole) (m_abs : mg "abs" = none) (c_FARTHEST : ∃ t, mg "FARTHEST" = some (.int 1440 t)) : Has P w K mg base 3 "is_jump" CFIj.S_is_jump :=
  ⟨a, fd, P_is_jump, fn0 (k := 2) (L := CFIj.L_is_jump) (ww := CFIj.w_is_jump) F sc_is_jump rfl CFIj.len_is_jump (by
      intro cdv A outer s H E hr g hgL
      unfold CFIj.w_is_jump
      refine eb_cons ?_ ?_
      refine es_if ?_ ?_ ?_
      refine et_w ?_
      refine ew_or ?_ ?_
      refine et_not ?_
      refine et_val ?_
      refine ee_isi2 (by rfl) m_isinstance (by rfl) m_tuple ?_
      exact ee_var (pv 0)
      refine ew_or1 ?_
      refine et_ne hr.units ?_ ?_
      refine ee_len (by rfl) m_len ?_
      refine ea_cons ?_ ?_
      exact ee_var (pv 0)
      exact ea_nil
      exact ee_int
      refine eb_one ?_
      refine es_ret ?_
      exact ee_bl
      exact eb_nil
      refine eb_cons ?_ ?_
      refine es_asg ?_ (eg_tup rfl (egs_cons (eg_name (i := 1) sc_is_jump.nd rfl (Or.inl rfl)) (egs_cons (eg_name (i := 2) sc_is_jump.nd rfl (Or.inl rfl)) egs_nil)))
      exact ee_var (pv 0)
      refine eb_cons ?_ ?_
      refine es_if ?_ ?_ ?_
      refine et_w ?_
      refine ew_or ?_ ?_
      refine et_not ?_
      refine et_val ?_
      refine ee_has h_is_moment (hr.mono (by decide)) (by rfl) ?_
      refine ea_cons ?_ ?_
      exact ee_var (pv 1)
      exact ea_nil
      refine ew_or1 ?_
      refine et_eq hr.units ?_ ?_
      exact ee_var (pv 1)
      exact ee_int
      refine eb_one ?_
      refine es_ret ?_
      exact ee_bl
      exact eb_nil
      refine eb_one ?_
      refine es_ret ?_
      refine ee_and ?_ ?_
      refine ee_has h_is_whole (hr.mono (by decide)) (by rfl) ?_
      refine ea_cons ?_ ?_
      exact ee_var (pv 2)
      exact ea_nil
      refine ee_and ?_ ?_
      refine ee_ne hr.units ?_ ?_
      exact ee_var (pv 2)
      exact ee_int
      refine ee_one ?_
      refine ee_le ?_ ?_
      refine ee_abs (by rfl) m_abs ?_
      refine ea_cons ?_ ?_
      exact ee_var (pv 2)
      exact ea_nil
      exact ee_gint (by rfl) c_FARTHEST.choose_spec) CFIj.ok_is_jump, gl, F.kp, F.bindsN (fun _ _ _ _ _ _ us hl => match us, hl with | [_], _ => rfl)⟩
theorem has_are_jumps {a : Addr} {fd : FuncData} (F : FunD K "are_jumps" "are_jumps" (defArgs st_are_jumps) (defBody st_are_jumps) (defScope st_are_jumps) [] [] a fd) (gl : mg "are_jumps" = some (.ref a)) (m_isinstance : mg "isinstance" = none) (m_tuple : mg "tuple" = none) (m_len : mg "len" = none) (c_MOST_JUMPS : ∃ t, mg "MOST_JUMPS" = some (.int 8 t)) (m_all : mg "all" = none) (h_is_jump : Has P w K mg base 3 "is_jump" CFIj.S_is_jump) (h_is_rising : Has P w K mg base 1 "is_rising" CFIj.S_is_rising) : Has P w K mg base 4 "are_jumps" CFIj.S_are_jumps :=
  ⟨a, fd, P_are_jumps, fn0 (k := 3) (L := CFIj.L_are_jumps) (ww := CFIj.w_are_jumps) F sc_are_jumps rfl CFIj.len_are_jumps (by
      intro cdv A outer s H E hr g hgL
      unfold CFIj.w_are_jumps
      refine eb_cons ?_ ?_
      refine es_if ?_ ?_ ?_
      refine et_w ?_
      refine ew_or ?_ ?_
      refine et_not ?_
      refine et_val ?_
      refine ee_isi2 (by rfl) m_isinstance (by rfl) m_tuple ?_
      exact ee_var (pv 0)
      refine ew_or1 ?_
      refine et_gt ?_ ?_
      refine ee_len (by rfl) m_len ?_
      refine ea_cons ?_ ?_
      exact ee_var (pv 0)
      exact ea_nil
      exact ee_gint (by rfl) c_MOST_JUMPS.choose_spec
      refine eb_one ?_
      refine es_ret ?_
      exact ee_bl
      exact eb_nil
      refine eb_cons ?_ ?_
      refine es_if ?_ ?_ ?_
      refine et_not ?_
      refine et_val ?_
      refine ee_all rfl (by rfl) m_all ?_
      refine ea_cons ?_ ?_
      refine ee_lc (own := [("jump", 2)]) rfl sc_are_jumps.nd (lf_ hgL rfl) ?_ (blkOk_by (own := [("jump", 2)]) (N := N_are_jumps) (sc := defScope st_are_jumps) (by decide +kernel)) (fun _ _ _ _ _ => eg_name (i := 2) sc_are_jumps.nd rfl (Or.inl rfl)) (fun _ _ _ _ _ => ets_nil) (fun _ _ _ _ _ => ee_has h_is_jump (hr.mono (by decide)) (by rfl) (ea_cons (ee_var (pv 2)) ea_nil))
      refine ei_seq ?_
      exact ee_var (pv 0)
      exact ea_nil
      refine eb_one ?_
      refine es_ret ?_
      exact ee_bl
      exact eb_nil
      refine eb_one ?_
      refine es_ret ?_
      refine ee_has h_is_rising (hr.mono (by decide)) (by rfl) ?_
      refine ea_cons ?_ ?_
      refine ee_lc (own := [("jump", 2)]) rfl sc_are_jumps.nd (lf_ hgL rfl) ?_ (blkOk_by (own := [("jump", 2)]) (N := N_are_jumps) (sc := defScope st_are_jumps) (by decide +kernel)) (fun _ _ _ _ _ => eg_name (i := 2) sc_are_jumps.nd rfl (Or.inl rfl)) (fun _ _ _ _ _ => ets_nil) (fun _ _ _ _ _ => ee_ix (ee_var (pv 2)) ee_int)
      refine ei_seq ?_
      exact ee_var (pv 0)
      exact ea_nil) CFIj.ok_are_jumps, gl, F.kp, F.bindsN (fun _ _ _ _ _ _ us hl => match us, hl with | [_], _ => rfl)⟩
theorem has_is_turn {a : Addr} {fd : FuncData} (F : FunD K "is_turn" "is_turn" (defArgs st_is_turn) (defBody st_is_turn) (defScope st_is_turn) [] [] a fd) (gl : mg "is_turn" = some (.ref a)) (m_isinstance : mg "isinstance" = none) (m_tuple : mg "tuple" = none) (m_len : mg "len" = none) (h_is_whole : Has P w K mg base 1 "is_whole" CFIs.S_is_whole) (h_is_word : Has P w K mg base 1 "is_word" CFIs.S_is_word) : Has P w K mg base 2 "is_turn" CFIs.S_is_turn :=
  ⟨a, fd, P_is_turn, fn0 (k := 1) (L := CFIs.L_is_turn) (ww := CFIs.w_is_turn) F sc_is_turn rfl CFIs.len_is_turn (by
      intro cdv A outer s H E hr g hgL
      unfold CFIs.w_is_turn
      refine eb_cons ?_ ?_
      refine es_if ?_ ?_ ?_
      refine et_w ?_
      refine ew_or ?_ ?_
      refine et_not ?_
      refine et_val ?_
      refine ee_isi2 (by rfl) m_isinstance (by rfl) m_tuple ?_
      exact ee_var (pv 0)
      refine ew_or1 ?_
      refine et_ne hr.units ?_ ?_
      refine ee_len (by rfl) m_len ?_
      refine ea_cons ?_ ?_
      exact ee_var (pv 0)
      exact ea_nil
      exact ee_int
      refine eb_one ?_
      refine es_ret ?_
      exact ee_bl
      exact eb_nil
      refine eb_cons ?_ ?_
      refine es_asg ?_ (eg_tup rfl (egs_cons (eg_name (i := 3) sc_is_turn.nd rfl (Or.inl rfl)) (egs_cons (eg_name (i := 4) sc_is_turn.nd rfl (Or.inl rfl)) (egs_cons (eg_name (i := 5) sc_is_turn.nd rfl (Or.inl rfl)) egs_nil))))
      exact ee_var (pv 0)
      refine eb_cons ?_ ?_
      refine es_if ?_ ?_ ?_
      refine et_w ?_
      refine ew_or ?_ ?_
      refine et_not ?_
      refine et_val ?_
      refine ee_has h_is_whole (hr.mono (by decide)) (by rfl) ?_
      refine ea_cons ?_ ?_
      exact ee_var (pv 3)
      exact ea_nil
      refine ew_or ?_ ?_
      refine et_not ?_
      refine et_val ?_
      refine ee_has h_is_whole (hr.mono (by decide)) (by rfl) ?_
      refine ea_cons ?_ ?_
      exact ee_var (pv 4)
      exact ea_nil
      refine ew_or1 ?_
      refine et_not ?_
      refine et_val ?_
      refine ee_has h_is_word (hr.mono (by decide)) (by rfl) ?_
      refine ea_cons ?_ ?_
      exact ee_var (pv 5)
      exact ea_nil
      refine eb_one ?_
      refine es_ret ?_
      exact ee_bl
      exact eb_nil
      refine eb_one ?_
      refine es_ret ?_
      refine ee_chain3 (f := fun i j => decide (i ≤ j)) (f' := fun i j => decide (i < j)) (f'' := fun i j => decide (i ≤ j)) op_le op_lt op_le ?_ ?_ ?_ ?_
      exact ee_var (pv 1)
      exact ee_var (pv 3)
      exact ee_var (pv 4)
      exact ee_var (pv 2)) CFIs.ok_is_turn, gl, F.kp, F.bindsN (fun _ _ _ _ _ _ us hl => match us, hl with | [_, _, _], _ => rfl)⟩
theorem has_are_turns {a : Addr} {fd : FuncData} (F : FunD K "are_turns" "are_turns" (defArgs st_are_turns) (defBody st_are_turns) (defScope st_are_turns) [] [] a fd) (gl : mg "are_turns" = some (.ref a)) (m_isinstance : mg "isinstance" = none) (m_tuple : mg "tuple" = none) (m_len : mg "len" = none) (c_MOST_TURNS : ∃ t, mg "MOST_TURNS" = some (.int 12 t)) (h_is_turn : Has P w K mg base 2 "is_turn" CFIs.S_is_turn) : Has P w K mg base 3 "are_turns" CFIs.S_are_turns :=
  ⟨a, fd, P_are_turns, fn0 (k := 2) (L := CFIs.L_are_turns) (ww := CFIs.w_are_turns) F sc_are_turns rfl CFIs.len_are_turns (by
      intro cdv A outer s H E hr g hgL
      unfold CFIs.w_are_turns
      refine eb_cons ?_ ?_
      refine es_if ?_ ?_ ?_
      refine et_w ?_
      refine ew_or ?_ ?_
      refine et_not ?_
      refine et_val ?_
      refine ee_isi2 (by rfl) m_isinstance (by rfl) m_tuple ?_
      exact ee_var (pv 0)
      refine ew_or1 ?_
      refine et_gt ?_ ?_
      refine ee_len (by rfl) m_len ?_
      refine ea_cons ?_ ?_
      exact ee_var (pv 0)
      exact ea_nil
      exact ee_gint (by rfl) c_MOST_TURNS.choose_spec
      refine eb_one ?_
      refine es_ret ?_
      exact ee_bl
      exact eb_nil
      refine eb_cons ?_ ?_
      refine es_setF (i := 2) sc_are_turns.nd rfl (Or.inl rfl) ?_
      exact ee_int
      refine eb_cons ?_ ?_
      refine es_for PassesOwn.never rfl ?_ (eg_name (i := 3) sc_are_turns.nd rfl (Or.inl rfl)) ?_
      refine ei_seq ?_
      exact ee_var (pv 0)
      refine eb_cons ?_ ?_
      refine es_if ?_ ?_ ?_
      refine et_not ?_
      refine et_val ?_
      refine ee_has h_is_turn (hr.mono (by decide)) (by rfl) ?_
      refine ea_cons ?_ ?_
      exact ee_var (pv 3)
      refine ea_cons ?_ ?_
      exact ee_var (pv 2)
      refine ea_cons ?_ ?_
      exact ee_var (pv 1)
      exact ea_nil
      refine eb_one ?_
      refine es_ret ?_
      exact ee_bl
      exact eb_nil
      refine eb_one ?_
      refine es_setF (i := 2) sc_are_turns.nd rfl (Or.inl rfl) ?_
      refine ee_ix ?_ ?_
      exact ee_var (pv 3)
      exact ee_int
      refine eb_one ?_
      refine es_ret ?_
      exact ee_bl) CFIs.ok_are_turns, gl, F.kp, F.bindsN (fun _ _ _ _ _ _ us hl => match us, hl with | [_, _], _ => rfl)⟩
theorem has_is_layer {a : Addr} {fd : FuncData} (F : FunD K "is_layer" "is_layer" (defArgs st_is_layer) (defBody st_is_layer) (defScope st_is_layer) [] [] a fd) (gl : mg "is_layer" = some (.ref a)) (m_isinstance : mg "isinstance" = none) (m_tuple : mg "tuple" = none) (m_len : mg "len" = none) (h_is_word : Has P w K mg base 1 "is_word" CFIs.S_is_word) (h_is_whole : Has P w K mg base 1 "is_whole" CFIs.S_is_whole) (c_MOST_DAYS : ∃ t, mg "MOST_DAYS" = some (.int 60 t)) (c_DAY : ∃ t, mg "DAY" = some (.int 1440 t)) (h_are_turns : Has P w K mg base 3 "are_turns" CFIs.S_are_turns) : Has P w K mg base 4 "is_layer" CFIs.S_is_layer :=
  ⟨a, fd, P_is_layer, fn0 (k := 3) (L := CFIs.L_is_layer) (ww := CFIs.w_is_layer) F sc_is_layer rfl CFIs.len_is_layer (by
      intro cdv A outer s H E hr g hgL
      unfold CFIs.w_is_layer
      refine eb_cons ?_ ?_
      refine es_if ?_ ?_ ?_
      refine et_w ?_
      refine ew_or ?_ ?_
      refine et_not ?_
      refine et_val ?_
      refine ee_isi2 (by rfl) m_isinstance (by rfl) m_tuple ?_
      exact ee_var (pv 0)
      refine ew_or1 ?_
      refine et_ne hr.units ?_ ?_
      refine ee_len (by rfl) m_len ?_
      refine ea_cons ?_ ?_
      exact ee_var (pv 0)
      exact ea_nil
      exact ee_int
      refine eb_one ?_
      refine es_ret ?_
      exact ee_bl
      exact eb_nil
      refine eb_cons ?_ ?_
      refine es_asg ?_ (eg_tup rfl (egs_cons (eg_name (i := 1) sc_is_layer.nd rfl (Or.inl rfl)) (egs_cons (eg_name (i := 2) sc_is_layer.nd rfl (Or.inl rfl)) (egs_cons (eg_name (i := 3) sc_is_layer.nd rfl (Or.inl rfl)) (egs_cons (eg_name (i := 4) sc_is_layer.nd rfl (Or.inl rfl)) egs_nil)))))
      exact ee_var (pv 0)
      refine eb_cons ?_ ?_
      refine es_if ?_ ?_ ?_
      refine et_w ?_
      refine ew_or ?_ ?_
      refine et_not ?_
      refine et_val ?_
      refine ee_has h_is_word (hr.mono (by decide)) (by rfl) ?_
      refine ea_cons ?_ ?_
      exact ee_var (pv 1)
      exact ea_nil
      refine ew_or ?_ ?_
      refine et_not ?_
      refine et_val ?_
      refine ee_has h_is_whole (hr.mono (by decide)) (by rfl) ?_
      refine ea_cons ?_ ?_
      exact ee_var (pv 2)
      exact ea_nil
      refine ew_or1 ?_
      refine et_not ?_
      refine et_val ?_
      refine ee_has h_is_whole (hr.mono (by decide)) (by rfl) ?_
      refine ea_cons ?_ ?_
      exact ee_var (pv 3)
      exact ea_nil
      refine eb_one ?_
      refine es_ret ?_
      exact ee_bl
      exact eb_nil
      refine eb_cons ?_ ?_
      refine es_if ?_ ?_ ?_
      refine et_w ?_
      refine ew_or ?_ ?_
      refine et_not ?_
      refine et_chain (f := fun i j => decide (i ≤ j)) (f' := fun i j => decide (i ≤ j)) op_le op_le ?_ ?_ ?_
      exact ee_int
      exact ee_var (pv 3)
      exact ee_gint (by rfl) c_MOST_DAYS.choose_spec
      refine ew_or1 ?_
      refine et_not ?_
      refine et_chain (f := fun i j => decide (i ≤ j)) (f' := fun i j => decide (i < j)) op_le op_lt ?_ ?_ ?_
      exact ee_int
      exact ee_var (pv 2)
      refine ee_mul ?_ ?_
      exact ee_gint (by rfl) c_DAY.choose_spec
      exact ee_var (pv 3)
      refine eb_one ?_
      refine es_ret ?_
      exact ee_bl
      exact eb_nil
      refine eb_one ?_
      refine es_ret ?_
      refine ee_has h_are_turns (hr.mono (by decide)) (by rfl) ?_
      refine ea_cons ?_ ?_
      exact ee_var (pv 4)
      refine ea_cons ?_ ?_
      refine ee_mul ?_ ?_
      exact ee_gint (by rfl) c_DAY.choose_spec
      exact ee_var (pv 3)
      exact ea_nil) CFIs.ok_is_layer, gl, F.kp, F.bindsN (fun _ _ _ _ _ _ us hl => match us, hl with | [_], _ => rfl)⟩
theorem has_is_book {a : Addr} {fd : FuncData} (F : FunD K "is_book" "is_book" (defArgs st_is_book) (defBody st_is_book) (defScope st_is_book) [] [] a fd) (gl : mg "is_book" = some (.ref a)) (m_isinstance : mg "isinstance" = none) (m_tuple : mg "tuple" = none) (m_len : mg "len" = none) (h_are_jumps : Has P w K mg base 4 "are_jumps" CFIj.S_are_jumps) (c_MOST_LAYERS : ∃ t, mg "MOST_LAYERS" = some (.int 4 t)) (c_MOST_CHANGES : ∃ t, mg "MOST_CHANGES" = some (.int 24 t)) (m_all : mg "all" = none) (h_is_layer : Has P w K mg base 4 "is_layer" CFIs.S_is_layer) (h_is_change : Has P w K mg base 4 "is_change" CFIc.S_is_change) (m_set : mg "set" = none) : Has P w K mg base 5 "is_book" S_is_book :=
  ⟨a, fd, P_is_book, fn0 (k := 4) (L := L_is_book) (ww := w_is_book) F sc_is_book rfl len_is_book (by
      intro cdv A outer s H E hr g hgL
      unfold w_is_book
      refine eb_cons ?_ ?_
      refine es_if ?_ ?_ ?_
      refine et_w ?_
      refine ew_or ?_ ?_
      refine et_not ?_
      refine et_val ?_
      refine ee_isi2 (by rfl) m_isinstance (by rfl) m_tuple ?_
      exact ee_var (pv 0)
      refine ew_or ?_ ?_
      refine et_ne hr.units ?_ ?_
      refine ee_len (by rfl) m_len ?_
      refine ea_cons ?_ ?_
      exact ee_var (pv 0)
      exact ea_nil
      exact ee_int
      refine ew_or1 ?_
      refine et_not ?_
      refine et_val ?_
      refine ee_has h_are_jumps (hr.mono (by decide)) (by rfl) ?_
      refine ea_cons ?_ ?_
      refine ee_ix ?_ ?_
      exact ee_var (pv 0)
      exact ee_int
      exact ea_nil
      refine eb_one ?_
      refine es_ret ?_
      exact ee_bl
      exact eb_nil
      refine eb_cons ?_ ?_
      refine es_par (i := 1) (j := 2) rfl sc_is_book.nd rfl rfl (by decide) rfl rfl ?_ (by rfl)
      refine ea_cons ?_ ?_
      refine ee_ix ?_ ?_
      exact ee_var (pv 0)
      exact ee_int
      refine ea_cons ?_ ?_
      refine ee_ix ?_ ?_
      exact ee_var (pv 0)
      exact ee_int
      exact ea_nil
      refine eb_cons ?_ ?_
      refine es_if ?_ ?_ ?_
      refine et_w ?_
      refine ew_or ?_ ?_
      refine et_not ?_
      refine et_val ?_
      refine ee_isi2 (by rfl) m_isinstance (by rfl) m_tuple ?_
      exact ee_var (pv 1)
      refine ew_or1 ?_
      refine et_gt ?_ ?_
      refine ee_len (by rfl) m_len ?_
      refine ea_cons ?_ ?_
      exact ee_var (pv 1)
      exact ea_nil
      exact ee_gint (by rfl) c_MOST_LAYERS.choose_spec
      refine eb_one ?_
      refine es_ret ?_
      exact ee_bl
      exact eb_nil
      refine eb_cons ?_ ?_
      refine es_if ?_ ?_ ?_
      refine et_w ?_
      refine ew_or ?_ ?_
      refine et_not ?_
      refine et_val ?_
      refine ee_isi2 (by rfl) m_isinstance (by rfl) m_tuple ?_
      exact ee_var (pv 2)
      refine ew_or1 ?_
      refine et_gt ?_ ?_
      refine ee_len (by rfl) m_len ?_
      refine ea_cons ?_ ?_
      exact ee_var (pv 2)
      exact ea_nil
      exact ee_gint (by rfl) c_MOST_CHANGES.choose_spec
      refine eb_one ?_
      refine es_ret ?_
      exact ee_bl
      exact eb_nil
      refine eb_cons ?_ ?_
      refine es_if ?_ ?_ ?_
      refine et_w ?_
      refine ew_or ?_ ?_
      refine et_not ?_
      refine et_val ?_
      refine ee_all rfl (by rfl) m_all ?_
      refine ea_cons ?_ ?_
      refine ee_lc (own := [("layer", 4)]) rfl sc_is_book.nd (lf_ hgL rfl) ?_ (blkOk_by (own := [("layer", 4)]) (N := N_is_book) (sc := defScope st_is_book) (by decide +kernel)) (fun _ _ _ _ _ => eg_name (i := 4) sc_is_book.nd rfl (Or.inl rfl)) (fun _ _ _ _ _ => ets_nil) (fun _ _ _ _ _ => ee_has h_is_layer (hr.mono (by decide)) (by rfl) (ea_cons (ee_var (pv 4)) ea_nil))
      refine ei_seq ?_
      exact ee_var (pv 1)
      exact ea_nil
      refine ew_or1 ?_
      refine et_not ?_
      refine et_val ?_
      refine ee_all rfl (by rfl) m_all ?_
      refine ea_cons ?_ ?_
      refine ee_lc (own := [("change", 5)]) rfl sc_is_book.nd (lf_ hgL rfl) ?_ (blkOk_by (own := [("change", 5)]) (N := N_is_book) (sc := defScope st_is_book) (by decide +kernel)) (fun _ _ _ _ _ => eg_name (i := 5) sc_is_book.nd rfl (Or.inl rfl)) (fun _ _ _ _ _ => ets_nil) (fun _ _ _ _ _ => ee_has h_is_change (hr.mono (by decide)) (by rfl) (ea_cons (ee_var (pv 5)) ea_nil))
      refine ei_seq ?_
      exact ee_var (pv 2)
      exact ea_nil
      refine eb_one ?_
      refine es_ret ?_
      exact ee_bl
      exact eb_nil
      refine eb_one ?_
      refine es_ret ?_
      refine ee_eq hr.units ?_ ?_
      refine ee_lenSet rfl (by rfl) m_len (by rfl) m_set ?_
      refine ee_lc (own := [("layer", 4)]) rfl sc_is_book.nd (lf_ hgL rfl) ?_ (blkOk_by (own := [("layer", 4)]) (N := N_is_book) (sc := defScope st_is_book) (by decide +kernel)) (fun _ _ _ _ _ => eg_name (i := 4) sc_is_book.nd rfl (Or.inl rfl)) (fun _ _ _ _ _ => ets_nil) (fun _ _ _ _ _ => ee_ix (ee_var (pv 4)) ee_int)
      refine ei_seq ?_
      exact ee_var (pv 1)
      refine ee_len (by rfl) m_len ?_
      refine ea_cons ?_ ?_
      exact ee_var (pv 1)
      exact ea_nil) ok_is_book, gl, F.kp, F.bindsN (fun _ _ _ _ _ _ us hl => match us, hl with | [_], _ => rfl)⟩
theorem has_law_hand {a : Addr} {fd : FuncData} (F : FunD K "_law_hand" "_law_hand" (defArgs st_law_hand) (defBody st_law_hand) (defScope st_law_hand) [] [] a fd) (gl : mg "_law_hand" = some (.ref a)) (m_len : mg "len" = none) (m_int : mg "int" = none) : Has P w K mg base 1 "_law_hand" CFH.S_law_hand :=
  ⟨a, fd, P_law_hand, fn0 (k := 0) (L := CFH.L_law_hand) (ww := CFH.w_law_hand) F sc_law_hand rfl CFH.len_law_hand (by
      intro cdv A outer s H E hr g hgL
      unfold CFH.w_law_hand
      refine eb_cons ?_ ?_
      refine es_setF (i := 2) sc_law_hand.nd rfl (Or.inl rfl) ?_
      exact ee_int
      refine eb_cons ?_ ?_
      refine es_if ?_ ?_ ?_
      refine et_lt ?_ ?_
      exact ee_var (pv 1)
      refine ee_len (by rfl) m_len ?_
      refine ea_cons ?_ ?_
      exact ee_var (pv 0)
      exact ea_nil
      refine eb_one ?_
      refine es_setF (i := 2) sc_law_hand.nd rfl (Or.inl rfl) ?_
      refine ee_ix ?_ ?_
      exact ee_var (pv 0)
      exact ee_var (pv 1)
      exact eb_nil
      refine eb_one ?_
      refine es_ret ?_
      refine ee_lst ?_
      refine ea_cons ?_ ?_
      refine ee_mul ?_ ?_
      exact ee_var (pv 2)
      refine ee_int1 (by rfl) m_int ?_
      refine ea_cons ?_ ?_
      refine ee_ge ?_ ?_
      exact ee_var (pv 2)
      refine ee_pow ?_ ?_
      exact ee_int
      exact ee_int
      exact ea_nil
      refine ea_cons ?_ ?_
      refine ee_add ?_ ?_
      refine ee_add ?_ ?_
      refine ee_mod ?_ ?_
      exact ee_var (pv 2)
      exact ee_int
      refine ee_mul ?_ ?_
      exact ee_int
      exact ee_var (pv 1)
      exact ee_int
      refine ea_cons ?_ ?_
      exact ee_int
      exact ea_nil) CFH.ok_law_hand, gl, F.kp, F.bindsN (fun _ _ _ _ _ _ us hl => match us, hl with | [_, _], _ => rfl)⟩
theorem has_law_take {a : Addr} {fd : FuncData} (F : FunD K "_law_take" "_law_take" (defArgs st_law_take) (defBody st_law_take) (defScope st_law_take) [] [] a fd) (gl : mg "_law_take" = some (.ref a))  : Has P w K mg base 1 "_law_take" CFH.S_law_take :=
  ⟨a, fd, P_law_take, fn0 (k := 0) (L := CFH.L_law_take) (ww := CFH.w_law_take) F sc_law_take rfl CFH.len_law_take (by
      intro cdv A outer s H E hr g hgL
      unfold CFH.w_law_take
      refine eb_cons ?_ ?_
      refine es_if ?_ ?_ ?_
      refine et_gt ?_ ?_
      refine ee_ix ?_ ?_
      exact ee_ln (i := 0) (lt_ hgL rfl) (pv 0)
      exact ee_int
      exact ee_int
      refine eb_cons ?_ ?_
      refine es_setF (i := 2) sc_law_take.nd rfl (Or.inl rfl) ?_
      refine ee_mod ?_ ?_
      refine ee_ix ?_ ?_
      exact ee_ln (i := 0) (lt_ hgL rfl) (pv 0)
      exact ee_int
      exact ee_var (pv 1)
      refine eb_cons ?_ ?_
      refine es_setIx (i := 0) (lt_ hgL rfl) (pv 0) ?_ ?_
      refine ee_div ?_ ?_
      refine ee_ix ?_ ?_
      exact ee_ln (i := 0) (lt_ hgL rfl) (pv 0)
      exact ee_int
      exact ee_var (pv 1)
      exact ee_int
      refine eb_one ?_
      refine es_ret ?_
      exact ee_var (pv 2)
      exact eb_nil
      refine eb_cons ?_ ?_
      refine es_setIx (i := 0) (lt_ hgL rfl) (pv 0) ?_ ?_
      refine ee_add ?_ ?_
      refine ee_ix ?_ ?_
      exact ee_ln (i := 0) (lt_ hgL rfl) (pv 0)
      exact ee_int
      exact ee_int
      exact ee_int
      refine eb_cons ?_ ?_
      refine es_setF (i := 3) sc_law_take.nd rfl (Or.inl rfl) ?_
      refine ee_ix ?_ ?_
      exact ee_ln (i := 0) (lt_ hgL rfl) (pv 0)
      exact ee_int
      refine eb_cons ?_ ?_
      refine es_setF (i := 4) sc_law_take.nd rfl (Or.inl rfl) ?_
      refine ee_add ?_ ?_
      refine ee_add ?_ ?_
      exact ee_int
      refine ee_mul ?_ ?_
      refine ee_mul ?_ ?_
      exact ee_int
      exact ee_var (pv 3)
      exact ee_var (pv 3)
      refine ee_mul ?_ ?_
      exact ee_int
      exact ee_var (pv 3)
      refine eb_cons ?_ ?_
      refine es_setF (i := 5) sc_law_take.nd rfl (Or.inl rfl) ?_
      refine ee_mod ?_ ?_
      refine ee_mul ?_ ?_
      refine ee_add ?_ ?_
      refine ee_ix ?_ ?_
      exact ee_ln (i := 0) (lt_ hgL rfl) (pv 0)
      exact ee_int
      refine ee_mul ?_ ?_
      exact ee_int
      exact ee_var (pv 3)
      exact ee_var (pv 4)
      exact ee_int
      refine eb_cons ?_ ?_
      refine es_setF (i := 6) sc_law_take.nd rfl (Or.inl rfl) ?_
      refine ee_add ?_ ?_
      refine ee_add ?_ ?_
      refine ee_mod ?_ ?_
      exact ee_var (pv 5)
      exact ee_int
      refine ee_mul ?_ ?_
      exact ee_var (pv 3)
      exact ee_int
      exact ee_int
      refine eb_cons ?_ ?_
      refine es_setF (i := 5) sc_law_take.nd rfl (Or.inl rfl) ?_
      refine ee_mod ?_ ?_
      refine ee_mul ?_ ?_
      exact ee_var (pv 5)
      exact ee_var (pv 6)
      exact ee_int
      refine eb_one ?_
      refine es_ret ?_
      refine ee_mod ?_ ?_
      refine ee_add ?_ ?_
      refine ee_div ?_ ?_
      exact ee_var (pv 5)
      exact ee_int
      refine ee_div ?_ ?_
      exact ee_var (pv 5)
      exact ee_int
      exact ee_var (pv 1)) CFH.ok_law_take, gl, F.kp, F.bindsN (fun _ _ _ _ _ _ us hl => match us, hl with | [_, _], _ => rfl)⟩
theorem has_law_pick {a : Addr} {fd : FuncData} (F : FunD K "_law_pick" "_law_pick" (defArgs st_law_pick) (defBody st_law_pick) (defScope st_law_pick) [] [] a fd) (gl : mg "_law_pick" = some (.ref a)) (h_law_take : Has P w K mg base 1 "_law_take" CFH.S_law_take) (m_len : mg "len" = none) : Has P w K mg base 2 "_law_pick" CFH.S_law_pick :=
  ⟨a, fd, P_law_pick, fn0 (k := 1) (L := CFH.L_law_pick) (ww := CFH.w_law_pick) F sc_law_pick rfl CFH.len_law_pick (by
      intro cdv A outer s H E hr g hgL
      unfold CFH.w_law_pick
      refine eb_one ?_
      refine es_ret ?_
      refine ee_ix ?_ ?_
      exact ee_var (pv 1)
      refine ee_has h_law_take (hr.mono (by decide)) (by rfl) ?_
      refine ea_cons ?_ ?_
      exact ee_pk (i := 0) (lt_ hgL rfl) (pv 0)
      refine ea_cons ?_ ?_
      refine ee_len (by rfl) m_len ?_
      refine ea_cons ?_ ?_
      exact ee_var (pv 1)
      exact ea_nil
      exact ea_nil) CFH.ok_law_pick, gl, F.kp, F.bindsN (fun _ _ _ _ _ _ us hl => match us, hl with | [_, _], _ => rfl)⟩
theorem has_law_great {a : Addr} {fd : FuncData} (F : FunD K "_law_great" "_law_great" (defArgs st_law_great) (defBody st_law_great) (defScope st_law_great) [] [] a fd) (gl : mg "_law_great" = some (.ref a)) (m_range : mg "range" = none) (h_law_take : Has P w K mg base 1 "_law_take" CFH.S_law_take) : Has P w K mg base 2 "_law_great" CFH.S_law_great :=
  ⟨a, fd, P_law_great, fn0 (k := 1) (L := CFH.L_law_great) (ww := CFH.w_law_great) F sc_law_great rfl CFH.len_law_great (by
      intro cdv A outer s H E hr g hgL
      unfold CFH.w_law_great
      refine eb_cons ?_ ?_
      refine es_setF (i := 1) sc_law_great.nd rfl (Or.inl rfl) ?_
      exact ee_int
      refine eb_cons ?_ ?_
      refine es_for PassesOwn.never rfl ?_ (eg_name (i := 2) sc_law_great.nd rfl (Or.inl rfl)) ?_
      refine ei_range1 (by rfl) m_range ?_
      refine ea_cons ?_ ?_
      exact ee_int
      exact ea_nil
      refine eb_one ?_
      refine es_setF (i := 1) sc_law_great.nd rfl (Or.inl rfl) ?_
      refine ee_add ?_ ?_
      refine ee_mul ?_ ?_
      exact ee_var (pv 1)
      refine ee_pow ?_ ?_
      exact ee_int
      exact ee_int
      refine ee_has h_law_take (hr.mono (by decide)) (by rfl) ?_
      refine ea_cons ?_ ?_
      exact ee_pk (i := 0) (lt_ hgL rfl) (pv 0)
      refine ea_cons ?_ ?_
      refine ee_pow ?_ ?_
      exact ee_int
      exact ee_int
      exact ea_nil
      refine eb_one ?_
      refine es_ret ?_
      exact ee_var (pv 1)) CFH.ok_law_great, gl, F.kp, F.bindsN (fun _ _ _ _ _ _ us hl => match us, hl with | [_], _ => rfl)⟩
theorem has_law_moment {a : Addr} {fd : FuncData} (F : FunD K "_law_moment" "_law_moment" (defArgs st_law_moment) (defBody st_law_moment) (defScope st_law_moment) [] [] a fd) (gl : mg "_law_moment" = some (.ref a)) (h_law_take : Has P w K mg base 1 "_law_take" CFH.S_law_take) (h_law_great : Has P w K mg base 2 "_law_great" CFH.S_law_great) : Has P w K mg base 3 "_law_moment" CFCh.S_law_moment :=
  ⟨a, fd, P_law_moment, fn0 (k := 2) (L := CFCh.L_law_moment) (ww := CFCh.w_law_moment) F sc_law_moment rfl CFCh.len_law_moment (by
      intro cdv A outer s H E hr g hgL
      unfold CFCh.w_law_moment
      refine eb_cons ?_ ?_
      refine es_setF (i := 1) sc_law_moment.nd rfl (Or.inl rfl) ?_
      refine ee_has h_law_take (hr.mono (by decide)) (by rfl) ?_
      refine ea_cons ?_ ?_
      exact ee_pk (i := 0) (lt_ hgL rfl) (pv 0)
      refine ea_cons ?_ ?_
      exact ee_int
      exact ea_nil
      refine eb_cons ?_ ?_
      refine es_if ?_ ?_ ?_
      refine et_lt ?_ ?_
      exact ee_var (pv 1)
      exact ee_int
      refine eb_one ?_
      refine es_ret ?_
      refine ee_has h_law_take (hr.mono (by decide)) (by rfl) ?_
      refine ea_cons ?_ ?_
      exact ee_pk (i := 0) (lt_ hgL rfl) (pv 0)
      refine ea_cons ?_ ?_
      exact ee_int
      exact ea_nil
      exact eb_nil
      refine eb_cons ?_ ?_
      refine es_if ?_ ?_ ?_
      refine et_eq hr.units ?_ ?_
      exact ee_var (pv 1)
      exact ee_int
      refine eb_one ?_
      refine es_ret ?_
      refine ee_has h_law_take (hr.mono (by decide)) (by rfl) ?_
      refine ea_cons ?_ ?_
      exact ee_pk (i := 0) (lt_ hgL rfl) (pv 0)
      refine ea_cons ?_ ?_
      exact ee_int
      exact ea_nil
      exact eb_nil
      refine eb_cons ?_ ?_
      refine es_if ?_ ?_ ?_
      refine et_eq hr.units ?_ ?_
      exact ee_var (pv 1)
      exact ee_int
      refine eb_one ?_
      refine es_ret ?_
      refine ee_has h_law_great (hr.mono (by decide)) (by rfl) ?_
      refine ea_cons ?_ ?_
      exact ee_pk (i := 0) (lt_ hgL rfl) (pv 0)
      exact ea_nil
      exact eb_nil
      refine eb_one ?_
      refine es_ret ?_
      refine ee_sub ?_ ?_
      refine ee_sub ?_ ?_
      refine ee_pow ?_ ?_
      exact ee_int
      exact ee_int
      exact ee_int
      refine ee_has h_law_take (hr.mono (by decide)) (by rfl) ?_
      refine ea_cons ?_ ?_
      exact ee_pk (i := 0) (lt_ hgL rfl) (pv 0)
      refine ea_cons ?_ ?_
      exact ee_int
      exact ea_nil) CFCh.ok_law_moment, gl, F.kp, F.bindsN (fun _ _ _ _ _ _ us hl => match us, hl with | [_], _ => rfl)⟩
theorem has_law_words {a : Addr} {fd : FuncData} (F : FunD K "_law_words" "_law_words" (defArgs st_law_words) (defBody st_law_words) (defScope st_law_words) [] [] a fd) (gl : mg "_law_words" = some (.ref a)) (h_law_pick : Has P w K mg base 2 "_law_pick" CFH.S_law_pick) (h_law_take : Has P w K mg base 1 "_law_take" CFH.S_law_take) (m_len : mg "len" = none) (m_range : mg "range" = none) : Has P w K mg base 3 "_law_words" CFWd.S_law_words :=
  ⟨a, fd, P_law_words, fn0 (k := 2) (L := CFWd.L_law_words) (ww := CFWd.w_law_words) F sc_law_words rfl CFWd.len_law_words (by
      intro cdv A outer s H E hr g hgL
      unfold CFWd.w_law_words
      refine eb_cons ?_ ?_
      refine es_setF (i := 2) sc_law_words.nd rfl (Or.inl rfl) ?_
      exact ee_str
      refine eb_cons ?_ ?_
      refine es_par (i := 3) (j := 4) rfl sc_law_words.nd rfl rfl (by decide) rfl rfl ?_ (by rfl)
      refine ea_cons ?_ ?_
      refine ee_has h_law_take (hr.mono (by decide)) (by rfl) ?_
      refine ea_cons ?_ ?_
      exact ee_pk (i := 0) (lt_ hgL rfl) (pv 0)
      refine ea_cons ?_ ?_
      exact ee_int
      exact ea_nil
      refine ea_cons ?_ ?_
      refine ee_has h_law_pick (hr.mono (by decide)) (by rfl) ?_
      refine ea_cons ?_ ?_
      exact ee_pk (i := 0) (lt_ hgL rfl) (pv 0)
      refine ea_cons ?_ ?_
      refine ee_lst ?_
      refine ea_cons ?_ ?_
      exact ee_int
      refine ea_cons ?_ ?_
      exact ee_int
      refine ea_cons ?_ ?_
      exact ee_int
      refine ea_cons ?_ ?_
      exact ee_int
      refine ea_cons ?_ ?_
      exact ee_int
      refine ea_cons ?_ ?_
      exact ee_int
      exact ea_nil
      exact ea_nil
      exact ea_nil
      refine eb_cons ?_ ?_
      refine es_setF (i := 5) sc_law_words.nd rfl (Or.inl rfl) ?_
      refine ee_mulS ?_ ?_
      refine ee_ix ?_ ?_
      exact ee_var (pv 2)
      refine ee_has h_law_take (hr.mono (by decide)) (by rfl) ?_
      refine ea_cons ?_ ?_
      exact ee_pk (i := 0) (lt_ hgL rfl) (pv 0)
      refine ea_cons ?_ ?_
      exact ee_int
      exact ea_nil
      refine ee_has h_law_pick (hr.mono (by decide)) (by rfl) ?_
      refine ea_cons ?_ ?_
      exact ee_pk (i := 0) (lt_ hgL rfl) (pv 0)
      refine ea_cons ?_ ?_
      refine ee_lst ?_
      refine ea_cons ?_ ?_
      exact ee_int
      refine ea_cons ?_ ?_
      exact ee_int
      refine ea_cons ?_ ?_
      exact ee_int
      refine ea_cons ?_ ?_
      exact ee_int
      refine ea_cons ?_ ?_
      exact ee_int
      exact ea_nil
      exact ea_nil
      refine eb_cons ?_ ?_
      refine es_setF (i := 6) sc_law_words.nd rfl (Or.inl rfl) ?_
      refine ee_has h_law_take (hr.mono (by decide)) (by rfl) ?_
      refine ea_cons ?_ ?_
      exact ee_pk (i := 0) (lt_ hgL rfl) (pv 0)
      refine ea_cons ?_ ?_
      refine ee_add ?_ ?_
      refine ee_len (by rfl) m_len ?_
      refine ea_cons ?_ ?_
      exact ee_var (pv 5)
      exact ea_nil
      exact ee_int
      exact ea_nil
      refine eb_cons ?_ ?_
      refine es_setF (i := 7) sc_law_words.nd rfl (Or.inl rfl) ?_
      refine ee_has h_law_take (hr.mono (by decide)) (by rfl) ?_
      refine ea_cons ?_ ?_
      exact ee_pk (i := 0) (lt_ hgL rfl) (pv 0)
      refine ea_cons ?_ ?_
      exact ee_int
      exact ea_nil
      refine eb_cons ?_ ?_
      refine es_set (i := 8) sc_law_words.nd rfl (Or.inl rfl) ?_
      refine ee_lst ?_
      exact ea_nil
      refine eb_cons ?_ ?_
      refine es_for PassesOwn.never rfl ?_ (eg_name (i := 9) sc_law_words.nd rfl (Or.inl rfl)) ?_
      refine ei_range1 (by rfl) m_range ?_
      refine ea_cons ?_ ?_
      exact ee_var (pv 1)
      exact ea_nil
      refine eb_cons ?_ ?_
      refine es_setF (i := 10) sc_law_words.nd rfl (Or.inl rfl) ?_
      refine ee_sl ?_ ?_ ?_
      exact ee_var (pv 5)
      refine eo_some ?_
      exact ee_var (pv 6)
      exact eo_none
      refine eb_cons ?_ ?_
      refine es_if ?_ ?_ ?_
      refine et_w ?_
      refine ew_and ?_ ?_
      refine et_eq hr.units ?_ ?_
      exact ee_var (pv 7)
      exact ee_int
      refine ew_and1 ?_
      refine et_eq hr.units ?_ ?_
      refine ee_mod ?_ ?_
      exact ee_var (pv 9)
      exact ee_int
      exact ee_int
      refine eb_one ?_
      refine es_setF (i := 10) sc_law_words.nd rfl (Or.inl rfl) ?_
      exact ee_str
      exact eb_nil
      refine eb_cons ?_ ?_
      refine es_setF (i := 11) sc_law_words.nd rfl (Or.inl rfl) ?_
      refine ee_ix ?_ ?_
      exact ee_var (pv 2)
      refine ee_mod ?_ ?_
      refine ee_add ?_ ?_
      exact ee_var (pv 3)
      refine ee_mul ?_ ?_
      exact ee_var (pv 4)
      exact ee_var (pv 9)
      exact ee_int
      refine eb_one ?_
      refine es_expr ?_
      refine ee_app (i := 8) (lt_ hgL rfl) (pv 8) ?_
      refine ee_plus hr.units ?_ ?_
      refine ee_plus hr.units ?_ ?_
      refine ee_sl ?_ ?_ ?_
      exact ee_var (pv 5)
      exact eo_none
      refine eo_some ?_
      exact ee_var (pv 6)
      exact ee_var (pv 11)
      exact ee_var (pv 10)
      refine eb_one ?_
      exact es_retO (i := 8) (lt_ hgL rfl) (pv 8)) CFWd.ok_law_words, gl, F.kp, F.bindsN (fun _ _ _ _ _ _ us hl => match us, hl with | [_, _], _ => rfl)⟩
theorem has_law_jumps {a : Addr} {fd : FuncData} (F : FunD K "_law_jumps" "_law_jumps" (defArgs st_law_jumps) (defBody st_law_jumps) (defScope st_law_jumps) [] [] a fd) (gl : mg "_law_jumps" = some (.ref a)) (m_range : mg "range" = none) (h_law_take : Has P w K mg base 1 "_law_take" CFH.S_law_take) (h_law_moment : Has P w K mg base 3 "_law_moment" CFCh.S_law_moment) (h_law_pick : Has P w K mg base 2 "_law_pick" CFH.S_law_pick) (m_tuple : mg "tuple" = none) : Has P w K mg base 4 "_law_jumps" CFJn.S_law_jumps :=
  ⟨a, fd, P_law_jumps, fn0 (k := 3) (L := CFJn.L_law_jumps) (ww := CFJn.w_law_jumps) F sc_law_jumps rfl CFJn.len_law_jumps (by
      intro cdv A outer s H E hr g hgL
      unfold CFJn.w_law_jumps
      refine eb_cons ?_ ?_
      refine es_set (i := 2) sc_law_jumps.nd rfl (Or.inl rfl) ?_
      refine ee_lst ?_
      exact ea_nil
      refine eb_cons ?_ ?_
      refine es_setF (i := 3) sc_law_jumps.nd rfl (Or.inl rfl) ?_
      exact ee_int
      refine eb_cons ?_ ?_
      refine es_for PassesOwn.never rfl ?_ (eg_name (i := 4) sc_law_jumps.nd rfl (Or.inl rfl)) ?_
      refine ei_range1 (by rfl) m_range ?_
      refine ea_cons ?_ ?_
      refine ee_has h_law_take (hr.mono (by decide)) (by rfl) ?_
      refine ea_cons ?_ ?_
      exact ee_pk (i := 0) (lt_ hgL rfl) (pv 0)
      refine ea_cons ?_ ?_
      refine ee_add ?_ ?_
      exact ee_var (pv 1)
      exact ee_int
      exact ea_nil
      exact ea_nil
      refine eb_cons ?_ ?_
      refine es_setF (i := 5) sc_law_jumps.nd rfl (Or.inl rfl) ?_
      refine ee_has h_law_take (hr.mono (by decide)) (by rfl) ?_
      refine ea_cons ?_ ?_
      exact ee_pk (i := 0) (lt_ hgL rfl) (pv 0)
      refine ea_cons ?_ ?_
      exact ee_int
      exact ea_nil
      refine eb_cons ?_ ?_
      refine es_if ?_ ?_ ?_
      refine et_eq hr.units ?_ ?_
      exact ee_var (pv 5)
      exact ee_int
      refine eb_one ?_
      refine es_setF (i := 3) sc_law_jumps.nd rfl (Or.inl rfl) ?_
      refine ee_add ?_ ?_
      refine ee_add ?_ ?_
      exact ee_var (pv 3)
      exact ee_int
      refine ee_has h_law_take (hr.mono (by decide)) (by rfl) ?_
      refine ea_cons ?_ ?_
      exact ee_pk (i := 0) (lt_ hgL rfl) (pv 0)
      refine ea_cons ?_ ?_
      exact ee_int
      exact ea_nil
      refine eb_one ?_
      refine es_if ?_ ?_ ?_
      refine et_lt ?_ ?_
      exact ee_var (pv 5)
      exact ee_int
      refine eb_one ?_
      refine es_setF (i := 3) sc_law_jumps.nd rfl (Or.inl rfl) ?_
      refine ee_add ?_ ?_
      refine ee_add ?_ ?_
      exact ee_var (pv 3)
      exact ee_int
      refine ee_has h_law_take (hr.mono (by decide)) (by rfl) ?_
      refine ea_cons ?_ ?_
      exact ee_pk (i := 0) (lt_ hgL rfl) (pv 0)
      refine ea_cons ?_ ?_
      exact ee_int
      exact ea_nil
      refine eb_one ?_
      refine es_setF (i := 3) sc_law_jumps.nd rfl (Or.inl rfl) ?_
      refine ee_add ?_ ?_
      refine ee_add ?_ ?_
      exact ee_var (pv 3)
      exact ee_int
      refine ee_has h_law_moment (hr.mono (by decide)) (by rfl) ?_
      refine ea_cons ?_ ?_
      exact ee_pk (i := 0) (lt_ hgL rfl) (pv 0)
      exact ea_nil
      refine eb_cons ?_ ?_
      refine es_setF (i := 6) sc_law_jumps.nd rfl (Or.inl rfl) ?_
      refine ee_has h_law_pick (hr.mono (by decide)) (by rfl) ?_
      refine ea_cons ?_ ?_
      exact ee_pk (i := 0) (lt_ hgL rfl) (pv 0)
      refine ea_cons ?_ ?_
      refine ee_lst ?_
      refine ea_cons ?_ ?_
      exact ee_int
      refine ea_cons ?_ ?_
      refine ee_neg ?_
      exact ee_int
      refine ea_cons ?_ ?_
      exact ee_int
      refine ea_cons ?_ ?_
      refine ee_neg ?_
      exact ee_int
      refine ea_cons ?_ ?_
      exact ee_int
      refine ea_cons ?_ ?_
      refine ee_neg ?_
      exact ee_int
      refine ea_cons ?_ ?_
      exact ee_int
      refine ea_cons ?_ ?_
      refine ee_neg ?_
      exact ee_int
      refine ea_cons ?_ ?_
      exact ee_int
      refine ea_cons ?_ ?_
      exact ee_int
      exact ea_nil
      exact ea_nil
      refine eb_cons ?_ ?_
      refine es_if ?_ ?_ ?_
      refine et_eq hr.units ?_ ?_
      exact ee_var (pv 6)
      exact ee_int
      refine eb_one ?_
      refine es_setF (i := 6) sc_law_jumps.nd rfl (Or.inl rfl) ?_
      refine ee_sub ?_ ?_
      refine ee_has h_law_take (hr.mono (by decide)) (by rfl) ?_
      refine ea_cons ?_ ?_
      exact ee_pk (i := 0) (lt_ hgL rfl) (pv 0)
      refine ea_cons ?_ ?_
      exact ee_int
      exact ea_nil
      exact ee_int
      exact eb_nil
      refine eb_cons ?_ ?_
      refine es_if ?_ ?_ ?_
      refine et_w ?_
      refine ew_and ?_ ?_
      refine et_gt ?_ ?_
      exact ee_var (pv 6)
      refine ee_neg ?_
      exact ee_int
      refine ew_and1 ?_
      refine et_lt ?_ ?_
      exact ee_var (pv 6)
      exact ee_int
      refine eb_one ?_
      refine es_setF (i := 6) sc_law_jumps.nd rfl (Or.inl rfl) ?_
      exact ee_int
      exact eb_nil
      refine eb_one ?_
      refine es_if ?_ ?_ ?_
      refine et_lt ?_ ?_
      exact ee_var (pv 3)
      refine ee_pow ?_ ?_
      exact ee_int
      exact ee_int
      refine eb_one ?_
      refine es_expr ?_
      refine ee_app (i := 2) (lt_ hgL rfl) (pv 2) ?_
      refine ee_tup ?_
      refine ea_cons ?_ ?_
      exact ee_var (pv 3)
      refine ea_cons ?_ ?_
      exact ee_var (pv 6)
      exact ea_nil
      exact eb_nil
      refine eb_one ?_
      refine es_ret ?_
      refine ee_tuple (by rfl) m_tuple ?_
      refine ea_cons ?_ ?_
      exact ee_ln (i := 2) (lt_ hgL rfl) (pv 2)
      exact ea_nil) CFJn.ok_law_jumps, gl, F.kp, F.bindsN (fun _ _ _ _ _ _ us hl => match us, hl with | [_, _], _ => rfl)⟩
theorem has_law_minute {a : Addr} {fd : FuncData} (F : FunD K "_law_minute" "_law_minute" (defArgs st_law_minute) (defBody st_law_minute) (defScope st_law_minute) [] [] a fd) (gl : mg "_law_minute" = some (.ref a)) (h_law_take : Has P w K mg base 1 "_law_take" CFH.S_law_take) (h_law_pick : Has P w K mg base 2 "_law_pick" CFH.S_law_pick) : Has P w K mg base 3 "_law_minute" CFLy.S_law_minute :=
  ⟨a, fd, P_law_minute, fn0 (k := 2) (L := CFLy.L_law_minute) (ww := CFLy.w_law_minute) F sc_law_minute rfl CFLy.len_law_minute (by
      intro cdv A outer s H E hr g hgL
      unfold CFLy.w_law_minute
      refine eb_cons ?_ ?_
      refine es_setF (i := 2) sc_law_minute.nd rfl (Or.inl rfl) ?_
      refine ee_has h_law_take (hr.mono (by decide)) (by rfl) ?_
      refine ea_cons ?_ ?_
      exact ee_pk (i := 0) (lt_ hgL rfl) (pv 0)
      refine ea_cons ?_ ?_
      exact ee_int
      exact ea_nil
      refine eb_cons ?_ ?_
      refine es_setF (i := 3) sc_law_minute.nd rfl (Or.inl rfl) ?_
      refine ee_has h_law_take (hr.mono (by decide)) (by rfl) ?_
      refine ea_cons ?_ ?_
      exact ee_pk (i := 0) (lt_ hgL rfl) (pv 0)
      refine ea_cons ?_ ?_
      exact ee_var (pv 1)
      exact ea_nil
      refine eb_cons ?_ ?_
      refine es_if ?_ ?_ ?_
      refine et_eq hr.units ?_ ?_
      exact ee_var (pv 2)
      exact ee_int
      refine eb_one ?_
      refine es_ret ?_
      refine ee_mul ?_ ?_
      exact ee_int
      refine ee_add ?_ ?_
      exact ee_var (pv 3)
      refine ee_has h_law_take (hr.mono (by decide)) (by rfl) ?_
      refine ea_cons ?_ ?_
      exact ee_pk (i := 0) (lt_ hgL rfl) (pv 0)
      refine ea_cons ?_ ?_
      exact ee_int
      exact ea_nil
      exact eb_nil
      refine eb_cons ?_ ?_
      refine es_if ?_ ?_ ?_
      refine et_eq hr.units ?_ ?_
      exact ee_var (pv 2)
      exact ee_int
      refine eb_one ?_
      refine es_ret ?_
      refine ee_add ?_ ?_
      refine ee_mul ?_ ?_
      exact ee_int
      exact ee_var (pv 3)
      refine ee_has h_law_pick (hr.mono (by decide)) (by rfl) ?_
      refine ea_cons ?_ ?_
      exact ee_pk (i := 0) (lt_ hgL rfl) (pv 0)
      refine ea_cons ?_ ?_
      refine ee_lst ?_
      refine ea_cons ?_ ?_
      exact ee_int
      refine ea_cons ?_ ?_
      exact ee_int
      refine ea_cons ?_ ?_
      exact ee_int
      refine ea_cons ?_ ?_
      exact ee_int
      refine ea_cons ?_ ?_
      exact ee_int
      refine ea_cons ?_ ?_
      exact ee_int
      exact ea_nil
      exact ea_nil
      exact eb_nil
      refine eb_one ?_
      refine es_ret ?_
      refine ee_add ?_ ?_
      refine ee_mul ?_ ?_
      exact ee_int
      exact ee_var (pv 3)
      refine ee_has h_law_take (hr.mono (by decide)) (by rfl) ?_
      refine ea_cons ?_ ?_
      exact ee_pk (i := 0) (lt_ hgL rfl) (pv 0)
      refine ea_cons ?_ ?_
      exact ee_int
      exact ea_nil) CFLy.ok_law_minute, gl, F.kp, F.bindsN (fun _ _ _ _ _ _ us hl => match us, hl with | [_, _], _ => rfl)⟩
theorem has_law_layer {a : Addr} {fd : FuncData} (F : FunD K "_law_layer" "_law_layer" (defArgs st_law_layer) (defBody st_law_layer) (defScope st_law_layer) [] [] a fd) (gl : mg "_law_layer" = some (.ref a)) (h_law_take : Has P w K mg base 1 "_law_take" CFH.S_law_take) (h_law_pick : Has P w K mg base 2 "_law_pick" CFH.S_law_pick) (m_sorted : mg "sorted" = none) (m_set : mg "set" = none) (m_range : mg "range" = none) (h_law_minute : Has P w K mg base 3 "_law_minute" CFLy.S_law_minute) (m_len : mg "len" = none) (m_tuple : mg "tuple" = none) : Has P w K mg base 4 "_law_layer" CFLy.S_law_layer :=
  ⟨a, fd, P_law_layer, fn0 (k := 3) (L := CFLy.L_law_layer) (ww := CFLy.w_law_layer) F sc_law_layer rfl CFLy.len_law_layer (by
      intro cdv A outer s H E hr g hgL
      unfold CFLy.w_law_layer
      refine eb_cons ?_ ?_
      refine es_setF (i := 5) sc_law_layer.nd rfl (Or.inl rfl) ?_
      refine ee_mul ?_ ?_
      refine ee_has h_law_take (hr.mono (by decide)) (by rfl) ?_
      refine ea_cons ?_ ?_
      exact ee_pk (i := 0) (lt_ hgL rfl) (pv 0)
      refine ea_cons ?_ ?_
      refine ee_mul ?_ ?_
      exact ee_int
      exact ee_var (pv 3)
      exact ea_nil
      refine ee_has h_law_take (hr.mono (by decide)) (by rfl) ?_
      refine ea_cons ?_ ?_
      exact ee_pk (i := 0) (lt_ hgL rfl) (pv 0)
      refine ea_cons ?_ ?_
      exact ee_int
      exact ea_nil
      refine eb_cons ?_ ?_
      refine es_if ?_ ?_ ?_
      refine et_eq hr.units ?_ ?_
      refine ee_has h_law_take (hr.mono (by decide)) (by rfl) ?_
      refine ea_cons ?_ ?_
      exact ee_pk (i := 0) (lt_ hgL rfl) (pv 0)
      refine ea_cons ?_ ?_
      exact ee_int
      exact ea_nil
      exact ee_int
      refine eb_one ?_
      refine es_ret ?_
      refine ee_tup ?_
      refine ea_cons ?_ ?_
      exact ee_var (pv 1)
      refine ea_cons ?_ ?_
      exact ee_var (pv 5)
      refine ea_cons ?_ ?_
      exact ee_var (pv 3)
      refine ea_cons ?_ ?_
      refine ee_tup ?_
      refine ea_cons ?_ ?_
      refine ee_tup ?_
      refine ea_cons ?_ ?_
      exact ee_int
      refine ea_cons ?_ ?_
      refine ee_mul ?_ ?_
      exact ee_int
      exact ee_var (pv 3)
      refine ea_cons ?_ ?_
      refine ee_has h_law_pick (hr.mono (by decide)) (by rfl) ?_
      refine ea_cons ?_ ?_
      exact ee_pk (i := 0) (lt_ hgL rfl) (pv 0)
      refine ea_cons ?_ ?_
      exact ee_var (pv 2)
      exact ea_nil
      exact ea_nil
      exact ea_nil
      exact ea_nil
      exact eb_nil
      refine eb_cons ?_ ?_
      refine es_setF (i := 7) sc_law_layer.nd rfl (Or.inl rfl) ?_
      refine ee_sortSet rfl (by rfl) m_sorted (by rfl) m_set ?_
      refine ee_lc (own := [("_law_k", 6)]) rfl sc_law_layer.nd (lf_ hgL rfl) ?_ (blkOk_by (own := [("_law_k", 6)]) (N := N_law_layer) (sc := defScope st_law_layer) (by decide +kernel)) (fun _ _ _ _ _ => eg_name (i := 6) sc_law_layer.nd rfl (Or.inl rfl)) (fun _ _ _ _ _ => ets_nil) (fun _ _ _ _ _ => ee_has h_law_minute (hr.mono (by decide)) (by rfl) (ea_cons (ee_pk (i := 0) (lt_ hgL rfl) (pv 0)) (ea_cons (ee_var (pv 3)) ea_nil)))
      refine ei_range1 (by rfl) m_range ?_
      refine ea_cons ?_ ?_
      refine ee_add ?_ ?_
      exact ee_int
      exact ee_var (pv 4)
      exact ea_nil
      refine eb_cons ?_ ?_
      refine es_set (i := 8) sc_law_layer.nd rfl (Or.inl rfl) ?_
      refine ee_lst ?_
      exact ea_nil
      refine eb_cons ?_ ?_
      refine es_for PassesOwn.never rfl ?_ (eg_name (i := 6) sc_law_layer.nd rfl (Or.inl rfl)) ?_
      refine ei_range1 (by rfl) m_range ?_
      refine ea_cons ?_ ?_
      refine ee_sub ?_ ?_
      refine ee_len (by rfl) m_len ?_
      refine ea_cons ?_ ?_
      exact ee_var (pv 7)
      exact ea_nil
      exact ee_int
      exact ea_nil
      refine eb_one ?_
      refine es_if ?_ ?_ ?_
      refine et_gt ?_ ?_
      refine ee_has h_law_take (hr.mono (by decide)) (by rfl) ?_
      refine ea_cons ?_ ?_
      exact ee_pk (i := 0) (lt_ hgL rfl) (pv 0)
      refine ea_cons ?_ ?_
      exact ee_int
      exact ea_nil
      exact ee_int
      refine eb_one ?_
      refine es_expr ?_
      refine ee_app (i := 8) (lt_ hgL rfl) (pv 8) ?_
      refine ee_tup ?_
      refine ea_cons ?_ ?_
      refine ee_ix ?_ ?_
      exact ee_var (pv 7)
      exact ee_var (pv 6)
      refine ea_cons ?_ ?_
      refine ee_ix ?_ ?_
      exact ee_var (pv 7)
      refine ee_add ?_ ?_
      exact ee_var (pv 6)
      exact ee_int
      refine ea_cons ?_ ?_
      refine ee_has h_law_pick (hr.mono (by decide)) (by rfl) ?_
      refine ea_cons ?_ ?_
      exact ee_pk (i := 0) (lt_ hgL rfl) (pv 0)
      refine ea_cons ?_ ?_
      exact ee_var (pv 2)
      exact ea_nil
      exact ea_nil
      exact eb_nil
      refine eb_one ?_
      refine es_ret ?_
      refine ee_tup ?_
      refine ea_cons ?_ ?_
      exact ee_var (pv 1)
      refine ea_cons ?_ ?_
      exact ee_var (pv 5)
      refine ea_cons ?_ ?_
      exact ee_var (pv 3)
      refine ea_cons ?_ ?_
      refine ee_tuple (by rfl) m_tuple ?_
      refine ea_cons ?_ ?_
      exact ee_ln (i := 8) (lt_ hgL rfl) (pv 8)
      exact ea_nil
      exact ea_nil) CFLy.ok_law_layer, gl, F.kp, F.bindsN (fun _ _ _ _ _ _ us hl => match us, hl with | [_, _, _, _, _], _ => rfl)⟩
theorem has_law_change {a : Addr} {fd : FuncData} (F : FunD K "_law_change" "_law_change" (defArgs st_law_change) (defBody st_law_change) (defScope st_law_change) [] [] a fd) (gl : mg "_law_change" = some (.ref a)) (h_law_take : Has P w K mg base 1 "_law_take" CFH.S_law_take) (h_law_moment : Has P w K mg base 3 "_law_moment" CFCh.S_law_moment) (m_min : mg "min" = none) (m_len : mg "len" = none) (h_law_pick : Has P w K mg base 2 "_law_pick" CFH.S_law_pick) : Has P w K mg base 4 "_law_change" CFCg.S_law_change :=
  ⟨a, fd, P_law_change, fn0 (k := 3) (L := CFCg.L_law_change) (ww := CFCg.w_law_change) F sc_law_change rfl CFCg.len_law_change (by
      intro cdv A outer s H E hr g hgL
      unfold CFCg.w_law_change
      refine eb_cons ?_ ?_
      refine es_setF (i := 3) sc_law_change.nd rfl (Or.inl rfl) ?_
      refine ee_has h_law_take (hr.mono (by decide)) (by rfl) ?_
      refine ea_cons ?_ ?_
      exact ee_pk (i := 0) (lt_ hgL rfl) (pv 0)
      refine ea_cons ?_ ?_
      exact ee_int
      exact ea_nil
      refine eb_cons ?_ ?_
      refine es_setF (i := 4) sc_law_change.nd rfl (Or.inl rfl) ?_
      refine ee_add ?_ ?_
      exact ee_var (pv 2)
      refine ee_has h_law_take (hr.mono (by decide)) (by rfl) ?_
      refine ea_cons ?_ ?_
      exact ee_pk (i := 0) (lt_ hgL rfl) (pv 0)
      refine ea_cons ?_ ?_
      exact ee_int
      exact ea_nil
      refine eb_cons ?_ ?_
      refine es_if ?_ ?_ ?_
      refine et_eq hr.units ?_ ?_
      refine ee_has h_law_take (hr.mono (by decide)) (by rfl) ?_
      refine ea_cons ?_ ?_
      exact ee_pk (i := 0) (lt_ hgL rfl) (pv 0)
      refine ea_cons ?_ ?_
      exact ee_int
      exact ea_nil
      exact ee_int
      refine eb_one ?_
      refine es_setF (i := 4) sc_law_change.nd rfl (Or.inl rfl) ?_
      refine ee_has h_law_moment (hr.mono (by decide)) (by rfl) ?_
      refine ea_cons ?_ ?_
      exact ee_pk (i := 0) (lt_ hgL rfl) (pv 0)
      exact ea_nil
      exact eb_nil
      refine eb_cons ?_ ?_
      refine es_setF (i := 4) sc_law_change.nd rfl (Or.inl rfl) ?_
      refine ee_min2 rfl (by rfl) m_min ?_
      refine ea_cons ?_ ?_
      exact ee_var (pv 4)
      refine ea_cons ?_ ?_
      refine ee_sub ?_ ?_
      refine ee_pow ?_ ?_
      exact ee_int
      exact ee_int
      exact ee_int
      exact ea_nil
      refine eb_cons ?_ ?_
      refine es_setF (i := 5) sc_law_change.nd rfl (Or.inl rfl) ?_
      refine ee_has h_law_take (hr.mono (by decide)) (by rfl) ?_
      refine ea_cons ?_ ?_
      exact ee_pk (i := 0) (lt_ hgL rfl) (pv 0)
      refine ea_cons ?_ ?_
      exact ee_int
      exact ea_nil
      refine eb_cons ?_ ?_
      refine es_setF (i := 6) sc_law_change.nd rfl (Or.inl rfl) ?_
      refine ee_min2 rfl (by rfl) m_min ?_
      refine ea_cons ?_ ?_
      refine ee_add ?_ ?_
      refine ee_add ?_ ?_
      exact ee_var (pv 4)
      exact ee_int
      refine ee_has h_law_take (hr.mono (by decide)) (by rfl) ?_
      refine ea_cons ?_ ?_
      exact ee_pk (i := 0) (lt_ hgL rfl) (pv 0)
      refine ea_cons ?_ ?_
      exact ee_int
      exact ea_nil
      refine ea_cons ?_ ?_
      refine ee_sub ?_ ?_
      refine ee_pow ?_ ?_
      exact ee_int
      exact ee_int
      exact ee_int
      exact ea_nil
      refine eb_cons ?_ ?_
      refine es_if ?_ ?_ ?_
      refine et_eq hr.units ?_ ?_
      exact ee_var (pv 5)
      exact ee_int
      refine eb_one ?_
      refine es_setF (i := 6) sc_law_change.nd rfl (Or.inl rfl) ?_
      exact ee_non
      refine eb_one ?_
      refine es_if ?_ ?_ ?_
      refine et_eq hr.units ?_ ?_
      exact ee_var (pv 5)
      exact ee_int
      refine eb_one ?_
      refine es_setF (i := 6) sc_law_change.nd rfl (Or.inl rfl) ?_
      refine ee_add ?_ ?_
      exact ee_var (pv 4)
      exact ee_int
      exact eb_nil
      refine eb_cons ?_ ?_
      refine es_if ?_ ?_ ?_
      refine et_w ?_
      refine ew_and ?_ ?_
      refine et_eq hr.units ?_ ?_
      exact ee_var (pv 3)
      exact ee_int
      refine ew_and1 ?_
      refine et_gt ?_ ?_
      refine ee_len (by rfl) m_len ?_
      refine ea_cons ?_ ?_
      exact ee_var (pv 1)
      exact ea_nil
      exact ee_int
      refine eb_cons ?_ ?_
      refine es_setF (i := 7) sc_law_change.nd rfl (Or.inl rfl) ?_
      refine ee_has h_law_take (hr.mono (by decide)) (by rfl) ?_
      refine ea_cons ?_ ?_
      exact ee_pk (i := 0) (lt_ hgL rfl) (pv 0)
      refine ea_cons ?_ ?_
      refine ee_len (by rfl) m_len ?_
      refine ea_cons ?_ ?_
      exact ee_var (pv 1)
      exact ea_nil
      exact ea_nil
      refine eb_cons ?_ ?_
      refine es_setF (i := 8) sc_law_change.nd rfl (Or.inl rfl) ?_
      refine ee_mod ?_ ?_
      refine ee_add ?_ ?_
      refine ee_add ?_ ?_
      exact ee_var (pv 7)
      exact ee_int
      refine ee_has h_law_take (hr.mono (by decide)) (by rfl) ?_
      refine ea_cons ?_ ?_
      exact ee_pk (i := 0) (lt_ hgL rfl) (pv 0)
      refine ea_cons ?_ ?_
      refine ee_sub ?_ ?_
      refine ee_len (by rfl) m_len ?_
      refine ea_cons ?_ ?_
      exact ee_var (pv 1)
      exact ea_nil
      exact ee_int
      exact ea_nil
      refine ee_len (by rfl) m_len ?_
      refine ea_cons ?_ ?_
      exact ee_var (pv 1)
      exact ea_nil
      refine eb_one ?_
      refine es_ret ?_
      refine ee_tup ?_
      refine ea_cons ?_ ?_
      exact ee_str
      refine ea_cons ?_ ?_
      refine ee_ix ?_ ?_
      exact ee_var (pv 1)
      exact ee_var (pv 7)
      refine ea_cons ?_ ?_
      refine ee_ix ?_ ?_
      exact ee_var (pv 1)
      exact ee_var (pv 8)
      refine ea_cons ?_ ?_
      exact ee_var (pv 4)
      refine ea_cons ?_ ?_
      exact ee_var (pv 6)
      exact ea_nil
      exact eb_nil
      refine eb_one ?_
      refine es_ret ?_
      refine ee_tup ?_
      refine ea_cons ?_ ?_
      refine ee_has h_law_pick (hr.mono (by decide)) (by rfl) ?_
      refine ea_cons ?_ ?_
      exact ee_pk (i := 0) (lt_ hgL rfl) (pv 0)
      refine ea_cons ?_ ?_
      refine ee_lst ?_
      refine ea_cons ?_ ?_
      exact ee_str
      refine ea_cons ?_ ?_
      exact ee_str
      refine ea_cons ?_ ?_
      exact ee_str
      exact ea_nil
      exact ea_nil
      refine ea_cons ?_ ?_
      refine ee_has h_law_pick (hr.mono (by decide)) (by rfl) ?_
      refine ea_cons ?_ ?_
      exact ee_pk (i := 0) (lt_ hgL rfl) (pv 0)
      refine ea_cons ?_ ?_
      exact ee_var (pv 1)
      exact ea_nil
      refine ea_cons ?_ ?_
      exact ee_var (pv 4)
      refine ea_cons ?_ ?_
      exact ee_var (pv 6)
      exact ea_nil) CFCg.ok_law_change, gl, F.kp, F.bindsN (fun _ _ _ _ _ _ us hl => match us, hl with | [_, _, _], _ => rfl)⟩
theorem has_law_jump_row {a : Addr} {fd : FuncData} (F : FunD K "_law_jump_row" "_law_jump_row" (defArgs st_law_jump_row) (defBody st_law_jump_row) (defScope st_law_jump_row) [] [] a fd) (gl : mg "_law_jump_row" = some (.ref a)) (m_range : mg "range" = none) (h_law_take : Has P w K mg base 1 "_law_take" CFH.S_law_take) (h_law_pick : Has P w K mg base 2 "_law_pick" CFH.S_law_pick) (m_tuple : mg "tuple" = none) : Has P w K mg base 3 "_law_jump_row" S_law_jump_row :=
  ⟨a, fd, P_law_jump_row, fn0 (k := 2) (L := L_law_jump_row) (ww := w_law_jump_row) F sc_law_jump_row rfl len_law_jump_row (by
      intro cdv A outer s H E hr g hgL
      unfold w_law_jump_row
      refine eb_cons ?_ ?_
      refine es_set (i := 2) sc_law_jump_row.nd rfl (Or.inl rfl) ?_
      refine ee_lst ?_
      exact ea_nil
      refine eb_cons ?_ ?_
      refine es_setF (i := 3) sc_law_jump_row.nd rfl (Or.inl rfl) ?_
      exact ee_int
      refine eb_cons ?_ ?_
      refine es_for PassesOwn.never rfl ?_ (eg_name (i := 4) sc_law_jump_row.nd rfl (Or.inl rfl)) ?_
      refine ei_range1 (by rfl) m_range ?_
      refine ea_cons ?_ ?_
      exact ee_var (pv 1)
      exact ea_nil
      refine eb_cons ?_ ?_
      refine es_setF (i := 3) sc_law_jump_row.nd rfl (Or.inl rfl) ?_
      refine ee_add ?_ ?_
      refine ee_add ?_ ?_
      exact ee_var (pv 3)
      exact ee_int
      refine ee_has h_law_take (hr.mono (by decide)) (by rfl) ?_
      refine ea_cons ?_ ?_
      exact ee_pk (i := 0) (lt_ hgL rfl) (pv 0)
      refine ea_cons ?_ ?_
      exact ee_int
      exact ea_nil
      refine eb_one ?_
      refine es_expr ?_
      refine ee_app (i := 2) (lt_ hgL rfl) (pv 2) ?_
      refine ee_tup ?_
      refine ea_cons ?_ ?_
      exact ee_var (pv 3)
      refine ea_cons ?_ ?_
      refine ee_has h_law_pick (hr.mono (by decide)) (by rfl) ?_
      refine ea_cons ?_ ?_
      exact ee_pk (i := 0) (lt_ hgL rfl) (pv 0)
      refine ea_cons ?_ ?_
      refine ee_lst ?_
      refine ea_cons ?_ ?_
      exact ee_int
      refine ea_cons ?_ ?_
      refine ee_neg ?_
      exact ee_int
      refine ea_cons ?_ ?_
      exact ee_int
      refine ea_cons ?_ ?_
      refine ee_neg ?_
      exact ee_int
      refine ea_cons ?_ ?_
      exact ee_int
      refine ea_cons ?_ ?_
      refine ee_neg ?_
      exact ee_int
      exact ea_nil
      exact ea_nil
      exact ea_nil
      refine eb_one ?_
      refine es_ret ?_
      refine ee_tuple (by rfl) m_tuple ?_
      refine ea_cons ?_ ?_
      exact ee_ln (i := 2) (lt_ hgL rfl) (pv 2)
      exact ea_nil) ok_law_jump_row, gl, F.kp, F.bindsN (fun _ _ _ _ _ _ us hl => match us, hl with | [_, _], _ => rfl)⟩
theorem has_law_good {a : Addr} {fd : FuncData} (F : FunD K "_law_good" "_law_good" (defArgs st_law_good) (defBody st_law_good) (defScope st_law_good) [] [] a fd) (gl : mg "_law_good" = some (.ref a)) (h_law_words : Has P w K mg base 3 "_law_words" CFWd.S_law_words) (h_law_take : Has P w K mg base 1 "_law_take" CFH.S_law_take) (h_law_jumps : Has P w K mg base 4 "_law_jumps" CFJn.S_law_jumps) (m_range : mg "range" = none) (h_law_layer : Has P w K mg base 4 "_law_layer" CFLy.S_law_layer) (h_law_change : Has P w K mg base 4 "_law_change" CFCg.S_law_change) (h_law_jump_row : Has P w K mg base 3 "_law_jump_row" S_law_jump_row) (m_int : mg "int" = none) (m_tuple : mg "tuple" = none) : Has P w K mg base 5 "_law_good" S_law_good :=
  ⟨a, fd, P_law_good, fn0 (k := 4) (L := L_law_good) (ww := w_law_good) F sc_law_good rfl len_law_good (by
      intro cdv A outer s H E hr g hgL
      unfold w_law_good
      refine eb_cons ?_ ?_
      refine es_setF (i := 1) sc_law_good.nd rfl (Or.inr rfl) ?_
      refine ee_has h_law_words (hr.mono (by decide)) (by rfl) ?_
      refine ea_cons ?_ ?_
      exact ee_pk (i := 0) (lt_ hgL rfl) (pv 0)
      refine ea_cons ?_ ?_
      exact ee_int
      exact ea_nil
      refine eb_cons ?_ ?_
      refine es_setF (i := 2) sc_law_good.nd rfl (Or.inr rfl) ?_
      refine ee_has h_law_words (hr.mono (by decide)) (by rfl) ?_
      refine ea_cons ?_ ?_
      exact ee_pk (i := 0) (lt_ hgL rfl) (pv 0)
      refine ea_cons ?_ ?_
      exact ee_int
      exact ea_nil
      refine eb_cons ?_ ?_
      refine es_setF (i := 3) sc_law_good.nd rfl (Or.inl rfl) ?_
      refine ee_has h_law_take (hr.mono (by decide)) (by rfl) ?_
      refine ea_cons ?_ ?_
      exact ee_pk (i := 0) (lt_ hgL rfl) (pv 0)
      refine ea_cons ?_ ?_
      exact ee_int
      exact ea_nil
      refine eb_cons ?_ ?_
      refine es_setF (i := 4) sc_law_good.nd rfl (Or.inl rfl) ?_
      refine ee_has h_law_take (hr.mono (by decide)) (by rfl) ?_
      refine ea_cons ?_ ?_
      exact ee_pk (i := 0) (lt_ hgL rfl) (pv 0)
      refine ea_cons ?_ ?_
      exact ee_int
      exact ea_nil
      refine eb_cons ?_ ?_
      refine es_setF (i := 5) sc_law_good.nd rfl (Or.inl rfl) ?_
      refine ee_has h_law_jumps (hr.mono (by decide)) (by rfl) ?_
      refine ea_cons ?_ ?_
      exact ee_pk (i := 0) (lt_ hgL rfl) (pv 0)
      refine ea_cons ?_ ?_
      exact ee_int
      exact ea_nil
      refine eb_cons ?_ ?_
      refine es_setLcF (i := 6) (own := [("_law_k", 10)]) rfl sc_law_good.nd rfl rfl (sw_true rfl rfl rfl (by decide +kernel)) (lf_ hgL rfl) ?_ (blkOk_by (own := [("_law_k", 10)]) (N := N_law_good) (sc := defScope st_law_good) (by decide +kernel)) (fun _ _ _ _ _ => eg_name (i := 10) sc_law_good.nd rfl (Or.inl rfl)) (fun _ _ _ _ _ => ets_nil) (fun _ _ _ _ _ => ee_has h_law_layer (hr.mono (by decide)) (by rfl) (ea_cons (ee_pk (i := 0) (lt_ hgL rfl) (pv 0)) (ea_cons (ee_ix (ee_var (pv 2)) (ee_var (pv 10))) (ea_cons (ee_var (pv 1)) (ea_cons (ee_add ee_int (ee_has h_law_take (hr.mono (by decide)) (by rfl) (ea_cons (ee_pk (i := 0) (lt_ hgL rfl) (pv 0)) (ea_cons ee_int ea_nil)))) (ea_cons ee_int ea_nil))))))
      refine ei_range1 (by rfl) m_range ?_
      refine ea_cons ?_ ?_
      refine ee_has h_law_take (hr.mono (by decide)) (by rfl) ?_
      refine ea_cons ?_ ?_
      exact ee_pk (i := 0) (lt_ hgL rfl) (pv 0)
      refine ea_cons ?_ ?_
      exact ee_int
      exact ea_nil
      exact ea_nil
      refine eb_cons ?_ ?_
      refine es_setLcF (i := 7) (own := [("_law_k", 10)]) rfl sc_law_good.nd rfl rfl (sw_true rfl rfl rfl (by decide +kernel)) (lf_ hgL rfl) ?_ (blkOk_by (own := [("_law_k", 10)]) (N := N_law_good) (sc := defScope st_law_good) (by decide +kernel)) (fun _ _ _ _ _ => eg_name (i := 10) sc_law_good.nd rfl (Or.inl rfl)) (fun _ _ _ _ _ => ets_nil) (fun _ _ _ _ _ => ee_has h_law_change (hr.mono (by decide)) (by rfl) (ea_cons (ee_pk (i := 0) (lt_ hgL rfl) (pv 0)) (ea_cons (ee_var (pv 1)) (ea_cons ee_int ea_nil))))
      refine ei_range1 (by rfl) m_range ?_
      refine ea_cons ?_ ?_
      refine ee_has h_law_take (hr.mono (by decide)) (by rfl) ?_
      refine ea_cons ?_ ?_
      exact ee_pk (i := 0) (lt_ hgL rfl) (pv 0)
      refine ea_cons ?_ ?_
      exact ee_int
      exact ea_nil
      exact ea_nil
      refine eb_cons ?_ ?_
      refine es_if ?_ ?_ ?_
      refine et_eq hr.units ?_ ?_
      exact ee_var (pv 3)
      exact ee_int
      refine eb_cons ?_ ?_
      refine es_setF (i := 5) sc_law_good.nd rfl (Or.inl rfl) ?_
      refine ee_has h_law_jump_row (hr.mono (by decide)) (by rfl) ?_
      refine ea_cons ?_ ?_
      exact ee_pk (i := 0) (lt_ hgL rfl) (pv 0)
      refine ea_cons ?_ ?_
      refine ee_add ?_ ?_
      exact ee_int
      refine ee_int1 (by rfl) m_int ?_
      refine ea_cons ?_ ?_
      refine ee_eq hr.units ?_ ?_
      exact ee_var (pv 4)
      exact ee_int
      exact ea_nil
      exact ea_nil
      refine eb_cons ?_ ?_
      refine es_setLcF (i := 6) (own := [("_law_k", 10)]) rfl sc_law_good.nd rfl rfl (sw_true rfl rfl rfl (by decide +kernel)) (lf_ hgL rfl) ?_ (blkOk_by (own := [("_law_k", 10)]) (N := N_law_good) (sc := defScope st_law_good) (by decide +kernel)) (fun _ _ _ _ _ => eg_name (i := 10) sc_law_good.nd rfl (Or.inl rfl)) (fun _ _ _ _ _ => ets_nil) (fun _ _ _ _ _ => ee_has h_law_layer (hr.mono (by decide)) (by rfl) (ea_cons (ee_pk (i := 0) (lt_ hgL rfl) (pv 0)) (ea_cons (ee_ix (ee_var (pv 2)) (ee_var (pv 10))) (ea_cons (ee_var (pv 1)) (ea_cons ee_int (ea_cons ee_int ea_nil))))))
      refine ei_range1 (by rfl) m_range ?_
      refine ea_cons ?_ ?_
      refine ee_add ?_ ?_
      exact ee_int
      refine ee_int1 (by rfl) m_int ?_
      refine ea_cons ?_ ?_
      refine ee_eq hr.units ?_ ?_
      exact ee_var (pv 4)
      exact ee_int
      exact ea_nil
      exact ea_nil
      refine eb_cons ?_ ?_
      refine es_setF (i := 8) sc_law_good.nd rfl (Or.inl rfl) ?_
      refine ee_has h_law_change (hr.mono (by decide)) (by rfl) ?_
      refine ea_cons ?_ ?_
      exact ee_pk (i := 0) (lt_ hgL rfl) (pv 0)
      refine ea_cons ?_ ?_
      exact ee_var (pv 1)
      refine ea_cons ?_ ?_
      exact ee_int
      exact ea_nil
      refine eb_one ?_
      refine es_setF (i := 7) sc_law_good.nd rfl (Or.inl rfl) ?_
      refine ee_rep ?_ ?_
      refine ee_lst ?_
      refine ea_cons ?_ ?_
      exact ee_var (pv 8)
      exact ea_nil
      refine ee_add ?_ ?_
      exact ee_int
      refine ee_int1 (by rfl) m_int ?_
      refine ea_cons ?_ ?_
      refine ee_eq hr.units ?_ ?_
      exact ee_var (pv 4)
      exact ee_int
      exact ea_nil
      exact eb_nil
      refine eb_one ?_
      refine es_ret ?_
      refine ee_tup ?_
      refine ea_cons ?_ ?_
      exact ee_var (pv 5)
      refine ea_cons ?_ ?_
      refine ee_tuple (by rfl) m_tuple ?_
      refine ea_cons ?_ ?_
      exact ee_var (pv 6)
      exact ea_nil
      refine ea_cons ?_ ?_
      refine ee_tuple (by rfl) m_tuple ?_
      refine ea_cons ?_ ?_
      exact ee_var (pv 7)
      exact ea_nil
      exact ea_nil) ok_law_good, gl, F.kp, F.bindsN (fun _ _ _ _ _ _ us hl => match us, hl with | [_], _ => rfl)⟩
theorem has_law_odd {a : Addr} {fd : FuncData} (F : FunD K "_law_odd" "_law_odd" (defArgs st_law_odd) (defBody st_law_odd) (defScope st_law_odd) [] [] a fd) (gl : mg "_law_odd" = some (.ref a)) (h_law_take : Has P w K mg base 1 "_law_take" CFH.S_law_take) (h_law_pick : Has P w K mg base 2 "_law_pick" CFH.S_law_pick) (m_isinstance : mg "isinstance" = none) (m_int : mg "int" = none) (m_tuple : mg "tuple" = none) (m_list : mg "list" = none) : Has P w K mg base 3 "_law_odd" S_law_odd :=
  ⟨a, fd, P_law_odd, fn0 (k := 2) (L := L_law_odd) (ww := w_law_odd) F sc_law_odd rfl len_law_odd (by
      intro cdv A outer s H E hr g hgL
      unfold w_law_odd
      refine eb_cons ?_ ?_
      refine es_setF (i := 2) sc_law_odd.nd rfl (Or.inl rfl) ?_
      refine ee_has h_law_take (hr.mono (by decide)) (by rfl) ?_
      refine ea_cons ?_ ?_
      exact ee_pk (i := 0) (lt_ hgL rfl) (pv 0)
      refine ea_cons ?_ ?_
      exact ee_int
      exact ea_nil
      refine eb_cons ?_ ?_
      refine es_if ?_ ?_ ?_
      refine et_eq hr.units ?_ ?_
      exact ee_var (pv 2)
      exact ee_int
      refine eb_one ?_
      refine es_ret ?_
      refine ee_has h_law_pick (hr.mono (by decide)) (by rfl) ?_
      refine ea_cons ?_ ?_
      exact ee_pk (i := 0) (lt_ hgL rfl) (pv 0)
      refine ea_cons ?_ ?_
      refine ee_lst ?_
      refine ea_cons ?_ ?_
      exact ee_bl
      refine ea_cons ?_ ?_
      exact ee_bl
      refine ea_cons ?_ ?_
      exact ee_non
      refine ea_cons ?_ ?_
      refine ee_neg ?_
      exact ee_int
      refine ea_cons ?_ ?_
      exact ee_int
      refine ea_cons ?_ ?_
      exact ee_int
      refine ea_cons ?_ ?_
      refine ee_pow ?_ ?_
      exact ee_int
      exact ee_int
      refine ea_cons ?_ ?_
      exact ee_int
      refine ea_cons ?_ ?_
      exact ee_int
      refine ea_cons ?_ ?_
      exact ee_int
      refine ea_cons ?_ ?_
      refine ee_neg ?_
      exact ee_int
      refine ea_cons ?_ ?_
      exact ee_int
      exact ea_nil
      exact ea_nil
      exact eb_nil
      refine eb_cons ?_ ?_
      refine es_if ?_ ?_ ?_
      refine et_eq hr.units ?_ ?_
      exact ee_var (pv 2)
      exact ee_int
      refine eb_one ?_
      refine es_ret ?_
      refine ee_has h_law_pick (hr.mono (by decide)) (by rfl) ?_
      refine ea_cons ?_ ?_
      exact ee_pk (i := 0) (lt_ hgL rfl) (pv 0)
      refine ea_cons ?_ ?_
      refine ee_lst ?_
      refine ea_cons ?_ ?_
      exact ee_str
      refine ea_cons ?_ ?_
      exact ee_str
      refine ea_cons ?_ ?_
      exact ee_str
      refine ea_cons ?_ ?_
      exact ee_str
      refine ea_cons ?_ ?_
      exact ee_str
      refine ea_cons ?_ ?_
      exact ee_str
      exact ea_nil
      exact ea_nil
      exact eb_nil
      refine eb_cons ?_ ?_
      refine es_if ?_ ?_ ?_
      refine et_eq hr.units ?_ ?_
      exact ee_var (pv 2)
      exact ee_int
      refine eb_one ?_
      refine es_ret ?_
      refine ee_has h_law_pick (hr.mono (by decide)) (by rfl) ?_
      refine ea_cons ?_ ?_
      exact ee_pk (i := 0) (lt_ hgL rfl) (pv 0)
      refine ea_cons ?_ ?_
      refine ee_lst ?_
      refine ea_cons ?_ ?_
      refine ee_tup ?_
      exact ea_nil
      refine ea_cons ?_ ?_
      refine ee_tup ?_
      refine ea_cons ?_ ?_
      exact ee_str
      exact ea_nil
      refine ea_cons ?_ ?_
      refine ee_lst ?_
      exact ea_nil
      refine ea_cons ?_ ?_
      refine ee_tup ?_
      refine ea_cons ?_ ?_
      exact ee_int
      refine ea_cons ?_ ?_
      exact ee_int
      exact ea_nil
      refine ea_cons ?_ ?_
      exact ee_dat0
      refine ea_cons ?_ ?_
      refine ee_tup ?_
      refine ea_cons ?_ ?_
      exact ee_int
      refine ea_cons ?_ ?_
      exact ee_int
      exact ea_nil
      refine ea_cons ?_ ?_
      refine ee_tup ?_
      refine ea_cons ?_ ?_
      exact ee_int
      refine ea_cons ?_ ?_
      exact ee_int
      refine ea_cons ?_ ?_
      exact ee_str
      exact ea_nil
      exact ea_nil
      exact ea_nil
      exact eb_nil
      refine eb_cons ?_ ?_
      refine es_if ?_ ?_ ?_
      refine et_val ?_
      refine ee_isi2 (by rfl) m_isinstance (by rfl) m_int ?_
      exact ee_var (pv 1)
      refine eb_one ?_
      refine es_ret ?_
      refine ee_plusB ?_ ?_
      exact ee_var (pv 1)
      refine ee_has h_law_pick (hr.mono (by decide)) (by rfl) ?_
      refine ea_cons ?_ ?_
      exact ee_pk (i := 0) (lt_ hgL rfl) (pv 0)
      refine ea_cons ?_ ?_
      refine ee_lst ?_
      refine ea_cons ?_ ?_
      exact ee_int
      refine ea_cons ?_ ?_
      refine ee_neg ?_
      exact ee_int
      refine ea_cons ?_ ?_
      exact ee_int
      refine ea_cons ?_ ?_
      refine ee_neg ?_
      exact ee_int
      refine ea_cons ?_ ?_
      refine ee_pow ?_ ?_
      exact ee_int
      exact ee_int
      exact ea_nil
      exact ea_nil
      exact eb_nil
      refine eb_cons ?_ ?_
      refine es_if ?_ ?_ ?_
      refine et_val ?_
      refine ee_isi2 (by rfl) m_isinstance (by rfl) m_tuple ?_
      exact ee_var (pv 1)
      refine eb_one ?_
      refine es_ret ?_
      refine ee_list (by rfl) m_list ?_
      refine ea_cons ?_ ?_
      exact ee_var (pv 1)
      exact ea_nil
      exact eb_nil
      refine eb_one ?_
      refine es_ret ?_
      exact ee_var (pv 1)) ok_law_odd, gl, F.kp, F.bindsN (fun _ _ _ _ _ _ us hl => match us, hl with | [_, _], _ => rfl)⟩
theorem has_law_spoilt {a : Addr} {fd : FuncData} (F : FunD K "_law_spoilt" "_law_spoilt" (defArgs st_law_spoilt) (defBody st_law_spoilt) (defScope st_law_spoilt) [] [] a fd) (gl : mg "_law_spoilt" = some (.ref a)) (m_isinstance : mg "isinstance" = none) (m_tuple : mg "tuple" = none) (h_law_take : Has P w K mg base 1 "_law_take" CFH.S_law_take) (h_law_odd : Has P w K mg base 3 "_law_odd" S_law_odd) (m_list : mg "list" = none) (m_len : mg "len" = none) : ∀ d : Nat, Has P w K mg base (4 + d) "_law_spoilt" (S_law_spoilt d)
  | 0 => ⟨a, fd, P_law_spoilt, fn0 (k := 3) (L := L_law_spoilt) (ww := wNever) F sc_law_spoilt rfl (len_law_spoilt 0) (by
      intro cdv A outer s H E hr g hgL
      exact eb_never) (fun _ _ _ h => h.elim), gl, F.kp, F.bindsN (fun _ _ _ _ _ _ us hl => match us, hl with | [_, _, _], _ => rfl)⟩
  | d + 1 => by
    have hc := has_law_spoilt F gl m_isinstance m_tuple h_law_take h_law_odd m_list m_len d
    exact ⟨a, fd, P_law_spoilt, fn0 (k := 4 + d) (L := L_law_spoilt) (ww := w_law_spoilt (S_law_spoilt d)) F sc_law_spoilt rfl (len_law_spoilt (d + 1)) (by
      intro cdv A outer s H E hr g hgL
      unfold w_law_spoilt
      refine eb_cons ?_ ?_
      refine es_if ?_ ?_ ?_
      refine et_w ?_
      refine ew_or ?_ ?_
      refine et_not ?_
      refine et_val ?_
      refine ee_isi2 (by rfl) m_isinstance (by rfl) m_tuple ?_
      exact ee_var (pv 1)
      refine ew_or ?_ ?_
      refine et_eq hr.units ?_ ?_
      exact ee_var (pv 2)
      exact ee_int
      refine ew_or1 ?_
      refine et_eq hr.units ?_ ?_
      refine ee_has h_law_take (hr.mono (by omega)) (by rfl) ?_
      refine ea_cons ?_ ?_
      exact ee_pk (i := 0) (lt_ hgL rfl) (pv 0)
      refine ea_cons ?_ ?_
      exact ee_int
      exact ea_nil
      exact ee_int
      refine eb_one ?_
      refine es_ret ?_
      refine ee_has h_law_odd (hr.mono (by omega)) (by rfl) ?_
      refine ea_cons ?_ ?_
      exact ee_pk (i := 0) (lt_ hgL rfl) (pv 0)
      refine ea_cons ?_ ?_
      exact ee_var (pv 1)
      exact ea_nil
      exact eb_nil
      refine eb_cons ?_ ?_
      refine es_set (i := 3) sc_law_spoilt.nd rfl (Or.inl rfl) ?_
      refine ee_list (by rfl) m_list ?_
      refine ea_cons ?_ ?_
      exact ee_var (pv 1)
      exact ea_nil
      refine eb_cons ?_ ?_
      refine es_setF (i := 4) sc_law_spoilt.nd rfl (Or.inl rfl) ?_
      refine ee_has h_law_take (hr.mono (by omega)) (by rfl) ?_
      refine ea_cons ?_ ?_
      exact ee_pk (i := 0) (lt_ hgL rfl) (pv 0)
      refine ea_cons ?_ ?_
      exact ee_int
      exact ea_nil
      refine eb_cons ?_ ?_
      refine es_setF (i := 5) sc_law_spoilt.nd rfl (Or.inl rfl) ?_
      refine ee_has h_law_take (hr.mono (by omega)) (by rfl) ?_
      refine ea_cons ?_ ?_
      exact ee_pk (i := 0) (lt_ hgL rfl) (pv 0)
      refine ea_cons ?_ ?_
      refine ee_add ?_ ?_
      refine ee_len (by rfl) m_len ?_
      refine ea_cons ?_ ?_
      exact ee_ln (i := 3) (lt_ hgL rfl) (pv 3)
      exact ea_nil
      exact ee_int
      exact ea_nil
      refine eb_cons ?_ ?_
      refine es_if ?_ ?_ ?_
      refine et_eq hr.units ?_ ?_
      exact ee_var (pv 4)
      exact ee_int
      refine eb_one ?_
      refine es_set (i := 3) sc_law_spoilt.nd rfl (Or.inl rfl) ?_
      refine ee_catL ?_ ?_
      refine ee_catL ?_ ?_
      refine ee_sl ?_ ?_ ?_
      exact ee_ln (i := 3) (lt_ hgL rfl) (pv 3)
      exact eo_none
      refine eo_some ?_
      exact ee_var (pv 5)
      refine ee_lst ?_
      refine ea_cons ?_ ?_
      refine ee_has h_law_odd (hr.mono (by omega)) (by rfl) ?_
      refine ea_cons ?_ ?_
      exact ee_pk (i := 0) (lt_ hgL rfl) (pv 0)
      refine ea_cons ?_ ?_
      exact ee_non
      exact ea_nil
      exact ea_nil
      refine ee_sl ?_ ?_ ?_
      exact ee_ln (i := 3) (lt_ hgL rfl) (pv 3)
      refine eo_some ?_
      exact ee_var (pv 5)
      exact eo_none
      refine eb_one ?_
      refine es_if ?_ ?_ ?_
      refine et_eq hr.units ?_ ?_
      exact ee_ln (i := 3) (lt_ hgL rfl) (pv 3)
      refine ee_lst ?_
      exact ea_nil
      refine eb_one ?_
      refine es_set (i := 3) sc_law_spoilt.nd rfl (Or.inl rfl) ?_
      refine ee_lst ?_
      refine ea_cons ?_ ?_
      refine ee_has h_law_odd (hr.mono (by omega)) (by rfl) ?_
      refine ea_cons ?_ ?_
      exact ee_pk (i := 0) (lt_ hgL rfl) (pv 0)
      refine ea_cons ?_ ?_
      exact ee_non
      exact ea_nil
      exact ea_nil
      refine eb_one ?_
      refine es_if ?_ ?_ ?_
      refine et_eq hr.units ?_ ?_
      exact ee_var (pv 4)
      exact ee_int
      refine eb_one ?_
      refine es_set (i := 3) sc_law_spoilt.nd rfl (Or.inl rfl) ?_
      refine ee_catL ?_ ?_
      refine ee_sl ?_ ?_ ?_
      exact ee_ln (i := 3) (lt_ hgL rfl) (pv 3)
      exact eo_none
      refine eo_some ?_
      exact ee_var (pv 5)
      refine ee_sl ?_ ?_ ?_
      exact ee_ln (i := 3) (lt_ hgL rfl) (pv 3)
      refine eo_some ?_
      refine ee_add ?_ ?_
      exact ee_var (pv 5)
      exact ee_int
      exact eo_none
      refine eb_one ?_
      refine es_if ?_ ?_ ?_
      refine et_eq hr.units ?_ ?_
      exact ee_var (pv 4)
      exact ee_int
      refine eb_one ?_
      refine es_set (i := 3) sc_law_spoilt.nd rfl (Or.inl rfl) ?_
      refine ee_catL ?_ ?_
      refine ee_catL ?_ ?_
      refine ee_sl ?_ ?_ ?_
      exact ee_ln (i := 3) (lt_ hgL rfl) (pv 3)
      exact eo_none
      refine eo_some ?_
      exact ee_var (pv 5)
      refine ee_lst ?_
      refine ea_cons ?_ ?_
      refine ee_oix (i := 3) (pv 3) ?_
      refine ee_sub ?_ ?_
      exact ee_var (pv 5)
      exact ee_int
      exact ea_nil
      refine ee_sl ?_ ?_ ?_
      exact ee_ln (i := 3) (lt_ hgL rfl) (pv 3)
      refine eo_some ?_
      exact ee_var (pv 5)
      exact eo_none
      refine eb_cons ?_ ?_
      refine es_setF (i := 5) sc_law_spoilt.nd rfl (Or.inl rfl) ?_
      refine ee_has h_law_take (hr.mono (by omega)) (by rfl) ?_
      refine ea_cons ?_ ?_
      exact ee_pk (i := 0) (lt_ hgL rfl) (pv 0)
      refine ea_cons ?_ ?_
      refine ee_len (by rfl) m_len ?_
      refine ea_cons ?_ ?_
      exact ee_ln (i := 3) (lt_ hgL rfl) (pv 3)
      exact ea_nil
      exact ea_nil
      refine eb_one ?_
      refine es_setIx (i := 3) (lt_ hgL rfl) (pv 3) ?_ ?_
      refine ee_has hc (hr.mono (by omega)) (by rfl) ?_
      refine ea_cons ?_ ?_
      exact ee_pk (i := 0) (lt_ hgL rfl) (pv 0)
      refine ea_cons ?_ ?_
      refine ee_oix (i := 3) (pv 3) ?_
      exact ee_var (pv 5)
      refine ea_cons ?_ ?_
      refine ee_sub ?_ ?_
      exact ee_var (pv 2)
      exact ee_int
      exact ea_nil
      exact ee_var (pv 5)
      refine eb_one ?_
      refine es_ret ?_
      refine ee_tuple (by rfl) m_tuple ?_
      refine ea_cons ?_ ?_
      exact ee_frz (i := 3) (lt_ hgL rfl) (pv 3)
      exact ea_nil) (ok_law_spoilt d), gl, F.kp, F.bindsN (fun _ _ _ _ _ _ us hl => match us, hl with | [_, _, _], _ => rfl)⟩
theorem has_law_is_whole {a : Addr} {fd : FuncData} (F : FunD K "_law_is_whole" "_law_is_whole" (defArgs st_law_is_whole) (defBody st_law_is_whole) (defScope st_law_is_whole) [] [] a fd) (gl : mg "_law_is_whole" = some (.ref a)) (m_isinstance : mg "isinstance" = none) (m_int : mg "int" = none) (m_bool : mg "bool" = none) : Has P w K mg base 1 "_law_is_whole" S_law_is_whole :=
  ⟨a, fd, P_law_is_whole, fn0 (k := 0) (L := L_law_is_whole) (ww := w_law_is_whole) F sc_law_is_whole rfl len_law_is_whole (by
      intro cdv A outer s H E hr g hgL
      unfold w_law_is_whole
      refine eb_one ?_
      refine es_ret ?_
      refine ee_and ?_ ?_
      refine ee_isi2 (by rfl) m_isinstance (by rfl) m_int ?_
      exact ee_var (pv 0)
      refine ee_and ?_ ?_
      refine ee_not ?_
      refine ee_isi2 (by rfl) m_isinstance (by rfl) m_bool ?_
      exact ee_var (pv 0)
      refine ee_and ?_ ?_
      refine ee_le ?_ ?_
      exact ee_var (pv 1)
      exact ee_var (pv 0)
      refine ee_one ?_
      refine ee_le ?_ ?_
      exact ee_var (pv 0)
      exact ee_var (pv 2)) ok_law_is_whole, gl, F.kp, F.bindsN (fun _ _ _ _ _ _ us hl => match us, hl with | [_, _, _], _ => rfl)⟩
theorem has_law_is_row {a : Addr} {fd : FuncData} (F : FunD K "_law_is_row" "_law_is_row" (defArgs st_law_is_row) (defBody st_law_is_row) (defScope st_law_is_row) [] [] a fd) (gl : mg "_law_is_row" = some (.ref a)) (m_isinstance : mg "isinstance" = none) (m_tuple : mg "tuple" = none) (m_len : mg "len" = none) : Has P w K mg base 1 "_law_is_row" S_law_is_row :=
  ⟨a, fd, P_law_is_row, fn0 (k := 0) (L := L_law_is_row) (ww := w_law_is_row) F sc_law_is_row rfl len_law_is_row (by
      intro cdv A outer s H E hr g hgL
      unfold w_law_is_row
      refine eb_one ?_
      refine es_ret ?_
      refine ee_and ?_ ?_
      refine ee_isi2 (by rfl) m_isinstance (by rfl) m_tuple ?_
      exact ee_var (pv 0)
      refine ee_one ?_
      refine ee_eq hr.units ?_ ?_
      refine ee_len (by rfl) m_len ?_
      refine ea_cons ?_ ?_
      exact ee_var (pv 0)
      exact ea_nil
      exact ee_var (pv 1)) ok_law_is_row, gl, F.kp, F.bindsN (fun _ _ _ _ _ _ us hl => match us, hl with | [_, _], _ => rfl)⟩
theorem has_law_is_word {a : Addr} {fd : FuncData} (F : FunD K "_law_is_word" "_law_is_word" (defArgs st_law_is_word) (defBody st_law_is_word) (defScope st_law_is_word) [] [] a fd) (gl : mg "_law_is_word" = some (.ref a)) (m_isinstance : mg "isinstance" = none) (m_str : mg "str" = none) (m_len : mg "len" = none) (m_all : mg "all" = none) : Has P w K mg base 1 "_law_is_word" S_law_is_word :=
  ⟨a, fd, P_law_is_word, fn0 (k := 0) (L := L_law_is_word) (ww := w_law_is_word) F sc_law_is_word rfl len_law_is_word (by
      intro cdv A outer s H E hr g hgL
      unfold w_law_is_word
      refine eb_cons ?_ ?_
      refine es_if ?_ ?_ ?_
      refine et_w ?_
      refine ew_or ?_ ?_
      refine et_not ?_
      refine et_val ?_
      refine ee_isi2 (by rfl) m_isinstance (by rfl) m_str ?_
      exact ee_var (pv 0)
      refine ew_or ?_ ?_
      refine et_lt ?_ ?_
      refine ee_len (by rfl) m_len ?_
      refine ea_cons ?_ ?_
      exact ee_var (pv 0)
      exact ea_nil
      exact ee_int
      refine ew_or1 ?_
      refine et_gt ?_ ?_
      refine ee_len (by rfl) m_len ?_
      refine ea_cons ?_ ?_
      exact ee_var (pv 0)
      exact ea_nil
      exact ee_int
      refine eb_one ?_
      refine es_ret ?_
      exact ee_bl
      exact eb_nil
      refine eb_one ?_
      refine es_ret ?_
      refine ee_all rfl (by rfl) m_all ?_
      refine ea_cons ?_ ?_
      refine ee_lc (own := [("_law_sign", 2)]) rfl sc_law_is_word.nd (lf_ hgL rfl) ?_ (blkOk_by (own := [("_law_sign", 2)]) (N := N_law_is_word) (sc := defScope st_law_is_word) (by decide +kernel)) (fun _ _ _ _ _ => eg_name (i := 2) sc_law_is_word.nd rfl (Or.inl rfl)) (fun _ _ _ _ _ => ets_nil) (fun _ _ _ _ _ => ee_in (units65 hr) (ee_var (pv 2)) ee_str)
      refine ei_seq ?_
      exact ee_var (pv 0)
      exact ea_nil) ok_law_is_word, gl, F.kp, F.bindsN (fun _ _ _ _ _ _ us hl => match us, hl with | [_], _ => rfl)⟩
theorem has_law_are_jumps {a : Addr} {fd : FuncData} (F : FunD K "_law_are_jumps" "_law_are_jumps" (defArgs st_law_are_jumps) (defBody st_law_are_jumps) (defScope st_law_are_jumps) [] [] a fd) (gl : mg "_law_are_jumps" = some (.ref a)) (m_isinstance : mg "isinstance" = none) (m_tuple : mg "tuple" = none) (m_len : mg "len" = none) (h_law_is_row : Has P w K mg base 1 "_law_is_row" S_law_is_row) (h_law_is_whole : Has P w K mg base 1 "_law_is_whole" S_law_is_whole) : Has P w K mg base 2 "_law_are_jumps" S_law_are_jumps :=
  ⟨a, fd, P_law_are_jumps, fn0 (k := 1) (L := L_law_are_jumps) (ww := w_law_are_jumps) F sc_law_are_jumps rfl len_law_are_jumps (by
      intro cdv A outer s H E hr g hgL
      unfold w_law_are_jumps
      refine eb_cons ?_ ?_
      refine es_if ?_ ?_ ?_
      refine et_w ?_
      refine ew_or ?_ ?_
      refine et_not ?_
      refine et_val ?_
      refine ee_isi2 (by rfl) m_isinstance (by rfl) m_tuple ?_
      exact ee_var (pv 0)
      refine ew_or1 ?_
      refine et_gt ?_ ?_
      refine ee_len (by rfl) m_len ?_
      refine ea_cons ?_ ?_
      exact ee_var (pv 0)
      exact ea_nil
      exact ee_int
      refine eb_one ?_
      refine es_ret ?_
      exact ee_bl
      exact eb_nil
      refine eb_cons ?_ ?_
      refine es_setF (i := 1) sc_law_are_jumps.nd rfl (Or.inl rfl) ?_
      exact ee_int
      refine eb_cons ?_ ?_
      refine es_for PassesOwn.never rfl ?_ (eg_name (i := 2) sc_law_are_jumps.nd rfl (Or.inl rfl)) ?_
      refine ei_seq ?_
      exact ee_var (pv 0)
      refine eb_cons ?_ ?_
      refine es_if ?_ ?_ ?_
      refine et_w ?_
      refine ew_or ?_ ?_
      refine et_not ?_
      refine et_val ?_
      refine ee_has h_law_is_row (hr.mono (by decide)) (by rfl) ?_
      refine ea_cons ?_ ?_
      exact ee_var (pv 2)
      refine ea_cons ?_ ?_
      exact ee_int
      exact ea_nil
      refine ew_or1 ?_
      refine et_not ?_
      refine et_val ?_
      refine ee_has h_law_is_whole (hr.mono (by decide)) (by rfl) ?_
      refine ea_cons ?_ ?_
      refine ee_ix ?_ ?_
      exact ee_var (pv 2)
      exact ee_int
      refine ea_cons ?_ ?_
      refine ee_add ?_ ?_
      exact ee_var (pv 1)
      exact ee_int
      refine ea_cons ?_ ?_
      refine ee_sub ?_ ?_
      refine ee_pow ?_ ?_
      exact ee_int
      exact ee_int
      exact ee_int
      exact ea_nil
      refine eb_one ?_
      refine es_ret ?_
      exact ee_bl
      exact eb_nil
      refine eb_cons ?_ ?_
      refine es_if ?_ ?_ ?_
      refine et_w ?_
      refine ew_or ?_ ?_
      refine et_not ?_
      refine et_val ?_
      refine ee_has h_law_is_whole (hr.mono (by decide)) (by rfl) ?_
      refine ea_cons ?_ ?_
      refine ee_ix ?_ ?_
      exact ee_var (pv 2)
      exact ee_int
      refine ea_cons ?_ ?_
      refine ee_neg ?_
      exact ee_int
      refine ea_cons ?_ ?_
      exact ee_int
      exact ea_nil
      refine ew_or1 ?_
      refine et_eq hr.units ?_ ?_
      refine ee_ix ?_ ?_
      exact ee_var (pv 2)
      exact ee_int
      exact ee_int
      refine eb_one ?_
      refine es_ret ?_
      exact ee_bl
      exact eb_nil
      refine eb_one ?_
      refine es_setF (i := 1) sc_law_are_jumps.nd rfl (Or.inl rfl) ?_
      refine ee_ix ?_ ?_
      exact ee_var (pv 2)
      exact ee_int
      refine eb_one ?_
      refine es_ret ?_
      exact ee_bl) ok_law_are_jumps, gl, F.kp, F.bindsN (fun _ _ _ _ _ _ us hl => match us, hl with | [_], _ => rfl)⟩
theorem has_law_is_layer {a : Addr} {fd : FuncData} (F : FunD K "_law_is_layer" "_law_is_layer" (defArgs st_law_is_layer) (defBody st_law_is_layer) (defScope st_law_is_layer) [] [] a fd) (gl : mg "_law_is_layer" = some (.ref a)) (h_law_is_row : Has P w K mg base 1 "_law_is_row" S_law_is_row) (h_law_is_word : Has P w K mg base 1 "_law_is_word" S_law_is_word) (h_law_is_whole : Has P w K mg base 1 "_law_is_whole" S_law_is_whole) (m_isinstance : mg "isinstance" = none) (m_tuple : mg "tuple" = none) (m_len : mg "len" = none) : Has P w K mg base 2 "_law_is_layer" S_law_is_layer :=
  ⟨a, fd, P_law_is_layer, fn0 (k := 1) (L := L_law_is_layer) (ww := w_law_is_layer) F sc_law_is_layer rfl len_law_is_layer (by
      intro cdv A outer s H E hr g hgL
      unfold w_law_is_layer
      refine eb_cons ?_ ?_
      refine es_if ?_ ?_ ?_
      refine et_w ?_
      refine ew_or ?_ ?_
      refine et_not ?_
      refine et_val ?_
      refine ee_has h_law_is_row (hr.mono (by decide)) (by rfl) ?_
      refine ea_cons ?_ ?_
      exact ee_var (pv 0)
      refine ea_cons ?_ ?_
      exact ee_int
      exact ea_nil
      refine ew_or ?_ ?_
      refine et_not ?_
      refine et_val ?_
      refine ee_has h_law_is_word (hr.mono (by decide)) (by rfl) ?_
      refine ea_cons ?_ ?_
      refine ee_ix ?_ ?_
      exact ee_var (pv 0)
      exact ee_int
      exact ea_nil
      refine ew_or1 ?_
      refine et_not ?_
      refine et_val ?_
      refine ee_has h_law_is_whole (hr.mono (by decide)) (by rfl) ?_
      refine ea_cons ?_ ?_
      refine ee_ix ?_ ?_
      exact ee_var (pv 0)
      exact ee_int
      refine ea_cons ?_ ?_
      exact ee_int
      refine ea_cons ?_ ?_
      exact ee_int
      exact ea_nil
      refine eb_one ?_
      refine es_ret ?_
      exact ee_bl
      exact eb_nil
      refine eb_cons ?_ ?_
      refine es_if ?_ ?_ ?_
      refine et_w ?_
      refine ew_or ?_ ?_
      refine et_not ?_
      refine et_val ?_
      refine ee_has h_law_is_whole (hr.mono (by decide)) (by rfl) ?_
      refine ea_cons ?_ ?_
      refine ee_ix ?_ ?_
      exact ee_var (pv 0)
      exact ee_int
      refine ea_cons ?_ ?_
      exact ee_int
      refine ea_cons ?_ ?_
      refine ee_sub ?_ ?_
      refine ee_mul ?_ ?_
      exact ee_int
      refine ee_ix ?_ ?_
      exact ee_var (pv 0)
      exact ee_int
      exact ee_int
      exact ea_nil
      refine ew_or ?_ ?_
      refine et_not ?_
      refine et_val ?_
      refine ee_isi2 (by rfl) m_isinstance (by rfl) m_tuple ?_
      refine ee_ix ?_ ?_
      exact ee_var (pv 0)
      exact ee_int
      refine ew_or1 ?_
      refine et_gt ?_ ?_
      refine ee_len (by rfl) m_len ?_
      refine ea_cons ?_ ?_
      refine ee_ix ?_ ?_
      exact ee_var (pv 0)
      exact ee_int
      exact ea_nil
      exact ee_int
      refine eb_one ?_
      refine es_ret ?_
      exact ee_bl
      exact eb_nil
      refine eb_cons ?_ ?_
      refine es_setF (i := 1) sc_law_is_layer.nd rfl (Or.inl rfl) ?_
      exact ee_int
      refine eb_cons ?_ ?_
      refine es_for PassesOwn.never rfl ?_ (eg_name (i := 2) sc_law_is_layer.nd rfl (Or.inl rfl)) ?_
      refine ei_seq ?_
      refine ee_ix ?_ ?_
      exact ee_var (pv 0)
      exact ee_int
      refine eb_cons ?_ ?_
      refine es_if ?_ ?_ ?_
      refine et_w ?_
      refine ew_or ?_ ?_
      refine et_not ?_
      refine et_val ?_
      refine ee_has h_law_is_row (hr.mono (by decide)) (by rfl) ?_
      refine ea_cons ?_ ?_
      exact ee_var (pv 2)
      refine ea_cons ?_ ?_
      exact ee_int
      exact ea_nil
      refine ew_or1 ?_
      refine et_not ?_
      refine et_val ?_
      refine ee_has h_law_is_whole (hr.mono (by decide)) (by rfl) ?_
      refine ea_cons ?_ ?_
      refine ee_ix ?_ ?_
      exact ee_var (pv 2)
      exact ee_int
      refine ea_cons ?_ ?_
      exact ee_var (pv 1)
      refine ea_cons ?_ ?_
      refine ee_mul ?_ ?_
      exact ee_int
      refine ee_ix ?_ ?_
      exact ee_var (pv 0)
      exact ee_int
      exact ea_nil
      refine eb_one ?_
      refine es_ret ?_
      exact ee_bl
      exact eb_nil
      refine eb_cons ?_ ?_
      refine es_if ?_ ?_ ?_
      refine et_w ?_
      refine ew_or ?_ ?_
      refine et_not ?_
      refine et_val ?_
      refine ee_has h_law_is_whole (hr.mono (by decide)) (by rfl) ?_
      refine ea_cons ?_ ?_
      refine ee_ix ?_ ?_
      exact ee_var (pv 2)
      exact ee_int
      refine ea_cons ?_ ?_
      refine ee_add ?_ ?_
      refine ee_ix ?_ ?_
      exact ee_var (pv 2)
      exact ee_int
      exact ee_int
      refine ea_cons ?_ ?_
      refine ee_mul ?_ ?_
      exact ee_int
      refine ee_ix ?_ ?_
      exact ee_var (pv 0)
      exact ee_int
      exact ea_nil
      refine ew_or1 ?_
      refine et_not ?_
      refine et_val ?_
      refine ee_has h_law_is_word (hr.mono (by decide)) (by rfl) ?_
      refine ea_cons ?_ ?_
      refine ee_ix ?_ ?_
      exact ee_var (pv 2)
      exact ee_int
      exact ea_nil
      refine eb_one ?_
      refine es_ret ?_
      exact ee_bl
      exact eb_nil
      refine eb_one ?_
      refine es_setF (i := 1) sc_law_is_layer.nd rfl (Or.inl rfl) ?_
      refine ee_ix ?_ ?_
      exact ee_var (pv 2)
      exact ee_int
      refine eb_one ?_
      refine es_ret ?_
      exact ee_bl) ok_law_is_layer, gl, F.kp, F.bindsN (fun _ _ _ _ _ _ us hl => match us, hl with | [_], _ => rfl)⟩
theorem has_law_is_change {a : Addr} {fd : FuncData} (F : FunD K "_law_is_change" "_law_is_change" (defArgs st_law_is_change) (defBody st_law_is_change) (defScope st_law_is_change) [] [] a fd) (gl : mg "_law_is_change" = some (.ref a)) (m_isinstance : mg "isinstance" = none) (m_tuple : mg "tuple" = none) (m_len : mg "len" = none) (m_str : mg "str" = none) (m_int : mg "int" = none) (m_all : mg "all" = none) (h_law_is_word : Has P w K mg base 1 "_law_is_word" S_law_is_word) (h_law_is_whole : Has P w K mg base 1 "_law_is_whole" S_law_is_whole) : Has P w K mg base 2 "_law_is_change" S_law_is_change :=
  ⟨a, fd, P_law_is_change, fn0 (k := 1) (L := L_law_is_change) (ww := w_law_is_change) F sc_law_is_change rfl len_law_is_change (by
      intro cdv A outer s H E hr g hgL
      unfold w_law_is_change
      refine eb_cons ?_ ?_
      refine es_if ?_ ?_ ?_
      refine et_w ?_
      refine ew_or ?_ ?_
      refine et_not ?_
      refine et_val ?_
      refine ee_isi2 (by rfl) m_isinstance (by rfl) m_tuple ?_
      exact ee_var (pv 0)
      refine ew_or ?_ ?_
      refine et_notin (units65 hr) ?_ ?_
      refine ee_len (by rfl) m_len ?_
      refine ea_cons ?_ ?_
      exact ee_var (pv 0)
      exact ea_nil
      refine ee_tup ?_
      refine ea_cons ?_ ?_
      exact ee_int
      refine ea_cons ?_ ?_
      exact ee_int
      exact ea_nil
      refine ew_or1 ?_
      refine et_not ?_
      refine et_val ?_
      refine ee_isi2 (by rfl) m_isinstance (by rfl) m_str ?_
      refine ee_ix ?_ ?_
      exact ee_var (pv 0)
      exact ee_int
      refine eb_one ?_
      refine es_ret ?_
      exact ee_bl
      exact eb_nil
      refine eb_cons ?_ ?_
      refine es_if ?_ ?_ ?_
      refine et_w ?_
      refine ew_or ?_ ?_
      refine et_notin (units65 hr) ?_ ?_
      refine ee_ix ?_ ?_
      exact ee_var (pv 0)
      exact ee_int
      refine ee_tup ?_
      refine ea_cons ?_ ?_
      exact ee_str
      refine ea_cons ?_ ?_
      exact ee_str
      refine ea_cons ?_ ?_
      exact ee_str
      exact ea_nil
      refine ew_or1 ?_
      refine et_ne hr.units ?_ ?_
      refine ee_len (by rfl) m_len ?_
      refine ea_cons ?_ ?_
      exact ee_var (pv 0)
      exact ea_nil
      refine ee_add ?_ ?_
      exact ee_int
      refine ee_int1 (by rfl) m_int ?_
      refine ea_cons ?_ ?_
      refine ee_eq hr.units ?_ ?_
      refine ee_ix ?_ ?_
      exact ee_var (pv 0)
      exact ee_int
      exact ee_str
      exact ea_nil
      refine eb_one ?_
      refine es_ret ?_
      exact ee_bl
      exact eb_nil
      refine eb_cons ?_ ?_
      refine es_if ?_ ?_ ?_
      refine et_w ?_
      refine ew_or ?_ ?_
      refine et_not ?_
      refine et_val ?_
      refine ee_all rfl (by rfl) m_all ?_
      refine ea_cons ?_ ?_
      refine ee_lc (own := [("_law_word", 2)]) rfl sc_law_is_change.nd (lf_ hgL rfl) ?_ (blkOk_by (own := [("_law_word", 2)]) (N := N_law_is_change) (sc := defScope st_law_is_change) (by decide +kernel)) (fun _ _ _ _ _ => eg_name (i := 2) sc_law_is_change.nd rfl (Or.inl rfl)) (fun _ _ _ _ _ => ets_nil) (fun _ _ _ _ _ => ee_has h_law_is_word (hr.mono (by decide)) (by rfl) (ea_cons (ee_var (pv 2)) ea_nil))
      refine ei_seq ?_
      refine ee_sl ?_ ?_ ?_
      exact ee_var (pv 0)
      refine eo_some ?_
      exact ee_int
      refine eo_some ?_
      refine ee_neg ?_
      exact ee_int
      exact ea_nil
      refine ew_or1 ?_
      refine et_w ?_
      refine ew_and ?_ ?_
      refine et_eq hr.units ?_ ?_
      refine ee_ix ?_ ?_
      exact ee_var (pv 0)
      exact ee_int
      exact ee_str
      refine ew_and1 ?_
      refine et_eq hr.units ?_ ?_
      refine ee_ix ?_ ?_
      exact ee_var (pv 0)
      exact ee_int
      refine ee_ix ?_ ?_
      exact ee_var (pv 0)
      exact ee_int
      refine eb_one ?_
      refine es_ret ?_
      exact ee_bl
      exact eb_nil
      refine eb_cons ?_ ?_
      refine es_if ?_ ?_ ?_
      refine et_not ?_
      refine et_val ?_
      refine ee_has h_law_is_whole (hr.mono (by decide)) (by rfl) ?_
      refine ea_cons ?_ ?_
      refine ee_ix ?_ ?_
      exact ee_var (pv 0)
      refine ee_neg ?_
      exact ee_int
      refine ea_cons ?_ ?_
      exact ee_int
      refine ea_cons ?_ ?_
      refine ee_sub ?_ ?_
      refine ee_pow ?_ ?_
      exact ee_int
      exact ee_int
      exact ee_int
      exact ea_nil
      refine eb_one ?_
      refine es_ret ?_
      exact ee_bl
      exact eb_nil
      refine eb_one ?_
      refine es_ret ?_
      refine ee_or ?_ ?_
      refine ee_isN ?_
      refine ee_ix ?_ ?_
      exact ee_var (pv 0)
      refine ee_neg ?_
      exact ee_int
      refine ee_one ?_
      refine ee_has h_law_is_whole (hr.mono (by decide)) (by rfl) ?_
      refine ea_cons ?_ ?_
      refine ee_ix ?_ ?_
      exact ee_var (pv 0)
      refine ee_neg ?_
      exact ee_int
      refine ea_cons ?_ ?_
      refine ee_add ?_ ?_
      refine ee_ix ?_ ?_
      exact ee_var (pv 0)
      refine ee_neg ?_
      exact ee_int
      exact ee_int
      refine ea_cons ?_ ?_
      refine ee_sub ?_ ?_
      refine ee_pow ?_ ?_
      exact ee_int
      exact ee_int
      exact ee_int
      exact ea_nil) ok_law_is_change, gl, F.kp, F.bindsN (fun _ _ _ _ _ _ us hl => match us, hl with | [_], _ => rfl)⟩
theorem has_law_is_book {a : Addr} {fd : FuncData} (F : FunD K "_law_is_book" "_law_is_book" (defArgs st_law_is_book) (defBody st_law_is_book) (defScope st_law_is_book) [] [] a fd) (gl : mg "_law_is_book" = some (.ref a)) (h_law_is_row : Has P w K mg base 1 "_law_is_row" S_law_is_row) (h_law_are_jumps : Has P w K mg base 2 "_law_are_jumps" S_law_are_jumps) (m_isinstance : mg "isinstance" = none) (m_tuple : mg "tuple" = none) (m_len : mg "len" = none) (m_all : mg "all" = none) (h_law_is_layer : Has P w K mg base 2 "_law_is_layer" S_law_is_layer) (m_set : mg "set" = none) (h_law_is_change : Has P w K mg base 2 "_law_is_change" S_law_is_change) : Has P w K mg base 3 "_law_is_book" S_law_is_book :=
  ⟨a, fd, P_law_is_book, fn0 (k := 2) (L := L_law_is_book) (ww := w_law_is_book) F sc_law_is_book rfl len_law_is_book (by
      intro cdv A outer s H E hr g hgL
      unfold w_law_is_book
      refine eb_cons ?_ ?_
      refine es_if ?_ ?_ ?_
      refine et_w ?_
      refine ew_or ?_ ?_
      refine et_not ?_
      refine et_val ?_
      refine ee_has h_law_is_row (hr.mono (by decide)) (by rfl) ?_
      refine ea_cons ?_ ?_
      exact ee_var (pv 0)
      refine ea_cons ?_ ?_
      exact ee_int
      exact ea_nil
      refine ew_or1 ?_
      refine et_not ?_
      refine et_val ?_
      refine ee_has h_law_are_jumps (hr.mono (by decide)) (by rfl) ?_
      refine ea_cons ?_ ?_
      refine ee_ix ?_ ?_
      exact ee_var (pv 0)
      exact ee_int
      exact ea_nil
      refine eb_one ?_
      refine es_ret ?_
      exact ee_bl
      exact eb_nil
      refine eb_cons ?_ ?_
      refine es_if ?_ ?_ ?_
      refine et_w ?_
      refine ew_or ?_ ?_
      refine et_not ?_
      refine et_val ?_
      refine ee_isi2 (by rfl) m_isinstance (by rfl) m_tuple ?_
      refine ee_ix ?_ ?_
      exact ee_var (pv 0)
      exact ee_int
      refine ew_or ?_ ?_
      refine et_gt ?_ ?_
      refine ee_len (by rfl) m_len ?_
      refine ea_cons ?_ ?_
      refine ee_ix ?_ ?_
      exact ee_var (pv 0)
      exact ee_int
      exact ea_nil
      exact ee_int
      refine ew_or1 ?_
      refine et_not ?_
      refine et_val ?_
      refine ee_all rfl (by rfl) m_all ?_
      refine ea_cons ?_ ?_
      refine ee_lc (own := [("_law_one", 3)]) rfl sc_law_is_book.nd (lf_ hgL rfl) ?_ (blkOk_by (own := [("_law_one", 3)]) (N := N_law_is_book) (sc := defScope st_law_is_book) (by decide +kernel)) (fun _ _ _ _ _ => eg_name (i := 3) sc_law_is_book.nd rfl (Or.inl rfl)) (fun _ _ _ _ _ => ets_nil) (fun _ _ _ _ _ => ee_has h_law_is_layer (hr.mono (by decide)) (by rfl) (ea_cons (ee_var (pv 3)) ea_nil))
      refine ei_seq ?_
      refine ee_ix ?_ ?_
      exact ee_var (pv 0)
      exact ee_int
      exact ea_nil
      refine eb_one ?_
      refine es_ret ?_
      exact ee_bl
      exact eb_nil
      refine eb_cons ?_ ?_
      refine es_setLcF (i := 1) (own := [("_law_one", 3)]) rfl sc_law_is_book.nd rfl rfl (sw_true rfl rfl rfl (by decide +kernel)) (lf_ hgL rfl) ?_ (blkOk_by (own := [("_law_one", 3)]) (N := N_law_is_book) (sc := defScope st_law_is_book) (by decide +kernel)) (fun _ _ _ _ _ => eg_name (i := 3) sc_law_is_book.nd rfl (Or.inl rfl)) (fun _ _ _ _ _ => ets_nil) (fun _ _ _ _ _ => ee_ix (ee_var (pv 3)) ee_int)
      refine ei_seq ?_
      refine ee_ix ?_ ?_
      exact ee_var (pv 0)
      exact ee_int
      refine eb_cons ?_ ?_
      refine es_if ?_ ?_ ?_
      refine et_w ?_
      refine ew_or ?_ ?_
      refine et_ne hr.units ?_ ?_
      refine ee_lenSet rfl (by rfl) m_len (by rfl) m_set ?_
      exact ee_var (pv 1)
      refine ee_len (by rfl) m_len ?_
      refine ea_cons ?_ ?_
      exact ee_var (pv 1)
      exact ea_nil
      refine ew_or ?_ ?_
      refine et_not ?_
      refine et_val ?_
      refine ee_isi2 (by rfl) m_isinstance (by rfl) m_tuple ?_
      refine ee_ix ?_ ?_
      exact ee_var (pv 0)
      exact ee_int
      refine ew_or1 ?_
      refine et_gt ?_ ?_
      refine ee_len (by rfl) m_len ?_
      refine ea_cons ?_ ?_
      refine ee_ix ?_ ?_
      exact ee_var (pv 0)
      exact ee_int
      exact ea_nil
      exact ee_int
      refine eb_one ?_
      refine es_ret ?_
      exact ee_bl
      exact eb_nil
      refine eb_one ?_
      refine es_ret ?_
      refine ee_all rfl (by rfl) m_all ?_
      refine ea_cons ?_ ?_
      refine ee_lc (own := [("_law_one", 3)]) rfl sc_law_is_book.nd (lf_ hgL rfl) ?_ (blkOk_by (own := [("_law_one", 3)]) (N := N_law_is_book) (sc := defScope st_law_is_book) (by decide +kernel)) (fun _ _ _ _ _ => eg_name (i := 3) sc_law_is_book.nd rfl (Or.inl rfl)) (fun _ _ _ _ _ => ets_nil) (fun _ _ _ _ _ => ee_has h_law_is_change (hr.mono (by decide)) (by rfl) (ea_cons (ee_var (pv 3)) ea_nil))
      refine ei_seq ?_
      refine ee_ix ?_ ?_
      exact ee_var (pv 0)
      exact ee_int
      exact ea_nil) ok_law_is_book, gl, F.kp, F.bindsN (fun _ _ _ _ _ _ us hl => match us, hl with | [_], _ => rfl)⟩
theorem has_law_same {a : Addr} {fd : FuncData} (F : FunD K "_law_same" "_law_same" (defArgs st_law_same) (defBody st_law_same) (defScope st_law_same) [] [] a fd) (gl : mg "_law_same" = some (.ref a)) (m_isinstance : mg "isinstance" = none) (m_bool : mg "bool" = none) : Has P w K mg base 1 "_law_same" S_law_same :=
  ⟨a, fd, P_law_same, fn0 (k := 0) (L := L_law_same) (ww := w_law_same) F sc_law_same rfl len_law_same (by
      intro cdv A outer s H E hr g hgL
      unfold w_law_same
      refine eb_one ?_
      refine es_ret ?_
      refine ee_and ?_ ?_
      refine ee_isi2 (by rfl) m_isinstance (by rfl) m_bool ?_
      exact ee_var (pv 0)
      refine ee_one ?_
      refine ee_eq hr.units ?_ ?_
      exact ee_var (pv 0)
      exact ee_var (pv 1)) ok_law_same, gl, F.kp, F.bindsN (fun _ _ _ _ _ _ us hl => match us, hl with | [_, _], _ => rfl)⟩
theorem fn_law {a : Addr} {fd : FuncData} (F : FunD K "law" "law" (defArgs st_law) (defBody st_law) (defScope st_law) [] [] a fd) (m_range : mg "range" = none) (m_max : mg "max" = none) (m_min : mg "min" = none) (m_len : mg "len" = none) (h_law_hand : Has P w K mg base 1 "_law_hand" CFH.S_law_hand) (h_law_good : Has P w K mg base 5 "_law_good" S_law_good) (h_law_spoilt : Has P w K mg base 9 "_law_spoilt" (S_law_spoilt 5)) (h_law_same : Has P w K mg base 1 "_law_same" S_law_same) (h_law_is_book : Has P w K mg base 3 "_law_is_book" S_law_is_book) (h_is_book : Has P w K mg base 5 "is_book" S_is_book) (m_isinstance : mg "isinstance" = none) (m_tuple : mg "tuple" = none) (h_law_are_jumps : Has P w K mg base 2 "_law_are_jumps" S_law_are_jumps) (h_are_jumps : Has P w K mg base 4 "are_jumps" CFIj.S_are_jumps) (m_list : mg "list" = none) (m_all : mg "all" = none) (h_law_is_layer : Has P w K mg base 2 "_law_is_layer" S_law_is_layer) (h_is_layer : Has P w K mg base 4 "is_layer" CFIs.S_is_layer) : FnOk P w K mg base (L2.CX P w) 10 a fd P_law (spOf K S_law) :=
  fn0 (k := 9) (L := L_law) (ww := w_law) F sc_law rfl len_law (by
      intro cdv A outer s H E hr g hgL
      unfold w_law
      refine eb_cons ?_ ?_
      refine es_for PassesOwn.never rfl ?_ (eg_name (i := 1) sc_law.nd rfl (Or.inl rfl)) ?_
      refine ei_range1 (by rfl) m_range ?_
      refine ea_cons ?_ ?_
      refine ee_max2 rfl (by rfl) m_max ?_
      refine ea_cons ?_ ?_
      exact ee_int
      refine ea_cons ?_ ?_
      refine ee_min2 rfl (by rfl) m_min ?_
      refine ea_cons ?_ ?_
      exact ee_int
      refine ea_cons ?_ ?_
      refine ee_len (by rfl) m_len ?_
      refine ea_cons ?_ ?_
      exact ee_var (pv 0)
      exact ea_nil
      exact ea_nil
      exact ea_nil
      exact ea_nil
      refine eb_cons ?_ ?_
      refine es_set (i := 2) sc_law.nd rfl (Or.inl rfl) ?_
      refine ee_has h_law_hand (hr.mono (by decide)) (by rfl) ?_
      refine ea_cons ?_ ?_
      exact ee_var (pv 0)
      refine ea_cons ?_ ?_
      exact ee_var (pv 1)
      exact ea_nil
      refine eb_cons ?_ ?_
      refine es_setF (i := 3) sc_law.nd rfl (Or.inl rfl) ?_
      refine ee_has h_law_good (hr.mono (by decide)) (by rfl) ?_
      refine ea_cons ?_ ?_
      exact ee_pk (i := 2) (lt_ hgL rfl) (pv 2)
      exact ea_nil
      refine eb_one ?_
      refine es_forN PassesOwn.never rfl ?_ (eg_name (i := 4) sc_law.nd rfl (Or.inl rfl)) ?_
      refine ei_lst ?_
      refine ee_lst ?_
      refine ea_cons ?_ ?_
      exact ee_var (pv 3)
      refine ea_cons ?_ ?_
      refine ee_has h_law_spoilt (hr.mono (by decide)) (by rfl) ?_
      refine ea_cons ?_ ?_
      exact ee_pk (i := 2) (lt_ hgL rfl) (pv 2)
      refine ea_cons ?_ ?_
      exact ee_var (pv 3)
      refine ea_cons ?_ ?_
      exact ee_int
      exact ea_nil
      exact ea_nil
      refine eb_cons ?_ ?_
      refine es_if ?_ ?_ ?_
      refine et_not ?_
      refine et_val ?_
      refine ee_has h_law_same (hr.mono (by decide)) (by rfl) ?_
      refine ea_cons ?_ ?_
      refine ee_has h_is_book (hr.mono (by decide)) (by rfl) ?_
      refine ea_cons ?_ ?_
      exact ee_var (pv 4)
      exact ea_nil
      refine ea_cons ?_ ?_
      refine ee_has h_law_is_book (hr.mono (by decide)) (by rfl) ?_
      refine ea_cons ?_ ?_
      exact ee_var (pv 4)
      exact ea_nil
      exact ea_nil
      refine eb_one ?_
      refine es_ret ?_
      exact ee_bl
      exact eb_nil
      refine eb_one ?_
      refine es_if ?_ ?_ ?_
      refine et_w ?_
      refine ew_and ?_ ?_
      refine et_val ?_
      refine ee_isi2 (by rfl) m_isinstance (by rfl) m_tuple ?_
      exact ee_var (pv 4)
      refine ew_and1 ?_
      refine et_gt ?_ ?_
      refine ee_len (by rfl) m_len ?_
      refine ea_cons ?_ ?_
      exact ee_var (pv 4)
      exact ea_nil
      exact ee_int
      refine eb_cons ?_ ?_
      refine es_if ?_ ?_ ?_
      refine et_not ?_
      refine et_val ?_
      refine ee_has h_law_same (hr.mono (by decide)) (by rfl) ?_
      refine ea_cons ?_ ?_
      refine ee_has h_are_jumps (hr.mono (by decide)) (by rfl) ?_
      refine ea_cons ?_ ?_
      refine ee_ix ?_ ?_
      exact ee_var (pv 4)
      exact ee_int
      exact ea_nil
      refine ea_cons ?_ ?_
      refine ee_has h_law_are_jumps (hr.mono (by decide)) (by rfl) ?_
      refine ea_cons ?_ ?_
      refine ee_ix ?_ ?_
      exact ee_var (pv 4)
      exact ee_int
      exact ea_nil
      exact ea_nil
      refine eb_one ?_
      refine es_ret ?_
      exact ee_bl
      exact eb_nil
      refine eb_cons ?_ ?_
      refine es_setF (i := 5) sc_law.nd rfl (Or.inl rfl) ?_
      refine ee_ite ?_ ?_ ?_
      refine et_val ?_
      refine ee_isi2 (by rfl) m_isinstance (by rfl) m_tuple ?_
      refine ee_ix ?_ ?_
      exact ee_var (pv 4)
      exact ee_int
      refine ee_sl ?_ ?_ ?_
      refine ee_list (by rfl) m_list ?_
      refine ea_cons ?_ ?_
      refine ee_ix ?_ ?_
      exact ee_var (pv 4)
      exact ee_int
      exact ea_nil
      exact eo_none
      refine eo_some ?_
      exact ee_int
      refine ee_lst ?_
      refine ea_cons ?_ ?_
      refine ee_ix ?_ ?_
      exact ee_var (pv 4)
      exact ee_int
      exact ea_nil
      refine eb_one ?_
      refine es_if ?_ ?_ ?_
      refine et_not ?_
      refine et_val ?_
      refine ee_all rfl (by rfl) m_all ?_
      refine ea_cons ?_ ?_
      refine ee_lc (own := [("_law_one", 7)]) rfl sc_law.nd (lf_ hgL rfl) ?_ (blkOk_by (own := [("_law_one", 7)]) (N := N_law) (sc := defScope st_law) (by decide +kernel)) (fun _ _ _ _ _ => eg_name (i := 7) sc_law.nd rfl (Or.inl rfl)) (fun _ _ _ _ _ => ets_nil) (fun _ _ _ _ _ => ee_has h_law_same (hr.mono (by decide)) (by rfl) (ea_cons (ee_has h_is_layer (hr.mono (by decide)) (by rfl) (ea_cons (ee_var (pv 7)) ea_nil)) (ea_cons (ee_has h_law_is_layer (hr.mono (by decide)) (by rfl) (ea_cons (ee_var (pv 7)) ea_nil)) ea_nil)))
      refine ei_seq ?_
      exact ee_var (pv 5)
      exact ea_nil
      refine eb_one ?_
      refine es_ret ?_
      exact ee_bl
      exact eb_nil
      exact eb_nil
      refine eb_one ?_
      refine es_ret ?_
      exact ee_bl) ok_law
end
theorem facts {P : Program} {w : World} {K : PySem.W.Frag} {h : Heap} {mg : Str → Option Value} {f : Addr} (X : K.In h) (G : h.Ns mainGlobals mg) (hfa : mg ("law" : Str) = some (.ref f)) (c : He.SaysD fa fn K) :
    ∃ fd : FuncData, (∀ (s : Shared) (v : Value), BindsTo s fd ⟨[v], []⟩ [("_law_script", v)]) ∧ ∀ base : Heap, K.In base → base.Ns mainGlobals mg → FnOk P w K mg base (L2.CX P w) 10 f fd ["_law_script"] (spOf K S_law) := by
  obtain ⟨fd_is_whole, F_is_whole⟩ := c.def_ 0 (d := dd_is_whole) rfl
  obtain ⟨fd_is_moment, F_is_moment⟩ := c.def_ 1 (d := dd_is_moment) rfl
  obtain ⟨fd_is_word, F_is_word⟩ := c.def_ 2 (d := dd_is_word) rfl
  obtain ⟨fd_is_rising, F_is_rising⟩ := c.def_ 3 (d := dd_is_rising) rfl
  obtain ⟨fd_is_span, F_is_span⟩ := c.def_ 4 (d := dd_is_span) rfl
  obtain ⟨fd_is_change, F_is_change⟩ := c.def_ 5 (d := dd_is_change) rfl
  obtain ⟨fd_is_jump, F_is_jump⟩ := c.def_ 6 (d := dd_is_jump) rfl
  obtain ⟨fd_are_jumps, F_are_jumps⟩ := c.def_ 7 (d := dd_are_jumps) rfl
  obtain ⟨fd_is_turn, F_is_turn⟩ := c.def_ 8 (d := dd_is_turn) rfl
  obtain ⟨fd_are_turns, F_are_turns⟩ := c.def_ 9 (d := dd_are_turns) rfl
  obtain ⟨fd_is_layer, F_is_layer⟩ := c.def_ 10 (d := dd_is_layer) rfl
  obtain ⟨fd_is_book, F_is_book⟩ := c.def_ 11 (d := dd_is_book) rfl
  obtain ⟨fd_law_hand, F_law_hand⟩ := c.def_ 12 (d := dd_law_hand) rfl
  obtain ⟨fd_law_take, F_law_take⟩ := c.def_ 13 (d := dd_law_take) rfl
  obtain ⟨fd_law_pick, F_law_pick⟩ := c.def_ 14 (d := dd_law_pick) rfl
  obtain ⟨fd_law_great, F_law_great⟩ := c.def_ 15 (d := dd_law_great) rfl
  obtain ⟨fd_law_moment, F_law_moment⟩ := c.def_ 16 (d := dd_law_moment) rfl
  obtain ⟨fd_law_words, F_law_words⟩ := c.def_ 17 (d := dd_law_words) rfl
  obtain ⟨fd_law_jumps, F_law_jumps⟩ := c.def_ 18 (d := dd_law_jumps) rfl
  obtain ⟨fd_law_minute, F_law_minute⟩ := c.def_ 19 (d := dd_law_minute) rfl
  obtain ⟨fd_law_layer, F_law_layer⟩ := c.def_ 20 (d := dd_law_layer) rfl
  obtain ⟨fd_law_change, F_law_change⟩ := c.def_ 21 (d := dd_law_change) rfl
  obtain ⟨fd_law_jump_row, F_law_jump_row⟩ := c.def_ 22 (d := dd_law_jump_row) rfl
  obtain ⟨fd_law_good, F_law_good⟩ := c.def_ 23 (d := dd_law_good) rfl
  obtain ⟨fd_law_odd, F_law_odd⟩ := c.def_ 24 (d := dd_law_odd) rfl
  obtain ⟨fd_law_spoilt, F_law_spoilt⟩ := c.def_ 25 (d := dd_law_spoilt) rfl
  obtain ⟨fd_law_is_whole, F_law_is_whole⟩ := c.def_ 26 (d := dd_law_is_whole) rfl
  obtain ⟨fd_law_is_row, F_law_is_row⟩ := c.def_ 27 (d := dd_law_is_row) rfl
  obtain ⟨fd_law_is_word, F_law_is_word⟩ := c.def_ 28 (d := dd_law_is_word) rfl
  obtain ⟨fd_law_are_jumps, F_law_are_jumps⟩ := c.def_ 29 (d := dd_law_are_jumps) rfl
  obtain ⟨fd_law_is_layer, F_law_is_layer⟩ := c.def_ 30 (d := dd_law_is_layer) rfl
  obtain ⟨fd_law_is_change, F_law_is_change⟩ := c.def_ 31 (d := dd_law_is_change) rfl
  obtain ⟨fd_law_is_book, F_law_is_book⟩ := c.def_ 32 (d := dd_law_is_book) rfl
  obtain ⟨fd_law_same, F_law_same⟩ := c.def_ 33 (d := dd_law_same) rfl
  obtain ⟨fd_law, F_law⟩ := c.def_ 34 (d := dd_law) rfl
  have g_is_whole := He.glo_ok X G (c.fact 0 (f := .glo "is_whole") rfl)
  have g_is_moment := He.glo_ok X G (c.fact 1 (f := .glo "is_moment") rfl)
  have g_is_word := He.glo_ok X G (c.fact 2 (f := .glo "is_word") rfl)
  have g_is_rising := He.glo_ok X G (c.fact 3 (f := .glo "is_rising") rfl)
  have g_is_span := He.glo_ok X G (c.fact 4 (f := .glo "is_span") rfl)
  have g_is_change := He.glo_ok X G (c.fact 5 (f := .glo "is_change") rfl)
  have g_is_jump := He.glo_ok X G (c.fact 6 (f := .glo "is_jump") rfl)
  have g_are_jumps := He.glo_ok X G (c.fact 7 (f := .glo "are_jumps") rfl)
  have g_is_turn := He.glo_ok X G (c.fact 8 (f := .glo "is_turn") rfl)
  have g_are_turns := He.glo_ok X G (c.fact 9 (f := .glo "are_turns") rfl)
  have g_is_layer := He.glo_ok X G (c.fact 10 (f := .glo "is_layer") rfl)
  have g_is_book := He.glo_ok X G (c.fact 11 (f := .glo "is_book") rfl)
  have g_law_hand := He.glo_ok X G (c.fact 12 (f := .glo "_law_hand") rfl)
  have g_law_take := He.glo_ok X G (c.fact 13 (f := .glo "_law_take") rfl)
  have g_law_pick := He.glo_ok X G (c.fact 14 (f := .glo "_law_pick") rfl)
  have g_law_great := He.glo_ok X G (c.fact 15 (f := .glo "_law_great") rfl)
  have g_law_moment := He.glo_ok X G (c.fact 16 (f := .glo "_law_moment") rfl)
  have g_law_words := He.glo_ok X G (c.fact 17 (f := .glo "_law_words") rfl)
  have g_law_jumps := He.glo_ok X G (c.fact 18 (f := .glo "_law_jumps") rfl)
  have g_law_minute := He.glo_ok X G (c.fact 19 (f := .glo "_law_minute") rfl)
  have g_law_layer := He.glo_ok X G (c.fact 20 (f := .glo "_law_layer") rfl)
  have g_law_change := He.glo_ok X G (c.fact 21 (f := .glo "_law_change") rfl)
  have g_law_jump_row := He.glo_ok X G (c.fact 22 (f := .glo "_law_jump_row") rfl)
  have g_law_good := He.glo_ok X G (c.fact 23 (f := .glo "_law_good") rfl)
  have g_law_odd := He.glo_ok X G (c.fact 24 (f := .glo "_law_odd") rfl)
  have g_law_spoilt := He.glo_ok X G (c.fact 25 (f := .glo "_law_spoilt") rfl)
  have g_law_is_whole := He.glo_ok X G (c.fact 26 (f := .glo "_law_is_whole") rfl)
  have g_law_is_row := He.glo_ok X G (c.fact 27 (f := .glo "_law_is_row") rfl)
  have g_law_is_word := He.glo_ok X G (c.fact 28 (f := .glo "_law_is_word") rfl)
  have g_law_are_jumps := He.glo_ok X G (c.fact 29 (f := .glo "_law_are_jumps") rfl)
  have g_law_is_layer := He.glo_ok X G (c.fact 30 (f := .glo "_law_is_layer") rfl)
  have g_law_is_change := He.glo_ok X G (c.fact 31 (f := .glo "_law_is_change") rfl)
  have g_law_is_book := He.glo_ok X G (c.fact 32 (f := .glo "_law_is_book") rfl)
  have g_law_same := He.glo_ok X G (c.fact 33 (f := .glo "_law_same") rfl)
  have g_law := He.glo_ok X G (c.fact 34 (f := .glo "law") rfl)
  have m_isinstance := He.free_ok X G (c.fact 35 (f := .free "isinstance") rfl)
  have m_int := He.free_ok X G (c.fact 36 (f := .free "int") rfl)
  have m_bool := He.free_ok X G (c.fact 37 (f := .free "bool") rfl)
  have m_str := He.free_ok X G (c.fact 38 (f := .free "str") rfl)
  have m_len := He.free_ok X G (c.fact 39 (f := .free "len") rfl)
  have m_all := He.free_ok X G (c.fact 40 (f := .free "all") rfl)
  have m_range := He.free_ok X G (c.fact 41 (f := .free "range") rfl)
  have m_tuple := He.free_ok X G (c.fact 42 (f := .free "tuple") rfl)
  have m_abs := He.free_ok X G (c.fact 43 (f := .free "abs") rfl)
  have m_set := He.free_ok X G (c.fact 44 (f := .free "set") rfl)
  have m_sorted := He.free_ok X G (c.fact 45 (f := .free "sorted") rfl)
  have m_min := He.free_ok X G (c.fact 46 (f := .free "min") rfl)
  have m_list := He.free_ok X G (c.fact 47 (f := .free "list") rfl)
  have m_max := He.free_ok X G (c.fact 48 (f := .free "max") rfl)
  have c_LATEST := He.int_ok X G (c.fact 49 (f := .int "LATEST" 1000000000000000000000000000000000000000000000000000000000000) rfl)
  have c_SIGNS := He.str_ok X G (c.fact 50 (f := .str "SIGNS" "abcdefghijklmnopqrstuvwxyz0123456789") rfl)
  have c_FARTHEST := He.int_ok X G (c.fact 51 (f := .int "FARTHEST" 1440) rfl)
  have c_MOST_JUMPS := He.int_ok X G (c.fact 52 (f := .int "MOST_JUMPS" 8) rfl)
  have c_MOST_TURNS := He.int_ok X G (c.fact 53 (f := .int "MOST_TURNS" 12) rfl)
  have c_MOST_DAYS := He.int_ok X G (c.fact 54 (f := .int "MOST_DAYS" 60) rfl)
  have c_DAY := He.int_ok X G (c.fact 55 (f := .int "DAY" 1440) rfl)
  have c_MOST_LAYERS := He.int_ok X G (c.fact 56 (f := .int "MOST_LAYERS" 4) rfl)
  have c_MOST_CHANGES := He.int_ok X G (c.fact 57 (f := .int "MOST_CHANGES" 24) rfl)
  have e := hfa.symm.trans g_law
  cases e
  have b := FunD.bindsA (ps := ["_law_script"]) F_law fun _ _ _ _ _ _ us hl => match us, hl with | [_], _ => rfl
  refine ⟨fd_law, fun s v => b s [v] rfl, fun base _ _ => ?_⟩
  have h_is_whole : Has P w K mg base 1 "is_whole" CFIs.S_is_whole := has_is_whole F_is_whole g_is_whole m_isinstance m_int m_bool
  have h_is_moment : Has P w K mg base 2 "is_moment" CFIj.S_is_moment := has_is_moment F_is_moment g_is_moment h_is_whole c_LATEST
  have h_is_word : Has P w K mg base 1 "is_word" CFIs.S_is_word := has_is_word F_is_word g_is_word m_isinstance m_str m_len m_all c_SIGNS
  have h_is_rising : Has P w K mg base 1 "is_rising" CFIj.S_is_rising := has_is_rising F_is_rising g_is_rising m_all m_range m_len
  have h_is_span : Has P w K mg base 3 "is_span" CFIc.S_is_span := has_is_span F_is_span g_is_span h_is_moment
  have h_is_change : Has P w K mg base 4 "is_change" CFIc.S_is_change := has_is_change F_is_change g_is_change m_isinstance m_tuple m_len m_str h_is_word h_is_span
  have h_is_jump : Has P w K mg base 3 "is_jump" CFIj.S_is_jump := has_is_jump F_is_jump g_is_jump m_isinstance m_tuple m_len h_is_moment h_is_whole m_abs c_FARTHEST
  have h_are_jumps : Has P w K mg base 4 "are_jumps" CFIj.S_are_jumps := has_are_jumps F_are_jumps g_are_jumps m_isinstance m_tuple m_len c_MOST_JUMPS m_all h_is_jump h_is_rising
  have h_is_turn : Has P w K mg base 2 "is_turn" CFIs.S_is_turn := has_is_turn F_is_turn g_is_turn m_isinstance m_tuple m_len h_is_whole h_is_word
  have h_are_turns : Has P w K mg base 3 "are_turns" CFIs.S_are_turns := has_are_turns F_are_turns g_are_turns m_isinstance m_tuple m_len c_MOST_TURNS h_is_turn
  have h_is_layer : Has P w K mg base 4 "is_layer" CFIs.S_is_layer := has_is_layer F_is_layer g_is_layer m_isinstance m_tuple m_len h_is_word h_is_whole c_MOST_DAYS c_DAY h_are_turns
  have h_is_book : Has P w K mg base 5 "is_book" S_is_book := has_is_book F_is_book g_is_book m_isinstance m_tuple m_len h_are_jumps c_MOST_LAYERS c_MOST_CHANGES m_all h_is_layer h_is_change m_set
  have h_law_hand : Has P w K mg base 1 "_law_hand" CFH.S_law_hand := has_law_hand F_law_hand g_law_hand m_len m_int
  have h_law_take : Has P w K mg base 1 "_law_take" CFH.S_law_take := has_law_take F_law_take g_law_take 
  have h_law_pick : Has P w K mg base 2 "_law_pick" CFH.S_law_pick := has_law_pick F_law_pick g_law_pick h_law_take m_len
  have h_law_great : Has P w K mg base 2 "_law_great" CFH.S_law_great := has_law_great F_law_great g_law_great m_range h_law_take
  have h_law_moment : Has P w K mg base 3 "_law_moment" CFCh.S_law_moment := has_law_moment F_law_moment g_law_moment h_law_take h_law_great
  have h_law_words : Has P w K mg base 3 "_law_words" CFWd.S_law_words := has_law_words F_law_words g_law_words h_law_pick h_law_take m_len m_range
  have h_law_jumps : Has P w K mg base 4 "_law_jumps" CFJn.S_law_jumps := has_law_jumps F_law_jumps g_law_jumps m_range h_law_take h_law_moment h_law_pick m_tuple
  have h_law_minute : Has P w K mg base 3 "_law_minute" CFLy.S_law_minute := has_law_minute F_law_minute g_law_minute h_law_take h_law_pick
  have h_law_layer : Has P w K mg base 4 "_law_layer" CFLy.S_law_layer := has_law_layer F_law_layer g_law_layer h_law_take h_law_pick m_sorted m_set m_range h_law_minute m_len m_tuple
  have h_law_change : Has P w K mg base 4 "_law_change" CFCg.S_law_change := has_law_change F_law_change g_law_change h_law_take h_law_moment m_min m_len h_law_pick
  have h_law_jump_row : Has P w K mg base 3 "_law_jump_row" S_law_jump_row := has_law_jump_row F_law_jump_row g_law_jump_row m_range h_law_take h_law_pick m_tuple
  have h_law_good : Has P w K mg base 5 "_law_good" S_law_good := has_law_good F_law_good g_law_good h_law_words h_law_take h_law_jumps m_range h_law_layer h_law_change h_law_jump_row m_int m_tuple
  have h_law_odd : Has P w K mg base 3 "_law_odd" S_law_odd := has_law_odd F_law_odd g_law_odd h_law_take h_law_pick m_isinstance m_int m_tuple m_list
  have h_law_spoilt : Has P w K mg base 9 "_law_spoilt" (S_law_spoilt 5) := has_law_spoilt F_law_spoilt g_law_spoilt m_isinstance m_tuple h_law_take h_law_odd m_list m_len 5
  have h_law_is_whole : Has P w K mg base 1 "_law_is_whole" S_law_is_whole := has_law_is_whole F_law_is_whole g_law_is_whole m_isinstance m_int m_bool
  have h_law_is_row : Has P w K mg base 1 "_law_is_row" S_law_is_row := has_law_is_row F_law_is_row g_law_is_row m_isinstance m_tuple m_len
  have h_law_is_word : Has P w K mg base 1 "_law_is_word" S_law_is_word := has_law_is_word F_law_is_word g_law_is_word m_isinstance m_str m_len m_all
  have h_law_are_jumps : Has P w K mg base 2 "_law_are_jumps" S_law_are_jumps := has_law_are_jumps F_law_are_jumps g_law_are_jumps m_isinstance m_tuple m_len h_law_is_row h_law_is_whole
  have h_law_is_layer : Has P w K mg base 2 "_law_is_layer" S_law_is_layer := has_law_is_layer F_law_is_layer g_law_is_layer h_law_is_row h_law_is_word h_law_is_whole m_isinstance m_tuple m_len
  have h_law_is_change : Has P w K mg base 2 "_law_is_change" S_law_is_change := has_law_is_change F_law_is_change g_law_is_change m_isinstance m_tuple m_len m_str m_int m_all h_law_is_word h_law_is_whole
  have h_law_is_book : Has P w K mg base 3 "_law_is_book" S_law_is_book := has_law_is_book F_law_is_book g_law_is_book h_law_is_row h_law_are_jumps m_isinstance m_tuple m_len m_all h_law_is_layer m_set h_law_is_change
  have h_law_same : Has P w K mg base 1 "_law_same" S_law_same := has_law_same F_law_same g_law_same m_isinstance m_bool
  exact fn_law F_law m_range m_max m_min m_len h_law_hand h_law_good h_law_spoilt h_law_same h_law_is_book h_is_book m_isinstance m_tuple h_law_are_jumps h_are_jumps m_list m_all h_law_is_layer h_is_layer
end K19
open PySem PySem.W PySem.Calls PyProof.Rows
set_option maxHeartbeats 0 in
theorem PySem.Challenge.cw_calledfirst_k19_books_looked_at_holds : PySem.Challenge.rw_calledfirst_k19_books_looked_at.Holds := by
  refine K19H.fin ?hc
  case hc =>
    refine DL.walk_dl (l := PySem.Challenge.rw_calledfirst_k19_books_looked_at) (n := 63) (k := 10) (x := "_law_script") rfl (by decide) (by kernel_rfl) ⟨rfl, by decide, by decide⟩ (S := K19.S_law) ?F K19.law_in
    intro w mg fa h Y G hmg0
    obtain ⟨K, KX, c⟩ := Y
    have hmg : mg ("law" : PySem.Str) = some (.ref fa) := by
      have e : (HandSHeadRun.topDef (OpenLaw.row PySem.Challenge.rw_calledfirst_k19_books_looked_at).prog 49).name = ("law" : PySem.Str) := by kernel_rfl
      rw [← e]
      exact hmg0
    obtain ⟨fd, hb, hF⟩ := K19.facts (P := (PySem.Challenge.rw_calledfirst_k19_books_looked_at).prog) (w := w) KX G hmg c
    exact ⟨K, fd, KX, hb, hF⟩
