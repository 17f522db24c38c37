import PyProof.Rows.All
import HandS.ForExc
import HandS.ForMost
import HandS.Wide
import HandS.Defaults
import HandS.TupAny
import HandS.WordsExc
import HandS.IsInst
import HandS.Head0
import HandS.Head1
import HandS.Head2
import HandS.HeadEnd
import HandS.HeadHook1
import HandS.HeadHook2
import PySem.Challenge.RW_calledfirst_k72_whole_rounds_of_shares
import HandS.Deep
import HandS.Style
import HandS.Text
import HandS.Zip
import HandS.Rev
import HandS.RevRange
import KE.GoesEnum
import HandS.SortInts
import HandS.NoneIn
import PyProof.StrOps2
import HandS.StrMore
import HandS.SortKw
import HandS.DictEq
import HandS.SetFor
import PyProof.LongRange
import HandS.More
import HandS.RaiseMore
import HandS.Small
import PyProof.ExcBaseAll.ValueError
import PyProof.ReprRoads
import PyProof.StrLawsRepr
import HandS.SortRule
import HandS.SortOrd
import HandS.NamedTupSort
import KE.KSortTup
import HandS.DictTup
import HandS.Dict
import HandS.TryOnly
import HandS.ExcIs
import HandS.CallSlots
import KE.GoesMore
import HandS.Iter
import HandS.List
import HandS.Sort
import KE.DataCmp
import PyProof.ListRange
import HandS.Conv
import KE.KDictZip
import HandS.ListItems
import HandS.FStr
import HandS.SetTxt0
import KE.KDictPairs
import HandS.TupMul
import HandS.DictSubView
import KE.KDictSum
import KE.DataMinMax
import HandS.ExcValue
import KE.IntBitsLaws
set_option Elab.async false
set_option linter.all false
set_option maxRecDepth 100000
set_option maxHeartbeats 4000000

/-! generated: the head -/
namespace K72H
open PySem PySem.Spec PyProof.Rows L2
def topS (i : Nat) : Stmt := PySem.Challenge.pw_calledfirst_k72_whole_rounds_of_shares.main.body.getD i (.Pass ⟨0, 0, 0, 0⟩)
abbrev st_counts_behind : Stmt := topS 1
abbrev st_loads_behind : Stmt := topS 2
abbrev st_reached : Stmt := topS 3
abbrev st_handed_on : Stmt := topS 4
abbrev st_better : Stmt := topS 5
abbrev st_share : Stmt := topS 6
abbrev st_law_hand : Stmt := topS 8
abbrev st_law_take : Stmt := topS 9
abbrev st_law_pick : Stmt := topS 10
abbrev st_law_words : Stmt := topS 11
abbrev st_law_nights : Stmt := topS 12
abbrev st_law_loads : Stmt := topS 13
abbrev st_law_plan : Stmt := topS 14
abbrev st_law_counts : Stmt := topS 15
abbrev st_law_reach : Stmt := topS 16
abbrev st_law_even : Stmt := topS 17
abbrev st_law_falling : Stmt := topS 18
abbrev st_law_turned : Stmt := topS 19
abbrev st_law_round : Stmt := topS 20
abbrev st_law : Stmt := topS 21
def dd_counts_behind : He.DefD := ⟨("counts_behind", none), "counts_behind", "counts_behind", defArgs st_counts_behind, defBody st_counts_behind, defScope st_counts_behind, [], []⟩
def dd_loads_behind : He.DefD := ⟨("loads_behind", none), "loads_behind", "loads_behind", defArgs st_loads_behind, defBody st_loads_behind, defScope st_loads_behind, [], []⟩
def dd_reached : He.DefD := ⟨("reached", none), "reached", "reached", defArgs st_reached, defBody st_reached, defScope st_reached, [], []⟩
def dd_handed_on : He.DefD := ⟨("handed_on", none), "handed_on", "handed_on", defArgs st_handed_on, defBody st_handed_on, defScope st_handed_on, [], []⟩
def dd_better : He.DefD := ⟨("better", none), "better", "better", defArgs st_better, defBody st_better, defScope st_better, [], []⟩
def dd_share : He.DefD := ⟨("share", none), "share", "share", defArgs st_share, defBody st_share, defScope st_share, [], []⟩
def dd_law_hand : He.DefD := ⟨("_law_hand", none), "_law_hand", "_law_hand", defArgs st_law_hand, defBody st_law_hand, defScope st_law_hand, [], []⟩
def dd_law_take : He.DefD := ⟨("_law_take", none), "_law_take", "_law_take", defArgs st_law_take, defBody st_law_take, defScope st_law_take, [], []⟩
def dd_law_pick : He.DefD := ⟨("_law_pick", none), "_law_pick", "_law_pick", defArgs st_law_pick, defBody st_law_pick, defScope st_law_pick, [], []⟩
def dd_law_words : He.DefD := ⟨("_law_words", none), "_law_words", "_law_words", defArgs st_law_words, defBody st_law_words, defScope st_law_words, [], []⟩
def dd_law_nights : He.DefD := ⟨("_law_nights", none), "_law_nights", "_law_nights", defArgs st_law_nights, defBody st_law_nights, defScope st_law_nights, [], []⟩
def dd_law_loads : He.DefD := ⟨("_law_loads", none), "_law_loads", "_law_loads", defArgs st_law_loads, defBody st_law_loads, defScope st_law_loads, [], []⟩
def dd_law_plan : He.DefD := ⟨("_law_plan", none), "_law_plan", "_law_plan", defArgs st_law_plan, defBody st_law_plan, defScope st_law_plan, [], []⟩
def dd_law_counts : He.DefD := ⟨("_law_counts", none), "_law_counts", "_law_counts", defArgs st_law_counts, defBody st_law_counts, defScope st_law_counts, [], []⟩
def dd_law_reach : He.DefD := ⟨("_law_reach", none), "_law_reach", "_law_reach", defArgs st_law_reach, defBody st_law_reach, defScope st_law_reach, [], []⟩
def dd_law_even : He.DefD := ⟨("_law_even", none), "_law_even", "_law_even", defArgs st_law_even, defBody st_law_even, defScope st_law_even, [], []⟩
def dd_law_falling : He.DefD := ⟨("_law_falling", none), "_law_falling", "_law_falling", defArgs st_law_falling, defBody st_law_falling, defScope st_law_falling, [], []⟩
def dd_law_turned : He.DefD := ⟨("_law_turned", none), "_law_turned", "_law_turned", defArgs st_law_turned, defBody st_law_turned, defScope st_law_turned, [], []⟩
def dd_law_round : He.DefD := ⟨("_law_round", none), "_law_round", "_law_round", defArgs st_law_round, defBody st_law_round, defScope st_law_round, [], []⟩
def dd_law : He.DefD := ⟨("law", none), "law", "law", defArgs st_law, defBody st_law, defScope st_law, [], []⟩
def fn : List He.DefD := [dd_counts_behind, dd_loads_behind, dd_reached, dd_handed_on, dd_better, dd_share, dd_law_hand, dd_law_take, dd_law_pick, dd_law_words, dd_law_nights, dd_law_loads, dd_law_plan, dd_law_counts, dd_law_reach, dd_law_even, dd_law_falling, dd_law_turned, dd_law_round, dd_law]
def fa : List He.Fa := [.glo "counts_behind", .glo "loads_behind", .glo "reached", .glo "handed_on", .glo "better", .glo "share", .glo "_law_hand", .glo "_law_take", .glo "_law_pick", .glo "_law_words", .glo "_law_nights", .glo "_law_loads", .glo "_law_plan", .glo "_law_counts", .glo "_law_reach", .glo "_law_even", .glo "_law_falling", .glo "_law_turned", .glo "_law_round", .glo "law", .free "dict", .free "tuple", .free "sorted", .free "len", .free "range", .free "list", .free "set", .free "int", .free "isinstance", .free "zip", .free "min", .free "sum", .free "max"]
abbrev R : PySem.W.OpenRow := PySem.W.OpenLaw.row PySem.Challenge.rw_calledfirst_k72_whole_rounds_of_shares
abbrev hk : PySem.W.Hook := He.hookD 2 fa fn
def ob (s : PySem.W.SharedT) : He.AlD := He.obsDG 2 fa fn (HandSHeadRun.getT s)
theorem ob_eq (s : PySem.W.SharedT) : ob s = hk.obs s.abs := He.obsDG_eq (HandSHeadRun.getT_eq s)
def loose : List Str := (["counts_behind", "loads_behind", "reached", "handed_on", "better", "share", "_law_hand", "_law_take", "_law_pick", "_law_words", "_law_nights", "_law_loads", "_law_plan", "_law_counts", "_law_reach", "_law_even", "_law_falling", "_law_turned", "_law_round"] : List Str)
theorem run (w : World) : HandSHeadRun.RunEq R (PySem.W.view R.prog [21]) hk ob 1280 loose w := by
  intro os
  kernel_rfl
end K72H

set_option Elab.async false
set_option linter.all false
set_option maxRecDepth 100000
set_option maxHeartbeats 4000000
/-! DL: a level of plain data over the hand layer. A def's slots hold data (numbers, texts, tuples, lists that nobody changes any more) or a list or dict of its own; what stands at which address is proved away once, here. -/
namespace DL
open PySem PySem.Spec PyProof.Rows L2

abbrev D := PyData
structure XD where
  cls : Str
  fs : List (Str × D)
inductive Tre where
  | dat (d : D)
  | hole (k : Addr)
  | ld (a : Addr) (ds : List D)
  | lst (a : Addr) (xs : List Tre)
  | tup (a : Addr) (xs : List Tre)
  | ins (a dx : Addr) (cls : Str) (ns : List Str) (xs : List Tre)
  | exc (a : Addr) (da : Option Addr) (x : XD)
@[reducible] def Tre.root : Tre → Option Addr
  | .ld a _ => some a
  | .lst a _ => some a
  | .tup a _ => some a
  | .ins a _ _ _ _ => some a
  | .exc a _ _ => some a
  | _ => none
mutual
def Tre.foot : Tre → List Addr
  | .dat _ => []
  | .hole _ => []
  | .ld a _ => [a]
  | .lst a xs => a :: Tre.foots xs
  | .tup a xs => a :: Tre.foots xs
  | .ins a dx _ _ xs => a :: dx :: Tre.foots xs
  | .exc a da _ => a :: da.toList
def Tre.foots : List Tre → List Addr
  | [] => []
  | x :: xs => x.foot ++ Tre.foots xs
end
@[reducible] def Tre.kids : Tre → List Tre
  | .lst _ xs => xs
  | .tup _ xs => xs
  | .ins _ _ _ _ xs => xs
  | _ => []
@[reducible] def Tre.withKids : Tre → List Tre → Tre
  | .lst a _, ys => .lst a ys
  | .tup a _, ys => .tup a ys
  | .ins a dx c ns _, ys => .ins a dx c ns ys
  | l, _ => l
@[reducible] def Tre.get : Tre → List Nat → Option Tre
  | l, [] => some l
  | l, i :: p => match l.kids[i]? with
    | some m => m.get p
    | none => none
@[reducible] def Tre.put : Tre → List Nat → Tre → Tre
  | _, [], n => n
  | l, i :: p, n => match l.kids[i]? with
    | some m => l.withKids (l.kids.set i (m.put p n))
    | none => l
inductive OD where
  | lst (ds : List D)
  | dct (kvs : List (Key × D))
  | dtt (kvs : List (List Key × D))
  | lck (at_ : Addr) (ob : Obj) (ks : List (Key × V)) (kvs : List (Key × D))
  | tre (l : Tre)
  | prp (x y : D)
@[reducible] def OD.fp : OD → Addr → List Addr
  | .tre l, _ => l.foot
  | .lst _, a => [a]
  | .dct _, a => [a]
  | .dtt _, a => [a]
  | .lck _ _ _ _, a => [a]
  | .prp _ _, a => [a]
inductive C where
  | no
  | v (d : D)
  | p (d : D)
  | own (t : Nat) (o : OD)
  | pk (i : Nat)
  | ln (i : Nat)
  | sub (i : Nat) (p : List Nat) (k : Addr)
abbrev Rho := List C

def hide (H : Hp) (O : List Addr) : Hp := fun a => if a ∈ O then none else H a
theorem hide_some {H : Hp} {O : List Addr} {a : Addr} {o : HO} : hide H O a = some o ↔ a ∉ O ∧ H a = some o := by
  unfold hide
  by_cases h : a ∈ O
  · simp [h]
  · simp [h]
theorem hide_congr {H : Hp} {O O' : List Addr} (h : ∀ a, a ∈ O ↔ a ∈ O') : hide H O = hide H O' := by
  funext a
  unfold hide
  by_cases q : a ∈ O
  · rw [if_pos q, if_pos ((h a).mp q)]
  · rw [if_neg q, if_neg fun z => q ((h a).mpr z)]

theorem seqT_same {K : PySem.W.Frag} {H H' : Hp} {a : Addr} {xs : List V} (e : Same H H') (h : SqT K H a xs) : SqT K H' a xs := by
  rcases h with (h | ⟨o, h⟩) | h
  · exact .inl (.inl (e _ _ h))
  · exact .inl (.inr ⟨o, e _ _ h⟩)
  · exact .inr h
mutual
theorem dp_mono {K : PySem.W.Frag} {B B' : Hp} (e : Same B B') : ∀ (d : D) (v : V), Dp K B v d → Dp K B' v d
  | .none, _, h => by cases h; exact .non
  | .bool b, _, h => by cases h; exact .bl b
  | .int i, _, h => by cases h; exact .int i
  | .str x, _, h => by cases h; exact .str x
  | .list ds, _, h => by
    cases h with
    | lst hs ha => exact .lst (e.seq hs) (dpAll_mono e ds _ ha)
  | .tuple ds, _, h => by
    cases h with
    | tup hs ha => exact .tup (seqT_same e hs) (dpAll_mono e ds _ ha)
  | .dict _, _, h => by cases h
theorem dpAll_mono {K : PySem.W.Frag} {B B' : Hp} (e : Same B B') : ∀ (ds : List D) (vs : List V), DpAll K B vs ds → DpAll K B' vs ds
  | [], _, h => by cases h; exact .nil
  | d :: ds, _, h => by
    cases h with
    | cons h1 h2 => exact .cons (dp_mono e d _ h1) (dpAll_mono e ds _ h2)
end
theorem DpAll.len {K : PySem.W.Frag} {B : Hp} : ∀ {vs : List V} {ds : List D}, DpAll K B vs ds → vs.length = ds.length
  | _, [], h => by cases h; rfl
  | _, d :: ds, h => by
    cases h with
    | cons h1 h2 => rw [List.length_cons, List.length_cons, DpAll.len h2]
theorem DpAll.get {K : PySem.W.Frag} {B : Hp} : ∀ {vs : List V} {ds : List D} {i : Nat} {d : D}, DpAll K B vs ds → ds[i]? = some d → ∃ v, vs[i]? = some v ∧ Dp K B v d
  | _, [], _, _, _, e => by simp at e
  | _, d' :: ds, i, d, h, e => by
    cases h with
    | cons h1 h2 =>
      cases i with
      | zero =>
        have e' : d' = d := by simpa using e
        subst e'
        exact ⟨_, rfl, h1⟩
      | succ i =>
        obtain ⟨v, q1, q2⟩ := DpAll.get (i := i) (d := d) h2 (by simpa using e)
        exact ⟨v, by simpa using q1, q2⟩
theorem DpAll.app {K : PySem.W.Frag} {B : Hp} : ∀ {vs us : List V} {ds es : List D}, DpAll K B vs ds → DpAll K B us es → DpAll K B (vs ++ us) (ds ++ es)
  | _, _, [], _, h, h' => by cases h; exact h'
  | _, _, d :: ds, _, h, h' => by
    cases h with
    | cons h1 h2 => exact .cons h1 (DpAll.app h2 h')
theorem DpAll.setAt {K : PySem.W.Frag} {B : Hp} {x : V} {d : D} (hx : Dp K B x d) : ∀ {vs : List V} {ds : List D} (i : Nat), DpAll K B vs ds → DpAll K B (vs.set i x) (ds.set i d)
  | _, [], _, h => by cases h; exact .nil
  | _, d' :: ds, i, h => by
    cases h with
    | cons h1 h2 =>
      cases i with
      | zero => exact .cons hx h2
      | succ i => exact .cons h1 (DpAll.setAt hx i h2)
theorem DpAll.takeN {K : PySem.W.Frag} {B : Hp} : ∀ {vs : List V} {ds : List D} (n : Nat), DpAll K B vs ds → DpAll K B (vs.take n) (ds.take n)
  | _, [], n, h => by cases h; simp; exact .nil
  | _, d :: ds, n, h => by
    cases h with
    | cons h1 h2 =>
      cases n with
      | zero => exact .nil
      | succ n => exact .cons h1 (DpAll.takeN n h2)
theorem DpAll.dropN {K : PySem.W.Frag} {B : Hp} : ∀ {vs : List V} {ds : List D} (n : Nat), DpAll K B vs ds → DpAll K B (vs.drop n) (ds.drop n)
  | _, [], n, h => by cases h; simp; exact .nil
  | _, d :: ds, n, h => by
    cases h with
    | cons h1 h2 =>
      cases n with
      | zero => exact .cons h1 h2
      | succ n => exact DpAll.dropN n h2
theorem DpAll.ints {K : PySem.W.Frag} {B : Hp} : ∀ (ns : List Int), DpAll K B (ns.map V.int) (ns.map PyData.int)
  | [] => .nil
  | n :: ns => .cons (.int n) (DpAll.ints ns)
def DpKV (K : PySem.W.Frag) (B : Hp) : List (Key × V) → List (Key × D) → Prop
  | [], [] => True
  | p :: ps, q :: qs => p.1 = q.1 ∧ Dp K B p.2 q.2 ∧ DpKV K B ps qs
  | _, _ => False
theorem DpKV.mono {K : PySem.W.Frag} {B B' : Hp} (e : Same B B') : ∀ {ps : List (Key × V)} {qs : List (Key × D)}, DpKV K B ps qs → DpKV K B' ps qs
  | [], [], h => h
  | p :: ps, q :: qs, h => ⟨h.1, dp_mono e _ _ h.2.1, DpKV.mono e h.2.2⟩
  | [], _ :: _, h => h.elim
  | _ :: _, [], h => h.elim
def DpTV (K : PySem.W.Frag) (B : Hp) : List (List Key × V) → List (List Key × D) → Prop
  | [], [] => True
  | p :: ps, q :: qs => p.1 = q.1 ∧ Dp K B p.2 q.2 ∧ DpTV K B ps qs
  | _, _ => False
theorem DpTV.mono {K : PySem.W.Frag} {B B' : Hp} (e : Same B B') : ∀ {ps : List (List Key × V)} {qs : List (List Key × D)}, DpTV K B ps qs → DpTV K B' ps qs
  | [], [], h => h
  | p :: ps, q :: qs, h => ⟨h.1, dp_mono e _ _ h.2.1, DpTV.mono e h.2.2⟩
  | [], _ :: _, h => h.elim
  | _ :: _, [], h => h.elim
def XFs (K : PySem.W.Frag) (B : Hp) : List (Str × V) → List (Str × D) → Prop
  | [], [] => True
  | p :: ps, q :: qs => p.1 = q.1 ∧ Dp K B p.2 q.2 ∧ XFs K B ps qs
  | _, _ => False
theorem XFs.mono {K : PySem.W.Frag} {B B' : Hp} (e : Same B B') : ∀ {fs : List (Str × V)} {gs : List (Str × D)}, XFs K B fs gs → XFs K B' fs gs
  | [], [], h => h
  | p :: ps, q :: qs, h => ⟨h.1, dp_mono e _ _ h.2.1, XFs.mono e h.2.2⟩
  | [], _ :: _, h => h.elim
  | _ :: _, [], h => h.elim
def ExcO (cls : Value) (d : Option Addr) (a : Addr) : HO := .ext fun h => ∃ (oe : Obj) (vs : Array Value), h.get? a = some oe ∧ Zc cls d oe ∧ oe.data = .fields vs
mutual
def TreAt (K : PySem.W.Frag) (B H : Hp) : Tre → V → Prop
  | .dat d, v => Dp K B v d
  | .hole k, v => v = .ref k
  | .ld a ds, v => v = .ref a ∧ ∃ vs, H a = some (.lst vs) ∧ DpAll K B vs ds
  | .lst a xs, v => v = .ref a ∧ ∃ vs, H a = some (.lst vs) ∧ TreAll K B H xs vs
  | .tup a xs, v => v = .ref a ∧ ∃ vs, H a = some (.tup vs) ∧ TreAll K B H xs vs
  | .ins a dx cls ns xs, v => v = .ref a ∧ ∃ vs, H a = some (.ins (He.ga K cls) dx (ns.zip vs)) ∧ H dx = some (.own a) ∧ ns.length = vs.length ∧ TreAll K B H xs vs
  | .exc a da x, v => v = .ref a ∧ H a = some (ExcO (.ref (He.ga K x.cls)) da a) ∧ ((da = none ∧ x.fs = []) ∨ (x.fs ≠ [] ∧ ∃ b fs, da = some b ∧ H b = some (.xd fs) ∧ XFs K B fs x.fs))
def TreAll (K : PySem.W.Frag) (B H : Hp) : List Tre → List V → Prop
  | [], vs => vs = []
  | x :: xs, vs => ∃ v ws, vs = v :: ws ∧ TreAt K B H x v ∧ TreAll K B H xs ws
end
mutual
theorem TreAt.mono {K : PySem.W.Frag} {B B' H H' : Hp} (e : Same B B') : ∀ (l : Tre) (v : V), (∀ a ∈ l.foot, ∀ u, H a = some u → H' a = some u) → TreAt K B H l v → TreAt K B' H' l v
  | .dat d, v, _, h => dp_mono e _ _ h
  | .hole k, v, _, h => h
  | .ld a ds, v, k, h => by
    obtain ⟨h1, vs, h2, h3⟩ := h
    exact ⟨h1, vs, k a (by simp [Tre.foot]) _ h2, dpAll_mono e _ _ h3⟩
  | .lst a xs, v, k, h => by
    obtain ⟨h1, vs, h2, h3⟩ := h
    exact ⟨h1, vs, k a (by simp [Tre.foot]) _ h2, TreAll.mono e xs vs (fun b hb => k b (by simp [Tre.foot, hb])) h3⟩
  | .tup a xs, v, k, h => by
    obtain ⟨h1, vs, h2, h3⟩ := h
    exact ⟨h1, vs, k a (by simp [Tre.foot]) _ h2, TreAll.mono e xs vs (fun b hb => k b (by simp [Tre.foot, hb])) h3⟩
  | .ins a dx cls ns xs, v, k, h => by
    obtain ⟨h1, vs, h2, h4, h5, h3⟩ := h
    exact ⟨h1, vs, k a (by simp [Tre.foot]) _ h2, k dx (by simp [Tre.foot]) _ h4, h5, TreAll.mono e xs vs (fun b hb => k b (by simp [Tre.foot, hb])) h3⟩
  | .exc a da x, v, k, h => by
    obtain ⟨h1, h2, h3⟩ := h
    refine ⟨h1, k a (by simp [Tre.foot]) _ h2, h3.imp id fun ⟨q1, b, fs, q2, q3, q4⟩ => ⟨q1, b, fs, q2, k b ?_ _ q3, q4.mono e⟩⟩
    rw [q2]; simp [Tre.foot]
theorem TreAll.mono {K : PySem.W.Frag} {B B' H H' : Hp} (e : Same B B') : ∀ (xs : List Tre) (vs : List V), (∀ a ∈ Tre.foots xs, ∀ u, H a = some u → H' a = some u) → TreAll K B H xs vs → TreAll K B' H' xs vs
  | [], vs, _, h => h
  | x :: xs, vs, k, h => by
    obtain ⟨v, ws, h1, h2, h3⟩ := h
    exact ⟨v, ws, h1, TreAt.mono e x v (fun b hb => k b (by simp [Tre.foots, hb])) h2, TreAll.mono e xs ws (fun b hb => k b (by simp [Tre.foots, hb])) h3⟩
end
mutual
theorem TreAt.there {K : PySem.W.Frag} {B H : Hp} : ∀ (l : Tre) (v : V), TreAt K B H l v → ∀ a ∈ l.foot, ∃ u, H a = some u
  | .dat d, v, h, a, ha => by simp [Tre.foot] at ha
  | .hole k, v, h, a, ha => by simp [Tre.foot] at ha
  | .ld b ds, v, h, a, ha => by
    obtain ⟨h1, vs, h2, h3⟩ := h
    rw [Tre.foot, List.mem_singleton] at ha
    exact ⟨_, by rw [ha]; exact h2⟩
  | .lst b xs, v, h, a, ha => by
    obtain ⟨h1, vs, h2, h3⟩ := h
    rw [Tre.foot, List.mem_cons] at ha
    rcases ha with rfl | ha
    · exact ⟨_, h2⟩
    · exact TreAll.there xs vs h3 a ha
  | .tup b xs, v, h, a, ha => by
    obtain ⟨h1, vs, h2, h3⟩ := h
    rw [Tre.foot, List.mem_cons] at ha
    rcases ha with rfl | ha
    · exact ⟨_, h2⟩
    · exact TreAll.there xs vs h3 a ha
  | .ins b dx cls ns xs, v, h, a, ha => by
    obtain ⟨h1, vs, h2, h4, h5, h3⟩ := h
    rw [Tre.foot, List.mem_cons, List.mem_cons] at ha
    rcases ha with rfl | rfl | ha
    · exact ⟨_, h2⟩
    · exact ⟨_, h4⟩
    · exact TreAll.there xs vs h3 a ha
  | .exc b da x, v, h, a, ha => by
    obtain ⟨h1, h2, h3⟩ := h
    rw [Tre.foot, List.mem_cons] at ha
    rcases ha with rfl | ha
    · exact ⟨_, h2⟩
    · rcases h3 with ⟨q, _⟩ | ⟨_, c, fs, q2, q3, _⟩
      · rw [q] at ha; simp at ha
      · rw [q2] at ha
        have e : a = c := by simpa using ha
        subst e
        exact ⟨_, q3⟩
theorem TreAll.there {K : PySem.W.Frag} {B H : Hp} : ∀ (xs : List Tre) (vs : List V), TreAll K B H xs vs → ∀ a ∈ Tre.foots xs, ∃ u, H a = some u
  | [], vs, h, a, ha => by simp [Tre.foots] at ha
  | x :: xs, vs, h, a, ha => by
    obtain ⟨v, ws, h1, h2, h3⟩ := h
    rw [Tre.foots, List.mem_append] at ha
    rcases ha with ha | ha
    · exact TreAt.there x v h2 a ha
    · exact TreAll.there xs ws h3 a ha
end
theorem TreAt.root {K : PySem.W.Frag} {B H : Hp} {l : Tre} {v : V} {a : Addr} (h : TreAt K B H l v) (e : l.root = some a) : v = .ref a ∧ a ∈ l.foot := by
  cases l with
  | dat d => cases e
  | hole k => cases e
  | ld b ds => cases e; exact ⟨h.1, by simp [Tre.foot]⟩
  | lst b xs => cases e; exact ⟨h.1, by simp [Tre.foot]⟩
  | tup b xs => cases e; exact ⟨h.1, by simp [Tre.foot]⟩
  | ins b dx cls ns xs => cases e; exact ⟨h.1, by simp [Tre.foot]⟩
  | exc b da x => cases e; exact ⟨h.1, by simp [Tre.foot]⟩
def PlainT (B : Hp) (x : V) : Prop := ∃ a o xs, x = .ref a ∧ B a = some (.frz o (.tup xs)) ∧ o.dict = none
theorem PlainT.mono {B B' : Hp} (e : Same B B') {x : V} : PlainT B x → PlainT B' x := fun ⟨a, o, xs, h1, h2, h3⟩ => ⟨a, o, xs, h1, e _ _ h2, h3⟩
def OwnF (K : PySem.W.Frag) (B H : Hp) (a : Addr) : OD → Prop
  | .lst ds => ∃ xs, H a = some (.lst xs) ∧ DpAll K B xs ds
  | .dct kvs => ∃ ks, H a = some (.dK ks) ∧ DpKV K B ks kvs
  | .dtt kvs => ∃ ks, H a = some (.dT ks) ∧ DpTV K B ks kvs
  | .lck k ob ks kvs => a = k ∧ H a = some (.frz ob (.dK ks)) ∧ DpKV K B ks kvs
  | .prp x y => ∃ v w, H a = some (.tup [v, w]) ∧ Dp K B v x ∧ Dp K B w y ∧ PlainT B w
  | .tre _ => False
def OwnAt (K : PySem.W.Frag) (B H : Hp) (a : Addr) : OD → Prop
  | .lst ds => ∃ xs, H a = some (.lst xs) ∧ DpAll K B xs ds
  | .dct kvs => ∃ ks, H a = some (.dK ks) ∧ DpKV K B ks kvs
  | .dtt kvs => ∃ ks, H a = some (.dT ks) ∧ DpTV K B ks kvs
  | .lck k ob ks kvs => a = k ∧ H a = some (.frz ob (.dK ks)) ∧ DpKV K B ks kvs
  | .prp x y => ∃ v w, H a = some (.tup [v, w]) ∧ Dp K B v x ∧ Dp K B w y ∧ PlainT B w
  | .tre l => l.root = some a ∧ TreAt K B H l (.ref a)
theorem OwnF.at_ {K : PySem.W.Frag} {B H : Hp} {a : Addr} {o : OD} (h : OwnF K B H a o) : OwnAt K B H a o ∧ o.fp a = [a] := by
  cases o with
  | lst ds => exact ⟨h, rfl⟩
  | dct kvs => exact ⟨h, rfl⟩
  | dtt kvs => exact ⟨h, rfl⟩
  | lck _ ob ks kvs => exact ⟨h, rfl⟩
  | prp x y => exact ⟨h, rfl⟩
  | tre l => exact h.elim
theorem OwnAt.root_mem {K : PySem.W.Frag} {B H : Hp} {a : Addr} {o : OD} (h : OwnAt K B H a o) : a ∈ o.fp a := by
  cases o with
  | lst ds => exact List.mem_singleton.mpr rfl
  | dct kvs => exact List.mem_singleton.mpr rfl
  | dtt kvs => exact List.mem_singleton.mpr rfl
  | lck _ ob ks kvs => exact List.mem_singleton.mpr rfl
  | prp x y => exact List.mem_singleton.mpr rfl
  | tre l => exact (h.2.root h.1).2
theorem OwnAt.mono {K : PySem.W.Frag} {B B' H H' : Hp} {a : Addr} {o : OD} (e : Same B B') (k : ∀ b ∈ o.fp a, ∀ u, H b = some u → H' b = some u) (h : OwnAt K B H a o) : OwnAt K B' H' a o := by
  cases o with
  | lst ds => obtain ⟨xs, h1, h2⟩ := h; exact ⟨xs, k a (List.mem_singleton.mpr rfl) _ h1, dpAll_mono e _ _ h2⟩
  | dct kvs => obtain ⟨ks, h1, h2⟩ := h; exact ⟨ks, k a (List.mem_singleton.mpr rfl) _ h1, h2.mono e⟩
  | dtt kvs => obtain ⟨ks, h1, h2⟩ := h; exact ⟨ks, k a (List.mem_singleton.mpr rfl) _ h1, h2.mono e⟩
  | lck _ ob ks kvs => obtain ⟨h0, h1, h2⟩ := h; exact ⟨h0, k a (List.mem_singleton.mpr rfl) _ h1, h2.mono e⟩
  | prp x y => obtain ⟨v, w, h1, h2, h3, h4⟩ := h; exact ⟨v, w, k a (List.mem_singleton.mpr rfl) _ h1, dp_mono e _ _ h2, dp_mono e _ _ h3, h4.mono e⟩
  | tre l => exact ⟨h.1, TreAt.mono e l _ k h.2⟩
theorem OwnAt.theres {K : PySem.W.Frag} {B H : Hp} {a : Addr} {o : OD} (h : OwnAt K B H a o) : ∀ b ∈ o.fp a, ∃ u, H b = some u := fun b hb => by
  cases o with
  | lst ds => obtain ⟨xs, h1, h2⟩ := h; rw [List.mem_singleton.mp hb]; exact ⟨_, h1⟩
  | dct kvs => obtain ⟨ks, h1, h2⟩ := h; rw [List.mem_singleton.mp hb]; exact ⟨_, h1⟩
  | dtt kvs => obtain ⟨ks, h1, h2⟩ := h; rw [List.mem_singleton.mp hb]; exact ⟨_, h1⟩
  | lck _ ob ks kvs => obtain ⟨h0, h1, h2⟩ := h; rw [List.mem_singleton.mp hb]; exact ⟨_, h1⟩
  | prp x y => obtain ⟨v, w, h1, h2⟩ := h; rw [List.mem_singleton.mp hb]; exact ⟨_, h1⟩
  | tre l => exact TreAt.there l _ h.2 b hb
theorem OwnAt.there {K : PySem.W.Frag} {B H : Hp} {a : Addr} {o : OD} (h : OwnAt K B H a o) : ∃ u, H a = some u := h.theres a h.root_mem

structure G where
  H0 : Hp
  tg : Nat → Addr
  Oa : List Addr
  P0 : List Addr
  L : Nat → Bool
  /-- from here on a tag is an address -/
  tn : Nat
  tn0 : 0 < tn
  tgA : ∀ a, tg (tn + a) = a

def RC (K : PySem.W.Frag) (g : G) (σ : L2.St) (B H : Hp) (ov : Option V) : C → Prop
  | .no => True
  | .v d => ∃ x, ov = some x ∧ Dp K B x d
  | .p d => ∃ x, ov = some x ∧ Dp K B x d ∧ PlainT B x
  | .own t o => ∃ a, ov = some (.ref a) ∧ OwnAt K B H a o ∧ (t ≠ 0 → g.tg t = a) ∧ (t = 0 → g.H0 a = none)
  | .pk i => ∃ x, ov = some x ∧ σ[i]? = some (some x)
  | .ln i => ∃ x, ov = some x ∧ σ[i]? = some (some x)
  | .sub _ _ k => ov = some (.ref k)
def RCs (K : PySem.W.Frag) (g : G) (σ : L2.St) (B H : Hp) : List (Option V) → List C → Prop
  | [], [] => True
  | v :: vs, c :: cs => RC K g σ B H v c ∧ RCs K g σ B H vs cs
  | _, _ => False
def footC : Option V → C → List Addr
  | some (.ref a), .own _ o => o.fp a
  | _, _ => []
def foot : List (Option V) → List C → List Addr
  | v :: vs, c :: cs => footC v c ++ foot vs cs
  | _, _ => []
abbrev tot (σ : L2.St) (vs : List V) (ρ : Rho) (cs : List C) : List Addr := foot (vs.map some) cs ++ foot σ ρ

structure SR (K : PySem.W.Frag) (g : G) (σ : L2.St) (vs : List V) (H : Hp) (ρ : Rho) (cs : List C) : Prop where
  fr : ∀ a o, g.H0 a = some o → a ∉ g.Oa → H a = some o
  dm : ∀ a o, g.H0 a = some o → ∃ o', H a = some o'
  pr : ∀ a ∈ g.P0, a ∉ g.Oa ∧ ∃ o, g.H0 a = some o
  nw : ∀ a ∈ tot σ vs ρ cs, a ∈ g.Oa ∨ g.H0 a = none
  nd : (tot σ vs ρ cs).Nodup
  sl : RCs K g [] (hide H (tot σ vs ρ cs ++ g.P0)) H σ ρ
  tp : RCs K g σ (hide H (tot σ vs ρ cs ++ g.P0)) H (vs.map some) cs
  pk : ∀ i, (C.pk i ∈ cs ∨ C.ln i ∈ cs) → g.L i = true

section
variable {K : PySem.W.Frag} {g : G} {σ σ' : L2.St} {B B' H H' : Hp} {v : Option V} {c : C}
theorem RC.mono (e : Same B B') (k : ∀ a ∈ footC v c, ∀ u, H a = some u → H' a = some u) (h : RC K g σ B H v c) : RC K g σ B' H' v c := by
  cases c with
  | no => trivial
  | v d => obtain ⟨x, h1, h2⟩ := h; exact ⟨x, h1, dp_mono e _ _ h2⟩
  | p d => obtain ⟨x, h1, h2, h3⟩ := h; exact ⟨x, h1, dp_mono e _ _ h2, h3.mono e⟩
  | own t o =>
    obtain ⟨a, h1, h2, h3⟩ := h
    subst h1
    exact ⟨a, rfl, h2.mono e k, h3⟩
  | pk i => exact h
  | ln i => exact h
  | sub i p k => exact h
theorem RCs.mono (e : Same B B') : ∀ {vs : List (Option V)} {cs : List C}, (∀ a ∈ foot vs cs, ∀ u, H a = some u → H' a = some u) → RCs K g σ B H vs cs → RCs K g σ B' H' vs cs
  | [], [], _, h => h
  | v :: vs, c :: cs, k, h => ⟨h.1.mono e fun a ha => k a (by simp [foot, ha]), RCs.mono e (fun a ha => k a (by simp [foot, ha])) h.2⟩
  | [], _ :: _, _, h => h.elim
  | _ :: _, [], _, h => h.elim
theorem RCs.len : ∀ {vs : List (Option V)} {cs : List C}, RCs K g σ B H vs cs → vs.length = cs.length
  | [], [], _ => rfl
  | _ :: _, _ :: _, h => by rw [List.length_cons, List.length_cons, RCs.len h.2]
  | [], _ :: _, h => h.elim
  | _ :: _, [], h => h.elim
theorem RCs.there : ∀ {vs : List (Option V)} {cs : List C}, RCs K g σ B H vs cs → ∀ a ∈ foot vs cs, ∃ u, H a = some u
  | [], [], _, a, ha => by simp [foot] at ha
  | v :: vs, c :: cs, h, a, ha => by
    rw [foot, List.mem_append] at ha
    rcases ha with ha | ha
    · cases c with
      | own t o =>
        obtain ⟨b, e, q, _⟩ := h.1
        subst e
        exact q.theres a ha
      | no => cases v with
        | none => simp [footC] at ha
        | some x => cases x <;> simp [footC] at ha
      | v d => cases v with
        | none => simp [footC] at ha
        | some x => cases x <;> simp [footC] at ha
      | p d => cases v with
        | none => simp [footC] at ha
        | some x => cases x <;> simp [footC] at ha
      | pk i => cases v with
        | none => simp [footC] at ha
        | some x => cases x <;> simp [footC] at ha
      | ln i => cases v with
        | none => simp [footC] at ha
        | some x => cases x <;> simp [footC] at ha
      | sub i p k => cases v with
        | none => simp [footC] at ha
        | some x => cases x <;> simp [footC] at ha
    · exact RCs.there h.2 a ha
  | [], _ :: _, h, _, _ => h.elim
  | _ :: _, [], h, _, _ => h.elim
theorem foot_app : ∀ {vs us : List (Option V)} {cs ds : List C}, vs.length = cs.length → foot (vs ++ us) (cs ++ ds) = foot vs cs ++ foot us ds
  | [], _, [], _, _ => rfl
  | v :: vs, us, c :: cs, ds, h => by
    show footC v c ++ foot (vs ++ us) (cs ++ ds) = (footC v c ++ foot vs cs) ++ foot us ds
    rw [foot_app (by simpa using h), List.append_assoc]
  | [], _, _ :: _, _, h => by simp at h
  | _ :: _, _, [], _, h => by simp at h
theorem RCs.app : ∀ {vs us : List (Option V)} {cs ds : List C}, RCs K g σ B H vs cs → RCs K g σ B H us ds → RCs K g σ B H (vs ++ us) (cs ++ ds)
  | [], _, [], _, _, h => h
  | _ :: _, _, _ :: _, _, h, h' => ⟨h.1, RCs.app h.2 h'⟩
  | [], _, _ :: _, _, h, _ => h.elim
  | _ :: _, _, [], _, h, _ => h.elim
theorem RCs.split : ∀ {vs us : List (Option V)} {cs ds : List C}, vs.length = cs.length → RCs K g σ B H (vs ++ us) (cs ++ ds) → RCs K g σ B H vs cs ∧ RCs K g σ B H us ds
  | [], _, [], _, _, h => ⟨trivial, h⟩
  | _ :: _, _, _ :: _, _, hl, h => ⟨⟨h.1, (RCs.split (by simpa using hl) h.2).1⟩, (RCs.split (by simpa using hl) h.2).2⟩
  | [], _, _ :: _, _, h, _ => by simp at h
  | _ :: _, _, [], _, h, _ => by simp at h
end

section
variable {K : PySem.W.Frag} {g : G} {σ σ' : L2.St} {vs vs' : List V} {H H' : Hp} {ρ ρ' : Rho} {cs cs' : List C}
theorem SR.there (h : SR K g σ vs H ρ cs) : ∀ a ∈ tot σ vs ρ cs, ∃ u, H a = some u := fun a ha => by
  rcases List.mem_append.mp ha with q | q
  · exact h.tp.there a q
  · exact h.sl.there a q
theorem SR.pdom (h : SR K g σ vs H ρ cs) : ∀ a ∈ g.P0, ∃ u, H a = some u := fun a ha => by
  obtain ⟨h1, o, h2⟩ := h.pr a ha
  exact ⟨o, h.fr a o h2 h1⟩
theorem SR.domO (h : SR K g σ vs H ρ cs) : ∀ a ∈ tot σ vs ρ cs ++ g.P0, ∃ u, H a = some u := fun a ha => (List.mem_append.mp ha).elim (h.there a) (h.pdom a)
theorem SR.pout (h : SR K g σ vs H ρ cs) : ∀ a ∈ tot σ vs ρ cs, a ∉ g.P0 := fun a ha hp => by
  obtain ⟨h1, o, h2⟩ := h.pr a hp
  rcases h.nw a ha with q | q
  · exact h1 q
  · rw [h2] at q; cases q
theorem hide_step {F F' P : List Addr} (keep : ∀ a o, a ∉ F → H a = some o → H' a = some o) (new : ∀ a ∈ F', a ∈ F ∨ H a = none) : Same (hide H (F ++ P)) (hide H' (F' ++ P)) := fun a o e => by
  obtain ⟨h1, h2⟩ := hide_some.mp e
  have hF : a ∉ F := fun z => h1 (List.mem_append_left _ z)
  have hP : a ∉ P := fun z => h1 (List.mem_append_right _ z)
  refine hide_some.mpr ⟨fun z => ?_, keep a o hF h2⟩
  rcases List.mem_append.mp z with z | z
  · rcases new a z with q | q
    · exact hF q
    · rw [h2] at q; cases q
  · exact hP z
theorem SR.gen (h : SR K g σ vs H ρ cs) (keep : ∀ a o, a ∉ tot σ vs ρ cs → H a = some o → H' a = some o) (dom : ∀ a o, H a = some o → ∃ o', H' a = some o') (new : ∀ a ∈ tot σ' vs' ρ' cs', a ∈ tot σ vs ρ cs ∨ H a = none) (nd : (tot σ' vs' ρ' cs').Nodup)
    (sl : Same (hide H (tot σ vs ρ cs ++ g.P0)) (hide H' (tot σ' vs' ρ' cs' ++ g.P0)) → RCs K g [] (hide H' (tot σ' vs' ρ' cs' ++ g.P0)) H' σ' ρ')
    (tp : Same (hide H (tot σ vs ρ cs ++ g.P0)) (hide H' (tot σ' vs' ρ' cs' ++ g.P0)) → RCs K g σ' (hide H' (tot σ' vs' ρ' cs' ++ g.P0)) H' (vs'.map some) cs')
    (pk : ∀ i, (C.pk i ∈ cs' ∨ C.ln i ∈ cs') → g.L i = true) : SR K g σ' vs' H' ρ' cs' := by
  have hB : Same (hide H (tot σ vs ρ cs ++ g.P0)) (hide H' (tot σ' vs' ρ' cs' ++ g.P0)) := hide_step keep new
  refine ⟨fun a o e n => ?_, fun a o e => ?_, h.pr, fun a ha => ?_, nd, sl hB, tp hB, pk⟩
  · refine keep a o (fun z => ?_) (h.fr a o e n)
    rcases h.nw a z with q | q
    · exact n q
    · rw [e] at q; cases q
  · obtain ⟨o', q⟩ := h.dm a o e
    exact dom a o' q
  · rcases new a ha with q | q
    · exact h.nw a q
    · cases e : g.H0 a with
      | none => exact .inr rfl
      | some o =>
        by_cases n : a ∈ g.Oa
        · exact .inl n
        · rw [h.fr a o e n] at q; cases q
def NewRes (K : PySem.W.Frag) (O : List Addr) (H H' : Hp) (v : V) : C → Prop
  | .v d => Dp K (hide H' O) v d
  | .p d => Dp K (hide H' O) v d ∧ PlainT (hide H' O) v
  | .own t o => t = 0 ∧ ∃ a, v = .ref a ∧ H a = none ∧ OwnF K (hide H' (a :: O)) H' a o
  | _ => False
theorem foot_cons_v {x : V} {d : D} : tot σ (x :: vs) ρ (.v d :: cs) = tot σ vs ρ cs := by
  show (footC (some x) (.v d) ++ foot (vs.map some) cs) ++ foot σ ρ = _
  have e : footC (some x) (.v d) = [] := by cases x <;> rfl
  rw [e]; rfl
theorem foot_cons_own {a : Addr} {t : Nat} {o : OD} : tot σ (.ref a :: vs) ρ (.own t o :: cs) = o.fp a ++ tot σ vs ρ cs := by
  show (o.fp a ++ foot (vs.map some) cs) ++ foot σ ρ = _
  rw [List.append_assoc]
theorem foot_cons_pk {x : V} {i : Nat} : tot σ (x :: vs) ρ (.pk i :: cs) = tot σ vs ρ cs := by
  show (footC (some x) (.pk i) ++ foot (vs.map some) cs) ++ foot σ ρ = _
  have e : footC (some x) (.pk i) = [] := by cases x <;> rfl
  rw [e]; rfl
theorem SR.res {v : V} {c : C} (h : SR K g σ vs H ρ cs) (e : Same H H') (r : NewRes K (tot σ vs ρ cs ++ g.P0) H H' v c) : SR K g σ (v :: vs) H' ρ (c :: cs) := by
  cases c with
  | no => exact r.elim
  | pk i => exact r.elim
  | ln i => exact r.elim
  | sub i p k => exact r.elim
  | v d =>
    have ft : tot σ (v :: vs) ρ (.v d :: cs) = tot σ vs ρ cs := foot_cons_v
    refine h.gen (fun a o _ q => e a o q) (fun a o q => ⟨o, e a o q⟩) (fun a ha => .inl (by rw [ft] at ha; exact ha)) (by rw [ft]; exact h.nd) (fun hB => h.sl.mono hB fun a _ u q => e a u q) (fun hB => ?_) (fun i hi => h.pk i (by simpa using hi))
    refine ⟨⟨v, rfl, ?_⟩, h.tp.mono hB fun a _ u q => e a u q⟩
    rw [ft]; exact r
  | p d =>
    have ft : tot σ (v :: vs) ρ (.p d :: cs) = tot σ vs ρ cs := by
      rw [show tot σ (v :: vs) ρ (.p d :: cs) = footC (some v) (.p d) ++ tot σ vs ρ cs from by
        show (footC (some v) (.p d) ++ foot (vs.map some) cs) ++ foot σ ρ = _
        rw [List.append_assoc]]
      cases v <;> rfl
    refine h.gen (fun a o _ q => e a o q) (fun a o q => ⟨o, e a o q⟩) (fun a ha => .inl (by rw [ft] at ha; exact ha)) (by rw [ft]; exact h.nd) (fun hB => h.sl.mono hB fun a _ u q => e a u q) (fun hB => ?_) (fun i hi => h.pk i (by simpa using hi))
    refine ⟨⟨v, rfl, ?_⟩, h.tp.mono hB fun a _ u q => e a u q⟩
    rw [ft]; exact r
  | own t o =>
    obtain ⟨rfl, a, rfl, na, oa⟩ := r
    obtain ⟨oa, fpa⟩ := oa.at_
    have ft : tot σ (.ref a :: vs) ρ (.own 0 o :: cs) = a :: tot σ vs ρ cs := by rw [foot_cons_own, fpa]; rfl
    refine h.gen (fun a o _ q => e a o q) (fun a o q => ⟨o, e a o q⟩) (fun b hb => ?_) ?_ (fun hB => h.sl.mono hB fun a _ u q => e a u q) (fun hB => ?_) (fun i hi => h.pk i (by simpa using hi))
    · rw [ft] at hb
      rcases List.mem_cons.mp hb with q | q
      · subst q; exact .inr na
      · exact .inl q
    · rw [ft]
      refine List.nodup_cons.mpr ⟨fun z => ?_, h.nd⟩
      obtain ⟨u, q⟩ := h.there a z
      rw [na] at q; cases q
    · refine ⟨⟨a, rfl, ?_, fun z => absurd rfl z, fun _ => ?_⟩, h.tp.mono hB fun a _ u q => e a u q⟩
      · rw [ft]; exact oa
      · cases z : g.H0 a with
        | none => rfl
        | some o =>
          obtain ⟨o', q⟩ := h.dm a o z
          rw [na] at q; cases q
theorem tot_cons {x : V} {c : C} : tot σ (x :: vs) ρ (c :: cs) = footC (some x) c ++ tot σ vs ρ cs := by
  show (footC (some x) c ++ foot (vs.map some) cs) ++ foot σ ρ = _
  rw [List.append_assoc]
theorem SR.pop {x : V} {c : C} (h : SR K g σ (x :: vs) H ρ (c :: cs)) : SR K g σ vs H ρ cs := by
  have ft := tot_cons (σ := σ) (vs := vs) (ρ := ρ) (cs := cs) (x := x) (c := c)
  refine h.gen (fun _ _ _ q => q) (fun _ o q => ⟨o, q⟩) (fun a ha => .inl (by rw [ft]; exact List.mem_append_right _ ha)) ?_ (fun hB => h.sl.mono hB fun _ _ _ q => q) (fun hB => (RCs.mono hB (fun _ _ _ q => q) h.tp).2) (fun i hi => h.pk i (hi.imp (List.mem_cons_of_mem _) (List.mem_cons_of_mem _)))
  have q := h.nd
  rw [ft] at q
  exact (List.nodup_append.mp q).2.1
theorem SR.top {x : V} {d : D} (h : SR K g σ (x :: vs) H ρ (.v d :: cs)) : Dp K (hide H (tot σ vs ρ cs ++ g.P0)) x d := by
  obtain ⟨x', e, q⟩ := h.tp.1
  cases e
  rw [foot_cons_v] at q
  exact q
theorem SR.len (h : SR K g σ vs H ρ cs) : σ.length = ρ.length := h.sl.len
theorem SR.pops : ∀ {xs : List V} {ccs : List C}, xs.length = ccs.length → SR K g σ (xs ++ vs) H ρ (ccs ++ cs) → SR K g σ vs H ρ cs
  | [], [], _, h => h
  | _ :: xs, _ :: ccs, hl, h => SR.pops (xs := xs) (ccs := ccs) (by simpa using hl) h.pop
  | [], _ :: _, hl, _ => by simp at hl
  | _ :: _, [], hl, _ => by simp at hl
theorem tot_app {xs : List V} {ccs : List C} (hl : xs.length = ccs.length) : tot σ (xs ++ vs) ρ (ccs ++ cs) = foot (xs.map some) ccs ++ tot σ vs ρ cs := by
  show foot ((xs ++ vs).map some) (ccs ++ cs) ++ foot σ ρ = _
  rw [List.map_append, foot_app (by simpa using hl), List.append_assoc]
theorem SR.rot {x : V} {c : C} {xs : List V} {ccs : List C} (hl : xs.length = ccs.length) (h : SR K g σ (xs ++ x :: vs) H ρ (ccs ++ c :: cs)) : SR K g σ (x :: (xs ++ vs)) H ρ (c :: (ccs ++ cs)) := by
  have e1 : tot σ (xs ++ x :: vs) ρ (ccs ++ c :: cs) = foot (xs.map some) ccs ++ (footC (some x) c ++ tot σ vs ρ cs) := by rw [tot_app hl, tot_cons]
  have e2 : tot σ (x :: (xs ++ vs)) ρ (c :: (ccs ++ cs)) = footC (some x) c ++ (foot (xs.map some) ccs ++ tot σ vs ρ cs) := by rw [tot_cons, tot_app hl]
  have pm : (foot (xs.map some) ccs ++ (footC (some x) c ++ tot σ vs ρ cs)).Perm (footC (some x) c ++ (foot (xs.map some) ccs ++ tot σ vs ρ cs)) := by
    exact List.perm_append_comm_assoc _ _ _
  refine h.gen (fun _ _ _ q => q) (fun _ o q => ⟨o, q⟩) (fun a ha => .inl ?_) ?_ (fun hB => h.sl.mono hB fun _ _ _ q => q) (fun hB => ?_) (fun i hi => h.pk i ?_)
  · rw [e1]; rw [e2] at ha; exact pm.mem_iff.mpr ha
  · rw [e2]; have q := h.nd; rw [e1] at q; exact pm.nodup_iff.mp q
  · have q := RCs.mono hB (fun _ _ _ q => q) h.tp
    rw [List.map_append] at q
    obtain ⟨q1, q2, q3⟩ := RCs.split (by simpa using hl) q
    rw [List.map_cons, List.map_append]
    exact ⟨q2, q1.app q3⟩
  · simp only [List.mem_append, List.mem_cons] at hi ⊢
    rcases hi with (h1 | h1 | h1) | (h1 | h1 | h1) <;> simp [h1]
theorem SR.unrot {x : V} {c : C} {xs : List V} {ccs : List C} (hl : xs.length = ccs.length) (h : SR K g σ (x :: (xs ++ vs)) H ρ (c :: (ccs ++ cs))) : SR K g σ (xs ++ x :: vs) H ρ (ccs ++ c :: cs) := by
  have e1 : tot σ (xs ++ x :: vs) ρ (ccs ++ c :: cs) = foot (xs.map some) ccs ++ (footC (some x) c ++ tot σ vs ρ cs) := by rw [tot_app hl, tot_cons]
  have e2 : tot σ (x :: (xs ++ vs)) ρ (c :: (ccs ++ cs)) = footC (some x) c ++ (foot (xs.map some) ccs ++ tot σ vs ρ cs) := by rw [tot_cons, tot_app hl]
  have pm : (foot (xs.map some) ccs ++ (footC (some x) c ++ tot σ vs ρ cs)).Perm (footC (some x) c ++ (foot (xs.map some) ccs ++ tot σ vs ρ cs)) := by
    exact List.perm_append_comm_assoc _ _ _
  refine h.gen (fun _ _ _ q => q) (fun _ o q => ⟨o, q⟩) (fun a ha => .inl ?_) ?_ (fun hB => h.sl.mono hB fun _ _ _ q => q) (fun hB => ?_) (fun i hi => h.pk i ?_)
  · rw [e2]; rw [e1] at ha; exact pm.mem_iff.mp ha
  · rw [e1]; have q := h.nd; rw [e2] at q; exact pm.nodup_iff.mpr q
  · have q := RCs.mono hB (fun _ _ _ q => q) h.tp
    rw [List.map_cons, List.map_append] at q
    obtain ⟨q2, q1⟩ := q
    obtain ⟨q1, q3⟩ := RCs.split (by simpa using hl) q1
    rw [List.map_append, List.map_cons]
    exact q1.app ⟨q2, q3⟩
  · simp only [List.mem_append, List.mem_cons] at hi ⊢
    rcases hi with (h1 | h1 | h1) | (h1 | h1 | h1) <;> simp [h1]
end

/-! ### slots -/
@[reducible] def rget : Rho → Nat → C
  | [], _ => .no
  | c :: _, 0 => c
  | _ :: ρ, n + 1 => rget ρ n
@[reducible] def rset : Rho → Nat → C → Rho
  | [], _, _ => []
  | _ :: ρ, 0, c => c :: ρ
  | c' :: ρ, n + 1, c => c' :: rset ρ n c
@[simp] theorem rget_zero {c : C} {ρ : Rho} : rget (c :: ρ) 0 = c := rfl
@[simp] theorem rget_succ {c : C} {ρ : Rho} {n : Nat} : rget (c :: ρ) (n + 1) = rget ρ n := rfl
@[simp] theorem rset_zero {c c' : C} {ρ : Rho} : rset (c' :: ρ) 0 c = c :: ρ := rfl
@[simp] theorem rset_succ {c c' : C} {ρ : Rho} {n : Nat} : rset (c' :: ρ) (n + 1) c = c' :: rset ρ n c := rfl
@[reducible] def dat (ρ : Rho) : C → Option D
  | .v d => some d
  | .p d => some d
  | .own _ (.lst ds) => some (.list ds)
  | .ln i => match rget ρ i with
    | .own _ (.lst ds) => some (.list ds)
    | .v d => some d
    | .p d => some d
    | _ => none
  | _ => none
@[reducible] def lfree : D → Bool
  | .list _ => false
  | .dict _ => false
  | .tuple ds => lfreeAll ds
  | _ => true
where lfreeAll : List D → Bool
  | [] => true
  | d :: ds => lfree d && lfreeAll ds
@[reducible] def C.lf : C → Bool
  | .v d => lfree d
  | .p d => lfree d
  | .own _ (.lst ds) => lfree.lfreeAll ds
  | _ => false
section
variable {K : PySem.W.Frag} {g : G} {σ σ' : L2.St} {vs vs' : List V} {B B' H H' : Hp} {ρ ρ' : Rho} {cs cs' : List C}
theorem seqT_lf {A O : List Addr} (hA : ∀ a ∈ A, ∃ xs, H a = some (.lst xs)) {a : Addr} {xs : List V} (h : SqT K (hide H O) a xs) : SqT K (hide H (A ++ O)) a xs := by
  rcases h with (h | ⟨o, h⟩) | h
  · obtain ⟨h1, h2⟩ := hide_some.mp h
    refine .inl (.inl (hide_some.mpr ⟨fun z => ?_, h2⟩))
    rcases List.mem_append.mp z with z | z
    · obtain ⟨ys, e⟩ := hA a z
      rw [h2] at e; cases e
    · exact h1 z
  · obtain ⟨h1, h2⟩ := hide_some.mp h
    refine .inl (.inr ⟨o, hide_some.mpr ⟨fun z => ?_, h2⟩⟩)
    rcases List.mem_append.mp z with z | z
    · obtain ⟨ys, e⟩ := hA a z
      rw [h2] at e; cases e
    · exact h1 z
  · exact .inr h
mutual
theorem dp_lf {A O : List Addr} (hA : ∀ a ∈ A, ∃ xs, H a = some (.lst xs)) : ∀ (d : D) (v : V), lfree d = true → Dp K (hide H O) v d → Dp K (hide H (A ++ O)) v d
  | .none, _, _, h => by cases h; exact .non
  | .bool b, _, _, h => by cases h; exact .bl b
  | .int i, _, _, h => by cases h; exact .int i
  | .str x, _, _, h => by cases h; exact .str x
  | .list ds, _, q, _ => by simp [lfree] at q
  | .tuple ds, _, q, h => by
    cases h with
    | tup hs ha => exact .tup (seqT_lf hA hs) (dpAll_lf hA ds _ (by simpa [lfree] using q) ha)
  | .dict _, _, _, h => by cases h
theorem dpAll_lf {A O : List Addr} (hA : ∀ a ∈ A, ∃ xs, H a = some (.lst xs)) : ∀ (ds : List D) (vs : List V), lfree.lfreeAll ds = true → DpAll K (hide H O) vs ds → DpAll K (hide H (A ++ O)) vs ds
  | [], _, _, h => by cases h; exact .nil
  | d :: ds, _, q, h => by
    have q' : lfree d = true ∧ lfree.lfreeAll ds = true := by simpa [lfree.lfreeAll] using q
    cases h with
    | cons h1 h2 => exact .cons (dp_lf hA d _ q'.1 h1) (dpAll_lf hA ds _ q'.2 h2)
end
theorem NewRes.lent {A O : List Addr} {v : V} {c : C} (hA : ∀ a ∈ A, ∃ xs, H a = some (.lst xs)) (e : Same H H') (hc : c.lf = true) (r : NewRes K O H H' v c) : NewRes K (A ++ O) H H' v c := by
  have hA' : ∀ a ∈ A, ∃ xs, H' a = some (.lst xs) := fun a ha => let ⟨xs, q⟩ := hA a ha; ⟨xs, e _ _ q⟩
  cases c with
  | v d => exact dp_lf hA' d v hc r
  | p d =>
    refine ⟨dp_lf hA' d v hc r.1, ?_⟩
    obtain ⟨a, o, xs, e1, e2, e3⟩ := r.2
    obtain ⟨q1, q2⟩ := hide_some.mp e2
    refine ⟨a, o, xs, e1, hide_some.mpr ⟨fun z => ?_, q2⟩, e3⟩
    rcases List.mem_append.mp z with z | z
    · obtain ⟨ys, w⟩ := hA' a z
      rw [q2] at w; cases w
    · exact q1 z
  | own t o =>
    obtain ⟨h0, a, e1, na, oa⟩ := r
    refine ⟨h0, a, e1, na, ?_⟩
    cases o with
    | dct _ => cases hc
    | dtt _ => cases hc
    | lck _ _ _ _ => cases hc
    | prp _ _ => cases hc
    | tre _ => cases hc
    | lst ds =>
      obtain ⟨xs, h1, h2⟩ := oa
      refine ⟨xs, h1, ?_⟩
      have q := dpAll_lf hA' ds xs hc h2
      have e2 : hide H' (A ++ a :: O) = hide H' (a :: (A ++ O)) := hide_congr fun b => by
        simp only [List.mem_append, List.mem_cons]
        constructor
        · rintro (z | z | z) <;> simp [z]
        · rintro (z | z | z) <;> simp [z]
      rw [e2] at q
      exact q
  | no => exact r
  | pk i => exact r
  | ln i => exact r
  | sub i p k => exact r
theorem NewRes.congr {O O' : List Addr} {v : V} {c : C} (h : ∀ a, a ∈ O ↔ a ∈ O') (r : NewRes K O H H' v c) : NewRes K O' H H' v c := by
  cases c with
  | v d =>
    show Dp K (hide H' O') v d
    rw [← hide_congr h]; exact r
  | p d =>
    show Dp K (hide H' O') v d ∧ PlainT (hide H' O') v
    rw [← hide_congr h]; exact r
  | own t o =>
    obtain ⟨h0, a, e1, na, oa⟩ := r
    refine ⟨h0, a, e1, na, ?_⟩
    rw [← hide_congr (O := a :: O) (fun b => by simp [h b])]; exact oa
  | no => exact r
  | pk i => exact r
  | ln i => exact r
  | sub i p k => exact r
theorem RCs.at_ : ∀ {σ0 : List (Option V)} {ρ : Rho} {i : Nat}, RCs K g σ B H σ0 ρ → rget ρ i ≠ .no → ∃ ov, σ0[i]? = some ov ∧ RC K g σ B H ov (rget ρ i)
  | [], [], i, _, h => absurd rfl h
  | ov :: σ0, c :: ρ, 0, h, _ => ⟨ov, rfl, h.1⟩
  | ov :: σ0, c :: ρ, i + 1, h, hn => by
    obtain ⟨ov', e, q⟩ := RCs.at_ (i := i) h.2 hn
    exact ⟨ov', by simpa using e, q⟩
  | [], _ :: _, _, h, _ => h.elim
  | _ :: _, [], _, h, _ => h.elim
theorem foot_at : ∀ {σ0 : List (Option V)} {ρ : Rho} {i : Nat} {a : Addr} {t : Nat} {o : OD}, σ0[i]? = some (some (.ref a)) → rget ρ i = .own t o → ∀ b ∈ o.fp a, b ∈ foot σ0 ρ
  | [], _, i, _, _, _, h, _ => by simp at h
  | ov :: σ0, [], i, _, _, _, _, h => by cases h
  | ov :: σ0, c :: ρ, 0, a, t, o, h1, h2 => by
    have e1 : ov = some (.ref a) := by simpa using h1
    have e2 : c = .own t o := h2
    subst e1; subst e2
    intro b hb
    exact List.mem_append_left _ hb
  | ov :: σ0, c :: ρ, i + 1, a, t, o, h1, h2 => fun b hb => by
    show b ∈ footC ov c ++ foot σ0 ρ
    exact List.mem_append_right _ (foot_at (i := i) (by simpa using h1) h2 b hb)
theorem SR.own {i t : Nat} {o : OD} (h : SR K g σ vs H ρ cs) (e : rget ρ i = .own t o) : ∃ a, σ[i]? = some (some (.ref a)) ∧ a ∈ foot σ ρ ∧ OwnAt K (hide H (tot σ vs ρ cs ++ g.P0)) H a o ∧ (t ≠ 0 → g.tg t = a) ∧ (t = 0 → g.H0 a = none) := by
  obtain ⟨ov, e1, q⟩ := h.sl.at_ (i := i) (by rw [e]; exact fun z => nomatch z)
  rw [e] at q
  obtain ⟨a, e2, q1, q2⟩ := q
  subst e2
  exact ⟨a, e1, foot_at e1 e a q1.root_mem, q1, q2⟩
theorem SR.slot {i : Nat} {d : D} (h : SR K g σ vs H ρ cs) (e : rget ρ i = .v d) : ∃ x, σ[i]? = some (some x) ∧ Dp K (hide H (tot σ vs ρ cs ++ g.P0)) x d := by
  obtain ⟨ov, e1, q⟩ := h.sl.at_ (i := i) (by rw [e]; exact fun z => nomatch z)
  rw [e] at q
  obtain ⟨x, e2, q1⟩ := q
  subst e2
  exact ⟨x, e1, q1⟩
theorem SR.slotP {i : Nat} {d : D} (h : SR K g σ vs H ρ cs) (e : rget ρ i = .p d) : ∃ x, σ[i]? = some (some x) ∧ Dp K (hide H (tot σ vs ρ cs ++ g.P0)) x d ∧ PlainT (hide H (tot σ vs ρ cs ++ g.P0)) x := by
  obtain ⟨ov, e1, q⟩ := h.sl.at_ (i := i) (by rw [e]; exact fun z => nomatch z)
  rw [e] at q
  obtain ⟨x, e2, q1⟩ := q
  subst e2
  exact ⟨x, e1, q1⟩
def lentA (σ : L2.St) (ρ : Rho) : List C → List Addr
  | [] => []
  | .ln i :: cs => (match σ[i]?, rget ρ i with
    | some (some (.ref a)), .own _ (.lst _) => [a]
    | _, _ => []) ++ lentA σ ρ cs
  | _ :: cs => lentA σ ρ cs
theorem lentA_mem : ∀ {ccs : List C} {a : Addr}, a ∈ lentA σ ρ ccs → ∃ i t ds, C.ln i ∈ ccs ∧ σ[i]? = some (some (.ref a)) ∧ rget ρ i = .own t (.lst ds)
  | [], a, h => by simp [lentA] at h
  | c :: ccs, a, h => by
    have rec_ : a ∈ lentA σ ρ ccs → ∃ i t ds, C.ln i ∈ c :: ccs ∧ σ[i]? = some (some (.ref a)) ∧ rget ρ i = .own t (.lst ds) := fun z => by
      obtain ⟨i, t, ds, h1, h2⟩ := lentA_mem z
      exact ⟨i, t, ds, List.mem_cons_of_mem _ h1, h2⟩
    cases c with
    | ln i =>
      rw [lentA, List.mem_append] at h
      rcases h with h | h
      · revert h
        split
        · rename_i b t ds e1 e2
          intro h
          have e3 : a = b := by simpa using h
          subst e3
          exact ⟨i, t, ds, List.mem_cons_self, e1, e2⟩
        · intro h; simp at h
      · exact rec_ h
    | no => exact rec_ h
    | v d => exact rec_ h
    | p d => exact rec_ h
    | own t o => exact rec_ h
    | pk i => exact rec_ h
    | sub i p k => exact rec_ h
theorem mem_lentA : ∀ {ccs : List C} {a : Addr} {i t : Nat} {ds : List D}, C.ln i ∈ ccs → σ[i]? = some (some (.ref a)) → rget ρ i = .own t (.lst ds) → a ∈ lentA σ ρ ccs
  | [], _, _, _, _, h, _, _ => by simp at h
  | c :: ccs, a, i, t, ds, h, h1, h2 => by
    rcases List.mem_cons.mp h with e | h
    · subst e
      rw [lentA, h1, h2]
      simp
    · have q := mem_lentA h h1 h2
      cases c with
      | ln j => rw [lentA]; exact List.mem_append_right _ q
      | sub j p k => exact q
      | no => exact q
      | v d => exact q
      | p d => exact q
      | own t o => exact q
      | pk i => exact q
@[reducible] def C.isLn : C → Bool
  | .ln _ => true
  | _ => false
theorem lentA_none : ∀ {ccs : List C}, ccs.any C.isLn = false → lentA σ ρ ccs = []
  | [], _ => rfl
  | c :: ccs, h => by
    have h' : c.isLn = false ∧ ccs.any C.isLn = false := by simpa using h
    have r := lentA_none h'.2
    cases c with
    | ln i => simp [C.isLn] at h'
    | sub i p k => exact r
    | no => exact r
    | v d => exact r
    | p d => exact r
    | own t o => exact r
    | pk i => exact r
def dats (ρ : Rho) : List C → Option (List D)
  | [] => some []
  | c :: cs => match dat ρ c, dats ρ cs with
    | some d, some ds => some (d :: ds)
    | _, _ => none
theorem SR.use {xs : List V} {ccs : List C} {ds : List D} (h : SR K g σ (xs ++ vs) H ρ (ccs ++ cs)) (hl : xs.length = ccs.length) (hd : dats ρ ccs = some ds) :
    ∃ O, (∀ a ∈ O, a ∈ tot σ vs ρ cs ++ g.P0) ∧ DpAll K (hide H O) xs ds ∧ ∀ H' v c, Same H H' → NewRes K O H H' v c → (ccs.any C.isLn = true → c.lf = true) → NewRes K (tot σ vs ρ cs ++ g.P0) H H' v c := by
  refine ⟨(tot σ vs ρ cs ++ g.P0).filter fun a => decide (a ∉ lentA σ ρ ccs), fun a ha => (List.mem_filter.mp ha).1, ?_, fun H' v c e r hc => ?_⟩
  · -- every operand reads as its data
    have big : ∀ a, a ∈ (tot σ vs ρ cs ++ g.P0).filter (fun a => decide (a ∉ lentA σ ρ ccs)) → a ∈ tot σ (xs ++ vs) ρ (ccs ++ cs) ++ g.P0 := fun a ha => by
      rw [tot_app hl]
      rcases List.mem_append.mp (List.mem_filter.mp ha).1 with q | q
      · exact List.mem_append_left _ (List.mem_append_right _ q)
      · exact List.mem_append_right _ q
    have up : Same (hide H (tot σ (xs ++ vs) ρ (ccs ++ cs) ++ g.P0)) (hide H ((tot σ vs ρ cs ++ g.P0).filter fun a => decide (a ∉ lentA σ ρ ccs))) := fun a o q => by
      obtain ⟨h1, h2⟩ := hide_some.mp q
      exact hide_some.mpr ⟨fun z => h1 (big a z), h2⟩
    have tp := h.tp
    rw [List.map_append] at tp
    have tp1 := (RCs.split (by simpa using hl) tp).1
    have nd := h.nd
    rw [tot_app hl] at nd
    have key : ∀ (ys : List V) (qs : List C) (es : List D), ys.length = qs.length → (∀ c ∈ qs, c ∈ ccs) → (∀ a ∈ foot (ys.map some) qs, a ∈ foot (xs.map some) ccs) → RCs K g σ (hide H (tot σ (xs ++ vs) ρ (ccs ++ cs) ++ g.P0)) H (ys.map some) qs → dats ρ qs = some es →
        DpAll K (hide H ((tot σ vs ρ cs ++ g.P0).filter fun a => decide (a ∉ lentA σ ρ ccs))) ys es := by
      intro ys
      induction ys with
      | nil =>
        intro qs es hlen _ _ _ hds
        cases qs with
        | nil => cases hds; exact .nil
        | cons _ _ => simp at hlen
      | cons y ys ih =>
        intro qs es hlen hin hft hrc hds
        cases qs with
        | nil => simp at hlen
        | cons q qs =>
          rw [dats] at hds
          cases e1 : dat ρ q with
          | none => rw [e1] at hds; cases hds
          | some d =>
            cases e2 : dats ρ qs with
            | none => rw [e1, e2] at hds; cases hds
            | some es' =>
              rw [e1, e2] at hds
              cases hds
              refine .cons ?_ (ih qs es' (by simpa using hlen) (fun c hc => hin c (List.mem_cons_of_mem _ hc)) (fun a ha => hft a (by rw [List.map_cons, foot]; exact List.mem_append_right _ ha)) hrc.2 e2)
              have hq := hrc.1
              cases q with
              | no => cases e1
              | pk i => cases e1
              | sub i p k => cases e1
              | v d' =>
                cases e1
                obtain ⟨x, e3, q1⟩ := hq
                cases e3
                exact dp_mono up _ _ q1
              | p d' =>
                cases e1
                obtain ⟨x, e3, q1, _⟩ := hq
                cases e3
                exact dp_mono up _ _ q1
              | own t o =>
                cases o with
                | dct _ => cases e1
                | dtt _ => cases e1
                | lck _ _ _ _ => cases e1
                | prp _ _ => cases e1
                | tre _ => cases e1
                | lst zs =>
                  cases e1
                  obtain ⟨a, e3, ⟨us, q1, q2⟩, _⟩ := hq
                  cases e3
                  have ha : a ∈ foot (xs.map some) ccs := hft a (by rw [List.map_cons, foot]; exact List.mem_append_left _ (by simp [footC]))
                  refine .lst (.inl (.inl (hide_some.mpr ⟨fun z => ?_, q1⟩))) (dpAll_mono up _ _ q2)
                  rcases List.mem_append.mp (List.mem_filter.mp z).1 with z | z
                  · exact (List.nodup_append.mp nd).2.2 a ha a z rfl
                  · exact h.pout a (by rw [tot_app hl]; exact List.mem_append_left _ ha) z
              | ln i =>
                obtain ⟨x, e3, q1⟩ := hq
                cases e3
                have hin' := hin (.ln i) List.mem_cons_self
                revert e1
                show (match rget ρ i with
                  | .own _ (.lst ds) => some (PyData.list ds)
                  | .v d => some d
                  | .p d => some d
                  | _ => none) = some d → _
                split
                · rename_i t zs eo
                  intro e1
                  cases e1
                  obtain ⟨a, e4, _, ⟨us, q2, q3⟩, _⟩ := h.own eo
                  rw [q1] at e4
                  cases e4
                  refine .lst (.inl (.inl (hide_some.mpr ⟨fun z => ?_, q2⟩))) (dpAll_mono up _ _ q3)
                  exact of_decide_eq_true (List.mem_filter.mp z).2 (mem_lentA hin' q1 eo)
                · rename_i d' eo
                  intro e1
                  cases e1
                  obtain ⟨x', e4, q2⟩ := h.slot eo
                  rw [q1] at e4
                  cases e4
                  exact dp_mono up _ _ q2
                · rename_i d' eo
                  intro e1
                  cases e1
                  obtain ⟨x', e4, q2, _⟩ := h.slotP eo
                  rw [q1] at e4
                  cases e4
                  exact dp_mono up _ _ q2
                · intro e1; cases e1
    exact key xs ccs ds hl (fun _ q => q) (fun _ q => q) tp1 hd
  · -- the answer
    cases hb : ccs.any C.isLn with
    | false =>
      have e0 := lentA_none (σ := σ) (ρ := ρ) hb
      refine r.congr fun a => ?_
      rw [e0]
      simp
    | true =>
      have hlst : ∀ a ∈ lentA σ ρ ccs, ∃ xs, H a = some (.lst xs) := fun a ha => by
        obtain ⟨i, t, zs, h1, h2, h3⟩ := lentA_mem ha
        obtain ⟨b, e4, _, ⟨us, q2, _⟩, _⟩ := h.own h3
        rw [h2] at e4
        cases e4
        exact ⟨us, q2⟩
      refine (NewRes.lent hlst e (hc hb) r).congr fun a => ?_
      simp only [List.mem_append, List.mem_filter, decide_not, Bool.not_eq_true', decide_eq_false_iff_not]
      constructor
      · rintro (q | ⟨q, _⟩)
        · obtain ⟨i, t, zs, h1, h2, h3⟩ := lentA_mem q
          obtain ⟨b, e4, q5, _⟩ := h.own h3
          rw [h2] at e4
          cases e4
          exact .inl (.inr q5)
        · exact q
      · intro q
        by_cases z : a ∈ lentA σ ρ ccs
        · exact .inl z
        · exact .inr ⟨q, z⟩
end
end DL

set_option Elab.async false
set_option linter.all false
set_option maxRecDepth 100000
set_option maxHeartbeats 4000000
/-! DL, expressions: each rule of the hand layer, said over data. -/
namespace DL
open PySem PySem.Spec PyProof.Rows L2

abbrev KC := C → Rho → Prop
abbrev KX := XD → Rho → Prop
abbrev WE := Rho → KC → KX → Prop
abbrev WT := Rho → (Bool → Rho → Prop) → KX → Prop
abbrev WA := Rho → (List C → Rho → Prop) → KX → Prop
def XRep (K : PySem.W.Frag) (B H : Hp) (x : XD) (cls : Value) (d : Option Addr) : Prop :=
  Value.ref (He.ga K x.cls) = cls ∧ ((d = none ∧ x.fs = []) ∨ (x.fs ≠ [] ∧ ∃ a fs, d = some a ∧ H a = some (.xd fs) ∧ XFs K B fs x.fs))
def XEnds (K : PySem.W.Frag) (g : G) (W : WX) (σ : L2.St) (ED : KX) : Prop :=
  ∀ x ρ' cls d H', SR K g σ [] H' ρ' [] → XRep K (hide H' (tot σ [] ρ' [] ++ g.P0)) H' x cls d → ED x ρ' → W cls d σ H'
def Sem (K : PySem.W.Frag) (g : G) (W : WX) (t : TE) (w : WE) : Prop :=
  ∀ (σ : L2.St) (vs : List V) (H : Hp) (ρ : Rho) (cs : List C) (QD : KC) (ED : KX) (Q : VK), SR K g σ vs H ρ cs → w ρ QD ED → XEnds K g W σ ED →
    (∀ v H' c ρ', SR K g σ (v :: vs) H' ρ' (c :: cs) → QD c ρ' → Q v H') → t σ H Q
def SemT (K : PySem.W.Frag) (g : G) (W : WX) (t : TT) (w : WT) : Prop :=
  ∀ (σ : L2.St) (vs : List V) (H : Hp) (ρ : Rho) (cs : List C) (QD : Bool → Rho → Prop) (ED : KX) (Q : Bool → Hp → Prop), SR K g σ vs H ρ cs → w ρ QD ED → XEnds K g W σ ED →
    (∀ b H' ρ', SR K g σ vs H' ρ' cs → QD b ρ' → Q b H') → t σ H Q
def SemA (K : PySem.W.Frag) (g : G) (W : WX) (t : TA) (w : WA) : Prop :=
  ∀ (σ : L2.St) (vs : List V) (H : Hp) (ρ : Rho) (cs : List C) (QD : List C → Rho → Prop) (ED : KX) (Q : List V → Hp → Prop), SR K g σ vs H ρ cs → w ρ QD ED → XEnds K g W σ ED →
    (∀ xs H' ccs ρ', xs.length = ccs.length → SR K g σ (xs ++ vs) H' ρ' (ccs ++ cs) → QD ccs ρ' → Q xs H') → t σ H Q
structure EE (X : Cx) (g : G) (W : WX) (e : Expr) (w : WE) : Prop where
  ex : ∃ t, PE X e t ∧ Sem X.K g W t w
structure ET (X : Cx) (g : G) (W : WX) (e : Expr) (w : WT) : Prop where
  ex : ∃ t, PT X e t ∧ SemT X.K g W t w
structure EW (X : Cx) (g : G) (W : WX) (e : Expr) (w : WT) : Prop where
  ex : ∃ t, PW X e t ∧ SemT X.K g W t w
structure EA (X : Cx) (g : G) (W : WX) (es : List Expr) (w : WA) : Prop where
  ex : ∃ t, PA X es t ∧ SemA X.K g W t w

@[reducible] def useK (ρ : Rho) : List C → (List D → Prop) → Prop
  | [], k => k []
  | c :: cs, k => match dat ρ c with
    | some d => useK ρ cs fun ds => k (d :: ds)
    | none => False
theorem useK_dats {ρ : Rho} : ∀ {cs : List C} {k : List D → Prop}, useK ρ cs k → ∃ ds, dats ρ cs = some ds ∧ k ds
  | [], k, h => ⟨[], rfl, h⟩
  | c :: cs, k, h => by
    unfold useK at h
    cases e : dat ρ c with
    | none => rw [e] at h; exact h.elim
    | some d =>
      rw [e] at h
      obtain ⟨ds, e2, q⟩ := useK_dats h
      refine ⟨d :: ds, ?_, q⟩
      unfold dats
      rw [e, e2]
@[reducible] def okR (cs : List C) (c : C) : Prop := cs.any C.isLn = true → c.lf = true
abbrev O2 := D → D → (C → Prop) → Prop
abbrev O1 := D → (C → Prop) → Prop
abbrev OL := List D → (C → Prop) → Prop
def Lift2 (K : PySem.W.Frag) (r : R2) (o : O2) : Prop :=
  ∀ (O : List Addr) (H : Hp) (x y : V) (dx dy : D) (QD : C → Prop) (Q : VK), (∀ a ∈ O, ∃ u, H a = some u) → Dp K (hide H O) x dx → Dp K (hide H O) y dy → o dx dy QD →
    (∀ v H' c, Same H H' → NewRes K O H H' v c → QD c → Q v H') → r x y H Q
def Lift1 (K : PySem.W.Frag) (r : V → Hp → VK → Prop) (o : O1) : Prop :=
  ∀ (O : List Addr) (H : Hp) (x : V) (dx : D) (QD : C → Prop) (Q : VK), (∀ a ∈ O, ∃ u, H a = some u) → Dp K (hide H O) x dx → o dx QD →
    (∀ v H' c, Same H H' → NewRes K O H H' v c → QD c → Q v H') → r x H Q
def LiftL (K : PySem.W.Frag) (r : List V → Hp → VK → Prop) (o : OL) : Prop :=
  ∀ (O : List Addr) (H : Hp) (xs : List V) (ds : List D) (QD : C → Prop) (Q : VK), (∀ a ∈ O, ∃ u, H a = some u) → DpAll K (hide H O) xs ds → o ds QD →
    (∀ v H' c, Same H H' → NewRes K O H H' v c → QD c → Q v H') → r xs H Q
@[reducible] def use2 (ρ : Rho) (c1 c2 : C) (o : O2) (Q : KC) : Prop := useK ρ [c2, c1] fun ds => match ds with
  | [d2, d1] => o d1 d2 fun c => okR [c2, c1] c ∧ Q c ρ
  | _ => False
@[reducible] def use1 (ρ : Rho) (c1 : C) (o : O1) (Q : KC) : Prop := useK ρ [c1] fun ds => match ds with
  | [d1] => o d1 fun c => okR [c1] c ∧ Q c ρ
  | _ => False
@[reducible] def useL (ρ : Rho) (cs : List C) (o : OL) (Q : KC) : Prop := useK ρ cs fun ds => o ds fun c => okR cs c ∧ Q c ρ

section
variable {K : PySem.W.Frag} {g : G} {W : WX} {σ : L2.St} {vs : List V} {H H' : Hp} {ρ : Rho} {cs : List C}
theorem SR.resV {v : V} {d : D} (h : SR K g σ vs H ρ cs) (e : Same H H') (r : Dp K (hide H' (tot σ vs ρ cs ++ g.P0)) v d) : SR K g σ (v :: vs) H' ρ (.v d :: cs) := SR.res (c := .v d) h e r
theorem SR.use2 {x y : V} {c1 c2 : C} {o : O2} {r : R2} {QD : KC} {Q : VK} (l : Lift2 K r o) (h : SR K g σ (y :: x :: vs) H ρ (c2 :: c1 :: cs)) (q : DL.use2 ρ c1 c2 o QD)
    (hQ : ∀ v H' c, SR K g σ (v :: vs) H' ρ (c :: cs) → QD c ρ → Q v H') : r x y H Q := by
  obtain ⟨ds, e, q⟩ := useK_dats q
  obtain ⟨O, hO, hd, fin⟩ := SR.use (xs := [y, x]) (ccs := [c2, c1]) h rfl e
  cases hd with
  | cons h2 hd =>
    cases hd with
    | cons h1 hd =>
      cases hd
      refine l O H x y _ _ _ Q (fun a ha => (SR.pops (xs := [y, x]) (ccs := [c2, c1]) rfl h).domO a (hO a ha)) h1 h2 q fun v H' c sm nr ⟨ok, qd⟩ => ?_
      exact hQ v H' c (SR.res (SR.pops (xs := [y, x]) (ccs := [c2, c1]) rfl h) sm (fin H' v c sm nr ok)) qd
theorem SR.use1 {x : V} {c1 : C} {o : O1} {r : V → Hp → VK → Prop} {QD : KC} {Q : VK} (l : Lift1 K r o) (h : SR K g σ (x :: vs) H ρ (c1 :: cs)) (q : DL.use1 ρ c1 o QD)
    (hQ : ∀ v H' c, SR K g σ (v :: vs) H' ρ (c :: cs) → QD c ρ → Q v H') : r x H Q := by
  obtain ⟨ds, e, q⟩ := useK_dats q
  obtain ⟨O, hO, hd, fin⟩ := SR.use (xs := [x]) (ccs := [c1]) h rfl e
  cases hd with
  | cons h1 hd =>
    cases hd
    refine l O H x _ _ Q (fun a ha => (SR.pops (xs := [x]) (ccs := [c1]) rfl h).domO a (hO a ha)) h1 q fun v H' c sm nr ⟨ok, qd⟩ => ?_
    exact hQ v H' c (SR.res (SR.pops (xs := [x]) (ccs := [c1]) rfl h) sm (fin H' v c sm nr ok)) qd
theorem SR.useL {xs : List V} {ccs : List C} {o : OL} {r : List V → Hp → VK → Prop} {QD : KC} {Q : VK} (l : LiftL K r o) (hl : xs.length = ccs.length) (h : SR K g σ (xs ++ vs) H ρ (ccs ++ cs)) (q : DL.useL ρ ccs o QD)
    (hQ : ∀ v H' c, SR K g σ (v :: vs) H' ρ (c :: cs) → QD c ρ → Q v H') : r xs H Q := by
  obtain ⟨ds, e, q⟩ := useK_dats q
  obtain ⟨O, hO, hd, fin⟩ := SR.use h hl e
  refine l O H xs ds _ Q (fun a ha => (SR.pops hl h).domO a (hO a ha)) hd q fun v H' c sm nr ⟨ok, qd⟩ => ?_
  exact hQ v H' c (SR.res (SR.pops hl h) sm (fin H' v c sm nr ok)) qd
end

/-! ### names, constants -/
@[reducible] def wVar (i : Nat) : WE := fun ρ Q _ => match rget ρ i with
  | .v d => Q (.v d) ρ
  | .p d => Q (.v d) ρ
  | _ => False
@[reducible] def wVarP (i : Nat) : WE := fun ρ Q _ => match rget ρ i with
  | .p d => Q (.p d) ρ
  | _ => False
@[reducible] def wLn (i : Nat) : WE := fun ρ Q _ => match rget ρ i with
  | .v d => Q (.v d) ρ
  | .p d => Q (.v d) ρ
  | .own _ _ => Q (.ln i) ρ
  | _ => False
@[reducible] def wC (d : D) : WE := fun ρ Q _ => Q (.v d) ρ
section
variable {X : Cx} {g : G} {W : WX} {pos : Pos}
theorem sem_var {K : PySem.W.Frag} {i : Nat} : Sem K g W (tVar i) (wVar i) := by
  intro σ vs H ρ cs QD ED Q hS hw hX hQ
  unfold wVar at hw
  split at hw
  · rename_i d e
    obtain ⟨x, e1, q1⟩ := hS.slot e
    exact ⟨x, e1, hQ x H _ ρ (SR.resV hS (Same.refl H) q1) hw⟩
  · rename_i d e
    obtain ⟨x, e1, q1, _⟩ := hS.slotP e
    exact ⟨x, e1, hQ x H _ ρ (SR.resV hS (Same.refl H) q1) hw⟩
  · exact hw.elim
theorem sem_varP {K : PySem.W.Frag} {i : Nat} : Sem K g W (tVar i) (wVarP i) := by
  intro σ vs H ρ cs QD ED Q hS hw hX hQ
  unfold wVarP at hw
  split at hw
  · rename_i d e
    obtain ⟨x, e1, q1, q2⟩ := hS.slotP e
    exact ⟨x, e1, hQ x H _ ρ (SR.res (c := .p d) hS (Same.refl H) ⟨q1, q2⟩) hw⟩
  · exact hw.elim
theorem ee_varP {i : Nat} {x : Str} (h : PE X (.Name x pos) (tVar i)) : EE X g W (.Name x pos) (wVarP i) := ⟨_, h, sem_varP⟩
theorem ee_var {i : Nat} {x : Str} (h : PE X (.Name x pos) (tVar i)) : EE X g W (.Name x pos) (wVar i) := ⟨_, h, sem_var⟩
theorem SR.pushLn {K : PySem.W.Frag} {σ : L2.St} {vs : List V} {H : Hp} {ρ : Rho} {cs : List C} {i : Nat} {x : V} (h : SR K g σ vs H ρ cs) (e : σ[i]? = some (some x)) (hL : g.L i = true) : SR K g σ (x :: vs) H ρ (.ln i :: cs) := by
  have ft : tot σ (x :: vs) ρ (.ln i :: cs) = tot σ vs ρ cs := by
    rw [tot_cons]
    have e : footC (some x) (.ln i) = [] := by cases x <;> rfl
    rw [e]; rfl
  refine h.gen (fun _ _ _ q => q) (fun _ o q => ⟨o, q⟩) (fun a ha => .inl (by rw [ft] at ha; exact ha)) (by rw [ft]; exact h.nd) (fun hB => h.sl.mono hB fun _ _ _ q => q) (fun hB => ⟨⟨x, rfl, e⟩, h.tp.mono hB fun _ _ _ q => q⟩) (fun j hj => ?_)
  simp only [List.mem_cons] at hj
  rcases hj with (z | z) | (z | z)
  · cases z
  · exact h.pk j (.inl z)
  · cases z; exact hL
  · exact h.pk j (.inr z)
theorem SR.pushPk {K : PySem.W.Frag} {σ : L2.St} {vs : List V} {H : Hp} {ρ : Rho} {cs : List C} {i : Nat} {x : V} (h : SR K g σ vs H ρ cs) (e : σ[i]? = some (some x)) (hL : g.L i = true) : SR K g σ (x :: vs) H ρ (.pk i :: cs) := by
  have ft : tot σ (x :: vs) ρ (.pk i :: cs) = tot σ vs ρ cs := foot_cons_pk
  refine h.gen (fun _ _ _ q => q) (fun _ o q => ⟨o, q⟩) (fun a ha => .inl (by rw [ft] at ha; exact ha)) (by rw [ft]; exact h.nd) (fun hB => h.sl.mono hB fun _ _ _ q => q) (fun hB => ⟨⟨x, rfl, e⟩, h.tp.mono hB fun _ _ _ q => q⟩) (fun j hj => ?_)
  simp only [List.mem_cons] at hj
  rcases hj with (z | z) | (z | z)
  · cases z; exact hL
  · exact h.pk j (.inl z)
  · cases z
  · exact h.pk j (.inr z)
theorem sem_ln {K : PySem.W.Frag} {i : Nat} (hL : g.L i = true) : Sem K g W (tVar i) (wLn i) := by
  intro σ vs H ρ cs QD ED Q hS hw hX hQ
  unfold wLn at hw
  split at hw
  · rename_i d e
    obtain ⟨x, e1, q1⟩ := hS.slot e
    exact ⟨x, e1, hQ x H _ ρ (SR.resV hS (Same.refl H) q1) hw⟩
  · rename_i d e
    obtain ⟨x, e1, q1, _⟩ := hS.slotP e
    exact ⟨x, e1, hQ x H _ ρ (SR.resV hS (Same.refl H) q1) hw⟩
  · rename_i t o e
    obtain ⟨a, e1, _⟩ := hS.own e
    exact ⟨_, e1, hQ _ H _ ρ (hS.pushLn e1 hL) hw⟩
  · exact hw.elim
theorem ee_ln {i : Nat} {x : Str} (hL : g.L i = true) (h : PE X (.Name x pos) (tVar i)) : EE X g W (.Name x pos) (wLn i) := ⟨_, h, sem_ln hL⟩
theorem sem_C {K : PySem.W.Frag} {v : V} {d : D} (h : ∀ B, Dp K B v d) : Sem K g W (tC v) (wC d) := fun σ vs H ρ cs QD ED Q hS hw hX hQ => hQ v H _ ρ (SR.resV hS (Same.refl H) (h _)) hw
theorem ee_int {i j} : EE X g W (.Constant (.int i) j pos) (wC (.int i)) := ⟨_, pe_int, sem_C fun _ => .int i⟩
theorem ee_bl {b j} : EE X g W (.Constant (.bool b) j pos) (wC (.bool b)) := ⟨_, pe_bl, sem_C fun _ => .bl b⟩
theorem ee_non {j} : EE X g W (.Constant .none j pos) (wC .none) := ⟨_, pe_non, sem_C fun _ => .non⟩
theorem ee_str {x j} : EE X g W (.Constant (.str x) j pos) (wC (.str x)) := ⟨_, pe_str, sem_C fun _ => .str x⟩
end

/-! ### operators -/
@[reducible] def wB (o : O2) (wa wb : WE) : WE := fun ρ Q E => wa ρ (fun c1 ρ1 => wb ρ1 (fun c2 ρ2 => use2 ρ2 c1 c2 o Q) E) E
@[reducible] def wU (o : O1) (wa : WE) : WE := fun ρ Q E => wa ρ (fun c1 ρ1 => use1 ρ1 c1 o Q) E
section
variable {K : PySem.W.Frag} {g : G} {W : WX} {ta tb : TE} {wa wb : WE} {r : R2} {o : O2}
theorem sem_op (l : Lift2 K r o) (ha : Sem K g W ta wa) (hb : Sem K g W tb wb) : Sem K g W (tOp r ta tb) (wB o wa wb) := by
  intro σ vs H ρ cs QD ED Q hS hw hX hQ
  refine ha σ vs H ρ cs _ ED _ hS hw hX fun x H1 c1 ρ1 S1 q1 => ?_
  refine hb σ (x :: vs) H1 ρ1 (c1 :: cs) _ ED _ S1 q1 hX fun y H2 c2 ρ2 S2 q2 => ?_
  exact S2.use2 l q2 fun v H' c S3 q3 => hQ v H' c ρ2 S3 q3
theorem sem_un {r : V → Hp → VK → Prop} {o : O1} (l : Lift1 K r o) (ha : Sem K g W ta wa) : Sem K g W (tUn r ta) (wU o wa) := by
  intro σ vs H ρ cs QD ED Q hS hw hX hQ
  refine ha σ vs H ρ cs _ ED _ hS hw hX fun x H1 c1 ρ1 S1 q1 => ?_
  exact S1.use1 l q1 fun v H' c S3 q3 => hQ v H' c ρ1 S3 q3
end
@[reducible] def oI (f : Int → Int → D) : O2 := fun d1 d2 k => match d1, d2 with
  | .int i, .int j => k (.v (f i j))
  | _, _ => False
@[reducible] def oIc (P : Int → Int → Prop) (f : Int → Int → D) : O2 := fun d1 d2 k => match d1, d2 with
  | .int i, .int j => P i j ∧ k (.v (f i j))
  | _, _ => False
@[simp] theorem oI_int {f : Int → Int → D} {i j : Int} {k : C → Prop} : oI f (.int i) (.int j) k = k (.v (f i j)) := rfl
@[simp] theorem oIc_int {P : Int → Int → Prop} {f : Int → Int → D} {i j : Int} {k : C → Prop} : oIc P f (.int i) (.int j) k = (P i j ∧ k (.v (f i j))) := rfl
theorem lift_I {K : PySem.W.Frag} {gv : Int → Int → V} {f : Int → Int → D} (h : ∀ i j B, Dp K B (gv i j) (f i j)) : Lift2 K (rI0 gv) (oI f) := by
  intro O H x y dx dy QD Q _ hx hy q fin
  cases hx <;> try exact q.elim
  cases hy <;> try exact q.elim
  exact ⟨_, _, rfl, rfl, fin _ H (.v _) (Same.refl H) (h _ _ _) q⟩
theorem lift_Ic {K : PySem.W.Frag} {P P' : Int → Int → Prop} {gv : Int → Int → V} {f : Int → Int → D} (hp : ∀ i j, P i j → P' i j) (h : ∀ i j B, Dp K B (gv i j) (f i j)) : Lift2 K (rI P' gv) (oIc P f) := by
  intro O H x y dx dy QD Q _ hx hy q fin
  cases hx <;> try exact q.elim
  cases hy <;> try exact q.elim
  exact ⟨_, _, rfl, rfl, hp _ _ q.1, fin _ H (.v _) (Same.refl H) (h _ _ _) q.2⟩
abbrev oAdd : O2 := oI fun i j => .int (i + j)
abbrev oSub : O2 := oI fun i j => .int (i - j)
def MulOk (i j : Int) : Prop := IntMulOk i j
abbrev oMul : O2 := oIc MulOk fun i j => .int (i * j)
abbrev oDiv : O2 := oIc CDivW fun i j => .int (i / j)
abbrev oMod : O2 := oIc (fun _ j => 0 < j) fun i j => .int (i % j)
abbrev oPow : O2 := oIc CPow fun i j => .int (i ^ j.toNat)
abbrev oLt : O2 := oI fun i j => .bool (decide (i < j))
abbrev oLe : O2 := oI fun i j => .bool (decide (i ≤ j))
abbrev oGt : O2 := oI fun i j => .bool (decide (j < i))
abbrev oGe : O2 := oI fun i j => .bool (decide (j ≤ i))
theorem op_mulX {X : Cx} : OpR X (binaryOp .Mult) (rI MulOk fun i j => .int (i * j)) := opI fun _ _ _ _ _ _ _ hc q => mul_int q hc
theorem MulOk.left {i j : Int} (h : -(2 ^ 64) < i ∧ i < 2 ^ 64) : MulOk i j := CMul.ok (.inl h)
theorem MulOk.right {i j : Int} (h : -(2 ^ 64) < j ∧ j < 2 ^ 64) : MulOk i j := CMul.ok (.inr h)
section
variable {X : Cx} {g : G} {W : WX} {a b : Expr} {wa wb : WE} {pos : Pos}
theorem ee_op {op : Operator} {r : R2} {o : O2} (ho : OpR X (binaryOp op) r) (l : Lift2 X.K r o) (ha : EE X g W a wa) (hb : EE X g W b wb) : EE X g W (.BinOp a op b pos) (wB o wa wb) := by
  obtain ⟨ta, p1, s1⟩ := ha.ex
  obtain ⟨tb, p2, s2⟩ := hb.ex
  exact ⟨_, pe_op ho p1 p2, sem_op l s1 s2⟩
theorem ee_add (ha : EE X g W a wa) (hb : EE X g W b wb) : EE X g W (.BinOp a .Add b pos) (wB oAdd wa wb) := ee_op op_add (lift_I fun i j _ => .int (i + j)) ha hb
theorem ee_sub (ha : EE X g W a wa) (hb : EE X g W b wb) : EE X g W (.BinOp a .Sub b pos) (wB oSub wa wb) := ee_op op_sub (lift_I fun i j _ => .int (i - j)) ha hb
theorem ee_mul (ha : EE X g W a wa) (hb : EE X g W b wb) : EE X g W (.BinOp a .Mult b pos) (wB oMul wa wb) := ee_op op_mulX (lift_Ic (fun _ _ h => h) fun i j _ => .int (i * j)) ha hb
theorem ee_div (ha : EE X g W a wa) (hb : EE X g W b wb) : EE X g W (.BinOp a .FloorDiv b pos) (wB oDiv wa wb) := ee_op op_fdivW (lift_Ic (fun _ _ h => h) fun i j _ => .int (i / j)) ha hb
theorem ee_mod (ha : EE X g W a wa) (hb : EE X g W b wb) : EE X g W (.BinOp a .Mod b pos) (wB oMod wa wb) := ee_op op_mod (lift_Ic (fun _ _ h => h) fun i j _ => .int (i % j)) ha hb
theorem ee_pow (ha : EE X g W a wa) (hb : EE X g W b wb) : EE X g W (.BinOp a .Pow b pos) (wB oPow wa wb) := ee_op op_pow (lift_Ic (fun _ _ h => h) fun i j _ => .int (i ^ j.toNat)) ha hb
end
/-! ### comparisons -/
@[reducible] def oEq : O2 := fun d1 d2 k => SeqAt.shaped d1 = true ∧ SeqAt.shaped d2 = true ∧ k (.v (.bool (PyData.eqv d1 d2)))
@[reducible] def oNe : O2 := fun d1 d2 k => SeqAt.shaped d1 = true ∧ SeqAt.shaped d2 = true ∧ k (.v (.bool (!PyData.eqv d1 d2)))
theorem dp_hide {K : PySem.W.Frag} {H : Hp} {O : List Addr} {v : V} {d : D} (h : Dp K (hide H O) v d) : Dp K H v d := dp_mono (fun _ _ e => (hide_some.mp e).2) _ _ h
theorem lift_eq {K : PySem.W.Frag} : Lift2 K (rEqD K) oEq := fun O H x y dx dy QD Q _ hx hy q fin =>
  ⟨dx, dy, dp_hide hx, dp_hide hy, q.1, q.2.1, fin _ H (.v _) (Same.refl H) (.bl _) q.2.2⟩
theorem lift_ne {K : PySem.W.Frag} : Lift2 K (rNeD K) oNe := fun O H x y dx dy QD Q _ hx hy q fin =>
  ⟨dx, dy, dp_hide hx, dp_hide hy, q.1, q.2.1, fin _ H (.v _) (Same.refl H) (.bl _) q.2.2⟩
@[reducible] def oIsN : O1 := fun d k => k (.v (.bool (match d with
  | .none => true
  | _ => false)))
@[reducible] def oNotN : O1 := fun d k => k (.v (.bool (match d with
  | .none => false
  | _ => true)))
section
variable {X : Cx} {g : G} {W : WX} {a b c : Expr} {wa wb wc : WE} {pos : Pos}
theorem ee_cmp {op : CmpOp} {r : R2} {o : O2} (ho : OpR X (compareOp op) r) (l : Lift2 X.K r o) (ha : EE X g W a wa) (hb : EE X g W b wb) (hm : behindInMarks op b = false) : EE X g W (.Compare a [op] [b] pos) (wB o wa wb) := by
  obtain ⟨ta, p1, s1⟩ := ha.ex
  obtain ⟨tb, p2, s2⟩ := hb.ex
  exact ⟨_, pe_cmpR ho p1 p2 hm, sem_op l s1 s2⟩
theorem ee_ge (ha : EE X g W a wa) (hb : EE X g W b wb) : EE X g W (.Compare a [.GtE] [b] pos) (wB oGe wa wb) := ee_cmp op_ge (lift_I fun i j _ => .bl _) ha hb (nomark _)
end
theorem SR.frzAt {K : PySem.W.Frag} {g : G} {σ : L2.St} {vs : List V} {H : Hp} {ρ : Rho} {cs : List C} {x : V} {c : C} {d : D} (h : SR K g σ (x :: vs) H ρ (c :: cs)) (e : dat ρ c = some d) (hn : c.isLn = false) : SR K g σ (x :: vs) H ρ (.v d :: cs) := by
  obtain ⟨O, _, hd, fin⟩ := SR.use (xs := [x]) (ccs := [c]) (ds := [d]) h rfl (by unfold dats; rw [e]; rfl)
  have e0 : lentA σ ρ [c] = [] := lentA_none (by simp [hn])
  refine SR.res h.pop (Same.refl H) ?_
  cases hd with
  | cons h1 _ =>
    exact fin H x (.v d) (Same.refl H) h1 (fun z => by simp [hn] at z)
section
variable {K : PySem.W.Frag} {g : G} {W : WX} {ta tb tc : TE} {wa wb wc : WE} {r r' : R2} {o o' : O2}
end
section
variable {X : Cx} {g : G} {W : WX} {a b c : Expr} {wa wb wc : WE} {pos : Pos}
end
/-! ### tests -/
@[reducible] def wTst (w : WE) : WT := fun ρ Q E => w ρ (fun c ρ1 => match c with
  | .v (.bool b) => Q b ρ1
  | _ => False) E
@[reducible] def wAnd (wt wu : WT) : WT := fun ρ Q E => wt ρ (fun b ρ1 => if b = true then wu ρ1 Q E else Q false ρ1) E
@[reducible] def wOr (wt wu : WT) : WT := fun ρ Q E => wt ρ (fun b ρ1 => if b = true then Q true ρ1 else wu ρ1 Q E) E
@[reducible] def wNot (wt : WT) : WT := fun ρ Q E => wt ρ (fun b ρ1 => Q (!b) ρ1) E
section
variable {K : PySem.W.Frag} {g : G} {W : WX}
theorem sem_tst {t : TE} {w : WE} (h : Sem K g W t w) : SemT K g W (tTest t) (wTst w) := by
  intro σ vs H ρ cs QD ED Q hS hw hX hQ
  refine h σ vs H ρ cs _ ED _ hS hw hX fun x H1 c1 ρ1 S1 q1 => ?_
  split at q1
  · rename_i b
    have e := S1.top
    cases e
    exact ⟨b, rfl, hQ b H1 ρ1 S1.pop q1⟩
  · exact q1.elim
theorem sem_and {t u : TT} {wt wu : WT} (h : SemT K g W t wt) (h' : SemT K g W u wu) : SemT K g W (tAnd t u) (wAnd wt wu) := by
  intro σ vs H ρ cs QD ED Q hS hw hX hQ
  refine h σ vs H ρ cs _ ED _ hS hw hX fun b H1 ρ1 S1 q1 => ?_
  cases b with
  | true => exact h' σ vs H1 ρ1 cs QD ED Q S1 q1 hX hQ
  | false => exact hQ false H1 ρ1 S1 q1
theorem sem_or {t u : TT} {wt wu : WT} (h : SemT K g W t wt) (h' : SemT K g W u wu) : SemT K g W (tOr t u) (wOr wt wu) := by
  intro σ vs H ρ cs QD ED Q hS hw hX hQ
  refine h σ vs H ρ cs _ ED _ hS hw hX fun b H1 ρ1 S1 q1 => ?_
  cases b with
  | true => exact hQ true H1 ρ1 S1 q1
  | false => exact h' σ vs H1 ρ1 cs QD ED Q S1 q1 hX hQ
theorem sem_not {t : TT} {wt : WT} (h : SemT K g W t wt) : SemT K g W (tNot t) (wNot wt) := by
  intro σ vs H ρ cs QD ED Q hS hw hX hQ
  exact h σ vs H ρ cs _ ED _ hS hw hX fun b H1 ρ1 S1 q1 => hQ _ H1 ρ1 S1 q1
end
section
variable {X : Cx} {g : G} {W : WX} {a b c : Expr} {rest : List Expr} {wa wb wc : WE} {wt wu : WT} {pos : Pos}
theorem et_val (h : EE X g W a wa) (he : ∀ whole, isTrue a X.env whole = (do let v ← whole; standAt a.pos; holding [v] (truthy v)) := by intro _; rfl) : ET X g W a (wTst wa) := by
  obtain ⟨t, p, s⟩ := h.ex
  exact ⟨_, pt_val p he, sem_tst s⟩
theorem et_cmp {op : CmpOp} {r : R2} {o : O2} (ho : OpR X (compareOp op) r) (l : Lift2 X.K r o) (ha : EE X g W a wa) (hb : EE X g W b wb) (hm : behindInMarks op b = false) : ET X g W (.Compare a [op] [b] pos) (wTst (wB o wa wb)) := by
  obtain ⟨ta, p1, s1⟩ := ha.ex
  obtain ⟨tb, p2, s2⟩ := hb.ex
  exact ⟨_, pt_cmpR ho p1 p2 hm, sem_tst (sem_op l s1 s2)⟩
theorem et_lt (ha : EE X g W a wa) (hb : EE X g W b wb) : ET X g W (.Compare a [.Lt] [b] pos) (wTst (wB oLt wa wb)) := et_cmp op_lt (lift_I fun i j _ => .bl _) ha hb (nomark _)
theorem et_le (ha : EE X g W a wa) (hb : EE X g W b wb) : ET X g W (.Compare a [.LtE] [b] pos) (wTst (wB oLe wa wb)) := et_cmp op_le (lift_I fun i j _ => .bl _) ha hb (nomark _)
theorem et_gt (ha : EE X g W a wa) (hb : EE X g W b wb) : ET X g W (.Compare a [.Gt] [b] pos) (wTst (wB oGt wa wb)) := et_cmp op_gt (lift_I fun i j _ => .bl _) ha hb (nomark _)
theorem et_eq (hu : X.A.units + 64 < cLine) (ha : EE X g W a wa) (hb : EE X g W b wb) : ET X g W (.Compare a [.Eq] [b] pos) (wTst (wB oEq wa wb)) := et_cmp (op_eqD hu) lift_eq ha hb (nomark _)
theorem et_ne (hu : X.A.units + 64 < cLine) (ha : EE X g W a wa) (hb : EE X g W b wb) : ET X g W (.Compare a [.NotEq] [b] pos) (wTst (wB oNe wa wb)) := et_cmp (op_neD hu) lift_ne ha hb (nomark _)
theorem et_isN {j pos'} (ha : EE X g W a wa) : ET X g W (.Compare a [.Is] [.Constant .none j pos'] pos) (wTst (wU oIsN wa)) := by
  obtain ⟨ta, p1, s1⟩ := ha.ex
  refine ⟨_, pt_cmp (pc_isN p1), ?_⟩
  refine sem_tst (t := tIsN ta) fun σ vs H ρ cs QD ED Q hS hw hX hQ => ?_
  refine s1 σ vs H ρ cs _ ED _ hS hw hX fun x H1 c1 ρ1 S1 q1 => ?_
  refine S1.use1 (r := fun x H Q => Q (.bl (decide (x = .non))) H) (fun O H x dx QD Q _ hx q fin => ?_) q1 fun v H' c S3 q3 => hQ v H' c ρ1 S3 q3
  refine fin _ H (.v _) (Same.refl H) ?_ q
  cases hx <;> exact .bl _
theorem et_notN {j pos'} (ha : EE X g W a wa) : ET X g W (.Compare a [.IsNot] [.Constant .none j pos'] pos) (wTst (wU oNotN wa)) := by
  obtain ⟨ta, p1, s1⟩ := ha.ex
  refine ⟨_, pt_cmp (pc_notN p1), ?_⟩
  refine sem_tst (t := tNotN ta) fun σ vs H ρ cs QD ED Q hS hw hX hQ => ?_
  refine s1 σ vs H ρ cs _ ED _ hS hw hX fun x H1 c1 ρ1 S1 q1 => ?_
  refine S1.use1 (r := fun x H Q => Q (.bl (!decide (x = .non))) H) (fun O H x dx QD Q _ hx q fin => ?_) q1 fun v H' c S3 q3 => hQ v H' c ρ1 S3 q3
  refine fin _ H (.v _) (Same.refl H) ?_ q
  cases hx <;> exact .bl _
theorem ew_and1 (h : ET X g W a wt) : EW X g W (.BoolOp .And [a] pos) wt := by
  obtain ⟨t, p, s⟩ := h.ex
  exact ⟨_, pw_and1 p, s⟩
theorem ew_or1 (h : ET X g W a wt) : EW X g W (.BoolOp .Or [a] pos) wt := by
  obtain ⟨t, p, s⟩ := h.ex
  exact ⟨_, pw_or1 p, s⟩
theorem ew_and (h : ET X g W a wt) (h' : EW X g W (.BoolOp .And (b :: rest) pos) wu) : EW X g W (.BoolOp .And (a :: b :: rest) pos) (wAnd wt wu) := by
  obtain ⟨t, p, s⟩ := h.ex
  obtain ⟨t', p', s'⟩ := h'.ex
  exact ⟨_, pw_and p p', sem_and s s'⟩
theorem ew_or (h : ET X g W a wt) (h' : EW X g W (.BoolOp .Or (b :: rest) pos) wu) : EW X g W (.BoolOp .Or (a :: b :: rest) pos) (wOr wt wu) := by
  obtain ⟨t, p, s⟩ := h.ex
  obtain ⟨t', p', s'⟩ := h'.ex
  exact ⟨_, pw_or p p', sem_or s s'⟩
theorem et_w (h : EW X g W a wt) : ET X g W a wt := by
  obtain ⟨t, p, s⟩ := h.ex
  exact ⟨_, p.pt, s⟩
theorem et_not (h : ET X g W a wt) : ET X g W (.UnaryOp .Not a pos) (wNot wt) := by
  obtain ⟨t, p, s⟩ := h.ex
  exact ⟨_, pt_not p, sem_not s⟩
end
end DL

set_option Elab.async false
set_option linter.all false
set_option maxRecDepth 100000
set_option maxHeartbeats 4000000
/-! DL, arguments and calls; slots emptied and filled. -/
namespace DL
open PySem PySem.Spec PyProof.Rows L2

/-! ### slots -/
theorem rget_rset : ∀ {ρ : Rho} {i : Nat} {c : C}, i < ρ.length → rget (rset ρ i c) i = c
  | [], _, _, h => by simp at h
  | _ :: _, 0, _, _ => rfl
  | _ :: ρ, i + 1, c, h => rget_rset (ρ := ρ) (i := i) (by simpa using h)
theorem rset_rset : ∀ {ρ : Rho} {i : Nat} {c c' : C}, rset (rset ρ i c) i c' = rset ρ i c'
  | [], _, _, _ => rfl
  | _ :: _, 0, _, _ => rfl
  | _ :: ρ, i + 1, c, c' => by show _ :: rset (rset ρ i c) i c' = _ :: rset ρ i c'; rw [rset_rset]
theorem rset_len : ∀ {ρ : Rho} {i : Nat} {c : C}, (rset ρ i c).length = ρ.length
  | [], _, _ => rfl
  | _ :: _, 0, _ => rfl
  | _ :: ρ, i + 1, c => by show (rset ρ i c).length + 1 = ρ.length + 1; rw [rset_len]
theorem rget_lt : ∀ {ρ : Rho} {i : Nat}, rget ρ i ≠ .no → i < ρ.length
  | [], _, h => absurd rfl h
  | _ :: _, 0, _ => by simp
  | _ :: ρ, i + 1, h => by have := rget_lt (ρ := ρ) (i := i) h; simpa using this
theorem footC_no (v : Option V) : footC v .no = [] := by
  cases v with
  | none => rfl
  | some x => cases x <;> rfl
theorem footC_v (v : Option V) (d : D) : footC v (.v d) = [] := by
  cases v with
  | none => rfl
  | some x => cases x <;> rfl
theorem foot_clear : ∀ {σ : List (Option V)} {ρ : Rho} {i : Nat}, (foot σ (rset ρ i .no)).Sublist (foot σ ρ)
  | [], ρ, _ => by
    have e : ∀ r : Rho, foot [] r = [] := fun r => by cases r <;> rfl
    rw [e, e]; exact List.Sublist.slnil
  | _ :: _, [], _ => List.Sublist.refl _
  | v :: σ, c :: ρ, 0 => by
    show (footC v .no ++ foot σ ρ).Sublist (footC v c ++ foot σ ρ)
    rw [footC_no]
    exact List.sublist_append_right _ _
  | v :: σ, c :: ρ, i + 1 => by
    show (footC v c ++ foot σ (rset ρ i .no)).Sublist (footC v c ++ foot σ ρ)
    exact (foot_clear (i := i)).append_left _
theorem foot_out : ∀ {σ : List (Option V)} {ρ : Rho} {i : Nat} {a : Addr} {t : Nat} {o : OD}, σ[i]? = some (some (.ref a)) → rget ρ i = .own t o → (foot σ ρ).Perm (o.fp a ++ foot σ (rset ρ i .no))
  | [], _, _, _, _, _, h, _ => by simp at h
  | _ :: _, [], _, _, _, _, _, h => by cases h
  | v :: σ, c :: ρ, 0, a, t, o, h, h2 => by
    have e1 : v = some (.ref a) := by simpa using h
    have e2 : c = .own t o := h2
    subst e1; subst e2
    show (o.fp a ++ foot σ ρ).Perm (o.fp a ++ (footC (some (.ref a)) .no ++ foot σ ρ))
    rw [footC_no]
    exact List.Perm.refl _
  | v :: σ, c :: ρ, i + 1, a, t, o, h, h2 => by
    show (footC v c ++ foot σ ρ).Perm (o.fp a ++ (footC v c ++ foot σ (rset ρ i .no)))
    refine (List.Perm.append_left _ (foot_out (i := i) (by simpa using h) h2)).trans ?_
    exact List.perm_append_comm_assoc _ _ _
theorem foot_in : ∀ {σ : List (Option V)} {ρ : Rho} {i : Nat} {x : V} {c : C}, σ[i]? = some (some x) → i < ρ.length → rget ρ i = .no → (foot σ (rset ρ i c)).Perm (footC (some x) c ++ foot σ ρ)
  | [], _, _, _, _, h, _, _ => by simp at h
  | _ :: _, [], _, _, _, _, h, _ => by simp at h
  | v :: σ, c' :: ρ, 0, x, c, h, _, h2 => by
    have e1 : v = some x := by simpa using h
    have e2 : c' = .no := h2
    subst e1; subst e2
    show (footC (some x) c ++ foot σ ρ).Perm (footC (some x) c ++ (footC (some x) .no ++ foot σ ρ))
    rw [footC_no]
    exact List.Perm.refl _
  | v :: σ, c' :: ρ, i + 1, x, c, h, hl, h2 => by
    show (footC v c' ++ foot σ (rset ρ i c)).Perm (footC (some x) c ++ (footC v c' ++ foot σ ρ))
    refine (List.Perm.append_left _ (foot_in (i := i) (by simpa using h) (by simpa using hl) h2)).trans ?_
    exact List.perm_append_comm_assoc _ _ _
theorem foot_setNo : ∀ {σ : List (Option V)} {ρ : Rho} {i : Nat} {v : Option V}, rget ρ i = .no → foot (σ.set i v) ρ = foot σ ρ
  | [], _, _, _, _ => by simp
  | _ :: _, [], 0, _, _ => rfl
  | _ :: _, [], _ + 1, _, _ => rfl
  | v' :: σ, c :: ρ, 0, v, h => by
    have e : c = .no := h
    subst e
    show footC v .no ++ foot σ ρ = footC v' .no ++ foot σ ρ
    rw [footC_no, footC_no]
  | v' :: σ, c :: ρ, i + 1, v, h => by
    show footC v' c ++ foot (σ.set i v) ρ = footC v' c ++ foot σ ρ
    rw [foot_setNo (i := i) h]
section
variable {K : PySem.W.Frag} {g : G} {s : L2.St} {B H : Hp}
theorem RCs.rset : ∀ {σ : List (Option V)} {ρ : Rho} {i : Nat} {c : C} {ov : Option V}, RCs K g s B H σ ρ → σ[i]? = some ov → RC K g s B H ov c → RCs K g s B H σ (DL.rset ρ i c)
  | [], [], _, _, _, _, h, _ => by simp at h
  | v :: σ, c' :: ρ, 0, c, ov, h, e, q => by
    have e1 : v = ov := by simpa using e
    subst e1
    exact ⟨q, h.2⟩
  | v :: σ, c' :: ρ, i + 1, c, ov, h, e, q => ⟨h.1, RCs.rset (i := i) h.2 (by simpa using e) q⟩
  | [], _ :: _, _, _, _, h, _, _ => h.elim
  | _ :: _, [], _, _, _, h, _, _ => h.elim
theorem RCs.rsetNo : ∀ {σ : List (Option V)} {ρ : Rho} {i : Nat}, RCs K g s B H σ ρ → RCs K g s B H σ (DL.rset ρ i .no)
  | [], [], _, h => h
  | v :: σ, c' :: ρ, 0, h => ⟨trivial, h.2⟩
  | v :: σ, c' :: ρ, i + 1, h => ⟨h.1, RCs.rsetNo (i := i) h.2⟩
  | [], _ :: _, _, h => h.elim
  | _ :: _, [], _, h => h.elim
theorem RCs.setNo : ∀ {σ : List (Option V)} {ρ : Rho} {i : Nat} {v : Option V}, RCs K g s B H σ ρ → rget ρ i = .no → RCs K g s B H (σ.set i v) ρ
  | [], [], _, _, h, _ => h
  | _ :: _, c :: ρ, 0, v, h, e => by
    have e1 : c = .no := e
    subst e1
    exact ⟨trivial, h.2⟩
  | _ :: _, c' :: ρ, i + 1, v, h, e => ⟨h.1, RCs.setNo (i := i) h.2 e⟩
  | [], _ :: _, _, _, h, _ => h.elim
  | _ :: _, [], _, _, h, _ => h.elim
theorem RCs.slots {σ σ' : L2.St} : ∀ {vs : List (Option V)} {cs : List C}, (∀ j, (C.pk j ∈ cs ∨ C.ln j ∈ cs) → σ'[j]? = σ[j]?) → RCs K g σ B H vs cs → RCs K g σ' B H vs cs
  | [], [], _, h => h
  | v :: vs, c :: cs, hj, h => by
    refine ⟨?_, RCs.slots (fun j q => hj j (q.imp (List.mem_cons_of_mem _) (List.mem_cons_of_mem _))) h.2⟩
    have q := h.1
    cases c with
    | no => trivial
    | v d => exact q
    | p d => exact q
    | own t o => exact q
    | pk i =>
      obtain ⟨x, e1, e2⟩ := q
      exact ⟨x, e1, (hj i (.inl List.mem_cons_self)).trans e2⟩
    | ln i =>
      obtain ⟨x, e1, e2⟩ := q
      exact ⟨x, e1, (hj i (.inr List.mem_cons_self)).trans e2⟩
    | sub i p k => exact q
  | [], _ :: _, _, h => h.elim
  | _ :: _, [], _, h => h.elim
end
section
variable {K : PySem.W.Frag} {g : G} {σ σ' : L2.St} {vs vs' : List V} {H H' : Hp} {ρ ρ' : Rho} {cs cs' : List C} {i : Nat}
theorem SR.clear (h : SR K g σ vs H ρ cs) (i : Nat) : SR K g σ vs H (rset ρ i .no) cs := by
  have sl : (tot σ vs (rset ρ i .no) cs).Sublist (tot σ vs ρ cs) := foot_clear.append_left _
  exact h.gen (fun _ _ _ q => q) (fun _ o q => ⟨o, q⟩) (fun a ha => .inl (sl.subset ha)) (sl.nodup h.nd) (fun hB => (h.sl.mono hB fun _ _ _ q => q).rsetNo) (fun hB => h.tp.mono hB fun _ _ _ q => q) h.pk
theorem SR.setNo (h : SR K g σ vs H ρ cs) (e : rget ρ i = .no) (hj : ∀ j, (C.pk j ∈ cs ∨ C.ln j ∈ cs) → j ≠ i) (v : Option V) : SR K g (σ.set i v) vs H ρ cs := by
  have ft : tot (σ.set i v) vs ρ cs = tot σ vs ρ cs := by
    show foot (vs.map some) cs ++ foot (σ.set i v) ρ = _
    rw [foot_setNo e]
  refine h.gen (fun _ _ _ q => q) (fun _ o q => ⟨o, q⟩) (fun a ha => .inl (by rw [ft] at ha; exact ha)) (by rw [ft]; exact h.nd) (fun hB => (h.sl.mono hB fun _ _ _ q => q).setNo e) (fun hB => ?_) h.pk
  exact (h.tp.mono hB fun _ _ _ q => q).slots fun j q => List.getElem?_set_ne (hj j q).symm
@[reducible] def C.plain : C → Bool
  | .v _ => true
  | .p _ => true
  | .own _ _ => true
  | _ => false
theorem RC.plainσ {B : Hp} {ov : Option V} {c : C} (hc : c.plain = true) (h : RC K g σ B H ov c) : RC K g σ' B H ov c := by
  cases c with
  | v d => exact h
  | p d => exact h
  | own t o => exact h
  | no => cases hc
  | pk i => cases hc
  | ln i => cases hc
  | sub i p k => cases hc
theorem SR.moveIn {x : V} {c : C} (h : SR K g σ (x :: vs) H ρ (c :: cs)) (hc : c.plain = true) (e1 : σ[i]? = some (some x)) (e2 : rget ρ i = .no) : SR K g σ vs H (rset ρ i c) cs := by
  have hl : i < ρ.length := by
    rw [← h.len]; exact (List.getElem?_eq_some_iff.mp e1).1
  have pm : (tot σ vs (rset ρ i c) cs).Perm (tot σ (x :: vs) ρ (c :: cs)) := by
    rw [tot_cons]
    exact (List.Perm.append_left _ (foot_in e1 hl e2)).trans (List.perm_append_comm_assoc _ _ _)
  refine h.gen (fun _ _ _ q => q) (fun _ o q => ⟨o, q⟩) (fun a ha => .inl (pm.mem_iff.mp ha)) (pm.nodup_iff.mpr h.nd) (fun hB => ?_) (fun hB => (RCs.mono hB (fun _ _ _ q => q) h.tp).2) fun j q => h.pk j (q.imp (List.mem_cons_of_mem _) (List.mem_cons_of_mem _))
  refine (h.sl.mono hB fun _ _ _ q => q).rset e1 ?_
  exact (RCs.mono hB (fun _ _ _ q => q) h.tp).1.plainσ hc
theorem SR.assign {x : V} {c : C} (h : SR K g σ (x :: vs) H ρ (c :: cs)) (hc : c.plain = true) (hi : i < σ.length) (hj : ∀ j, (C.pk j ∈ cs ∨ C.ln j ∈ cs) → j ≠ i) : SR K g (σ.set i (some x)) vs H (rset ρ i c) cs := by
  have hl : i < ρ.length := by rw [← h.len]; exact hi
  have h1 := h.clear i
  have h2 := h1.setNo (i := i) (rget_rset hl) (fun j q => hj j ?_) (some x)
  · have h3 := h2.moveIn (i := i) hc (List.getElem?_set_self hi) (rget_rset hl)
    rw [rset_rset] at h3
    exact h3
  · have n1 : C.pk j ≠ c := fun z => by rw [← z] at hc; cases hc
    have n2 : C.ln j ≠ c := fun z => by rw [← z] at hc; cases hc
    rcases q with q | q
    · exact .inl ((List.mem_cons.mp q).resolve_left n1)
    · exact .inr ((List.mem_cons.mp q).resolve_left n2)
theorem SR.moveOut {x : V} {t : Nat} {o : OD} (h : SR K g σ (x :: vs) H ρ (.pk i :: cs)) (e : rget ρ i = .own t o) : σ[i]? = some (some x) ∧ SR K g σ (x :: vs) H (rset ρ i .no) (.own t o :: cs) := by
  obtain ⟨x', ex, e1⟩ := h.tp.1
  cases ex
  obtain ⟨a, e2, q1, q2, q3⟩ := h.own e
  rw [e1] at e2
  cases e2
  refine ⟨e1, ?_⟩
  have pm : (tot σ (.ref a :: vs) (rset ρ i .no) (.own t o :: cs)).Perm (tot σ (.ref a :: vs) ρ (.pk i :: cs)) := by
    rw [foot_cons_pk]
    rw [foot_cons_own]
    show (o.fp a ++ (foot (vs.map some) cs ++ foot σ (rset ρ i .no))).Perm (foot (vs.map some) cs ++ foot σ ρ)
    exact (List.perm_append_comm_assoc _ _ _).trans (List.Perm.append_left _ (foot_out e1 e).symm)
  refine h.gen (fun _ _ _ q => q) (fun _ o q => ⟨o, q⟩) (fun a ha => .inl (pm.mem_iff.mp ha)) (pm.nodup_iff.mpr h.nd) (fun hB => (h.sl.mono hB fun _ _ _ q => q).rsetNo) (fun hB => ?_) fun j q => h.pk j ?_
  · exact ⟨⟨a, rfl, q2.mono hB fun _ _ _ q => q, q3.1, q3.2⟩, (RCs.mono hB (fun _ _ _ q => q) h.tp).2⟩
  · simp only [List.mem_cons] at q ⊢
    rcases q with (z | z) | (z | z)
    · cases z
    · exact .inl (.inr z)
    · cases z
    · exact .inr (.inr z)
@[reducible] def frzC : C → C
  | .own _ (.lst ds) => .v (.list ds)
  | .p d => .v d
  | c => c
@[reducible] def frzs : List C → List C
  | [] => []
  | c :: cs => frzC c :: frzs cs
theorem frzs_eq : ∀ {cs : List C}, frzs cs = cs.map frzC
  | [] => rfl
  | c :: cs => by show frzC c :: frzs cs = _; rw [frzs_eq]; rfl
theorem footC_p (v : Option V) (d : D) : footC v (.p d) = [] := by
  cases v with
  | none => rfl
  | some x => cases x <;> rfl
theorem SR.unP {x : V} {d : D} (h : SR K g σ (x :: vs) H ρ (.p d :: cs)) : SR K g σ (x :: vs) H ρ (.v d :: cs) := by
  have ft : tot σ (x :: vs) ρ (.v d :: cs) = tot σ (x :: vs) ρ (.p d :: cs) := by rw [tot_cons, tot_cons, footC_v, footC_p]
  refine h.gen (fun _ _ _ q => q) (fun _ o q => ⟨o, q⟩) (fun a ha => .inl (by rw [ft] at ha; exact ha)) (by rw [ft]; exact h.nd) (fun hB => h.sl.mono hB fun _ _ _ q => q) (fun hB => ?_) fun j q => h.pk j ?_
  · obtain ⟨q1, q2⟩ := RCs.mono hB (fun _ _ _ q => q) h.tp
    obtain ⟨y, e, z1, z2⟩ := q1
    exact ⟨⟨y, e, z1⟩, q2⟩
  · simp only [List.mem_cons] at q ⊢
    rcases q with (z | z) | (z | z)
    · cases z
    · exact .inl (.inr z)
    · cases z
    · exact .inr (.inr z)
theorem SR.frzTop {x : V} {c : C} (h : SR K g σ (x :: vs) H ρ (c :: cs)) : SR K g σ (x :: vs) H ρ (frzC c :: cs) := by
  cases c with
  | own t o =>
    cases o with
    | lst ds => exact h.frzAt rfl rfl
    | dct _ => exact h
    | dtt _ => exact h
    | lck _ _ _ _ => exact h
    | prp _ _ => exact h
    | tre _ => exact h
  | no => exact h
  | v d => exact h
  | p d => exact h.unP
  | pk i => exact h
  | ln i => exact h
  | sub i p k => exact h
theorem SR.frzArgs : ∀ {xs : List V} {ccs : List C} {vs : List V} {cs : List C}, xs.length = ccs.length → SR K g σ (xs ++ vs) H ρ (ccs ++ cs) → SR K g σ (xs ++ vs) H ρ (ccs.map frzC ++ cs)
  | [], [], _, _, _, h => h
  | x :: xs, c :: ccs, vs, cs, hl, h => by
    have hl' : xs.length = ccs.length := by simpa using hl
    have h1 : SR K g σ (xs ++ x :: vs) H ρ (ccs ++ frzC c :: cs) := SR.unrot hl' (SR.frzTop h)
    have h2 := SR.frzArgs (xs := xs) (ccs := ccs) (vs := x :: vs) (cs := frzC c :: cs) hl' h1
    exact SR.rot (by simpa using hl') h2
  | [], _ :: _, _, _, h, _ => by simp at h
  | _ :: _, [], _, _, h, _ => by simp at h
end

/-! ### arguments -/
@[reducible] def wNil : WA := fun ρ Q _ => Q [] ρ
@[reducible] def wCons (we : WE) (wr : WA) : WA := fun ρ Q E => we ρ (fun c ρ1 => wr ρ1 (fun cs ρ2 => Q (c :: cs) ρ2) E) E
@[reducible] def wPk (i : Nat) : WE := fun ρ Q _ => match rget ρ i with
  | .own _ _ => Q (.pk i) ρ
  | _ => False
section
variable {X : Cx} {g : G} {W : WX} {e : Expr} {es : List Expr} {we : WE} {wr : WA} {pos : Pos}
theorem ea_nil : EA X g W [] wNil := ⟨_, pa_nil, fun σ vs H ρ cs QD ED Q hS hw hX hQ => hQ [] H [] ρ rfl hS hw⟩
theorem ea_cons (h : EE X g W e we) (hr : EA X g W es wr) (hs : starEach (e :: es) X.env = (false, eval e X.env) :: starEach es X.env := by rfl) : EA X g W (e :: es) (wCons we wr) := by
  obtain ⟨t, p, s⟩ := h.ex
  obtain ⟨u, p', s'⟩ := hr.ex
  refine ⟨_, pa_cons p p' hs, fun σ vs H ρ cs QD ED Q hS hw hX hQ => ?_⟩
  refine s σ vs H ρ cs _ ED _ hS hw hX fun x H1 c ρ1 S1 q1 => ?_
  refine s' σ (x :: vs) H1 ρ1 (c :: cs) _ ED _ S1 q1 hX fun xs H2 ccs ρ2 hl S2 q2 => ?_
  exact hQ (x :: xs) H2 (c :: ccs) ρ2 (by simp [hl]) (SR.rot hl S2) q2
theorem ee_pk {i : Nat} {x : Str} (hL : g.L i = true) (h : PE X (.Name x pos) (tVar i)) : EE X g W (.Name x pos) (wPk i) := by
  refine ⟨_, h, fun σ vs H ρ cs QD ED Q hS hw hX hQ => ?_⟩
  unfold wPk at hw
  split at hw
  · rename_i t o e
    obtain ⟨a, e1, _⟩ := hS.own e
    exact ⟨_, e1, hQ _ H _ ρ (hS.pushPk e1 hL) hw⟩
  · exact hw.elim
end

/-! ### displays, built-ins -/
@[reducible] def oTup : OL := fun ds k => ds.length ≤ 1000 ∧ k (.v (.tuple ds))
@[reducible] def oLst : OL := fun ds k => ds.length ≤ 1000 ∧ k (.own 0 (.lst ds))
theorem le1000 {n : Nat} (h : n ≤ 1000) : n ≤ sizeLine := Nat.le_of_lt (small1000 h)
theorem same_new {H : Hp} {p : Addr} {o : HO} (n : H p = none) : Same H (upd H p o) := fun b u q => by
  rw [upd_ne (ne_of_none q n)]; exact q
theorem new_tup {K : PySem.W.Frag} {O : List Addr} {H : Hp} {p : Addr} {xs : List V} {ds : List D} (n : H p = none) (hO : p ∉ O) (h : DpAll K (hide H O) xs ds) : Dp K (hide (upd H p (.tup xs)) O) (.ref p) (.tuple ds) := by
  refine .tup (.inl (.inl (hide_some.mpr ⟨hO, upd_same⟩))) (dpAll_mono (fun a o q => ?_) _ _ h)
  obtain ⟨h1, h2⟩ := hide_some.mp q
  exact hide_some.mpr ⟨h1, same_new n a o h2⟩
theorem new_lst {K : PySem.W.Frag} {O : List Addr} {H : Hp} {p : Addr} {xs : List V} {ds : List D} (n : H p = none) (h : DpAll K (hide H O) xs ds) : NewRes K O H (upd H p (.lst xs)) (.ref p) (.own 0 (.lst ds)) := by
  refine ⟨rfl, p, rfl, n, xs, upd_same, dpAll_mono (fun a o q => ?_) _ _ h⟩
  obtain ⟨h1, h2⟩ := hide_some.mp q
  refine hide_some.mpr ⟨fun z => ?_, same_new n a o h2⟩
  rcases List.mem_cons.mp z with z | z
  · rw [z, n] at h2; cases h2
  · exact h1 z
section
variable {K : PySem.W.Frag} {g : G} {W : WX} {ta : TA} {wa : WA}
@[reducible] def wL (o : OL) (wa : WA) : WE := fun ρ Q E => wa ρ (fun cs ρ1 => useL ρ1 cs o Q) E
theorem sem_L {r : List V → Hp → VK → Prop} {o : OL} (l : LiftL K r o) (ha : SemA K g W ta wa) : Sem K g W (tCB r ta) (wL o wa) := by
  intro σ vs H ρ cs QD ED Q hS hw hX hQ
  refine ha σ vs H ρ cs _ ED _ hS hw hX fun xs H1 ccs ρ1 hl S1 q1 => ?_
  exact SR.useL l hl S1 q1 fun v H' c S3 q3 => hQ v H' c ρ1 S3 q3
theorem lift_tup : LiftL K (fun xs H Q => xs.length ≤ sizeLine ∧ ∀ p, H p = none → Q (.ref p) (upd H p (.tup xs))) oTup := by
  intro O H xs ds QD Q hO hx q fin
  refine ⟨by rw [DL.DpAll.len hx]; exact le1000 q.1, fun p n => ?_⟩
  exact fin _ _ (.v _) (same_new n) (new_tup n (fun z => by obtain ⟨u, e⟩ := hO p z; rw [n] at e; cases e) hx) q.2
theorem lift_lst : LiftL K (fun xs H Q => xs.length ≤ sizeLine ∧ ∀ p, H p = none → Q (.ref p) (upd H p (.lst xs))) oLst := by
  intro O H xs ds QD Q hO hx q fin
  refine ⟨by rw [DL.DpAll.len hx]; exact le1000 q.1, fun p n => ?_⟩
  exact fin _ _ (.own 0 (.lst ds)) (same_new n) (new_lst n hx) q.2
end
section
variable {X : Cx} {g : G} {W : WX} {e : Expr} {es : List Expr} {wa : WA} {pos : Pos}
theorem ee_tup {x1} (h : EA X g W es wa) : EE X g W (.Tuple es x1 pos) (wL oTup wa) := by
  obtain ⟨t, p, s⟩ := h.ex
  exact ⟨_, pe_tup p, sem_L lift_tup s⟩
theorem ee_lst (h : EA X g W es wa) : EE X g W (.List es pos) (wL oLst wa) := by
  obtain ⟨t, p, s⟩ := h.ex
  exact ⟨_, pe_lst p, sem_L lift_lst s⟩
theorem ee_cb {x : Str} {p : Pos} {id : String} {r : List V → Hp → VK → Prop} {o : OL} (hc : CallR X (.builtin id) r) (l : LiftL X.K r o) (hg : Gl X x) (hm : X.mg x = none) (hv : bootBuiltins x = some (.builtin id)) (ha : EA X g W (e :: es) wa) (hn : x ≠ "__name__" := by decide)
    (hdb : (x == ("__debug__" : Str)) = false := by decide) (he : starEach (e :: es) X.env = (false, eval e X.env) :: starEach es X.env := by rfl) (hpl : (backTo pos (starEach es X.env)).any (·.1) = false := by rfl) : EE X g W (.Call (.Name x p) (e :: es) [] pos) (wL o wa) := by
  obtain ⟨t, q, s⟩ := ha.ex
  exact ⟨_, pe_callB hc hg hm hv q hn hdb he hpl, sem_L l s⟩
theorem ee_ct {x : Str} {p : Pos} {T : String} {r : List V → Hp → VK → Prop} {o : OL} (hc : CallR X (.type T) r) (l : LiftL X.K r o) (hg : Gl X x) (hm : X.mg x = none) (hv : bootBuiltins x = some (.type T)) (ha : EA X g W (e :: es) wa) (hn : x ≠ "__name__" := by decide)
    (hdb : (x == ("__debug__" : Str)) = false := by decide) (he : starEach (e :: es) X.env = (false, eval e X.env) :: starEach es X.env := by rfl) (hpl : (backTo pos (starEach es X.env)).any (·.1) = false := by rfl) : EE X g W (.Call (.Name x p) (e :: es) [] pos) (wL o wa) := by
  obtain ⟨t, q, s⟩ := ha.ex
  exact ⟨_, pe_callTy hc hg hm hv q hn hdb he hpl, sem_L l s⟩
end

/-! ### a def's promise over data -/
abbrev SpD := List C → (C → List C → Prop) → (XD → List C → Prop) → Prop
def tgOf (xs : List V) (t : Nat) : Addr := if t ≤ xs.length then (match xs[t - 1]? with
  | some (.ref a) => a
  | _ => 0) else t - (xs.length + 1)
theorem tgOf_adr (xs : List V) (a : Addr) : tgOf xs (xs.length + 1 + a) = a := by
  unfold tgOf
  have h : ¬ (xs.length + 1 + a ≤ xs.length) := fun z => absurd (Nat.le_trans (Nat.le_add_right (xs.length + 1) a) z) (Nat.not_succ_le_self _)
  rw [if_neg h]
  exact Nat.add_sub_cancel_left _ _
def mkG (H : Hp) (xs : List V) (as : List C) (P : List Addr) (L : Nat → Bool) : G := ⟨H, tgOf xs, foot (xs.map some) as, P, L, xs.length + 1, Nat.succ_pos _, tgOf_adr xs⟩
@[reducible] def C.ok : C → Bool
  | .v _ => true
  | .p _ => true
  | .own 0 _ => true
  | _ => false
abbrev L0 : Nat → Bool := fun _ => false
def spOf (K : PySem.W.Frag) (S : SpD) : Sp := fun vs H Q E => ∃ (as : List C) (P : List Addr) (QD : C → List C → Prop) (ED : XD → List C → Prop), SR K (mkG H vs as P L0) (vs.map some) [] H as [] ∧ S as QD ED ∧
  (∀ c rs, c.ok = true → QD c rs → ∀ v H', SR K (mkG H vs as P L0) (vs.map some) [v] H' rs [c] → Q v H') ∧
  (∀ x rs, ED x rs → ∀ cls d H', SR K (mkG H vs as P L0) (vs.map some) [] H' rs [] → XRep K (hide H' (tot (vs.map some) [] rs [] ++ P)) H' x cls d → E cls d H')
theorem SR.setL {K : PySem.W.Frag} {g g' : G} {σ : L2.St} {vs : List V} {H : Hp} {ρ : Rho} {cs : List C} (h : SR K g σ vs H ρ cs) (e1 : g'.H0 = g.H0) (e2 : g'.tg = g.tg) (e3 : g'.Oa = g.Oa) (e4 : g'.P0 = g.P0) (hp : ∀ i, (C.pk i ∈ cs ∨ C.ln i ∈ cs) → g'.L i = true) : SR K g' σ vs H ρ cs := by
  obtain ⟨H0, tg, Oa, P0, L, tn, tn0, tgA⟩ := g
  obtain ⟨H0', tg', Oa', P0', L', tn', tn0', tgA'⟩ := g'
  cases e1; cases e2; cases e3; cases e4
  refine ⟨h.fr, h.dm, h.pr, h.nw, h.nd, ?_, ?_, hp⟩
  · have q := h.sl
    revert q
    generalize hide H _ = B
    intro q
    have go : ∀ (σ0 : List (Option V)) (ρ0 : List C), RCs K ⟨H0, tg, Oa, P0, L, tn, tn0, tgA⟩ [] B H σ0 ρ0 → RCs K ⟨H0, tg, Oa, P0, L', tn', tn0', tgA'⟩ [] B H σ0 ρ0 := by
      intro σ0
      induction σ0 with
      | nil => intro ρ0 q; cases ρ0 <;> exact q
      | cons v σ0 ih =>
        intro ρ0 q
        cases ρ0 with
        | nil => exact q
        | cons c ρ0 => exact ⟨by cases c <;> exact q.1, ih ρ0 q.2⟩
    exact go _ _ q
  · have q := h.tp
    revert q
    generalize hide H _ = B
    intro q
    have go : ∀ (σ0 : List (Option V)) (ρ0 : List C), RCs K ⟨H0, tg, Oa, P0, L, tn, tn0, tgA⟩ σ B H σ0 ρ0 → RCs K ⟨H0, tg, Oa, P0, L', tn', tn0', tgA'⟩ σ B H σ0 ρ0 := by
      intro σ0
      induction σ0 with
      | nil => intro ρ0 q; cases ρ0 <;> exact q
      | cons v σ0 ih =>
        intro ρ0 q
        cases ρ0 with
        | nil => exact q
        | cons c ρ0 => exact ⟨by cases c <;> exact q.1, ih ρ0 q.2⟩
    exact go _ _ q
def argM (ρ : Rho) : Nat → List C → Option (List C)
  | _, [] => some []
  | k, .own _ o :: cs => (argM ρ (k + 1) cs).map (C.own (k + 1) o :: ·)
  | k, .p d :: cs => (argM ρ (k + 1) cs).map (C.p d :: ·)
  | k, c :: cs => match dat ρ c, argM ρ (k + 1) cs with
    | some d, some as => some (.v d :: as)
    | _, _ => none
@[reducible] def retag : C → C → C
  | .own t _, .own _ o => .own t o
  | .own _ _, _ => .no
  | c, _ => c
@[reducible] def retags : List C → List C → List C
  | c :: cs, r :: rs => retag c r :: retags cs rs
  | cs, [] => cs
  | [], _ => []
@[reducible] def C.lfo : C → Bool
  | .own _ (.lst ds) => lfree.lfreeAll ds
  | .own _ (.dct _) => false
  | .own _ (.dtt _) => false
  | .own _ (.lck _ _ _ _) => false
  | .own _ (.prp _ _) => false
  | .own _ (.tre _) => false
  | _ => true
theorem foot_argM {ρ : Rho} : ∀ {ys : List (Option V)} {qs as : List C} {k : Nat}, argM ρ k qs = some as → foot ys as = foot ys qs
  | ys, [], as, k, h => by cases h; rfl
  | [], q :: qs, as, k, _ => by cases as <;> rfl
  | y :: ys, q :: qs, as, k, h => by
    cases q with
    | own t o =>
      unfold argM at h
      cases e : argM ρ (k + 1) qs with
      | none => rw [e] at h; cases h
      | some as' =>
        rw [e] at h
        cases h
        show footC y (.own (k + 1) o) ++ foot ys as' = footC y (.own t o) ++ foot ys qs
        rw [foot_argM e]
        have e3 : footC y (.own (k + 1) o) = footC y (.own t o) := by
          cases y with
          | none => rfl
          | some x => cases x <;> rfl
        rw [e3]
    | p d =>
      unfold argM at h
      cases e : argM ρ (k + 1) qs with
      | none => rw [e] at h; cases h
      | some as' =>
        rw [e] at h
        cases h
        show footC y (.p d) ++ foot ys as' = footC y (.p d) ++ foot ys qs
        rw [foot_argM e]
    | _ =>
      unfold argM at h
      split at h
      · rename_i d as' e1 e2
        cases h
        show footC y (.v d) ++ foot ys as' = footC y _ ++ foot ys qs
        rw [foot_argM e2, footC_v]
        cases y with
        | none => rfl
        | some x => cases x <;> rfl
      · cases h
theorem foot_retags : ∀ {ys : List (Option V)} {qs rs : List C}, ys.length = qs.length → qs.length = rs.length → (foot ys (retags qs rs)).Sublist (foot ys rs)
  | [], [], [], _, _ => List.Sublist.refl _
  | y :: ys, q :: qs, r :: rs, h1, h2 => by
    have ih := foot_retags (ys := ys) (qs := qs) (rs := rs) (by simpa using h1) (by simpa using h2)
    have key : (footC y (retag q r)).Sublist (footC y r) := by
      cases q with
      | own t o =>
        cases r with
        | own t' o' =>
          show (footC y (.own t o')).Sublist (footC y (.own t' o'))
          cases y with
          | none => exact List.Sublist.refl _
          | some x => cases x <;> exact List.Sublist.refl _
        | _ =>
          show (footC y .no).Sublist _
          rw [footC_no]
          exact List.nil_sublist _
      | _ =>
        have e : ∀ c : C, (∀ t o, c ≠ .own t o) → footC y c = [] := fun c hc => by
          cases c with
          | own t o => exact absurd rfl (hc t o)
          | _ =>
            cases y with
            | none => rfl
            | some x => cases x <;> rfl
        rw [show footC y (retag _ r) = [] from e _ (fun t o z => by cases z)]
        exact List.nil_sublist _
    exact key.append ih
  | [], _ :: _, _, h, _ => by simp at h
  | _ :: _, [], _, h, _ => by simp at h
  | _, [], _ :: _, _, h => by simp at h
  | _, _ :: _, [], _, h => by simp at h
section
variable {K : PySem.W.Frag} {g : G} {σ : L2.St} {vs : List V} {H H' : Hp} {ρ : Rho} {cs : List C}
theorem dp_more {B : Hp} {A S T : List Addr} {v : V} {d : D} (hA : ∀ a ∈ A, ∃ xs, B a = some (.lst xs)) (hT : ∀ a ∈ T, a ∈ A ∨ a ∈ S) (hl : A = [] ∨ lfree d = true) (h : Dp K (hide B S) v d) : Dp K (hide B T) v d := by
  have up : ∀ R : List Addr, (∀ a ∈ T, a ∈ R) → Dp K (hide B R) v d → Dp K (hide B T) v d := fun R hR q => dp_mono (fun a o e => by
    obtain ⟨h1, h2⟩ := hide_some.mp e
    exact hide_some.mpr ⟨fun z => h1 (hR a z), h2⟩) _ _ q
  rcases hl with e | e
  · subst e
    exact up S (fun a ha => (hT a ha).resolve_left (by simp)) h
  · exact up (A ++ S) (fun a ha => List.mem_append.mpr (hT a ha)) (dp_lf hA d v e h)
theorem dpAll_more {B : Hp} {A S T : List Addr} : ∀ {ds : List D} {v : List V}, (∀ a ∈ A, ∃ xs, B a = some (.lst xs)) → (∀ a ∈ T, a ∈ A ∨ a ∈ S) → (A = [] ∨ lfree.lfreeAll ds = true) → DpAll K (hide B S) v ds → DpAll K (hide B T) v ds
  | [], _, _, _, _, h => by cases h; exact .nil
  | d :: ds, _, hA, hT, hl, h => by
    cases h with
    | cons h1 h2 =>
      refine .cons (dp_more hA hT (hl.imp id fun z => ?_) h1) (dpAll_more hA hT (hl.imp id fun z => ?_) h2)
      · have q : lfree d = true ∧ lfree.lfreeAll ds = true := by simpa [lfree.lfreeAll] using z
        exact q.1
      · have q : lfree d = true ∧ lfree.lfreeAll ds = true := by simpa [lfree.lfreeAll] using z
        exact q.2
theorem ownAt_more {B : Hp} {A S T : List Addr} {a : Addr} {o : OD} (hA : ∀ a ∈ A, ∃ xs, B a = some (.lst xs)) (hT : ∀ a ∈ T, a ∈ A ∨ a ∈ S) (hl : A = [] ∨ C.lfo (.own 0 o) = true) (h : OwnAt K (hide B S) B a o) : OwnAt K (hide B T) B a o := by
  cases o with
  | lst ds =>
    obtain ⟨xs, h1, h2⟩ := h
    exact ⟨xs, h1, dpAll_more hA hT hl h2⟩
  | dct kvs =>
    rcases hl with e | e
    · subst e
      refine h.mono (fun a o e => ?_) fun _ _ _ q => q
      obtain ⟨h1, h2⟩ := hide_some.mp e
      exact hide_some.mpr ⟨fun z => h1 ((hT a z).resolve_left (by simp)), h2⟩
    · cases e
  | lck _ ob ks kvs =>
    rcases hl with e | e
    · subst e
      refine h.mono (fun a o e => ?_) fun _ _ _ q => q
      obtain ⟨h1, h2⟩ := hide_some.mp e
      exact hide_some.mpr ⟨fun z => h1 ((hT a z).resolve_left (by simp)), h2⟩
    · cases e
  | prp _ _ =>
    rcases hl with e | e
    · subst e
      refine h.mono (fun a o e => ?_) fun _ _ _ q => q
      obtain ⟨h1, h2⟩ := hide_some.mp e
      exact hide_some.mpr ⟨fun z => h1 ((hT a z).resolve_left (by simp)), h2⟩
    · cases e
  | dtt kvs =>
    rcases hl with e | e
    · subst e
      refine h.mono (fun a o e => ?_) fun _ _ _ q => q
      obtain ⟨h1, h2⟩ := hide_some.mp e
      exact hide_some.mpr ⟨fun z => h1 ((hT a z).resolve_left (by simp)), h2⟩
    · cases e
  | tre l =>
    rcases hl with e | e
    · subst e
      refine h.mono (fun a o e => ?_) fun _ _ _ q => q
      obtain ⟨h1, h2⟩ := hide_some.mp e
      exact hide_some.mpr ⟨fun z => h1 ((hT a z).resolve_left (by simp)), h2⟩
    · cases e
theorem plain_more {B : Hp} {A S T : List Addr} {v : V} (hA : ∀ a ∈ A, ∃ xs, B a = some (.lst xs)) (hT : ∀ a ∈ T, a ∈ A ∨ a ∈ S) (h : PlainT (hide B S) v) : PlainT (hide B T) v := by
  obtain ⟨a, o, xs, e1, e2, e3⟩ := h
  obtain ⟨q1, q2⟩ := hide_some.mp e2
  refine ⟨a, o, xs, e1, hide_some.mpr ⟨fun z => ?_, q2⟩, e3⟩
  rcases hT a z with w | w
  · obtain ⟨ys, w⟩ := hA a w
    rw [q2] at w; cases w
  · exact q1 w
theorem SR.callM {xs : List V} {ccs as : List C} (h : SR K g σ (xs ++ vs) H ρ (ccs ++ cs)) (hl : xs.length = ccs.length) (ha : argM ρ 0 ccs = some as) :
    ∃ P, SR K (mkG H xs as P L0) (xs.map some) [] H as [] ∧
      (∀ v H' c rs, c.ok = true → SR K (mkG H xs as P L0) (xs.map some) [v] H' rs [c] → (ccs.any C.isLn = true → c.lf = true ∧ ∀ r ∈ retags ccs rs, r.lfo = true) → SR K g σ (v :: (xs ++ vs)) H' ρ (c :: (retags ccs rs ++ cs))) ∧
      (∀ H' rs, SR K (mkG H xs as P L0) (xs.map some) [] H' rs [] → (ccs.any C.isLn = true → ∀ r ∈ retags ccs rs, r.lfo = true) → SR K g σ (xs ++ vs) H' ρ (retags ccs rs ++ cs) ∧ (ccs.any C.isLn = false →
        Same (hide H' (tot (xs.map some) [] rs [] ++ P)) (hide H' (tot σ (xs ++ vs) ρ (retags ccs rs ++ cs) ++ g.P0)))) := by
  have fa : foot (xs.map some) as = foot (xs.map some) ccs := foot_argM ha
  have nd := h.nd
  rw [tot_app hl] at nd
  obtain ⟨nd1, nd2, nd3⟩ := List.nodup_append.mp nd
  have tp := h.tp
  rw [List.map_append] at tp
  obtain ⟨tp1, tp2⟩ := RCs.split (by simpa using hl) tp
  have base : SR K g σ vs H ρ cs := h.pops hl
  have hdj : ∀ a ∈ foot (xs.map some) ccs, a ∉ tot σ vs ρ cs ++ g.P0 := fun a h1 h2 => by
    rcases List.mem_append.mp h2 with z | z
    · exact nd3 a h1 a z rfl
    · exact h.pout a (by rw [tot_app hl]; exact List.mem_append_left _ h1) z
  have hsub : ∀ a ∈ lentA σ ρ ccs, a ∈ foot σ ρ := fun a q => by
    obtain ⟨i, t, zs, h1, h2, h3⟩ := lentA_mem q
    obtain ⟨b, e4, q5, _⟩ := h.own h3
    rw [h2] at e4
    cases e4
    exact q5
  have hlst : ∀ a ∈ lentA σ ρ ccs, ∃ xs, H a = some (.lst xs) := fun a q => by
    obtain ⟨i, t, zs, h1, h2, h3⟩ := lentA_mem q
    obtain ⟨b, e4, _, ⟨us, q2, _⟩, _⟩ := h.own h3
    rw [h2] at e4
    cases e4
    exact ⟨us, q2⟩
  refine ⟨(tot σ vs ρ cs ++ g.P0).filter fun a => decide (a ∉ lentA σ ρ ccs), ?_, ?_⟩
  · -- the callee's entry
    refine ⟨fun a o e _ => e, fun a o e => ⟨o, e⟩, fun a q => ?_, fun a q => .inl q, ?_, ?_, trivial, fun i q => by simp at q⟩
    · have q1 := (List.mem_filter.mp q).1
      refine ⟨fun z => ?_, base.domO a q1⟩
      have z' : a ∈ foot (xs.map some) as := z
      rw [fa] at z'
      exact hdj a z' q1
    · show (foot ([].map some) [] ++ foot (xs.map some) as).Nodup
      rw [fa]; exact nd1
    · have up : Same (hide H (tot σ (xs ++ vs) ρ (ccs ++ cs) ++ g.P0)) (hide H (foot (xs.map some) as ++ (tot σ vs ρ cs ++ g.P0).filter fun a => decide (a ∉ lentA σ ρ ccs))) := fun a o q => by
        obtain ⟨h1, h2⟩ := hide_some.mp q
        refine hide_some.mpr ⟨fun z => h1 ?_, h2⟩
        rw [tot_app hl, fa] at *
        rcases List.mem_append.mp z with z | z
        · exact List.mem_append_left _ (List.mem_append_left _ z)
        · rcases List.mem_append.mp (List.mem_filter.mp z).1 with z | z
          · exact List.mem_append_left _ (List.mem_append_right _ z)
          · exact List.mem_append_right _ z
      have key : ∀ (ys : List V) (qs as' : List C) (k : Nat), ys.length = qs.length → (∀ j, ys[j]? = xs[k + j]?) → (∀ c ∈ qs, c ∈ ccs) → (∀ a ∈ foot (ys.map some) qs, a ∈ foot (xs.map some) ccs) → RCs K g σ (hide H (tot σ (xs ++ vs) ρ (ccs ++ cs) ++ g.P0)) H (ys.map some) qs → argM ρ k qs = some as' →
          RCs K (mkG H xs as ((tot σ vs ρ cs ++ g.P0).filter fun a => decide (a ∉ lentA σ ρ ccs)) L0) [] (hide H (foot (xs.map some) as ++ (tot σ vs ρ cs ++ g.P0).filter fun a => decide (a ∉ lentA σ ρ ccs))) H (ys.map some) as' := by
        intro ys
        induction ys with
        | nil =>
          intro qs as' k hlen _ _ _ _ ham
          cases qs with
          | nil => cases ham; trivial
          | cons _ _ => simp at hlen
        | cons y ys ih =>
          intro qs as' k hlen hix hin hft hrc ham
          cases qs with
          | nil => simp at hlen
          | cons q qs =>
            have hq := hrc.1
            have next : ∀ as'', argM ρ (k + 1) qs = some as'' → RCs K (mkG H xs as ((tot σ vs ρ cs ++ g.P0).filter fun a => decide (a ∉ lentA σ ρ ccs)) L0) [] (hide H (foot (xs.map some) as ++ (tot σ vs ρ cs ++ g.P0).filter fun a => decide (a ∉ lentA σ ρ ccs))) H (ys.map some) as'' := fun as'' e =>
              ih qs as'' (k + 1) (by simpa using hlen) (fun j => by have := hix (j + 1); rw [List.getElem?_cons_succ] at this; rw [this]; congr 1; omega) (fun c hc => hin c (List.mem_cons_of_mem _ hc)) (fun a z => hft a (by rw [List.map_cons, foot]; exact List.mem_append_right _ z)) hrc.2 e
            have datum : ∀ d, (∃ d0 as'', dat ρ q = some d0 ∧ argM ρ (k + 1) qs = some as'' ∧ as' = .v d0 :: as'' ∧ d = d0) → Dp K (hide H (foot (xs.map some) as ++ (tot σ vs ρ cs ++ g.P0).filter fun a => decide (a ∉ lentA σ ρ ccs))) y d → RCs K (mkG H xs as ((tot σ vs ρ cs ++ g.P0).filter fun a => decide (a ∉ lentA σ ρ ccs)) L0) [] (hide H (foot (xs.map some) as ++ (tot σ vs ρ cs ++ g.P0).filter fun a => decide (a ∉ lentA σ ρ ccs))) H ((y :: ys).map some) as' := by
              rintro d ⟨d0, as'', e1, e2, e3, rfl⟩ hd
              subst e3
              exact ⟨⟨y, rfl, hd⟩, next _ e2⟩
            have spl : ∀ {q}, (∀ t o, q ≠ C.own t o) → (∀ d, q ≠ C.p d) → argM ρ k (q :: qs) = some as' → ∃ d as'', dat ρ q = some d ∧ argM ρ (k + 1) qs = some as'' ∧ as' = .v d :: as'' := by
              intro q hno hnp e
              unfold argM at e
              split at e
              · rename_i z; cases z
              · rename_i t o _ z; cases z; exact absurd rfl (hno _ _)
              · rename_i d _ z; cases z; exact absurd rfl (hnp _)
              · rename_i c cs' _ z
                cases z
                split at e
                · rename_i d as'' e1 e2
                  cases e
                  exact ⟨d, as'', e1, e2, rfl⟩
                · cases e
            cases q with
            | no => obtain ⟨d, as'', e1, _⟩ := spl (fun t o z => by cases z) (fun d z => by cases z) ham; cases e1
            | pk i => obtain ⟨d, as'', e1, _⟩ := spl (fun t o z => by cases z) (fun d z => by cases z) ham; cases e1
            | sub i p k => obtain ⟨d, as'', e1, _⟩ := spl (fun t o z => by cases z) (fun d z => by cases z) ham; cases e1
            | v d' =>
              obtain ⟨d, as'', e1, e2, e3⟩ := spl (fun t o z => by cases z) (fun d z => by cases z) ham
              cases e1
              obtain ⟨x, e4, q1⟩ := hq
              cases e4
              exact datum _ ⟨_, _, rfl, e2, e3, rfl⟩ (dp_mono up _ _ q1)
            | p d' =>
              unfold argM at ham
              cases e : argM ρ (k + 1) qs with
              | none => rw [e] at ham; cases ham
              | some as'' =>
                rw [e] at ham
                cases ham
                obtain ⟨x, e4, q1, q2⟩ := hq
                exact ⟨⟨x, e4, dp_mono up _ _ q1, q2.mono up⟩, next _ e⟩
            | own t o =>
              unfold argM at ham
              cases e : argM ρ (k + 1) qs with
              | none => rw [e] at ham; cases ham
              | some as'' =>
                rw [e] at ham
                cases ham
                obtain ⟨a, e4, q1, _⟩ := hq
                cases e4
                refine ⟨⟨a, rfl, q1.mono up fun _ _ _ z => z, fun _ => ?_, fun z => by cases z⟩, next _ e⟩
                have e5 := hix 0
                rw [List.getElem?_cons_zero, Nat.add_zero] at e5
                have hk : k < xs.length := (List.getElem?_eq_some_iff.mp e5.symm).1
                show (if k + 1 ≤ xs.length then (match xs[k + 1 - 1]? with
                  | some (.ref a) => a
                  | _ => 0) else k + 1 - (xs.length + 1)) = a
                rw [if_pos (by omega), Nat.add_sub_cancel, ← e5]
            | ln i =>
              obtain ⟨d, as'', e1, e2, e3⟩ := spl (fun t o z => by cases z) (fun d z => by cases z) ham
              refine datum _ ⟨_, _, e1, e2, e3, rfl⟩ ?_
              obtain ⟨x, e4, q1⟩ := hq
              cases e4
              have hin' := hin (.ln i) List.mem_cons_self
              revert e1
              show (match rget ρ i with
                | .own _ (.lst ds) => some (PyData.list ds)
                | .v d => some d
                | .p d => some d
                | _ => none) = some d → _
              split
              · rename_i t zs eo
                intro e1
                cases e1
                obtain ⟨a, e6, q7, ⟨us, q2, q3⟩, _⟩ := h.own eo
                rw [q1] at e6
                cases e6
                refine .lst (.inl (.inl (hide_some.mpr ⟨fun z => ?_, q2⟩))) (dpAll_mono up _ _ q3)
                rcases List.mem_append.mp z with z | z
                · rw [fa] at z
                  exact hdj a z (List.mem_append_left _ (List.mem_append_right _ q7))
                · exact of_decide_eq_true (List.mem_filter.mp z).2 (mem_lentA hin' q1 eo)
              · rename_i d' eo
                intro e1
                cases e1
                obtain ⟨x', e6, q2⟩ := h.slot eo
                rw [q1] at e6
                cases e6
                exact dp_mono up _ _ q2
              · rename_i d' eo
                intro e1
                cases e1
                obtain ⟨x', e6, q2, _⟩ := h.slotP eo
                rw [q1] at e6
                cases e6
                exact dp_mono up _ _ q2
              · intro e1; cases e1
      exact key xs ccs as 0 hl (fun j => by rw [Nat.zero_add]) (fun _ q => q) (fun _ q => q) tp1 ha
  · -- behind the call
    have common : ∀ (ws : List V) (H' : Hp) (ds rs : List C), SR K (mkG H xs as ((tot σ vs ρ cs ++ g.P0).filter fun a => decide (a ∉ lentA σ ρ ccs)) L0) (xs.map some) ws H' rs ds → ws.length = ds.length →
        (∀ c ∈ ds, c.ok = true) → ds.length ≤ 1 → (ccs.any C.isLn = true → (∀ c ∈ ds, c.lf = true) ∧ ∀ r ∈ retags ccs rs, r.lfo = true) → SR K g σ (ws ++ (xs ++ vs)) H' ρ (ds ++ (retags ccs rs ++ cs)) := by
      intro ws H' ds rs S' hwl hok hd1 hlf
      have lr : ccs.length = rs.length := by
        have q := S'.sl.len
        rw [List.length_map] at q
        omega
      have fr2 := foot_retags (ys := xs.map some) (by simpa using hl) lr
      have frN : ∀ a ∈ foot (xs.map some) (retags ccs rs), a ∈ foot (xs.map some) ccs ∨ H a = none := fun a q => by
        rcases S'.nw a (List.mem_append_right _ (fr2.subset q)) with z | z
        · exact .inl (by rw [← fa]; exact z)
        · exact .inr z
      have keep : ∀ a o, a ∉ foot (xs.map some) ccs → H a = some o → H' a = some o := fun a o n e => S'.fr a o e (by show a ∉ foot (xs.map some) as; rw [fa]; exact n)
      have fresh : ∀ a ∈ foot (ws.map some) ds, a ∈ foot (xs.map some) ccs ∨ H a = none := fun a q => by
        rcases S'.nw a (List.mem_append_left _ q) with z | z
        · exact .inl (by rw [← fa]; exact z)
        · exact .inr z
      have e1 : tot σ (ws ++ (xs ++ vs)) ρ (ds ++ (retags ccs rs ++ cs)) = foot (ws.map some) ds ++ (foot (xs.map some) (retags ccs rs) ++ tot σ vs ρ cs) := by
        rw [tot_app hwl, tot_app]
        have : ∀ {a b : List C}, a.length = b.length → (retags a b).length = a.length := by
          intro a
          induction a with
          | nil => intro b _; cases b <;> rfl
          | cons x a ih => intro b hb; cases b with
            | nil => simp at hb
            | cons y b => simp [retags, ih (b := b) (by simpa using hb)]
        rw [this lr]; exact hl
      have nd' : (foot (ws.map some) ds ++ foot (xs.map some) (retags ccs rs)).Nodup := ((List.Sublist.refl _).append fr2).nodup S'.nd
      have hT : ∀ a ∈ tot σ (ws ++ (xs ++ vs)) ρ (ds ++ (retags ccs rs ++ cs)) ++ g.P0, a ∈ lentA σ ρ ccs ∨ a ∈ tot (xs.map some) ws rs ds ++ (tot σ vs ρ cs ++ g.P0).filter fun a => decide (a ∉ lentA σ ρ ccs) := fun a q => by
        rw [e1] at q
        by_cases z : a ∈ lentA σ ρ ccs
        · exact .inl z
        · right
          rcases List.mem_append.mp q with q | q
          · rcases List.mem_append.mp q with q | q
            · exact List.mem_append_left _ (List.mem_append_left _ q)
            · rcases List.mem_append.mp q with q | q
              · exact List.mem_append_left _ (List.mem_append_right _ (fr2.subset q))
              · exact List.mem_append_right _ (List.mem_filter.mpr ⟨List.mem_append_left _ q, decide_eq_true z⟩)
          · exact List.mem_append_right _ (List.mem_filter.mpr ⟨List.mem_append_right _ q, decide_eq_true z⟩)
      have hA' : ∀ a ∈ lentA σ ρ ccs, ∃ xs, H' a = some (.lst xs) := fun a q => by
        obtain ⟨us, e⟩ := hlst a q
        exact ⟨us, keep a _ (fun z => hdj a z (List.mem_append_left _ (List.mem_append_right _ (hsub a q)))) e⟩
      have hE : lentA σ ρ ccs = [] ∨ ((∀ c ∈ ds, c.lf = true) ∧ ∀ r ∈ retags ccs rs, r.lfo = true) := by
        cases hb : ccs.any C.isLn with
        | false => exact .inl (lentA_none hb)
        | true => exact .inr (hlf hb)
      refine h.gen (fun a o n e => keep a o (fun z => n (by rw [tot_app hl]; exact List.mem_append_left _ z)) e) S'.dm (fun a q => ?_) ?_ (fun hB => h.sl.mono hB fun a q u e => ?_) (fun hB => ?_) (fun i q => h.pk i ?_)
      · rw [e1] at q
        rcases List.mem_append.mp q with q | q
        · exact (fresh a q).imp (fun z => by rw [tot_app hl]; exact List.mem_append_left _ z) id
        · rcases List.mem_append.mp q with q | q
          · exact (frN a q).imp (fun z => by rw [tot_app hl]; exact List.mem_append_left _ z) id
          · exact .inl (by rw [tot_app hl]; exact List.mem_append_right _ q)
      · rw [e1]
        obtain ⟨n1, n2, n3⟩ := List.nodup_append.mp nd'
        have oldT : ∀ a ∈ tot σ vs ρ cs, ∃ u, H a = some u := fun a z => h.there a (by rw [tot_app hl]; exact List.mem_append_right _ z)
        refine List.nodup_append.mpr ⟨n1, List.nodup_append.mpr ⟨n2, nd2, fun a q b z e => ?_⟩, fun a q b z e => ?_⟩
        · subst e
          rcases frN a q with w | w
          · exact nd3 a w a z rfl
          · obtain ⟨u, e2⟩ := oldT a z
            rw [w] at e2; cases e2
        · subst e
          rcases List.mem_append.mp z with z | z
          · exact n3 a q a z rfl
          · rcases fresh a q with w | w
            · exact nd3 a w a z rfl
            · obtain ⟨u, e2⟩ := oldT a z
              rw [w] at e2; cases e2
      · exact keep a u (fun z => hdj a z (List.mem_append_left _ (List.mem_append_right _ q))) e
      · rw [List.map_append, List.map_append]
        refine RCs.app ?_ (RCs.app ?_ (tp2.mono hB fun a q u e => keep a u (fun z => hdj a z (List.mem_append_left _ (List.mem_append_left _ q))) e))
        · -- the answer
          have go : ∀ (us : List V) (es : List C), (∀ c ∈ es, c ∈ ds) → RCs K (mkG H xs as ((tot σ vs ρ cs ++ g.P0).filter fun a => decide (a ∉ lentA σ ρ ccs)) L0) (xs.map some) (hide H' (tot (xs.map some) ws rs ds ++ (tot σ vs ρ cs ++ g.P0).filter fun a => decide (a ∉ lentA σ ρ ccs))) H' (us.map some) es →
              RCs K g σ (hide H' (tot σ (ws ++ (xs ++ vs)) ρ (ds ++ (retags ccs rs ++ cs)) ++ g.P0)) H' (us.map some) es := by
            intro us
            induction us with
            | nil => intro es _ z; cases es <;> exact z
            | cons u us ih =>
              intro es hin hr
              cases es with
              | nil => exact hr
              | cons e es =>
                refine ⟨?_, ih es (fun c hc => hin c (List.mem_cons_of_mem _ hc)) hr.2⟩
                have q := hr.1
                have hm := hin e List.mem_cons_self
                have hk := hok e hm
                cases e with
                | v d =>
                  obtain ⟨x, e2, q2⟩ := q
                  exact ⟨x, e2, dp_more hA' hT (hE.imp id fun z => z.1 _ hm) q2⟩
                | p d =>
                  obtain ⟨x, e2, q2, q3⟩ := q
                  exact ⟨x, e2, dp_more hA' hT (hE.imp id fun z => z.1 _ hm) q2, plain_more hA' hT q3⟩
                | own t o =>
                  obtain ⟨a, e2, q2, _, qf⟩ := q
                  cases e2
                  have t0 : t = 0 := by cases t with
                    | zero => rfl
                    | succ t => cases hk
                  subst t0
                  refine ⟨a, rfl, ownAt_more hA' hT (hE.imp id fun z => ?_) q2, fun z => absurd rfl z, fun _ => ?_⟩
                  · have z1 := z.1 _ hm
                    cases o with
                    | lst ds => exact z1
                    | dct _ => cases z1
                    | dtt _ => cases z1
                    | lck _ _ _ _ => cases z1
                    | prp _ _ => cases z1
                    | tre _ => cases z1
                  · have e3 : H a = none := qf rfl
                    cases e4 : g.H0 a with
                    | none => rfl
                    | some o' =>
                      obtain ⟨o2, e5⟩ := h.dm a o' e4
                      rw [e3] at e5; cases e5
                | no => cases hk
                | pk i => cases hk
                | ln i => cases hk
                | sub i p k => cases hk
          exact go ws ds (fun _ q => q) S'.tp
        · -- the arguments
          have go : ∀ (us : List V) (es rs' : List C), us.length = es.length → es.length = rs'.length → (∀ r ∈ retags es rs', r ∈ retags ccs rs) → (∀ c ∈ es, c ∈ ccs) → RCs K g σ (hide H (tot σ (xs ++ vs) ρ (ccs ++ cs) ++ g.P0)) H (us.map some) es →
              RCs K (mkG H xs as ((tot σ vs ρ cs ++ g.P0).filter fun a => decide (a ∉ lentA σ ρ ccs)) L0) [] (hide H' (tot (xs.map some) ws rs ds ++ (tot σ vs ρ cs ++ g.P0).filter fun a => decide (a ∉ lentA σ ρ ccs))) H' (us.map some) rs' →
              RCs K g σ (hide H' (tot σ (ws ++ (xs ++ vs)) ρ (ds ++ (retags ccs rs ++ cs)) ++ g.P0)) H' (us.map some) (retags es rs') := by
            intro us
            induction us with
            | nil =>
              intro es rs' h1 h2 _ _ _ _
              cases es with
              | nil => cases rs' with
                | nil => trivial
                | cons _ _ => simp at h2
              | cons _ _ => simp at h1
            | cons u us ih =>
              intro es rs' h1 h2 hrs hcs hr1 hr2
              cases es with
              | nil => simp at h1
              | cons e es =>
                cases rs' with
                | nil => simp at h2
                | cons r rs' =>
                  refine ⟨?_, ih es rs' (by simpa using h1) (by simpa using h2) (fun c hc => hrs c (List.mem_cons_of_mem _ hc)) (fun c hc => hcs c (List.mem_cons_of_mem _ hc)) hr1.2 hr2.2⟩
                  have q1 := hr1.1
                  have q2 := hr2.1
                  cases e with
                  | own t o =>
                    cases r with
                    | own t' o' =>
                      obtain ⟨a, e2, _, q3, q4⟩ := q1
                      cases e2
                      obtain ⟨b, e3, q5, _, _⟩ := q2
                      cases e3
                      refine ⟨a, rfl, ownAt_more hA' hT (hE.imp id fun z => (show C.lfo (.own 0 o') = true from (show C.lfo (.own t o') = C.lfo (.own 0 o') by cases o' <;> rfl) ▸ z.2 _ (hrs (.own t o') List.mem_cons_self))) q5, q3, q4⟩
                    | _ => exact trivial
                  | v d =>
                    obtain ⟨x, e2, q3⟩ := q1
                    exact ⟨x, e2, dp_mono hB _ _ q3⟩
                  | p d =>
                    obtain ⟨x, e2, q3, q4⟩ := q1
                    exact ⟨x, e2, dp_mono hB _ _ q3, q4.mono hB⟩
                  | no => exact trivial
                  | pk i => exact q1
                  | ln i => exact q1
                  | sub i p k => exact q1
          exact go xs ccs rs hl lr (fun _ q => q) (fun _ q => q) tp1 S'.sl
      · have nok : ∀ c ∈ ds, c ≠ .pk i ∧ c ≠ .ln i := fun c hc => ⟨fun z => (by have := hok c hc; rw [z] at this; cases this), fun z => (by have := hok c hc; rw [z] at this; cases this)⟩
        have inR : ∀ {a b : List C} (x : C), (∀ t o, x ≠ .own t o) → x ≠ .no → x ∈ retags a b → x ∈ a := by
          intro a
          induction a with
          | nil => intro b x _ _ z; cases b <;> exact z
          | cons y a ih =>
            intro b x h1 h2 z
            cases b with
            | nil => exact z
            | cons r b =>
              rcases List.mem_cons.mp z with e | z
              · cases y with
                | own t o => cases r with
                  | own t' o' => exact absurd e (h1 _ _)
                  | _ => exact absurd e h2
                | _ => rw [e]; exact List.mem_cons_self
              · exact List.mem_cons_of_mem _ (ih x h1 h2 z)
        rcases q with q | q
        · rcases List.mem_append.mp q with q | q
          · exact absurd rfl (nok _ q).1
          · rcases List.mem_append.mp q with q | q
            · exact .inl (List.mem_append_left _ (inR _ (fun t o z => by cases z) (fun z => by cases z) q))
            · exact .inl (List.mem_append_right _ q)
        · rcases List.mem_append.mp q with q | q
          · exact absurd rfl (nok _ q).2
          · rcases List.mem_append.mp q with q | q
            · exact .inr (List.mem_append_left _ (inR _ (fun t o z => by cases z) (fun z => by cases z) q))
            · exact .inr (List.mem_append_right _ q)
    refine ⟨fun v H' c rs hk S' hlf => ?_, fun H' rs S' hlf => ⟨?_, fun hb => ?_⟩⟩
    · exact common [v] H' [c] rs S' rfl (fun c' hc => by rw [List.mem_singleton.mp hc]; exact hk) (Nat.le_refl _) fun z => ⟨fun c' hc => by rw [List.mem_singleton.mp hc]; exact (hlf z).1, (hlf z).2⟩
    · exact common [] H' [] rs S' rfl (fun c' hc => by simp at hc) (Nat.zero_le _) (fun z => And.intro (fun c' hc => by simp at hc) (hlf z))
    · have lr : ccs.length = rs.length := by
        have q := S'.sl.len
        rw [List.length_map] at q
        omega
      have fr2 := foot_retags (ys := xs.map some) (by simpa using hl) lr
      intro a o e
      obtain ⟨h1, h2⟩ := hide_some.mp e
      refine hide_some.mpr ⟨fun z => h1 ?_, h2⟩
      have e0 := lentA_none (σ := σ) (ρ := ρ) hb
      have lrt : xs.length = (retags ccs rs).length := by
        have : ∀ {a b : List C}, a.length = b.length → (retags a b).length = a.length := by
          intro a
          induction a with
          | nil => intro b _; cases b <;> rfl
          | cons x a ih => intro b hb; cases b with
            | nil => simp at hb
            | cons y b => simp [retags, ih (b := b) (by simpa using hb)]
        rw [this lr]; exact hl
      rw [tot_app lrt] at z
      rcases List.mem_append.mp z with z | z
      · rcases List.mem_append.mp z with z | z
        · exact List.mem_append_left _ (List.mem_append_right _ (fr2.subset z))
        · exact List.mem_append_right _ (List.mem_filter.mpr ⟨List.mem_append_left _ z, decide_eq_true (by rw [e0]; simp)⟩)
      · exact List.mem_append_right _ (List.mem_filter.mpr ⟨List.mem_append_right _ z, decide_eq_true (by rw [e0]; simp)⟩)
end
end DL

set_option Elab.async false
set_option linter.all false
set_option maxRecDepth 100000
set_option maxHeartbeats 4000000
/-! DL, calls of the program's own defs. -/
namespace DL
open PySem PySem.Spec PyProof.Rows L2
section
variable {K : PySem.W.Frag} {g : G} {σ : L2.St} {vs : List V} {H H' : Hp} {ρ : Rho} {cs : List C}
theorem SR.popAll : ∀ {vs : List V} {cs : List C}, SR K g σ vs H ρ cs → SR K g σ [] H ρ []
  | [], [], h => h
  | _ :: _, _ :: _, h => SR.popAll h.pop
  | [], _ :: _, h => (show False from h.tp).elim
  | _ :: _, [], h => (show False from h.tp).elim
theorem XRep.mono {B B' : Hp} {x : XD} {cls : Value} {d : Option Addr} (e : x.fs = [] ∨ Same B B') (h : XRep K B H x cls d) : XRep K B' H x cls d := by
  refine ⟨h.1, h.2.imp id ?_⟩
  rintro ⟨ne, a, fs, e1, e2, e3⟩
  refine ⟨ne, a, fs, e1, e2, ?_⟩
  rcases e with e | e
  · exact absurd e ne
  · exact e3.mono e
theorem same_popAll (h : SR K g σ vs H ρ cs) : Same (hide H (tot σ vs ρ cs ++ g.P0)) (hide H (tot σ [] ρ [] ++ g.P0)) := fun a o e => by
  obtain ⟨h1, h2⟩ := hide_some.mp e
  refine hide_some.mpr ⟨fun z => h1 ?_, h2⟩
  rcases List.mem_append.mp z with z | z
  · exact List.mem_append_left _ (List.mem_append_right _ (show a ∈ foot σ ρ from z))
  · exact List.mem_append_right _ z
theorem SR.unCall {v : V} {c : C} {xs : List V} {ccs : List C} (hl : xs.length = ccs.length) (h : SR K g σ (v :: (xs ++ vs)) H ρ (c :: (ccs ++ cs))) : SR K g σ (v :: vs) H ρ (c :: cs) := SR.pops hl (SR.unrot hl h)
end
@[reducible] def okX (ccs : List C) (x : XD) : Prop := ccs.any C.isLn = true → x.fs = []
@[reducible] def callK (S : SpD) (ρ : Rho) (ccs : List C) (Q : KC) (E : KX) : Prop := useK ρ ccs fun ds => S (ds.map C.v) (fun c _ => okR ccs c ∧ Q c ρ) (fun x _ => okX ccs x ∧ E x ρ)
@[reducible] def hd1 (rs : List C) (k : C → Prop) : Prop := match rs with
  | r :: _ => k r
  | [] => False
@[reducible] def callP (S : SpD) (i : Nat) (ρ : Rho) (rest : List C) (Q : KC) (E : KX) : Prop := match rget ρ i with
  | .own t o => useK (rset ρ i .no) rest fun ds => S (.own 1 o :: ds.map C.v)
      (fun c rs => hd1 rs fun r => (rest.any C.isLn = true → c.lf = true ∧ (retag (.own t o) r).lfo = true) ∧ Q c (rset ρ i (retag (.own t o) r)))
      (fun x rs => hd1 rs fun r => (rest.any C.isLn = true → x.fs = [] ∧ (retag (.own t o) r).lfo = true) ∧ E x (rset ρ i (retag (.own t o) r)))
  | _ => False
@[reducible] def callA (S : SpD) (ρ : Rho) (ccs : List C) (Q : KC) (E : KX) : Prop := match ccs with
  | .pk i :: rest => callP S i ρ rest Q E
  | ccs => callK S ρ ccs Q E
@[reducible] def wCall (S : SpD) (wa : WA) : WE := fun ρ Q E => wa ρ (fun ccs ρ1 => callA S ρ1 ccs Q E) E
theorem isLn_frz : ∀ (ccs : List C), (ccs.map frzC).any C.isLn = ccs.any C.isLn
  | [] => rfl
  | c :: ccs => by
    have e : (frzC c).isLn = c.isLn := by
      cases c with
      | own t o => cases o <;> rfl
      | _ => rfl
    simp [e, isLn_frz ccs]
theorem argM_dats {ρ : Rho} : ∀ {ccs : List C} {ds : List D} {k : Nat}, dats ρ ccs = some ds → argM ρ k (ccs.map frzC) = some (ds.map C.v) ∧ (∀ rs : List C, rs.length = ccs.length → retags (ccs.map frzC) rs = ccs.map frzC) ∧ ∀ c ∈ ccs.map frzC, c.lfo = true
  | [], ds, k, h => by
    cases h
    exact ⟨rfl, fun rs _ => by cases rs <;> rfl, fun c hc => by simp at hc⟩
  | c :: ccs, ds, k, h => by
    unfold dats at h
    split at h
    · rename_i d ds' e1 e2
      cases h
      obtain ⟨i1, i2, i3⟩ := argM_dats (ccs := ccs) (k := k + 1) e2
      have key : ∀ c' : C, (∀ t o, c' ≠ .own t o) → (∀ d, c' ≠ .p d) → dat ρ c' = some d → argM ρ k (c' :: ccs.map frzC) = some (C.v d :: ds'.map C.v) ∧ (∀ rs : List C, rs.length = ccs.length + 1 → retags (c' :: ccs.map frzC) rs = c' :: ccs.map frzC) ∧ c'.lfo = true := by
        intro c' hn hp he
        refine ⟨?_, ?_, ?_⟩
        · cases c' with
          | own t o => exact absurd rfl (hn t o)
          | p d => exact absurd rfl (hp d)
          | _ =>
            unfold argM
            rw [he, i1]
        · intro rs hr
          cases rs with
          | nil => simp at hr
          | cons r rs =>
            cases c' with
            | own t o => exact absurd rfl (hn t o)
            | _ =>
              unfold retags
              rw [i2 rs (by simpa using hr)]
        · cases c' with
          | own t o => exact absurd rfl (hn t o)
          | _ => rfl
      have fin : ∀ c' : C, frzC c = c' → (∀ t o, c' ≠ .own t o) → (∀ d, c' ≠ .p d) → dat ρ c' = some d → argM ρ k ((c :: ccs).map frzC) = some ((d :: ds').map C.v) ∧ (∀ rs : List C, rs.length = (c :: ccs).length → retags ((c :: ccs).map frzC) rs = (c :: ccs).map frzC) ∧ ∀ q ∈ (c :: ccs).map frzC, q.lfo = true := by
        intro c' e hn hp he
        obtain ⟨k1, k2, k3⟩ := key c' hn hp he
        rw [List.map_cons, List.map_cons, e]
        refine ⟨k1, fun rs hr => k2 rs (by simpa using hr), fun q hq => ?_⟩
        rcases List.mem_cons.mp hq with z | z
        · rw [z]; exact k3
        · exact i3 q z
      cases c with
      | no => cases e1
      | pk i => cases e1
      | sub i p k => cases e1
      | p d' => cases e1; exact fin _ rfl (fun t o z => by cases z) (fun d z => by cases z) rfl
      | v d' => exact fin _ rfl (fun t o z => by cases z) (fun d z => by cases z) e1
      | ln i => exact fin _ rfl (fun t o z => by cases z) (fun d z => by cases z) e1
      | own t o =>
        cases o with
        | dct _ => cases e1
        | dtt _ => cases e1
        | lck _ _ _ _ => cases e1
        | prp _ _ => cases e1
        | tre _ => cases e1
        | lst zs =>
          cases e1
          exact fin _ rfl (fun t o z => by cases z) (fun d z => by cases z) rfl
    · cases h
section
variable {K : PySem.W.Frag} {g : G} {W : WX} {σ : L2.St} {vs : List V} {H : Hp} {ρ : Rho} {cs : List C} {i : Nat}
theorem entry_len {K : PySem.W.Frag} {g : G} {xs : List V} {ws : List V} {H : Hp} {rs ds : List C} (S' : SR K g (xs.map some) ws H rs ds) : rs.length = xs.length := by
  have q := S'.sl.len
  rw [List.length_map] at q
  omega
theorem SR.callD {S : SpD} {xs : List V} {ccs : List C} {QD : KC} {ED : KX} {E : XK} {Q : VK} (hl : xs.length = ccs.length) (h : SR K g σ (xs ++ vs) H ρ (ccs ++ cs)) (q : callK S ρ ccs QD ED) (hX : XEnds K g W σ ED) (hE : ∀ cls d σ H, W cls d σ H → E cls d H)
    (hQ : ∀ v H' c, SR K g σ (v :: vs) H' ρ (c :: cs) → QD c ρ → Q v H') : spOf K S xs H Q E := by
  obtain ⟨ds, e, q⟩ := useK_dats q
  obtain ⟨e, rt, lf⟩ := argM_dats (k := 0) e
  have h' := h.frzArgs hl
  have hl' : xs.length = (ccs.map frzC).length := by simpa using hl
  obtain ⟨P, entry, ret, exc⟩ := SR.callM h' hl' e
  refine ⟨_, P, _, _, entry, q, fun c rs hk ⟨ok, qd⟩ v H' S' => ?_, fun x rs ⟨ok, ed⟩ cls d H' S' xr => ?_⟩
  · have er := rt rs (by rw [entry_len S', hl])
    have S1 := ret v H' c rs hk S' fun z => ⟨ok (by rw [isLn_frz] at z; exact z), fun r hr => lf r (by rw [er] at hr; exact hr)⟩
    rw [er] at S1
    exact hQ v H' c (SR.unCall hl' S1) qd
  · have er := rt rs (by rw [entry_len S', hl])
    obtain ⟨S1, hs⟩ := exc H' rs S' fun z r hr => lf r (by rw [er] at hr; exact hr)
    rw [er] at S1 hs
    refine hE cls d σ H' (hX x ρ cls d H' S1.popAll (XRep.mono ?_ xr) ed)
    cases hb : ccs.any C.isLn with
    | true => exact .inl (ok hb)
    | false => exact .inr ((hs (by rw [isLn_frz]; exact hb)).trans (same_popAll S1))
theorem retag_own {t : Nat} {o : OD} {r : C} : (∃ o', retag (.own t o) r = .own t o') ∨ retag (.own t o) r = .no := by
  cases r with
  | own t' o' => exact .inl ⟨o', rfl⟩
  | _ => exact .inr rfl
theorem SR.putBack {x : V} {c : C} (h : SR K g σ (x :: vs) H ρ (c :: cs)) (e1 : σ[i]? = some (some x)) (e2 : rget ρ i = .no) (hc : c.plain = true ∨ c = .no) : SR K g σ vs H (rset ρ i c) cs := by
  rcases hc with hc | hc
  · exact h.moveIn hc e1 e2
  · subst hc
    exact (h.pop).clear i
theorem SR.callP {S : SpD} {x : V} {xs : List V} {ccs : List C} {QD : KC} {ED : KX} {E : XK} {Q : VK} (hl : xs.length = ccs.length) (h : SR K g σ (x :: (xs ++ vs)) H ρ (.pk i :: (ccs ++ cs))) (q : DL.callP S i ρ ccs QD ED) (hX : XEnds K g W σ ED) (hE : ∀ cls d σ H, W cls d σ H → E cls d H)
    (hQ : ∀ v H' c ρ', SR K g σ (v :: vs) H' ρ' (c :: cs) → QD c ρ' → Q v H') : spOf K S (x :: xs) H Q E := by
  unfold DL.callP at q
  split at q
  · rename_i t o eo
    obtain ⟨ds, e, q⟩ := useK_dats q
    obtain ⟨e, rt, lf⟩ := argM_dats (k := 1) e
    have hl' : xs.length = (ccs.map frzC).length := by simpa using hl
    have h1 : SR K g σ (x :: (xs ++ vs)) H ρ (.pk i :: (ccs.map frzC ++ cs)) := SR.rot hl' (SR.frzArgs hl (SR.unrot hl h))
    obtain ⟨ex, h2⟩ := h1.moveOut eo
    have hlen : i < ρ.length := rget_lt (by rw [eo]; exact fun z => nomatch z)
    have en : rget (rset ρ i .no) i = .no := rget_rset hlen
    have ea : argM (rset ρ i .no) 0 (.own t o :: ccs.map frzC) = some (.own 1 o :: ds.map C.v) := by
      unfold argM
      rw [e]
      rfl
    obtain ⟨P, entry, ret, exc⟩ := SR.callM (xs := x :: xs) (ccs := .own t o :: ccs.map frzC) h2 (by simp [hl]) ea
    have hb0 : ∀ ccs : List C, (C.own t o :: ccs).any C.isLn = ccs.any C.isLn := fun ccs => rfl
    refine ⟨_, P, _, _, entry, q, fun c rs hk qd v H' S' => ?_, fun y rs ed cls d H' S' xr => ?_⟩
    · have el := entry_len S'
      cases rs with
      | nil => exact qd.elim
      | cons r rs =>
        obtain ⟨ok, qd⟩ := qd
        have er := rt rs (by have : rs.length = xs.length := by simpa using el
                             rw [this, hl])
        have e3 : retags (.own t o :: ccs.map frzC) (r :: rs) = retag (.own t o) r :: ccs.map frzC := by
          show retag (.own t o) r :: retags (ccs.map frzC) rs = _
          rw [er]
        have S1 := ret v H' c (r :: rs) hk S' fun z => by
          have z' := ok (by rw [hb0, isLn_frz] at z; exact z)
          refine ⟨z'.1, fun p hp => ?_⟩
          rw [e3] at hp
          rcases List.mem_cons.mp hp with w | w
          · rw [w]; exact z'.2
          · exact lf p w
        rw [e3] at S1
        have S2 : SR K g σ (x :: (v :: (xs ++ vs))) H' (rset ρ i .no) (retag (.own t o) r :: (c :: (ccs.map frzC ++ cs))) := SR.rot (xs := [v]) (ccs := [c]) rfl S1
        have S3 := S2.putBack ex en (by
          rcases retag_own (t := t) (o := o) (r := r) with ⟨o', w⟩ | w
          · rw [w]; exact .inl rfl
          · exact .inr w)
        rw [rset_rset] at S3
        exact hQ v H' c _ (SR.unCall hl' S3) qd
    · have el := entry_len S'
      cases rs with
      | nil => exact ed.elim
      | cons r rs =>
        obtain ⟨ok, ed⟩ := ed
        have er := rt rs (by have : rs.length = xs.length := by simpa using el
                             rw [this, hl])
        have e3 : retags (.own t o :: ccs.map frzC) (r :: rs) = retag (.own t o) r :: ccs.map frzC := by
          show retag (.own t o) r :: retags (ccs.map frzC) rs = _
          rw [er]
        obtain ⟨S1, hs⟩ := exc H' (r :: rs) S' fun z p hp => by
          have z' := ok (by rw [hb0, isLn_frz] at z; exact z)
          rw [e3] at hp
          rcases List.mem_cons.mp hp with w | w
          · rw [w]; exact z'.2
          · exact lf p w
        rw [e3] at S1 hs
        have S3 := SR.putBack (i := i) S1 ex en (by
          rcases retag_own (t := t) (o := o) (r := r) with ⟨o', w⟩ | w
          · rw [w]; exact .inl rfl
          · exact .inr w)
        rw [rset_rset] at S3
        refine hE cls d σ H' (hX y _ cls d H' S3.popAll (XRep.mono ?_ xr) ed)
        cases hb : ccs.any C.isLn with
        | true => exact .inl (ok hb).1
        | false =>
          refine .inr ((hs (by rw [hb0, isLn_frz]; exact hb)).trans fun a u z => ?_)
          obtain ⟨z1, z2⟩ := hide_some.mp z
          refine hide_some.mpr ⟨fun w => z1 ?_, z2⟩
          rcases List.mem_append.mp w with w | w
          · refine List.mem_append_left _ ?_
            have w' : a ∈ foot σ (rset ρ i (retag (.own t o) r)) := w
            have pm := foot_in (σ := σ) (ρ := rset ρ i .no) (c := retag (.own t o) r) ex (by rw [rset_len]; exact hlen) en
            rw [rset_rset] at pm
            have w2 := pm.mem_iff.mp w'
            show a ∈ (footC (some x) (retag (.own t o) r) ++ foot ((xs ++ vs).map some) (ccs.map frzC ++ cs)) ++ foot σ (rset ρ i .no)
            rcases List.mem_append.mp w2 with w2 | w2
            · exact List.mem_append_left _ (List.mem_append_left _ w2)
            · exact List.mem_append_right _ w2
          · exact List.mem_append_right _ w
  · exact q.elim
end
section
variable {K : PySem.W.Frag} {g : G} {W : WX} {σ : L2.St} {vs : List V} {H : Hp} {ρ : Rho} {cs : List C} {i : Nat}
end
section
variable {X : Cx} {g : G} {W : WX} {CX : CXT} {k : Nat} {f : Addr} {fd : FuncData} {ps : List Str} {S : SpD} {E : XK} {x : Str} {p pos : Pos} {e : Expr} {es : List Expr} {wa : WA}
theorem ee_call (F : FnOk X.prog X.w X.K X.mg X.base CX k f fd ps (spOf X.K S)) (hr : Room k X.A) (hg : Gl X x) (hm : X.mg x = some (.ref f)) (hk : PySem.W.keepIn X.K (.ref f) = true) (hb : Binds X.K fd ps []) (hx : Passes CX X E) (hE : ∀ cls d σ H, W cls d σ H → E cls d H)
    (ha : EA X g W (e :: es) wa) (hdb : (x == ("__debug__" : Str)) = false := by decide) (he : starEach (e :: es) X.env = (false, eval e X.env) :: starEach es X.env := by rfl) (hpl : (backTo pos (starEach es X.env)).any (·.1) = false := by rfl) :
    EE X g W (.Call (.Name x p) (e :: es) [] pos) (wCall S wa) := by
  obtain ⟨t, q, s⟩ := ha.ex
  refine ⟨_, pe_call F hr hg hm hk hb .nil hx q hdb he hpl, fun σ vs H ρ cs QD ED Q hS hw hX hQ => ?_⟩
  refine s σ vs H ρ cs _ ED _ hS hw hX fun xs H1 ccs ρ1 hl S1 q1 => ?_
  rw [List.append_nil]
  unfold callA at q1
  split at q1
  · rename_i i rest
    cases xs with
    | nil => simp at hl
    | cons x xs => exact SR.callP (by simpa using hl) S1 q1 hX hE hQ
  · exact SR.callD hl S1 q1 hX hE fun v H' c S3 q3 => hQ v H' c ρ1 S3 q3
end
end DL

set_option Elab.async false
set_option linter.all false
set_option maxRecDepth 100000
set_option maxHeartbeats 4000000
/-! DL, statements, loops, comprehensions, a def's body. -/
namespace DL
open PySem PySem.Spec PyProof.Rows L2

structure EndsD where
  nx : Rho → Prop
  rt : KC
  bk : Rho → Prop
  ct : Rho → Prop
  ex : KX
abbrev WS := EndsD → Rho → Prop
def plainAll (cs : List C) : Prop := ∀ c ∈ cs, c.plain = true
structure EndsOk (K : PySem.W.Frag) (g : G) (W : WX) (vs : List V) (cs : List C) (DD : EndsD) (D : Ends) : Prop where
  nx : ∀ σ' H' ρ', SR K g σ' vs H' ρ' cs → DD.nx ρ' → D.nx σ' H'
  bk : ∀ σ' H' ρ', SR K g σ' vs H' ρ' cs → DD.bk ρ' → D.bk σ' H'
  ct : ∀ σ' H' ρ', SR K g σ' vs H' ρ' cs → DD.ct ρ' → D.ct σ' H'
  rt : ∀ v σ' H' c ρ', SR K g σ' (v :: vs) H' ρ' (c :: cs) → DD.rt c ρ' → D.rt v H'
  ex : ∀ σ', XEnds K g W σ' DD.ex
def SemS (K : PySem.W.Frag) (g : G) (W : WX) (t : TS) (w : WS) : Prop :=
  ∀ (σ : L2.St) (vs : List V) (H : Hp) (ρ : Rho) (cs : List C) (DD : EndsD) (D : Ends), SR K g σ vs H ρ cs → plainAll cs → w DD ρ → EndsOk K g W vs cs DD D → t D σ H
structure ES (X : Cx) (g : G) (W : WX) (st : Stmt) (w : WS) : Prop where
  ex : ∃ t, PS X st t ∧ SemS X.K g W t w
structure EB (X : Cx) (g : G) (W : WX) (sts : List Stmt) (w : WS) : Prop where
  ex : ∃ t, PSs X sts t ∧ SemS X.K g W t w
theorem plainAll.nopk {cs : List C} (h : plainAll cs) {j i : Nat} : (C.pk j ∈ cs ∨ C.ln j ∈ cs) → j ≠ i := fun q => by
  rcases q with q | q <;> cases h _ q
theorem plainAll.cons {c : C} {cs : List C} (h : plainAll cs) (hc : c.plain = true) : plainAll (c :: cs) := fun q hq => by
  rcases List.mem_cons.mp hq with e | hq
  · rw [e]; exact hc
  · exact h q hq

@[reducible] def wNext : WS := fun DD ρ => DD.nx ρ
def wSeq (w u : WS) : WS := fun DD ρ => w ⟨u DD, DD.rt, DD.bk, DD.ct, DD.ex⟩ ρ
@[reducible] def wDrop (we : WE) : WS := fun DD ρ => we ρ (fun _ ρ1 => DD.nx ρ1) DD.ex
@[reducible] def wRet (we : WE) : WS := fun DD ρ => we ρ (fun c ρ1 => DD.rt c ρ1) DD.ex
@[reducible] def wRetO (i : Nat) : WS := fun DD ρ => match rget ρ i with
  | .own t o => DD.rt (.own t o) (rset ρ i .no)
  | .v d => DD.rt (.v d) ρ
  | _ => False
@[reducible] def wIf (wt : WT) (w u : WS) : WS := fun DD ρ => wt ρ (fun b ρ1 => if b = true then w DD ρ1 else u DD ρ1) DD.ex
@[reducible] def wSet (i : Nat) (we : WE) : WS := fun DD ρ => we ρ (fun c ρ1 => c.plain = true ∧ DD.nx (rset ρ1 i c)) DD.ex
@[reducible] def wSetF (i : Nat) (we : WE) : WS := fun DD ρ => we ρ (fun c ρ1 => (frzC c).plain = true ∧ DD.nx (rset ρ1 i (frzC c))) DD.ex
section
variable {K : PySem.W.Frag} {g : G} {W : WX} {t u : TS} {w w' : WS} {te : TE} {we : WE}
theorem sem_next : SemS K g W tNext wNext := fun σ vs H ρ cs DD D hS hp hw hE => hE.nx σ H ρ hS hw
theorem sem_seq (h : SemS K g W t w) (h' : SemS K g W u w') : SemS K g W (tSeq t u) (wSeq w w') := fun σ vs H ρ cs DD D hS hp hw hE =>
  h σ vs H ρ cs _ _ hS hp hw ⟨fun σ' H' ρ' S' q => h' σ' vs H' ρ' cs DD D S' hp q hE, hE.bk, hE.ct, hE.rt, hE.ex⟩
theorem sem_drop (h : Sem K g W te we) : SemS K g W (tDrop te) (wDrop we) := fun σ vs H ρ cs DD D hS hp hw hE =>
  h σ vs H ρ cs _ _ _ hS hw (hE.ex σ) fun v H' c ρ' S' q => hE.nx σ H' ρ' S'.pop q
theorem sem_ret (h : Sem K g W te we) : SemS K g W (tRet te) (wRet we) := fun σ vs H ρ cs DD D hS hp hw hE =>
  h σ vs H ρ cs _ _ _ hS hw (hE.ex σ) fun v H' c ρ' S' q => hE.rt v σ H' c ρ' S' q
theorem sem_if {tc : TT} {wt : WT} (hc : SemT K g W tc wt) (h : SemS K g W t w) (h' : SemS K g W u w') : SemS K g W (tIfS tc t u) (wIf wt w w') := fun σ vs H ρ cs DD D hS hp hw hE =>
  hc σ vs H ρ cs _ _ _ hS hw (hE.ex σ) fun b H' ρ' S' q => by
    cases b with
    | true => exact h σ vs H' ρ' cs DD D S' hp q hE
    | false => exact h' σ vs H' ρ' cs DD D S' hp q hE
theorem SR.store {σ : L2.St} {vs : List V} {H : Hp} {ρ : Rho} {cs : List C} {i : Nat} {x : V} {c : C} (h : SR K g σ (x :: vs) H ρ (c :: cs)) (hc : c.plain = true) (hj : ∀ j, (C.pk j ∈ cs ∨ C.ln j ∈ cs) → j ≠ i) : SR K g (σ.set i (some x)) vs H (rset ρ i c) cs := by
  by_cases hi : i < σ.length
  · exact h.assign hc hi hj
  · have e1 : σ.set i (some x) = σ := List.set_eq_of_length_le (by omega)
    have e2 : rset ρ i c = ρ := by
      have hl : ρ.length ≤ i := by rw [← h.len]; omega
      clear h hj e1 hi
      induction ρ generalizing i with
      | nil => rfl
      | cons q ρ ih =>
        cases i with
        | zero => simp at hl
        | succ i =>
          show q :: rset ρ i c = q :: ρ
          rw [ih (by simpa using hl)]
    rw [e1, e2]
    exact h.pop
theorem sem_set {i : Nat} (h : Sem K g W te we) : SemS K g W (tAsg te (gName i)) (wSet i we) := fun σ vs H ρ cs DD D hS hp hw hE =>
  h σ vs H ρ cs _ _ _ hS hw (hE.ex σ) fun v H' c ρ' S' q => hE.nx _ H' _ (S'.store q.1 fun j => hp.nopk) q.2
theorem sem_setF {i : Nat} (h : Sem K g W te we) : SemS K g W (tAsg te (gName i)) (wSetF i we) := fun σ vs H ρ cs DD D hS hp hw hE =>
  h σ vs H ρ cs _ _ _ hS hw (hE.ex σ) fun v H' c ρ' S' q => hE.nx _ H' _ (S'.frzTop.store q.1 fun j => hp.nopk) q.2
end
section
variable {X : Cx} {g : G} {W : WX} {st : Stmt} {rest : List Stmt} {w u : WS} {e : Expr} {we : WE} {pos : Pos}
theorem eb_nil : EB X g W [] wNext := ⟨_, pss_nil, sem_next⟩
theorem eb_cons (h : ES X g W st w) (h' : EB X g W rest u) : EB X g W (st :: rest) (wSeq w u) := by
  obtain ⟨t, p, s⟩ := h.ex
  obtain ⟨t', p', s'⟩ := h'.ex
  exact ⟨_, pss_cons p p', sem_seq s s'⟩
theorem eb_one (h : ES X g W st w) : EB X g W [st] w := by
  obtain ⟨t, p, s⟩ := h.ex
  exact ⟨_, pss_one p, s⟩
theorem es_expr (h : EE X g W e we) (hs : swapsWith e none pos.line X.env = pure false := by rfl) : ES X g W (.Expr e pos) (wDrop we) := by
  obtain ⟨t, p, s⟩ := h.ex
  exact ⟨_, ps_expr p hs, sem_drop s⟩
theorem es_ret (h : EE X g W e we) : ES X g W (.Return (some e) pos) (wRet we) := by
  obtain ⟨t, p, s⟩ := h.ex
  exact ⟨_, ps_ret p, sem_ret s⟩
theorem es_retO {i : Nat} {x : Str} {p : Pos} (hL : g.L i = true) (h : PE X (.Name x p) (tVar i)) : ES X g W (.Return (some (.Name x p)) pos) (wRetO i) := by
  refine ⟨_, ps_ret h, fun σ vs H ρ cs DD D hS hp hw hE => ?_⟩
  unfold wRetO at hw
  split at hw
  · rename_i t o eo
    obtain ⟨a, e1, _⟩ := hS.own eo
    obtain ⟨_, S2⟩ := (hS.pushPk e1 hL).moveOut eo
    exact ⟨_, e1, hE.rt _ σ H _ _ S2 hw⟩
  · rename_i d eo
    obtain ⟨x, e1, q⟩ := hS.slot eo
    exact ⟨_, e1, hE.rt _ σ H _ ρ (SR.resV hS (Same.refl H) q) hw⟩
  · exact hw.elim
theorem es_if {c : Expr} {a b : List Stmt} {wt : WT} (hc : ET X g W c wt) (h : EB X g W a w) (h' : EB X g W b u) : ES X g W (.If c a b pos) (wIf wt w u) := by
  obtain ⟨t, p, s⟩ := hc.ex
  obtain ⟨t1, p1, s1⟩ := h.ex
  obtain ⟨t2, p2, s2⟩ := h'.ex
  exact ⟨_, ps_if p p1 p2, sem_if s s1 s2⟩
theorem es_set {i : Nat} {x : Str} {pos' : Pos} (hN : X.N.Nodup) (hi : X.N[i]? = some x) (hx : Loc X.env.scope x) (h : EE X g W e we) (hs : swapsWith e (some (.Name x pos')) pos.line X.env = pure false := by rfl) (hf : X.fn x = true ∨ X.env.scope.names.lookup x = some .local := by first | exact .inl rfl | exact .inr rfl | assumption) :
    ES X g W (.Assign [.Name x pos'] e pos) (wSet i we) := by
  obtain ⟨t, p, s⟩ := h.ex
  exact ⟨_, ps_set hN hi hx p hs hf, sem_set s⟩
theorem es_setF {i : Nat} {x : Str} {pos' : Pos} (hN : X.N.Nodup) (hi : X.N[i]? = some x) (hx : Loc X.env.scope x) (h : EE X g W e we) (hs : swapsWith e (some (.Name x pos')) pos.line X.env = pure false := by rfl) (hf : X.fn x = true ∨ X.env.scope.names.lookup x = some .local := by first | exact .inl rfl | exact .inr rfl | assumption) :
    ES X g W (.Assign [.Name x pos'] e pos) (wSetF i we) := by
  obtain ⟨t, p, s⟩ := h.ex
  exact ⟨_, ps_set hN hi hx p hs hf, sem_setF s⟩
end

/-! ### targets -/
abbrev WG := D → Rho → (Rho → Prop) → Prop
abbrev WGs := List D → Rho → (Rho → Prop) → Prop
def Only (T : List Nat) (σ σ' : L2.St) : Prop := σ'.length = σ.length ∧ ∀ j, j ∉ T → σ'[j]? = σ[j]?
def SemG (K : PySem.W.Frag) (g : G) (T : List Nat) (t : TG) (w : WG) : Prop :=
  ∀ (σ : L2.St) (vs : List V) (H : Hp) (ρ : Rho) (cs : List C) (x : V) (d : D) (QD : Rho → Prop) (Q : L2.St → Hp → Prop), SR K g σ (x :: vs) H ρ (.v d :: cs) → (∀ j ∈ T, ∀ i, (C.pk i ∈ cs ∨ C.ln i ∈ cs) → i ≠ j) → w d ρ QD →
    (∀ σ' H' ρ', SR K g σ' vs H' ρ' cs → DL.Only T σ σ' → QD ρ' → Q σ' H') → t x σ H Q
def SemGs (K : PySem.W.Frag) (g : G) (T : List Nat) (t : TGs) (w : WGs) : Prop :=
  ∀ (σ : L2.St) (vs : List V) (H : Hp) (ρ : Rho) (cs : List C) (xs : List V) (ds : List D) (QD : Rho → Prop) (Q : L2.St → Hp → Prop), xs.length = ds.length → SR K g σ (xs ++ vs) H ρ (ds.map C.v ++ cs) → (∀ j ∈ T, ∀ i, (C.pk i ∈ cs ∨ C.ln i ∈ cs) → i ≠ j) → w ds ρ QD →
    (∀ σ' H' ρ', SR K g σ' vs H' ρ' cs → DL.Only T σ σ' → QD ρ' → Q σ' H') → t xs σ H Q
structure EG (X : Cx) (g : G) (tg : Expr) (T : List Nat) (w : WG) : Prop where
  ex : ∃ t, PG X tg t ∧ SemG X.K g T t w
structure EGs (X : Cx) (g : G) (tgs : List Expr) (T : List Nat) (w : WGs) : Prop where
  ex : ∃ t, PGs X tgs t ∧ SemGs X.K g T t w
@[reducible] def wgName (i : Nat) : WG := fun d ρ Q => Q (rset ρ i (.v d))
@[reducible] def wgNil : WGs := fun ds ρ Q => match ds with
  | [] => Q ρ
  | _ => False
@[reducible] def wgCons (w : WG) (u : WGs) : WGs := fun ds ρ Q => match ds with
  | d :: ds => w d ρ fun ρ1 => u ds ρ1 Q
  | [] => False
@[reducible] def wgTup (n : Nat) (u : WGs) : WG := fun d ρ Q => match d with
  | .tuple ds => ds.length = n ∧ u ds ρ Q
  | _ => False
theorem tot_vs {σ : L2.St} {ρ : Rho} : ∀ {xs : List V} {ds : List D} {vs : List V} {cs : List C}, xs.length = ds.length → tot σ (xs ++ vs) ρ (ds.map C.v ++ cs) = tot σ vs ρ cs
  | [], [], _, _, _ => rfl
  | x :: xs, d :: ds, vs, cs, h => by
    show tot σ (x :: (xs ++ vs)) ρ (.v d :: (ds.map C.v ++ cs)) = _
    rw [foot_cons_v, tot_vs (by simpa using h)]
  | [], _ :: _, _, _, h => by simp at h
  | _ :: _, [], _, _, h => by simp at h
section
variable {K : PySem.W.Frag} {g : G} {σ : L2.St} {vs : List V} {H : Hp} {ρ : Rho} {cs : List C}
theorem SR.pushAll (h : SR K g σ vs H ρ cs) : ∀ {xs : List V} {ds : List D}, DpAll K (hide H (tot σ vs ρ cs ++ g.P0)) xs ds → SR K g σ (xs ++ vs) H ρ (ds.map C.v ++ cs)
  | _, [], q => by cases q; exact h
  | _, d :: ds, q => by
    cases q with
    | cons h1 h2 =>
      have r := SR.pushAll h h2
      have e := tot_vs (σ := σ) (ρ := ρ) (vs := vs) (cs := cs) (DL.DpAll.len h2)
      have q := SR.resV (H' := H) r (Same.refl H) (by rw [e]; exact h1)
      exact q
theorem only_set {i : Nat} {x : Option V} {T : List Nat} (hi : i ∈ T) : DL.Only T σ (σ.set i x) := ⟨by simp, fun j hj => List.getElem?_set_ne (fun e => hj (by rw [← e]; exact hi))⟩
theorem Only.trans {T T' : List Nat} {σ σ1 σ2 : L2.St} (a : DL.Only T σ σ1) (b : DL.Only T' σ1 σ2) : DL.Only (T ++ T') σ σ2 := ⟨b.1.trans a.1, fun j hj => by
  have h : j ∉ T ∧ j ∉ T' := by simpa using hj
  rw [b.2 j h.2, a.2 j h.1]⟩
theorem semG_name {i : Nat} : SemG K g [i] (gName i) (wgName i) := fun σ vs H ρ cs x d QD Q hS hp hw hQ =>
  hQ _ H _ (hS.store rfl fun j q => hp i (by simp) j q) (only_set (by simp)) hw
theorem semGs_nil : SemGs K g [] gNil wgNil := fun σ vs H ρ cs xs ds QD Q hl hS hp hw hQ => by
  cases ds with
  | nil =>
    cases xs with
    | nil => exact ⟨rfl, hQ σ H ρ hS ⟨rfl, fun _ _ => rfl⟩ hw⟩
    | cons _ _ => simp at hl
  | cons _ _ => exact hw.elim
theorem semGs_cons {T T' : List Nat} {t : TG} {u : TGs} {w : WG} {w' : WGs} (h : SemG K g T t w) (h' : SemGs K g T' u w') : SemGs K g (T ++ T') (gCons t u) (wgCons w w') := fun σ vs H ρ cs xs ds QD Q hl hS hp hw hQ => by
  cases ds with
  | nil => exact hw.elim
  | cons d ds =>
    cases xs with
    | nil => simp at hl
    | cons x xs =>
      refine ⟨x, xs, rfl, ?_⟩
      refine h σ (xs ++ vs) H ρ (ds.map C.v ++ cs) x d _ _ hS (fun j hj i q => hp j (List.mem_append_left _ hj) i ?_) hw fun σ1 H1 ρ1 S1 o1 q1 => ?_
      · have nm : ∀ z : C, (∀ e, z ≠ .v e) → z ∈ ds.map C.v ++ cs → z ∈ cs := fun z hz q => by
          rcases List.mem_append.mp q with q | q
          · obtain ⟨e, _, e2⟩ := List.mem_map.mp q
            exact absurd e2.symm (hz e)
          · exact q
        exact q.imp (nm _ fun e z => by cases z) (nm _ fun e z => by cases z)
      · exact h' σ1 vs H1 ρ1 cs xs ds QD Q (by simpa using hl) S1 (fun j hj => hp j (List.mem_append_right _ hj)) q1 fun σ2 H2 ρ2 S2 o2 q2 => hQ σ2 H2 ρ2 S2 (o1.trans o2) q2
theorem semG_tup {n : Nat} {T : List Nat} {t : TGs} {w : WGs} (h : SemGs K g T t w) : SemG K g T (gTup K n t) (wgTup n w) := fun σ vs H ρ cs x d QD Q hS hp hw hQ => by
  cases d with
  | tuple ds =>
    have q := hS.top
    cases q with
    | tup hs ha =>
      rename_i a xs
      have hs' : SqT K H a xs := seqT_same (fun b o e => (hide_some.mp e).2) hs
      refine ⟨a, xs, rfl, hs', by rw [DL.DpAll.len ha]; exact hw.1, ?_⟩
      exact h σ vs H ρ cs xs ds QD Q (DL.DpAll.len ha) (hS.pop.pushAll ha) hp hw.2 hQ
  | _ => exact hw.elim
end
@[reducible] def wAsg (we : WE) (wg : WG) : WS := fun DD ρ => we ρ (fun c ρ1 => match frzC c with
  | .v d => wg d ρ1 DD.nx
  | _ => False) DD.ex
section
variable {X : Cx} {g : G} {W : WX} {e tg : Expr} {es : List Expr} {we : WE} {wg : WG} {ws : WGs} {T T' : List Nat} {pos : Pos}
theorem eg_name {i : Nat} {x : Str} (hN : X.N.Nodup) (hi : X.N[i]? = some x) (hx : Loc X.env.scope x) (hf : X.fn x = true ∨ X.env.scope.names.lookup x = some .local := by first | exact .inl rfl | exact .inr rfl | assumption) : EG X g (.Name x pos) [i] (wgName i) := ⟨_, pg_name hN hi hx hf, semG_name⟩
theorem egs_nil : EGs X g [] [] wgNil := ⟨_, pgs_nil, semGs_nil⟩
theorem egs_cons (h : EG X g e T wg) (h' : EGs X g es T' ws) (hs : (assignEach (e :: es) X.env).map (·.2) = assign e X.env :: (assignEach es X.env).map (·.2) := by rfl) : EGs X g (e :: es) (T ++ T') (wgCons wg ws) := by
  obtain ⟨t, p, s⟩ := h.ex
  obtain ⟨t', p', s'⟩ := h'.ex
  exact ⟨_, pgs_cons p p' hs, semGs_cons s s'⟩
theorem eg_tup {k : Nat} {n : Nat} (hc : X.calm = true) (h : EGs X g es T ws) (hn : (assignEach es X.env).length = n := by rfl) (hst : (assignEach es X.env).findIdx? (·.1) = none := by rfl) : EG X g (.Tuple es k pos) T (wgTup n ws) := by
  obtain ⟨t, p, s⟩ := h.ex
  exact ⟨_, pg_tup hc p hn hst, semG_tup s⟩
theorem es_asg (h : EE X g W e we) (hg : EG X g tg T wg) (hs : swapsWithSole [tg] e pos.line X.env = pure false := by rfl) (hw : swappedStores [tg] e X.env = pure none := by rfl)
    (h1 : (assignEach [tg] X.env).map (·.2) = [assign tg X.env] := by rfl) : ES X g W (.Assign [tg] e pos) (wAsg we wg) := by
  obtain ⟨t, p, s⟩ := h.ex
  obtain ⟨t', p', s'⟩ := hg.ex
  refine ⟨_, ps_asg p p' hs hw h1, fun σ vs H ρ cs DD D hS hp hw hE => ?_⟩
  refine s σ vs H ρ cs _ _ _ hS hw (hE.ex σ) fun v H' c ρ' S' q => ?_
  split at q
  · rename_i d ec
    have S2 := S'.frzTop
    rw [ec] at S2
    exact s' σ vs H' ρ' cs v d _ _ S2 (fun j _ i => hp.nopk) q fun σ2 H2 ρ2 S3 _ q2 => hE.nx σ2 H2 ρ2 S3 q2
  · exact q.elim
end

/-! ### what loops walk -/
structure Walks (K : PySem.W.Frag) (J : It) (hs : List V) (hd ds : List D) : Prop where
  go : ∀ (H : Hp) (O : List Addr) (i : Nat), (∀ a ∈ O, ∃ u, H a = some u) → DpAll K (hide H O) hs hd → i < ds.length → J.go i H
  yld : ∀ (H : Hp) (O : List Addr) (i : Nat) (y : V) (H' : Hp) (d : D), (∀ a ∈ O, ∃ u, H a = some u) → DpAll K (hide H O) hs hd → J.yld i H y H' → ds[i]? = some d → Same H H' ∧ Dp K (hide H' O) y d
  stop : ∀ (H : Hp) (O : List Addr) (i : Nat), (∀ a ∈ O, ∃ u, H a = some u) → DpAll K (hide H O) hs hd → ds.length ≤ i → J.stop i H
abbrev WI := Rho → (List D → Rho → Prop) → KX → Prop
def SemI (K : PySem.W.Frag) (g : G) (W : WX) (t : TI) (w : WI) : Prop :=
  ∀ (σ : L2.St) (vs : List V) (H : Hp) (ρ : Rho) (cs : List C) (QD : List D → Rho → Prop) (ED : KX) (R : It → Hp → Prop), SR K g σ vs H ρ cs → w ρ QD ED → XEnds K g W σ ED →
    (∀ J hs hd ds H' ρ', hs.length = hd.length → SR K g σ (hs ++ vs) H' ρ' (hd.map C.v ++ cs) → Walks K J hs hd ds → QD ds ρ' → R J H') → t σ H R
structure EI (X : Cx) (g : G) (W : WX) (tg iter : Expr) (w : WI) : Prop where
  ex : ∃ t, PI X tg iter t ∧ SemI X.K g W t w
@[reducible] def forK (wg : WG) (body : WS) : List D → EndsD → Rho → Prop
  | [], DD, ρ => DD.nx ρ
  | d :: ds, DD, ρ => wg d ρ fun ρ1 => body ⟨forK wg body ds DD, DD.rt, DD.nx, forK wg body ds DD, DD.ex⟩ ρ1
@[reducible] def wFor (wi : WI) (wg : WG) (body : WS) : WS := fun DD ρ => wi ρ (fun ds ρ1 => forK wg body ds DD ρ1) DD.ex
theorem plainAll.vs {hd : List D} {cs : List C} (h : plainAll cs) : plainAll (hd.map C.v ++ cs) := fun c hc => by
  rcases List.mem_append.mp hc with q | q
  · obtain ⟨d, _, e⟩ := List.mem_map.mp q
    exact e ▸ rfl
  · exact h c q
section
variable {K : PySem.W.Frag} {g : G} {σ : L2.St} {vs : List V} {H : Hp} {ρ : Rho} {cs : List C}
theorem SR.tops {hs : List V} {hd : List D} (hl : hs.length = hd.length) (h : SR K g σ (hs ++ vs) H ρ (hd.map C.v ++ cs)) : DpAll K (hide H (tot σ vs ρ cs ++ g.P0)) hs hd := by
  have e0 : dats ρ (hd.map C.v) = some hd := by
    clear h hl
    induction hd with
    | nil => rfl
    | cons d hd ih => show (match some d, dats ρ (hd.map C.v) with | some d, some ds => some (d :: ds) | _, _ => none) = _; rw [ih]
  have tp := h.tp
  rw [List.map_append] at tp
  have q := (RCs.split (by simpa using hl) tp).1
  rw [tot_vs hl] at q
  clear tp e0 h
  induction hs generalizing hd with
  | nil => cases hd with
    | nil => exact .nil
    | cons _ _ => simp at hl
  | cons x hs ih => cases hd with
    | nil => simp at hl
    | cons d hd =>
      obtain ⟨⟨y, e, q1⟩, q2⟩ := q
      cases e
      exact .cons q1 (ih (by simpa using hl) q2)
theorem sem_for {W : WX} {T : List Nat} {ti : TI} {tgt : TG} {tb : TS} {wi : WI} {wg : WG} {wb : WS} (hi : SemI K g W ti wi) (hg : SemG K g T tgt wg) (hb : SemS K g W tb wb) : SemS K g W (tFor ti tgt tb) (wFor wi wg wb) := by
  intro σ vs H ρ cs DD D hS hp hw hE
  refine hi σ vs H ρ cs _ _ _ hS hw (hE.ex σ) fun J hs hd ds H1 ρ1 hl S1 wk q1 => ?_
  refine ⟨fun i m σ' H' => m = ds.length - i ∧ ∃ ρ', SR K g σ' (hs ++ vs) H' ρ' (hd.map C.v ++ cs) ∧ forK wg wb (ds.drop i) DD ρ', ⟨ds.length, by simp, ρ1, S1, by simpa using q1⟩, ?_⟩
  rintro i m σ2 H2 ⟨rfl, ρ2, S2, q2⟩
  have dom := (SR.pops (by simpa using hl) S2).domO
  have dd := SR.tops hl S2
  by_cases hlt : i < ds.length
  · refine .inr ⟨wk.go H2 _ i dom dd hlt, fun σ' H' => ∃ ρ', SR K g σ' (hs ++ vs) H' ρ' (hd.map C.v ++ cs) ∧ forK wg wb (ds.drop (i + 1)) DD ρ', fun σ' H' q => ⟨ds.length - (i + 1), by omega, rfl, q⟩, fun x H3 y => ?_⟩
    have ed : ds.drop i = ds[i] :: ds.drop (i + 1) := List.drop_eq_getElem_cons hlt
    rw [ed] at q2
    obtain ⟨sm, dx⟩ := wk.yld H2 _ i x H3 ds[i] dom dd y (List.getElem?_eq_getElem hlt)
    have S3 : SR K g σ2 (x :: (hs ++ vs)) H3 ρ2 (.v ds[i] :: (hd.map C.v ++ cs)) := SR.resV S2 sm (by rw [tot_vs hl]; exact dx)
    refine hg σ2 (hs ++ vs) H3 ρ2 (hd.map C.v ++ cs) x ds[i] _ _ S3 (fun j _ k => hp.vs.nopk) q2 fun σ4 H4 ρ4 S4 _ q4 => ?_
    refine hb σ4 (hs ++ vs) H4 ρ4 (hd.map C.v ++ cs) _ _ S4 hp.vs q4 ⟨fun σ' H' ρ' S' q => ⟨ρ', S', q⟩, fun σ' H' ρ' S' q => ?_, fun σ' H' ρ' S' q => ⟨ρ', S', q⟩, fun v σ' H' c ρ' S' q => ?_, hE.ex⟩
    · exact hE.nx σ' H' ρ' (SR.pops (by simpa using hl) S') q
    · exact hE.rt v σ' H' c ρ' (SR.pops (xs := hs) (ccs := hd.map C.v) (by simpa using hl) (SR.unrot (by simpa using hl) S')) q
  · refine .inl ⟨wk.stop H2 _ i dom dd (by omega), ?_⟩
    have ed : ds.drop i = [] := List.drop_eq_nil_of_le (by omega)
    rw [ed] at q2
    exact hE.nx σ2 H2 ρ2 (SR.pops (by simpa using hl) S2) q2
end
section
variable {X : Cx} {g : G} {W : WX} {tg iter : Expr} {body : List Stmt} {wi : WI} {wg : WG} {wb : WS} {T : List Nat} {pos : Pos}
theorem es_for (hp : PassesOwn (model X.prog X.w) X.A X.env X.xe) (hc : X.calm = true) (hi : EI X g W tg iter wi) (hg : EG X g tg T wg) (hb : EB X g W body wb) (hs : ∀ x, foldedSetIterable iter X.env x = pure x := by intro _; rfl) : ES X g W (.For tg iter body [] pos) (wFor wi wg wb) := by
  obtain ⟨t, p, s⟩ := hi.ex
  obtain ⟨t1, p1, s1⟩ := hg.ex
  obtain ⟨t2, p2, s2⟩ := hb.ex
  exact ⟨_, ps_for hp hc p p1 p2 hs, sem_for s s1 s2⟩
@[reducible] def wWhile (wt : WT) (body : WS) : WS := fun DD ρ => ∃ I : Nat → Rho → Prop, (∃ m, I m ρ) ∧ ∀ m ρ, I m ρ →
  wt ρ (fun b ρ1 => if b = true then body ⟨fun ρ2 => ∃ m', m' < m ∧ I m' ρ2, DD.rt, DD.nx, fun ρ2 => ∃ m', m' < m ∧ I m' ρ2, DD.ex⟩ ρ1 else DD.nx ρ1) DD.ex
theorem es_while {c : Expr} {wt : WT} (hp : PassesOwn (model X.prog X.w) X.A X.env X.xe) (hc : ET X g W c wt) (hb : EB X g W body wb) : ES X g W (.While c body [] pos) (wWhile wt wb) := by
  obtain ⟨t, p, s⟩ := hc.ex
  obtain ⟨t2, p2, s2⟩ := hb.ex
  refine ⟨_, ps_while hp p p2, fun σ vs H ρ cs DD D hS hpl hw hE => ?_⟩
  obtain ⟨I, ⟨m0, i0⟩, turn⟩ := hw
  refine ⟨fun m σ H => ∃ ρ, SR X.K g σ vs H ρ cs ∧ I m ρ, ⟨m0, ρ, hS, i0⟩, ?_⟩
  rintro m σ1 H1 ⟨ρ1, S1, i1⟩
  refine s σ1 vs H1 ρ1 cs _ _ _ S1 (turn m ρ1 i1) (hE.ex σ1) fun b H2 ρ2 S2 q2 => ?_
  cases b with
  | false => exact hE.nx σ1 H2 ρ2 S2 q2
  | true =>
    refine ⟨fun σ' H' => ∃ m', m' < m ∧ ∃ ρ', SR X.K g σ' vs H' ρ' cs ∧ I m' ρ', fun σ' H' ⟨m', h1, h2⟩ => ⟨m', h1, h2⟩, ?_⟩
    exact s2 σ1 vs H2 ρ2 cs _ _ S2 hpl q2 ⟨fun σ' H' ρ' S' ⟨m', h1, h2⟩ => ⟨m', h1, ρ', S', h2⟩, fun σ' H' ρ' S' q => hE.nx σ' H' ρ' S' q, fun σ' H' ρ' S' ⟨m', h1, h2⟩ => ⟨m', h1, ρ', S', h2⟩, hE.rt, hE.ex⟩
end
end DL

set_option Elab.async false
set_option linter.all false
set_option maxRecDepth 100000
set_option maxHeartbeats 4000000
/-! DL, a def keeps its promise; what is walked; comprehensions. -/
namespace DL
open PySem PySem.Spec PyProof.Rows L2

@[reducible] def back1 : C → Option C → C
  | .own t _, some (.own t' o') => if t' = t then .own t o' else .no
  | .own _ _, _ => .no
  | a, _ => a
@[reducible] def backs : List C → Rho → List C
  | [], _ => []
  | a :: as, [] => back1 a none :: backs as []
  | a :: as, c :: ρ => back1 a (some c) :: backs as ρ
@[reducible] def startD (n : Nat) (as : List C) : Rho := as ++ List.replicate (n - as.length) .no
section
variable {K : PySem.W.Frag} {g : G}
theorem SR.leave {H H' : Hp} {us : L2.St} {as : List C} {σ' : L2.St} {v : List V} {c : List C} {ρ' : Rho} (h : SR K g us [] H as []) (hH : g.H0 = H) (hO : g.Oa = foot us as) (h' : SR K g σ' v H' ρ' c) (hok : ∀ q ∈ c, q.ok = true) : SR K g us v H' (backs as ρ') c ∧ ∀ a ∈ foot us (backs as ρ'), a ∈ foot σ' ρ' := by
  have hlen := h.len
  have f0 : ∀ (u : Option V) (a : C), (∀ t o, a ≠ .own t o) → footC u a = [] := fun u a ha => by
    cases a with
    | own t o => exact absurd rfl (ha t o)
    | _ => cases u with
      | none => rfl
      | some x => cases x <;> rfl
  have fnil : ∀ (l : List (Option V)), foot l ([] : List C) = [] := fun l => by cases l <;> rfl
  -- an own parameter that is still there stands where it stood
  have own : ∀ (k : Nat) (us0 : List (Option V)) (as0 : List C) (σ0 : List (Option V)) (ρ0 : Rho), us0.length = as0.length → RCs K g [] (hide H (tot us [] as [] ++ g.P0)) H us0 as0 → RCs K g [] (hide H' (tot σ' v ρ' c ++ g.P0)) H' σ0 ρ0 →
      (foot us0 (backs as0 ρ0)).Sublist (foot σ0 ρ0) ∧ ∀ (B : Hp), Same (hide H' (tot σ' v ρ' c ++ g.P0)) B → Same (hide H (tot us [] as [] ++ g.P0)) B → RCs K g [] B H' us0 (backs as0 ρ0) := by
    intro k us0
    induction us0 with
    | nil =>
      intro as0 σ0 ρ0 hl _ _
      cases as0 with
      | nil => refine ⟨?_, fun B _ _ => ?_⟩ <;> cases ρ0 <;> first | exact trivial | exact List.nil_sublist _
      | cons _ _ => simp at hl
    | cons u us0 ih =>
      intro as0 σ0 ρ0 hl r1 r2
      cases as0 with
      | nil => simp at hl
      | cons a as0 =>
        cases ρ0 with
        | nil =>
          obtain ⟨i1, i2⟩ := ih as0 [] [] (by simpa using hl) r1.2 trivial
          have no : (foot (u :: us0) (.no :: backs as0 [])).Sublist (foot σ0 ([] : List C)) ∧ ∀ (B : Hp), Same (hide H' (tot σ' v ρ' c ++ g.P0)) B → Same (hide H (tot us [] as [] ++ g.P0)) B → RCs K g [] B H' (u :: us0) (.no :: backs as0 []) := by
            refine ⟨?_, fun B h1 h2 => ⟨trivial, i2 B h1 h2⟩⟩
            show (footC u .no ++ foot us0 (backs as0 [])).Sublist _
            rw [footC_no, fnil]
            exact i1
          have same : (∀ t o, a ≠ .own t o) → (foot (u :: us0) (a :: backs as0 [])).Sublist (foot σ0 ([] : List C)) ∧ ∀ (B : Hp), Same (hide H' (tot σ' v ρ' c ++ g.P0)) B → Same (hide H (tot us [] as [] ++ g.P0)) B → RCs K g [] B H' (u :: us0) (a :: backs as0 []) := by
            intro ha
            refine ⟨?_, fun B h1 h2 => ⟨?_, i2 B h1 h2⟩⟩
            · show (footC u a ++ foot us0 (backs as0 [])).Sublist _
              rw [f0 u a ha, fnil]
              exact i1
            · cases a with
              | own t o => exact absurd rfl (ha t o)
              | no => trivial
              | v d => obtain ⟨x, e, q⟩ := r1.1; exact ⟨x, e, dp_mono h2 _ _ q⟩
              | p d => obtain ⟨x, e, q, q'⟩ := r1.1; exact ⟨x, e, dp_mono h2 _ _ q, q'.mono h2⟩
              | pk i => exact r1.1
              | ln i => exact r1.1
              | sub i p k => exact r1.1
          cases a with
          | own t o => exact no
          | _ => exact same fun t o z => by cases z
        | cons c0 ρ0 =>
          cases σ0 with
          | nil => exact r2.elim
          | cons s0 σ0 =>
            obtain ⟨i1, i2⟩ := ih as0 σ0 ρ0 (by simpa using hl) r1.2 r2.2
            have no : (foot (u :: us0) (.no :: backs as0 ρ0)).Sublist (foot (s0 :: σ0) (c0 :: ρ0)) ∧ ∀ (B : Hp), Same (hide H' (tot σ' v ρ' c ++ g.P0)) B → Same (hide H (tot us [] as [] ++ g.P0)) B → RCs K g [] B H' (u :: us0) (.no :: backs as0 ρ0) := by
              refine ⟨?_, fun B h1 h2 => ⟨trivial, i2 B h1 h2⟩⟩
              show (footC u .no ++ foot us0 (backs as0 ρ0)).Sublist (footC s0 c0 ++ foot σ0 ρ0)
              rw [footC_no]
              exact i1.trans (List.sublist_append_right _ _)
            have same : (∀ t o, a ≠ .own t o) → (foot (u :: us0) (a :: backs as0 ρ0)).Sublist (foot (s0 :: σ0) (c0 :: ρ0)) ∧ ∀ (B : Hp), Same (hide H' (tot σ' v ρ' c ++ g.P0)) B → Same (hide H (tot us [] as [] ++ g.P0)) B → RCs K g [] B H' (u :: us0) (a :: backs as0 ρ0) := by
              intro ha
              refine ⟨?_, fun B h1 h2 => ⟨?_, i2 B h1 h2⟩⟩
              · show (footC u a ++ foot us0 (backs as0 ρ0)).Sublist (footC s0 c0 ++ foot σ0 ρ0)
                rw [f0 u a ha]
                exact i1.trans (List.sublist_append_right _ _)
              · cases a with
                | own t o => exact absurd rfl (ha t o)
                | no => trivial
                | v d => obtain ⟨x, e, q⟩ := r1.1; exact ⟨x, e, dp_mono h2 _ _ q⟩
                | p d => obtain ⟨x, e, q, q'⟩ := r1.1; exact ⟨x, e, dp_mono h2 _ _ q, q'.mono h2⟩
                | pk i => exact r1.1
                | ln i => exact r1.1
                | sub i p k => exact r1.1
            cases a with
            | own t o =>
              cases c0 with
              | own t' o' =>
                by_cases et : t' = t
                · have e : backs (.own t o :: as0) (.own t' o' :: ρ0) = .own t o' :: backs as0 ρ0 := by
                    show (if t' = t then C.own t o' else .no) :: backs as0 ρ0 = _
                    rw [if_pos et]
                  rw [e]
                  subst et
                  obtain ⟨b1, e1, _, p1, p2⟩ := r1.1
                  obtain ⟨b2, e2, o2, p3, p4⟩ := r2.1
                  have tn : t' ≠ 0 := fun z => by
                    have q := p2 z
                    have q2 := r1.1
                    obtain ⟨b3, e3, o3, _⟩ := q2
                    obtain ⟨u3, o4⟩ := o3.there
                    rw [e1] at e3; cases e3
                    rw [hH] at q
                    rw [q] at o4; cases o4
                  have eb : b1 = b2 := (p1 tn).symm.trans (p3 tn)
                  subst eb
                  subst e1; subst e2
                  exact ⟨i1.append_left _, fun B h1 h2 => ⟨⟨b1, rfl, o2.mono h1 fun _ _ _ q => q, p3, p4⟩, i2 B h1 h2⟩⟩
                · have e : backs (.own t o :: as0) (.own t' o' :: ρ0) = .no :: backs as0 ρ0 := by
                    show (if t' = t then C.own t o' else .no) :: backs as0 ρ0 = _
                    rw [if_neg et]
                  rw [e]
                  exact no
              | _ => exact no
            | _ => exact same fun t o z => by cases z
  obtain ⟨o0, o2⟩ := own 0 us as σ' ρ' hlen h.sl h'.sl
  have o1 : ∀ a ∈ foot us (backs as ρ'), a ∈ foot σ' ρ' := fun a q => o0.subset q
  have sub : ∀ a ∈ tot us v (backs as ρ') c, a ∈ tot σ' v ρ' c := fun a q => by
    rcases List.mem_append.mp q with z | z
    · exact List.mem_append_left _ z
    · exact List.mem_append_right _ (o1 a z)
  have hB2 : Same (hide H (tot us [] as [] ++ g.P0)) (hide H' (tot us v (backs as ρ') c ++ g.P0)) := fun a o e => by
    obtain ⟨h1, h2⟩ := hide_some.mp e
    have nO : a ∉ g.Oa := fun z => h1 (List.mem_append_left _ (List.mem_append_right _ (by rw [← hO]; exact z)))
    have e0 : g.H0 a = some o := by rw [hH]; exact h2
    refine hide_some.mpr ⟨fun z => ?_, h'.fr a o e0 nO⟩
    rcases List.mem_append.mp z with z | z
    · rcases h'.nw a (sub a z) with q | q
      · exact nO q
      · rw [e0] at q; cases q
    · exact h1 (List.mem_append_right _ z)
  refine ⟨?_, o1⟩
  refine h'.gen (fun _ _ _ q => q) (fun _ o q => ⟨o, q⟩) (fun a q => .inl (sub a q)) ?_ (fun hB => o2 _ hB hB2) (fun hB => ?_) h'.pk
  · have n1 := h'.nd
    have n2 := h.nd
    obtain ⟨p1, p2, p3⟩ := List.nodup_append.mp n1
    refine List.nodup_append.mpr ⟨p1, o0.nodup p2, fun a q b z e => ?_⟩
    subst e
    exact p3 a q a (o1 a z) rfl
  · have q := RCs.mono (B' := hide H' (tot us v (backs as ρ') c ++ g.P0)) (H' := H') hB (fun _ _ _ q => q) h'.tp
    refine q.slots fun j z => ?_
    rcases z with z | z <;> cases hok _ z
end
section
variable {P : Program} {w : World} {K : PySem.W.Frag} {mg : Str → Option Value} {base : Heap} {x qual : Str} {params : Arguments} {body : List Stmt} {scope : Scope} {dvs : List V} {kws : List (Str × V)} {f : Addr} {fd : FuncData}
theorem start_SR {H : Hp} {vs : List V} {as : List C} {P : List Addr} {L : Nat → Bool} {n : Nat} {N : List Str} (hn : N.length = n) (h : SR K (mkG H vs as P L0) (vs.map some) [] H as []) : SR K (mkG H vs as P L) (L2.start N vs) [] H (startD n as) [] := by
  have h1 : SR K (mkG H vs as P L) (vs.map some) [] H as [] := h.setL rfl rfl rfl rfl fun i q => by simp at q
  have hl : vs.length = as.length := by have := h.len; simpa using this
  have e1 : ∀ n, foot (List.replicate n none) (List.replicate n C.no) = [] := fun n => by
    induction n with
    | zero => rfl
    | succ n ih => rw [List.replicate_succ, List.replicate_succ]; show footC none .no ++ foot _ _ = []; rw [ih]; rfl
  have en : N.length - vs.length = n - as.length := by omega
  have ft : foot (L2.start N vs) (startD n as) = foot (vs.map some) as := by
    unfold L2.start startD
    rw [foot_app (by simpa using hl), en, e1, List.append_nil]
  have ft2 : tot (L2.start N vs) [] (startD n as) [] = tot (vs.map some) [] as [] := by
    show foot _ _ ++ foot (L2.start N vs) (startD n as) = foot _ _ ++ _
    rw [ft]
  refine h1.gen (fun _ _ _ q => q) (fun _ o q => ⟨o, q⟩) (fun a q => .inl (by rw [ft2] at q; exact q)) (by rw [ft2]; exact h1.nd) (fun hB => ?_) (fun hB => trivial) (fun i q => by simp at q)
  unfold L2.start startD at hB ⊢
  rw [en] at hB ⊢
  refine RCs.app (h1.sl.mono hB fun _ _ _ q => q) ?_
  have go : ∀ (B : Hp) (m : Nat), RCs K (mkG H vs as P L) [] B H (List.replicate m none) (List.replicate m C.no) := fun B m => by
    induction m with
    | zero => trivial
    | succ m ih => exact ⟨trivial, ih⟩
  exact go _ _
abbrev bodyEnds (as : List C) (QD : C → List C → Prop) (ED : XD → List C → Prop) : EndsD := ⟨fun ρ => QD (.v .none) (backs as ρ), fun c ρ => c.ok = true ∧ QD c (backs as ρ), fun _ => False, fun _ => False, fun x ρ => ED x (backs as ρ)⟩
theorem body_ok {X : Cx} (hK : X.K = K) {N : List Str} {n : Nat} (hn : N.length = n) {Sd : SpD} {ww : WS} {L : Nat → Bool} {W : WX} {E : XK} (hE : ∀ cls d σ H, E cls d H → W cls d σ H)
    (hb : ∀ g : G, g.L = L → EB X g W body ww) (hw : ∀ as QD ED, Sd as QD ED → ww (bodyEnds as QD ED) (startD n as)) {vs : List V} {H : Hp} {Q : VK} (h : spOf K Sd vs H Q E) :
    ∃ t, PSs X body t ∧ t { nx := fun _ H' => Q .non H', rt := Q } (L2.start N vs) H := by
  subst hK
  obtain ⟨as, P, QD, ED, entry, sd, ret, exc⟩ := h
  obtain ⟨t, p, s⟩ := (hb (mkG H vs as P L) rfl).ex
  have e1 : SR X.K (mkG H vs as P L) (vs.map some) [] H as [] := entry.setL rfl rfl rfl rfl fun i q => by simp at q
  refine ⟨t, p, s (L2.start N vs) [] H (startD n as) [] _ _ (start_SR hn entry) (fun c q => by simp at q) (hw as QD ED sd) ⟨fun σ' H' ρ' S' q => ?_, fun _ _ _ _ q => q, fun _ _ _ _ q => q, fun v σ' H' c ρ' S' q => ?_, fun σ' y ρ' cls d H' S' xr ed => ?_⟩⟩
  · obtain ⟨S2, _⟩ := SR.leave e1 rfl rfl (SR.resV S' (Same.refl H') .non) (fun q hq => by first | (rw [List.mem_singleton.mp hq]; done) | (rw [List.mem_singleton.mp hq]; rfl))
    exact ret _ _ rfl q _ H' (S2.setL rfl rfl rfl rfl fun i z => by simp at z)
  · obtain ⟨S2, _⟩ := SR.leave e1 rfl rfl S' (fun z hz => by rw [List.mem_singleton.mp hz]; exact q.1)
    refine ret _ _ q.1 q.2 _ H' (S2.setL rfl rfl rfl rfl fun i z => ?_)
    have := q.1
    rcases z with z | z <;> (rw [← List.mem_singleton.mp z] at this; cases this)
  · obtain ⟨S2, o1⟩ := SR.leave e1 rfl rfl S' (fun q hq => by simp at hq)
    refine hE cls d σ' H' (exc y _ ed cls d H' (S2.setL rfl rfl rfl rfl fun i z => by simp at z) (XRep.mono (.inr fun a o e => ?_) xr))
    obtain ⟨h1, h2⟩ := hide_some.mp e
    refine hide_some.mpr ⟨fun z => h1 ?_, h2⟩
    rcases List.mem_append.mp z with z | z
    · refine List.mem_append_left _ ?_
      exact List.mem_append_right _ (o1 a z)
    · exact List.mem_append_right _ z
end
end DL

set_option Elab.async false
set_option linter.all false
set_option maxRecDepth 100000
set_option maxHeartbeats 4000000
/-! DL: what is walked; comprehensions; subscripts, slices, built-ins. -/
namespace DL
open PySem PySem.Spec PyProof.Rows L2

/-! ### a def -/
section
variable {P : Program} {w : World} {K : PySem.W.Frag} {mg : Str → Option Value} {base : Heap} {x qual : Str} {params : Arguments} {body : List Stmt} {scope : Scope} {dvs : List V} {kws : List (Str × V)} {f : Addr} {fd : FuncData}
theorem fn0 {CX : CXT} {N ps : List Str} {n k : Nat} {Sd : SpD} {L : Nat → Bool} {ww : WS} (F : FunD K x qual params body scope dvs kws f fd) (S : FnScope N ps scope) (hn : N.length = n) (len : ∀ as QD ED, Sd as QD ED → as.length = ps.length)
    (hb : ∀ (cdv : Value) (A : Around) (outer : List Env) (s : Shared) (H : Hp) (E : XK), Room k (A.deeper (envOfC qual scope s.heap.objs.size f cdv)) → ∀ g : G, g.L = L → EB (cxOf CX P w K mg base N qual scope f cdv A outer s H E).nox g (fun _ _ _ _ => False) body ww)
    (hw : ∀ as QD ED, Sd as QD ED → ww (bodyEnds as QD fun _ _ => False) (startD n as)) : FnOk P w K mg base CX (k + 1) f fd ps (spOf K Sd) := by
  refine F.ok S (fun vs H Q E h => ?_) fun cdv A outer s H vs Q E hr h => ?_
  · obtain ⟨as, P, QD, ED, entry, sd, _⟩ := h
    have e := entry.len
    rw [List.length_map] at e
    rw [e, len as QD ED sd]
  · obtain ⟨as, P, QD, ED, entry, sd, ret, exc⟩ := h
    have h2 : spOf K (fun as QD ED' => ED' = (fun _ _ => False) ∧ ∃ ED, Sd as QD ED) vs H Q (fun _ _ _ => False) := ⟨as, P, QD, fun _ _ => False, entry, ⟨rfl, ED, sd⟩, ret, fun x rs z => z.elim⟩
    obtain ⟨t, p, q⟩ := body_ok (N := N) (X := (cxOf CX _ w K mg base N qual scope f cdv A outer s H E).nox) (K := K) rfl hn (W := fun _ _ _ _ => False) (E := fun _ _ _ => False) (fun _ _ _ _ z => z)
      (fun g hg => hb cdv A outer s H E hr g hg) (fun as' QD' ED' ⟨z1, ED2, z2⟩ => by rw [z1]; exact hw as' QD' ED2 z2) h2
    exact ⟨t, p.nox, q⟩
end

/-! ### what is walked -/
section
variable {K : PySem.W.Frag} {hs : List V} {hd ds : List D}
theorem walks_list {a : Addr} {ds : List D} : Walks K (Itl K a) [.ref a] [.list ds] ds := by
  have rd : ∀ {H : Hp} {O : List Addr}, DpAll K (hide H O) [V.ref a] [PyData.list ds] → ∃ xs, SqL K H a xs ∧ DpAll K (hide H O) xs ds := fun {H O} q => by
    cases q with
    | cons q _ =>
      cases q with
      | lst h1 h2 => exact ⟨_, Same.seq (fun b o e => (hide_some.mp e).2) h1, h2⟩
  refine ⟨fun H O i _ q hi => ?_, fun H O i y H' d _ q hy hd => ?_, fun H O i _ q hi => ?_⟩
  · obtain ⟨xs, h1, h2⟩ := rd q
    have hl : i < xs.length := by rw [DL.DpAll.len h2]; exact hi
    exact ⟨xs, xs[i], h1, List.getElem?_eq_getElem hl⟩
  · obtain ⟨xs, h1, h2⟩ := rd q
    obtain ⟨rfl, h3⟩ := hy
    obtain ⟨v, e1, e2⟩ := DL.DpAll.get h2 hd
    have e3 := h3 xs h1
    rw [e1] at e3
    cases e3
    exact ⟨Same.refl _, e2⟩
  · obtain ⟨xs, h1, h2⟩ := rd q
    exact ⟨xs, h1, by rw [DL.DpAll.len h2]; exact hi⟩
theorem walks_tup {a : Addr} {ds : List D} : Walks K (Itt K a) [.ref a] [.tuple ds] ds := by
  have rd : ∀ {H : Hp} {O : List Addr}, DpAll K (hide H O) [V.ref a] [PyData.tuple ds] → ∃ xs, SqT K H a xs ∧ DpAll K (hide H O) xs ds := fun {H O} q => by
    cases q with
    | cons q _ =>
      cases q with
      | tup h1 h2 => exact ⟨_, seqT_same (fun b o e => (hide_some.mp e).2) h1, h2⟩
  refine ⟨fun H O i _ q hi => ?_, fun H O i y H' d _ q hy hd => ?_, fun H O i _ q hi => ?_⟩
  · obtain ⟨xs, h1, h2⟩ := rd q
    have hl : i < xs.length := by rw [DL.DpAll.len h2]; exact hi
    exact ⟨xs, xs[i], h1, List.getElem?_eq_getElem hl⟩
  · obtain ⟨xs, h1, h2⟩ := rd q
    obtain ⟨rfl, h3⟩ := hy
    obtain ⟨v, e1, e2⟩ := DL.DpAll.get h2 hd
    have e3 := h3 xs h1
    rw [e1] at e3
    cases e3
    exact ⟨Same.refl _, e2⟩
  · obtain ⟨xs, h1, h2⟩ := rd q
    exact ⟨xs, h1, by rw [DL.DpAll.len h2]; exact hi⟩
def rangeD (lo : Int) (n : Nat) : List D := (List.range n).map fun (k : Nat) => PyData.int (lo + k)
theorem walks_range {lo : Int} {n : Nat} : Walks K (Itr lo n) [] [] (rangeD lo n) := by
  refine ⟨fun H O i _ q hi => ?_, fun H O i y H' d _ q hy hd => ?_, fun H O i _ q hi => ?_⟩
  · show i < n
    simpa [rangeD] using hi
  · obtain ⟨rfl, rfl⟩ := hy
    have hi : i < n := by
      have := (List.getElem?_eq_some_iff.mp hd).1
      simpa [rangeD] using this
    have e : (rangeD lo n)[i]? = some (.int (lo + i)) := by
      unfold rangeD
      rw [List.getElem?_map, List.getElem?_range hi]
      rfl
    rw [e] at hd
    cases hd
    exact ⟨Same.refl _, .int _⟩
  · show n ≤ i
    simpa [rangeD] using hi
def strD (x : Str) : List D := x.cps.toList.map fun c => PyData.str ⟨#[c]⟩
theorem walks_str {x : Str} : Walks K (Its x) [] [] (strD x) := by
  refine ⟨fun H O i _ q hi => ?_, fun H O i y H' d _ q hy hd => ?_, fun H O i _ q hi => ?_⟩
  · show i < x.cps.size
    simpa [strD] using hi
  · obtain ⟨rfl, c, e, rfl⟩ := hy
    have e2 : (strD x)[i]? = some (.str ⟨#[c]⟩) := by
      unfold strD
      rw [List.getElem?_map, Array.getElem?_toList, e]
      rfl
    rw [e2] at hd
    cases hd
    exact ⟨Same.refl _, .str _⟩
  · show x.cps.size ≤ i
    simpa [strD] using hi
end
@[reducible] def wIL (we : WE) : WI := fun ρ Q E => we ρ (fun c ρ1 => match frzC c with
  | .v (.list ds) => Q ds ρ1
  | _ => False) E
@[reducible] def wIR1 (wa : WA) : WI := fun ρ Q E => wa ρ (fun cs ρ1 => match cs with
  | [.v (.int j)] => (-(2 ^ 62) ≤ j ∧ j < 2 ^ 62) ∧ Q (rangeD 0 j.toNat) ρ1
  | _ => False) E
section
variable {X : Cx} {g : G} {W : WX} {tg e : Expr} {we : WE} {pos : Pos}
theorem ei_lst (h : EE X g W e we) : EI X g W tg e (wIL we) := by
  obtain ⟨t, p, s⟩ := h.ex
  refine ⟨_, pi_list p, fun σ vs H ρ cs QD ED R hS hw hX hQ => ?_⟩
  refine s σ vs H ρ cs _ ED _ hS hw hX fun x H1 c ρ1 S1 q1 => ?_
  split at q1
  · rename_i ds ec
    have S2 := S1.frzTop
    rw [ec] at S2
    have q := S2.top
    cases q with
    | lst h1 h2 =>
      rename_i a xs
      exact ⟨a, rfl, ⟨xs, Same.seq (fun b o e => (hide_some.mp e).2) h1⟩, hQ _ [.ref a] [.list ds] ds H1 ρ1 rfl S2 walks_list q1⟩
  · exact q1.elim
theorem ei_range1 {a : Expr} {wa : WA} {p : Pos} (hg : Gl X "range") (hm : X.mg "range" = none) (ha : EA X g W [a] wa) (hs : starEach [a] X.env = [(false, eval a X.env)] := by rfl) : EI X g W tg (.Call (.Name "range" p) [a] [] pos) (wIR1 wa) := by
  obtain ⟨t, q, s⟩ := ha.ex
  refine ⟨_, pi_range1 hg hm q hs, fun σ vs H ρ cs QD ED R hS hw hX hQ => ?_⟩
  refine s σ vs H ρ cs _ ED _ hS hw hX fun xs H1 ccs ρ1 hl S1 q1 => ?_
  split at q1
  · rename_i j
    match xs, hl with
    | [x], _ =>
      have q := S1.top
      cases q
      exact ⟨j, rfl, q1.1.1, q1.1.2, hQ _ [] [] _ H1 ρ1 rfl S1.pop walks_range q1.2⟩
  · exact q1.elim
end

/-! ### comprehensions -/
@[reducible] def clr (T : List Nat) (ρ : Rho) : Rho := match T with
  | [] => ρ
  | i :: T => rset (clr T ρ) i .no
@[reducible] def lcK (T : List Nat) (wg : WG) (wt : WT) (we : WE) : List D → List D → Rho → (List D → Rho → Prop) → Prop
  | [], acc, ρ, k => k acc ρ
  | d :: ds, acc, ρ, k => wg d ρ fun ρ1 => wt ρ1 (fun b ρ2 => if b = true then we ρ2 (fun c ρ3 => match frzC c with
      | .v d' => lcK T wg wt we ds (acc ++ [d']) (clr T ρ3) k
      | _ => False) (fun _ _ => False) else lcK T wg wt we ds acc (clr T ρ2) k) (fun _ _ => False)
@[reducible] def wYes : WT := fun ρ Q _ => Q true ρ
structure ETs (X : Cx) (g : G) (W : WX) (ifs : List Expr) (w : WT) : Prop where
  ex : ∃ t, PTs X ifs t ∧ SemT X.K g W t w
theorem ets_nil {X : Cx} {g : G} {W : WX} : ETs X g W [] wYes := ⟨_, pts_nil, fun σ vs H ρ cs QD ED Q hS hw hX hQ => hQ true H ρ hS hw⟩
theorem ets_one {X : Cx} {g : G} {W : WX} {c : Expr} {wt : WT} (h : ET X g W c wt) : ETs X g W [c] wt := by
  obtain ⟨t, p, s⟩ := h.ex
  exact ⟨_, pts_one p, s⟩
theorem foot_agree : ∀ {σ σ' : List (Option V)} {ρ : Rho}, σ'.length = σ.length → (∀ j, rget ρ j ≠ .no → σ'[j]? = σ[j]?) → foot σ' ρ = foot σ ρ
  | [], [], _, _, _ => rfl
  | _ :: _, _ :: _, [], _, _ => rfl
  | v :: σ, v' :: σ', c :: ρ, hl, h => by
    have ih := foot_agree (σ := σ) (σ' := σ') (ρ := ρ) (by simpa using hl) fun j hj => by have := h (j + 1) hj; simpa using this
    have e : footC v' c = footC v c := by
      cases c with
      | no => rw [footC_no, footC_no]
      | _ =>
        have e1 := h 0 (fun z => by cases z)
        have e2 : v' = v := by simpa using e1
        rw [e2]
    show footC v' c ++ foot σ' ρ = footC v c ++ foot σ ρ
    rw [e, ih]
  | [], _ :: _, _, h, _ => by simp at h
  | _ :: _, [], _, h, _ => by simp at h
theorem RCs.agree {K : PySem.W.Frag} {g : G} {s : L2.St} {B H : Hp} : ∀ {σ σ' : List (Option V)} {ρ : Rho}, σ'.length = σ.length → (∀ j, rget ρ j ≠ .no → σ'[j]? = σ[j]?) → RCs K g s B H σ ρ → RCs K g s B H σ' ρ
  | [], [], _, _, _, h => h
  | _ :: _, _ :: _, [], _, _, h => h.elim
  | v :: σ, v' :: σ', c :: ρ, hl, h, r => by
    refine ⟨?_, RCs.agree (σ := σ) (σ' := σ') (ρ := ρ) (by simpa using hl) (fun j hj => by have := h (j + 1) hj; simpa using this) r.2⟩
    cases c with
    | no => trivial
    | _ =>
      have e1 := h 0 (fun z => by cases z)
      have e2 : v' = v := by simpa using e1
      rw [e2]
      exact r.1
  | [], _ :: _, _, h, _, _ => by simp at h
  | _ :: _, [], _, h, _, _ => by simp at h
section
variable {K : PySem.W.Frag} {g : G} {σ σ' : L2.St} {vs : List V} {H : Hp} {ρ : Rho} {cs : List C}
theorem SR.agree (h : SR K g σ vs H ρ cs) (hl : σ'.length = σ.length) (hj : ∀ j, rget ρ j ≠ .no → σ'[j]? = σ[j]?) (hp : ∀ j, (C.pk j ∈ cs ∨ C.ln j ∈ cs) → σ'[j]? = σ[j]?) : SR K g σ' vs H ρ cs := by
  have ft : tot σ' vs ρ cs = tot σ vs ρ cs := by
    show foot (vs.map some) cs ++ foot σ' ρ = _
    rw [foot_agree hl hj]
  exact h.gen (fun _ _ _ q => q) (fun _ o q => ⟨o, q⟩) (fun a q => .inl (by rw [ft] at q; exact q)) (by rw [ft]; exact h.nd) (fun hB => (h.sl.mono hB fun _ _ _ q => q).agree hl hj) (fun hB => (h.tp.mono hB fun _ _ _ q => q).slots hp) h.pk
theorem rget_rset_ne : ∀ {ρ : Rho} {i j : Nat} {c : C}, i ≠ j → rget (rset ρ i c) j = rget ρ j
  | [], _, _, _, _ => rfl
  | _ :: _, 0, 0, _, h => absurd rfl h
  | _ :: _, 0, _ + 1, _, _ => rfl
  | _ :: _, _ + 1, 0, _, _ => rfl
  | _ :: ρ, i + 1, j + 1, c, h => rget_rset_ne (ρ := ρ) (i := i) (j := j) (c := c) (fun e => h (by rw [e]))
theorem rget_over : ∀ {ρ : Rho} {i : Nat}, ρ.length ≤ i → rget ρ i = .no
  | [], _, _ => rfl
  | _ :: _, 0, h => by simp at h
  | _ :: ρ, i + 1, h => rget_over (ρ := ρ) (i := i) (by simpa using h)
theorem clr_len : ∀ {T : List Nat}, (clr T ρ).length = ρ.length
  | [] => rfl
  | i :: T => by show (rset (clr T ρ) i .no).length = _; rw [rset_len, clr_len]
theorem clr_in : ∀ {T : List Nat} {j : Nat}, j ∈ T → rget (clr T ρ) j = .no
  | i :: T, j, h => by
    show rget (rset (clr T ρ) i .no) j = .no
    by_cases e : i = j
    · subst e
      by_cases hl : i < ρ.length
      · exact rget_rset (by rw [clr_len]; exact hl)
      · exact rget_over (by rw [rset_len, clr_len]; omega)
    · rw [rget_rset_ne e]
      exact clr_in ((List.mem_cons.mp h).resolve_left fun z => e z.symm)
theorem SR.clrs (h : SR K g σ vs H ρ cs) : ∀ (T : List Nat), SR K g σ vs H (clr T ρ) cs
  | [] => h
  | i :: T => (SR.clrs h T).clear i
theorem wipe_get {T : List Nat} {j : Nat} (h : j ∉ T) : (wipe σ T)[j]? = σ[j]? := wipe_out h
theorem SR.wiped {T : List Nat} (h : SR K g σ vs H ρ cs) (hT : ∀ j ∈ T, rget ρ j = .no) (hL : ∀ j ∈ T, g.L j = false) : SR K g (wipe σ T) vs H ρ cs :=
  h.agree (wipe_length σ T) (fun j hj => wipe_get fun z => hj (hT j z)) fun j hj => wipe_get fun z => by
    have := h.pk j hj
    rw [hL j z] at this; cases this
theorem wipe_in : ∀ {T : List Nat} {j : Nat}, j ∈ T → j < σ.length → (wipe σ T)[j]? = some none
  | i :: T, j, h, hl => by
    show ((wipe σ T).set i none)[j]? = some none
    by_cases e : i = j
    · subst e
      rw [List.getElem?_set_self (by rw [wipe_length]; exact hl)]
    · rw [List.getElem?_set_ne e]
      exact wipe_in ((List.mem_cons.mp h).resolve_left fun z => e z.symm) hl
theorem only_wipe {T : List Nat} (h : DL.Only T σ σ') : wipe σ' T = wipe σ T := by
  apply List.ext_getElem?
  intro j
  by_cases hj : j ∈ T
  · by_cases hl : j < σ.length
    · rw [wipe_in hj hl, wipe_in hj (by rw [h.1]; exact hl)]
    · rw [List.getElem?_eq_none (by rw [wipe_length, h.1]; omega), List.getElem?_eq_none (by rw [wipe_length]; omega)]
  · rw [wipe_get hj, wipe_get hj, h.2 j hj]
theorem wipe_wipe {T : List Nat} : wipe (wipe σ T) T = wipe σ T := only_wipe ⟨wipe_length σ T, fun j hj => wipe_get hj⟩
end
def keptD (ρ : Rho) : List Nat → List D
  | [] => []
  | i :: T => (match rget ρ i with
    | .v d => d
    | _ => .none) :: keptD ρ T
section
variable {K : PySem.W.Frag} {g : G} {σ : L2.St} {vs : List V} {H : Hp} {ρ : Rho} {cs : List C}
theorem keptD_at (h : SR K g σ vs H ρ cs) : ∀ (T : List Nat), ∃ xs : List V, xs.length = (keptD ρ T).length ∧ DpAll K (hide H (tot σ vs ρ cs ++ g.P0)) xs (keptD ρ T) ∧ ∀ (k i : Nat) (d : D), T[k]? = some i → rget ρ i = .v d → ∃ x, xs[k]? = some x ∧ σ[i]? = some (some x)
  | [] => ⟨[], rfl, .nil, fun k i d e => by simp at e⟩
  | i :: T => by
    obtain ⟨xs, h1, h2, h3⟩ := keptD_at h T
    cases e : rget ρ i with
    | v d =>
      obtain ⟨x, e1, q⟩ := h.slot e
      have ek : keptD ρ (i :: T) = d :: keptD ρ T := by show (match rget ρ i with | .v d => d | _ => .none) :: _ = _; rw [e]
      rw [ek]
      refine ⟨x :: xs, by simp [h1], .cons q h2, fun k i' d' e2 e3 => ?_⟩
      cases k with
      | zero =>
        have e4 : i = i' := by simpa using e2
        subst e4
        exact ⟨x, rfl, e1⟩
      | succ k => obtain ⟨y, y1, y2⟩ := h3 k i' d' (by simpa using e2) e3; exact ⟨y, by simpa using y1, y2⟩
    | _ =>
      have ek : keptD ρ (i :: T) = .none :: keptD ρ T := by show (match rget ρ i with | .v d => d | _ => .none) :: _ = _; rw [e]
      rw [ek]
      refine ⟨.non :: xs, by simp [h1], .cons .non h2, fun k i' d' e2 e3 => ?_⟩
      cases k with
      | zero =>
        have e4 : i = i' := by simpa using e2
        subst e4
        rw [e] at e3; cases e3
      | succ k => obtain ⟨y, y1, y2⟩ := h3 k i' d' (by simpa using e2) e3; exact ⟨y, by simpa using y1, y2⟩
end
end DL

set_option Elab.async false
set_option linter.all false
set_option maxRecDepth 100000
set_option maxHeartbeats 4000000
/-! DL: comprehensions, own lists changed. -/
namespace DL
open PySem PySem.Spec PyProof.Rows L2

/-! ### one reading for a piece of syntax, whatever the context -/
def tOfE (K : PySem.W.Frag) (g : G) (W : WX) (w : WE) : TE := fun σ H Q => ∃ vs ρ cs QD ED, SR K g σ vs H ρ cs ∧ w ρ QD ED ∧ XEnds K g W σ ED ∧ ∀ v H' c ρ', SR K g σ (v :: vs) H' ρ' (c :: cs) → QD c ρ' → Q v H'
def tOfT (K : PySem.W.Frag) (g : G) (W : WX) (w : WT) : TT := fun σ H Q => ∃ vs ρ cs QD ED, SR K g σ vs H ρ cs ∧ w ρ QD ED ∧ XEnds K g W σ ED ∧ ∀ b H' ρ', SR K g σ vs H' ρ' cs → QD b ρ' → Q b H'
def tOfG (K : PySem.W.Frag) (g : G) (T : List Nat) (w : WG) : TG := fun x σ H Q => ∃ vs ρ cs d QD, SR K g σ (x :: vs) H ρ (.v d :: cs) ∧ (∀ j ∈ T, ∀ i, (C.pk i ∈ cs ∨ C.ln i ∈ cs) → i ≠ j) ∧ w d ρ QD ∧ ∀ σ' H' ρ', SR K g σ' vs H' ρ' cs → DL.Only T σ σ' → QD ρ' → Q σ' H'
section
variable {X : Cx} {g : G} {W : WX} {e : Expr} {ifs : List Expr} {T : List Nat}
theorem EE.can {w : WE} (h : EE X g W e w) : PE X e (tOfE X.K g W w) := by
  obtain ⟨t, p, s⟩ := h.ex
  exact ⟨fun pins sh σ H Q I ⟨vs, ρ, cs, QD, ED, hS, hw, hX, hQ⟩ => p.run pins sh σ H Q I (s σ vs H ρ cs QD ED Q hS hw hX hQ)⟩
theorem ETs.can {w : WT} (h : ETs X g W ifs w) : PTs X ifs (tOfT X.K g W w) := by
  obtain ⟨t, p, s⟩ := h.ex
  exact ⟨fun pins sh σ H Q I ⟨vs, ρ, cs, QD, ED, hS, hw, hX, hQ⟩ => p.run pins sh σ H Q I (s σ vs H ρ cs QD ED Q hS hw hX hQ)⟩
theorem EG.can {w : WG} (h : EG X g e T w) : PG X e (tOfG X.K g T w) := by
  obtain ⟨t, p, s⟩ := h.ex
  exact ⟨fun pins sh σ H x u Q I r ⟨vs, ρ, cs, d, QD, hS, hp, hw, hQ⟩ => p.run pins sh σ H x u Q I r (s σ vs H ρ cs x d QD Q hS hp hw hQ)⟩
end

section
variable {K : PySem.W.Frag} {g : G} {σ : L2.St} {vs : List V} {H H' : Hp} {ρ : Rho} {cs : List C}
theorem SR.mutTopG {a : Addr} {t : Nat} {o o' : OD} (h : SR K g σ (.ref a :: vs) H ρ (.own t o :: cs)) (keep : ∀ b u, b ∉ o.fp a → H b = some u → H' b = some u) (dom : ∀ b u, H b = some u → ∃ u', H' b = some u')
    (fr : ∀ b ∈ o'.fp a, b ∈ o.fp a ∨ H b = none) (nd' : (o'.fp a).Nodup) (new : OwnAt K (hide H' (tot σ (.ref a :: vs) ρ (.own t o' :: cs) ++ g.P0)) H' a o') : SR K g σ (.ref a :: vs) H' ρ (.own t o' :: cs) := by
  obtain ⟨b, e, q1, q2, q3⟩ := h.tp.1
  cases e
  have nd := h.nd
  rw [foot_cons_own] at nd
  obtain ⟨nd1, nd2, nd3⟩ := List.nodup_append.mp nd
  have na : ∀ b ∈ tot σ vs ρ cs, b ∉ o.fp a := fun b z w => nd3 b w b z rfl
  refine h.gen (fun b u n q => keep b u (fun z => n (by rw [foot_cons_own]; exact List.mem_append_left _ z)) q) dom (fun b q => ?_) ?_ (fun hB => h.sl.mono hB fun b z u q => keep b u (na b (List.mem_append_right _ z)) q) (fun hB => ?_) (fun j q => h.pk j ?_)
  · rw [foot_cons_own] at q ⊢
    rcases List.mem_append.mp q with z | z
    · exact (fr b z).imp (fun w => List.mem_append_left _ w) id
    · exact .inl (List.mem_append_right _ z)
  · rw [foot_cons_own]
    refine List.nodup_append.mpr ⟨nd', nd2, fun b z c w e => ?_⟩
    subst e
    rcases fr b z with y | y
    · exact na b w y
    · obtain ⟨u, e⟩ := h.pop.there b w
      rw [y] at e; cases e
  · refine ⟨⟨a, rfl, new, q2, q3⟩, h.tp.2.mono hB fun b z u q => keep b u (na b (List.mem_append_left _ z)) q⟩
  · simp only [List.mem_cons] at q ⊢
    rcases q with (z | z) | (z | z)
    · cases z
    · exact .inl (.inr z)
    · cases z
    · exact .inr (.inr z)
theorem SR.mutTop {a : Addr} {t : Nat} {o o' : OD} (h : SR K g σ (.ref a :: vs) H ρ (.own t o :: cs)) (keep : ∀ b u, b ≠ a → H b = some u → H' b = some u) (new : OwnAt K (hide H (tot σ (.ref a :: vs) ρ (.own t o :: cs) ++ g.P0)) H' a o') (f1 : o.fp a = [a] := by rfl) (f2 : o'.fp a = [a] := by rfl) : SR K g σ (.ref a :: vs) H' ρ (.own t o' :: cs) := by
  have ft : tot σ (.ref a :: vs) ρ (.own t o' :: cs) = tot σ (.ref a :: vs) ρ (.own t o :: cs) := by rw [foot_cons_own, foot_cons_own, f1, f2]
  refine h.mutTopG (fun b u n q => keep b u (fun z => n (by rw [f1, z]; exact List.mem_singleton.mpr rfl)) q) (fun b u q => ?_) (fun b z => .inl (by rw [f1, ← f2]; exact z)) (by rw [f2]; exact List.nodup_cons.mpr ⟨by simp, .nil⟩) ?_
  · by_cases e : b = a
    · rw [e]; exact new.there
    · exact ⟨u, keep b u e q⟩
  · rw [ft]
    refine new.mono (fun b u q => ?_) fun _ _ _ z => z
    obtain ⟨h1, h2⟩ := hide_some.mp q
    refine hide_some.mpr ⟨h1, keep b u (fun z => h1 ?_) h2⟩
    refine List.mem_append_left _ ?_
    rw [foot_cons_own, f1, z]
    exact List.mem_append_left _ (List.mem_singleton.mpr rfl)
theorem SR.appTop {a : Addr} {y : V} {d : D} {t : Nat} {ds : List D} (h : SR K g σ (y :: .ref a :: vs) H ρ (.v d :: .own t (.lst ds) :: cs)) : ∃ xs, H a = some (.lst xs) ∧ xs.length = ds.length ∧ SR K g σ (.ref a :: vs) (upd H a (.lst (xs ++ [y]))) ρ (.own t (.lst (ds ++ [d])) :: cs) := by
  have hy := h.top
  have h1 := h.pop
  obtain ⟨b, e, ⟨xs, q1, q2⟩, _⟩ := id h1.tp.1
  cases e
  refine ⟨xs, q1, DL.DpAll.len q2, h1.mutTop (fun b u n q => by rw [upd_ne n]; exact q) ⟨xs ++ [y], upd_same, ?_⟩⟩
  exact DL.DpAll.app q2 (.cons hy .nil)
end
@[reducible] def back (ρ : Rho) : List Nat → Rho → Rho
  | [], ρ' => ρ'
  | i :: T, ρ' => back ρ T (rset ρ' i (match rget ρ i with
    | .v d => .v d
    | _ => .no))
section
variable {K : PySem.W.Frag} {g : G} {σ : L2.St} {vs : List V} {H H' : Hp} {ρ ρ0 : Rho} {cs : List C}
theorem SR.backs_ : ∀ {T : List Nat} {ks : List V} {ρ : Rho}, ks.length = (keptD ρ0 T).length → (∀ (k i : Nat) (d : D), T[k]? = some i → rget ρ0 i = .v d → ∃ x, ks[k]? = some x ∧ σ[i]? = some (some x)) → SR K g σ (ks ++ vs) H ρ ((keptD ρ0 T).map C.v ++ cs) → SR K g σ vs H (back ρ0 T ρ) cs
  | [], ks, ρ, hl, _, h => by
    cases ks with
    | nil => exact h
    | cons _ _ => simp [keptD] at hl
  | i :: T, ks, ρ, hl, hk, h => by
    cases ks with
    | nil => simp [keptD] at hl
    | cons x ks =>
      have hk' : ∀ (k j : Nat) (d : D), T[k]? = some j → rget ρ0 j = .v d → ∃ y, ks[k]? = some y ∧ σ[j]? = some (some y) := fun k j d e1 e2 => by
        obtain ⟨y, y1, y2⟩ := hk (k + 1) j d (by simpa using e1) e2
        exact ⟨y, by simpa using y1, y2⟩
      cases e : rget ρ0 i with
      | v d =>
        have ek : keptD ρ0 (i :: T) = d :: keptD ρ0 T := by show (match rget ρ0 i with | .v d => d | _ => .none) :: _ = _; rw [e]
        rw [ek] at h hl
        obtain ⟨y, y1, y2⟩ := hk 0 i d rfl e
        have e3 : x = y := by simpa using y1
        subst e3
        have hlt : i < ρ.length := by rw [← h.len]; exact (List.getElem?_eq_some_iff.mp y2).1
        have h1 : SR K g σ (x :: (ks ++ vs)) H (rset ρ i .no) (.v d :: ((keptD ρ0 T).map C.v ++ cs)) := h.clear i
        have h2 := h1.moveIn rfl y2 (rget_rset hlt)
        rw [rset_rset] at h2
        show SR K g σ vs H (back ρ0 T (rset ρ i (match rget ρ0 i with | .v d => .v d | _ => .no))) cs
        rw [e]
        exact SR.backs_ (by simpa using hl) hk' h2
      | _ =>
        have ek : keptD ρ0 (i :: T) = .none :: keptD ρ0 T := by show (match rget ρ0 i with | .v d => d | _ => .none) :: _ = _; rw [e]
        rw [ek] at h hl
        have h1 : SR K g σ (ks ++ vs) H (rset ρ i .no) ((keptD ρ0 T).map C.v ++ cs) := (SR.pop (x := x) (c := .v .none) h).clear i
        show SR K g σ vs H (back ρ0 T (rset ρ i (match rget ρ0 i with | .v d => .v d | _ => .no))) cs
        rw [e]
        exact SR.backs_ (by simpa using hl) hk' h1
end
theorem SR.midV {K : PySem.W.Frag} {g : G} {σ : L2.St} {vs xs hs : List V} {H : Hp} {ρ : Rho} {cs ccs : List C} {hd : List D} (hl : xs.length = ccs.length) (hh : hs.length = hd.length) (h : SR K g σ (xs ++ (hs ++ vs)) H ρ (ccs ++ (hd.map C.v ++ cs))) :
    DpAll K (hide H (tot σ (xs ++ (hs ++ vs)) ρ (ccs ++ (hd.map C.v ++ cs)) ++ g.P0)) hs hd := by
  have tp := h.tp
  rw [List.map_append, List.map_append] at tp
  have q := (RCs.split (by simpa using hh) (RCs.split (by simpa using hl) tp).2).1
  revert q
  generalize hide H _ = B
  intro q
  clear tp h
  induction hs generalizing hd with
  | nil => cases hd with
    | nil => exact .nil
    | cons _ _ => simp at hh
  | cons x hs ih => cases hd with
    | nil => simp at hh
    | cons d hd =>
      obtain ⟨⟨y, e, q1⟩, q2⟩ := q
      cases e
      exact .cons q1 (ih (by simpa using hh) q2)
@[reducible] def wLcB (T : List Nat) (wi : WI) (wg : WG) (wt : WT) (we : WE) : WE := fun ρ Q E => wi ρ (fun ds ρ1 => ds.length ≤ sizeLine ∧ lcK T wg wt we ds [] (clr T ρ1) fun acc ρ2 => Q (.own 0 (.lst acc)) (back ρ1 T ρ2)) E
abbrev W0 : WX := fun _ _ _ _ => False
section
variable {K : PySem.W.Frag} {g : G} {W : WX} {T : List Nat} {ti : TI} {wi : WI} {wg : WG} {wt : WT} {we : WE}
theorem sem_lc (hL : ∀ j ∈ T, g.L j = false) (hi : SemI K g W ti wi) : Sem K g W (tLc ti (tOfG K g T wg) (tOfT K g W0 wt) (tOfE K g W0 we) T) (wLcB T wi wg wt we) := by
  intro σ vs H ρ cs QD ED Q hS hw hX hQ
  refine hi σ vs H ρ cs _ ED _ hS hw hX fun J hs hd ds H1 ρ1 hl S1 wk ⟨hlen, q1⟩ D nD => ?_
  obtain ⟨ks, k1, k2, k3⟩ := keptD_at S1 T
  have S2 : SR K g σ (ks ++ (hs ++ vs)) H1 ρ1 ((keptD ρ1 T).map C.v ++ (hd.map C.v ++ cs)) := S1.pushAll k2
  have S3 := S2.clrs T
  have S4 := S3.wiped (T := T) (fun j hj => clr_in hj) hL
  have S5 : SR K g (wipe σ T) (.ref D :: (ks ++ (hs ++ vs))) (upd H1 D (.lst [])) (clr T ρ1) (.own 0 (.lst []) :: ((keptD ρ1 T).map C.v ++ (hd.map C.v ++ cs))) := SR.res S4 (same_new nD) (new_lst nD .nil)
  refine ⟨fun i m H => m = ds.length - i ∧ ∃ acc ρ', SR K g (wipe σ T) (.ref D :: (ks ++ (hs ++ vs))) H ρ' (.own 0 (.lst acc) :: ((keptD ρ1 T).map C.v ++ (hd.map C.v ++ cs))) ∧ (∀ j ∈ T, rget ρ' j = .no) ∧ acc.length ≤ i ∧ lcK T wg wt we (ds.drop i) acc ρ' fun acc ρ2 => QD (.own 0 (.lst acc)) (back ρ1 T ρ2),
    ⟨ds.length, by simp, [], clr T ρ1, S5, fun j hj => clr_in hj, Nat.zero_le _, by simpa using q1⟩, ?_⟩
  rintro i m H2 ⟨rfl, acc, ρ2, S6, hno, hacc, q6⟩
  have hlk : ks.length = ((keptD ρ1 T).map C.v).length := by simpa using k1
  have hlh : hs.length = (hd.map C.v).length := by simpa using hl
  have S7 : SR K g (wipe σ T) (hs ++ vs) H2 ρ2 (hd.map C.v ++ cs) := SR.pops hlk S6.pop
  have dd := SR.tops hl S7
  have dom := (SR.pops hlh S7).domO
  by_cases hlt : i < ds.length
  · refine .inr ⟨wk.go H2 _ i dom dd hlt, fun H' => ∃ acc ρ', SR K g (wipe σ T) (.ref D :: (ks ++ (hs ++ vs))) H' ρ' (.own 0 (.lst acc) :: ((keptD ρ1 T).map C.v ++ (hd.map C.v ++ cs))) ∧ (∀ j ∈ T, rget ρ' j = .no) ∧ acc.length ≤ i + 1 ∧ lcK T wg wt we (ds.drop (i + 1)) acc ρ' fun acc ρ2 => QD (.own 0 (.lst acc)) (back ρ1 T ρ2),
      fun H' q => ⟨ds.length - (i + 1), by omega, rfl, q⟩, fun x H3 y => ?_⟩
    have ed : ds.drop i = ds[i] :: ds.drop (i + 1) := List.drop_eq_getElem_cons hlt
    rw [ed] at q6
    obtain ⟨sm, dx⟩ := wk.yld H2 _ i x H3 ds[i] dom dd y (List.getElem?_eq_getElem hlt)
    have dd2 := SR.midV (xs := .ref D :: ks) (ccs := .own 0 (.lst acc) :: (keptD ρ1 T).map C.v) (by simp [k1]) hl S6
    have dx2 := (wk.yld H2 _ i x H3 ds[i] S6.domO dd2 y (List.getElem?_eq_getElem hlt)).2
    have S9 : SR K g (wipe σ T) (x :: .ref D :: (ks ++ (hs ++ vs))) H3 ρ2 (.v ds[i] :: .own 0 (.lst acc) :: ((keptD ρ1 T).map C.v ++ (hd.map C.v ++ cs))) := SR.resV S6 sm dx2
    have noX : ∀ σ', XEnds K g W0 σ' (fun _ _ => False) := fun σ' _ _ _ _ _ _ _ z => z
    -- a turn's end
    have turn : ∀ {σ2 : L2.St} {H' : Hp} {ρ' : Rho} {acc' : List PyData}, DL.Only T (wipe σ T) σ2 → SR K g σ2 (.ref D :: (ks ++ (hs ++ vs))) H' ρ' (.own 0 (.lst acc') :: ((keptD ρ1 T).map C.v ++ (hd.map C.v ++ cs))) → acc'.length ≤ i + 1 → lcK T wg wt we (ds.drop (i + 1)) acc' (clr T ρ') (fun acc ρ2 => QD (.own 0 (.lst acc)) (back ρ1 T ρ2)) →
        ∃ acc ρ', SR K g (wipe σ T) (.ref D :: (ks ++ (hs ++ vs))) H' ρ' (.own 0 (.lst acc) :: ((keptD ρ1 T).map C.v ++ (hd.map C.v ++ cs))) ∧ (∀ j ∈ T, rget ρ' j = .no) ∧ acc.length ≤ i + 1 ∧ lcK T wg wt we (ds.drop (i + 1)) acc ρ' fun acc ρ2 => QD (.own 0 (.lst acc)) (back ρ1 T ρ2) := by
      intro σ2 H' ρ' acc' on S hle q
      have S' := (S.clrs T).wiped (T := T) (fun j hj => clr_in hj) hL
      rw [only_wipe on, wipe_wipe] at S'
      exact ⟨acc', clr T ρ', S', fun j hj => clr_in hj, hle, q⟩
    refine ⟨_, ρ2, _, ds[i], _, S9, fun j hj k q e => ?_, q6, fun σ2 H4 ρ4 S10 on q10 => ⟨by rw [only_wipe on, wipe_wipe], _, ρ4, _, _, fun _ _ => False, S10, q10, noX σ2, fun b H5 ρ5 S11 q11 => ?_⟩⟩
    · have q' := S6.pk k q
      rw [e, hL j hj] at q'; cases q'
    · cases b with
      | false =>
        rw [if_neg Bool.false_ne_true] at q11 ⊢
        exact turn on S11 (by omega) q11
      | true =>
        rw [if_pos rfl] at q11 ⊢
        refine ⟨_, ρ5, _, _, fun _ _ => False, S11, q11, noX σ2, fun z H6 c ρ6 S12 q12 => ?_⟩
        split at q12
        · rename_i d' ec
          have S13 := S12.frzTop
          rw [ec] at S13
          obtain ⟨zs, e1, e2, S14⟩ := S13.appTop
          exact ⟨zs, e1, by omega, turn on S14 (by simp; omega) q12⟩
        · exact q12.elim
  · refine .inl ⟨wk.stop H2 _ i dom dd (by omega), ?_⟩
    have ed : ds.drop i = [] := List.drop_eq_nil_of_le (by omega)
    rw [ed] at q6
    have S8 : SR K g σ (.ref D :: (ks ++ (hs ++ vs))) H2 ρ2 (.own 0 (.lst acc) :: ((keptD ρ1 T).map C.v ++ (hd.map C.v ++ cs))) := by
      refine S6.agree (wipe_length σ T).symm (fun j hj => (wipe_get fun z => hj (hno j z)).symm) fun j hj => (wipe_get fun z => ?_).symm
      have q' := S6.pk j hj
      rw [hL j z] at q'; cases q'
    have S9 : SR K g σ (ks ++ .ref D :: (hs ++ vs)) H2 ρ2 ((keptD ρ1 T).map C.v ++ .own 0 (.lst acc) :: (hd.map C.v ++ cs)) := SR.unrot hlk S8
    have S10 := SR.backs_ k1 k3 S9
    exact hQ (.ref D) H2 _ _ (SR.unCall hlh S10) q6
end
section
variable {X : Cx} {g : G} {W : WX} {elt tg iter : Expr} {ifs : List Expr} {scope : Scope} {own : List (Str × Nat)} {pos : Pos} {wi : WI} {wg : WG} {wt : WT} {we : WE}
theorem ee_lc (hc : X.calm = true) (hN : X.N.Nodup) (hL : ∀ j ∈ own.map (·.2), g.L j = false) (hi : EI X g W tg iter wi) (ok : BlkOk X.N X.env.scope scope own)
    (hg : ∀ (s : Shared) (H : Hp) (C : Addr) (cl : List (Str × Addr)) (fp : List Addr), EG (X.blk s H scope (compEnvC scope cl C X.env) fp) g tg (own.map (·.2)) wg)
    (ht : ∀ (s : Shared) (H : Hp) (C : Addr) (cl : List (Str × Addr)) (fp : List Addr), ETs (X.blk s H scope (compEnvC scope cl C X.env) fp) g W0 ifs wt)
    (he : ∀ (s : Shared) (H : Hp) (C : Addr) (cl : List (Str × Addr)) (fp : List Addr), EE (X.blk s H scope (compEnvC scope cl C X.env) fp) g W0 elt we) (hs : ∀ x, foldedSetIterable iter X.env x = pure x := by intro _; rfl) :
    EE X g W (.ListComp elt [⟨tg, iter, ifs, 0⟩] scope pos) (wLcB (own.map (·.2)) wi wg wt we) := by
  obtain ⟨t, p, s⟩ := hi.ex
  exact ⟨_, pe_lc hc hN p ok (fun s H C cl fp => (hg s H C cl fp).can) (fun s H C cl fp => (ht s H C cl fp).can) (fun s H C cl fp => (he s H C cl fp).can) hs, sem_lc hL s⟩
theorem es_setLc {i : Nat} {y : Str} {py spos : Pos} (hc : X.calm = true) (hN : X.N.Nodup) (hy : X.N[i]? = some y) (hyl : X.env.scope.names.lookup y = some .local) (hsw : swapsWith (.ListComp elt [⟨tg, iter, ifs, 0⟩] scope pos) (some (.Name y py)) spos.line X.env = pure true)
    (hL : ∀ j ∈ own.map (·.2), g.L j = false) (hi : EI X g W tg iter wi) (ok : BlkOk X.N X.env.scope scope own)
    (hg : ∀ (s : Shared) (H : Hp) (C : Addr) (cl : List (Str × Addr)) (fp : List Addr), EG (X.blk s H scope (compEnvC scope cl C X.env) fp) g tg (own.map (·.2)) wg)
    (ht : ∀ (s : Shared) (H : Hp) (C : Addr) (cl : List (Str × Addr)) (fp : List Addr), ETs (X.blk s H scope (compEnvC scope cl C X.env) fp) g W0 ifs wt)
    (he : ∀ (s : Shared) (H : Hp) (C : Addr) (cl : List (Str × Addr)) (fp : List Addr), EE (X.blk s H scope (compEnvC scope cl C X.env) fp) g W0 elt we) (hs : ∀ x, foldedSetIterable iter X.env x = pure x := by intro _; rfl) :
    ES X g W (.Assign [.Name y py] (.ListComp elt [⟨tg, iter, ifs, 0⟩] scope pos) spos) (wSet i (wLcB (own.map (·.2)) wi wg wt we)) := by
  obtain ⟨t, p, s⟩ := hi.ex
  exact ⟨_, ps_setLc hc hN hy hyl hsw p ok (fun s H C cl fp => (hg s H C cl fp).can) (fun s H C cl fp => (ht s H C cl fp).can) (fun s H C cl fp => (he s H C cl fp).can) hs, sem_set (sem_lc hL s)⟩
theorem es_setLcF {i : Nat} {y : Str} {py spos : Pos} (hc : X.calm = true) (hN : X.N.Nodup) (hy : X.N[i]? = some y) (hyl : X.env.scope.names.lookup y = some .local) (hsw : swapsWith (.ListComp elt [⟨tg, iter, ifs, 0⟩] scope pos) (some (.Name y py)) spos.line X.env = pure true)
    (hL : ∀ j ∈ own.map (·.2), g.L j = false) (hi : EI X g W tg iter wi) (ok : BlkOk X.N X.env.scope scope own)
    (hg : ∀ (s : Shared) (H : Hp) (C : Addr) (cl : List (Str × Addr)) (fp : List Addr), EG (X.blk s H scope (compEnvC scope cl C X.env) fp) g tg (own.map (·.2)) wg)
    (ht : ∀ (s : Shared) (H : Hp) (C : Addr) (cl : List (Str × Addr)) (fp : List Addr), ETs (X.blk s H scope (compEnvC scope cl C X.env) fp) g W0 ifs wt)
    (he : ∀ (s : Shared) (H : Hp) (C : Addr) (cl : List (Str × Addr)) (fp : List Addr), EE (X.blk s H scope (compEnvC scope cl C X.env) fp) g W0 elt we) (hs : ∀ x, foldedSetIterable iter X.env x = pure x := by intro _; rfl) :
    ES X g W (.Assign [.Name y py] (.ListComp elt [⟨tg, iter, ifs, 0⟩] scope pos) spos) (wSetF i (wLcB (own.map (·.2)) wi wg wt we)) := by
  obtain ⟨t, p, s⟩ := hi.ex
  exact ⟨_, ps_setLc hc hN hy hyl hsw p ok (fun s H C cl fp => (hg s H C cl fp).can) (fun s H C cl fp => (ht s H C cl fp).can) (fun s H C cl fp => (he s H C cl fp).can) hs, sem_setF (sem_lc hL s)⟩
end
end DL

set_option Elab.async false
set_option linter.all false
set_option maxRecDepth 100000
set_option maxHeartbeats 4000000
/-! DL: subscripts, slices, built-ins, own lists changed by statements. -/
namespace DL
open PySem PySem.Spec PyProof.Rows L2

/-! ### places -/
def optK {α : Type} (o : Option α) (k : α → Prop) : Prop := match o with
  | some a => k a
  | none => False
theorem optK_of {α : Type} {o : Option α} {k : α → Prop} {a : α} (e : o = some a) (h : k a) : optK o k := by subst e; exact h
theorem atI_0 {α : Type} {x : α} {xs : List α} : atI (x :: xs) 0 = some x := L2.atI_nat (j := 0) rfl
theorem atI_1 {α : Type} {x y : α} {xs : List α} : atI (x :: y :: xs) 1 = some y := L2.atI_nat (j := 1) rfl
theorem atI_2 {α : Type} {x y z : α} {xs : List α} : atI (x :: y :: z :: xs) 2 = some z := L2.atI_nat (j := 2) rfl
theorem atI_3 {α : Type} {x y z u : α} {xs : List α} : atI (x :: y :: z :: u :: xs) 3 = some u := L2.atI_nat (j := 3) rfl
theorem atI_4 {α : Type} {x y z u v : α} {xs : List α} : atI (x :: y :: z :: u :: v :: xs) 4 = some v := L2.atI_nat (j := 4) rfl
@[simp] theorem optK_some {α : Type} {a : α} {k : α → Prop} : optK (some a) k = k a := rfl
@[reducible] def oIx : O2 := fun d1 d2 k => match d1, d2 with
  | .list ds, .int i => optK (atI ds i) fun d => k (.v d)
  | .tuple ds, .int i => optK (atI ds i) fun d => k (.v d)
  | .str z, .int i => z.length ≤ sizeLine ∧ optK (atI z.cps.toList i) fun c => k (.v (.str ⟨#[c]⟩))
  | _, _ => False
theorem atI_dp {K : PySem.W.Frag} {B : Hp} {xs : List V} {ds : List D} {i : Int} {d : D} (h : DpAll K B xs ds) (e : atI ds i = some d) : ∃ v, atI xs i = some v ∧ Dp K B v d := by
  unfold atI at e ⊢
  rw [DL.DpAll.len h]
  cases q : ixN ds.length i with
  | none => rw [q] at e; cases e
  | some j =>
    rw [q] at e
    exact DL.DpAll.get h e
theorem same_hide {H : Hp} {O : List Addr} : Same (hide H O) H := fun _ _ e => (hide_some.mp e).2
theorem lift_ix {K : PySem.W.Frag} : Lift2 K (rIx K) oIx := by
  intro O H x y dx dy QD Q _ hx hy q fin
  cases hx with
  | lst h1 h2 =>
    cases hy <;> try exact q.elim
    rename_i i
    revert q
    show optK _ _ → _
    intro q
    rename_i ds
    cases e : atI ds i with
    | none => rw [e] at q; exact q.elim
    | some d =>
      rw [e] at q
      obtain ⟨v, e1, e2⟩ := atI_dp h2 e
      exact .inl ⟨_, _, i, v, rfl, rfl, Same.seq same_hide h1, e1, fin v H (.v d) (Same.refl H) e2 q⟩
  | tup h1 h2 =>
    cases hy <;> try exact q.elim
    rename_i i
    rename_i ds
    cases e : atI ds i with
    | none =>
      have q' : optK (atI ds i) _ := q
      rw [e] at q'; exact q'.elim
    | some d =>
      have q' : optK (atI ds i) _ := q
      rw [e] at q'
      obtain ⟨v, e1, e2⟩ := atI_dp h2 e
      exact .inr (.inl ⟨_, _, i, v, rfl, rfl, seqT_same same_hide h1, e1, fin v H (.v d) (Same.refl H) e2 q'⟩)
  | str z =>
    cases hy <;> try exact q.elim
    rename_i i
    obtain ⟨hz, q⟩ := q
    cases e : atI z.cps.toList i with
    | none => rw [e] at q; exact q.elim
    | some c =>
      rw [e] at q
      exact .inr (.inr ⟨z, i, c, rfl, rfl, hz, e, fin _ H (.v _) (Same.refl H) (.str _) q⟩)
  | _ => exact q.elim
section
variable {X : Cx} {g : G} {W : WX} {a b : Expr} {wa wb : WE} {pos : Pos}
theorem ee_ix (ha : EE X g W a wa) (hb : EE X g W b wb) (hp : PlainIx b := by intro _ _; rfl) : EE X g W (.Subscript a b pos) (wB oIx wa wb) := by
  obtain ⟨ta, p1, s1⟩ := ha.ex
  obtain ⟨tb, p2, s2⟩ := hb.ex
  exact ⟨_, pe_ix ix_seq p1 p2 hp, sem_op lift_ix s1 s2⟩
end

/-! ### slices -/
@[reducible] def cutD (ds : List D) (lo hi : Option Int) : List D := (ds.drop (HT.sIx ds.length 0 lo)).take (HT.sIx ds.length ds.length hi - HT.sIx ds.length 0 lo)
theorem DpAll.cut {K : PySem.W.Frag} {B : Hp} {xs : List V} {ds : List D} (lo hi : Option Int) (h : DpAll K B xs ds) : DpAll K B (cutV xs lo hi) (cutD ds lo hi) := by
  unfold cutV cutD
  rw [DL.DpAll.len h]
  exact DL.DpAll.takeN _ (DL.DpAll.dropN _ h)
abbrev WO := Rho → (Option Int → Rho → Prop) → KX → Prop
def SemO (K : PySem.W.Frag) (g : G) (W : WX) (t : TO) (w : WO) : Prop :=
  ∀ (σ : L2.St) (vs : List V) (H : Hp) (ρ : Rho) (cs : List C) (QD : Option Int → Rho → Prop) (ED : KX) (Q : Option Int → Hp → Prop), SR K g σ vs H ρ cs → w ρ QD ED → XEnds K g W σ ED →
    (∀ o H' ρ', SR K g σ vs H' ρ' cs → QD o ρ' → Q o H') → t σ H Q
structure EO (X : Cx) (g : G) (W : WX) (e : Option Expr) (w : WO) : Prop where
  ex : ∃ t, PO X e t ∧ SemO X.K g W t w
@[reducible] def wNoPart : WO := fun ρ Q _ => Q none ρ
@[reducible] def wPart (we : WE) : WO := fun ρ Q E => we ρ (fun c ρ1 => match c with
  | .v (.int i) => Q (some i) ρ1
  | _ => False) E
@[reducible] def oSl (lo hi : Option Int) : O1 := fun d k => match d with
  | .list ds => k (.own 0 (.lst (cutD ds lo hi)))
  | .tuple ds => k (.v (.tuple (cutD ds lo hi)))
  | .str z => z.length ≤ sizeLine ∧ k (.v (.str (cutS z lo hi)))
  | _ => False
@[reducible] def wSl (we : WE) (wl wh : WO) : WE := fun ρ Q E => we ρ (fun c ρ1 => wl ρ1 (fun lo ρ2 => wh ρ2 (fun hi ρ3 => use1 ρ3 c (oSl lo hi) Q) E) E) E
theorem cutD_whole {xs : List D} {lo hi : Option Int} (h : HT.sIx xs.length 0 lo = 0 ∧ HT.sIx xs.length xs.length hi = xs.length) : cutD xs lo hi = xs := by
  unfold cutD
  rw [h.1, h.2]
  simp
theorem lift_sl {K : PySem.W.Frag} (lo hi : Option Int) : Lift1 K (fun x H Q => rSlL K x lo hi H Q ∨ (rSlA K x lo hi H Q ∨ rSlS x lo hi H Q)) (oSl lo hi) := by
  intro O H x dx QD Q hO hx q fin
  cases hx with
  | lst h1 h2 => exact .inl ⟨_, _, rfl, Same.seq same_hide h1, fun p n => fin _ _ (.own 0 (.lst _)) (same_new n) (new_lst n (DL.DpAll.cut lo hi h2)) q⟩
  | tup h1 h2 =>
    refine .inr (.inl ⟨_, _, rfl, seqT_same same_hide h1, fun z => ?_, fun z p n => ?_⟩)
    · refine fin _ H (.v _) (Same.refl H) ?_ q
      rw [DL.DpAll.len h2] at z
      rw [cutD_whole z]
      exact .tup h1 h2
    · exact fin _ _ (.v _) (same_new n) (new_tup n (fun z => by obtain ⟨u, e⟩ := hO p z; rw [n] at e; cases e) (DL.DpAll.cut lo hi h2)) q
  | str z => exact .inr (.inr ⟨z, rfl, q.1, fin _ H (.v _) (Same.refl H) (.str _) q.2⟩)
  | _ => exact q.elim
section
variable {X : Cx} {g : G} {W : WX} {e : Expr} {lo hi : Option Expr} {we : WE} {wl wh : WO} {pos p2 : Pos}
theorem eo_none : EO X g W none wNoPart := ⟨_, po_none, fun σ vs H ρ cs QD ED Q hS hw hX hQ => hQ none H ρ hS hw⟩
theorem eo_some (h : EE X g W e we) : EO X g W (some e) (wPart we) := by
  obtain ⟨t, p, s⟩ := h.ex
  refine ⟨_, po_some p, fun σ vs H ρ cs QD ED Q hS hw hX hQ => ?_⟩
  refine s σ vs H ρ cs _ ED _ hS hw hX fun x H1 c ρ1 S1 q1 => ?_
  split at q1
  · rename_i i
    have q := S1.top
    cases q
    exact ⟨i, rfl, hQ _ H1 ρ1 S1.pop q1⟩
  · exact q1.elim
theorem ee_sl (he : EE X g W e we) (hl : EO X g W lo wl) (hh : EO X g W hi wh) : EE X g W (.Subscript e (.Slice lo hi none p2) pos) (wSl we wl wh) := by
  obtain ⟨t, p, s⟩ := he.ex
  obtain ⟨t1, q1, s1⟩ := hl.ex
  obtain ⟨t2, q2, s2⟩ := hh.ex
  refine ⟨_, pe_slice (SlR.or sl_list (SlR.or sl_tupA sl_str)) p q1 q2, fun σ vs H ρ cs QD ED Q hS hw hX hQ => ?_⟩
  refine s σ vs H ρ cs _ ED _ hS hw hX fun x H1 c ρ1 S1 z1 => ?_
  refine s1 σ (x :: vs) H1 ρ1 (c :: cs) _ ED _ S1 z1 hX fun l H2 ρ2 S2 z2 => ?_
  refine s2 σ (x :: vs) H2 ρ2 (c :: cs) _ ED _ S2 z2 hX fun h H3 ρ3 S3 z3 => ?_
  exact S3.use1 (lift_sl l h) z3 fun v H' c S4 q4 => hQ v H' c ρ3 S4 q4
end

/-! ### built-ins over data -/
section
variable {K : PySem.W.Frag}
@[reducible] def oLen : OL := fun ds k => match ds with
  | [.str x] => x.length ≤ sizeLine ∧ k (.v (.int x.length))
  | [.list es] => k (.v (.int es.length))
  | [.tuple es] => k (.v (.int es.length))
  | _ => False
theorem lift_len : LiftL K (fun xs H Q => ∃ x n, xs = [x] ∧ LenV K x H n ∧ Q (.int n) H) oLen := by
  intro O H xs ds QD Q _ hx q fin
  unfold oLen at q
  split at q
  · rename_i z
    cases hx with
    | cons h1 h2 => cases h2; cases h1; exact ⟨_, _, rfl, ⟨q.1, rfl⟩, fin _ H (.v _) (Same.refl H) (.int _) q.2⟩
  · rename_i es
    cases hx with
    | cons h1 h2 =>
      cases h2
      cases h1 with
      | lst a1 a2 => exact ⟨_, _, rfl, .inl ⟨_, Same.seq same_hide a1, rfl⟩, fin _ H (.v _) (Same.refl H) (by rw [DL.DpAll.len a2]; exact .int _) q⟩
  · rename_i es
    cases hx with
    | cons h1 h2 =>
      cases h2
      cases h1 with
      | tup a1 a2 => exact ⟨_, _, rfl, .inr ⟨_, seqT_same same_hide a1, rfl⟩, fin _ H (.v _) (Same.refl H) (by rw [DL.DpAll.len a2]; exact .int _) q⟩
  · exact q.elim
@[reducible] def oMin2 : OL := fun ds k => match ds with
  | [.int i, .int j] => k (.v (.int (if j < i then j else i)))
  | _ => False
@[reducible] def oInt1 : OL := fun ds k => match ds with
  | [.int i] => k (.v (.int i))
  | [.bool b] => k (.v (.int (if b then 1 else 0)))
  | _ => False
theorem lift_min2 : LiftL K (fun xs H Q => ∃ i j, xs = [.int i, .int j] ∧ Q (.int (if j < i then j else i)) H) oMin2 := by
  intro O H xs ds QD Q _ hx q fin
  unfold oMin2 at q
  split at q
  · rename_i i j
    cases hx with
    | cons h1 h2 => cases h2 with
      | cons h2 h3 => cases h3; cases h1; cases h2; exact ⟨_, _, rfl, fin _ H (.v _) (Same.refl H) (.int _) q⟩
  · exact q.elim
theorem lift_int1 : LiftL K (fun xs H Q => (∃ i, xs = [.int i] ∧ Q (.int i) H) ∨ ∃ k, xs = [.bl k] ∧ Q (.int (if k then 1 else 0)) H) oInt1 := by
  intro O H xs ds QD Q _ hx q fin
  unfold oInt1 at q
  split at q
  · rename_i i
    cases hx with
    | cons h1 h2 => cases h2; cases h1; exact .inl ⟨_, rfl, fin _ H (.v _) (Same.refl H) (.int _) q⟩
  · rename_i b
    cases hx with
    | cons h1 h2 => cases h2; cases h1; exact .inr ⟨_, rfl, fin _ H (.v _) (Same.refl H) (.int _) q⟩
  · exact q.elim
@[reducible] def intsOf : List D → Option (List Int)
  | [] => some []
  | .int i :: ds => (intsOf ds).map (i :: ·)
  | _ => none
@[reducible] def boolsOf : List D → Option (List Bool)
  | [] => some []
  | .bool i :: ds => (boolsOf ds).map (i :: ·)
  | _ => none
@[reducible] def strsOf : List D → Option (List Str)
  | [] => some []
  | .str i :: ds => (strsOf ds).map (i :: ·)
  | _ => none
@[simp] theorem intsOf_map : ∀ (ns : List Int), intsOf (ns.map PyData.int) = some ns
  | [] => rfl
  | n :: ns => by rw [List.map_cons, intsOf, intsOf_map]; rfl
@[simp] theorem boolsOf_map : ∀ (ns : List Bool), boolsOf (ns.map PyData.bool) = some ns
  | [] => rfl
  | n :: ns => by rw [List.map_cons, boolsOf, boolsOf_map]; rfl
@[simp] theorem strsOf_map : ∀ (ns : List Str), strsOf (ns.map PyData.str) = some ns
  | [] => rfl
  | n :: ns => by rw [List.map_cons, strsOf, strsOf_map]; rfl
theorem intsOf_dp {B : Hp} : ∀ {ds : List D} {xs : List V} {ns : List Int}, DpAll K B xs ds → intsOf ds = some ns → xs = ns.map V.int
  | [], _, _, h, e => by cases h; cases e; rfl
  | d :: ds, _, ns, h, e => by
    cases h with
    | cons h1 h2 =>
      cases d <;> try cases e
      rename_i i
      rw [intsOf] at e
      cases q : intsOf ds with
      | none => rw [q] at e; cases e
      | some ms => rw [q] at e; cases e; cases h1; rw [intsOf_dp h2 q]; rfl
theorem strsOf_dp {B : Hp} : ∀ {ds : List D} {xs : List V} {ns : List Str}, DpAll K B xs ds → strsOf ds = some ns → xs = ns.map V.str
  | [], _, _, h, e => by cases h; cases e; rfl
  | d :: ds, _, ns, h, e => by
    cases h with
    | cons h1 h2 =>
      cases d <;> try cases e
      rename_i i
      rw [strsOf] at e
      cases q : strsOf ds with
      | none => rw [q] at e; cases e
      | some ms => rw [q] at e; cases e; cases h1; rw [strsOf_dp h2 q]; rfl
@[reducible] def oSum : OL := fun ds k => match ds with
  | [.list es] => optK (intsOf es) fun ns => k (.v (.int ns.sum))
  | _ => False
theorem lift_sum : LiftL K (rSum K) oSum := by
  intro O H xs ds QD Q _ hx q fin
  unfold oSum at q
  split at q
  · rename_i es
    cases hx with
    | cons h1 h2 =>
      cases h2
      cases h1 with
      | lst a1 a2 =>
        cases e : intsOf es with
        | none => rw [e] at q; exact q.elim
        | some ns =>
          rw [e] at q
          have e2 := intsOf_dp a2 e
          subst e2
          exact ⟨_, ns, rfl, Same.seq same_hide a1, fin _ H (.v _) (Same.refl H) (.int _) q⟩
  · exact q.elim
@[reducible] def oTuple : OL := fun ds k => match ds with
  | [.list es] => k (.v (.tuple es))
  | [.tuple es] => k (.v (.tuple es))
  | _ => False
theorem lift_tuple : LiftL K (fun xs H Q => ∃ p ys, xs = [.ref p] ∧ ((SqL K H p ys ∧ ∀ l, H l = none → Q (.ref l) (upd H l (.tup ys))) ∨ (SqT K H p ys ∧ Q (.ref p) H))) oTuple := by
  intro O H xs ds QD Q hO hx q fin
  unfold oTuple at q
  split at q
  · rename_i es
    cases hx with
    | cons h1 h2 =>
      cases h2
      cases h1 with
      | lst a1 a2 => exact ⟨_, _, rfl, .inl ⟨Same.seq same_hide a1, fun p n => fin _ _ (.v _) (same_new n) (new_tup n (fun z => by obtain ⟨u, e⟩ := hO p z; rw [n] at e; cases e) a2) q⟩⟩
  · rename_i es
    cases hx with
    | cons h1 h2 =>
      cases h2
      cases h1 with
      | tup a1 a2 => exact ⟨_, _, rfl, .inr ⟨seqT_same same_hide a1, fin _ H (.v _) (Same.refl H) (.tup a1 a2) q⟩⟩
  · exact q.elim
@[reducible] def oList : OL := fun ds k => match ds with
  | [.list es] => k (.own 0 (.lst es))
  | [.tuple es] => k (.own 0 (.lst es))
  | _ => False
theorem lift_list : LiftL K (fun xs H Q => ∃ p ys, xs = [.ref p] ∧ (SqL K H p ys ∨ SqT K H p ys) ∧ ∀ l, H l = none → Q (.ref l) (upd H l (.lst ys))) oList := by
  intro O H xs ds QD Q hO hx q fin
  unfold oList at q
  split at q
  · rename_i es
    cases hx with
    | cons h1 h2 =>
      cases h2
      cases h1 with
      | lst a1 a2 => exact ⟨_, _, rfl, .inl (Same.seq same_hide a1), fun p n => fin _ _ (.own 0 (.lst _)) (same_new n) (new_lst n a2) q⟩
  · rename_i es
    cases hx with
    | cons h1 h2 =>
      cases h2
      cases h1 with
      | tup a1 a2 => exact ⟨_, _, rfl, .inr (seqT_same same_hide a1), fun p n => fin _ _ (.own 0 (.lst _)) (same_new n) (new_lst n a2) q⟩
  · exact q.elim
end
section
variable {X : Cx} {g : G} {W : WX} {e : Expr} {es : List Expr} {wa : WA} {pos p : Pos}
theorem ee_len (hg : Gl X "len") (hm : X.mg "len" = none) (ha : EA X g W (e :: es) wa) (he : starEach (e :: es) X.env = (false, eval e X.env) :: starEach es X.env := by rfl) (hpl : (backTo pos (starEach es X.env)).any (·.1) = false := by rfl) : EE X g W (.Call (.Name "len" p) (e :: es) [] pos) (wL oLen wa) :=
  ee_cb call_len lift_len hg hm PySem.boot_len ha (he := he) (hpl := hpl)
theorem ee_min2 (hc : X.calm = true) (hg : Gl X "min") (hm : X.mg "min" = none) (ha : EA X g W (e :: es) wa) (he : starEach (e :: es) X.env = (false, eval e X.env) :: starEach es X.env := by rfl) (hpl : (backTo pos (starEach es X.env)).any (·.1) = false := by rfl) : EE X g W (.Call (.Name "min" p) (e :: es) [] pos) (wL oMin2 wa) :=
  ee_cb (call_min2 hc) lift_min2 hg hm (by decide +kernel) ha (he := he) (hpl := hpl)
theorem ee_int1 (hg : Gl X "int") (hm : X.mg "int" = none) (ha : EA X g W (e :: es) wa) (he : starEach (e :: es) X.env = (false, eval e X.env) :: starEach es X.env := by rfl) (hpl : (backTo pos (starEach es X.env)).any (·.1) = false := by rfl) : EE X g W (.Call (.Name "int" p) (e :: es) [] pos) (wL oInt1 wa) :=
  ee_ct call_int1 lift_int1 hg hm (by decide +kernel) ha (he := he) (hpl := hpl)
theorem ee_sum (hc : X.calm = true) (hg : Gl X "sum") (hm : X.mg "sum" = none) (ha : EA X g W (e :: es) wa) (he : starEach (e :: es) X.env = (false, eval e X.env) :: starEach es X.env := by rfl) (hpl : (backTo pos (starEach es X.env)).any (·.1) = false := by rfl) : EE X g W (.Call (.Name "sum" p) (e :: es) [] pos) (wL oSum wa) :=
  ee_cb (cr_sum hc) lift_sum hg hm (by decide +kernel) ha (he := he) (hpl := hpl)
theorem ee_tuple (hg : Gl X "tuple") (hm : X.mg "tuple" = none) (ha : EA X g W (e :: es) wa) (he : starEach (e :: es) X.env = (false, eval e X.env) :: starEach es X.env := by rfl) (hpl : (backTo pos (starEach es X.env)).any (·.1) = false := by rfl) : EE X g W (.Call (.Name "tuple" p) (e :: es) [] pos) (wL oTuple wa) :=
  ee_ct call_tuple_of lift_tuple hg hm (by decide +kernel) ha (he := he) (hpl := hpl)
theorem ee_list (hg : Gl X "list") (hm : X.mg "list" = none) (ha : EA X g W (e :: es) wa) (he : starEach (e :: es) X.env = (false, eval e X.env) :: starEach es X.env := by rfl) (hpl : (backTo pos (starEach es X.env)).any (·.1) = false := by rfl) : EE X g W (.Call (.Name "list" p) (e :: es) [] pos) (wL oList wa) :=
  ee_ct call_list_of lift_list hg hm (by decide +kernel) ha (he := he) (hpl := hpl)
@[reducible] def isT (T : String) : D → Bool
  | .none => T == "NoneType" || T == "object"
  | .bool _ => T == "bool" || T == "int" || T == "object"
  | .int _ => T == "int" || T == "object"
  | .str _ => T == "str" || T == "object"
  | .list _ => T == "list" || T == "object"
  | .tuple _ => T == "tuple" || T == "object"
  | .dict _ => T == "dict" || T == "object"
@[reducible] def oIsi (T : String) : O1 := fun d k => k (.v (.bool (isT T d)))
theorem ee_isi {we : WE} {T : Str} {n : String} {p3 : Pos} (hg : Gl X "isinstance") (hm : X.mg "isinstance" = none) (hgT : Gl X T) (hmT : X.mg T = none) (hT : bootBuiltins T = some (.type n)) (hne : T ≠ "__name__" := by decide) (hdb : (T == ("__debug__" : Str)) = false := by decide)
    (hk : (["NoneType", "bool", "int", "str", "list", "tuple"].zip [.none, .bool true, .int 0, .str ⟨#[]⟩, .list [], .tuple []]).all (fun q => decide (kitB q.1 n = some (isT n q.2))) = true) (h : EE X g W e we)
    (he : starEach [e, .Name T p3] X.env = (false, eval e X.env) :: starEach [.Name T p3] X.env := by rfl) (he2 : starEach [.Name T p3] X.env = (false, eval (.Name T p3) X.env) :: starEach [] X.env := by rfl) (hpl : (backTo pos (starEach [.Name T p3] X.env)).any (·.1) = false := by rfl) :
    EE X g W (.Call (.Name "isinstance" p) [e, .Name T p3] [] pos) (wU (oIsi n) we) := by
  obtain ⟨t, q, s⟩ := h.ex
  refine ⟨_, pe_callB call_isi hg hm (by decide +kernel) (pa_cons q (pa_cons (pe_bltn (v := .ty n) hgT hmT hT rfl hne hdb) pa_nil he2) he) (he := he) (hpl := hpl), fun σ vs H ρ cs QD ED Q hS hw hX hQ => ?_⟩
  refine s σ vs H ρ cs _ ED _ hS hw hX fun x H1 c ρ1 S1 q1 => ?_
  refine S1.use1 (r := fun x H Q => rIsi X.K [x, .ty n] H Q) (fun O H x dx QD Q _ hx q fin => ?_) q1 fun v H' c S3 q3 => hQ v H' c ρ1 S3 q3
  have fin' := fin (.bl (isT n dx)) H (.v (.bool (isT n dx))) (Same.refl H) (.bl _) q
  have kk : ∀ a d, (a, d) ∈ (["NoneType", "bool", "int", "str", "list", "tuple"].zip [PyData.none, .bool true, .int 0, .str ⟨#[]⟩, .list [], .tuple []]) → kitB a n = some (isT n d) := fun a d m => of_decide_eq_true (List.all_eq_true.mp hk _ m)
  have mk : ∀ (a : String) (b : Bool), kitB a n = some b → TyX X.K H x (.type a) → b = isT n dx → rIsi X.K [x, .ty n] H Q := fun a b e ty eb => by
    subst eb
    exact ⟨x, .ty n, .type a, .type n, _, rfl, .ty n, ty, kit_ty e, fin'⟩
  cases hx with
  | non => exact mk "NoneType" _ (kk "NoneType" .none (by simp)) (.base .non) rfl
  | bl b => exact mk "bool" _ (kk "bool" (.bool true) (by simp)) (.base (.bl _)) rfl
  | int i => exact mk "int" _ (kk "int" (.int 0) (by simp)) (.base (.int _)) rfl
  | str z => exact mk "str" _ (kk "str" (.str ⟨#[]⟩) (by simp)) (.base (.str _)) rfl
  | lst h1 h2 =>
    refine mk "list" _ (kk "list" (.list []) (by simp)) ?_ rfl
    rcases h1 with (h1 | ⟨o, h1⟩) | ⟨o, its, m, h1, h3, _⟩
    · exact .base (.lst (hide_some.mp h1).2)
    · exact .base (.frz (hide_some.mp h1).2)
    · exact .kList h1 h3
  | tup h1 h2 =>
    refine mk "tuple" _ (kk "tuple" (.tuple []) (by simp)) ?_ rfl
    rcases h1 with (h1 | ⟨o, h1⟩) | ⟨o, its, m, h1, h3, _⟩
    · exact .base (.tup (hide_some.mp h1).2)
    · exact .fTuple (hide_some.mp h1).2
    · exact .kTuple h1 h3
theorem ee_isi2 {we : WE} {T : Str} {n : String} {p3 : Pos} (hg : Gl X "isinstance") (hm : X.mg "isinstance" = none) (hgT : Gl X T) (hmT : X.mg T = none) (h : EE X g W e we)
    (hT : bootBuiltins T = some (.type n) := by decide +kernel) (hk : (["NoneType", "bool", "int", "str", "list", "tuple"].zip [.none, .bool true, .int 0, .str ⟨#[]⟩, .list [], .tuple []]).all (fun q => decide (kitB q.1 n = some (isT n q.2))) = true := by decide +kernel)
    (hne : T ≠ "__name__" := by decide) (hdb : (T == ("__debug__" : Str)) = false := by decide)
    (he : starEach [e, .Name T p3] X.env = (false, eval e X.env) :: starEach [.Name T p3] X.env := by rfl) (he2 : starEach [.Name T p3] X.env = (false, eval (.Name T p3) X.env) :: starEach [] X.env := by rfl) (hpl : (backTo pos (starEach [.Name T p3] X.env)).any (·.1) = false := by rfl) :
    EE X g W (.Call (.Name "isinstance" p) [e, .Name T p3] [] pos) (wU (oIsi n) we) := ee_isi hg hm hgT hmT hT hne hdb hk h he he2 hpl
end
end DL

set_option Elab.async false
set_option linter.all false
set_option maxRecDepth 100000
set_option maxHeartbeats 4000000
/-! DL: own lists changed by statements; += ; lists joined. -/
namespace DL
open PySem PySem.Spec PyProof.Rows L2

@[reducible] def lstOf (ρ : Rho) : C → Option (List D)
  | .own _ (.lst ds) => some ds
  | .ln i => match rget ρ i with
    | .own _ (.lst ds) => some ds
    | _ => none
  | _ => none
section
variable {K : PySem.W.Frag} {g : G} {σ : L2.St} {vs : List V} {H H' : Hp} {ρ : Rho} {cs : List C} {i : Nat}
theorem SR.lst {x : V} {c : C} {ds : List D} (h : SR K g σ (x :: vs) H ρ (c :: cs)) (e : lstOf ρ c = some ds) : ∃ a xs, x = .ref a ∧ H a = some (.lst xs) ∧ DpAll K (hide H (tot σ (x :: vs) ρ (c :: cs) ++ g.P0)) xs ds := by
  cases c with
  | own t o =>
    cases o with
    | lst es =>
      cases e
      obtain ⟨a, e1, ⟨xs, q1, q2⟩, _⟩ := h.tp.1
      cases e1
      exact ⟨a, xs, rfl, q1, q2⟩
    | dct _ => cases e
    | dtt _ => cases e
    | lck _ _ _ _ => cases e
    | prp _ _ => cases e
    | tre _ => cases e
  | ln i =>
    obtain ⟨y, e1, e2⟩ := h.tp.1
    cases e1
    revert e
    show (match rget ρ i with
      | .own _ (.lst ds) => some ds
      | _ => none) = some ds → _
    split
    · rename_i t es eo
      intro e
      cases e
      obtain ⟨a, e3, _, ⟨xs, q1, q2⟩, _⟩ := h.own eo
      rw [e2] at e3
      cases e3
      exact ⟨a, xs, rfl, q1, q2⟩
    · intro e; cases e
  | _ => cases e
theorem SR.mutSlot {a : Addr} {t : Nat} {o o' : OD} (h : SR K g σ vs H ρ cs) (e : rget ρ i = .own t o) (e1 : σ[i]? = some (some (.ref a))) (hL : g.L i = true) (keep : ∀ b u, b ≠ a → H b = some u → H' b = some u) (new : OwnAt K (hide H (tot σ vs ρ cs ++ g.P0)) H' a o') (f1 : o.fp a = [a] := by rfl) (f2 : o'.fp a = [a] := by rfl) : SR K g σ vs H' (rset ρ i (.own t o')) cs := by
  have hlt : i < ρ.length := by rw [← h.len]; exact (List.getElem?_eq_some_iff.mp e1).1
  obtain ⟨_, h2⟩ := (h.pushPk e1 hL).moveOut e
  have pm : ∀ b, b ∈ tot σ (.ref a :: vs) (rset ρ i .no) (.own t o :: cs) ↔ b ∈ tot σ vs ρ cs := fun b => by
    have p := foot_out e1 e
    rw [foot_cons_own, f1]
    rw [f1, List.singleton_append] at p
    show b ∈ a :: (foot (vs.map some) cs ++ foot σ (rset ρ i .no)) ↔ b ∈ foot (vs.map some) cs ++ foot σ ρ
    simp only [List.mem_append, List.mem_cons, p.mem_iff]
    constructor
    · rintro (z | z | z) <;> simp [z]
    · rintro (z | z | z) <;> simp [z]
  have h3 := h2.mutTop (o' := o') keep (by
    rw [hide_congr (O' := tot σ vs ρ cs ++ g.P0) fun b => by simp only [List.mem_append (t := g.P0), pm b]]
    exact new) f1 f2
  have h4 := h3.moveIn (i := i) rfl e1 (rget_rset hlt)
  rw [rset_rset] at h4
  exact h4
end

/-! ### x.append(e), x.extend(e), x.pop() of an own list in slot i -/
@[reducible] def wApp (i : Nat) (we : WE) : WE := fun ρ Q E => match rget ρ i with
  | .own _ (.lst _) => we ρ (fun c ρ1 => match frzC c, rget ρ1 i with
    | .v d, .own t (.lst ds) => ds.length < sizeLine ∧ Q (.v .none) (rset ρ1 i (.own t (.lst (ds ++ [d]))))
    | _, _ => False) E
  | _ => False
@[reducible] def wExt (i : Nat) (we : WE) : WE := fun ρ Q E => match rget ρ i with
  | .own _ (.lst _) => we ρ (fun c ρ1 => optK (lstOf ρ1 c) fun es => match rget ρ1 i with
    | .own t (.lst ds) => ds.length + es.length ≤ sizeLine ∧ Q (.v .none) (rset ρ1 i (.own t (.lst (ds ++ es))))
    | _ => False) E
  | _ => False
section
variable {X : Cx} {g : G} {W : WX} {e : Expr} {we : WE} {i : Nat} {x : Str} {p apos pos : Pos}
theorem own_list {K : PySem.W.Frag} {g : G} {σ : L2.St} {vs : List V} {H : Hp} {ρ : Rho} {cs : List C} {i t : Nat} {ds : List D} (h : SR K g σ vs H ρ cs) (e : rget ρ i = .own t (.lst ds)) : ∃ a xs, σ[i]? = some (some (.ref a)) ∧ H a = some (.lst xs) ∧ DpAll K (hide H (tot σ vs ρ cs ++ g.P0)) xs ds := by
  obtain ⟨a, e1, _, ⟨xs, q1, q2⟩, _⟩ := h.own e
  exact ⟨a, xs, e1, q1, q2⟩
theorem dpAll_up {K : PySem.W.Frag} {g : G} {σ : L2.St} {vs : List V} {H : Hp} {ρ : Rho} {cs : List C} {x : V} {c : C} {xs : List V} {ds : List D} (h : DpAll K (hide H (tot σ (x :: vs) ρ (c :: cs) ++ g.P0)) xs ds) : DpAll K (hide H (tot σ vs ρ cs ++ g.P0)) xs ds := by
  refine dpAll_mono (fun a o q => ?_) _ _ h
  obtain ⟨h1, h2⟩ := hide_some.mp q
  refine hide_some.mpr ⟨fun z => h1 ?_, h2⟩
  rw [tot_cons]
  rcases List.mem_append.mp z with z | z
  · exact List.mem_append_left _ (List.mem_append_right _ z)
  · exact List.mem_append_right _ z
theorem ee_app (hL : g.L i = true) (hx : PE X (.Name x p) (tVar i)) (h : EE X g W e we)
    (hbase : attributeBase (.Name x p) "append" X.env (eval (.Name x p) X.env) = eval (.Name x p) X.env := by rfl)
    (hfew : ((backTo pos (starEach [e] X.env)).all (fun x => !x.1) && (backToKw pos (keywordEach [] X.env)).all (fun x => x.1.isSome) && decide (([e] : List Expr).length + ([] : List Keyword).length + (if ([] : List Keyword).isEmpty then 0 else 1) < 30)) = true := by rfl)
    (hline : (apos.endLine == pos.line) = true := by rfl) (hs : starEach [e] X.env = (false, eval e X.env) :: starEach [] X.env := by rfl) (hplain : (backTo pos (starEach [] X.env)).any (·.1) = false := by rfl) :
    EE X g W (.Call (.Attribute (.Name x p) "append" apos) [e] [] pos) (wApp i we) := by
  obtain ⟨t, q, s⟩ := h.ex
  refine ⟨_, pe_bm PySem.F.plainAttrs_list PySem.F.slot_list_append PySem.F.type_list_append mt_append hx (pa_cons q pa_nil hs) hbase hfew hline hs hplain, fun σ vs H ρ cs QD ED Q hS hw hX hQ => ?_⟩
  unfold wApp at hw
  split at hw
  · rename_i t0 ds0 e0
    obtain ⟨a, xs, e1, e2, _⟩ := own_list hS e0
    refine ⟨.ref a, e1, .inl ⟨rfl, xs, .inl (.inl e2)⟩, ?_⟩
    refine s σ vs H ρ cs _ ED _ hS hw hX fun y H1 c ρ1 S1 q1 => ?_
    split at q1
    · rename_i d t1 ds1 ec eo
      have S2 := S1.frzTop
      rw [ec] at S2
      obtain ⟨a', xs', e3, e4, e5⟩ := own_list S2.pop eo
      rw [e1] at e3
      cases e3
      refine ⟨a, xs', y, rfl, rfl, e4, by rw [DL.DpAll.len e5]; exact q1.1, ?_⟩
      have S3 := S2.pop.mutSlot (H' := upd H1 a (.lst (xs' ++ [y]))) eo e1 hL (fun b u n z => by rw [upd_ne n]; exact z) (o' := .lst (ds1 ++ [d])) ⟨xs' ++ [y], upd_same, DL.DpAll.app e5 (.cons S2.top .nil)⟩
      exact hQ _ _ _ _ (SR.resV S3 (Same.refl _) .non) q1.2
    · exact q1.elim
  · exact hw.elim
theorem ee_ext (hL : g.L i = true) (hx : PE X (.Name x p) (tVar i)) (h : EE X g W e we)
    (hbase : attributeBase (.Name x p) "extend" X.env (eval (.Name x p) X.env) = eval (.Name x p) X.env := by rfl)
    (hfew : ((backTo pos (starEach [e] X.env)).all (fun x => !x.1) && (backToKw pos (keywordEach [] X.env)).all (fun x => x.1.isSome) && decide (([e] : List Expr).length + ([] : List Keyword).length + (if ([] : List Keyword).isEmpty then 0 else 1) < 30)) = true := by rfl)
    (hline : (apos.endLine == pos.line) = true := by rfl) (hs : starEach [e] X.env = (false, eval e X.env) :: starEach [] X.env := by rfl) (hplain : (backTo pos (starEach [] X.env)).any (·.1) = false := by rfl) :
    EE X g W (.Call (.Attribute (.Name x p) "extend" apos) [e] [] pos) (wExt i we) := by
  obtain ⟨t, q, s⟩ := h.ex
  refine ⟨_, pe_bm PySem.F.plainAttrs_list PySem.F.slot_list_extend PySem.F.type_list_extend mt_extend hx (pa_cons q pa_nil hs) hbase hfew hline hs hplain, fun σ vs H ρ cs QD ED Q hS hw hX hQ => ?_⟩
  unfold wExt at hw
  split at hw
  · rename_i t0 ds0 e0
    obtain ⟨a, xs, e1, e2, _⟩ := own_list hS e0
    refine ⟨.ref a, e1, .inl ⟨rfl, xs, .inl (.inl e2)⟩, ?_⟩
    refine s σ vs H ρ cs _ ED _ hS hw hX fun y H1 c ρ1 S1 q1 => ?_
    cases el : lstOf ρ1 c with
    | none => rw [el] at q1; exact q1.elim
    | some es =>
      rw [el] at q1
      have q1' : (match rget ρ1 i with
        | .own t (.lst ds) => ds.length + es.length ≤ sizeLine ∧ QD (.v .none) (rset ρ1 i (.own t (.lst (ds ++ es))))
        | _ => False) := q1
      split at q1'
      · rename_i t1 ds1 eo
        obtain ⟨b, ys, f1, f2, f3⟩ := S1.lst el
        subst f1
        obtain ⟨a', xs', e3, e4, e5⟩ := own_list S1.pop eo
        rw [e1] at e3
        cases e3
        refine ⟨a, b, xs', ys, rfl, rfl, e4, f2, by rw [DL.DpAll.len e5, DL.DpAll.len f3]; exact q1'.1, ?_⟩
        have S3 := S1.pop.mutSlot (H' := upd H1 a (.lst (xs' ++ ys))) eo e1 hL (fun b u n z => by rw [upd_ne n]; exact z) (o' := .lst (ds1 ++ es)) ⟨xs' ++ ys, upd_same, DL.DpAll.app e5 (dpAll_up f3)⟩
        exact hQ _ _ _ _ (SR.resV S3 (Same.refl _) .non) q1'.2
      · exact q1'.elim
  · exact hw.elim
def setI {α : Type} (xs : List α) (k : Int) (d : α) : Option (List α) := (ixN xs.length k).map fun j => xs.set j d
theorem setI_0 {α : Type} {x d : α} {xs : List α} : setI (x :: xs) 0 d = some (d :: xs) := by unfold setI ixN; simp <;> omega
theorem setI_1 {α : Type} {x y d : α} {xs : List α} : setI (x :: y :: xs) 1 d = some (x :: d :: xs) := by unfold setI ixN; simp <;> omega
theorem setI_2 {α : Type} {x y z d : α} {xs : List α} : setI (x :: y :: z :: xs) 2 d = some (x :: y :: d :: xs) := by unfold setI ixN; simp <;> omega
theorem setI_3 {α : Type} {x y z u d : α} {xs : List α} : setI (x :: y :: z :: u :: xs) 3 d = some (x :: y :: z :: d :: xs) := by unfold setI ixN; simp <;> omega
theorem setI_nat {α : Type} {xs : List α} {k : Nat} {d : α} (h : k < xs.length) : setI xs (k : Int) d = some (xs.set k d) := by
  unfold setI ixN
  simp
  omega
theorem setI_some {α : Type} {xs : List α} {k : Int} {d : α} {j : Nat} (h : ixN xs.length k = some j) : setI xs k d = some (xs.set j d) := by unfold setI; rw [h]; rfl
theorem setI_none {α : Type} {xs : List α} {k : Int} {d : α} (h : ixN xs.length k = none) : setI xs k d = none := by unfold setI; rw [h]; rfl
@[reducible] def wSetIx (i : Nat) (we wk : WE) : WS := fun DD ρ => we ρ (fun c ρ1 => match rget ρ1 i with
  | .own _ (.lst _) => wk ρ1 (fun c2 ρ2 => match frzC c, c2, rget ρ2 i with
    | .v d, .v (.int k), .own t (.lst ds) => optK (setI ds k d) fun es => DD.nx (rset ρ2 i (.own t (.lst es)))
    | _, _, _ => False) DD.ex
  | _ => False) DD.ex
theorem es_setIx {k : Expr} {wk : WE} {p2 : Pos} (hL : g.L i = true) (hx : PE X (.Name x p) (tVar i)) (h : EE X g W e we) (hk : EE X g W k wk)
    (ha : ∀ v, assign (.Subscript (.Name x p) k p2) X.env v = (do
      let ov ← holding [v] (eval (.Name x p) X.env)
      let iv ← holding [v, ov] (eval k X.env)
      standAt p2
      holding [v, ov, iv] (setItem ov iv v)
      release [v, ov, iv] []) := by intro _; rfl)
    (hs : swapsWithSole [.Subscript (.Name x p) k p2] e pos.line X.env = pure false := by rfl) (hw : swappedStores [.Subscript (.Name x p) k p2] e X.env = pure none := by rfl)
    (h1 : (assignEach [.Subscript (.Name x p) k p2] X.env).map (·.2) = [assign (.Subscript (.Name x p) k p2) X.env] := by rfl) : ES X g W (.Assign [.Subscript (.Name x p) k p2] e pos) (wSetIx i we wk) := by
  obtain ⟨t, q, s⟩ := h.ex
  obtain ⟨t2, q2, s2⟩ := hk.ex
  refine ⟨_, ps_asg q (pg_sub hx q2 set_list ha) hs hw h1, fun σ vs H ρ cs DD D hS hp hw hE => ?_⟩
  refine s σ vs H ρ cs _ _ _ hS hw (hE.ex σ) fun y H1 c ρ1 S1 z1 => ?_
  split at z1
  · rename_i t0 ds0 e0
    obtain ⟨a, xs, e1, _, _⟩ := own_list S1 e0
    refine ⟨.ref a, e1, ?_⟩
    refine s2 σ (y :: vs) H1 ρ1 (c :: cs) _ _ _ S1 z1 (hE.ex σ) fun z H2 c2 ρ2 S2 z2 => ?_
    split at z2
    · rename_i _ _ d k' t' ds ec eo
      have e5 := S2.top
      cases e5
      have S3 : SR X.K g σ (y :: vs) H2 ρ2 (.v d :: cs) := by
        have := S2.pop.frzTop
        rw [ec] at this
        exact this
      obtain ⟨a', xs', e3, e4, e6⟩ := own_list S3.pop eo
      rw [e1] at e3
      cases e3
      cases ej : ixN ds.length k' with
      | none => rw [setI_none ej] at z2; exact z2.elim
      | some j =>
        rw [setI_some ej] at z2
        refine ⟨a, xs', k', j, rfl, rfl, e4, by rw [DL.DpAll.len e6]; exact ej, ?_⟩
        have S4 := S3.pop.mutSlot (H' := upd H2 a (.lst (xs'.set j y))) eo e1 hL (fun b u n z => by rw [upd_ne n]; exact z) (o' := .lst (ds.set j d)) ⟨xs'.set j y, upd_same, DL.DpAll.setAt S3.top j e6⟩
        exact hE.nx σ _ _ S4 z2
    · exact z2.elim
  · exact z1.elim
@[reducible] def wAug (i : Nat) (o : O2) (we : WE) : WS := fun DD ρ => match rget ρ i with
  | .v d0 => we ρ (fun c ρ1 => match c with
    | .v d1 => o d0 d1 fun c' => c'.plain = true ∧ DD.nx (rset ρ1 i c')
    | _ => False) DD.ex
  | _ => False
theorem es_aug {op : Operator} {ti : TIp} {o : O2} {pos' : Pos} (hN : X.N.Nodup) (hi : X.N[i]? = some x) (hx : Loc X.env.scope x) (h : EE X g W e we) (ho : PIp X op ti) (l : Lift2 X.K (fun x y H Q => ti x y H Q) o)
    (hf : X.fn x = true ∨ X.env.scope.names.lookup x = some .local := by first | exact .inl rfl | exact .inr rfl | assumption) : ES X g W (.AugAssign (.Name x pos') op e pos) (wAug i o we) := by
  obtain ⟨t, q, s⟩ := h.ex
  refine ⟨_, ps_aug hN hi hx q ho hf, fun σ vs H ρ cs DD D hS hp hw hE => ?_⟩
  unfold wAug at hw
  split at hw
  · rename_i d0 e0
    obtain ⟨y, e1, dy⟩ := hS.slot e0
    refine ⟨y, e1, ?_⟩
    have S0 : SR X.K g σ (y :: vs) H ρ (.v d0 :: cs) := SR.resV hS (Same.refl H) dy
    refine s σ (y :: vs) H ρ (.v d0 :: cs) _ _ _ S0 hw (hE.ex σ) fun z H1 c ρ1 S1 q1 => ?_
    split at q1
    · rename_i d1
      refine S1.use2 (c1 := .v d0) (c2 := .v d1) (o := o) (QD := fun c' ρ' => c'.plain = true ∧ DD.nx (rset ρ' i c')) l ?_ fun v H' c' S3 q3 => hE.nx _ H' _ (S3.store q3.1 fun j => hp.nopk) q3.2
      show o d0 d1 fun c => okR [C.v d1, C.v d0] c ∧ c.plain = true ∧ DD.nx (rset ρ1 i c)
      have e2 : (fun c : C => okR [C.v d1, C.v d0] c ∧ c.plain = true ∧ DD.nx (rset ρ1 i c)) = fun c' => c'.plain = true ∧ DD.nx (rset ρ1 i c') := by
        funext c
        apply propext
        exact ⟨fun z => z.2, fun z => ⟨fun w => (by cases w), z⟩⟩
      rw [e2]
      exact q1
    · exact q1.elim
  · exact hw.elim
theorem lift_ip {K : PySem.W.Frag} {f : Int → Int → Int} : Lift2 K (fun x y H Q => ipI f x y H Q) (oI fun i j => .int (f i j)) := by
  intro O H x y dx dy QD Q _ hx hy q fin
  cases hx <;> try exact q.elim
  cases hy <;> try exact q.elim
  exact ⟨_, _, rfl, rfl, fin _ H (.v _) (Same.refl H) (.int _) q⟩
theorem es_augAdd {pos' : Pos} (hN : X.N.Nodup) (hi : X.N[i]? = some x) (hx : Loc X.env.scope x) (h : EE X g W e we) (hf : X.fn x = true ∨ X.env.scope.names.lookup x = some .local := by first | exact .inl rfl | exact .inr rfl | assumption) :
    ES X g W (.AugAssign (.Name x pos') .Add e pos) (wAug i oAdd we) := es_aug hN hi hx h ip_add lift_ip hf
end
/-! ### a, b = a list -/
section
variable {X : Cx} {g : G} {W : WX} {es : List Expr} {ws : WGs} {T : List Nat} {pos : Pos}
@[reducible] def wPar (i j : Nat) (wa : WA) : WS := fun DD ρ => wa ρ (fun cs ρ1 => match frzs cs with
  | [.v d1, .v d2] => DD.nx (rset (rset ρ1 j (.v d2)) i (.v d1))
  | _ => False) DD.ex
theorem es_par {i j : Nat} {x y : Str} {a b : Expr} {wa : WA} {px py pt spos : Pos} {kt k2 pt2} (hc : X.calm = true) (hN : X.N.Nodup) (hi : X.N[i]? = some x) (hj : X.N[j]? = some y) (hij : i ≠ j) (hx : X.env.scope.names.lookup x = some .local) (hy : X.env.scope.names.lookup y = some .local) (ha : EA X g W [a, b] wa)
    (hw : swappedStores [.Tuple [.Name x px, .Name y py] kt pt] (.Tuple [a, b] k2 pt2) X.env = pure (some [x, y]))
    (hs : swapsWithSole [.Tuple [.Name x px, .Name y py] kt pt] (.Tuple [a, b] k2 pt2) spos.line X.env = pure false := by rfl) :
    ES X g W (.Assign [.Tuple [.Name x px, .Name y py] kt pt] (.Tuple [a, b] k2 pt2) spos) (wPar i j wa) := by
  obtain ⟨t, q, s⟩ := ha.ex
  refine ⟨_, ps_par hc hN hi hj hij hx hy q hw hs, fun σ vs H ρ cs DD D hS hp hw hE => ?_⟩
  refine s σ vs H ρ cs _ _ _ hS hw (hE.ex σ) fun xs H1 ccs ρ1 hl S1 q1 => ?_
  split at q1
  · rename_i d1 d2 ec
    rw [frzs_eq] at ec
    have S2 := S1.frzArgs hl
    rw [ec] at S2
    have hlen : ccs.length = 2 := by have := congrArg List.length ec; simpa using this
    match xs, hl with
    | [v, w], _ =>
      refine ⟨v, w, rfl, ?_⟩
      have S3 : SR X.K g σ (w :: (v :: vs)) H1 ρ1 (.v d2 :: (.v d1 :: cs)) := SR.rot (xs := [v]) (ccs := [.v d1]) rfl S2
      have S4 := S3.store (i := j) rfl (fun k z => (hp.cons (c := .v d1) rfl).nopk z)
      have S5 := S4.store (i := i) rfl (fun k z => hp.nopk z)
      rw [List.set_comm _ _ (Ne.symm hij)] at S5
      exact hE.nx _ H1 _ S5 q1
    | [], h => simp at h; omega
    | [_], h => simp at h; omega
    | _ :: _ :: _ :: _, h => simp at h; omega
  · exact q1.elim
end
end DL

set_option Elab.async false
set_option linter.all false
set_option maxRecDepth 100000
set_option maxHeartbeats 4000000
/-! DL: the program's defs by their names; walks over any sequence; unary minus; + and in of any data. -/
namespace DL
open PySem PySem.Spec PyProof.Rows L2

theorem lt_ {g : G} {L : Nat → Bool} (h : g.L = L) {i : Nat} (e : L i = true) : g.L i = true := by rw [h]; exact e
theorem lf_ {g : G} {L : Nat → Bool} (h : g.L = L) {T : List Nat} (e : (T.all fun j => !L j) = true) : ∀ j ∈ T, g.L j = false := fun j hj => by
  rw [h]
  have := List.all_eq_true.mp e j hj
  simpa using this
structure Has (P : Program) (w : World) (K : PySem.W.Frag) (mg : Str → Option Value) (base : Heap) (k : Nat) (x : Str) (S : SpD) : Prop where
  ex : ∃ (f : Addr) (fd : FuncData) (ps : List Str), FnOk P w K mg base (L2.CX P w) k f fd ps (spOf K S) ∧ mg x = some (.ref f) ∧ PySem.W.keepIn K (.ref f) = true ∧ Binds K fd ps []
section
variable {X : Cx} {g : G} {k : Nat} {S : SpD} {x : Str} {p pos : Pos} {e : Expr} {es : List Expr} {wa : WA}
theorem ee_has (h : Has X.prog X.w X.K X.mg X.base k x S) (hr : Room k X.A) (hg : Gl X x) (ha : EA X g W0 (e :: es) wa) (hdb : (x == ("__debug__" : Str)) = false := by decide)
    (he : starEach (e :: es) X.env = (false, eval e X.env) :: starEach es X.env := by rfl) (hpl : (backTo pos (starEach es X.env)).any (·.1) = false := by rfl) : EE X g W0 (.Call (.Name x p) (e :: es) [] pos) (wCall S wa) := by
  obtain ⟨f, fd, ps, F, hm, hk, hb⟩ := h.ex
  exact ee_call F hr hg hm hk hb passL (fun _ _ _ _ z => z) ha hdb he hpl
end
section
variable {X : Cx} {g : G} {W : WX} {a : Expr} {wa : WE} {pos : Pos}
end
def iSeq (K : PySem.W.Frag) (tl : TE) : TI := fun σ H R => tl σ H fun x H1 => (∃ a, x = .ref a ∧ (∃ xs, SqL K H1 a xs) ∧ R (Itl K a) H1) ∨ (∃ a, x = .ref a ∧ (∃ xs, SqT K H1 a xs) ∧ R (Itt K a) H1) ∨ ∃ z, x = .str z ∧ R (Its z) H1
theorem pi_seq {X : Cx} {tg l : Expr} {tl : TE} (hl : PE X l tl) : PI X tg l (iSeq X.K tl) := by
  refine ⟨fun pins s σ H R I h => ?_⟩
  refine thn (hl.run pins s σ H _ I h) fun v s1 ⟨x, H1, I1, r1, q1⟩ => ?_
  rcases q1 with ⟨a, e, ⟨xs, hq⟩, q⟩ | ⟨a, e, ⟨xs, hq⟩, q⟩ | ⟨z, e, q⟩
  · subst e
    cases r1
    obtain ⟨its, rv, p, hz⟩ := I1.list hq
    refine wpAny_pyIter_list p.isList ?_
    refine ⟨s1.heap.objs.size, [s1.heap.objs.size], _, _, H1, rfl, I1.kept (t' := s1.toks) fun b o e => Heap.get?_push_of_some _ e, turn_list a _, ⟨_, Heap.get?_push_size _ rfl, rfl, rfl⟩, fun b hb => ?_, q⟩
    have e : b = s1.heap.objs.size := by simpa using hb
    subst e
    exact I1.fpOk (Nat.le_refl _) (I1.hok.fresh (Nat.le_refl _))
  · subst e
    cases r1
    obtain ⟨its, rv, p, hz⟩ := I1.tuple hq
    refine wpAny_pyIter_tuple (show s1.heap.IsTuple a its.toArray from p) ?_
    refine ⟨s1.heap.objs.size, [s1.heap.objs.size], _, _, H1, rfl, I1.kept (t' := s1.toks) fun b o e => Heap.get?_push_of_some _ e, turn_tuple a _, ⟨_, Heap.get?_push_size _ rfl, rfl, rfl⟩, fun b hb => ?_, q⟩
    have e : b = s1.heap.objs.size := by simpa using hb
    subst e
    exact I1.fpOk (Nat.le_refl _) (I1.hok.fresh (Nat.le_refl _))
  · subst e
    obtain ⟨t, rfl⟩ := r1
    cases ha : z.cps.all (· < 128)
    · exact wpAny_pyIter_wide ha (pi_one (tk := s1.toks) I1 _ (turn_str _ z t "str_iterator" (.inr rfl)) ⟨_, Heap.get?_push_size _ rfl, rfl, rfl⟩ q)
    · exact wpAny_pyIter_ascii ha (pi_one (tk := s1.toks) I1 _ (turn_str _ z t "str_ascii_iterator" (.inl rfl)) ⟨_, Heap.get?_push_size _ rfl, rfl, rfl⟩ q)
@[reducible] def itemsD : D → Option (List D)
  | .list ds => some ds
  | .tuple ds => some ds
  | .str x => some (strD x)
  | _ => none
@[reducible] def wISeq (we : WE) : WI := fun ρ Q E => we ρ (fun c ρ1 => match frzC c with
  | .v d => optK (itemsD d) fun ds => Q ds ρ1
  | _ => False) E
theorem ei_seq {X : Cx} {g : G} {W : WX} {tg e : Expr} {we : WE} (h : EE X g W e we) : EI X g W tg e (wISeq we) := by
  obtain ⟨t, p, s⟩ := h.ex
  refine ⟨_, pi_seq p, fun σ vs H ρ cs QD ED R hS hw hX hQ => ?_⟩
  refine s σ vs H ρ cs _ ED _ hS hw hX fun x H1 c ρ1 S1 q1 => ?_
  split at q1
  · rename_i d ec
    have S2 := S1.frzTop
    rw [ec] at S2
    have q := S2.top
    cases q with
    | lst h1 h2 => exact .inl ⟨_, rfl, ⟨_, Same.seq same_hide h1⟩, hQ _ [_] [.list _] _ H1 ρ1 rfl S2 walks_list q1⟩
    | tup h1 h2 => exact .inr (.inl ⟨_, rfl, ⟨_, seqT_same same_hide h1⟩, hQ _ [_] [.tuple _] _ H1 ρ1 rfl S2 walks_tup q1⟩)
    | str z => exact .inr (.inr ⟨z, rfl, hQ _ [] [] _ H1 ρ1 rfl S2.pop walks_str q1⟩)
    | _ => exact q1.elim
  · exact q1.elim
end DL

set_option Elab.async false
set_option linter.all false
/-! for the proofs of readings: steps, loops -/
namespace DL
open PySem PySem.Spec PyProof.Rows L2
theorem ifb {A B : Prop} {b : Bool} (h : b = true → A) (h' : b = false → B) : if b = true then A else B := by
  cases b
  · exact h' rfl
  · exact h rfl
theorem eqv_int {a b : Int} : PyData.eqv (.int a) (.int b) = decide (a = b) := by first | rfl | simp [PyData.eqv]
theorem atI_mem {ds : List D} {x : Int} (h0 : 0 ≤ x) (h1 : x < ds.length) : ∃ d, atI ds x = some d ∧ d ∈ ds := by
  obtain ⟨j, rfl⟩ := Int.eq_ofNat_of_zero_le h0
  have hj : j < ds.length := by omega
  exact ⟨ds[j], L2.atI_nat (List.getElem?_eq_getElem hj), List.getElem_mem hj⟩
theorem log2_lt {m : Int} {k : Nat} (h : m.natAbs < 2 ^ k) (h0 : 0 < k) (h9 : k ≤ 9000) : m.natAbs.log2 < 9000 := Nat.lt_of_lt_of_le (PySem.Flt.log2_lt_of h0 h) h9
theorem log2_sm {m : Int} (h : m.natAbs < 18446744073709551616) : m.natAbs.log2 < 9000 := log2_lt (k := 64) h (by decide) (by decide)

theorem forK_ind {wg : WG} {body : WS} {DD : EndsD} (I : List D → Rho → Prop) (h0 : ∀ ρ, I [] ρ → DD.nx ρ)
    (h1 : ∀ d ds ρ (next : Rho → Prop), (∀ ρ', I ds ρ' → next ρ') → I (d :: ds) ρ → wg d ρ fun ρ1 => body ⟨next, DD.rt, DD.nx, next, DD.ex⟩ ρ1) : ∀ ds ρ, I ds ρ → forK wg body ds DD ρ
  | [], ρ, h => h0 ρ h
  | d :: ds, ρ, h => h1 d ds ρ _ (fun ρ' h' => forK_ind I h0 h1 ds ρ' h') h
theorem mem_range {lo : Int} {n : Nat} {d : D} (h : d ∈ rangeD lo n) : ∃ k : Int, d = .int k ∧ lo ≤ k ∧ k < lo + n := by
  obtain ⟨k, h1, rfl⟩ := List.mem_map.mp h
  have := List.mem_range.mp h1
  exact ⟨lo + k, rfl, by omega, by omega⟩
/-! states written out -/
theorem wSeq_i {w u : WS} {nx : Rho → Prop} {rt : KC} {bk ct : Rho → Prop} {ex : KX} {ρ ρ' : Rho} (e : ρ = ρ') (h : w ⟨u ⟨nx, rt, bk, ct, ex⟩, rt, bk, ct, ex⟩ ρ') : wSeq w u ⟨nx, rt, bk, ct, ex⟩ ρ := by
  subst e
  exact h
end DL

set_option Elab.async false
set_option linter.all false
set_option maxRecDepth 100000
set_option maxHeartbeats 4000000
/-! DL: enumerate, zip, reversed, range with a step -/
namespace DL
open PySem PySem.Spec PyProof.Rows L2

/-! ### enumerate of a tuple -/
section
variable {prog : Program} {w : World} {A : Around} {E : Value → Shared → Prop} {s : Shared}
end
/-! ### by data -/
def enumF : Nat → List D → List D
  | _, [] => []
  | k, d :: ds => .tuple [.int (k : Nat), d] :: enumF (k + 1) ds
theorem enumF_len : ∀ {k : Nat} {ds : List D}, (enumF k ds).length = ds.length
  | _, [] => rfl
  | k, d :: ds => by show (enumF (k + 1) ds).length + 1 = _; rw [enumF_len]; rfl
def zipF : List D → List D → List D
  | d :: ds, e :: es => .tuple [d, e] :: zipF ds es
  | _, _ => []
theorem zipF_len : ∀ {ds es : List D}, (zipF ds es).length = min ds.length es.length
  | [], _ => by simp [zipF]
  | _ :: _, [] => by simp [zipF]
  | d :: ds, e :: es => by show (zipF ds es).length + 1 = _; rw [zipF_len]; simp
theorem zipF_get : ∀ {i : Nat} {ds es : List D} {d : D}, (zipF ds es)[i]? = some d → ∃ x y, ds[i]? = some x ∧ es[i]? = some y ∧ d = .tuple [x, y]
  | 0, x :: ds, y :: es, d, h => ⟨x, y, rfl, rfl, by
    have e : PyData.tuple [x, y] = d := by simpa [zipF] using h
    exact e.symm⟩
  | i + 1, x :: ds, y :: es, d, h => by
    obtain ⟨a, b, h1, h2, h3⟩ := zipF_get (i := i) (ds := ds) (es := es) (d := d) (by simpa [zipF] using h)
    exact ⟨a, b, by simpa using h1, by simpa using h2, h3⟩
  | _, [], _, d, h => by simp [zipF] at h
  | _, _ :: _, [], d, h => by simp [zipF] at h
section
variable {K : PySem.W.Frag} {H : Hp} {O : List Addr} {a b : Addr} {ds es : List D}
theorem rd_lst {vs : List V} {rest : List D} (q : DpAll K (hide H O) (V.ref a :: vs) (PyData.list ds :: rest)) : ∃ xs, SqL K H a xs ∧ DpAll K (hide H O) xs ds := by
  cases q with
  | cons q _ =>
    cases q with
    | lst h1 h2 => exact ⟨_, Same.seq same_hide h1, h2⟩
theorem rd_tup {vs : List V} {rest : List D} (q : DpAll K (hide H O) (V.ref a :: vs) (PyData.tuple ds :: rest)) : ∃ xs, SqT K H a xs ∧ DpAll K (hide H O) xs ds := by
  cases q with
  | cons q _ =>
    cases q with
    | tup h1 h2 => exact ⟨_, seqT_same same_hide h1, h2⟩
theorem fresh_out {T : Addr} (dom : ∀ c ∈ O, ∃ u, H c = some u) (n : H T = none) : T ∉ O := fun z => by
  obtain ⟨u, e⟩ := dom T z
  rw [n] at e; cases e
theorem two {x y : D} {v u : V} (q : DpAll K (hide H O) [v, u] [x, y]) : DpAll K (hide H O) [v] [x] ∧ DpAll K (hide H O) [u] [y] := by
  cases q with
  | cons h1 h2 => exact ⟨.cons h1 .nil, h2⟩
theorem walks_zipL : Walks K (Itz K a b) [.ref a, .ref b] [.list ds, .list es] (zipF ds es) := by
  refine ⟨fun H O i _ q hi => ?_, fun H O i y H' d dom q hy hd => ?_, fun H O i _ q hi => ?_⟩
  · obtain ⟨xs, h1, h2⟩ := rd_lst (two q).1
    obtain ⟨ys, g1, g2⟩ := rd_lst (two q).2
    rw [zipF_len] at hi
    have l1 : i < xs.length := by rw [DL.DpAll.len h2]; omega
    have l2 : i < ys.length := by rw [DL.DpAll.len g2]; omega
    exact ⟨xs, ys, xs[i], ys[i], h1, g1, List.getElem?_eq_getElem l1, List.getElem?_eq_getElem l2⟩
  · obtain ⟨xs, h1, h2⟩ := rd_lst (two q).1
    obtain ⟨ys, g1, g2⟩ := rd_lst (two q).2
    obtain ⟨T, x, z, rfl, hT, rfl, hx, hz⟩ := hy
    obtain ⟨d1, d2, e1, e2, rfl⟩ := zipF_get hd
    obtain ⟨v, f1, f2⟩ := DL.DpAll.get h2 e1
    obtain ⟨u, f3, f4⟩ := DL.DpAll.get g2 e2
    have k1 := hx xs h1
    have k2 := hz ys g1
    rw [f1] at k1; cases k1
    rw [f3] at k2; cases k2
    exact ⟨same_new hT, new_tup hT (fresh_out dom hT) (.cons f2 (.cons f4 .nil))⟩
  · obtain ⟨xs, h1, h2⟩ := rd_lst (two q).1
    obtain ⟨ys, g1, g2⟩ := rd_lst (two q).2
    rw [zipF_len] at hi
    refine ⟨xs, ys, h1, g1, ?_⟩
    rw [DL.DpAll.len h2, DL.DpAll.len g2]
    omega
theorem walks_zipT : Walks K (RZ.ItzT K a b) [.ref a, .ref b] [.tuple ds, .tuple es] (zipF ds es) := by
  refine ⟨fun H O i _ q hi => ?_, fun H O i y H' d dom q hy hd => ?_, fun H O i _ q hi => ?_⟩
  · obtain ⟨xs, h1, h2⟩ := rd_tup (two q).1
    obtain ⟨ys, g1, g2⟩ := rd_tup (two q).2
    rw [zipF_len] at hi
    have l1 : i < xs.length := by rw [DL.DpAll.len h2]; omega
    have l2 : i < ys.length := by rw [DL.DpAll.len g2]; omega
    exact ⟨xs, ys, xs[i], ys[i], h1, g1, List.getElem?_eq_getElem l1, List.getElem?_eq_getElem l2⟩
  · obtain ⟨xs, h1, h2⟩ := rd_tup (two q).1
    obtain ⟨ys, g1, g2⟩ := rd_tup (two q).2
    obtain ⟨T, x, z, rfl, hT, rfl, hx, hz⟩ := hy
    obtain ⟨d1, d2, e1, e2, rfl⟩ := zipF_get hd
    obtain ⟨v, f1, f2⟩ := DL.DpAll.get h2 e1
    obtain ⟨u, f3, f4⟩ := DL.DpAll.get g2 e2
    have k1 := hx xs h1
    have k2 := hz ys g1
    rw [f1] at k1; cases k1
    rw [f3] at k2; cases k2
    exact ⟨same_new hT, new_tup hT (fresh_out dom hT) (.cons f2 (.cons f4 .nil))⟩
  · obtain ⟨xs, h1, h2⟩ := rd_tup (two q).1
    obtain ⟨ys, g1, g2⟩ := rd_tup (two q).2
    rw [zipF_len] at hi
    refine ⟨xs, ys, h1, g1, ?_⟩
    rw [DL.DpAll.len h2, DL.DpAll.len g2]
    omega
end
@[reducible] def itemsLT : D → Option (List D)
  | .list ds => some ds
  | .tuple ds => some ds
  | _ => none
@[reducible] def wIZip (wa : WA) : WI := fun ρ Q E => wa ρ (fun cs ρ1 => match frzs cs with
  | [.v (.list ds), .v (.list es)] => Q (zipF ds es) ρ1
  | [.v (.tuple ds), .v (.tuple es)] => Q (zipF ds es) ρ1
  | _ => False) E
section
variable {X : Cx} {g : G} {W : WX} {tg a b c : Expr} {wa : WA} {p pos : Pos}
theorem args2 {σ : L2.St} {vs xs : List V} {H : Hp} {ρ : Rho} {ccs cs : List C} {K : PySem.W.Frag} {d d2 : D} (hl : xs.length = ccs.length) (h : SR K g σ (xs ++ vs) H ρ (ccs ++ cs)) (e : ccs.map frzC = [.v d, .v d2]) : ∃ x y, xs = [x, y] ∧ SR K g σ (x :: y :: vs) H ρ (.v d :: .v d2 :: cs) := by
  have S := h.frzArgs hl
  rw [e] at S
  have l : xs.length = 2 := by rw [hl]; simpa using congrArg List.length e
  match xs, l with
  | [x, y], _ => exact ⟨x, y, rfl, S⟩
theorem ei_zip {elts : List Expr} {kk : Nat} {tpos : Pos} (hg : Gl X "zip") (hm : X.mg "zip" = none) (ha : EA X g W [a, b] wa) (hs : starEach [a, b] X.env = (false, eval a X.env) :: starEach [b] X.env := by rfl) (hpl : (backTo pos (starEach [b] X.env)).any (·.1) = false := by rfl) : EI X g W (.Tuple elts kk tpos) (.Call (.Name "zip" p) [a, b] [] pos) (wIZip wa) := by
  obtain ⟨t, q, s⟩ := ha.ex
  refine ⟨_, RZ.pi_zipA hg hm q hs hpl, fun σ vs H ρ cs QD ED R hS hw hX hQ => ?_⟩
  refine s σ vs H ρ cs _ ED _ hS hw hX fun xs H1 ccs ρ1 hl S1 q1 => ?_
  split at q1
  · rename_i ds es ec
    obtain ⟨x, y, rfl, S2⟩ := args2 hl S1 (frzs_eq.symm.trans ec)
    have z1 := S2.top
    have z2 := S2.pop.top
    cases z1 with
    | lst h1 h2 =>
      cases z2 with
      | lst g1 g2 => exact ⟨_, _, _, _, rfl, .inl ⟨Same.seq same_hide h1, Same.seq same_hide g1, hQ _ [_, _] [.list _, .list _] _ H1 ρ1 rfl S2 walks_zipL q1⟩⟩
  · rename_i ds es ec
    obtain ⟨x, y, rfl, S2⟩ := args2 hl S1 (frzs_eq.symm.trans ec)
    have z1 := S2.top
    have z2 := S2.pop.top
    cases z1 with
    | tup h1 h2 =>
      cases z2 with
      | tup g1 g2 => exact ⟨_, _, _, _, rfl, .inr ⟨seqT_same same_hide h1, seqT_same same_hide g1, hQ _ [_, _] [.tuple _, .tuple _] _ H1 ρ1 rfl S2 walks_zipT q1⟩⟩
  · exact q1.elim
end
end DL

set_option Elab.async false
set_option linter.all false
set_option maxRecDepth 100000
set_option maxHeartbeats 4000000
/-! DL: more of Python: t[::-1], x in t, + of any kind, max and min of a list, int of a text -/
namespace DL
open PySem PySem.Spec PyProof.Rows L2
/-! ### t[::-1] of a tuple -/
section
variable {prog : Program} {w : World} {A : Around} {E : Value → Shared → Prop} {s : Shared}
theorem fm_congr {α : Type} {f g : Nat → Option α} : ∀ {l : List Nat}, (∀ m ∈ l, f m = g m) → l.filterMap f = l.filterMap g
  | [], _ => rfl
  | m :: l, h => by
    have e := fm_congr (l := l) (f := f) (g := g) fun k hk => h k (.tail _ hk)
    rw [List.filterMap_cons, List.filterMap_cons, h m (.head _), e]
theorem rev_pick (xs : Array Value) : ((List.range xs.size).filterMap fun (m : Nat) => xs[((xs.size : Int) - 1 + (m : Int) * (-1)).toNat]?).toArray = xs.toList.reverse.toArray := by
  have e : ((List.range xs.size).filterMap fun (m : Nat) => xs[((xs.size : Int) - 1 + (m : Int) * (-1)).toNat]?) = ((List.range xs.size).map fun m => xs.size - 1 - m).filterMap (xs[·]?) := by
    rw [List.filterMap_map]
    apply fm_congr
    intro m hm
    have := List.mem_range.mp hm
    show xs[_]? = xs[_]?
    rw [show ((xs.size : Int) - 1 + (m : Int) * (-1)).toNat = xs.size - 1 - m by omega]
  rw [e, PySem.W.krv_range, List.filterMap_reverse, PySem.W.krv_all]
theorem rev_places (n : Nat) : Builtin.Slice.slicePlaces ((n : Int) - 1) (-1) (-1) = n := by
  unfold Builtin.Slice.slicePlaces
  have h1 : ¬ ((-1 : Int) > 0) := by omega
  simp only [h1, if_false]
  split
  · rw [show (- -1 : Int) = 1 by decide, Int.ediv_one]; omega
  · omega
theorem rev_applied {sl : Addr} {u : Tok} {n : Nat} {Q : Int × Int × Nat → Shared → Prop} (hs : s.heap.IsSliceOf sl .none .none (.int (-1) u)) (h : Q ((n : Int) - 1, -1, n) s) : wpAny (model prog w) A (Builtin.Slice.sliceApplied (.ref sl) (pure (n : Int))) Q E s := by
  obtain ⟨os, hos, hcs, hds⟩ := id hs
  unfold Builtin.Slice.sliceApplied Builtin.Slice.sliceFields
  refine wpAny_bind (wpAny_bind (wpAny_field hos hds (x := .none) rfl (wpAny_bind (wpAny_field hos hds (x := .none) rfl (wpAny_bind (wpAny_field hos hds (x := .int (-1) u) rfl (wpAny_pure ?_)))))))
  refine wpAny_bind (slicePart_int ?_)
  show wpAny _ _ (if ((-1 : Int) == 0) = true then _ else _) _ _ s
  rw [if_neg (by decide)]
  refine wpAny_bind (slicePart_none (wpAny_bind (slicePart_none (wpAny_bind (wpAny_pure ?_)))))
  show wpAny _ _ (pure ((n : Int) - 1, (-1 : Int), Builtin.Slice.slicePlaces ((n : Int) - 1) (-1) (-1))) _ _ s
  rw [rev_places]
  exact wpAny_pure h
theorem getItem_tuple_rev {t sl : Addr} {items : Array Value} {u : Tok} {Q : Value → Shared → Prop} (ht : IsTup s.heap t items) (hs : s.heap.IsSliceOf sl .none .none (.int (-1) u))
    (h : Q (.ref s.heap.objs.size) { s with heap := s.heap.push { cls := .type "tuple", data := .seq items.toList.reverse.toArray } }) (hsz : items.size ≤ sizeLine) : wpAny (model prog w) A (getItem (.ref t) (.ref sl)) Q E s := by
  have small : sizeOk (.seq items.toList.reverse.toArray) := by
    show items.toList.reverse.toArray.size ≤ sizeLine
    simpa using hsz
  obtain ⟨os, hos, hcs, hds⟩ := id hs
  have hTs : s.TypeIs (.ref sl) "slice" := ⟨os, hos, hcs⟩
  unfold getItem
  try with_reducible refine wpAny_holding ?_
  first | refine wpAny_bind (wpAny_pure ?_) | skip
  refine wpAny_bind (wpAny_sequenceKey ht.typeIs (by decide) ?_)
  refine wpAny_bind (wpAny_callSpecial?_slot (name := Str.ofString "__getitem__") ht.typeIs PyProof.Rows.slot_tuple_getitem (wpAny_call_entry PyProof.Rows.slot_tuple_getitem ht.typeIs PyProof.Rows.entry_tuple_getitem ?_ (PyProof.Rows.args_tuple_getitem _ _)))
  show wpAny _ _ (Builtin.Tuple.tupleItemsOf (.ref t) >>= _) _ _ s
  refine wpAny_bind (tupleItemsOf_ ht ?_)
  refine wpAny_bind (wpAny_typeOf hTs ?_)
  rw [if_pos (by decide)]
  refine wpAny_bind (rev_applied hs ?_)
  have hno : ¬ ((((items.size : Int) - 1) == 0 && (-1 : Int) == 1 && items.size == items.size) = true) := by
    intro q
    rw [Bool.and_eq_true, Bool.and_eq_true] at q
    exact absurd (eq_of_beq q.1.2) (by decide)
  show wpAny _ _ (if (((items.size : Int) - 1) == 0 && (-1 : Int) == 1 && items.size == items.size) = true then _ else _) _ _ s
  rw [if_neg hno, rev_pick]
  first
    | exact wpAny_bind (m := Builtin.Tuple.tupleExact _) (wpAny_newObj_type (wpAny_pure ⟨_, rfl, wpAny_pure h⟩) small)
    | exact wpAny_bind (m := Builtin.Tuple.tupleExact _) (wpAny_newObj_type (wpAny_bind (wpAny_pure (wpAny_pure ⟨_, rfl, wpAny_pure h⟩))) small)
    | exact wpAny_bind (wpAny_bind (m := Builtin.Tuple.tupleExact _) (wpAny_newObj_type (wpAny_pure (wpAny_pure ⟨_, rfl, wpAny_pure h⟩)) small))
    | exact wpAny_bind (wpAny_bind (m := Builtin.Tuple.tupleExact _) (wpAny_newObj_type (wpAny_pure ⟨_, rfl, wpAny_pure h⟩) small))
end
def tRevA (K : PySem.W.Frag) (te : TE) : TE := fun σ H Q => te σ H fun x H1 => ∃ a xs, x = .ref a ∧ ((SqL K H1 a xs ∧ ∀ p, H1 p = none → Q (.ref p) (upd H1 p (.lst xs.reverse))) ∨ (SqT K H1 a xs ∧ ∀ p, H1 p = none → Q (.ref p) (upd H1 p (.tup xs.reverse))))
theorem pe_revAll {X : Cx} {e : Expr} {te : TE} {k : Nat} {p1 p2 p3 pos : Pos} (he : PE X e te) : PE X (.Subscript e (.Slice none none (some (.UnaryOp .USub (.Constant (.int 1) k p1) p2)) p3) pos) (tRevA X.K te) := by
  refine ⟨fun pins s σ H Q I h => ?_⟩
  refine Subscript_ (thn (he.run pins s σ H _ I h) fun v s1 ⟨x, H1, I1, r1, q1⟩ => ?_)
  obtain ⟨a, xs, ex, q⟩ := q1
  subst ex
  cases r1
  have hst : PO X (some (.UnaryOp .USub (.Constant (.int 1) k p1) p2)) (tPart (tUn (rU fun i => .int (-i)) (tC (.int 1)))) := po_some (pe_un un_neg pe_int)
  refine wpAny_Slice (thn (po_none.run pins s1 σ H1 (fun o H2 => o = none ∧ H2 = H1) I1 ⟨rfl, rfl⟩) fun vl s2 ⟨l, H2, I2, pl, el, e2⟩ => ?_)
  subst el e2
  refine thn (po_none.run pins s2 σ H2 (fun o H3 => o = none ∧ H3 = H2) I2 ⟨rfl, rfl⟩) fun vu s3 ⟨u, H3, I3, pu, eu, e3⟩ => ?_
  subst eu e3
  refine thn (hst.run pins s3 σ H3 (fun o H4 => o = some (-1) ∧ H4 = H3) I3 ⟨1, rfl, -1, rfl, rfl, rfl⟩) fun vs s4 ⟨o, H4, I4, ps, eo, e4⟩ => ?_
  subst eo e4
  have I5 : Inv X pins σ H4 { s4 with heap := s4.heap.push { cls := .type "slice", data := .fields #[vl, vu, vs] } } := I4.kept (t' := s4.toks) fun b ob q => Heap.get?_push_of_some _ q
  show wpAny (model X.prog X.w) X.A (subscriptTail e (.Slice none none (some (.UnaryOp .USub (.Constant (.int 1) k p1) p2)) p3) (.ref a) (.ref s4.heap.objs.size)) (EP X pins σ Q) X.xe { s4 with heap := s4.heap.push { cls := .type "slice", data := .fields #[vl, vu, vs] } }
  rcases q with ⟨hx, q⟩ | ⟨hx, q⟩
  · obtain ⟨its, r, ht, hz⟩ := I5.list hx
    have hlen := r.length
    refine tail_any (ops := [.ref a, .ref s4.heap.objs.size]) ht.isList.typeIs (PySem.slot_list_getitem.lookup) ?_ (by with_unfolding_all rfl)
    refine wpAny_getItem_list_slice ht.isList (Heap.IsSliceOf.new _ vl vu vs) pl pu ps (by decide) ?_ (by rw [List.size_toArray]; omega)
    rw [PySem.W.krv_pick]
    refine ⟨.ref _, _, I5.laid (t' := s4.toks) (o := .lst xs.reverse) (fun b ob q => Heap.get?_push_of_some _ q) (Nat.le_refl _) ?_, rfl, q _ (I5.hok.fresh (Nat.le_refl _))⟩
    exact ⟨by rw [List.length_reverse]; exact hz, _, 0, r.reverse, Heap.get?_push_size _ rfl⟩
  · obtain ⟨its, r, ht, hz⟩ := I5.tuple hx
    have hlen := r.length
    refine tail_any (ops := [.ref a, .ref s4.heap.objs.size]) ht.typeIs (PyProof.Rows.slot_tuple_getitem.lookup) ?_ (by with_unfolding_all rfl)
    have hsl := Heap.IsSliceOf.new s4.heap vl vu vs
    cases pl
    cases pu
    cases ps
    refine getItem_tuple_rev ht hsl ?_ (by rw [List.size_toArray]; omega)
    refine ⟨.ref _, _, I5.laid (t' := s4.toks) (o := .tup xs.reverse) (fun b ob q => Heap.get?_push_of_some _ q) (Nat.le_refl _) ?_, rfl, q _ (I5.hok.fresh (Nat.le_refl _))⟩
    exact ⟨by rw [List.length_reverse]; exact hz, _, r.reverse, IsTup.new _ _⟩
theorem DpAll.rev {K : PySem.W.Frag} {B : Hp} : ∀ {xs : List V} {ds : List D}, DpAll K B xs ds → DpAll K B xs.reverse ds.reverse
  | _, [], h => by cases h; exact .nil
  | _, d :: ds, h => by
    cases h with
    | cons h1 h2 => rw [List.reverse_cons, List.reverse_cons]; exact DL.DpAll.app (DpAll.rev h2) (.cons h1 .nil)
@[reducible] def oRevS : O1 := fun d k => match d with
  | .list ds => k (.own 0 (.lst ds.reverse))
  | .tuple ds => k (.v (.tuple ds.reverse))
  | _ => False
theorem lift_rev {K : PySem.W.Frag} : Lift1 K (fun x H Q => ∃ a xs, x = .ref a ∧ ((SqL K H a xs ∧ ∀ p, H p = none → Q (.ref p) (upd H p (.lst xs.reverse))) ∨ (SqT K H a xs ∧ ∀ p, H p = none → Q (.ref p) (upd H p (.tup xs.reverse))))) oRevS := by
  intro O H x dx QD Q hO hx q fin
  cases hx with
  | lst h1 h2 => exact ⟨_, _, rfl, .inl ⟨Same.seq same_hide h1, fun p n => fin _ _ (.own 0 (.lst _)) (same_new n) (new_lst n (DpAll.rev h2)) q⟩⟩
  | tup h1 h2 => exact ⟨_, _, rfl, .inr ⟨seqT_same same_hide h1, fun p n => fin _ _ (.v _) (same_new n) (new_tup n (fun z => by obtain ⟨u, e⟩ := hO p z; rw [n] at e; cases e) (DpAll.rev h2)) q⟩⟩
  | _ => exact q.elim
@[reducible] def wRevS (we : WE) : WE := wU oRevS we
theorem ee_revS {X : Cx} {g : G} {W : WX} {e : Expr} {we : WE} {k : Nat} {p1 p2 p3 pos : Pos} (h : EE X g W e we) : EE X g W (.Subscript e (.Slice none none (some (.UnaryOp .USub (.Constant (.int 1) k p1) p2)) p3) pos) (wRevS we) := by
  obtain ⟨t, p, s⟩ := h.ex
  exact ⟨_, pe_revAll p, sem_un lift_rev s⟩

/-! ### x in t -/
def rInA (K : PySem.W.Frag) (neg : Bool) : R2 := fun x y H Q => (∃ d ds, Dp K H x d ∧ (Dp K H y (.list ds) ∨ Dp K H y (.tuple ds)) ∧ SeqAt.shaped d = true ∧ SeqAt.shaped (.list ds) = true ∧ Q (.bl (if neg then !(ds.any fun z => PyData.eqv z d) else ds.any fun z => PyData.eqv z d)) H) ∨
  ∃ i j, x = .str i ∧ y = .str j ∧ Q (.bl (if neg then (Builtin.Str.occurrences j i 0 j.length 1).isEmpty else !(Builtin.Str.occurrences j i 0 j.length 1).isEmpty)) H
section
variable {X : Cx}
theorem op_inA (hu : X.A.units + 65 < cLine) : OpR X (compareOp .In) (rInA X.K false) := by
  intro pins s σ H x y v u Q I rx ry h
  rcases h with ⟨d, ds, hd, he, sd, se, q⟩ | ⟨i, j, rfl, rfl, q⟩
  · obtain ⟨as, r1⟩ := Dp.reads I d x v hd rx
    rcases he with he | he
    · obtain ⟨bs, r2⟩ := Dp.reads I (.list ds) y u he ry
      exact SeqAt.in_list_reads r2 r1 (SeqAt.canLay_of_shaped se) (SeqAt.canLay_of_shaped sd) (room_in_shaped sd hu) ⟨.bl _, H, I, rfl, q⟩
    · obtain ⟨bs, r2⟩ := Dp.reads I (.tuple ds) y u he ry
      exact SeqAt.in_tuple_reads r2 r1 (SeqAt.canLay_of_shaped se) (SeqAt.canLay_of_shaped sd) (room_in_shaped sd hu) ⟨.bl _, H, I, rfl, q⟩
  · exact op_in_str pins s σ H _ _ v u Q I rx ry ⟨i, j, rfl, rfl, q⟩
theorem op_notinA (hu : X.A.units + 65 < cLine) : OpR X (compareOp .NotIn) (rInA X.K true) := by
  intro pins s σ H x y v u Q I rx ry h
  rcases h with ⟨d, ds, hd, he, sd, se, q⟩ | ⟨i, j, rfl, rfl, q⟩
  · obtain ⟨as, r1⟩ := Dp.reads I d x v hd rx
    rcases he with he | he
    · obtain ⟨bs, r2⟩ := Dp.reads I (.list ds) y u he ry
      exact SeqAt.notIn_list_reads r2 r1 (SeqAt.canLay_of_shaped se) (SeqAt.canLay_of_shaped sd) (room_in_shaped sd hu) ⟨.bl _, H, I, rfl, q⟩
    · obtain ⟨bs, r2⟩ := Dp.reads I (.tuple ds) y u he ry
      exact SeqAt.notIn_tuple_reads r2 r1 (SeqAt.canLay_of_shaped se) (SeqAt.canLay_of_shaped sd) (room_in_shaped sd hu) ⟨.bl _, H, I, rfl, q⟩
  · exact op_notin_str pins s σ H _ _ v u Q I rx ry ⟨i, j, rfl, rfl, by rw [Bool.not_not]; exact q⟩
end
def inS (i j : Str) : Bool := !(Builtin.Str.occurrences j i 0 j.length 1).isEmpty
def memD (d : D) (ds : List D) : Bool := ds.any fun z => PyData.eqv z d
@[reducible] def oIn : O2 := fun d1 d2 k => match d2 with
  | .list ds => SeqAt.shaped d1 = true ∧ SeqAt.shaped (.list ds) = true ∧ k (.v (.bool (memD d1 ds)))
  | .tuple ds => SeqAt.shaped d1 = true ∧ SeqAt.shaped (.list ds) = true ∧ k (.v (.bool (memD d1 ds)))
  | .str j => match d1 with
    | .str i => k (.v (.bool (inS i j)))
    | _ => False
  | _ => False
@[reducible] def oNotIn : O2 := fun d1 d2 k => match d2 with
  | .list ds => SeqAt.shaped d1 = true ∧ SeqAt.shaped (.list ds) = true ∧ k (.v (.bool (!memD d1 ds)))
  | .tuple ds => SeqAt.shaped d1 = true ∧ SeqAt.shaped (.list ds) = true ∧ k (.v (.bool (!memD d1 ds)))
  | .str j => match d1 with
    | .str i => k (.v (.bool (!inS i j)))
    | _ => False
  | _ => False
theorem lift_in {K : PySem.W.Frag} : Lift2 K (rInA K false) oIn := by
  intro O H x y dx dy QD Q _ hx hy q fin
  have hx' := dp_hide hx
  have hy' := dp_hide hy
  cases dy with
  | list ds => exact .inl ⟨dx, ds, hx', .inl hy', q.1, q.2.1, fin _ H (.v _) (Same.refl H) (.bl _) q.2.2⟩
  | tuple ds => exact .inl ⟨dx, ds, hx', .inr hy', q.1, q.2.1, fin _ H (.v _) (Same.refl H) (.bl _) q.2.2⟩
  | str j =>
    cases dx with
    | str i => cases hx'; cases hy'; exact .inr ⟨i, j, rfl, rfl, fin _ H (.v _) (Same.refl H) (.bl _) q⟩
    | _ => exact q.elim
  | _ => exact q.elim
theorem lift_notin {K : PySem.W.Frag} : Lift2 K (rInA K true) oNotIn := by
  intro O H x y dx dy QD Q _ hx hy q fin
  have hx' := dp_hide hx
  have hy' := dp_hide hy
  cases dy with
  | list ds => exact .inl ⟨dx, ds, hx', .inl hy', q.1, q.2.1, fin _ H (.v _) (Same.refl H) (.bl _) q.2.2⟩
  | tuple ds => exact .inl ⟨dx, ds, hx', .inr hy', q.1, q.2.1, fin _ H (.v _) (Same.refl H) (.bl _) q.2.2⟩
  | str j =>
    cases dx with
    | str i =>
      cases hx'; cases hy'
      have e : (!inS i j) = (Builtin.Str.occurrences j i 0 j.length 1).isEmpty := Bool.not_not _
      have q2 : QD (.v (.bool (!inS i j))) := q
      rw [e] at q2
      exact .inr ⟨i, j, rfl, rfl, fin _ H (.v _) (Same.refl H) (.bl _) q2⟩
    | _ => exact q.elim
  | _ => exact q.elim
section
variable {X : Cx} {g : G} {W : WX} {a b : Expr} {wa wb : WE} {pos : Pos}
theorem units65 {k : Nat} {A : Around} (hr : Room k A) : A.units + 65 < cLine := by
  have := hr.un
  omega
theorem et_in (hu : X.A.units + 65 < cLine) (ha : EE X g W a wa) (hb : EE X g W b wb) (hm : behindInMarks .In b = false := by rfl) : ET X g W (.Compare a [.In] [b] pos) (wTst (wB oIn wa wb)) := et_cmp (op_inA hu) lift_in ha hb hm
theorem et_notin (hu : X.A.units + 65 < cLine) (ha : EE X g W a wa) (hb : EE X g W b wb) (hm : behindInMarks .NotIn b = false := by rfl) : ET X g W (.Compare a [.NotIn] [b] pos) (wTst (wB oNotIn wa wb)) := et_cmp (op_notinA hu) lift_notin ha hb hm
end

/-! ### max and min of a list of numbers -/
@[reducible] def oMin1 : OL := fun ds k => match ds with
  | [.list es] => optK (intsOf es) fun ns => 0 < ns.length ∧ ∀ m : Int, m ∈ ns → (∀ y ∈ ns, m ≤ y) → k (.v (.int m))
  | _ => False
theorem lift_min1 {K : PySem.W.Frag} : LiftL K (rMin K) oMin1 := by
  intro O H xs ds QD Q _ hx q fin
  unfold oMin1 at q
  split at q
  · cases hx with
    | cons h1 h2 =>
      cases h2
      cases h1 with
      | lst a1 a2 =>
        rename_i es _ _
        cases e : intsOf es with
        | none => rw [e] at q; exact q.elim
        | some ns =>
          rw [e] at q
          have e2 := intsOf_dp a2 e
          subst e2
          exact ⟨_, ns, rfl, Same.seq same_hide a1, q.1, fun m hm hy => fin _ H (.v _) (Same.refl H) (.int _) (q.2 m hm hy)⟩
  · exact q.elim
section
variable {X : Cx} {g : G} {W : WX} {e : Expr} {es : List Expr} {wa : WA} {p pos : Pos}
theorem ee_min1 (hc : X.calm = true) (hg : Gl X "min") (hm : X.mg "min" = none) (ha : EA X g W (e :: es) wa) (he : starEach (e :: es) X.env = (false, eval e X.env) :: starEach es X.env := by rfl) (hpl : (backTo pos (starEach es X.env)).any (·.1) = false := by rfl) : EE X g W (.Call (.Name "min" p) (e :: es) [] pos) (wL oMin1 wa) :=
  ee_cb (cr_min hc) lift_min1 hg hm rfl ha (he := he) (hpl := hpl)
end

/-! ### + of numbers, texts, tuples -/
def rPlus (K : PySem.W.Frag) : R2 := fun x y H Q => (∃ i j, x = .int i ∧ y = .int j ∧ Q (.int (i + j)) H) ∨ (∃ i j, x = .str i ∧ y = .str j ∧ i.length + j.length ≤ sizeLine ∧ Q (.str (i ++ j)) H) ∨ rCatA K x y H Q
section
variable {X : Cx}
theorem op_plus : OpR X (binaryOp .Add) (rPlus X.K) := by
  intro pins s σ H x y v u Q I rx ry h
  rcases h with h | h | h
  · exact op_add pins s σ H x y v u Q I rx ry h
  · exact op_add_str pins s σ H x y v u Q I rx ry h
  · exact op_catA pins s σ H x y v u Q I rx ry h
end
@[reducible] def oPlus : O2 := fun d1 d2 k => match d1, d2 with
  | .int i, .int j => k (.v (.int (i + j)))
  | .str i, .str j => i.length + j.length ≤ sizeLine ∧ k (.v (.str (i ++ j)))
  | .tuple ds, .tuple es => ds.length + es.length ≤ sizeLine ∧ k (.v (.tuple (ds ++ es)))
  | _, _ => False
theorem DpAll.nil_iff {K : PySem.W.Frag} {B : Hp} {xs : List V} {ds : List D} (h : DpAll K B xs ds) : xs = [] ↔ ds = [] := by
  cases h <;> simp
theorem lift_plus {K : PySem.W.Frag} : Lift2 K (rPlus K) oPlus := by
  intro O H x y dx dy QD Q hO hx hy q fin
  cases hx with
  | int i =>
    cases hy <;> try exact q.elim
    exact .inl ⟨_, _, rfl, rfl, fin _ H (.v _) (Same.refl H) (.int _) q⟩
  | str i =>
    cases hy <;> try exact q.elim
    exact .inr (.inl ⟨_, _, rfl, rfl, q.1, fin _ H (.v _) (Same.refl H) (.str _) q.2⟩)
  | tup h1 h2 =>
    cases hy with
    | tup g1 g2 =>
      rename_i a xs ds b ys es
      refine .inr (.inr ⟨_, _, _, _, rfl, rfl, seqT_same same_hide h1, seqT_same same_hide g1, by rw [DL.DpAll.len h2, DL.DpAll.len g2]; exact q.1, fun z => ?_, fun z1 z2 => ?_, fun z1 z2 p n => ?_⟩)
      · have e := (DpAll.nil_iff h2).mp z
        have q2 := q.2
        rw [e, List.nil_append] at q2
        exact fin _ H (.v _) (Same.refl H) (.tup g1 g2) q2
      · have e := (DpAll.nil_iff g2).mp z2
        have q2 := q.2
        rw [e, List.append_nil] at q2
        exact fin _ H (.v _) (Same.refl H) (.tup h1 h2) q2
      · exact fin _ _ (.v _) (same_new n) (new_tup n (fun z => by obtain ⟨u, e⟩ := hO p z; rw [n] at e; cases e) (DL.DpAll.app h2 g2)) q.2
    | _ => exact q.elim
  | _ => exact q.elim
theorem ee_plus {X : Cx} {g : G} {W : WX} {a b : Expr} {wa wb : WE} {pos : Pos} {P : Prop} (_ : P) (ha : EE X g W a wa) (hb : EE X g W b wb) : EE X g W (.BinOp a .Add b pos) (wB oPlus wa wb) := by
  obtain ⟨ta, p1, s1⟩ := ha.ex
  obtain ⟨tb, p2, s2⟩ := hb.ex
  exact ⟨_, pe_op op_plus p1 p2, sem_op lift_plus s1 s2⟩
/-! ### int of a text -/
end DL

set_option Elab.async false
set_option linter.all false
set_option maxRecDepth 100000
set_option maxHeartbeats 4000000
/-! DL: facts of data: how deep, equal or not -/
namespace DL
open PySem PySem.Spec PyProof.Rows L2
structure Lay (k : Nat) (d : D) : Prop where
  ok : d.canLay0 = true
  dp : d.depth ≤ k
theorem Lay.up {k m : Nat} {d : D} (h : Lay k d) (l : k ≤ m) : Lay m d := ⟨h.ok, Nat.le_trans h.dp l⟩
theorem Lay.int {k : Nat} (i : Int) : Lay k (.int i) := ⟨rfl, by simp [PyData.depth]⟩
theorem Lay.bool {k : Nat} (b : Bool) : Lay k (.bool b) := ⟨rfl, by simp [PyData.depth]⟩
theorem Lay.none {k : Nat} : Lay k .none := ⟨rfl, by simp [PyData.depth]⟩
theorem Lay.str {k : Nat} {x : Str} (h : PyData.canLay0 (.str x) = true) : Lay k (.str x) := ⟨h, by simp [PyData.depth]⟩
theorem lay_all {k : Nat} : ∀ {ds : List D}, (∀ d ∈ ds, Lay k d) → PyData.canLayAll0 ds = true ∧ PyData.depthAll ds ≤ k
  | [], _ => ⟨rfl, by simp [PyData.depthAll]⟩
  | d :: ds, h => by
    obtain ⟨h1, h2⟩ := lay_all (ds := ds) fun e he => h e (.tail _ he)
    obtain ⟨g1, g2⟩ := h d (.head _)
    refine ⟨by rw [PyData.canLayAll0, g1, h1]; rfl, ?_⟩
    simp only [PyData.depthAll]
    omega
theorem Lay.tuple {k : Nat} {ds : List D} (h : ∀ d ∈ ds, Lay k d) : Lay (k + 1) (.tuple ds) := by
  obtain ⟨h1, h2⟩ := lay_all h
  exact ⟨by rw [PyData.canLay0]; exact h1, by simp only [PyData.depth]; omega⟩
theorem Lay.list {k : Nat} {ds : List D} (h : ∀ d ∈ ds, Lay k d) : Lay (k + 1) (.list ds) := by
  obtain ⟨h1, h2⟩ := lay_all h
  exact ⟨by rw [PyData.canLay0]; exact h1, by simp only [PyData.depth]; omega⟩
theorem Lay.shaped {k : Nat} {d : D} (h : Lay k d) (l : k ≤ 64 := by decide) : SeqAt.shaped d = true := by
  show (d.canLay0 && decide (d.depth ≤ 64)) = true
  rw [Bool.and_eq_true]
  exact ⟨h.ok, decide_eq_true (Nat.le_trans h.dp l)⟩
theorem Lay.refl {k : Nat} {d : D} (h : Lay k d) : PyData.eqv d d = true := SeqAt.eqv_refl d h.ok
/-! ### comprehensions -/
theorem lcK_ind {T : List Nat} {wg : WG} {wt : WT} {we : WE} {k : List D → Rho → Prop} (I : List D → List D → Rho → Prop) (h0 : ∀ acc ρ, I [] acc ρ → k acc ρ)
    (h1 : ∀ d ds acc ρ (next : List D → Rho → Prop), (∀ acc' ρ', I ds acc' ρ' → next acc' ρ') → I (d :: ds) acc ρ → wg d ρ fun ρ1 => wt ρ1 (fun b ρ2 => if b = true then we ρ2 (fun c ρ3 => match frzC c with
      | .v d' => next (acc ++ [d']) (clr T ρ3)
      | _ => False) (fun _ _ => False) else next acc (clr T ρ2)) (fun _ _ => False)) : ∀ ds acc ρ, I ds acc ρ → lcK T wg wt we ds acc ρ k
  | [], acc, ρ, h => h0 acc ρ h
  | d :: ds, acc, ρ, h => h1 d ds acc ρ _ (fun acc' ρ' h' => lcK_ind I h0 h1 ds acc' ρ' h') h
theorem eqv_lnil {ds : List D} : PyData.eqv (.list ds) (.list []) = ds.isEmpty := by cases ds <;> simp [PyData.eqv, PyData.eqvAll]
theorem eqv_tnil {ds : List D} : PyData.eqv (.tuple ds) (.tuple []) = ds.isEmpty := by cases ds <;> simp [PyData.eqv, PyData.eqvAll]
theorem ixN_of {n : Nat} {k : Int} (h0 : 0 ≤ k) (h1 : k < n) : ixN n k = some k.toNat := by
  unfold ixN
  rw [if_pos h0, if_pos h1]
theorem atI_of {α : Type} {ds : List α} {k : Int} {d : α} (h0 : 0 ≤ k) (h : ds[k.toNat]? = some d) : atI ds k = some d := by
  have e : ((k.toNat : Nat) : Int) = k := by omega
  rw [← e]
  exact L2.atI_nat h
theorem setI_of {α : Type} {ds : List α} {k : Int} {d : α} (h0 : 0 ≤ k) (h1 : k < ds.length) : setI ds k d = some (ds.set k.toNat d) := by
  unfold setI
  rw [ixN_of h0 h1]
  rfl
theorem rangeD_cons {lo : Int} {n : Nat} : rangeD lo (n + 1) = .int lo :: rangeD (lo + 1) n := by
  unfold rangeD
  rw [List.range_succ_eq_map, List.map_cons, List.map_map]
  have e : lo + ((0 : Nat) : Int) = lo := by omega
  rw [e]
  congr 1
  apply List.map_congr_left
  intro k _
  show PyData.int (lo + ((k + 1 : Nat) : Int)) = .int (lo + 1 + (k : Int))
  congr 1
  omega
theorem rangeD_zero {lo : Int} : rangeD lo 0 = [] := rfl
theorem rangeD_len {lo : Int} {n : Nat} : (rangeD lo n).length = n := by simp [rangeD]
theorem lcK_eq {T : List Nat} {wg : WG} {wt : WT} {we : WE} {ds acc : List D} {ρ ρ' : Rho} {k : List D → Rho → Prop} (e : ρ = ρ') (h : lcK T wg wt we ds acc ρ' k) : lcK T wg wt we ds acc ρ k := by
  subst e
  exact h
theorem forK_eq {wg : WG} {wb : WS} {ds : List D} {DD : EndsD} {ρ ρ' : Rho} (e : ρ = ρ') (h : forK wg wb ds DD ρ') : forK wg wb ds DD ρ := by
  subst e
  exact h
theorem lcK_xs {α : Type} {T : List Nat} {wg : WG} {wt : WT} {we : WE} {k : List D → Rho → Prop} {ρ0 : Rho} {inj : α → D} (g : α → Option D) :
    ∀ (xs : List α) (acc : List D), (∀ x ∈ xs, ∀ next : Option D → Rho → Prop, next (g x) ρ0 → wg (inj x) ρ0 fun ρ1 => wt ρ1 (fun b ρ2 => if b = true then we ρ2 (fun c ρ3 => match frzC c with
      | .v d' => next (some d') (clr T ρ3)
      | _ => False) (fun _ _ => False) else next none (clr T ρ2)) (fun _ _ => False)) → k (acc ++ xs.filterMap g) ρ0 → lcK T wg wt we (xs.map inj) acc ρ0 k
  | [], acc, _, h => by
    rw [List.filterMap_nil, List.append_nil] at h
    exact h
  | x :: xs, acc, h1, h => by
    refine h1 x (.head _) (fun o ρ => match o with
      | some d' => lcK T wg wt we (xs.map inj) (acc ++ [d']) ρ k
      | none => lcK T wg wt we (xs.map inj) acc ρ k) ?_
    have rest : ∀ acc', k (acc' ++ xs.filterMap g) ρ0 → lcK T wg wt we (xs.map inj) acc' ρ0 k := fun acc' => lcK_xs g xs acc' fun e he => h1 e (.tail _ he)
    cases e : g x with
    | none =>
      show lcK T wg wt we (xs.map inj) acc ρ0 k
      refine rest acc ?_
      rw [List.filterMap_cons, e] at h
      exact h
    | some d' =>
      show lcK T wg wt we (xs.map inj) (acc ++ [d']) ρ0 k
      refine rest _ ?_
      rw [List.filterMap_cons, e] at h
      rw [List.append_assoc]
      exact h
theorem lcK_ys {α : Type} {T : List Nat} {wg : WG} {wt : WT} {we : WE} {k : List D → Rho → Prop} {ρ0 : Rho} {inj : α → D} (g : α → D) (xs : List α)
    (h : ∀ x ∈ xs, ∀ next : Option D → Rho → Prop, next (some (g x)) ρ0 → wg (inj x) ρ0 fun ρ1 => wt ρ1 (fun b ρ2 => if b = true then we ρ2 (fun c ρ3 => match frzC c with
      | .v d' => next (some d') (clr T ρ3)
      | _ => False) (fun _ _ => False) else next none (clr T ρ2)) (fun _ _ => False)) (fin : k (xs.map g) ρ0) : lcK T wg wt we (xs.map inj) [] ρ0 k := by
  refine lcK_xs (fun x => some (g x)) xs [] h ?_
  rw [List.nil_append]
  have e : xs.filterMap (fun x => some (g x)) = xs.map g := by
    clear h fin
    induction xs with
    | nil => rfl
    | cons x xs ih => rw [List.filterMap_cons, List.map_cons, ih]
  rw [e]
  exact fin
theorem lfreeAll_of : ∀ {ds : List D}, (∀ d ∈ ds, lfree d = true) → lfree.lfreeAll ds = true
  | [], _ => rfl
  | d :: ds, h => by
    rw [lfree.lfreeAll, h d (.head _), lfreeAll_of fun e he => h e (.tail _ he)]
    rfl
theorem lfree_tup {ds : List D} (h : ∀ d ∈ ds, lfree d = true) : lfree (.tuple ds) = true := by
  show lfree.lfreeAll ds = true
  exact lfreeAll_of h
theorem lf_ints {k : Nat} {ns : List Int} : C.lf (.own k (.lst (ns.map PyData.int))) = true := by
  show lfree.lfreeAll _ = true
  refine lfreeAll_of fun d hd => ?_
  obtain ⟨x, _, rfl⟩ := List.mem_map.mp hd
  rfl
theorem lf_strs {k : Nat} {ns : List Str} : C.lf (.own k (.lst (ns.map PyData.str))) = true := by
  show lfree.lfreeAll _ = true
  refine lfreeAll_of fun d hd => ?_
  obtain ⟨x, _, rfl⟩ := List.mem_map.mp hd
  rfl
theorem isT_tuple_none {b : Bool} {i : Int} {x : Str} {ds : List D} : isT "tuple" PyData.none = false := by simp [isT]
theorem isT_tuple_bool {b : Bool} {i : Int} {x : Str} {ds : List D} : isT "tuple" (.bool b) = false := by simp [isT]
theorem isT_tuple_int {b : Bool} {i : Int} {x : Str} {ds : List D} : isT "tuple" (.int i) = false := by simp [isT]
theorem isT_tuple_str {b : Bool} {i : Int} {x : Str} {ds : List D} : isT "tuple" (.str x) = false := by simp [isT]
theorem isT_tuple_list {b : Bool} {i : Int} {x : Str} {ds : List D} : isT "tuple" (.list ds) = false := by simp [isT]
theorem isT_tuple_tuple {b : Bool} {i : Int} {x : Str} {ds : List D} : isT "tuple" (.tuple ds) = true := by simp [isT]
theorem isT_int_none {b : Bool} {i : Int} {x : Str} {ds : List D} : isT "int" PyData.none = false := by simp [isT]
theorem isT_int_bool {b : Bool} {i : Int} {x : Str} {ds : List D} : isT "int" (.bool b) = true := by simp [isT]
theorem isT_int_int {b : Bool} {i : Int} {x : Str} {ds : List D} : isT "int" (.int i) = true := by simp [isT]
theorem isT_int_str {b : Bool} {i : Int} {x : Str} {ds : List D} : isT "int" (.str x) = false := by simp [isT]
theorem isT_int_list {b : Bool} {i : Int} {x : Str} {ds : List D} : isT "int" (.list ds) = false := by simp [isT]
theorem isT_int_tuple {b : Bool} {i : Int} {x : Str} {ds : List D} : isT "int" (.tuple ds) = false := by simp [isT]
theorem isT_bool_none {b : Bool} {i : Int} {x : Str} {ds : List D} : isT "bool" PyData.none = false := by simp [isT]
theorem isT_bool_bool {b : Bool} {i : Int} {x : Str} {ds : List D} : isT "bool" (.bool b) = true := by simp [isT]
theorem isT_bool_int {b : Bool} {i : Int} {x : Str} {ds : List D} : isT "bool" (.int i) = false := by simp [isT]
theorem isT_bool_str {b : Bool} {i : Int} {x : Str} {ds : List D} : isT "bool" (.str x) = false := by simp [isT]
theorem isT_bool_list {b : Bool} {i : Int} {x : Str} {ds : List D} : isT "bool" (.list ds) = false := by simp [isT]
theorem isT_bool_tuple {b : Bool} {i : Int} {x : Str} {ds : List D} : isT "bool" (.tuple ds) = false := by simp [isT]
theorem isT_str_none {b : Bool} {i : Int} {x : Str} {ds : List D} : isT "str" PyData.none = false := by simp [isT]
theorem isT_str_bool {b : Bool} {i : Int} {x : Str} {ds : List D} : isT "str" (.bool b) = false := by simp [isT]
theorem isT_str_int {b : Bool} {i : Int} {x : Str} {ds : List D} : isT "str" (.int i) = false := by simp [isT]
theorem isT_str_str {b : Bool} {i : Int} {x : Str} {ds : List D} : isT "str" (.str x) = true := by simp [isT]
theorem isT_str_list {b : Bool} {i : Int} {x : Str} {ds : List D} : isT "str" (.list ds) = false := by simp [isT]
theorem isT_str_tuple {b : Bool} {i : Int} {x : Str} {ds : List D} : isT "str" (.tuple ds) = false := by simp [isT]
theorem isT_list_none {b : Bool} {i : Int} {x : Str} {ds : List D} : isT "list" PyData.none = false := by simp [isT]
theorem isT_list_bool {b : Bool} {i : Int} {x : Str} {ds : List D} : isT "list" (.bool b) = false := by simp [isT]
theorem isT_list_int {b : Bool} {i : Int} {x : Str} {ds : List D} : isT "list" (.int i) = false := by simp [isT]
theorem isT_list_str {b : Bool} {i : Int} {x : Str} {ds : List D} : isT "list" (.str x) = false := by simp [isT]
theorem isT_list_list {b : Bool} {i : Int} {x : Str} {ds : List D} : isT "list" (.list ds) = true := by simp [isT]
theorem isT_list_tuple {b : Bool} {i : Int} {x : Str} {ds : List D} : isT "list" (.tuple ds) = false := by simp [isT]
theorem forK_ds {wg : WG} {wb : WS} {ds ds' : List D} {DD : EndsD} {ρ : Rho} (e : ds = ds') (h : forK wg wb ds' DD ρ) : forK wg wb ds DD ρ := by
  subst e
  exact h
end DL

set_option Elab.async false
set_option linter.all false
/-! the head: a law's promise over data -/
namespace DL
open PySem PySem.Spec PyProof.Rows L2
theorem mkG_start {K : PySem.W.Frag} {H : Hp} {x : V} {d : D} (h : Dp K H x d) : SR K (mkG H [x] [.v d] [] L0) [some x] [] H [.v d] [] := by
  have e : tot [some x] [] [C.v d] [] = [] := by
    show foot [] [] ++ (footC (some x) (.v d) ++ foot [] []) = []
    cases x <;> rfl
  refine ⟨fun a o q _ => q, fun a o q => ⟨o, q⟩, fun a z => (by cases z), fun a z => ?_, ?_, ?_, ?_, fun i z => ?_⟩
  · rw [e] at z; cases z
  · rw [e]; exact .nil
  · rw [e]
    refine ⟨⟨x, rfl, dp_mono (fun a o q => hide_some.mpr ⟨fun z => (by cases z), q⟩) _ _ h⟩, trivial⟩
  · trivial
  · rcases z with z | z <;> cases z
theorem sp_law {K : PySem.W.Frag} {S : SpD} {n : Nat} (hn : n ≤ sizeLine) (law_in : ∀ ns : List Int, ns.length ≤ n → S [.v (.list (ns.map PyData.int))] (fun c _ => c = .v (.bool true)) (fun _ _ => False))
    (H : Hp) (a : Addr) (ns : List Int) (hl : ns.length ≤ n) (hO : L2.Only H) (hS : SqL K H a (ns.map V.int)) : spOf K S [.ref a] H (fun v _ => v = .bl true) fun _ _ _ => False := by
  have hd : Dp K H (.ref a) (.list (ns.map PyData.int)) := by
    refine .lst hS ?_
    clear hS hl
    induction ns with
    | nil => exact .nil
    | cons i ns ih => exact .cons (.int i) ih
  refine ⟨[.v (.list (ns.map PyData.int))], [], _, _, mkG_start hd, law_in ns hl, fun c rs _ e v H' S1 => ?_, fun x rs z => z.elim⟩
  subst e
  obtain ⟨y, e1, e2⟩ := S1.tp.1
  cases e1
  cases e2
  rfl
theorem walk_dl {l : PySem.W.OpenLaw} {n k : Nat} {q : Program} {loose : List Str} {XP : (Str → Option Value) → Heap → Prop} {YP : World → Heap → Prop} {d : DefRec} {x : Str}
    (hn : l.most = some n) (hn2 : n ≤ sizeLine) (hdf : d.params.defaults = []) (hr : Room k callerA) {S : SpD}
    (F : ∀ (w : World) (mg : Str → Option Value) (fa : Addr) (h : Heap), YP w h → h.Ns mainGlobals mg → mg d.name = some (.ref fa) →
      ∃ (K : PySem.W.Frag) (fd : FuncData), K.In h ∧ (∀ (s : Shared) (u : Value), BindsTo s fd ⟨[u], []⟩ [(x, u)]) ∧
        ∀ base : Heap, K.In base → base.Ns mainGlobals mg → FnOk l.prog w K mg base (L2.CX l.prog w) k fa fd [x] (spOf K S))
    (law_in : ∀ ns : List Int, ns.length ≤ n → S [.v (.list (ns.map PyData.int))] (fun c _ => c = .v (.bool true)) (fun _ _ => False)) :
    PySem.W.WalkO q loose XP YP l.row.toRowW d [] (fun f vs => PySem.call f vs) := by
  refine Att.attach_call hn hdf fun w s₀ s₁ mg mb fa o pm cd doc a vs ns G Y ho hd hcd hmg hobj hints hlen hg => ?_
  obtain ⟨K, fd, KX, hb, hF⟩ := F w mg fa _ Y G.T.g hmg
  exact law_call KX G.T.g G.T.b G.T.builtins G.T.nolimit hg hobj hints (Nat.le_trans hlen hn2) hr hF hb (fun H hO hS => sp_law hn2 law_in H a ns hlen hO hS) fun H e s' h => by
    obtain ⟨_, _, _, _, _, _, _, _, _, _, _, _, z⟩ := h
    exact z.elim
end DL

set_option Elab.async false
set_option linter.all false
set_option maxRecDepth 100000
set_option maxHeartbeats 4000000
/-! DL, at the machine's level: set(list of ints), sorted(set) of any size, min with a default -/
namespace DLS
open PySem PySem.Spec PyProof.Rows L2
section
variable {P : Program} {w : World} {A : Around} {E : Value → Shared → Prop} {s : Shared}
abbrev set0 (w : World) : Obj := { cls := .type "set", dict := none, data := .set #[] 0 (.fresh 0 0 (!w.params.followText "set-order")) }
/-! min(xs, default=d) -/
section
variable {R : Result → Shared → Prop} {I : Addr} {fp wr : List Addr} {n : Nat} {Pv : Nat → Value → Prop} {St : Nat → Heap → Prop} {d : Value}
end
end
end DLS

set_option Elab.async false
set_option linter.all false
set_option maxRecDepth 100000
set_option maxHeartbeats 4000000
/-! DL: sorted(set(xs)), min(xs, default=d), comparisons of four, a raise that is never reached -/
namespace DLS
open PySem PySem.Spec PyProof.Rows L2
section
variable {P : Program} {w : World} {A : Around} {E : Value → Shared → Prop} {s : Shared}
end
end DLS
namespace DL
open PySem PySem.Spec PyProof.Rows L2
/-! ### min(xs, default=d) -/
section
variable {X : Cx}
end
section
variable {X : Cx} {g : G} {W : WX} {e d : Expr} {we wd : WE} {p kp pos : Pos}
end
/-! ### sorted(set(xs)) -/
section
variable {X : Cx} {g : G} {W : WX} {e : Expr} {te : TE} {we : WE} {p p2 q pos : Pos}
end
/-! ### a op b op' c op'' d, whole numbers -/
section
variable {X : Cx} {a b c d : Expr} {ta tb tc td : TE} {pos : Pos}
end
section
variable {K : PySem.W.Frag} {g : G} {W : WX} {t ta tb tc td : TE} {w wa wb wc wd : WE}
end
section
variable {X : Cx} {g : G} {W : WX} {a b c d : Expr} {wa wb wc wd : WE} {pos : Pos}
end
end DL

set_option Elab.async false
set_option linter.all false
set_option maxRecDepth 100000
set_option maxHeartbeats 4000000
/-! DL: texts: s * k -/
namespace DL
open PySem PySem.Spec PyProof.Rows L2
def repS (x : Str) (k : Nat) : Str := ⟨(List.replicate k x.cps.toList).flatten.toArray⟩
theorem foldl_app : ∀ (l : List (Array Nat)) (a : Array Nat), (l.foldl (· ++ ·) a).toList = a.toList ++ (l.map Array.toList).flatten
  | [], a => by simp
  | b :: l, a => by
    rw [List.foldl_cons, foldl_app l]
    simp
theorem repS_fold (x : Str) (k : Nat) : (⟨(List.replicate k x.cps).foldl (· ++ ·) #[]⟩ : Str) = repS x k := by
  unfold repS
  congr 1
  apply Array.ext'
  rw [foldl_app]
  simp
def rMulS : R2 := fun x y H Q => ∃ (a : Str) (k : Int), x = .str a ∧ y = .int k ∧ a.length ≤ 1000 ∧ -1000 ≤ k ∧ k ≤ 1000 ∧ Q (.str (repS a k.toNat)) H
theorem toolong_no {n : Nat} (h : n ≤ 1000000) : Builtin.Str.tooLong n = false := by
  unfold Builtin.Str.tooLong
  have : n ≤ sizeLine := by rw [sizeLine_eq]; omega
  first | exact decide_eq_false (by omega) | (simp; omega)
section
variable {X : Cx}
theorem op_mulS : OpR X (binaryOp .Mult) rMulS := by
  intro pins s σ H x y v u Q I rx ry h
  obtain ⟨a, k, rfl, rfl, hl, k0, k1, q⟩ := h
  obtain ⟨t, rfl⟩ := rx
  obtain ⟨t', rfl⟩ := ry
  have hle : a.length * k.toNat ≤ 1000000 := Nat.le_trans (Nat.mul_le_mul hl (show k.toNat ≤ 1000 by omega)) (by decide)
  refine P.mul_str ?_ (fun h1 _ h2 => ?_) (fun _ _ => toolong_no hle) ?_
  · rw [decide_eq_false (by omega), decide_eq_false (by omega)]; rfl
  · have h3 : ((2 : Int) ^ 63 - 1) / k ≥ 1000 := (Int.le_ediv_iff_mul_le (by omega)).mpr (by omega)
    omega
  · by_cases c1 : k < 1
    · rw [if_pos c1]
      have e : repS a k.toNat = Str.empty := by
        have : k.toNat = 0 := by omega
        rw [this]
        first | rfl | decide
      rw [e] at q
      exact ⟨by decide, .str Str.empty, H, I.tok _, ⟨_, rfl⟩, q⟩
    · rw [if_neg c1]
      by_cases c2 : (k == 1 || a.length == 0) = true
      · rw [if_pos c2]
        have e : repS a k.toNat = a := by
          unfold repS
          rcases Bool.or_eq_true_iff.mp c2 with z | z
          · have : k = 1 := by simpa using z
            subst this
            simp
          · have z2 : a.cps.toList = [] := by
              have : a.cps.size = 0 := by simpa [Str.length] using z
              simpa using this
            obtain ⟨c⟩ := a
            have : c = #[] := by simpa using z2
            subst this
            simp
        rw [e] at q
        exact ⟨.str a, H, I, ⟨_, rfl⟩, q⟩
      · rw [if_neg c2, repS_fold]
        refine ⟨?_, .str _, H, I.tok _, ⟨_, rfl⟩, q⟩
        have e : (repS a k.toNat).length = a.length * k.toNat := by
          unfold repS Str.length
          simp [Nat.mul_comm]
        first
          | (rw [e]; exact Nat.le_trans hle (by rw [sizeLine_eq]; decide))
          | (show Builtin.Str.tooLong _ = false; rw [e]; exact toolong_no hle)
end
@[reducible] def oMulS : O2 := fun d1 d2 k => match d1, d2 with
  | .str a, .int i => a.length ≤ 1000 ∧ (-1000 ≤ i ∧ i ≤ 1000) ∧ k (.v (.str (repS a i.toNat)))
  | _, _ => False
theorem lift_mulS {K : PySem.W.Frag} : Lift2 K rMulS oMulS := by
  intro O H x y dx dy QD Q hO hx hy q fin
  cases hx <;> try exact q.elim
  cases hy <;> try exact q.elim
  exact ⟨_, _, rfl, rfl, q.1, q.2.1.1, q.2.1.2, fin _ H (.v _) (Same.refl H) (.str _) q.2.2⟩
theorem ee_mulS {X : Cx} {g : G} {W : WX} {a b : Expr} {wa wb : WE} {pos : Pos} (ha : EE X g W a wa) (hb : EE X g W b wb) : EE X g W (.BinOp a .Mult b pos) (wB oMulS wa wb) := by
  obtain ⟨ta, p1, s1⟩ := ha.ex
  obtain ⟨tb, p2, s2⟩ := hb.ex
  exact ⟨_, pe_op op_mulS p1 p2, sem_op lift_mulS s1 s2⟩
/-! texts as lists of signs -/
@[reducible] def T (l : List Nat) : Str := ⟨l.toArray⟩
theorem T_list {l : List Nat} : (T l).cps.toList = l := by simp [T]
theorem T_len {l : List Nat} : (T l).length = l.length := by simp [T, Str.length]
theorem T_app {a b : List Nat} : T a ++ T b = T (a ++ b) := by
  show Str.append _ _ = _
  simp [Str.append, T]
theorem T_inj {a b : List Nat} (h : T a = T b) : a = b := by
  have := congrArg (fun z => z.cps.toList) h
  simpa [T] using this
theorem T_rep {l : List Nat} {n : Nat} : repS (T l) n = T (List.replicate n l).flatten := by
  unfold repS
  rw [T_list]
theorem flat_rep {c n : Nat} : (List.replicate n [c]).flatten = List.replicate n c := by
  induction n with
  | zero => rfl
  | succ n ih => rw [List.replicate_succ, List.flatten_cons, ih]; rfl
theorem T_drop {l : List Nat} {k : Nat} (h : k ≤ l.length) : cutS (T l) (some (k : Int)) none = T (l.drop k) := by
  unfold cutS
  rw [T_list, T_len, HT.sIx_none, HT.sIx_nat, Nat.min_eq_left h]
  congr 2
  exact List.take_of_length_le (by rw [List.length_drop]; exact Nat.le_refl _)
theorem T_take {l : List Nat} {k : Nat} (h : k ≤ l.length) : cutS (T l) none (some (k : Int)) = T (l.take k) := by
  unfold cutS
  rw [T_list, T_len, HT.sIx_none, HT.sIx_nat, Nat.min_eq_left h, Nat.sub_zero, List.drop_zero]
end DL

set_option Elab.async false
set_option linter.all false
set_option maxRecDepth 100000
set_option maxHeartbeats 4000000
/-! DLOwn: a comprehension over an own list that stays own -/
namespace DL
open PySem PySem.Spec PyProof.Rows L2
section
variable {K : PySem.W.Frag} {g : G} {W : WX} {T : List Nat} {wg : WG} {wt : WT} {we : WE} {i0 : Nat}
end
section
variable {X : Cx} {g : G} {W : WX} {elt tg : Expr} {ifs : List Expr} {scope : Scope} {own : List (Str × Nat)} {pos p : Pos} {wg : WG} {wt : WT} {we : WE} {i : Nat} {x : Str}
end
end DL

set_option Elab.async false
set_option linter.all false
/-! loops over lists given as data, over ranges -/
namespace DL
open PySem PySem.Spec PyProof.Rows L2
theorem forK_xs {α : Type} {inj : α → D} {wg : WG} {body : WS} {DD : EndsD} {ρ : Rho} (xs : List α) (I : List α → Rho → Prop) (h : I [] ρ) (h0 : ∀ ρ, I xs ρ → DD.nx ρ)
    (h1 : ∀ (done : List α) (x : α) (rest : List α) (ρ : Rho) (next : Rho → Prop), xs = done ++ x :: rest → (∀ ρ', I (done ++ [x]) ρ' → next ρ') → I done ρ → wg (inj x) ρ fun ρ1 => body ⟨next, DD.rt, DD.nx, next, DD.ex⟩ ρ1) : forK wg body (xs.map inj) DD ρ := by
  refine forK_ind (fun ds ρ => ∃ done rest, xs = done ++ rest ∧ ds = rest.map inj ∧ I done ρ) ?_ ?_ _ _ ⟨[], xs, rfl, rfl, h⟩
  · rintro ρ ⟨done, rest, e, hd, hi⟩
    have e1 : rest = [] := by cases rest with
      | nil => rfl
      | cons _ _ => cases hd
    subst e1
    rw [List.append_nil] at e
    subst e
    exact h0 ρ hi
  · rintro d ds ρ next hn ⟨done, rest, e, hd, hi⟩
    cases rest with
    | nil => cases hd
    | cons x rest =>
      rw [List.map_cons] at hd
      obtain ⟨rfl, rfl⟩ := List.cons.inj hd
      exact h1 done x rest ρ next e (fun ρ' z => hn ρ' ⟨done ++ [x], rest, by rw [e, List.append_assoc]; rfl, rfl, z⟩) hi
theorem forK_rg {wg : WG} {body : WS} {DD : EndsD} {ρ : Rho} {lo : Int} (n : Nat) (I : Nat → Rho → Prop) (h : I 0 ρ) (h0 : ∀ ρ, I n ρ → DD.nx ρ)
    (h1 : ∀ (k : Nat) (ρ : Rho) (next : Rho → Prop), k < n → (∀ ρ', I (k + 1) ρ' → next ρ') → I k ρ → wg (.int (lo + (k : Nat))) ρ fun ρ1 => body ⟨next, DD.rt, DD.nx, next, DD.ex⟩ ρ1) : forK wg body (rangeD lo n) DD ρ := by
  refine forK_ind (fun ds ρ => ∃ k : Nat, k ≤ n ∧ ds = rangeD (lo + (k : Nat)) (n - k) ∧ I k ρ) ?_ ?_ _ _ ⟨0, Nat.zero_le n, by simp, h⟩
  · rintro ρ ⟨k, hk, hd, hi⟩
    have : k = n := by
      rcases Nat.lt_or_ge k n with z | z
      · rw [show n - k = (n - (k + 1)) + 1 by omega, rangeD_cons] at hd; cases hd
      · omega
    subst this
    exact h0 ρ hi
  · rintro d ds ρ next hn ⟨k, hk, hd, hi⟩
    have hkn : k < n := by
      rcases Nat.lt_or_ge k n with z | z
      · exact z
      · rw [show n - k = 0 by omega, rangeD_zero] at hd; cases hd
    rw [show n - k = (n - (k + 1)) + 1 by omega, rangeD_cons] at hd
    obtain ⟨rfl, rfl⟩ := List.cons.inj hd
    exact h1 k ρ next hkn (fun ρ' z => hn ρ' ⟨k + 1, hkn, by rw [show lo + (k : Int) + 1 = lo + ((k + 1 : Nat) : Int) by push_cast; omega], z⟩) hi
theorem forK_st {wg : WG} {body : WS} {DD : EndsD} {ρ : Rho} (ds : List D) (I : Rho → Prop) (h : I ρ) (h0 : ∀ ρ, I ρ → DD.nx ρ)
    (h1 : ∀ d ∈ ds, ∀ (ρ : Rho) (next : Rho → Prop), (∀ ρ', I ρ' → next ρ') → I ρ → wg d ρ fun ρ1 => body ⟨next, DD.rt, DD.nx, next, DD.ex⟩ ρ1) : forK wg body ds DD ρ :=
  forK_ind (fun es ρ => (∀ d ∈ es, d ∈ ds) ∧ I ρ) (fun ρ z => h0 ρ z.2) (fun d es ρ next hn z => h1 d (z.1 d (.head _)) ρ next (fun ρ' y => hn ρ' ⟨fun d' hd => z.1 d' (.tail _ hd), y⟩) z.2) ds ρ ⟨fun _ h => h, h⟩
theorem forK_r0 {wg : WG} {body : WS} {DD : EndsD} {ρ : Rho} (n : Nat) (I : Nat → Rho → Prop) (h : I 0 ρ) (h0 : ∀ ρ, I n ρ → DD.nx ρ)
    (h1 : ∀ (k : Nat) (ρ : Rho) (next : Rho → Prop), k < n → (∀ ρ', I (k + 1) ρ' → next ρ') → I k ρ → wg (.int (k : Nat)) ρ fun ρ1 => body ⟨next, DD.rt, DD.nx, next, DD.ex⟩ ρ1) : forK wg body (rangeD 0 n) DD ρ :=
  forK_rg n I h h0 fun k ρ next hk hn hi => by
    rw [Int.zero_add]
    exact h1 k ρ next hk hn hi
section
variable {X : Cx} {g : G} {W : WX} {tg iter : Expr} {body : List Stmt} {wi : WI} {wg : WG} {wb : WS} {T : List Nat} {pos : Pos}
end
end DL
namespace DL
open PySem PySem.Spec PyProof.Rows L2
end DL
namespace DL
open PySem PySem.Spec PyProof.Rows L2
theorem ifb_t {A B : Prop} {b : Bool} (h : b = true) (a : A) : if b = true then A else B := by rw [if_pos h]; exact a
theorem ifb_f {A B : Prop} {b : Bool} (h : b = false) (a : B) : if b = true then A else B := by rw [if_neg (by rw [h]; exact Bool.false_ne_true)]; exact a
end DL
namespace DL
open PySem PySem.Spec PyProof.Rows L2
end DL

set_option Elab.async false
set_option linter.all false
set_option maxRecDepth 100000
/-! range(i, j) of numbers of any size -/
namespace DL
open PySem PySem.Spec PyProof.Rows L2
section
variable {X : Cx} {tg : Expr}
end
section
variable {X : Cx} {g : G} {W : WX} {tg e : Expr} {we : WE} {pos : Pos}
end
end DL

set_option Elab.async false
set_option linter.all false
set_option maxRecDepth 100000
/-! sorted(list of texts) -/
namespace DL
open PySem PySem.Spec PyProof.Rows L2
theorem DpAll.strs {K : PySem.W.Frag} {B : Hp} : ∀ (ns : List Str), DpAll K B (ns.map V.str) (ns.map PyData.str)
  | [] => .nil
  | x :: xs => .cons (.str x) (DpAll.strs xs)
@[reducible] def oSortS : OL := fun ds k => match ds with
  | [.list es] => optK (strsOf es) fun ns => ns.length < 64 ∧ ∀ ns' : List Str, ns'.Perm ns → sortedS ns' = true → k (.own 0 (.lst (ns'.map PyData.str)))
  | _ => False
theorem lift_sortS {K : PySem.W.Frag} : LiftL K (rSortedS K) oSortS := by
  intro O H xs ds QD Q _ hx q fin
  unfold oSortS at q
  split at q
  · rename_i es
    cases hx with
    | cons h1 h2 =>
      cases h2
      cases h1 with
      | lst a1 a2 =>
        cases e : strsOf es with
        | none => rw [e] at q; exact q.elim
        | some ns =>
          rw [e] at q
          have e2 := strsOf_dp a2 e
          subst e2
          refine ⟨_, ns, rfl, Same.seq same_hide a1, q.1, fun ns' p pm pw n => fin _ _ (.own 0 (.lst _)) (same_new n) (new_lst n (DL.DpAll.strs ns')) (q.2 ns' pm pw)⟩
  · exact q.elim
section
variable {X : Cx} {g : G} {W : WX} {e : Expr} {es : List Expr} {wa : WA} {p pos : Pos}
theorem ee_sortS (hg : Gl X "sorted") (hm : X.mg "sorted" = none) (ha : EA X g W (e :: es) wa) (he : starEach (e :: es) X.env = (false, eval e X.env) :: starEach es X.env := by rfl) (hpl : (backTo pos (starEach es X.env)).any (·.1) = false := by rfl) : EE X g W (.Call (.Name "sorted" p) (e :: es) [] pos) (wL oSortS wa) :=
  ee_cb cr_sortedS lift_sortS hg hm (by decide +kernel) ha (he := he) (hpl := hpl)
end
end DL

set_option Elab.async false
set_option linter.all false
set_option maxRecDepth 100000
set_option maxHeartbeats 4000000
/-! DL: x.insert(i, e) of an own list in a slot -/
namespace DL
open PySem PySem.Spec PyProof.Rows L2
section
variable {X : Cx} {g : G} {W : WX} {a b : Expr} {wa : WA} {i : Nat} {x : Str} {p apos pos : Pos}
end
end DL

set_option Elab.async false
set_option linter.all false
set_option maxRecDepth 100000
set_option maxHeartbeats 4000000
/-! DL: the program's own exceptions are raised -/
namespace DL
open PySem PySem.Spec PyProof.Rows L2
section
variable {X : Cx} {x : Str} {p pos pos' : Pos}
end
end DL

set_option Elab.async false
set_option linter.all false
set_option maxRecDepth 100000
set_option maxHeartbeats 4000000
/-! DL: defs that are promised only where no repr is under way (there repr of nested data has a meaning) -/
namespace DL
open PySem PySem.Spec PyProof.Rows L2
section
variable {P : Program} {w : World} {K : PySem.W.Frag} {mg : Str → Option Value} {base : Heap} {x qual : Str} {params : Arguments} {body : List Stmt} {scope : Scope} {dvs : List V} {kws : List (Str × V)} {f : Addr} {fd : FuncData}
end
section
variable {X : Cx} {g : G} {k : Nat} {S : SpD} {x : Str} {p pos : Pos} {e : Expr} {es : List Expr} {wa : WA}
end
/-! ### the end of a law whose own def shows data -/
end DL

set_option Elab.async false
set_option linter.all false
set_option maxRecDepth 100000
set_option maxHeartbeats 4000000
/-! DL: repr of nested data -/
namespace DL
open PySem PySem.Spec PyProof.Rows L2
/-! ### == of texts, whatever their signs -/
section
variable {X : Cx} {g : G} {W : WX} {a b : Expr} {wa wb : WE} {pos : Pos}
end
/-! ### how long what is shown may be -/
theorem join_le {m : Nat} : ∀ {ts : List Str}, (∀ t ∈ ts, t.length ≤ m) → (Str.join ", " ts).length ≤ ts.length * (m + 2)
  | [], _ => Nat.zero_le _
  | [x], h => by
    have := h x (.head _)
    show x.length ≤ 1 * (m + 2)
    omega
  | x :: y :: r, h => by
    have ih := join_le (ts := y :: r) fun t ht => h t (.tail _ ht)
    have hx := h x (.head _)
    have e : (Str.join ", " (x :: y :: r)).length = x.length + 2 + (Str.join ", " (y :: r)).length := by
      show (x ++ ", " ++ Str.join ", " (y :: r)).length = _
      rw [strLen_append, strLen_append]
      rfl
    rw [e]
    have e2 : (x :: y :: r).length * (m + 2) = (y :: r).length * (m + 2) + (m + 2) := by rw [List.length_cons, Nat.succ_mul]
    omega
theorem tuple_le {m : Nat} {ts : List Str} (h : ∀ t ∈ ts, t.length ≤ m) : (tupleText ts).length ≤ ts.length * (m + 2) + 3 := by
  have := join_le h
  unfold tupleText
  rw [strLen_append, strLen_append]
  have e1 : (("(" : String) : Str).length = 1 := rfl
  have e2 : ((if (ts.length == 1) = true then ",)" else ")" : String) : Str).length ≤ 2 := by split <;> decide
  omega
theorem textFrom_le {m : Nat} : ∀ {ts : List Str} {k : Nat} {acc : Str}, (∀ t ∈ ts, t.length ≤ m) → (textFrom k acc ts).length ≤ acc.length + ts.length * (m + 2)
  | [], _, _, _ => Nat.le_add_right _ _
  | t :: ts, k, acc, h => by
    have ih := textFrom_le (ts := ts) (k := k + 1) (acc := acc ++ (if k > 0 then ", " else "" : String) ++ t) fun t ht => h t (.tail _ ht)
    have ht := h t (.head _)
    have e : (acc ++ (if k > 0 then ", " else "" : String) ++ t).length ≤ acc.length + 2 + t.length := by
      rw [strLen_append, strLen_append]
      have : ((if k > 0 then ", " else "" : String) : Str).length ≤ 2 := by split <;> decide
      omega
    show (textFrom (k + 1) (acc ++ (if k > 0 then ", " else "" : String) ++ t) ts).length ≤ _
    rw [List.length_cons, Nat.succ_mul]
    omega
theorem list_le {m : Nat} {ts : List Str} (h : ∀ t ∈ ts, t.length ≤ m) : (listText ts).length ≤ ts.length * (m + 2) + 2 := by
  unfold listText
  have := textFrom_le (k := 0) (acc := ("[" : String)) h
  rw [strLen_append]
  have e1 : (("[" : String) : Str).length = 1 := rfl
  have e2 : (("]" : String) : Str).length = 1 := rfl
  omega
theorem shownAll_eq : ∀ {ds : List D}, PyData.shownAll ds = ds.map PyData.shown
  | [] => by unfold PyData.shownAll; rfl
  | d :: ds => by unfold PyData.shownAll; rw [shownAll_eq]; rfl
theorem showableAll_eq : ∀ {ds : List D}, PyData.showableAll ds = ds.all PyData.showable
  | [] => by unfold PyData.showableAll; rfl
  | d :: ds => by unfold PyData.showableAll; rw [showableAll_eq]; rfl
theorem hasDictAll_eq : ∀ {ds : List D}, PyData.hasDictAll ds = ds.any PyData.hasDict
  | [] => by unfold PyData.hasDictAll; rfl
  | d :: ds => by unfold PyData.hasDictAll; rw [hasDictAll_eq]; rfl
theorem depthAll_le {n : Nat} : ∀ {ds : List D}, (∀ d ∈ ds, d.depth ≤ n) → PyData.depthAll ds ≤ n
  | [], _ => Nat.zero_le _
  | d :: ds, h => Nat.max_le.mpr ⟨h d (.head _), depthAll_le fun e he => h e (.tail _ he)⟩
theorem depth_tuple {n : Nat} {ds : List D} (h : ∀ d ∈ ds, d.depth ≤ n) : (PyData.tuple ds).depth ≤ n + 1 := Nat.succ_le_succ (depthAll_le h)
theorem depth_list {n : Nat} {ds : List D} (h : ∀ d ∈ ds, d.depth ≤ n) : (PyData.list ds).depth ≤ n + 1 := Nat.succ_le_succ (depthAll_le h)
structure Shn (n m : Nat) (d : D) : Prop where
  ok : d.showable = true
  nd : d.hasDict = false
  dp : d.depth ≤ n
  sz : d.shown.length ≤ m
theorem Shn.up {n m n' m' : Nat} {d : D} (h : Shn n m d) (hn : n ≤ n') (hm : m ≤ m') : Shn n' m' d := ⟨h.ok, h.nd, Nat.le_trans h.dp hn, Nat.le_trans h.sz hm⟩
theorem Shn.none {n m : Nat} (h : 4 ≤ m) : Shn n m .none := ⟨rfl, rfl, Nat.zero_le _, by unfold PyData.shown; exact h⟩
theorem Shn.int {n k : Nat} {i : Int} (hk : 0 < k) (h : i.natAbs < 10 ^ k) (h9 : k ≤ 500) : Shn n (k + 1) (.int i) := ⟨by
    unfold PyData.showable
    refine decide_eq_true ?_
    have : i.natAbs < 2 ^ 1920 := Nat.lt_of_lt_of_le h (Nat.le_trans (Nat.pow_le_pow_right (by decide) h9) (by decide +kernel))
    exact PySem.Flt.log2_lt_of (by decide) this, rfl, Nat.zero_le _, by unfold PyData.shown; rw [PySem.ofString_length]; exact int_text_length_le10 hk h⟩
theorem Shn.str {n : Nat} {x : Str} (h : ∀ c ∈ x.cps.toList, c < 16 ^ 8) : Shn n (10 * x.length + 2) (.str x) := ⟨rfl, rfl, Nat.zero_le _, by unfold PyData.shown; exact StrLaws.reprText_len x h⟩
theorem Shn.tuple {n m : Nat} {ds : List D} (h : ∀ d ∈ ds, Shn n m d) : Shn (n + 1) (ds.length * (m + 2) + 3) (.tuple ds) := by
  refine ⟨?_, ?_, ?_, ?_⟩
  · unfold PyData.showable; rw [showableAll_eq]; exact List.all_eq_true.mpr fun d hd => (h d hd).ok
  · unfold PyData.hasDict; rw [hasDictAll_eq]; exact List.any_eq_false.mpr fun d hd => by rw [(h d hd).nd]; exact Bool.false_ne_true
  · exact depth_tuple fun d hd => (h d hd).dp
  · unfold PyData.shown
    rw [shownAll_eq]
    have := tuple_le (m := m) (ts := ds.map PyData.shown) fun t ht => by
      obtain ⟨d, hd, rfl⟩ := List.mem_map.mp ht
      exact (h d hd).sz
    rwa [List.length_map] at this
theorem Shn.list {n m : Nat} {ds : List D} (h : ∀ d ∈ ds, Shn n m d) : Shn (n + 1) (ds.length * (m + 2) + 2) (.list ds) := by
  refine ⟨?_, ?_, ?_, ?_⟩
  · unfold PyData.showable; rw [showableAll_eq]; exact List.all_eq_true.mpr fun d hd => (h d hd).ok
  · unfold PyData.hasDict; rw [hasDictAll_eq]; exact List.any_eq_false.mpr fun d hd => by rw [(h d hd).nd]; exact Bool.false_ne_true
  · exact depth_list fun d hd => (h d hd).dp
  · unfold PyData.shown
    rw [shownAll_eq]
    have := list_le (m := m) (ts := ds.map PyData.shown) fun t ht => by
      obtain ⟨d, hd, rfl⟩ := List.mem_map.mp ht
      exact (h d hd).sz
    rwa [List.length_map] at this
end DL

set_option Elab.async false
set_option linter.all false
set_option maxRecDepth 100000
set_option maxHeartbeats 4000000
/-! DL: sorted of tuples that begin with unlike tuples of whole numbers -/
namespace DL
open PySem PySem.Spec PyProof.Rows L2
def FstAt (h : Heap) (v : Value) (ns : List Int) : Prop :=
  ∃ (t f : Addr) (xs its : Array Value), v = .ref t ∧ h.IsTuple t xs ∧ xs[0]? = some (.ref f) ∧ h.IsTuple f its ∧ IntsAre its.toList ns
theorem isTuple_keeps {h h' : Heap} {t : Addr} {xs : Array Value} (x : h.IsTuple t xs) (k : ∀ b o, h.get? b = some o → o.cls = .type "tuple" → h'.get? b = some o) : h'.IsTuple t xs := by
  obtain ⟨o, e, c, n, d⟩ := x
  exact ⟨o, k _ _ e c, c, n, d⟩
theorem FstAt.keeps {h h' : Heap} {v : Value} {ns : List Int} (x : FstAt h v ns) (k : ∀ b o, h.get? b = some o → o.cls = .type "tuple" → h'.get? b = some o) : FstAt h' v ns := by
  obtain ⟨t, f, xs, its, e, h1, h2, h3, h4⟩ := x
  exact ⟨t, f, xs, its, e, isTuple_keeps h1 k, h2, isTuple_keeps h3 k, h4⟩
section
variable {prog : Program} {w : World} {A : Around} {s : Shared}
theorem idx_zip {xs ys : Array Value} {f g : Value} (h1 : xs[0]? = some f) (h2 : ys[0]? = some g) : ∃ r, xs.toList.zip ys.toList = (f, g) :: r := by
  cases e1 : xs.toList with
  | nil =>
    have : xs = #[] := by cases xs; cases e1; rfl
    subst this
    cases h1
  | cons a l =>
    cases e2 : ys.toList with
    | nil =>
      have : ys = #[] := by cases ys; cases e2; rfl
      subst this
      cases h2
    | cons b m =>
      have ea : a = f := by
        have : xs.toList[0]? = some f := by rw [Array.getElem?_toList]; exact h1
        rw [e1] at this
        exact Option.some.inj this
      have eb : b = g := by
        have : ys.toList[0]? = some g := by rw [Array.getElem?_toList]; exact h2
        rw [e2] at this
        exact Option.some.inj this
      rw [ea, eb]
      exact ⟨_, rfl⟩
end
theorem lexLt_tri : ∀ {xs ys : List Int}, xs ≠ ys → HT.lexLt ys xs = false → HT.lexLt xs ys = true
  | [], [], h, _ => absurd rfl h
  | [], _ :: _, _, _ => rfl
  | _ :: _, [], _, h => by cases h
  | x :: xs, y :: ys, h, h' => by
    rw [HT.lexLt_cons] at h' ⊢
    split at h'
    · rename_i e
      subst e
      rw [if_pos rfl]
      exact lexLt_tri (fun z => h (by rw [z])) h'
    · rename_i e
      have := of_decide_eq_false h'
      rw [if_neg fun z => e z.symm]
      exact decide_eq_true (by omega)
theorem perm_lift {α β : Type} {f : α → β} {ys ms : List β} (p : ys.Perm ms) : ∀ zs : List α, zs.map f = ms → ∃ zs' : List α, zs'.Perm zs ∧ zs'.map f = ys := by
  induction p with
  | nil => exact fun zs e => ⟨zs, List.Perm.refl _, e⟩
  | cons x _ ih =>
    intro zs e
    cases zs with
    | nil => cases e
    | cons z zs =>
      obtain ⟨e1, e2⟩ := List.cons.inj e
      obtain ⟨zs', q1, q2⟩ := ih zs e2
      exact ⟨z :: zs', q1.cons z, by rw [List.map_cons, e1, q2]⟩
  | swap x y l =>
    intro zs e
    match zs, e with
    | z1 :: z2 :: zs, e =>
      obtain ⟨e1, e2⟩ := List.cons.inj e
      obtain ⟨e2, e3⟩ := List.cons.inj e2
      exact ⟨z2 :: z1 :: zs, List.Perm.swap _ _ _, by rw [List.map_cons, List.map_cons, e1, e2, e3]⟩
  | trans _ _ ih1 ih2 =>
    intro zs e
    obtain ⟨z1, p1, e1⟩ := ih2 zs e
    obtain ⟨z2, p2, e2⟩ := ih1 z1 e1
    exact ⟨z2, p2.trans p1, e2⟩
theorem nodup_inj {α β : Type} {f : α → β} : ∀ {l : List α}, (l.map f).Nodup → ∀ x ∈ l, ∀ y ∈ l, f x = f y → x = y
  | z :: l, h, x, hx, y, hy, e => by
    obtain ⟨h1, h2⟩ := List.nodup_cons.mp h
    rcases List.mem_cons.mp hx with a | a <;> rcases List.mem_cons.mp hy with b | b
    · rw [a, b]
    · subst a; exact absurd (List.mem_map.mpr ⟨y, b, e.symm⟩) h1
    · subst b; exact absurd (List.mem_map.mpr ⟨x, a, e⟩) h1
    · exact nodup_inj h2 x a y b e
/-! ### over data -/
theorem dp_pairs {K : PySem.W.Frag} {B : Hp} : ∀ {xs : List V} {ds : List D}, DpAll K B xs ds → ∃ ws : List (V × D), ws.map (·.1) = xs ∧ ws.map (·.2) = ds ∧ ∀ w ∈ ws, Dp K B w.1 w.2
  | _, [], h => by cases h; exact ⟨[], rfl, rfl, fun w h => nomatch h⟩
  | _, d :: ds, h => by
    cases h with
    | @cons v vs _ _ h1 h2 =>
      obtain ⟨ws, a, b, c⟩ := dp_pairs h2
      refine ⟨(v, d) :: ws, by rw [List.map_cons, a], by rw [List.map_cons, b], fun w hw => ?_⟩
      rcases List.mem_cons.mp hw with e | hw
      · rw [e]; exact h1
      · exact c w hw
theorem dp_of_pairs {K : PySem.W.Frag} {B : Hp} : ∀ {ws : List (V × D)}, (∀ w ∈ ws, Dp K B w.1 w.2) → DpAll K B (ws.map (·.1)) (ws.map (·.2))
  | [], _ => .nil
  | w :: ws, h => .cons (h w (.head _)) (dp_of_pairs fun u hu => h u (.tail _ hu))
section
variable {X : Cx} {g : G} {W : WX} {e : Expr} {es : List Expr} {wa : WA} {p pos : Pos}
end
end DL

set_option Elab.async false
set_option linter.all false
set_option maxRecDepth 100000
set_option maxHeartbeats 4000000
/-! DLDict: own dicts of slots: {}, d.get(k, x), d[k], k in d, d[k] = v, sorted(d). -/
namespace DL
open PySem PySem.Spec PyProof.Rows L2
@[reducible] def keyD : D → Option Key
  | .int i => some (.inl i)
  | .str s => some (.inr s)
  | _ => none
def dGet (kvs : List (Key × D)) (k : Key) : Option D := (kvs.find? fun kv => decide (kv.1 = k)).map (·.2)
def dPut (kvs : List (Key × D)) (k : Key) (d : D) : List (Key × D) :=
  if (kvs.any fun kv => decide (kv.1 = k)) = true then kvs.map (fun kv => if kv.1 = k then (kv.1, d) else kv) else kvs ++ [(k, d)]
section
variable {K : PySem.W.Frag} {B : Hp}
theorem dget_pos {p : Key × D} {r : List (Key × D)} {k : Key} (e : p.1 = k) : dGet (p :: r) k = some p.2 := by simp [dGet, List.find?_cons, e]
theorem dget_neg {p : Key × D} {r : List (Key × D)} {k : Key} (e : ¬ p.1 = k) : dGet (p :: r) k = dGet r k := by simp [dGet, List.find?_cons, e]
theorem dget_any (k : Key) : ∀ kvs : List (Key × D), (kvs.any fun kv => decide (kv.1 = k)) = (dGet kvs k).isSome
  | [] => rfl
  | p :: r => by
    rw [List.any_cons]
    by_cases e : p.1 = k
    · simp only [dget_pos e, decide_eq_true e, Bool.true_or, Option.isSome_some]
    · rw [dget_neg e, decide_eq_false e, Bool.false_or]; exact dget_any k r
theorem dget_map (k j : Key) (y : D) : ∀ kvs : List (Key × D), dGet (kvs.map fun kv => if kv.1 = k then (kv.1, y) else kv) j = (dGet kvs j).map fun x => if j = k then y else x
  | [] => rfl
  | p :: r => by
    have ih := dget_map k j y r
    rw [List.map_cons]
    by_cases h : p.1 = k
    · rw [if_pos h]
      by_cases e : p.1 = j
      · rw [dget_pos (p := (p.1, y)) e, dget_pos e, Option.map_some, if_pos (e.symm.trans h)]
      · rw [dget_neg (p := (p.1, y)) e, dget_neg e, ih]
    · rw [if_neg h]
      by_cases e : p.1 = j
      · rw [dget_pos (p := p) e, dget_pos e, Option.map_some, if_neg (fun z => h (e.trans z))]
      · rw [dget_neg (p := p) e, dget_neg e, ih]
theorem dget_snoc (k j : Key) (y : D) : ∀ kvs : List (Key × D), dGet kvs k = none → dGet (kvs ++ [(k, y)]) j = if j = k then some y else dGet kvs j
  | [], _ => by
    by_cases e : k = j
    · rw [if_pos e.symm]; exact dget_pos (p := (k, y)) e
    · rw [if_neg (fun z => e z.symm)]; exact dget_neg (p := (k, y)) e
  | p :: r, hn => by
    rw [List.cons_append]
    have hk : ¬ p.1 = k := fun z => by rw [dget_pos z] at hn; cases hn
    rw [dget_neg hk] at hn
    have ih := dget_snoc k j y r hn
    by_cases e : p.1 = j
    · rw [dget_pos e, dget_pos e, if_neg (fun z => hk (e.trans z))]
    · rw [dget_neg e, dget_neg e, ih]
theorem dget_put (kvs : List (Key × D)) (k j : Key) (y : D) : dGet (dPut kvs k y) j = if j = k then some y else dGet kvs j := by
  unfold dPut
  by_cases a : (kvs.any fun kv => decide (kv.1 = k)) = true
  · rw [if_pos a, dget_map]
    rw [dget_any] at a
    by_cases e : j = k
    · obtain ⟨x, hx⟩ := Option.isSome_iff_exists.mp a
      rw [if_pos e, e, hx, Option.map_some, if_pos rfl]
    · rw [if_neg e]
      cases dGet kvs j with
      | none => rfl
      | some x => rw [Option.map_some, if_neg e]
  · rw [if_neg a]
    refine dget_snoc k j y kvs ?_
    rw [dget_any] at a
    cases q : dGet kvs k with
    | none => rfl
    | some x => rw [q] at a; exact (a rfl).elim
theorem dput_len (kvs : List (Key × D)) (k : Key) (v : D) : (dPut kvs k v).length ≤ kvs.length + 1 := by
  unfold dPut
  split
  · rw [List.length_map]; omega
  · rw [List.length_append, List.length_cons, List.length_nil]; omega
theorem dput_keys {kvs : List (Key × D)} {k : Key} {v : D} : (dPut kvs k v).map (·.1) = if (dGet kvs k).isSome = true then kvs.map (·.1) else kvs.map (·.1) ++ [k] := by
  unfold dPut
  rw [dget_any]
  split
  · rw [List.map_map]
    refine List.map_congr_left fun p _ => ?_
    show (if p.1 = k then (p.1, v) else p).1 = p.1
    split <;> rfl
  · rw [List.map_append]; rfl
theorem dget_mem {k : Key} : ∀ {kvs : List (Key × D)}, (dGet kvs k).isSome = true ↔ k ∈ kvs.map (·.1)
  | [] => ⟨(fun h => nomatch h), (fun h => nomatch h)⟩
  | p :: r => by
    rw [List.map_cons, List.mem_cons]
    by_cases e : p.1 = k
    · rw [dget_pos e]
      exact ⟨fun _ => .inl e.symm, fun _ => rfl⟩
    · rw [dget_neg e, dget_mem (kvs := r)]
      exact ⟨.inr, fun h => h.elim (fun z => absurd z.symm e) id⟩
theorem dput_nodup {kvs : List (Key × D)} {k : Key} {v : D} (h : (kvs.map (·.1)).Nodup) : ((dPut kvs k v).map (·.1)).Nodup := by
  rw [dput_keys]
  split
  · exact h
  · rename_i z
    rw [dget_mem] at z
    refine List.nodup_append.mpr ⟨h, by simp, fun a ha b hb => ?_⟩
    rw [List.mem_singleton.mp hb]
    intro e
    exact z (e ▸ ha)
/-! what the heap holds -/
theorem dkv_len : ∀ {ks : List (Key × V)} {kvs : List (Key × D)}, DpKV K B ks kvs → ks.length = kvs.length
  | [], [], _ => rfl
  | _ :: _, _ :: _, h => by rw [List.length_cons, List.length_cons, dkv_len h.2.2]
  | [], _ :: _, h => h.elim
  | _ :: _, [], h => h.elim
theorem dkv_keys : ∀ {ks : List (Key × V)} {kvs : List (Key × D)}, DpKV K B ks kvs → ks.map (·.1) = kvs.map (·.1)
  | [], [], _ => rfl
  | _ :: _, _ :: _, h => by rw [List.map_cons, List.map_cons, dkv_keys h.2.2, h.1]
  | [], _ :: _, h => h.elim
  | _ :: _, [], h => h.elim
theorem dkv_get (k : Key) : ∀ {ks : List (Key × V)} {kvs : List (Key × D)}, DpKV K B ks kvs → (valV ks k = none ∧ dGet kvs k = none) ∨ ∃ x d, valV ks k = some x ∧ dGet kvs k = some d ∧ Dp K B x d
  | [], [], _ => .inl ⟨rfl, rfl⟩
  | p :: ps, q :: qs, h => by
    obtain ⟨h1, h2, h3⟩ := h
    by_cases e : p.1 = k
    · exact .inr ⟨p.2, q.2, valV_pos e, dget_pos (h1.symm.trans e), h2⟩
    · rw [valV_neg e, dget_neg fun z => e (h1.trans z)]
      exact dkv_get k h3
  | [], _ :: _, h => h.elim
  | _ :: _, [], h => h.elim
theorem dkv_some {k : Key} {ks : List (Key × V)} {kvs : List (Key × D)} {d : D} (h : DpKV K B ks kvs) (e : dGet kvs k = some d) : ∃ x, valV ks k = some x ∧ Dp K B x d := by
  rcases dkv_get k h with ⟨_, z⟩ | ⟨x, d', a, b, c⟩
  · rw [z] at e; cases e
  · rw [b] at e; cases e; exact ⟨x, a, c⟩
theorem dkv_is {k : Key} {ks : List (Key × V)} {kvs : List (Key × D)} (h : DpKV K B ks kvs) : (valV ks k).isSome = (dGet kvs k).isSome := by
  rcases dkv_get k h with ⟨a, b⟩ | ⟨x, d', a, b, c⟩
  · rw [a, b]; rfl
  · rw [a, b]; rfl
theorem dkv_map {k : Key} {x : V} {d : D} (hx : Dp K B x d) : ∀ {ks : List (Key × V)} {kvs : List (Key × D)}, DpKV K B ks kvs → DpKV K B (ks.map fun kv => if kv.1 = k then (kv.1, x) else kv) (kvs.map fun kv => if kv.1 = k then (kv.1, d) else kv)
  | [], [], h => h
  | p :: ps, q :: qs, h => by
    obtain ⟨h1, h2, h3⟩ := h
    rw [List.map_cons, List.map_cons]
    refine ⟨?_, ?_, dkv_map hx h3⟩
    · rw [h1]; split <;> first | exact h1 | rfl
    · rw [h1]; split <;> first | exact hx | exact h2
  | [], _ :: _, h => h.elim
  | _ :: _, [], h => h.elim
theorem dkv_snoc {k : Key} {x : V} {d : D} (hx : Dp K B x d) : ∀ {ks : List (Key × V)} {kvs : List (Key × D)}, DpKV K B ks kvs → DpKV K B (ks ++ [(k, x)]) (kvs ++ [(k, d)])
  | [], [], _ => ⟨rfl, hx, trivial⟩
  | p :: ps, q :: qs, h => ⟨h.1, h.2.1, dkv_snoc hx h.2.2⟩
  | [], _ :: _, h => h.elim
  | _ :: _, [], h => h.elim
theorem dkv_put {k : Key} {x : V} {d : D} {ks : List (Key × V)} {kvs : List (Key × D)} (hx : Dp K B x d) (h : DpKV K B ks kvs) : DpKV K B (putK ks k x) (dPut kvs k d) := by
  unfold putK dPut
  rw [valV_any, dget_any, dkv_is h]
  split
  · exact dkv_map hx h
  · exact dkv_snoc hx h
theorem key_dp {x : V} {d : D} {k : Key} (h : Dp K B x d) (e : keyD d = some k) : x = kV k := by
  cases h <;> cases e <;> rfl
end
section
variable {K : PySem.W.Frag} {g : G} {σ : L2.St} {vs : List V} {H H' : Hp} {ρ : Rho} {cs : List C} {i t : Nat}
theorem own_dict {kvs : List (Key × D)} (h : SR K g σ vs H ρ cs) (e : rget ρ i = .own t (.dct kvs)) : ∃ a ks, σ[i]? = some (some (.ref a)) ∧ H a = some (.dK ks) ∧ DpKV K (hide H (tot σ vs ρ cs ++ g.P0)) ks kvs := by
  obtain ⟨a, e1, _, ⟨ks, q1, q2⟩, _⟩ := h.own e
  exact ⟨a, ks, e1, q1, q2⟩
theorem dp_up {x y : V} {c : C} {d : D} (h : Dp K (hide H (tot σ (x :: vs) ρ (c :: cs) ++ g.P0)) y d) : Dp K (hide H (tot σ vs ρ cs ++ g.P0)) y d := by
  refine dp_mono (fun a o q => ?_) _ _ h
  obtain ⟨h1, h2⟩ := hide_some.mp q
  refine hide_some.mpr ⟨fun z => h1 ?_, h2⟩
  rw [tot_cons]
  rcases List.mem_append.mp z with z | z
  · exact List.mem_append_left _ (List.mem_append_right _ z)
  · exact List.mem_append_right _ z
theorem dkv_up {x : V} {c : C} {ks : List (Key × V)} {kvs : List (Key × D)} (h : DpKV K (hide H (tot σ (x :: vs) ρ (c :: cs) ++ g.P0)) ks kvs) : DpKV K (hide H (tot σ vs ρ cs ++ g.P0)) ks kvs := by
  refine DpKV.mono (fun a o q => ?_) h
  obtain ⟨h1, h2⟩ := hide_some.mp q
  refine hide_some.mpr ⟨fun z => h1 ?_, h2⟩
  rw [tot_cons]
  rcases List.mem_append.mp z with z | z
  · exact List.mem_append_left _ (List.mem_append_right _ z)
  · exact List.mem_append_right _ z
end
@[reducible] def wDNew : WE := fun ρ Q _ => Q (.own 0 (.dct [])) ρ
@[reducible] def wDGet (i : Nat) (wk wd : WE) : WE := fun ρ Q E => match rget ρ i with
  | .own _ (.dct _) => wk ρ (fun c1 ρ1 => wd ρ1 (fun c2 ρ2 => match c1, c2, rget ρ2 i with
    | .v k, .v d, .own _ (.dct kvs) => optK (keyD k) fun kk => Q (.v ((dGet kvs kk).getD d)) ρ2
    | _, _, _ => False) E) E
  | _ => False
@[reducible] def wDIx (i : Nat) (wk : WE) : WE := fun ρ Q E => match rget ρ i with
  | .own _ (.dct _) => wk ρ (fun c1 ρ1 => match c1, rget ρ1 i with
    | .v k, .own _ (.dct kvs) => optK (keyD k) fun kk => optK (dGet kvs kk) fun d => Q (.v d) ρ1
    | _, _ => False) E
  | _ => False
@[reducible] def wDNi (i : Nat) (wk : WE) : WE := fun ρ Q E => wk ρ (fun c1 ρ1 => match c1, rget ρ1 i with
    | .v k, .own _ (.dct kvs) => optK (keyD k) fun kk => Q (.v (.bool (!(dGet kvs kk).isSome))) ρ1
    | _, _ => False) E
@[reducible] def wDPut (i : Nat) (we wk : WE) : WS := fun DD ρ => we ρ (fun c ρ1 => match rget ρ1 i with
  | .own _ (.dct _) => wk ρ1 (fun c2 ρ2 => match frzC c, c2, rget ρ2 i with
    | .v d, .v k, .own t (.dct kvs) => optK (keyD k) fun kk => kvs.length < sizeLine ∧ DD.nx (rset ρ2 i (.own t (.dct (dPut kvs kk d))))
    | _, _, _ => False) DD.ex
  | _ => False) DD.ex
theorem dp_strs {K : PySem.W.Frag} {B : Hp} : ∀ (ys : List Str), DpAll K B (ys.map V.str) (ys.map PyData.str)
  | [] => .nil
  | y :: ys => .cons (.str y) (dp_strs ys)
section
variable {X : Cx} {g : G} {W : WX} {e k d : Expr} {we wk wd : WE} {i : Nat} {x : Str} {p apos pos p2 : Pos}
theorem ee_dnew : EE X g W (.Dict [] [] pos) wDNew := ⟨_, pe_dnewK, fun σ vs H ρ cs QD ED Q hS hw hX hQ => fun a n =>
  hQ _ _ _ ρ (SR.res (c := .own 0 (.dct [])) hS (same_new n) ⟨rfl, a, rfl, n, [], upd_same, trivial⟩) hw⟩
theorem ee_dget (hu : X.A.units + 65 < cLine) (hx : PE X (.Name x p) (tVar i)) (hk : EE X g W k wk) (hd : EE X g W d wd) (m : M2 X (.Name x p) "get" apos k d pos := by exact ⟨rfl, rfl, rfl, rfl⟩) :
    EE X g W (.Call (.Attribute (.Name x p) "get" apos) [k, d] [] pos) (wDGet i wk wd) := by
  obtain ⟨t1, p1, s1⟩ := hk.ex
  obtain ⟨t2, p2, s2⟩ := hd.ex
  refine ⟨_, pe_dget2 (by omega) hx p1 p2 m, fun σ vs H ρ cs QD ED Q hS hw hX hQ => ?_⟩
  unfold wDGet at hw
  split at hw
  · rename_i t0 kvs0 e0
    obtain ⟨a, ks, e1, e2, _⟩ := own_dict hS e0
    refine ⟨.ref a, e1, a, rfl, .inl ⟨ks, .inl e2⟩, ?_⟩
    refine s1 σ vs H ρ cs _ ED _ hS hw hX fun y H1 c1 ρ1 S1 q1 => ?_
    refine s2 σ (y :: vs) H1 ρ1 (c1 :: cs) _ ED _ S1 q1 hX fun z H2 c2 ρ2 S2 q2 => ?_
    split at q2
    · rename_i kd dd t' kvs eo
      obtain ⟨a', ks', e3, e4, e5⟩ := own_dict S2 eo
      rw [e1] at e3
      cases e3
      cases ek : keyD kd with
      | none => rw [ek] at q2; exact q2.elim
      | some kk =>
        rw [ek] at q2
        have q2 : QD (.v ((dGet kvs kk).getD dd)) ρ2 := q2
        have dz := S2.top
        have dy := S2.pop.top
        obtain rfl := key_dp dy ek
        refine ⟨_, DGet.k e4, ?_⟩
        refine hQ _ _ (.v ((dGet kvs kk).getD dd)) ρ2 (SR.resV S2.pop.pop (Same.refl _) ?_) q2
        rcases dkv_get kk e5 with ⟨h1, h2⟩ | ⟨u, d', h1, h2, h3⟩
        · rw [h1, h2]; exact dp_up dz
        · rw [h1, h2]; exact dp_up (dp_up h3)
    · exact q2.elim
  · exact hw.elim
theorem ee_dix (hu : X.A.units + 65 < cLine) (hx : PE X (.Name x p) (tVar i)) (hk : EE X g W k wk) (hs : NoSl k := by exact fun _ _ => rfl) : EE X g W (.Subscript (.Name x p) k pos) (wDIx i wk) := by
  obtain ⟨t1, p1, s1⟩ := hk.ex
  refine ⟨_, L2.pe_dget (by omega) hx p1 hs, fun σ vs H ρ cs QD ED Q hS hw hX hQ => ?_⟩
  unfold wDIx at hw
  split at hw
  · rename_i t0 kvs0 e0
    obtain ⟨a, ks, e1, e2, _⟩ := own_dict hS e0
    refine ⟨.ref a, e1, ?_⟩
    refine s1 σ vs H ρ cs _ ED _ hS hw hX fun y H1 c1 ρ1 S1 q1 => ?_
    split at q1
    · rename_i kd t' kvs eo
      obtain ⟨a', ks', e3, e4, e5⟩ := own_dict S1 eo
      rw [e1] at e3
      cases e3
      cases ek : keyD kd with
      | none => rw [ek] at q1; exact q1.elim
      | some kk =>
        rw [ek] at q1
        cases eg : dGet kvs kk with
        | none =>
          have q1 : optK (dGet kvs kk) _ := q1
          rw [eg] at q1
          exact q1.elim
        | some dd =>
          have q1 : optK (dGet kvs kk) fun d => QD (.v d) ρ1 := q1
          rw [eg] at q1
          have q1 : QD (.v dd) ρ1 := q1
          obtain rfl := key_dp S1.top ek
          obtain ⟨u, h1, h2⟩ := dkv_some e5 eg
          refine ⟨a, u, rfl, ?_, hQ _ _ (.v dd) ρ1 (SR.resV S1.pop (Same.refl _) (dp_up h2)) q1⟩
          rw [← h1]
          exact DGet.k e4
    · exact q1.elim
  · exact hw.elim
theorem es_dput (hu : X.A.units + 65 < cLine) (hL : g.L i = true) (hx : PE X (.Name x p) (tVar i)) (h : EE X g W e we) (hk : EE X g W k wk) (hs : swapsWith e (some (.Subscript (.Name x p) k p2)) pos.line X.env = pure false := by rfl) :
    ES X g W (.Assign [.Subscript (.Name x p) k p2] e pos) (wDPut i we wk) := by
  obtain ⟨t, q, s⟩ := h.ex
  obtain ⟨t2, q2, s2⟩ := hk.ex
  refine ⟨_, ps_dput (by omega) hx q2 q hs, fun σ vs H ρ cs DD D hS hp hw hE => ?_⟩
  refine s σ vs H ρ cs _ _ _ hS hw (hE.ex σ) fun y H1 c ρ1 S1 z1 => ?_
  split at z1
  · rename_i t0 ds0 e0
    obtain ⟨a, ks, e1, _, _⟩ := own_dict S1 e0
    refine ⟨.ref a, e1, ?_⟩
    refine s2 σ (y :: vs) H1 ρ1 (c :: cs) _ _ _ S1 z1 (hE.ex σ) fun z H2 c2 ρ2 S2 z2 => ?_
    split at z2
    · rename_i dd kd t' kvs ec eo
      have e5 := S2.top
      have S3 : SR X.K g σ (y :: vs) H2 ρ2 (.v dd :: cs) := by
        have := S2.pop.frzTop
        rw [ec] at this
        exact this
      obtain ⟨a', ks', e3, e4, e6⟩ := own_dict S3.pop eo
      rw [e1] at e3
      cases e3
      cases ek : keyD kd with
      | none => rw [ek] at z2; exact z2.elim
      | some kk =>
        rw [ek] at z2
        have z2 : kvs.length < sizeLine ∧ DD.nx (rset ρ2 i (.own t' (.dct (dPut kvs kk dd)))) := z2
        obtain rfl := key_dp e5 ek
        refine ⟨a, _, rfl, DPut.k e4 (by rw [dkv_len e6]; exact z2.1), ?_⟩
        have S4 := S3.pop.mutSlot (H' := upd H2 a (.dK (putK ks' kk y))) eo e1 hL (fun b u n z => by rw [upd_ne n]; exact z) (o' := .dct (dPut kvs kk dd)) ⟨_, upd_same, dkv_put S3.top e6⟩
        exact hE.nx σ _ _ S4 z2.2
    · exact z2.elim
  · exact z1.elim
end
end DL

set_option Elab.async false
set_option linter.all false
set_option maxRecDepth 100000
set_option maxHeartbeats 4000000
/-! DLSrtS: sorted of tuples that begin with unlike texts; sorted(d.items()) -/
namespace DL
open PySem PySem.Spec PyProof.Rows L2
/-! ### the order of texts -/
def cpI (x : Str) : List Int := x.cps.toList.map Int.ofNat
def sLt (x y : Str) : Bool := HT.lexLt (cpI x) (cpI y)
theorem lex_nat : ∀ (xs ys : List Nat), ltCps xs ys = HT.lexLt (xs.map Int.ofNat) (ys.map Int.ofNat)
  | [], [] => rfl
  | [], _ :: _ => rfl
  | _ :: _, [] => rfl
  | x :: xs, y :: ys => by
    rw [List.map_cons, List.map_cons, HT.lexLt_cons, ← lex_nat xs ys]
    show (decide (x < y) || (x == y && ltCps xs ys)) = _
    by_cases e : x = y
    · subst e
      rw [if_pos rfl]
      simp
    · rw [if_neg fun z => e (Int.ofNat.inj z)]
      have e1 : (x == y) = false := by simpa using e
      rw [e1]
      simp
theorem sLt_eq (x y : Str) : decide (x.cps.toList < y.cps.toList) = sLt x y := by
  rw [← ltCps_eq, lex_nat]; rfl
theorem cpI_inj {x y : Str} (h : cpI x = cpI y) : x = y := by
  have e : x.cps.toList = y.cps.toList := (List.map_inj_right fun _ _ z => Int.ofNat.inj z).mp h
  cases x; cases y
  congr
  exact Array.toList_inj.mp e
theorem swo_s {α : Type} (k : α → Str) : SrtO.Swo (fun v u : α => sLt (k v) (k u)) := NtL.swo_lexL fun v => cpI (k v)
theorem sLt_tri {x y : Str} (h : x ≠ y) (h' : sLt y x = false) : sLt x y = true := lexLt_tri (fun z => h (cpI_inj z)) h'
theorem sLt_irr (x : Str) : sLt x x = false := SrtO.Swo.refl (swo_s (α := Str) id) x
/-! ### the sort -/
def FsS (h : Heap) (v : Value) (x : Str) : Prop := ∃ (t : Addr) (xs : Array Value) (k : Tok), v = .ref t ∧ h.IsTuple t xs ∧ xs[0]? = some (.str x k)
theorem FsS.keeps {h h' : Heap} {v : Value} {x : Str} (q : FsS h v x) (k : ∀ b o, h.get? b = some o → o.cls = .type "tuple" → h'.get? b = some o) : FsS h' v x := by
  obtain ⟨t, xs, u, e, h1, h2⟩ := q
  exact ⟨t, xs, u, e, isTuple_keeps h1 k, h2⟩
section
variable {prog : Program} {w : World} {A : Around} {s : Shared}
theorem fsS_cmp {vs : List Value} {k : Value → Str} (hv : ∀ v ∈ vs, FsS s.heap v (k v)) (un : ∀ v ∈ vs, ∀ u ∈ vs, v ≠ u → k v ≠ k u) :
    SrtO.Cmp prog w A s (tuples' true) (fun p => p.1 ∈ vs) (SrtO.lt2 fun v u => sLt (k v) (k u)) := by
  intro p q hm hm'
  show wpAny (model prog w) A (keyLt' (tuples' true) p.1 q.1) (fun r s' => s' = s ∧ r = sLt (k p.1) (k q.1)) (fun _ _ => False) s
  by_cases e : p.1 = q.1
  · rw [e]
    obtain ⟨t, xs, u, e1, ⟨o, g1, g2, n, g3⟩, h2⟩ := hv _ hm'
    rw [e1]
    have self : ∀ (l : List Value) (i : Nat), PySem.W.KatLex prog w A true (decide (xs.size < xs.size)) (fun r s' => s' = s ∧ r = sLt (k q.1) (k q.1)) (l.zip l) i s := by
      intro l
      induction l with
      | nil => exact fun _ => PySem.W.kat_nil ⟨rfl, by rw [sLt_irr]; exact decide_eq_false (Nat.lt_irrefl _)⟩
      | cons v l ih => exact fun i => PySem.W.kat_cons (SeqAt.EqAt.same v prog w _ _ (PySem.W.kat_go (fun _ => PySem.W.kat_yes (ih (i + 1))) fun z => nomatch z))
    have sl := PySem.W.kat_lt (E := fun _ _ => False) g1 g3 g1 g3 (self xs.toList 0)
    rw [e1] at sl
    exact sl
  · have ne := un _ hm _ hm' e
    obtain ⟨t, xs, u, e1, ⟨o, g1, g2, n, g3⟩, h2⟩ := hv _ hm
    obtain ⟨t', xs', u', e1', ⟨o', g1', g2', n', g3'⟩, h2'⟩ := hv _ hm'
    generalize k p.1 = x at *
    generalize k q.1 = y at *
    rw [e1, e1']
    obtain ⟨r, er⟩ := idx_zip h2 h2'
    refine PySem.W.kat_lt g1 g3 g1' g3' ?_
    rw [er]
    refine PySem.W.kat_cons (SeqAt.EqAt.str_str x u y u' prog w _ _ ?_)
    have nb : (x == y) = false := by simpa using ne
    rw [nb]
    exact PySem.W.kat_no (oneLt_str ⟨rfl, sLt_eq x y⟩)
theorem fsS_tups {h : Heap} {k : Value → Str} : ∀ {vs : List Value}, (∀ v ∈ vs, FsS h v (k v)) → ∃ fs, PySem.W.KatTups h vs fs ∧ fs.length = vs.length ∧ ∀ f ∈ fs, ∃ x u, f = Value.str x u
  | [], _ => ⟨[], trivial, rfl, fun f hf => nomatch hf⟩
  | v :: vs, hv => by
    obtain ⟨fs, a1, a2, a3⟩ := fsS_tups (vs := vs) fun u hu => hv u (.tail _ hu)
    obtain ⟨t, xs, u, e1, ⟨o, g1, g2, n, g3⟩, h2⟩ := hv v (.head _)
    refine ⟨.str (k v) u :: fs, ?_, by rw [List.length_cons, List.length_cons, a2], fun q hq => ?_⟩
    · rw [e1] at h2 ⊢; exact ⟨⟨t, o, xs, n, rfl, g1, g2, g3, h2⟩, a1⟩
    · rcases List.mem_cons.mp hq with e | hq
      · exact ⟨_, _, e⟩
      · exact a3 q hq
theorem fsS_sortable {a : Addr} {vs : List Value} {k : Value → Str} (h2 : 2 ≤ vs.length) (hv : ∀ v ∈ vs, FsS s.heap v (k v)) (un : ∀ v ∈ vs, ∀ u ∈ vs, v ≠ u → k v ≠ k u) (ha : ∀ o, s.heap.get? a = some o → o.cls ≠ .type "tuple") :
    SrtO.SortableO prog w A s a vs fun v u => sLt (k v) (k u) := by
  intro h' keep
  have kt : ∀ b o, s.heap.get? b = some o → o.cls = .type "tuple" → h'.get? b = some o := fun b o e c => keep b o (fun z => ha o (z ▸ e) c) e
  have hv' : ∀ v ∈ vs, FsS h' v (k v) := fun v hm => (hv v hm).keeps kt
  obtain ⟨fs, t1, t2, t3⟩ := fsS_tups hv'
  refine ⟨tuples' true, fun Q E hq => ?_, fsS_cmp (s := { s with heap := h' }) hv' un⟩
  refine PySem.W.kat_kind (s := { s with heap := h' }) (T := .type "str") t1 (by omega) (fun v hm => ?_) (by rfl) ?_
  · obtain ⟨x, u, rfl⟩ := t3 v hm
    exact PySem.W.Looks.now
  · have e : (Value.type "str" != Value.type "tuple") = true := by first | decide +kernel | rfl | decide
    rw [e]
    exact hq
end
def rSortK (K : PySem.W.Frag) : List V → Hp → VK → Prop := fun vs H Q => ∃ (a : Addr) (zs : List (V × Str)), vs = [V.ref a] ∧ SqL K H a (zs.map (·.1)) ∧ (∀ z ∈ zs, ∃ t ys, z.1 = V.ref t ∧ SqT K H t (.str z.2 :: ys)) ∧
  (zs.map (·.2)).Nodup ∧ ∀ (zs' : List (V × Str)) (p : Addr), zs'.Perm zs → zs'.Pairwise (fun x y => sLt x.2 y.2 = true) → H p = none → Q (.ref p) (upd H p (.lst (zs'.map (·.1))))
open Classical in
theorem cr_sortK {X : Cx} : CallR X (.builtin "sorted") (rSortK X.K) := by
  intro pins s σ H vs us Q I r h
  obtain ⟨a, zs, rfl, hs, hx, nd, q⟩ := h
  obtain ⟨its, rv, hl, hz⟩ := I.list hs
  obtain ⟨u, rfl, ru⟩ := vals1 r
  obtain rfl : u = Value.ref a := ru
  obtain ⟨e1, e2⟩ := refs_back rv fun x m => by
    obtain ⟨z, hzm, rfl⟩ := List.mem_map.mp m
    obtain ⟨t, ys, e, _⟩ := hx z hzm
    exact ⟨t, e⟩
  let k : V → Str := fun x => if h : ∃ z ∈ zs, z.1 = x then h.choose.2 else ⟨#[]⟩
  have hk : ∀ z ∈ zs, k z.1 = z.2 := fun z hzm => by
    have ex : ∃ y ∈ zs, y.1 = z.1 := ⟨z, hzm, rfl⟩
    show (if h : ∃ y ∈ zs, y.1 = z.1 then h.choose.2 else ⟨#[]⟩) = z.2
    rw [dif_pos ex]
    obtain ⟨m, e⟩ := ex.choose_spec
    generalize ex.choose = y at m e ⊢
    obtain ⟨t, ys, a1, a2⟩ := hx z hzm
    obtain ⟨t', ys', b1, b2⟩ := hx y m
    rw [a1, b1] at e
    cases e
    have e3 := I.tuple_inj a2 b2
    exact (V.str.inj (List.cons.inj e3).1).symm
  have mem : ∀ v ∈ its, ∃ z ∈ zs, backV v = z.1 := fun v hv => by
    have : backV v ∈ zs.map (·.1) := by rw [e1]; exact List.mem_map.mpr ⟨_, hv, rfl⟩
    obtain ⟨z, m, e⟩ := List.mem_map.mp this
    exact ⟨z, m, e.symm⟩
  have fst : ∀ v ∈ its, FsS s.heap v (k (backV v)) := fun v hv => by
    obtain ⟨z, m, ez⟩ := mem v hv
    rw [ez, hk z m]
    obtain ⟨t, rfl⟩ := e2 v hv
    obtain ⟨t', ys, e, h1⟩ := hx _ m
    rw [← ez] at e
    cases e
    obtain ⟨i1, r1, p1, _⟩ := I.tuple h1
    cases r1 with
    | @cons x u xs us ra rb =>
      obtain ⟨tk, rfl⟩ := ra
      exact ⟨t, _, tk, rfl, p1, rfl⟩
  have un' : ∀ v ∈ its, ∀ u ∈ its, v ≠ u → k (backV v) ≠ k (backV u) := fun v hv u hu' ne e => by
    obtain ⟨z, m, ez⟩ := mem v hv
    obtain ⟨y, m', ey⟩ := mem u hu'
    obtain ⟨t, rfl⟩ := e2 v hv
    obtain ⟨t', rfl⟩ := e2 u hu'
    rw [ez, ey, hk z m, hk y m'] at e
    have := nodup_inj nd z m y m' e
    subst this
    rw [← ez] at ey
    cases ey
    exact ne rfl
  refine SrtO.sorted_ord (swo_s fun v => k (backV v)) hl.isList (by rw [← rv.length]; exact hz) (fun h2 h₁ a' ha kk => ?_) fun out hs' hb => ?_
  · refine fsS_sortable (s := { s with heap := h₁ }) h2 (fun v hm => (fst v hm).keeps fun b o e _ => (kk b o e).2) un' fun o e => ?_
    have e' : some o = some (seqObj "list" its.toArray 0) := e.symm.trans ha
    cases e'
    intro c
    exact absurd (Value.type.inj c) (by decide)
  · have h3 : ∀ u ∈ out, ∃ a, u = Value.ref a := fun u hu => e2 u (hb.perm.mem_iff.mp hu)
    have pm : (out.map backV).Perm (zs.map (·.1)) := by rw [e1]; exact hb.perm.map backV
    obtain ⟨zs', p1, p2⟩ := perm_lift pm zs rfl
    have pw : (zs'.map (·.1)).Pairwise fun x y => sLt (k y) (k x) = false := by
      rw [p2]
      exact List.pairwise_map.mpr hs'
    have pw2 : zs'.Pairwise fun x y => sLt x.2 y.2 = true := by
      have nd' : (zs'.map (·.2)).Nodup := (p1.map (·.2)).nodup_iff.mpr nd
      have c := List.pairwise_map.mp pw
      have d := List.pairwise_map.mp nd'
      have inz : ∀ z ∈ zs', z ∈ zs := fun z m => p1.mem_iff.mp m
      refine List.Pairwise.imp_of_mem (fun {x y} hx' hy' h => ?_) (c.and d)
      have h1 := h.1
      rw [hk x (inz x hx'), hk y (inz y hy')] at h1
      exact sLt_tri h.2 h1
    obtain ⟨n, hn⟩ := PyProof.Rows.sortedAll_at s.heap its out.toArray
    have e9 : zs'.map (·.1) = out.map backV := p2
    refine ⟨.ref (s.heap.objs.size + 1), upd H (s.heap.objs.size + 1) (.lst (zs'.map (·.1))), I.laid (t' := s.toks) (fun b o e => PyProof.Rows.sortedAll_old e) (Nat.le_succ _) ⟨?_, out, n, by rw [e9]; exact vals_back h3, hn⟩, rfl, q _ _ p1 pw2 (I.hok.fresh (Nat.le_succ _))⟩
    have : (zs'.map (·.1)).length = (zs.map (·.1)).length := by rw [List.length_map, List.length_map, p1.length_eq]
    rw [this]
    exact hz
/-! ### over data -/
def fstS : D → Str
  | .tuple (.str x :: _) => x
  | _ => ⟨#[]⟩
def FsOk : D → Prop
  | .tuple (.str _ :: _) => True
  | _ => False
@[reducible] def oSortK : OL := fun ds k => match ds with
  | [.list es] => (∀ e ∈ es, FsOk e) ∧ (es.map fstS).Nodup ∧ ∀ es' : List D, es'.Perm es → es'.Pairwise (fun x y => sLt (fstS x) (fstS y) = true) → k (.own 0 (.lst es'))
  | _ => False
theorem fsS_at {K : PySem.W.Frag} {B : Hp} {v : V} {d : D} (h : Dp K B v d) (f : FsOk d) : ∃ t ys, v = V.ref t ∧ SqT K B t (.str (fstS d) :: ys) := by
  cases h with
  | tup a1 a2 =>
    cases a2 with
    | nil => exact f.elim
    | cons b1 b2 =>
      cases b1 with
      | str x => exact ⟨_, _, rfl, a1⟩
      | _ => exact f.elim
  | _ => exact f.elim
theorem lift_sortK {K : PySem.W.Frag} : LiftL K (rSortK K) oSortK := by
  intro O H xs ds QD Q _ hx q fin
  unfold oSortK at q
  split at q
  · rename_i es
    cases hx with
    | cons h1 h2 =>
      cases h2
      cases h1 with
      | lst a1 a2 =>
        obtain ⟨f, nd, q⟩ := q
        obtain ⟨ws, w1, w2, w3⟩ := dp_pairs a2
        subst w1
        subst w2
        refine ⟨_, ws.map fun w => (w.1, fstS w.2), rfl, ?_, fun z hz => ?_, ?_, fun zs' p pm pw n => ?_⟩
        · rw [List.map_map]; exact Same.seq same_hide a1
        · obtain ⟨w, hw, rfl⟩ := List.mem_map.mp hz
          obtain ⟨t, ys, e, b1⟩ := fsS_at (w3 w hw) (f w.2 (List.mem_map.mpr ⟨w, hw, rfl⟩))
          exact ⟨t, ys, e, seqT_same same_hide b1⟩
        · rw [List.map_map] at nd ⊢
          exact nd
        · obtain ⟨ws', p1, p2⟩ := perm_lift pm ws rfl
          have dp : DpAll K (hide H O) (ws'.map (·.1)) (ws'.map (·.2)) := dp_of_pairs fun w hw => w3 w (p1.mem_iff.mp hw)
          have e1 : zs'.map (·.1) = ws'.map (·.1) := by rw [← p2, List.map_map]; rfl
          rw [e1]
          refine fin _ _ (.own 0 (.lst (ws'.map (·.2)))) (same_new n) (new_lst n dp) (q _ (p1.map _) ?_)
          rw [← p2] at pw
          exact List.pairwise_map.mpr (List.pairwise_map.mp pw)
  · exact q.elim
section
variable {X : Cx} {g : G} {W : WX} {e : Expr} {es : List Expr} {wa : WA} {p pos : Pos}
theorem ee_sortK (hg : Gl X "sorted") (hm : X.mg "sorted" = none) (ha : EA X g W (e :: es) wa) (he : starEach (e :: es) X.env = (false, eval e X.env) :: starEach es X.env := by rfl) (hpl : (backTo pos (starEach es X.env)).any (·.1) = false := by rfl) :
    EE X g W (.Call (.Name "sorted" p) (e :: es) [] pos) (wL oSortK wa) := ee_cb cr_sortK lift_sortK hg hm (by decide +kernel) ha (he := he) (hpl := hpl)
end
end DL

set_option Elab.async false
set_option linter.all false
set_option maxRecDepth 100000
set_option maxHeartbeats 4000000
/-! DLItems: sorted(d.items()) of a dict with texts for keys -/
namespace DL
open PySem PySem.Spec PyProof.Rows L2
def rItemsK : V → List V → Hp → VK → Prop := fun x xs H Q => ∃ (a : Addr) (kvs : List (Key × V)), x = .ref a ∧ xs = [] ∧ H a = some (.dK kvs) ∧ ∀ p, H p = none → Q (.ref p) (upd H p (L2.DX.itemsO p a))
def entS (e : Str × V) : Key × V := (Sum.inr e.1, e.2)
def rSortIK : List V → Hp → VK → Prop := fun vs H Q => ∃ (p a : Addr) (kvs : List (Str × V)), vs = [.ref p] ∧ H p = some (L2.DX.itemsO p a) ∧ H a = some (.dK (kvs.map entS)) ∧
  ∀ (H' : Hp) (l : Addr) (ps : List (Addr × Str × V)), (kvs.map (·.1)).Nodup → (∀ b o, H b = some o → H' b = some o) → (ps.map (·.2)).Perm kvs → ps.Pairwise (fun e f => sLt e.2.1 f.2.1 = true) → H l = none → H' l = some (.lst (ps.map fun z => V.ref z.1)) →
    (∀ z ∈ ps, z.1 ≠ l ∧ H z.1 = none ∧ H' z.1 = some (.tup [.str z.2.1, z.2.2])) → Q (.ref l) H'
section
variable {X : Cx}
theorem mt_itemsK : MtR X "dict.items" rItemsK := by
  intro pins s σ H x xs v us Q I rx rxs h
  obtain ⟨a, kvs, rfl, rfl, ha, q⟩ := h
  cases rx
  cases rxs
  obtain ⟨z, hd, vs, rel, dd⟩ := dk_of I.hok ha
  obtain ⟨ep, o, es, ho, hx, hdat, _⟩ := dd.dictAt
  refine DT.callItems (es := es) (ep := ep) hd ⟨o, ho, hx, hdat⟩ ?_
  have hf : H s.heap.objs.size = none := I.hok.fresh (Nat.le_refl _)
  exact ⟨.ref s.heap.objs.size, upd H s.heap.objs.size (L2.DX.itemsO s.heap.objs.size a), I.laid (t' := s.toks) (fun b u e => Heap.get?_push_of_some _ e) (Nat.le_refl _) (L2.DX.itemsO_ok (Heap.get?_push_size _ rfl)), rfl, q _ hf⟩
theorem kv_at {kvs : List (Key × V)} {vs : List (Key × Value)} (r : KV kvs vs) : ∀ {j : Nat} {p : Key × V}, kvs[j]? = some p → ∃ v, vs[j]? = some (p.1, v) ∧ RelV p.2 v := by
  unfold KV at r
  induction r with
  | nil => intro j p e; simp at e
  | @cons p q ps qs h t ih =>
    intro j p' e
    cases j with
    | zero =>
      have e' : p = p' := by simpa using e
      subst e'
      exact ⟨q.2, by rw [h.1]; rfl, h.2⟩
    | succ j =>
      obtain ⟨v, h1, h2⟩ := ih (j := j) (p := p') (by simpa using e)
      exact ⟨v, by simpa using h1, h2⟩
open Classical in
theorem cr_sortIK (hc : X.calm = true) : CallR X (.builtin "sorted") rSortIK := by
  intro pins s σ H xs us Q I r h
  obtain ⟨p, a, kvs, rfl, hp, ha, q⟩ := h
  obtain rfl := Vals.ref1 r
  have view : s.heap.IsItemsView p a := (show ObjOk X.prog X.w H s.heap p (L2.DX.itemsO p a) from I.hok p _ hp).1
  obtain ⟨z, hd, vs, rel, dd⟩ := dk_of I.hok ha
  obtain ⟨ep, o, es, ho, hx, hdat, _, hpp, nd0⟩ := dd.dictAt
  have hr : DT.Raw s.heap a es ep := ⟨o, ho, hx, hdat⟩
  have hes : es.size = vs.length := by rw [← hpp.length, Array.length_toList]
  have l1 : kvs.length = vs.length := by rw [← rel.length, List.length_map]
  have nd : (kvs.map (·.1)).Nodup := by
    rw [← rel.keys, List.map_map] at nd0
    have e : (kvs.map (·.1)).map (Sum.inr (α := Int)) = kvs.map ((fun x : Key × V => x.1) ∘ entS) := by rw [List.map_map]; rfl
    rw [← e] at nd0
    exact List.Pairwise.imp (fun h z => h (by rw [z])) (List.pairwise_map.mp nd0)
  have hh : X.A.handled = none := I.ok.hd hc
  have zk : kvs.length ≤ sizeLine := by rwa [List.length_map] at z
  refine DT.sortedI (es := es) (ep := ep) hh view hr (by rw [hes, ← l1]; exact zk) fun h' tk as hk hlt hl hG => ?_
  have lak : as.length = kvs.length := by rw [hl, hes, l1]
  have ndA : as.Nodup := List.Pairwise.imp (fun h => Nat.ne_of_lt h) hG.rise
  -- the pairs that were made
  have pr : ∀ (j : Nat) (b : Addr), as[j]? = some b → ∃ (e : Str × V) (tk : Tok) (v : Value), kvs[j]? = some e ∧ RelV e.2 v ∧ h'.get? b = some { cls := .type "tuple", data := .seq #[Value.str e.1 tk, v] } := by
    intro j b hj
    obtain ⟨en, he, hg⟩ := hG.pairs j b hj
    have hjl : j < as.length := (List.getElem?_eq_some_iff.mp hj).1
    have hjk : j < kvs.length := by omega
    obtain ⟨v, h1, h2⟩ := kv_at rel (j := j) (p := entS kvs[j]) (by rw [List.getElem?_map, List.getElem?_eq_getElem hjk]; rfl)
    have hje : j < es.size := by rw [hes, ← l1]; exact hjk
    obtain ⟨g1, g2⟩ := hpp.get? (e := es[j]) (by rw [Array.getElem?_toList]; exact Array.getElem?_eq_getElem hje) h1
    rw [Array.getElem?_eq_getElem hje] at he
    have een := Option.some.inj he
    obtain ⟨tk, etk⟩ := Value.isStrOf_shape (x := kvs[j].1) (v := es[j].key) g1
    refine ⟨kvs[j], tk, v, List.getElem?_eq_getElem hjk, h2, ?_⟩
    rw [hg, ← een, etk, g2]
  have hob : (h'.push { cls := .type "list", data := .seq (as.map Value.ref).toArray }).get? h'.objs.size = some (seqObj "list" (as.map Value.ref).toArray 0) := Heap.get?_push_size _ rfl
  have kb : ∀ b o, s.heap.get? b = some o → (h'.push { cls := .type "list", data := .seq (as.map Value.ref).toArray }).get? b = some o := fun b o e => Heap.get?_push_of_some _ (hk b o e)
  have ne0 : ∀ b o, h'.get? b = some o → b ≠ h'.objs.size := fun b o e => Nat.ne_of_lt (Heap.lt_size e)
  generalize hh2 : h'.push { cls := .type "list", data := .seq (as.map Value.ref).toArray } = h2 at hob kb ⊢
  have ka : ∀ b o, h'.get? b = some o → h2.get? b = some o := fun b o e => by rw [← hh2]; exact Heap.get?_push_of_some _ e
  -- the text that each begins with
  let kx : Value → Str := fun v => if h : ∃ (j : Nat) (b : Addr) (e : Str × V), v = Value.ref b ∧ as[j]? = some b ∧ kvs[j]? = some e then h.choose_spec.choose_spec.choose.1 else ⟨#[]⟩
  have hkx : ∀ (j : Nat) (b : Addr) (e : Str × V), as[j]? = some b → kvs[j]? = some e → kx (.ref b) = e.1 := fun j b e h1 h2 => by
    have ex : ∃ (j' : Nat) (b' : Addr) (e' : Str × V), Value.ref b = Value.ref b' ∧ as[j']? = some b' ∧ kvs[j']? = some e' := ⟨j, b, e, rfl, h1, h2⟩
    show (if h : ∃ (j' : Nat) (b' : Addr) (e' : Str × V), Value.ref b = Value.ref b' ∧ as[j']? = some b' ∧ kvs[j']? = some e' then h.choose_spec.choose_spec.choose.1 else ⟨#[]⟩) = e.1
    rw [dif_pos ex]
    obtain ⟨q1, q2, q3⟩ := ex.choose_spec.choose_spec.choose_spec
    generalize ex.choose_spec.choose_spec.choose = e' at *
    generalize ex.choose_spec.choose = b' at *
    generalize ex.choose = j' at *
    cases q1
    have eij : j' = j := (List.getElem?_inj (List.getElem?_eq_some_iff.mp q2).1 ndA).mp (q2.trans h1.symm)
    subst eij
    rw [Option.some.inj (q3.symm.trans h2)]
  have at_ : ∀ v ∈ as.map Value.ref, ∃ (j : Nat) (b : Addr) (e : Str × V), v = .ref b ∧ as[j]? = some b ∧ kvs[j]? = some e := by
    intro v hv'
    obtain ⟨b, hb, rfl⟩ := List.mem_map.mp hv'
    obtain ⟨j, hj⟩ := List.mem_iff_getElem?.mp hb
    obtain ⟨e, _, _, he, _⟩ := pr j b hj
    exact ⟨j, b, e, rfl, hj, he⟩
  have fs : ∀ v ∈ as.map Value.ref, FsS h2 v (kx v) := fun v hv => by
    obtain ⟨j, b, e, rfl, hj, he⟩ := at_ v hv
    obtain ⟨e', tk', v', he', _, hg⟩ := pr j b hj
    have ee : e' = e := Option.some.inj (he'.symm.trans he)
    subst ee
    rw [hkx j b e' hj he]
    exact ⟨b, _, tk', rfl, ⟨_, ka _ _ hg, rfl, 0, rfl⟩, rfl⟩
  have un : ∀ v ∈ as.map Value.ref, ∀ u ∈ as.map Value.ref, v ≠ u → kx v ≠ kx u := fun v hv u hu ne e => by
    obtain ⟨j, b, e1, rfl, hj, he⟩ := at_ v hv
    obtain ⟨j', b', e2, rfl, hj', he'⟩ := at_ u hu
    rw [hkx j b e1 hj he, hkx j' b' e2 hj' he'] at e
    have ej : j = j' := by
      have m1 : (kvs.map (·.1))[j]? = some e1.1 := by rw [List.getElem?_map, he]; rfl
      have m2 : (kvs.map (·.1))[j']? = some e2.1 := by rw [List.getElem?_map, he']; rfl
      exact (List.getElem?_inj (List.getElem?_eq_some_iff.mp m1).1 nd).mp (m1.trans (by rw [m2, e]))
    subst ej
    rw [hj] at hj'
    cases hj'
    exact ne rfl
  have hzl : (as.map Value.ref).length ≤ sizeLine := by rw [List.length_map, lak]; exact zk
  refine wpAny_call_entry PyProof.Rows.slot_list_sort ⟨_, hob, rfl⟩ PyProof.Rows.entry_list_sort
    (SrtO.list_sort_ord (s := { s with heap := h2, toks := tk }) (swo_s kx) hob hzl (fun h2' => fsS_sortable (s := { s with heap := h2, toks := tk }) h2' fs un fun o e => ?_) fun out hs' hb => ⟨.none, rfl, ?_⟩) (PyProof.Rows.args_list_sort _)
  · have e' : some o = some (seqObj "list" (as.map Value.ref).toArray 0) := e.symm.trans hob
    cases e'
    intro c
    exact absurd (Value.type.inj c) (by decide)
  · show EP X pins σ Q (.ref h'.objs.size) { s with heap := sortedHeap h2 h'.objs.size (as.map Value.ref) out.toArray, toks := tk }
    have m1 : (as.zip kvs).map (fun z : Addr × Str × V => Value.ref z.1) = as.map Value.ref := by
      rw [show (fun z : Addr × Str × V => Value.ref z.1) = Value.ref ∘ Prod.fst from rfl, ← List.map_map, List.map_fst_zip (by omega)]
    have m2 : (as.zip kvs).map (·.2) = kvs := List.map_snd_zip (by rw [lak]; exact Nat.le_refl _)
    obtain ⟨zs, pz, ez⟩ := perm_lift hb.perm (as.zip kvs) m1
    have idx : ∀ z ∈ zs, ∃ j : Nat, as[j]? = some z.1 ∧ kvs[j]? = some z.2 := by
      intro z' hz'
      obtain ⟨j, hj⟩ := List.mem_iff_getElem?.mp (pz.mem_iff.mp hz')
      exact ⟨j, List.getElem?_zip_eq_some.mp hj⟩
    have hperm : (zs.map (·.2)).Perm kvs := by
      have e := pz.map (·.2)
      rwa [m2] at e
    have hsort : zs.Pairwise (fun e f => sLt e.2.1 f.2.1 = true) := by
      have c : (zs.map fun z : Addr × Str × V => Value.ref z.1).Pairwise fun x y => sLt (kx y) (kx x) = false := by rw [ez]; exact hs'
      have c2 := List.pairwise_map.mp c
      have d : ((zs.map (·.2)).map (·.1)).Nodup := (hperm.map (·.1)).nodup_iff.mpr nd
      rw [List.map_map] at d
      have d2 := List.pairwise_map.mp d
      refine List.Pairwise.imp_of_mem (fun {x y} hx hy h => ?_) (c2.and d2)
      obtain ⟨j, j1, j2⟩ := idx x hx
      obtain ⟨i, i1, i2⟩ := idx y hy
      obtain ⟨h1, h3⟩ := h
      rw [hkx j _ _ j1 j2, hkx i _ _ i1 i2] at h1
      exact sLt_tri h3 h1
    -- behind the sort
    have kF : ∀ b o, b ≠ h'.objs.size → h2.get? b = some o → (sortedHeap h2 h'.objs.size (as.map Value.ref) out.toArray).get? b = some o := fun b o hb e => (PyProof.Rows.sortedHeap_old hb (Heap.lt_size e)).trans e
    have kS : ∀ b o, s.heap.get? b = some o → (sortedHeap h2 h'.objs.size (as.map Value.ref) out.toArray).get? b = some o := fun b o e => kF b o (ne0 _ _ (hk b o e)) (kb b o e)
    obtain ⟨eF, heF⟩ := PyProof.Rows.sortedHeap_at (vs := as.map Value.ref) (out := out.toArray) hob
    have I1 : Inv X pins σ H { s with heap := sortedHeap h2 h'.objs.size (as.map Value.ref) out.toArray, toks := tk } := I.kept (t' := tk) kS
    have hn0 : H h'.objs.size = none := I.hok.fresh (Nat.le_of_lt hlt)
    have hlen : (zs.map fun z => V.ref z.1).length ≤ sizeLine := by
      have e := hperm.length_eq
      rw [List.length_map] at e
      rw [List.length_map, e]
      exact zk
    have rv : Vals (zs.map fun z => V.ref z.1) out := by
      rw [← ez]
      exact vals_maps (fun z : Addr × Str × V => V.ref z.1) (fun z => Value.ref z.1) zs fun _ _ => rfl
    have I2 : Inv X pins σ (upd H h'.objs.size (.lst (zs.map fun z => V.ref z.1))) { s with heap := sortedHeap h2 h'.objs.size (as.map Value.ref) out.toArray, toks := tk } :=
      I1.take (h' := sortedHeap h2 h'.objs.size (as.map Value.ref) out.toArray) (t' := tk) (fun b ob _ e => e) (I.fpOk (Nat.le_of_lt hlt) hn0) ⟨hlen, out, eF, rv, heF⟩
    have fr : ∀ b ∈ as, s.heap.objs.size ≤ b ∧ b ≠ h'.objs.size := fun b hb => by
      obtain ⟨j, hj⟩ := List.mem_iff_getElem?.mp hb
      obtain ⟨_, _, _, _, _, hg⟩ := pr j b hj
      exact ⟨Nat.le_of_lt (hG.above b hb), ne0 _ _ hg⟩
    obtain ⟨H2, I3, g, qt⟩ := L2.DX.takeT (P := fun b vs => ∃ (j : Nat) (e : Str × V), as[j]? = some b ∧ kvs[j]? = some e ∧ vs = [.str e.1, e.2]) I as _ I2 ndA fun b hb => by
      obtain ⟨j, hj⟩ := List.mem_iff_getElem?.mp hb
      obtain ⟨e, tk', v, he, hv, hg⟩ := pr j b hj
      obtain ⟨f1, f2⟩ := fr b hb
      refine ⟨f1, ?_, [.str e.1, e.2], ⟨j, e, hj, he, rfl⟩, fun H3 => ⟨(by rw [sizeLine_eq]; show 2 ≤ 16777216; omega), [Value.str e.1 tk', v], .cons ⟨tk', rfl⟩ (.cons hv .nil), ⟨_, kF _ _ (ne0 _ _ hg) (ka _ _ hg), rfl, 0, rfl⟩⟩⟩
      rw [upd_ne f2]
      exact I.hok.fresh f1
    have gr : ∀ b o, H b = some o → H2 b = some o := fun b o e => g b o (by rw [upd_ne (ne_of_none e hn0)]; exact e)
    refine ⟨.ref h'.objs.size, H2, I3, rfl, q H2 h'.objs.size zs nd gr hperm hsort hn0 (g _ _ upd_same) fun z' hz' => ?_⟩
    obtain ⟨i, i1, i2⟩ := idx z' hz'
    have hm := List.mem_of_getElem? i1
    obtain ⟨vs, ⟨j, e, j1, j2, ev⟩, hH⟩ := qt z'.1 hm
    have eij : i = j := (List.getElem?_inj (List.getElem?_eq_some_iff.mp i1).1 ndA).mp (i1.trans j1.symm)
    subst eij
    have ee : e = z'.2 := Option.some.inj (j2.symm.trans i2)
    rw [ev, ee] at hH
    obtain ⟨f1, f2⟩ := fr _ hm
    exact ⟨f2, I.hok.fresh f1, hH⟩
end
/-! ### over data -/
def strKV : List (Key × D) → Option (List (Str × D))
  | [] => some []
  | (.inr s, d) :: r => (strKV r).map ((s, d) :: ·)
  | _ => none
theorem strKV_map : ∀ {kvs : List (Key × D)} {ks : List (Str × D)}, strKV kvs = some ks → kvs = ks.map fun e => (Sum.inr e.1, e.2)
  | [], _, e => by cases e; rfl
  | (.inr s, d) :: r, ks, e => by
    have e : (strKV r).map ((s, d) :: ·) = some ks := e
    obtain ⟨l, h1, h2⟩ := Option.map_eq_some_iff.mp e
    subst h2
    rw [List.map_cons, ← strKV_map h1]
  | (.inl _, _) :: _, _, e => by cases e
@[reducible] def itmD (e : Str × D) : D := .tuple [.str e.1, e.2]
theorem dkv_str {K : PySem.W.Frag} {B : Hp} : ∀ {ks : List (Key × V)} {es : List (Str × D)}, DpKV K B ks (es.map fun e => (Sum.inr e.1, e.2)) → ∃ ws : List (Str × V × D), ks = ws.map (fun w => (Sum.inr w.1, w.2.1)) ∧ es = ws.map (fun w => (w.1, w.2.2)) ∧ ∀ w ∈ ws, Dp K B w.2.1 w.2.2
  | [], [], _ => ⟨[], rfl, rfl, fun w h => nomatch h⟩
  | k :: ks, e :: es, h => by
    obtain ⟨h1, h2, h3⟩ := h
    obtain ⟨ws, a, b, c⟩ := dkv_str h3
    obtain ⟨k1, k2⟩ := k
    have h1 : k1 = Sum.inr e.1 := h1
    refine ⟨(e.1, k2, e.2) :: ws, by rw [h1, a]; rfl, by rw [b]; rfl, fun w hw => ?_⟩
    rcases List.mem_cons.mp hw with z | hw
    · rw [z]; exact h2
    · exact c w hw
  | [], _ :: _, h => h.elim
  | _ :: _, [], h => h.elim
theorem dp_items {K : PySem.W.Frag} {B : Hp} : ∀ {ps : List (Addr × Str × V)} {ws : List (Str × V × D)}, ps.map (·.2) = ws.map (fun w => (w.1, w.2.1)) → (∀ z ∈ ps, B z.1 = some (.tup [.str z.2.1, z.2.2])) → (∀ w ∈ ws, Dp K B w.2.1 w.2.2) →
    DpAll K B (ps.map fun z => V.ref z.1) ((ws.map fun w => (w.1, w.2.2)).map itmD)
  | [], [], _, _, _ => .nil
  | z :: ps, w :: ws, e, h1, h2 => by
    obtain ⟨e1, e2⟩ := List.cons.inj e
    obtain ⟨z1, z2, z3⟩ := z
    obtain ⟨rfl, rfl⟩ := Prod.mk.inj e1
    exact .cons (.tup (.inl (.inl (h1 _ (.head _)))) (.cons (.str _) (.cons (h2 w (.head _)) .nil))) (dp_items e2 (fun y hy => h1 y (.tail _ hy)) fun y hy => h2 y (.tail _ hy))
  | [], _ :: _, e, _, _ => nomatch e
  | _ :: _, [], e, _, _ => nomatch e
section
variable {X : Cx} {g : G} {W : WX} {i : Nat} {x : Str} {p p2 apos cpos pos : Pos}
end
/-! ### sorted(d), the keys texts -/
def txS : Value → Str
  | .str x _ => x
  | _ => ⟨#[]⟩
section
variable {prog : Program} {w : World} {A : Around} {s : Shared}
theorem strs_are : ∀ {vs : List Value} {ss : List Str}, StrsAre vs ss → ss = vs.map txS ∧ ∀ v ∈ vs, ∃ t, v = .str (txS v) t
  | _, _, .nil => ⟨rfl, fun v h => nomatch h⟩
  | _, _, .cons y t h => by
    obtain ⟨a, b⟩ := strs_are h
    refine ⟨by rw [List.map_cons, ← a]; rfl, fun v hv => ?_⟩
    rcases List.mem_cons.mp hv with e | hv
    · rw [e]; exact ⟨t, rfl⟩
    · exact b v hv
theorem str_sortable {a : Addr} {vs : List Value} {ss : List Str} (h2 : 2 ≤ vs.length) (hS : StrsAre vs ss) : SrtO.SortableO prog w A s a vs fun v u => sLt (txS v) (txS u) := by
  intro h' keep
  refine ⟨oneType', fun Q E hq => ?_, fun p q hm hm' => ?_⟩
  · obtain ⟨v1, v2, r, e⟩ : ∃ v1 v2 r, vs = v1 :: v2 :: r := by
      match vs, h2 with
      | v1 :: v2 :: r, _ => exact ⟨v1, v2, r, rfl⟩
    subst e
    rw [keyKind_strs hS]
    exact wpAny_pure hq
  · obtain ⟨t, e1⟩ := (strs_are hS).2 _ hm
    obtain ⟨u, e2⟩ := (strs_are hS).2 _ hm'
    show wpAny (model prog w) A (keyLt' oneType' p.1 q.1) (fun r s' => s' = { s with heap := h' } ∧ r = sLt (txS p.1) (txS q.1)) (fun _ _ => False) _
    rw [e1, e2]
    exact PySem.W.kas_lt_str ⟨rfl, sLt_eq _ _⟩
end
section
variable {X : Cx}
end
section
variable {X : Cx} {g : G} {W : WX} {i : Nat} {x : Str} {p p2 pos : Pos}
end
/-! ### texts compared -/
section
variable {X : Cx} {g : G} {W : WX} {a b : Expr} {wa wb : WE} {pos : Pos}
end
end DL

set_option Elab.async false
set_option linter.all false
set_option maxRecDepth 100000
set_option maxHeartbeats 4000000
/-! DLDflt: calls that leave out parameters whose defaults are whole numbers -/
namespace DL
open PySem PySem.Spec PyProof.Rows L2
section
variable {X : Cx} {g : G} {W : WX} {CX : CXT} {k : Nat} {f : Addr} {fd : FuncData} {ps : List Str} {S : SpD} {E : XK} {x : Str} {p pos : Pos} {e : Expr} {es : List Expr} {wa : WA}
variable {dvs : List Int}
end
end DL

set_option Elab.async false
set_option linter.all false
set_option maxRecDepth 100000
set_option maxHeartbeats 4000000
/-! DL: try .. except in a def's own suite; isinstance of what is caught -/
namespace DL
open PySem PySem.Spec PyProof.Rows L2
/-! ### blocks that stand in no loop -/
section
variable {X : Cx} {g : G} {W : WX} {st : Stmt} {rest sts : List Stmt} {w u : WS}
end
/-! ### the body of a def -/
section
variable {P : Program} {w : World} {K : PySem.W.Frag} {mg : Str → Option Value} {base : Heap} {x qual : Str} {params : Arguments} {body : List Stmt} {scope : Scope} {dvs : List V} {kws : List (Str × V)} {f : Addr} {fd : FuncData}
end
/-! ### calls of defs that may let exceptions out, within the try -/
section
variable {X : Cx} {g : G} {W : WX} {k : Nat} {S : SpD} {x : Str} {p pos : Pos} {e : Expr} {es : List Expr} {wa : WA}
end
/-! ### the clause -/
/-! ### the suite: the slot of the exception's name holds it -/
section
variable {X : Cx} {g : G} {i : Nat} {a : Addr} {oe : Obj} {pn : List (Addr × Obj)} {p p1 p2 pos : Pos} {n y : Str}
end
/-! ### the suite's statements -/
section
variable {X : Cx} {g : G} {i : Nat} {a : Addr} {st : Stmt} {rest : List Stmt} {w u : WS} {pos : Pos}
end
/-! ### try: .. except X as n: .. -/
section
variable {X : Cx} {g : G} {W : WX} {x n : Str} {i : Nat} {body suite : List Stmt} {b₀ : Stmt} {np pos pos' : Pos} {wb ws : WS}
end
/-! ### the head, with one more Bool -/
/-! ### calls with defaults, within the try -/
section
variable {X : Cx} {g : G} {W : WX} {k : Nat} {S : SpD} {x : Str} {p pos : Pos} {e : Expr} {es : List Expr} {wa : WA} {dvs : List Int}
end
end DL

set_option Elab.async false
set_option linter.all false
set_option maxRecDepth 100000
set_option maxHeartbeats 4000000
/-! DLCat: + of lists, data or own -/
namespace DL
open PySem PySem.Spec PyProof.Rows L2
end DL

set_option Elab.async false
set_option linter.all false
set_option maxRecDepth 100000
set_option maxHeartbeats 4000000
/-! DLDictL: dict(xs), xs a list of pairs with unlike keys -/
namespace DL
open PySem PySem.Spec PyProof.Rows L2
def dPairs : List D → Option (List (Key × D))
  | [] => some []
  | .tuple [k, v] :: r => match keyD k, dPairs r with
    | some kk, some l => some ((kk, v) :: l)
    | _, _ => none
  | _ => none
theorem dpairs_cons {d : D} {r : List D} {kvs : List (Key × D)} (e : dPairs (d :: r) = some kvs) : ∃ k v kk l, d = .tuple [k, v] ∧ keyD k = some kk ∧ dPairs r = some l ∧ kvs = (kk, v) :: l := by
  unfold dPairs at e
  split at e
  · rename_i h; cases h
  · rename_i k v r' h
    cases h
    split at e
    · rename_i kk l e1 e2
      cases e
      exact ⟨k, v, kk, l, rfl, e1, e2, rfl⟩
    · cases e
  · cases e
theorem dp_kvs {K : PySem.W.Frag} {O : List Addr} {H : Hp} : ∀ {xs : List V} {ds : List D} {kvs : List (Key × D)}, DpAll K (hide H O) xs ds → dPairs ds = some kvs →
    ∃ (ps : List Addr) (ks : List (Key × V)), xs = ps.map V.ref ∧ Paired (fun p kv => SqT K H p [kV kv.1, kv.2]) ps ks ∧ DpKV K (hide H O) ks kvs
  | [], _, kvs, h, e => by
    cases h
    cases e
    exact ⟨[], [], rfl, .nil, trivial⟩
  | x :: xs, d :: ds, kvs, h, e => by
    obtain ⟨k, v, kk, l, rfl, e1, e2, rfl⟩ := dpairs_cons e
    cases h with
    | cons h1 h2 =>
      obtain ⟨ps, ks, rfl, p1, p2⟩ := dp_kvs h2 e2
      cases h1 with
      | @tup a xs' _ s1 s2 =>
        cases s2 with
        | cons g1 g2 =>
          cases g2 with
          | cons g2 g3 =>
            cases g3
            obtain rfl := key_dp g1 e1
            exact ⟨_ :: ps, (kk, _) :: ks, rfl, .cons (seqT_same same_hide s1) p1, rfl, g2, p2⟩
theorem merge_new : ∀ {ks acc : List (Key × V)}, ((acc ++ ks).map (·.1)).Nodup → mergeK acc ks = acc ++ ks
  | [], acc, _ => by rw [List.append_nil]; rfl
  | p :: ks, acc, h => by
    show mergeK (putK acc p.1 p.2) ks = _
    have nn : valV acc p.1 = none := by
      cases e : valV acc p.1 with
      | none => rfl
      | some x =>
        exfalso
        have m : p.1 ∈ acc.map (·.1) := by
          clear h
          induction acc with
          | nil => cases e
          | cons q r ih =>
            by_cases z : q.1 = p.1
            · rw [List.map_cons, z]; exact .head _
            · rw [valV_neg z] at e
              exact .tail _ (ih e)
        rw [List.map_append] at h
        exact (List.nodup_append.mp h).2.2 p.1 m p.1 (.head _) rfl
    rw [putK_new p.2 nn]
    have e : (acc ++ [(p.1, p.2)]) ++ ks = acc ++ p :: ks := by rw [List.append_assoc]; rfl
    rw [merge_new (ks := ks) (by rw [e]; exact h), e]
theorem new_dct {K : PySem.W.Frag} {O : List Addr} {H : Hp} {p : Addr} {ks : List (Key × V)} {kvs : List (Key × D)} (n : H p = none) (h : DpKV K (hide H O) ks kvs) : NewRes K O H (upd H p (.dK ks)) (.ref p) (.own 0 (.dct kvs)) := by
  refine ⟨rfl, p, rfl, n, ks, upd_same, DpKV.mono (fun a o q => ?_) h⟩
  obtain ⟨h1, h2⟩ := hide_some.mp q
  refine hide_some.mpr ⟨fun z => ?_, same_new n a o h2⟩
  rcases List.mem_cons.mp z with z | z
  · rw [z, n] at h2; cases h2
  · exact h1 z
section
variable {X : Cx} {g : G} {W : WX} {e : Expr} {es : List Expr} {wa : WA} {p pos : Pos}
end
end DL

set_option Elab.async false
set_option linter.all false
set_option maxRecDepth 100000
set_option maxHeartbeats 4000000
/-! DLKw: calls with keywords whose values are whole numbers -/
namespace DL
open PySem PySem.Spec PyProof.Rows L2
structure KwF where
  n : Nat
  ks : List Str
  a : Nat
  rev : Bool
  b : Nat
section
variable {K : PySem.W.Frag} {x qual : Str} {params : Arguments} {body : List Stmt} {scope : Scope} {dvs : List V} {kws : List (Str × V)} {f : Addr} {fd : FuncData} {ps : List Str}
end
section
variable {X : Cx} {g : G} {W : WX} {k : Nat} {S : SpD} {x : Str} {p pos kpos : Pos} {e : Expr} {es : List Expr} {kws : List Keyword} {wa wk : WA} {we : WE} {dvs : List Int} {qs : List KwF} {nm : Option Str}
end
end DL

set_option Elab.async false
set_option linter.all false
set_option maxRecDepth 100000
set_option maxHeartbeats 4000000
/-! DLZip3: zip of three lists -/
namespace DL
open PySem PySem.Spec PyProof.Rows L2
section
variable {K : PySem.W.Frag} {a b c : Addr} {ds es fs : List D}
end
section
variable {X : Cx} {g : G} {W : WX} {a b c : Expr} {wa : WA} {p pos : Pos}
end
end DL

set_option Elab.async false
set_option linter.all false
set_option maxRecDepth 100000
set_option maxHeartbeats 4000000
/-! DLIdx: xs.index(x), xs.count(x), xs data -/
namespace DL
open PySem PySem.Spec PyProof.Rows L2
section
variable {X : Cx} {g : G} {W : WX} {a b : Expr} {wa wb : WE} {apos pos : Pos}
end
end DL

set_option Elab.async false
set_option linter.all false
set_option maxRecDepth 100000
set_option maxHeartbeats 4000000
/-! DLCallE: a call whose last argument is a lent slot. -/
namespace DL
open PySem PySem.Spec PyProof.Rows L2
section
variable {K : PySem.W.Frag} {g : G} {W : WX} {σ : L2.St} {vs : List V} {H : Hp} {ρ : Rho} {cs : List C} {i : Nat}
end
section
variable {X : Cx} {g : G} {W : WX} {CX : CXT} {k : Nat} {f : Addr} {fd : FuncData} {ps : List Str} {S : SpD} {E : XK} {x : Str} {p pos : Pos} {e : Expr} {es : List Expr} {wa : WA}
end
end DL

set_option Elab.async false
set_option linter.all false
set_option maxRecDepth 100000
set_option maxHeartbeats 4000000
/-! DL: a, b, c = x, y, z -/
namespace DL
open PySem PySem.Spec PyProof.Rows L2
section
variable {X : Cx} {g : G} {W : WX}
end
end DL

set_option Elab.async false
set_option linter.all false
set_option maxRecDepth 100000
set_option maxHeartbeats 4000000
/-! DL: a, b = x, y and a, b, c = x, y, z where a name is a cell (a pair is made and taken apart); own objects stay so -/
namespace DL
open PySem PySem.Spec PyProof.Rows L2
section
variable {X : Cx} {g : G} {W : WX}
end
end DL

set_option Elab.async false
set_option linter.all false
set_option maxRecDepth 100000
set_option maxHeartbeats 4000000
/-! DL: sorted of pairs of whole numbers -/
namespace DL
open PySem PySem.Spec PyProof.Rows L2
section
variable {X : Cx}
end
/-! ### over data -/
section
variable {X : Cx} {g : G} {W : WX} {e : Expr} {es : List Expr} {wa : WA} {p pos : Pos}
end
end DL

set_option Elab.async false
set_option linter.all false
set_option maxRecDepth 100000
set_option maxHeartbeats 4000000
/-! DLOrd: <, >, <=, >= of data that are alike place by place; a list times a number -/
namespace DL
open PySem PySem.Spec PyProof.Rows L2
section
variable {X : Cx}
end
section
variable {X : Cx} {g : G} {W : WX} {a b : Expr} {wa wb : WE} {pos : Pos}
end
/-! ### a list times a number -/
end DL

set_option Elab.async false
set_option linter.all false
set_option maxRecDepth 100000
set_option maxHeartbeats 4000000
/-! DLLr: list(range(a, b, c)), numbers of any size -/
namespace PySem
open Sem (wp)
open AutoSeq1 (wpAny_loadPart')
section
variable {prog : Program} {w : World} {A : Around} {E : Value → Shared → Prop} {s : Shared}
end
end PySem
namespace DL
open PySem PySem.Spec PyProof.Rows L2
section
variable {X : Cx}
end
end DL

set_option Elab.async false
set_option linter.all false
set_option maxRecDepth 100000
/-! DL: x not in range(n); except X: without a name -/
namespace DL
open PySem PySem.Spec PyProof.Rows L2
section
variable {X : Cx} {a b : Expr} {ta : TE} {pos p p2 : Pos}
end
/-! ### try: .. except X: .. -/
section
variable {X : Cx} {g : G} {W : WX} {x : Str} {body suite : List Stmt} {b₀ : Stmt} {np pos pos' : Pos} {wb ws : WS}
end
end DL

set_option Elab.async false
set_option linter.all false
set_option maxRecDepth 100000
set_option maxHeartbeats 4000000
/-! DLStr: methods of texts: upper, join, zfill, partition, strip -/
namespace DL
open PySem PySem.Spec PyProof.Rows L2
section
variable {K : PySem.W.Frag} {g : G} {W : WX} {ta tb : TE} {wa wb : WE} {r : V → List V → Hp → VK → Prop} {o : O2}
end
section
variable {X : Cx} {g : G} {W : WX} {a b : Expr} {wa wb : WE} {apos pos : Pos}
end
end DL

set_option Elab.async false
set_option linter.all false
set_option maxRecDepth 100000
set_option maxHeartbeats 4000000
/-! DLIxT: x[n] as a target (x an own list, n a local whole number): x[a], x[b] = x[b], x[a] -/
namespace DL
open PySem PySem.Spec PyProof.Rows L2
section
variable {X : Cx} {g : G}
end
end DL

set_option Elab.async false
set_option linter.all false
set_option maxRecDepth 100000
set_option maxHeartbeats 4000000
/-! DLLz: list(zip(a, b)), a and b lists -/
namespace PySem
open Sem (wp)
structure ZipS (xs ys : Array Value) (z TI TO i1 i2 l1 l2 : Addr) (i : Nat) (h : Heap) : Prop where
  hTI : IsPair h TI (.ref i1) (.ref i2)
  h1 : h.IsListIter i1 l1 i
  h2 : h.IsListIter i2 l2 i
  hl1 : h.IsList l1 xs
  hl2 : h.IsList l2 ys
  hz : (IsZip h z TI TO .none ∧ ∃ a b, IsPair h TO a b) ∨ ∃ T f oT, IsZipHeld h z TI TO T f ∧ h.get? T = some oT ∧ T ≠ z ∧ T ≠ i1 ∧ T ≠ i2
theorem ZipS.frame {xs ys : Array Value} {z TI TO i1 i2 l1 l2 : Addr} {i : Nat} {h h' : Heap} {S : Addr} (st : ZipS xs ys z TI TO i1 i2 l1 l2 i h) (b : ∀ c ∈ [z, TI, TO, i1, i2, l1, l2], c < S) (hT : ∀ T f, IsZipHeld h z TI TO T f → T ≠ S)
    (hk : ∀ c o, c ≠ S → h.get? c = some o → h'.get? c = some o) : ZipS xs ys z TI TO i1 i2 l1 l2 i h' := by
  have n : ∀ c ∈ [z, TI, TO, i1, i2, l1, l2], c ≠ S := fun c hc => Nat.ne_of_lt (b c hc)
  obtain ⟨hTI, h1, h2, hl1, hl2, hz⟩ := st
  refine ⟨hk _ _ (n _ (by simp)) hTI, h1.at fun o e => hk _ o (n _ (by simp)) e, h2.at fun o e => hk _ o (n _ (by simp)) e, hl1.at fun o e => hk _ o (n _ (by simp)) e, hl2.at fun o e => hk _ o (n _ (by simp)) e, ?_⟩
  rcases hz with ⟨hz, a, c, hTO⟩ | ⟨T, f, oT, hz, hT', r1, r2, r3⟩
  · exact .inl ⟨hk _ _ (n _ (by simp)) hz, a, c, hk _ _ (n _ (by simp)) hTO⟩
  · exact .inr ⟨T, f, oT, hk _ _ (n _ (by simp)) hz, hk _ _ (hT T f hz) hT', r1, r2, r3⟩
section
variable {prog : Program} {w : World} {A : Around} {R : Result → Shared → Prop} {z TI TO i1 i2 l1 l2 : Addr} {xs ys : Array Value}
end
end PySem
namespace DL
open PySem PySem.Spec PyProof.Rows L2
section
variable {X : Cx}
end
end DL

set_option Elab.async false
set_option linter.all false
set_option maxRecDepth 100000
set_option maxHeartbeats 4000000
/-! DLFs: f-strings of texts and whole numbers; str of a text -/
namespace DL
open PySem PySem.Spec PyProof.Rows L2
abbrev WJ := Str → Rho → (Str → Rho → Prop) → KX → Prop
section
variable {X : Cx} {g : G} {W : WX} {e : Expr} {es : List Expr} {we : WE} {wj : WJ} {pos : Pos}
end
end DL

set_option Elab.async false
set_option linter.all false
set_option maxRecDepth 100000
set_option maxHeartbeats 4000000
/-! DLMl: a short text told many times -/
namespace DL
open PySem PySem.Spec PyProof.Rows L2
section
variable {X : Cx}
end
end DL

set_option Elab.async false
set_option linter.all false
set_option maxRecDepth 100000
set_option maxHeartbeats 4000000
/-! DL, at the machine's level: set(list of texts), its length, and sorted of it -/
namespace DLS
open PySem PySem.Spec PyProof.Rows L2 DL PySem.Froz
section
variable {P : Program} {w : World} {A : Around} {E : Value → Shared → Prop} {s : Shared}
def SetT (P : Program) (w : World) (h : Heap) (a : Addr) (l : List Str) : Prop :=
  ∃ (es : Array (Int × Value)) (ep : Nat) (t : SetTable), h.get? a = some (sObj "set" (es, ep, t)) ∧ TxOk P w (es, ep, t) l ∧ l.Nodup ∧ (∀ e ∈ es.toList, ∃ u, e.2 = Value.str (txS e.2) u) ∧ (es.toList.map fun e => txS e.2).Perm l ∧
    Ris t.place.toList ∧ (w.params.followText "set-order" = true ∨ t.led = true)
theorem SetT.at {h h' : Heap} {a : Addr} {l : List Str} (R : SetT P w h a l) (k : ∀ o, h.get? a = some o → h'.get? a = some o) : SetT P w h' a l := by
  obtain ⟨es, ep, t, ho, r⟩ := R
  exact ⟨es, ep, t, k _ ho, r⟩
theorem tail_perm {ep : Nat} {es1 : Array (Int × Value)} {t2 : SetTable} {wd : Bool} : (tailTx ep es1 t2 wd).1.toList.Perm es1.toList := by
  unfold tailTx
  split
  · exact relayAll_perm t2 es1 _
  · exact List.Perm.refl _
theorem tail_ris {ep : Nat} {es1 : Array (Int × Value)} {t2 : SetTable} {wd : Bool} (r : Ris t2.place.toList) : Ris (tailTx ep es1 t2 wd).2.2.place.toList := by
  unfold tailTx
  split
  · exact relayAll_ris t2 es1 _
  · exact r
theorem tail_led {ep : Nat} {es1 : Array (Int × Value)} {t2 : SetTable} {wd : Bool} : (tailTx ep es1 t2 wd).2.2.led = t2.led := by
  unfold tailTx
  split
  · exact relayAll_led t2 es1 _
  · rfl
theorem add_perm {h : Int} {v : Value} {D : SD} : (addTx h v D).1.toList.Perm (D.1.toList ++ [(h, v)]) := by
  unfold addTx
  refine tail_perm.trans ?_
  have p := layNew_perm D.2.2 D.1 h v
  rw [Array.toList_push] at p
  exact p
theorem add_ris {h : Int} {v : Value} {D : SD} (r : Ris D.2.2.place.toList) : Ris (addTx h v D).2.2.place.toList := by
  unfold addTx
  refine tail_ris ?_
  have q := layNew_ris D.2.2 D.1 h v r
  split <;> exact q
theorem add_led {h : Int} {v : Value} {D : SD} : (addTx h v D).2.2.led = D.2.2.led := by
  unfold addTx
  rw [tail_led]
  have q := layNew_led D.2.2 D.1 h v
  split <;> exact q
theorem setT_add {a : Addr} {l : List Str} {k : Str} {u : Tok} {Q : Bool → Shared → Prop} (R : SetT P w s.heap a l) (hb : l.length + 1 < scanBound)
    (hQ : ∀ h' r, Heap.SameBut a s.heap h' → SetT P w h' a (if k ∈ l then l else k :: l) → Q r { s with heap := h' }) : wpAny (model P w) A (setAddHashed a (.str k u) (hashStr w k)) Q E s := by
  obtain ⟨es, ep, t, ho, F, nd, sv, pm, hr, hl⟩ := id R
  by_cases hk : k ∈ l
  · have hd : (sObj "set" (es, ep, t)).data = .set es ep t := rfl
    have hf : t.fits es.size = true := F.fit
    have hel : ElemsOf (strKind P w) es.toList := F.el
    have hsz : es.size = l.length := F.sz
    have hb0 : es.size < scanBound := by omega
    have hkey : (strKind P w).is k (.str k u) = true := is_str k u
    unfold setAddHashed setAddHashedIn
    refine wpAny_holding (wpAny_bind (wpAny_setState_of ho hd hf ?_))
    dsimp only
    rw [byScan_of rfl hb0 hel]
    simp only [↓reduceIte]
    unfold setAddByScan
    refine wpAny_bind ?_
    refine wpAny_bind (wpAny_rule ?_)
    refine wpAny_bind (wpAny_setScan_of (knd := strKind P w) (k := k) hkey ho hd hf hel ?_)
    cases hfi : List.findIdx? (fun e => (strKind P w).is k e.2) es.toList with
    | some j =>
      dsimp only
      refine wpAny_pure (wpAny_pure ?_)
      refine hQ s.heap _ (Heap.SameBut.refl a s.heap) ?_
      rw [if_pos hk]
      exact R
    | none =>
      obtain ⟨e, he, q⟩ := (F.mem k).mp hk
      have c := List.findIdx?_eq_none_iff.mp hfi e he
      rw [q] at c
      cases c
  · refine add_x ho F hk hb (hQ _ _ (Heap.SameBut.update s.heap a _) ?_)
    rw [if_neg hk]
    have ap := add_perm (h := hashStr w k) (v := .str k u) (D := (es, ep, t))
    refine ⟨_, _, _, get_upd (sObj "set" (addTx (hashStr w k) (.str k u) (es, ep, t))) ho rfl, add_ok u F, List.nodup_cons.mpr ⟨hk, nd⟩, fun e he => ?_, ?_, add_ris hr, hl.imp id fun z => (add_led (h := hashStr w k) (v := .str k u) (D := (es, ep, t))).trans z⟩
    · rcases List.mem_append.mp (ap.mem_iff.mp he) with z | z
      · exact sv e z
      · rw [List.mem_singleton.mp z]; exact ⟨u, rfl⟩
    · refine (ap.map _).trans ?_
      rw [List.map_append, List.map_singleton]
      exact (List.perm_append_singleton _ _).trans (pm.cons _)
theorem setT_new {h : Heap} {a : Addr} (ho : h.get? a = some (set0 w)) : SetT P w h a [] :=
  ⟨#[], 0, _, ho, TxOk.nil rfl, List.nodup_nil, (fun e he => by simp at he), List.Perm.refl _, List.Pairwise.nil, by
    show _ ∨ (!w.params.followText "set-order") = true
    cases w.params.followText "set-order"
    · exact .inr rfl
    · exact .inl rfl⟩
theorem set_update_txts {I : Addr} {fp wr : List Addr} {G : Array GenState → Array GenState → Prop} {n : Nat} {Pv : Nat → Value → Prop} {St : Nat → Shared → Prop} {R : Result → Shared → Prop}
    (W : WalksS P w A.in1 I fp wr G n Pv St) (S : Addr) (hSf : S ∉ fp) (ts : List Str) (hn : n = ts.length) (hb : ts.length + 1 < scanBound) (hval : ∀ i v, Pv i v → ∃ k t, ts[i]? = some k ∧ v = Value.str k t) :
    ∀ (k i : Nat) (s : Shared), n - i = k → i ≤ n → St i s → (∃ l, l.length ≤ i ∧ SetT P w s.heap S l ∧ ∀ x, x ∈ l ↔ x ∈ ts.take i) →
      (∀ s' l, Moved (S :: wr) G s s' → l.length ≤ n → SetT P w s'.heap S l → (∀ x, x ∈ l ↔ x ∈ ts) → R (.ok (.ret .none)) s') →
      codeAny (model P w) A (.builtin "set.update.loop" ⟨[.ref S, .ref I], []⟩) R s := by
  have hSw : S ∉ wr := fun h => hSf (W.sub _ h)
  have hsub : ∀ b ∈ wr, b ∈ S :: wr := fun b hb => List.mem_cons_of_mem _ hb
  intro k
  induction k with
  | zero =>
    intro i s hk' hi hst ⟨l, hc, hS, hm⟩ hR
    have hin : i = n := by omega
    subst hin
    refine codeAny_builtin F.entry_set_update_loop ?_
    rw [Around.under_plainId F.plain_set_update_loop _]
    show wpAny _ A.in1 (pyNext (.ref I) >>= _) _ _ s
    refine wpAny_bind (W.done s _ _ hst fun s' hmv => ?_)
    show wpAny _ A.in1 (ret Value.none) _ _ s'
    have e : ts.take i = ts := List.take_of_length_le (by omega)
    rw [e] at hm
    exact wpAny_pure (hR s' l (hmv.mono hsub) hc (hS.at fun o e => hmv.heap S o hSw e) hm)
  | succ k ih =>
    intro i s hk' hi hst ⟨l, hc, hS, hm⟩ hR
    have hlt : i < n := by omega
    refine codeAny_builtin F.entry_set_update_loop ?_
    rw [Around.under_plainId F.plain_set_update_loop _]
    show wpAny _ A.in1 (pyNext (.ref I) >>= _) _ _ s
    refine wpAny_bind (W.item i s _ _ hlt hst fun v s' hP hst' hmv => ?_)
    obtain ⟨z, t, hz, rfl⟩ := hval i v hP
    have hS' : SetT P w s'.heap S l := hS.at fun o e => hmv.heap S o hSw e
    show wpAny _ A.in1 (holding [Value.str z t] (setAdd S (.str z t)) >>= _) _ _ s'
    refine wpAny_bind (wpAny_holding ?_)
    unfold setAdd
    refine wpAny_holding ?_
    refine wpAny_bind ((strKind P w).pyHash (k := z) (is_str z t) ?_)
    refine setT_add (s := { s' with toks := s'.toks + 1 }) hS' (by omega) fun h' r hsb hS2 => ?_
    refine wpAny_pure ⟨plainId_quiet F.plain_set_update_loop _, ih (i + 1) _ (by omega) hlt (W.frame _ s' _ _ hst' (Nat.le_succ _) fun b hb o e => ?_) ⟨_, ?_, hS2, fun x => ?_⟩ fun s'' l2 hmv'' hc'' hS'' hm'' => ?_⟩
    · rw [hsb.2 b (fun h : b = S => hSf (by rw [← h]; exact hb))]; exact e
    · split
      · omega
      · rw [List.length_cons]; omega
    · rw [List.take_add_one, hz]
      by_cases hk : z ∈ l
      · rw [if_pos hk, hm x]
        have := (hm z).mp hk
        constructor
        · exact fun h => List.mem_append_left _ h
        · intro h
          rcases List.mem_append.mp h with h | h
          · exact h
          · have e : x = z := by simpa using h
            rw [e]; exact this
      · rw [if_neg hk, List.mem_cons, hm x]
        simp [List.mem_append, or_comm]
    · refine hR s'' l2 (Moved.trans W.gtrans ((hmv.mono hsub).then_heap (Nat.le_succ _) fun b o hb e => ?_) hmv'') hc'' hS'' hm''
      rw [hsb.2 b (fun h : b = S => hb (by rw [h]; exact List.mem_cons_self))]; exact e
abbrev GoalT (P : Program) (w : World) (s : Shared) (ts : List Str) (s₂ : Shared) : Prop := ∃ h' tk l, s₂ = { s with heap := h', toks := tk } ∧ SetT P w h' s.heap.objs.size l ∧ l.length ≤ ts.length ∧ (∀ x, x ∈ l ↔ x ∈ ts) ∧ ∀ b o, s.heap.get? b = some o → h'.get? b = some o
theorem init_listT {l : Addr} {items : Array Value} {ts : List Str} (hh : A.handled = none) (hl : s.heap.IsList l items) (hisz : items.size = ts.length) (hv : ∀ (i : Nat) (v : Value), items[i]? = some v → ∃ k t, ts[i]? = some k ∧ v = Value.str k t) (hb : ts.length + 1 < scanBound) :
    codeAny (model P w) A (.call (.builtin "set.__init__") ⟨[.ref s.heap.objs.size, .ref l], []⟩) (wants (fun r s₂ => r = .none ∧ GoalT P w s ts s₂) E) { s with heap := s.heap.push (set0 w) } := by
  have hS : (s.heap.push (set0 w)).get? s.heap.objs.size = some (set0 w) := Heap.get?_push_size _ rfl
  refine codeAny_call_builtin F.called_set.init.plain F.entry_set_init (check_set_init_1 ⟨_, hS, rfl⟩ ?_)
  obtain ⟨ol, hol, hcl, nl, hdl⟩ := id hl
  obtain ⟨ocls, odict, odata, oslots⟩ := ol
  simp only at hcl hdl; subst hcl hdl
  have hl1 : (s.heap.push (set0 w)).IsList l items := hl.push _
  have hol' : (s.heap.push (set0 w)).get? l = some { cls := .type "list", dict := odict, data := .seq items nl, slots := oslots } := Heap.get?_push_of_some _ hol
  have k1 := F.sub_list_set; have k2 := F.sub_list_frozenset
  have k3 : (Value.type "list" == Value.type "dict") = false := by decide
  unfold Builtin.«set.__init__» noKeywords Builtin.Frozenset.updateFrom
  generalize hPI : pyIter = PI
  wp_walk
  subst hPI
  refine wpAny_pyIter_list hl1 (wpAny_bind (wpAny_runValue ?_))
  have lt : l < s.heap.objs.size := Heap.lt_size hol
  have z1 : (s.heap.push (set0 w)).objs.size = s.heap.objs.size + 1 := Heap.size_push ..
  have hh3 : A.in1.in1.handled = none := by simp [hh]
  have n1 : l ≠ (s.heap.push (set0 w)).objs.size := by rw [z1]; exact Nat.ne_of_lt (Nat.lt_succ_of_lt lt)
  have n2 : s.heap.objs.size ∉ [(s.heap.push (set0 w)).objs.size, l] := by
    rw [z1]; simp only [List.mem_cons, List.not_mem_nil, or_false]
    exact fun z => z.elim (fun z => absurd z (Nat.ne_of_lt (Nat.lt_succ_self _))) fun z => absurd z (Nat.ne_of_gt lt)
  refine set_update_txts (Walks.list hh3 _ l n1 items).toS s.heap.objs.size n2 ts hisz hb hv (items.size - 0) 0 { s with heap := (s.heap.push (set0 w)).push { cls := .type "list_iterator", data := .fields #[.ref l, .int 0 0] } } (by omega) (Nat.zero_le _)
    ⟨⟨_, Heap.get?_push_size _ rfl, rfl, rfl⟩, hl1.push _⟩ ?_ fun s' l' hm hc' hS' hx' => ?_
  · exact ⟨[], Nat.le_refl 0, setT_new (h := (s.heap.push (set0 w)).push { cls := .type "list_iterator", data := .fields #[.ref l, .int 0 0] }) (Heap.get?_push_of_some _ hS), fun x => by simp⟩
  obtain ⟨h', g2, d', tk', os'⟩ := s'
  obtain rfl : g2 = s.gens := hm.gens
  obtain rfl : d' = s.drawn := hm.drawn
  obtain rfl : os' = s.os := hm.os
  rw [hisz] at hc'
  refine wpAny_pure ?_
  show wpAny _ _ (ret Value.none) _ _ _
  refine wpAny_pure ⟨rfl, h', tk', l', rfl, hS', hc', hx', fun b o e => ?_⟩
  have b0 : b < s.heap.objs.size := Heap.lt_size e
  refine hm.heap b o ?_ (Heap.get?_push_of_some _ (Heap.get?_push_of_some _ e))
  rw [z1]; simp only [List.mem_cons, List.not_mem_nil, or_false]
  exact fun z => z.elim (fun z => absurd z (Nat.ne_of_lt b0)) fun z => absurd z (Nat.ne_of_lt (Nat.lt_succ_of_lt b0))
theorem call_set_listT {l : Addr} {items : Array Value} {ts : List Str} {Q : Value → Shared → Prop} (hh : A.handled = none) (hl : s.heap.IsList l items) (hisz : items.size = ts.length) (hv : ∀ (i : Nat) (v : Value), items[i]? = some v → ∃ k t, ts[i]? = some k ∧ v = Value.str k t) (hb : ts.length + 1 < scanBound)
    (h : ∀ s₂, GoalT P w s ts s₂ → Q (.ref s.heap.objs.size) s₂) : wpAny (model P w) A (call (.type "set") [.ref l]) Q E s := by
  obtain ⟨c, tl, hmro⟩ := F.called_set.mro
  have a1 := F.called_set.made; have a2 := F.called_set.sub; have a3 := F.called_set.notType
  have a4 := F.called_set.canCreate; have a5 := F.typeCall_set_1 (.ref l); have a6 := F.called_set.init.lookup
  refine wpAny_call (codeAny_of_tree ?_)
  show wpAny _ _ (callAny (.type "set") _) _ _ _
  refine wpAny_pure ⟨Code.quiet_builtin _ (by decide +kernel), codeAny_builtin F.entry_type_call ?_⟩
  rw [Around.under_plain (weight_type_call_type "set" [.ref l] []) rfl]
  repeat (any_goals (first | assumption | wp_step))
  refine codeAny_mono (code_set_led1 (.ref l) (E := E) (Q₁ := fun obj s₁ => obj = .ref s.heap.objs.size ∧ s₁ = { s with heap := s.heap.push (set0 w) }) ⟨rfl, rfl⟩) fun r s₁ hr => ?_
  match r, hr with
  | .error e, hr => exact hr
  | .ok (.ret obj), hr =>
    obtain ⟨rfl, rfl⟩ := hr
    have hT : Shared.TypeIs { s with heap := s.heap.push (set0 w) } (.ref s.heap.objs.size) "set" := ⟨_, Heap.get?_push_size _ rfl, rfl⟩
    have a7 := F.called_set.init.bind (.ref s.heap.objs.size)
    repeat (any_goals (first | assumption | wp_step))
    refine codeAny_mono (init_listT (E := E) hh hl hisz hv hb) fun r₂ s₂ hr₂ => ?_
    match r₂, hr₂ with
    | .error e, hr₂ => exact hr₂
    | .ok (.ret r), hr₂ =>
      obtain ⟨rfl, hr₂⟩ := hr₂
      repeat (any_goals (first | assumption | wp_step))
      exact h _ hr₂
    | .ok .next, hr₂ => exact hr₂.elim
    | .ok .brk, hr₂ => exact hr₂.elim
    | .ok .cont, hr₂ => exact hr₂.elim
  | .ok .next, hr => exact hr.elim
  | .ok .brk, hr => exact hr.elim
  | .ok .cont, hr => exact hr.elim
theorem sorted_setT {a : Addr} {l : List Str} {Q : Value → Shared → Prop} (R : SetT P w s.heap a l) (hb : l.length < scanBound) (hh : A.handled = none)
    (hQ : ∀ s' p (out : List Value) (c : Nat) (ms : List Str), (∀ b o, s.heap.get? b = some o → s'.heap.get? b = some o) → s'.gens = s.gens → s'.os = s.os → s.heap.objs.size ≤ p →
      s'.heap.get? p = some (seqObj "list" out.toArray c) → Vals (ms.map V.str) out → ms.Pairwise (fun x y => sLt x y = true) → ms.Perm l → Q (.ref p) s') :
    wpAny (model P w) A (call (.builtin "sorted") [.ref a]) Q E s := by
  obtain ⟨es, ep, t, ho, F, nd, sv, pm, hr, hl⟩ := R
  have hz : es.size = l.length := F.sz
  refine Calls.call_function_entry kind_sorted plain_sorted entry_sorted (args_sorted1 _) ?_
  unfold Builtin.«sorted»
  refine wpAny_bind (m := checkCount "sorted" 1 1 _) (wpAny_pure ?_)
  refine wpAny_bind (collect_set (A := A.in1) hh ⟨_, ho, rfl, rfl⟩ F.fit (by show es.size < _; omega) hr hl fun s1 vs k1 hz1 g1 o1 pv => ?_)
  have e1 : vs.length = l.length := pv.length_eq.trans (by rw [List.length_map, Array.length_toList]; exact hz)
  have e2 : vs.length ≤ sizeLine := by rw [e1, sizeLine_eq]; unfold scanBound at hb; omega
  have sv2 : ∀ v ∈ vs, ∃ u, v = Value.str (txS v) u := fun v hv => by
    obtain ⟨e, he, q⟩ := List.mem_map.mp (pv.mem_iff.mp hv)
    rw [← q]; exact sv e he
  have hS : StrsAre vs (vs.map txS) := by
    have go : ∀ l : List Value, (∀ v ∈ l, ∃ t, v = Value.str (txS v) t) → StrsAre l (l.map txS) := fun l => by
      induction l with
      | nil => exact fun _ => .nil
      | cons v l ih =>
        intro h
        obtain ⟨t, e⟩ := h v (.head _)
        have q := ih fun u hu => h u (.tail _ hu)
        rw [List.map_cons]
        rw [e] at *
        exact .cons _ t q
    exact go vs sv2
  refine wpAny_bind (wpAny_newList ?_ e2)
  have hoL : (s1.heap.push (seqObj "list" vs.toArray 0)).get? s1.heap.objs.size = some (seqObj "list" vs.toArray 0) := Heap.get?_push_size _ rfl
  refine wpAny_bind (wpAny_holding (wpAny_call_entry slot_list_sort ⟨_, hoL, rfl⟩ entry_list_sort (SrtO.list_sort_ord (s := { s1 with heap := s1.heap.push (seqObj "list" vs.toArray 0) }) (swo_s txS) hoL e2 (fun h2 => str_sortable h2 hS) fun out hs hb => ⟨_, rfl, ?_⟩) (args_list_sort _)))
  obtain ⟨c, hc⟩ := sortedHeap_at (vs := vs) (out := out.toArray) hoL
  have so : ∀ v ∈ out, ∃ t, v = Value.str (txS v) t := fun v hv => sv2 v (hb.perm.mem_iff.mp hv)
  have pm2 : (out.map txS).Perm l := by
    refine ((hb.perm.map txS).trans (pv.map txS)).trans ?_
    rw [List.map_map]
    exact pm
  have pw : (out.map txS).Pairwise (fun x y => sLt x y = true) := by
    have nd' : (out.map txS).Nodup := pm2.nodup_iff.mpr nd
    exact List.pairwise_map.mpr (List.Pairwise.imp (fun {x y} h => sLt_tri h.2 h.1) ((show out.Pairwise fun x y => sLt (txS y) (txS x) = false from hs).and (List.pairwise_map.mp nd')))
  have rv : Vals ((out.map txS).map V.str) out := by
    have go : ∀ l : List Value, (∀ v ∈ l, ∃ t, v = Value.str (txS v) t) → Vals ((l.map txS).map V.str) l := fun l => by
      induction l with
      | nil => exact fun _ => .nil
      | cons v l ih =>
        intro h
        exact .cons (h v (.head _)) (ih fun u hu => h u (.tail _ hu))
    exact go out so
  refine wpAny_pure ⟨_, rfl, hQ _ s1.heap.objs.size out c (out.map txS) (fun b u e => ?_) g1 o1 hz1 hc rv pw pm2⟩
  have q := k1 b u e
  have lt := Heap.lt_size q
  exact (sortedHeap_old (Nat.ne_of_lt lt) (by rw [size_push']; exact Nat.lt_succ_of_lt lt)).trans (Heap.get?_push_of_some _ q)
end
end DLS

set_option Elab.async false
set_option linter.all false
set_option maxRecDepth 100000
set_option maxHeartbeats 4000000
/-! DL: sorted(set(xs)) and len(set(xs)), xs a list of texts -/
namespace DL
open PySem PySem.Spec PyProof.Rows L2
theorem vals_txt : ∀ {ts : List Str} {its : List Value}, Vals (ts.map V.str) its → its.length = ts.length ∧ ∀ (i : Nat) (v : Value), its[i]? = some v → ∃ k t, ts[i]? = some k ∧ v = Value.str k t
  | [], _, .nil => ⟨rfl, fun i v h => by simp at h⟩
  | x :: ts, _, .cons (b := u) ⟨tk, e⟩ h => by
    obtain ⟨a, b⟩ := vals_txt h
    refine ⟨by rw [List.length_cons, List.length_cons, a], fun i v hv => ?_⟩
    cases i with
    | zero =>
      have hv : some u = some v := hv
      cases hv
      exact ⟨x, tk, rfl, e⟩
    | succ i => exact b i v hv
def rSortSetT (K : PySem.W.Frag) : V → Hp → VK → Prop := fun x H Q => ∃ (l : Addr) (ts : List Str), x = V.ref l ∧ SqL K H l (ts.map V.str) ∧ ts.length ≤ 4000 ∧
  ∀ (ms : List Str) (p : Addr), ms.Pairwise (fun x y => sLt x y = true) → (∀ k, k ∈ ms ↔ k ∈ ts) → ms.length ≤ ts.length → H p = none → Q (.ref p) (upd H p (.lst (ms.map V.str)))
section
variable {X : Cx} {g : G} {W : WX} {e : Expr} {te : TE} {we : WE} {p p2 q pos : Pos}
theorem pe_sortSetT (hc : X.calm = true) (hg : Gl X "sorted") (hm : X.mg "sorted" = none) (hg2 : Gl X "set") (hm2 : X.mg "set" = none) (ha : PE X e te) (na : starEach [e] X.env = (false, eval e X.env) :: starEach [] X.env := by rfl) :
    PE X (.Call (.Name "sorted" p) [.Call (.Name "set" p2) [e] [] q] [] pos) (tUn (rSortSetT X.K) te) := by
  refine ⟨fun pins s σ H Q I h => ?_⟩
  refine Call_ (ld_blt I hg hm boot_sorted ?_)
  refine PyProof.Rows.callWith_builtin1 (PyProof.Rows.args_cons ?_ rfl) rfl rfl
  refine Call_ (ld_blt I hg2 hm2 boot_set ?_)
  refine PyProof.Rows.callWith_type1 (PyProof.Rows.args_cons (thn (ha.run pins s σ H _ I h) fun v s1 ⟨x, H1, I1, r1, q1⟩ => PyProof.Rows.args_nil ?_) na) na rfl
  obtain ⟨l, ts, rfl, hq, hl, q1⟩ := q1
  cases r1
  obtain ⟨its, rv, pl, hz⟩ := I1.list hq
  obtain ⟨vl, vv⟩ := vals_txt rv
  refine DLS.call_set_listT (ts := ts) (I1.ok.hd hc) pl.isList (by rw [List.size_toArray]; exact vl) (fun i v h => vv i v (by rw [← h, List.getElem?_toArray])) (by unfold scanBound; omega) fun s2 ⟨h', tk, c, e2, R, hcn, hx, hk⟩ => ?_
  subst e2
  refine PyProof.Rows.args_nil ?_
  have I2 : Inv X pins σ H1 { s1 with heap := h', toks := tk } := I1.kept hk
  refine DLS.sorted_setT (s := { s1 with heap := h', toks := tk }) R (by unfold scanBound; omega) (I2.ok.hd hc) fun s' pp out c2 ms k g o hp hgt rvs hs pm => ?_
  have hle : ms.length ≤ ts.length := by rw [pm.length_eq]; omega
  have hlen : (ms.map V.str).length ≤ sizeLine := by rw [List.length_map, sizeLine_eq]; omega
  have hn : H1 pp = none := I2.hok.fresh hp
  have J : Inv X pins σ (upd H1 pp (.lst (ms.map V.str))) { { s1 with heap := h', toks := tk } with heap := s'.heap, gens := s'.gens, drawn := s'.drawn, toks := s'.toks } :=
    I2.call (ch := []) (Un.laid k hp hn) (I2.hok.laid k hp ⟨hlen, out, c2, rvs, hgt⟩) (by rw [g]; exact I2.bare) (fun _ z => nomatch z)
  have e : s' = { { s1 with heap := h', toks := tk } with heap := s'.heap, gens := s'.gens, drawn := s'.drawn, toks := s'.toks } := by
    cases s'
    cases o
    rfl
  rw [e]
  exact ⟨.ref pp, _, J, rfl, q1 ms pp hs (fun k => by rw [pm.mem_iff, hx k]) hle hn⟩
@[reducible] def oSortSetT : O1 := fun d k => match d with
  | .list es => optK (strsOf es) fun ts => ts.length ≤ 4000 ∧ ∀ ms : List Str, ms.Pairwise (fun x y => sLt x y = true) → (∀ k, k ∈ ms ↔ k ∈ ts) → ms.length ≤ ts.length → k (.own 0 (.lst (ms.map PyData.str)))
  | _ => False
theorem lift_sortSetT {K : PySem.W.Frag} : Lift1 K (rSortSetT K) oSortSetT := by
  intro O H x dx QD Q _ hx q fin
  cases hx with
  | lst a1 a2 =>
    rename_i a xs es
    have q : optK (strsOf es) _ := q
    cases e : strsOf es with
    | none => rw [e] at q; exact q.elim
    | some ts =>
      rw [e] at q
      have e2 := strsOf_dp a2 e
      subst e2
      exact ⟨_, ts, rfl, Same.seq same_hide a1, q.1, fun ms p h1 h2 h3 n => fin _ _ (.own 0 (.lst _)) (same_new n) (new_lst n (dp_strs ms)) (q.2 ms h1 h2 h3)⟩
  | _ => exact q.elim
theorem ee_sortSetT (hc : X.calm = true) (hg : Gl X "sorted") (hm : X.mg "sorted" = none) (hg2 : Gl X "set") (hm2 : X.mg "set" = none) (ha : EE X g W e we) (na : starEach [e] X.env = (false, eval e X.env) :: starEach [] X.env := by rfl) :
    EE X g W (.Call (.Name "sorted" p) [.Call (.Name "set" p2) [e] [] q] [] pos) (wU oSortSetT we) := by
  obtain ⟨te, p1, s1⟩ := ha.ex
  exact ⟨_, pe_sortSetT hc hg hm hg2 hm2 p1 na, sem_un lift_sortSetT s1⟩
end
end DL

set_option Elab.async false
set_option linter.all false
set_option maxRecDepth 100000
set_option maxHeartbeats 4000000
/-! DL: trees of objects, parts of them lent; calls with any number of lent slots and parts. -/
namespace DL
open PySem PySem.Spec PyProof.Rows L2

/-! ### a part of a tree -/
theorem foots_set : ∀ {xs : List Tre} {i : Nat} {m : Tre} (n : Tre), xs[i]? = some m → ∃ R, (Tre.foots xs).Perm (m.foot ++ R) ∧ (Tre.foots (xs.set i n)).Perm (n.foot ++ R)
  | [], i, m, n, h => by simp at h
  | x :: xs, 0, m, n, h => by
    have e : x = m := by simpa using h
    subst e
    exact ⟨Tre.foots xs, by rw [Tre.foots], by rw [List.set_cons_zero, Tre.foots]⟩
  | x :: xs, i + 1, m, n, h => by
    obtain ⟨R, h1, h2⟩ := foots_set (xs := xs) (i := i) n (by simpa using h)
    refine ⟨x.foot ++ R, ?_, ?_⟩
    · rw [Tre.foots]
      exact (h1.append_left _).trans (List.perm_append_comm_assoc _ _ _)
    · rw [List.set_cons_succ, Tre.foots]
      exact (h2.append_left _).trans (List.perm_append_comm_assoc _ _ _)
theorem put_cons {l n m1 : Tre} {i : Nat} {p : List Nat} (e : l.kids[i]? = some m1) : l.put (i :: p) n = l.withKids (l.kids.set i (m1.put p n)) := by
  show (match l.kids[i]? with
    | some m => l.withKids (l.kids.set i (m.put p n))
    | none => l) = _
  rw [e]
def Tre.own : Tre → List Addr
  | .ld a _ => [a]
  | .lst a _ => [a]
  | .tup a _ => [a]
  | .ins a dx _ _ _ => [a, dx]
  | .exc a da _ => a :: da.toList
  | _ => []
theorem foot_kids {l : Tre} : l.foot = l.own ++ Tre.foots l.kids := by
  cases l <;> simp [Tre.foot, Tre.own, Tre.kids, Tre.foots]
theorem kids_with {l : Tre} {ys : List Tre} {i : Nat} {m : Tre} (h : l.kids[i]? = some m) : (l.withKids ys).kids = ys ∧ (l.withKids ys).own = l.own ∧ (l.withKids ys).root = l.root := by
  cases l <;> first | exact ⟨rfl, rfl, rfl⟩ | (simp [Tre.kids] at h)
theorem foot_put : ∀ {p : List Nat} {l m : Tre} (n : Tre), l.get p = some m → ∃ R, l.foot.Perm (m.foot ++ R) ∧ (l.put p n).foot.Perm (n.foot ++ R)
  | [], l, m, n, h => by
    have e : l = m := by simpa [Tre.get] using h
    subst e
    exact ⟨[], by rw [List.append_nil], by rw [Tre.put, List.append_nil]⟩
  | i :: p, l, m, n, h => by
    unfold Tre.get at h
    cases e : l.kids[i]? with
    | none => rw [e] at h; cases h
    | some m1 =>
      rw [e] at h
      obtain ⟨R1, a1, a2⟩ := foot_put (p := p) (l := m1) n h
      obtain ⟨R2, b1, b2⟩ := foots_set (m1.put p n) e
      have ep : l.put (i :: p) n = l.withKids (l.kids.set i (m1.put p n)) := put_cons e
      obtain ⟨k1, k2, _⟩ := kids_with (ys := l.kids.set i (m1.put p n)) e
      refine ⟨R1 ++ (l.own ++ R2), ?_, ?_⟩
      · rw [foot_kids]
        refine (b1.append_left _).trans ((List.perm_append_comm_assoc _ _ _).trans ?_)
        exact (a1.append_right _).trans (by rw [List.append_assoc])
      · rw [ep, foot_kids, k1, k2]
        refine (b2.append_left _).trans ((List.perm_append_comm_assoc _ _ _).trans ?_)
        exact (a2.append_right _).trans (by rw [List.append_assoc])
section
variable {K : PySem.W.Frag} {B B' H H' : Hp}
theorem all_set : ∀ {xs : List Tre} {vs : List V} {i : Nat} {m : Tre}, TreAll K B H xs vs → xs[i]? = some m → ∃ u, vs[i]? = some u ∧ TreAt K B H m u ∧
    ∀ (n : Tre) (B' H' : Hp), Same B B' → TreAt K B' H' n u → (∀ a ∈ Tre.foots (xs.set i (.hole 0)), ∀ o, H a = some o → H' a = some o) → TreAll K B' H' (xs.set i n) vs
  | [], _, i, m, _, h => by simp at h
  | x :: xs, vs, 0, m, q, h => by
    have e : x = m := by simpa using h
    subst e
    obtain ⟨v, ws, rfl, q1, q2⟩ := q
    exact ⟨v, rfl, q1, fun n B' H' hB z keep => ⟨v, ws, rfl, z, TreAll.mono hB xs ws (fun a ha o w => keep a (by rw [List.set_cons_zero, Tre.foots]; exact List.mem_append_right _ ha) o w) q2⟩⟩
  | x :: xs, vs, i + 1, m, q, h => by
    obtain ⟨v, ws, rfl, q1, q2⟩ := q
    obtain ⟨u, e, z1, z2⟩ := all_set (i := i) q2 (by simpa using h)
    exact ⟨u, by simpa using e, z1, fun n B' H' hB z keep => ⟨v, ws, rfl, TreAt.mono hB x v (fun a ha o w => keep a (by rw [List.set_cons_succ, Tre.foots]; exact List.mem_append_left _ ha) o w) q1, z2 n B' H' hB z fun a ha => keep a (by rw [List.set_cons_succ, Tre.foots]; exact List.mem_append_right _ ha)⟩⟩
theorem at_put : ∀ {p : List Nat} {l m : Tre} {v : V}, TreAt K B H l v → l.get p = some m → ∃ u, TreAt K B H m u ∧
    ∀ (n : Tre) (B' H' : Hp), Same B B' → TreAt K B' H' n u → (∀ a ∈ (l.put p (.hole 0)).foot, ∀ o, H a = some o → H' a = some o) → TreAt K B' H' (l.put p n) v
  | [], l, m, v, q, h => by
    have e : l = m := by simpa [Tre.get] using h
    subst e
    exact ⟨v, q, fun n B' H' hB z _ => z⟩
  | i :: p, l, m, v, q, h => by
    unfold Tre.get at h
    cases e : l.kids[i]? with
    | none => rw [e] at h; cases h
    | some m1 =>
      rw [e] at h
      have ep : ∀ n, l.put (i :: p) n = l.withKids (l.kids.set i (m1.put p n)) := fun n => put_cons e
      have key : ∀ vs, TreAll K B H l.kids vs → ∃ u, TreAt K B H m u ∧ ∀ (n : Tre) (B' H' : Hp), Same B B' → TreAt K B' H' n u → (∀ a ∈ (l.put (i :: p) (.hole 0)).foot, ∀ o, H a = some o → H' a = some o) → TreAll K B' H' (l.kids.set i (m1.put p n)) vs := by
        intro vs qa
        obtain ⟨u1, e1, z1, z2⟩ := all_set qa e
        obtain ⟨u, w1, w2⟩ := at_put (p := p) z1 h
        obtain ⟨k1, k2, _⟩ := kids_with (ys := l.kids.set i (m1.put p (.hole 0))) e
        refine ⟨u, w1, fun n B' H' hB zn keep => z2 _ B' H' hB (w2 n B' H' hB zn fun a ha => keep a ?_) fun a ha => keep a ?_⟩
        · rw [ep, foot_kids, k1]
          obtain ⟨R, _, r2⟩ := foots_set (m1.put p (.hole 0)) e
          exact List.mem_append_right _ (r2.mem_iff.mpr (List.mem_append_left _ ha))
        · rw [ep, foot_kids, k1]
          obtain ⟨R, r1, r2⟩ := foots_set (m1.put p (.hole 0)) e
          obtain ⟨R', s1, s2⟩ := foots_set (.hole 0) e
          have : a ∈ R' := by
            have := s2.mem_iff.mp ha
            simpa [Tre.foot] using this
          have h3 : R.Perm R' := (List.perm_append_left_iff _).mp (r1.symm.trans s1)
          exact List.mem_append_right _ (r2.mem_iff.mpr (List.mem_append_right _ (h3.mem_iff.mpr this)))
      have ho : ∀ a ∈ l.own, a ∈ (l.put (i :: p) (.hole 0)).foot := fun a ha => by
        obtain ⟨k1, k2, _⟩ := kids_with (ys := l.kids.set i (m1.put p (.hole 0))) e
        rw [ep, foot_kids, k2]
        exact List.mem_append_left _ ha
      cases l with
      | dat d => simp [Tre.kids] at e
      | hole k => simp [Tre.kids] at e
      | ld a ds => simp [Tre.kids] at e
      | exc a da x => simp [Tre.kids] at e
      | lst a xs =>
        obtain ⟨h1, vs, h2, h3⟩ := q
        obtain ⟨u, w1, w2⟩ := key vs h3
        refine ⟨u, w1, fun n B' H' hB zn keep => ?_⟩
        rw [ep]
        exact ⟨h1, vs, keep a (ho a (by simp [Tre.own])) _ h2, w2 n B' H' hB zn keep⟩
      | tup a xs =>
        obtain ⟨h1, vs, h2, h3⟩ := q
        obtain ⟨u, w1, w2⟩ := key vs h3
        refine ⟨u, w1, fun n B' H' hB zn keep => ?_⟩
        rw [ep]
        exact ⟨h1, vs, keep a (ho a (by simp [Tre.own])) _ h2, w2 n B' H' hB zn keep⟩
      | ins a dx cls ns xs =>
        obtain ⟨h1, vs, h2, h4, h5, h3⟩ := q
        obtain ⟨u, w1, w2⟩ := key vs h3
        refine ⟨u, w1, fun n B' H' hB zn keep => ?_⟩
        rw [ep]
        exact ⟨h1, vs, keep a (ho a (by simp [Tre.own])) _ h2, keep dx (ho dx (by simp [Tre.own])) _ h4, h5, w2 n B' H' hB zn keep⟩
end
theorem root_put {l n : Tre} {i : Nat} {p : List Nat} : (l.put (i :: p) n).root = l.root := by
  show (match l.kids[i]? with
    | some m => l.withKids (l.kids.set i (m.put p n))
    | none => l).root = _
  cases e : l.kids[i]? with
  | none => rfl
  | some m => exact (kids_with e).2.2
section
variable {K : PySem.W.Frag} {g : G} {σ : L2.St} {vs : List V} {H : Hp} {ρ : Rho} {cs : List C} {i : Nat}
theorem SR.lendSub {x : V} {p : List Nat} {a : Addr} {t : Nat} {l m : Tre} (h : SR K g σ (x :: vs) H ρ (.sub i p a :: cs)) (e : rget ρ i = .own t (.tre l)) (eg : l.get p = some m) (er : m.root = some a) (hp : p ≠ []) :
    x = .ref a ∧ SR K g σ (x :: vs) H (rset ρ i (.own t (.tre (l.put p (.hole a))))) (.own (g.tn + a) (.tre m) :: cs) := by
  have ex : x = .ref a := by
    have q := h.tp.1
    exact Option.some.inj q
  subst ex
  refine ⟨rfl, ?_⟩
  obtain ⟨b, e1, _, q1, q2, q3⟩ := h.own e
  obtain ⟨rt, q1⟩ := q1
  have hlt : i < ρ.length := rget_lt (by rw [e]; exact fun z => nomatch z)
  obtain ⟨j, p', rfl⟩ : ∃ j p', p = j :: p' := by
    cases p with
    | nil => exact absurd rfl hp
    | cons j p' => exact ⟨j, p', rfl⟩
  obtain ⟨R, f1, f2⟩ := foot_put (.hole a) eg
  have en : rget (rset ρ i .no) i = .no := rget_rset hlt
  have pm : (foot σ (rset ρ i (.own t (.tre (l.put (j :: p') (.hole a)))))).Perm (R ++ foot σ (rset ρ i .no)) := by
    have := foot_in (σ := σ) (ρ := rset ρ i .no) (c := .own t (.tre (l.put (j :: p') (.hole a)))) e1 (by rw [rset_len]; exact hlt) en
    rw [rset_rset] at this
    exact this.trans (f2.append_right _)
  have pm0 : (foot σ ρ).Perm (m.foot ++ (R ++ foot σ (rset ρ i .no))) := by
    refine (foot_out e1 e).trans ?_
    show (l.foot ++ _).Perm _
    rw [← List.append_assoc]
    exact f1.append_right _
  have pt : (tot σ (.ref a :: vs) (rset ρ i (.own t (.tre (l.put (j :: p') (.hole a))))) (.own (g.tn + a) (.tre m) :: cs)).Perm (tot σ (.ref a :: vs) ρ (.sub i (j :: p') a :: cs)) := by
    rw [foot_cons_own, tot_cons]
    show (m.foot ++ (foot (vs.map some) cs ++ foot σ _)).Perm ([] ++ (foot (vs.map some) cs ++ foot σ ρ))
    rw [List.nil_append]
    refine (List.perm_append_comm_assoc _ _ _).trans (List.Perm.append_left _ ?_)
    exact (pm.append_left _).trans pm0.symm
  have hB0 : Same (hide H (tot σ (.ref a :: vs) ρ (.sub i (j :: p') a :: cs) ++ g.P0)) (hide H (tot σ (.ref a :: vs) (rset ρ i (.own t (.tre (l.put (j :: p') (.hole a))))) (.own (g.tn + a) (.tre m) :: cs) ++ g.P0)) := hide_step (fun _ _ _ q => q) fun b hb => .inl (pt.mem_iff.mp hb)
  obtain ⟨u, w1, w2⟩ := at_put q1 eg
  obtain ⟨eu, _⟩ := w1.root er
  subst eu
  refine h.gen (fun _ _ _ q => q) (fun _ o q => ⟨o, q⟩) (fun b hb => .inl (pt.mem_iff.mp hb)) (pt.nodup_iff.mpr h.nd) (fun hB => (h.sl.mono hB fun _ _ _ q => q).rset e1 ?_) (fun hB => ⟨⟨a, rfl, ⟨er, TreAt.mono hB m _ (fun _ _ _ q => q) w1⟩, fun _ => g.tgA a, fun z => by have := g.tn0; omega⟩, (RCs.mono hB (fun _ _ _ q => q) h.tp).2⟩) fun k z => h.pk k ?_
  · exact ⟨b, rfl, ⟨by rw [root_put]; exact rt, w2 _ _ H hB rfl fun _ _ _ q => q⟩, q2, q3⟩
  · simp only [List.mem_cons] at z ⊢
    rcases z with (z | z) | (z | z)
    · cases z
    · exact .inl (.inr z)
    · cases z
    · exact .inr (.inr z)
theorem SR.giveSub {x : V} {p : List Nat} {a : Addr} {t N : Nat} {l m : Tre} (h : SR K g σ (x :: vs) H ρ (.own N (.tre m) :: cs)) (e : rget ρ i = .own t (.tre l)) (eg : l.get p = some (.hole a)) (er : m.root = some a) (hp : p ≠ []) :
    SR K g σ vs H (rset ρ i (.own t (.tre (l.put p m)))) cs ∧ (tot σ vs (rset ρ i (.own t (.tre (l.put p m)))) cs).Perm (tot σ (x :: vs) ρ (.own N (.tre m) :: cs)) := by
  obtain ⟨a', ex, ⟨er', om⟩, _⟩ := h.tp.1
  have ea : a' = a := by rw [er] at er'; exact (Option.some.inj er').symm
  subst ea
  have ex : x = .ref a' := Option.some.inj ex
  subst ex
  obtain ⟨b, e1, _, q1, q2, q3⟩ := h.own e
  obtain ⟨rt, q1⟩ := q1
  have hlt : i < ρ.length := rget_lt (by rw [e]; exact fun z => nomatch z)
  obtain ⟨j, p', rfl⟩ : ∃ j p', p = j :: p' := by
    cases p with
    | nil => exact absurd rfl hp
    | cons j p' => exact ⟨j, p', rfl⟩
  obtain ⟨R, f1, f2⟩ := foot_put m eg
  have en : rget (rset ρ i .no) i = .no := rget_rset hlt
  have pm : (foot σ (rset ρ i (.own t (.tre (l.put (j :: p') m))))).Perm (m.foot ++ (R ++ foot σ (rset ρ i .no))) := by
    have := foot_in (σ := σ) (ρ := rset ρ i .no) (c := .own t (.tre (l.put (j :: p') m))) e1 (by rw [rset_len]; exact hlt) en
    rw [rset_rset] at this
    refine this.trans ?_
    rw [← List.append_assoc]
    exact f2.append_right _
  have pm0 : (foot σ ρ).Perm (R ++ foot σ (rset ρ i .no)) := by
    refine (foot_out e1 e).trans ?_
    exact f1.append_right _
  have pt : (tot σ vs (rset ρ i (.own t (.tre (l.put (j :: p') m)))) cs).Perm (tot σ (.ref a' :: vs) ρ (.own N (.tre m) :: cs)) := by
    rw [foot_cons_own]
    show (foot (vs.map some) cs ++ foot σ _).Perm (m.foot ++ (foot (vs.map some) cs ++ foot σ ρ))
    refine List.Perm.trans ?_ (List.perm_append_comm_assoc _ _ _)
    refine List.Perm.append_left _ ?_
    exact pm.trans (pm0.symm.append_left _)
  refine ⟨?_, pt⟩
  refine h.gen (fun _ _ _ q => q) (fun _ o q => ⟨o, q⟩) (fun b hb => .inl (pt.mem_iff.mp hb)) (pt.nodup_iff.mpr h.nd) (fun hB => (h.sl.mono hB fun _ _ _ q => q).rset e1 ?_) (fun hB => (RCs.mono hB (fun _ _ _ q => q) h.tp).2) fun k z => h.pk k (z.imp (List.mem_cons_of_mem _) (List.mem_cons_of_mem _))
  obtain ⟨u, w1, w2⟩ := at_put q1 eg
  have eu : u = .ref a' := w1
  subst eu
  exact ⟨b, rfl, ⟨by rw [root_put]; exact rt, w2 m _ H hB (TreAt.mono hB m _ (fun _ _ _ q => q) om) fun _ _ _ q => q⟩, q2, q3⟩
end
/-! ### calls: every own slot, part or new object among the arguments is the callee's -/
@[reducible] def lendG : List C → Rho → (List C → Rho → Prop) → Prop
  | [], ρ, k => k [] ρ
  | .pk i :: cs, ρ, k => match rget ρ i with
    | .own t o => lendG cs (rset ρ i .no) fun as ρ' => k (.own t o :: as) ρ'
    | _ => False
  | .sub i p a :: cs, ρ, k => match rget ρ i with
    | .own t (.tre l) => match l.get p with
      | some m => (m.root = some a ∧ p ≠ []) ∧ lendG cs (rset ρ i (.own t (.tre (l.put p (.hole a))))) fun as ρ' => k (.own 0 (.tre m) :: as) ρ'
      | none => False
    | _ => False
  | c :: cs, ρ, k => lendG cs ρ fun as ρ' => k (c :: as) ρ'
@[reducible] def argK (ρ : Rho) : Nat → List C → (List C → Prop) → Prop
  | _, [], k => k []
  | n, .own _ o :: cs, k => argK ρ (n + 1) cs fun as => k (.own (n + 1) o :: as)
  | n, .p d :: cs, k => argK ρ (n + 1) cs fun as => k (.p d :: as)
  | n, c :: cs, k => match dat ρ c with
    | some d => argK ρ (n + 1) cs fun as => k (.v d :: as)
    | none => False
@[reducible] def giveG : List C → List C → List C → Rho → (Rho → Prop) → Prop
  | [], _, _, ρ, k => k ρ
  | .pk i :: cs, a :: as, r :: rs, ρ, k => match rget ρ i with
    | .no => giveG cs as rs (rset ρ i (retag a r)) k
    | _ => False
  | .sub i p a :: cs, _ :: as, r :: rs, ρ, k => match rget ρ i, r with
    | .own t (.tre l), .own _ (.tre m) => (l.get p = some (.hole a) ∧ m.root = some a ∧ p ≠ []) ∧ giveG cs as rs (rset ρ i (.own t (.tre (l.put p m)))) k
    | _, _ => giveG cs as rs (rset ρ i .no) k
  | _ :: cs, _ :: as, _ :: rs, ρ, k => giveG cs as rs ρ k
  | _, _, _, _, _ => False
@[reducible] def lfoAll : List C → Bool
  | [] => true
  | c :: cs => c.lfo && lfoAll cs
@[reducible] def callG (S : SpD) (ρ : Rho) (ccs : List C) (Q : KC) (E : KX) : Prop := lendG ccs ρ fun as ρ1 => argK ρ1 0 as fun args => S args
  (fun c rs => (ccs.any C.isLn = true → c.lf = true ∧ lfoAll rs = true) ∧ giveG ccs as rs ρ1 (Q c))
  (fun x rs => (ccs.any C.isLn = true → x.fs = [] ∧ lfoAll rs = true) ∧ giveG ccs as rs ρ1 (E x))
@[reducible] def wCallG (S : SpD) (wa : WA) : WE := fun ρ Q E => wa ρ (fun ccs ρ1 => callG S ρ1 ccs Q E) E
def conv (n : Nat) : List C → List C → List C
  | .sub _ _ a :: cs, .own _ o :: as => .own (n + a) o :: conv n cs as
  | _ :: cs, a :: as => a :: conv n cs as
  | _, _ => []
def Links (σ : L2.St) : List V → List C → Prop
  | x :: xs, .pk i :: cs => σ[i]? = some (some x) ∧ Links σ xs cs
  | _ :: xs, _ :: cs => Links σ xs cs
  | _, _ => True
inductive Conv : C → C → Prop
  | pk (i : Nat) (t : Nat) (o : OD) : Conv (.pk i) (.own t o)
  | sub (i : Nat) (p : List Nat) (a : Addr) (m : Tre) : Conv (.sub i p a) (.own 0 (.tre m))
  | same (c : C) (h1 : ∀ i, c ≠ .pk i) (h2 : ∀ i p a, c ≠ .sub i p a) : Conv c c
inductive Convs : List C → List C → Prop
  | nil : Convs [] []
  | cons {c a : C} {cs as : List C} : Conv c a → Convs cs as → Convs (c :: cs) (a :: as)
theorem Convs.len : ∀ {cs as : List C}, Convs cs as → cs.length = as.length
  | _, _, .nil => rfl
  | _, _, .cons _ h => by rw [List.length_cons, List.length_cons, Convs.len h]
theorem Convs.conv_len : ∀ {cs as : List C} {n : Nat}, Convs cs as → (conv n cs as).length = cs.length
  | _, _, n, .nil => rfl
  | _, _, n, .cons (c := c) (a := a) (cs := cs) (as := as) q h => by
    have ih := Convs.conv_len (n := n) h
    cases q with
    | pk i t o => show (C.own t o :: conv n cs as).length = _; rw [List.length_cons, List.length_cons, ih]
    | sub i p a m => show (C.own (n + a) (.tre m) :: conv n cs as).length = _; rw [List.length_cons, List.length_cons, ih]
    | same c h1 h2 =>
      have e : conv n (c :: cs) (c :: as) = c :: conv n cs as := by
        cases c with
        | sub i p a => exact absurd rfl (h2 i p a)
        | _ => rfl
      rw [e, List.length_cons, List.length_cons, ih]
theorem Convs.isLn : ∀ {cs as : List C} {n : Nat}, Convs cs as → (conv n cs as).any C.isLn = cs.any C.isLn
  | _, _, n, .nil => rfl
  | _, _, n, .cons (c := c) (a := a) (cs := cs) (as := as) q h => by
    have ih := Convs.isLn (n := n) h
    cases q with
    | pk i t o => show ((C.own t o).isLn || (conv n cs as).any C.isLn) = ((C.pk i).isLn || _); rw [ih]
    | sub i p a m => show ((C.own (n + a) (.tre m)).isLn || (conv n cs as).any C.isLn) = ((C.sub i p a).isLn || _); rw [ih]
    | same c h1 h2 =>
      have e : conv n (c :: cs) (c :: as) = c :: conv n cs as := by
        cases c with
        | sub i p a => exact absurd rfl (h2 i p a)
        | _ => rfl
      rw [e, List.any_cons, List.any_cons, ih]
theorem argK_M {ρ : Rho} : ∀ {cs as : List C} {N n : Nat} {k : List C → Prop}, Convs cs as → argK ρ n as k → ∃ args, argM ρ n (conv N cs as) = some args ∧ k args
  | _, _, N, n, k, .nil, h => ⟨[], rfl, h⟩
  | _, _, N, n, k, .cons (c := c) (a := a) (cs := cs) (as := as) q hc, h => by
    cases q with
    | pk i t o =>
      obtain ⟨args, e, z⟩ := argK_M (N := N) (n := n + 1) hc h
      refine ⟨.own (n + 1) o :: args, ?_, z⟩
      show argM ρ n (C.own t o :: conv N cs as) = _
      unfold argM
      rw [e]; rfl
    | sub i p a m =>
      obtain ⟨args, e, z⟩ := argK_M (N := N) (n := n + 1) hc h
      refine ⟨.own (n + 1) (.tre m) :: args, ?_, z⟩
      show argM ρ n (C.own (N + a) (.tre m) :: conv N cs as) = _
      unfold argM
      rw [e]; rfl
    | same c h1 h2 =>
      have ec : conv N (c :: cs) (c :: as) = c :: conv N cs as := by
        cases c with
        | sub i p a => exact absurd rfl (h2 i p a)
        | _ => rfl
      rw [ec]
      cases c with
      | own t o =>
        obtain ⟨args, e, z⟩ := argK_M (N := N) (n := n + 1) hc h
        refine ⟨.own (n + 1) o :: args, ?_, z⟩
        unfold argM
        rw [e]; rfl
      | p d =>
        obtain ⟨args, e, z⟩ := argK_M (N := N) (n := n + 1) hc h
        refine ⟨.p d :: args, ?_, z⟩
        unfold argM
        rw [e]; rfl
      | no => exact h.elim
      | pk i => exact absurd rfl (h1 i)
      | sub i p a => exact absurd rfl (h2 i p a)
      | v d =>
        obtain ⟨args, e, z⟩ := argK_M (N := N) (n := n + 1) hc h
        refine ⟨.v d :: args, ?_, z⟩
        unfold argM
        rw [e]
      | ln i =>
        have h : (match dat ρ (.ln i) with
          | some d => argK ρ (n + 1) as fun as => k (.v d :: as)
          | none => False) := h
        cases ed : dat ρ (.ln i) with
        | none => rw [ed] at h; exact h.elim
        | some d =>
          rw [ed] at h
          obtain ⟨args, e, z⟩ := argK_M (N := N) (n := n + 1) hc h
          refine ⟨.v d :: args, ?_, z⟩
          unfold argM
          rw [ed, e]
theorem lfo_retags : ∀ {as rs : List C}, lfoAll rs = true → as.length = rs.length → ∀ r ∈ retags as rs, r.lfo = true
  | [], [], _, _, r, h => by simp [retags] at h
  | a :: as, r :: rs, h, hl, q, hq => by
    have h' : r.lfo = true ∧ lfoAll rs = true := by simpa [lfoAll] using h
    rcases List.mem_cons.mp (show q ∈ retag a r :: retags as rs from hq) with e | hq
    · rw [e]
      cases a with
      | own t o =>
        cases r with
        | own t' o' =>
          show C.lfo (.own t o') = true
          rw [show C.lfo (.own t o') = C.lfo (.own t' o') by cases o' <;> rfl]
          exact h'.1
        | _ => rfl
      | _ => cases r <;> rfl
    · exact lfo_retags h'.2 (by simpa using hl) q hq
  | [], _ :: _, _, hl, _, _ => by simp at hl
  | _ :: _, [], _, hl, _, _ => by simp at hl
section
variable {K : PySem.W.Frag} {g : G} {W : WX} {σ : L2.St} {vs : List V} {H : Hp} {ρ : Rho} {cs : List C} {i : Nat}
theorem links_of {B : Hp} : ∀ {xs : List V} {ccs : List C}, RCs K g σ B H (xs.map some) ccs → Links σ xs ccs
  | [], [], _ => trivial
  | x :: xs, c :: ccs, h => by
    have ih := links_of (xs := xs) (ccs := ccs) h.2
    cases c with
    | pk i =>
      obtain ⟨y, e, q⟩ := h.1
      cases e
      exact ⟨q, ih⟩
    | _ => exact ih
  | [], _ :: _, h => h.elim
  | _ :: _, [], h => h.elim
theorem SR.splitTp {xs : List V} {ccs : List C} (hl : xs.length = ccs.length) (h : SR K g σ (xs ++ vs) H ρ (ccs ++ cs)) : RCs K g σ (hide H (tot σ (xs ++ vs) ρ (ccs ++ cs) ++ g.P0)) H (xs.map some) ccs := by
  have q := h.tp
  rw [List.map_append] at q
  exact (RCs.split (by simpa using hl) q).1
theorem lend_all : ∀ (ccs : List C) (xs pre : List V) (preC : List C) (ρ : Rho) (k : List C → Rho → Prop), pre.length = preC.length → xs.length = ccs.length → SR K g σ (pre ++ (xs ++ vs)) H ρ (preC ++ (ccs ++ cs)) →
    lendG ccs ρ k → ∃ as ρ', Convs ccs as ∧ SR K g σ (pre ++ (xs ++ vs)) H ρ' (preC ++ (conv g.tn ccs as ++ cs)) ∧ k as ρ'
  | [], xs, pre, preC, ρ, k, hp, hl, h, q => by
    cases xs with
    | nil => exact ⟨[], ρ, .nil, h, q⟩
    | cons _ _ => simp at hl
  | c :: ccs, xs, pre, preC, ρ, k, hp, hl, h, q => by
    cases xs with
    | nil => simp at hl
    | cons x xs =>
      have hl' : xs.length = ccs.length := by simpa using hl
      have up : SR K g σ (x :: (pre ++ (xs ++ vs))) H ρ (c :: (preC ++ (ccs ++ cs))) := SR.rot hp h
      have down : ∀ {ρ' : Rho} {c' : C}, SR K g σ (x :: (pre ++ (xs ++ vs))) H ρ' (c' :: (preC ++ (ccs ++ cs))) → SR K g σ ((pre ++ [x]) ++ (xs ++ vs)) H ρ' ((preC ++ [c']) ++ (ccs ++ cs)) := fun S => by
        have := SR.unrot hp S
        rw [List.append_assoc, List.append_assoc]; exact this
      have back : ∀ {ρ' : Rho} {c' : C} {as : List C}, SR K g σ ((pre ++ [x]) ++ (xs ++ vs)) H ρ' ((preC ++ [c']) ++ (conv g.tn ccs as ++ cs)) → SR K g σ (pre ++ (x :: xs ++ vs)) H ρ' (preC ++ ((c' :: conv g.tn ccs as) ++ cs)) := fun S => by
        rw [List.append_assoc, List.append_assoc] at S; exact S
      have hp' : ∀ c' : C, (pre ++ [x]).length = (preC ++ [c']).length := fun c' => by simp [hp]
      have plain : (∀ i, c ≠ .pk i) → (∀ i p a, c ≠ .sub i p a) → lendG ccs ρ (fun as ρ' => k (c :: as) ρ') → ∃ as ρ', Convs (c :: ccs) as ∧ SR K g σ (pre ++ (x :: xs ++ vs)) H ρ' (preC ++ (conv g.tn (c :: ccs) as ++ cs)) ∧ k as ρ' := by
        intro n1 n2 q
        obtain ⟨as, ρ', h1, h2, h5⟩ := lend_all ccs xs (pre ++ [x]) (preC ++ [c]) ρ _ (hp' c) hl' (down up) q
        refine ⟨c :: as, ρ', .cons (.same c n1 n2) h1, ?_, h5⟩
        have e : conv g.tn (c :: ccs) (c :: as) = c :: conv g.tn ccs as := by
          cases c with
          | sub i p a => exact absurd rfl (n2 i p a)
          | _ => rfl
        rw [e]
        exact back h2
      cases c with
      | no => exact plain (fun i z => by cases z) (fun i p a z => by cases z) q
      | v d => exact plain (fun i z => by cases z) (fun i p a z => by cases z) q
      | p d => exact plain (fun i z => by cases z) (fun i p a z => by cases z) q
      | own t o => exact plain (fun i z => by cases z) (fun i p a z => by cases z) q
      | ln i => exact plain (fun i z => by cases z) (fun i p a z => by cases z) q
      | pk i =>
        unfold lendG at q
        split at q
        · rename_i t o eo
          obtain ⟨ex, S1⟩ := up.moveOut eo
          obtain ⟨as, ρ', h1, h2, h5⟩ := lend_all ccs xs (pre ++ [x]) (preC ++ [.own t o]) _ _ (hp' _) hl' (down S1) q
          exact ⟨.own t o :: as, ρ', .cons (.pk i t o) h1, back h2, h5⟩
        · exact q.elim
      | sub i p a =>
        unfold lendG at q
        split at q
        · rename_i t l eo
          split at q
          · rename_i m em
            obtain ⟨⟨q1, q2⟩, q⟩ := q
            obtain ⟨ex, S1⟩ := up.lendSub eo em q1 q2
            obtain ⟨as, ρ', h1, h2, h5⟩ := lend_all ccs xs (pre ++ [x]) (preC ++ [.own (g.tn + a) (.tre m)]) _ _ (hp' _) hl' (down S1) q
            exact ⟨.own 0 (.tre m) :: as, ρ', .cons (.sub i p a m) h1, back h2, h5⟩
          · exact q.elim
        · exact q.elim
theorem tot_rot {x : V} {c : C} {xs : List V} {ccs : List C} (hl : xs.length = ccs.length) : (tot σ (xs ++ x :: vs) ρ (ccs ++ c :: cs)).Perm (tot σ (x :: (xs ++ vs)) ρ (c :: (ccs ++ cs))) := by
  rw [tot_app hl, tot_cons, tot_cons, tot_app hl]
  exact List.perm_append_comm_assoc _ _ _
theorem tot_moveIn {x : V} {c : C} (e1 : σ[i]? = some (some x)) (hl : i < ρ.length) (e2 : rget ρ i = .no) : (tot σ vs (rset ρ i c) cs).Perm (tot σ (x :: vs) ρ (c :: cs)) := by
  rw [tot_cons]
  exact (List.Perm.append_left _ (foot_in e1 hl e2)).trans (List.perm_append_comm_assoc _ _ _)
theorem give_all : ∀ (ccs as rs : List C) (xs pre : List V) (preC : List C) (ρ : Rho) (N : Nat) (k : Rho → Prop), pre.length = preC.length → xs.length = ccs.length → Convs ccs as → rs.length = as.length → Links σ xs ccs →
    SR K g σ (pre ++ (xs ++ vs)) H ρ (preC ++ (retags (conv N ccs as) rs ++ cs)) → giveG ccs as rs ρ k →
    ∃ ρ', SR K g σ (pre ++ vs) H ρ' (preC ++ cs) ∧ (∀ a ∈ tot σ (pre ++ vs) ρ' (preC ++ cs), a ∈ tot σ (pre ++ (xs ++ vs)) ρ (preC ++ (retags (conv N ccs as) rs ++ cs))) ∧ k ρ'
  | [], as, rs, xs, pre, preC, ρ, N, k, hp, hl, hc, hr, lk, h, q => by
    cases xs with
    | nil =>
      cases hc
      cases rs with
      | nil => exact ⟨ρ, h, fun a z => z, q⟩
      | cons _ _ => simp at hr
    | cons _ _ => simp at hl
  | c :: ccs, as, rs, xs, pre, preC, ρ, N, k, hp, hl, hc, hr, lk, h, q => by
    cases hc with
    | @cons _ a _ as hc1 hc =>
      cases xs with
      | nil => simp at hl
      | cons x xs =>
        cases rs with
        | nil => simp at hr
        | cons r rs =>
          have hl' : xs.length = ccs.length := by simpa using hl
          have hr' : rs.length = as.length := by simpa using hr
          -- the general step: c' stands for the argument, ρ1 is what the slots are behind it
          have step : ∀ (c' : C) (lk' : Links σ xs ccs), SR K g σ (pre ++ (x :: xs ++ vs)) H ρ (preC ++ ((c' :: retags (conv N ccs as) rs) ++ cs)) → ∀ ρ1, SR K g σ (pre ++ (xs ++ vs)) H ρ1 (preC ++ (retags (conv N ccs as) rs ++ cs)) →
              (∀ b ∈ tot σ (pre ++ (xs ++ vs)) ρ1 (preC ++ (retags (conv N ccs as) rs ++ cs)), b ∈ tot σ (pre ++ (x :: xs ++ vs)) ρ (preC ++ ((c' :: retags (conv N ccs as) rs) ++ cs))) → giveG ccs as rs ρ1 k →
              ∃ ρ', SR K g σ (pre ++ vs) H ρ' (preC ++ cs) ∧ (∀ b ∈ tot σ (pre ++ vs) ρ' (preC ++ cs), b ∈ tot σ (pre ++ (x :: xs ++ vs)) ρ (preC ++ ((c' :: retags (conv N ccs as) rs) ++ cs))) ∧ k ρ' := by
            intro c' lk' _ ρ1 S1 sb q
            obtain ⟨ρ', h1, h2, h4⟩ := give_all ccs as rs xs pre preC ρ1 N k hp hl' hc hr' lk' S1 q
            exact ⟨ρ', h1, fun b z => sb b (h2 b z), h4⟩
          have popIt : ∀ (c' : C) (lk' : Links σ xs ccs), SR K g σ (pre ++ (x :: xs ++ vs)) H ρ (preC ++ ((c' :: retags (conv N ccs as) rs) ++ cs)) → giveG ccs as rs ρ k →
              ∃ ρ', SR K g σ (pre ++ vs) H ρ' (preC ++ cs) ∧ (∀ b ∈ tot σ (pre ++ vs) ρ' (preC ++ cs), b ∈ tot σ (pre ++ (x :: xs ++ vs)) ρ (preC ++ ((c' :: retags (conv N ccs as) rs) ++ cs))) ∧ k ρ' := by
            intro c' lk' S q
            have up : SR K g σ (x :: (pre ++ (xs ++ vs))) H ρ (c' :: (preC ++ (retags (conv N ccs as) rs ++ cs))) := SR.rot hp S
            refine step c' lk' S ρ up.pop (fun b z => ?_) q
            refine (tot_rot (x := x) (c := c') hp).mem_iff.mpr ?_
            rw [tot_cons]
            exact List.mem_append_right _ z
          cases hc1 with
          | same c h1 h2 =>
            have ec : conv N (c :: ccs) (c :: as) = c :: conv N ccs as := by
              cases c with
              | sub i p a => exact absurd rfl (h2 i p a)
              | _ => rfl
            rw [ec] at h ⊢
            have lk' : Links σ xs ccs := by
              cases c with
              | pk i => exact absurd rfl (h1 i)
              | _ => exact lk
            have q' : giveG ccs as rs ρ k := by
              cases c with
              | pk i => exact absurd rfl (h1 i)
              | sub i p a => exact absurd rfl (h2 i p a)
              | _ => exact q
            exact popIt (retag c r) lk' h q'
          | pk i t o =>
            have h : SR K g σ (pre ++ (x :: xs ++ vs)) H ρ (preC ++ ((retag (.own t o) r :: retags (conv N ccs as) rs) ++ cs)) := h
            show ∃ ρ', _ ∧ (∀ b ∈ _, b ∈ tot σ (pre ++ (x :: xs ++ vs)) ρ (preC ++ ((retag (.own t o) r :: retags (conv N ccs as) rs) ++ cs))) ∧ _
            obtain ⟨ex, lk'⟩ := lk
            have q : (match rget ρ i with
              | .no => giveG ccs as rs (rset ρ i (retag (.own t o) r)) k
              | _ => False) := q
            split at q
            · rename_i en
              have up : SR K g σ (x :: (pre ++ (xs ++ vs))) H ρ (retag (.own t o) r :: (preC ++ (retags (conv N ccs as) rs ++ cs))) := SR.rot hp h
              have hpl : (retag (.own t o) r).plain = true ∨ retag (.own t o) r = .no := by
                rcases retag_own (t := t) (o := o) (r := r) with ⟨o', w⟩ | w
                · rw [w]; exact .inl rfl
                · exact .inr w
              have S1 := up.putBack ex en hpl
              refine step _ lk' h _ S1 (fun b z => ?_) q
              refine (tot_rot (x := x) (c := retag (.own t o) r) hp).mem_iff.mpr ?_
              have hlt : i < ρ.length := by rw [← h.len]; exact (List.getElem?_eq_some_iff.mp ex).1
              exact (tot_moveIn ex hlt en).mem_iff.mp z
            · exact q.elim
          | sub i p a m =>
            have h : SR K g σ (pre ++ (x :: xs ++ vs)) H ρ (preC ++ ((retag (.own (N + a) (.tre m)) r :: retags (conv N ccs as) rs) ++ cs)) := h
            show ∃ ρ', _ ∧ (∀ b ∈ _, b ∈ tot σ (pre ++ (x :: xs ++ vs)) ρ (preC ++ ((retag (.own (N + a) (.tre m)) r :: retags (conv N ccs as) rs) ++ cs))) ∧ _
            have lk' : Links σ xs ccs := lk
            have up : SR K g σ (x :: (pre ++ (xs ++ vs))) H ρ (retag (.own (N + a) (.tre m)) r :: (preC ++ (retags (conv N ccs as) rs ++ cs))) := SR.rot hp h
            have lost : giveG ccs as rs (rset ρ i .no) k → ∃ ρ', SR K g σ (pre ++ vs) H ρ' (preC ++ cs) ∧ (∀ b ∈ tot σ (pre ++ vs) ρ' (preC ++ cs), b ∈ tot σ (pre ++ (x :: xs ++ vs)) ρ (preC ++ ((retag (.own (N + a) (.tre m)) r :: retags (conv N ccs as) rs) ++ cs))) ∧ k ρ' := fun q => by
              have S1 := up.pop.clear i
              refine step _ lk' h _ S1 (fun b z => ?_) q
              refine (tot_rot (x := x) (c := retag (.own (N + a) (.tre m)) r) hp).mem_iff.mpr ?_
              rw [tot_cons]
              refine List.mem_append_right _ ?_
              rcases List.mem_append.mp z with z | z
              · exact List.mem_append_left _ z
              · exact List.mem_append_right _ (foot_clear.subset z)
            unfold giveG at q
            cases eo : rget ρ i with
            | own t o =>
              cases o with
              | tre l =>
                cases r with
                | own t' o' =>
                  cases o' with
                  | tre m' =>
                    rw [eo] at q
                    obtain ⟨⟨q1, q2, q3⟩, q⟩ := q
                    have up' : SR K g σ (x :: (pre ++ (xs ++ vs))) H ρ (.own (N + a) (.tre m') :: (preC ++ (retags (conv N ccs as) rs ++ cs))) := up
                    obtain ⟨S1, pt⟩ := up'.giveSub eo q1 q2 q3
                    refine step _ lk' h _ S1 (fun b z => ?_) q
                    exact (tot_rot (x := x) (c := .own (N + a) (.tre m')) hp).mem_iff.mpr (pt.mem_iff.mp z)
                  | _ => rw [eo] at q; exact lost q
                | _ => rw [eo] at q; exact lost q
              | _ => rw [eo] at q; exact lost q
            | _ => rw [eo] at q; exact lost q
end
section
variable {K : PySem.W.Frag} {g : G} {W : WX} {σ : L2.St} {vs : List V} {H : Hp} {ρ : Rho} {cs : List C} {i : Nat}
theorem SR.callG {S : SpD} {xs : List V} {ccs : List C} {QD : KC} {ED : KX} {E : XK} {Q : VK} (hl : xs.length = ccs.length) (h : SR K g σ (xs ++ vs) H ρ (ccs ++ cs)) (q : DL.callG S ρ ccs QD ED) (hX : XEnds K g W σ ED) (hE : ∀ cls d σ H, W cls d σ H → E cls d H)
    (hQ : ∀ v H' c ρ', SR K g σ (v :: vs) H' ρ' (c :: cs) → QD c ρ' → Q v H') : spOf K S xs H Q E := by
  have lk : Links σ xs ccs := links_of (h.splitTp hl)
  obtain ⟨as, ρ1, cv, S1, q⟩ := lend_all ccs xs [] [] ρ _ rfl hl h q
  have S1 : SR K g σ (xs ++ vs) H ρ1 (conv g.tn ccs as ++ cs) := S1
  obtain ⟨args, ea, q⟩ := argK_M (N := g.tn) cv q
  have hl2 : xs.length = (conv g.tn ccs as).length := by rw [cv.conv_len]; exact hl
  obtain ⟨P, entry, ret, exc⟩ := SR.callM S1 hl2 ea
  refine ⟨_, P, _, _, entry, q, fun c rs hk qd v H' S' => ?_, fun y rs ed cls d H' S' xr => ?_⟩
  · obtain ⟨ok, qd⟩ := qd
    have el : rs.length = as.length := by rw [entry_len S', hl, cv.len]
    have el2 : (conv g.tn ccs as).length = rs.length := by rw [cv.conv_len, el, cv.len]
    have S2 := ret v H' c rs hk S' fun z => by
      rw [cv.isLn] at z
      exact ⟨(ok z).1, lfo_retags (ok z).2 el2⟩
    obtain ⟨ρ2, S3, _, q2⟩ := give_all ccs as rs xs [v] [c] ρ1 g.tn _ rfl hl cv el lk S2 qd
    exact hQ v H' c ρ2 S3 q2
  · obtain ⟨ok, ed⟩ := ed
    have el : rs.length = as.length := by rw [entry_len S', hl, cv.len]
    have el2 : (conv g.tn ccs as).length = rs.length := by rw [cv.conv_len, el, cv.len]
    obtain ⟨S2, hs⟩ := exc H' rs S' fun z => by
      rw [cv.isLn] at z
      exact lfo_retags (ok z).2 el2
    obtain ⟨ρ2, S3, sb, q2⟩ := give_all ccs as rs xs [] [] ρ1 g.tn _ rfl hl cv el lk S2 ed
    have S4 : SR K g σ vs H' ρ2 cs := S3
    refine hE cls d σ H' (hX y ρ2 cls d H' S4.popAll (XRep.mono ?_ xr) q2)
    cases hb : ccs.any C.isLn with
    | true => exact .inl (ok hb).1
    | false =>
      refine .inr ((hs (by rw [cv.isLn]; exact hb)).trans fun a u z => ?_)
      obtain ⟨z1, z2⟩ := hide_some.mp z
      refine hide_some.mpr ⟨fun w => z1 ?_, z2⟩
      rcases List.mem_append.mp w with w | w
      · exact List.mem_append_left _ (sb a (List.mem_append_right _ w))
      · exact List.mem_append_right _ w
end
section
variable {X : Cx} {g : G} {W : WX} {CX : CXT} {k : Nat} {f : Addr} {fd : FuncData} {ps : List Str} {S : SpD} {E : XK} {x : Str} {p pos : Pos} {e : Expr} {es : List Expr} {wa : WA}
end
end DL
namespace DL
end DL

set_option Elab.async false
set_option linter.all false
set_option maxRecDepth 100000
set_option maxHeartbeats 4000000
/-! DLPlain: plain tuples: tuple(xs) of a list, dict(t); sorted(f(..).items()) -/
namespace DL
open PySem PySem.Spec PyProof.Rows L2
section
variable {X : Cx}
theorem call_tupP : CallR X (.type "tuple") (fun xs H Q => ∃ p ys, xs = [.ref p] ∧ SqL X.K H p ys ∧ ∀ (l : Addr) (o : Obj), H l = none → o.dict = none → Q (.ref l) (upd H l (.frz o (.tup ys)))) := by
  intro pins s σ H xs us Q I r h
  obtain ⟨p, ys, rfl, hq, q⟩ := h
  obtain ⟨u, rfl, rx⟩ := vals1 r
  cases rx
  obtain ⟨its, r', pl, hz⟩ := I.list hq
  have hlen := r'.length
  refine call_tuple_list pl.isList (fun h' kp => ?_) (by simp only [List.size_toArray] <;> omega)
  have I1 : Inv X pins σ H { s with heap := h' } := I.kept (t' := s.toks) kp
  have I2 : Inv X pins σ (upd H h'.objs.size (.frz { cls := .type "tuple", data := .seq its.toArray } (.tup ys))) { s with heap := h'.push { cls := .type "tuple", data := .seq its.toArray } } :=
    I1.laid (t' := s.toks) (fun b o e => Heap.get?_push_of_some _ e) (Nat.le_refl _) (show ObjOk X.prog X.w _ _ _ (.frz _ (.tup ys)) from ⟨Heap.get?_push_size _ rfl, hz, its, r', IsTup.new _ _⟩)
  exact ⟨.ref h'.objs.size, _, I2, rfl, q _ _ (I1.hok.fresh (Nat.le_refl _)) rfl⟩
@[reducible] def oTupP : OL := fun ds k => match ds with
  | [.list es] => k (.p (.tuple es))
  | _ => False
theorem new_tupP {K : PySem.W.Frag} {O : List Addr} {H : Hp} {p : Addr} {o : Obj} {xs : List V} {ds : List D} (n : H p = none) (ho : o.dict = none) (hO : p ∉ O) (h : DpAll K (hide H O) xs ds) : NewRes K O H (upd H p (.frz o (.tup xs))) (.ref p) (.p (.tuple ds)) := by
  refine ⟨.tup (.inl (.inr ⟨o, hide_some.mpr ⟨hO, upd_same⟩⟩)) (dpAll_mono (fun a o q => ?_) _ _ h), p, o, xs, rfl, hide_some.mpr ⟨hO, upd_same⟩, ho⟩
  obtain ⟨h1, h2⟩ := hide_some.mp q
  exact hide_some.mpr ⟨h1, same_new n a o h2⟩
theorem lift_tupP {K : PySem.W.Frag} : LiftL K (fun xs H Q => ∃ p ys, xs = [.ref p] ∧ SqL K H p ys ∧ ∀ (l : Addr) (o : Obj), H l = none → o.dict = none → Q (.ref l) (upd H l (.frz o (.tup ys)))) oTupP := by
  intro O H xs ds QD Q hO hx q fin
  unfold oTupP at q
  split at q
  · rename_i es
    cases hx with
    | cons h1 h2 =>
      cases h2
      cases h1 with
      | lst a1 a2 => exact ⟨_, _, rfl, Same.seq same_hide a1, fun p o n ho => fin _ _ (.p _) (same_new n) (new_tupP n ho (fun z => by obtain ⟨u, e⟩ := hO p z; rw [n] at e; cases e) a2) q⟩
  · exact q.elim
end
section
variable {X : Cx} {g : G} {W : WX} {e : Expr} {es : List Expr} {wa : WA} {we : WE} {p pos : Pos}
theorem ee_tupP (hg : Gl X "tuple") (hm : X.mg "tuple" = none) (ha : EA X g W (e :: es) wa) (he : starEach (e :: es) X.env = (false, eval e X.env) :: starEach es X.env := by rfl) (hpl : (backTo pos (starEach es X.env)).any (·.1) = false := by rfl) : EE X g W (.Call (.Name "tuple" p) (e :: es) [] pos) (wL oTupP wa) :=
  ee_ct call_tupP lift_tupP hg hm (by decide +kernel) ha (he := he) (hpl := hpl)
end
/-! ### dict(t), t a plain tuple of pairs -/
theorem pairs_of2 {X : Cx} {pins : List (Addr × Obj)} {σ : L2.St} {H : Hp} {s : Shared} (I : Inv X pins σ H s) : ∀ {ps : List Addr} {kvs : List (Key × V)}, Paired (fun p kv => SqT X.K H p [kV kv.1, kv.2]) ps kvs →
    ∃ (prs : List (Key × Value)) (us : List Value), KV kvs prs ∧ prs.length = ps.length ∧ us.length = ps.length ∧ ∀ (j : Nat) (q : Key × Value) (u : Value), prs[j]? = some q → us[j]? = some u → ∃ (b : Addr), ps[j]? = some b ∧ IsTup s.heap b #[u, q.2] ∧ keyIs q.1 u = true
  | _, _, .nil => ⟨[], [], .nil, rfl, rfl, fun j q u e => by simp at e⟩
  | _, _, .cons (a := p) (b := kv) h t => by
    obtain ⟨prs, us, r, hl, hl2, hp⟩ := pairs_of2 I t
    obtain ⟨prs1, r1, hl1, hp1⟩ := pairs_of I (.cons (a := p) (b := kv) h .nil)
    match prs1, hl1, r1, hp1 with
    | [q1], _, .cons a1 .nil, hp1 =>
      obtain ⟨b, u, b1, b2, b3⟩ := hp1 0 q1 rfl
      have b1 : some p = some b := b1
      cases b1
      refine ⟨q1 :: prs, u :: us, .cons a1 r, by rw [List.length_cons, List.length_cons, hl], by rw [List.length_cons, List.length_cons, hl2], fun j q v e e' => ?_⟩
      cases j with
      | zero =>
        have e : some q1 = some q := e
        have e' : some u = some v := e'
        cases e; cases e'
        exact ⟨p, rfl, b2, b3⟩
      | succ j => exact hp j q v e e'
def rDictT (K : PySem.W.Frag) : List V → Hp → VK → Prop := fun xs H Q => ∃ (a : Addr) (o : Obj) (u : HO) (ps : List Addr) (kvs : List (Key × V)), xs = [.ref a] ∧ SqT K H a (ps.map V.ref) ∧ H a = some (.frz o u) ∧ o.dict = none ∧ Paired (fun p kv => SqT K H p [kV kv.1, kv.2]) ps kvs ∧
    ∀ p, H p = none → Q (.ref p) (upd H p (.dK (mergeK [] kvs)))
theorem call_dictT {X : Cx} (hcalm : X.calm = true) : CallR X (.type "dict") (rDictT X.K) := by
  intro pins s σ H xs us Q I r q
  obtain ⟨a, o, u0, ps, kvs, ex, hq, ha, hod, hp, q⟩ := q
  subst ex
  obtain ⟨u, eu, rx⟩ := vals1 r
  subst eu
  cases rx
  obtain ⟨ho, _⟩ := (show ObjOk X.prog X.w H s.heap a (.frz o u0) from I.hok a _ ha)
  obtain ⟨its, rv, pl, hz⟩ := I.tuple hq
  have ei := refs_at rv
  subst ei
  rw [List.length_map] at hz
  obtain ⟨prs, us, rel, hl, hl2, hpr⟩ := pairs_of2 I hp
  have hlz : (us.zip (prs.map (·.2))).length = ps.length := by rw [List.length_zip, List.length_map, hl, hl2, Nat.min_self]
  have at_ : ∀ (j : Nat) (k v : Value), (us.zip (prs.map (·.2)))[j]? = some (k, v) → ∃ q b, prs[j]? = some q ∧ q.2 = v ∧ ps[j]? = some b ∧ IsTup s.heap b #[k, v] ∧ keyIs q.1 k = true := fun j k v e => by
    obtain ⟨e1, e2⟩ := List.getElem?_zip_eq_some.mp e
    rw [List.getElem?_map] at e2
    obtain ⟨q, e3, rfl⟩ := Option.map_eq_some_iff.mp e2
    obtain ⟨b, b1, b2, b3⟩ := hpr j q k e3 e1
    exact ⟨q, b, e3, rfl, b1, b2, b3⟩
  have ok : PlainSeq "tuple" s.heap a (ps.map Value.ref).toArray ∧ PairItems s.heap (ps.map Value.ref).toArray (fun j => ps.getD j 0) (us.zip (prs.map (·.2))) := by
    obtain ⟨o', ho', hc, n, hd⟩ := pl
    rw [ho] at ho'
    cases ho'
    refine ⟨⟨o, n, ho, hc, hod, hd⟩, by rw [List.size_toArray, List.length_map, hlz], fun j k v e => ?_⟩
    obtain ⟨q, b, _, _, b1, b2, _⟩ := at_ j k v e
    have e4 : ps.getD j 0 = b := by rw [List.getD_eq_getElem?_getD, b1]; rfl
    refine ⟨by rw [List.getElem?_toArray, List.getElem?_map, b1]; show some (Value.ref b) = some (Value.ref (ps.getD j 0)); rw [e4], ?_⟩
    show PairAt s.heap (ps.getD j 0) k v
    rw [e4]
    exact .inl b2
  refine PySem.call_dict_pairs (knd := mixKind X.prog X.w) (kvs := prs) (PairArg.tuple a (ps.map Value.ref).toArray (fun j => ps.getD j 0) (us.zip (prs.map (·.2)))) (I.ok.hd hcalm) ok ⟨by rw [hl, hlz], fun j k v e => ?_⟩ (by rw [hlz]; exact hz) fun h' tk hd' kp => ?_
  · obtain ⟨q, b, e1, e2, _, _, b3⟩ := at_ j k v e
    exact ⟨q.1, by rw [e1, ← e2], b3⟩
  · have k : ∀ b o, s.heap.get? b = some o → h'.get? b = some o := fun b o e => kp b o (fun z => nomatch z) e
    have hm : (s.heap.objs.size == sysModules) = false := beq_eq_false_iff_ne.mpr (Nat.ne_of_gt I.big)
    have hlen : (mergeK [] kvs).length ≤ sizeLine := by
      refine Nat.le_trans (length_mergeK kvs []) ?_
      rw [List.length_nil, Nat.zero_add, rel.length, hl]
      exact hz
    exact ⟨.ref s.heap.objs.size, upd H s.heap.objs.size (.dK (mergeK [] kvs)), I.laid (t' := tk) k (Nat.le_refl _) (show ObjOk X.prog X.w _ _ _ (.dK (mergeK [] kvs)) from ⟨hlen, hm, merged [] prs, KV.merge rel .nil, hd'⟩), rfl, q _ (I.hok.fresh (Nat.le_refl _))⟩
section
variable {K : PySem.W.Frag} {g : G} {σ : L2.St} {vs : List V} {H : Hp} {ρ : Rho} {cs : List C}
theorem SR.topP {x : V} {d : D} (h : SR K g σ (x :: vs) H ρ (.p d :: cs)) : Dp K (hide H (tot σ vs ρ cs ++ g.P0)) x d ∧ PlainT (hide H (tot σ vs ρ cs ++ g.P0)) x := by
  obtain ⟨x', e, q1, q2⟩ := h.tp.1
  cases e
  have ft : tot σ (x :: vs) ρ (.p d :: cs) = tot σ vs ρ cs := by rw [tot_cons, footC_p]; rfl
  rw [ft] at q1 q2
  exact ⟨q1, q2⟩
theorem SR.topD {x : V} {t : Nat} {kvs : List (Key × D)} (h : SR K g σ (x :: vs) H ρ (.own t (.dct kvs) :: cs)) : ∃ a ks, x = .ref a ∧ H a = some (.dK ks) ∧ DpKV K (hide H (tot σ vs ρ cs ++ g.P0)) ks kvs := by
  obtain ⟨a, e, ⟨ks, q1, q2⟩, _⟩ := h.tp.1
  cases e
  exact ⟨a, ks, rfl, q1, dkv_up q2⟩
end
@[reducible] def wDictP (we : WE) : WE := fun ρ Q E => we ρ (fun c ρ1 => match c with
  | .p (.tuple es) => optK (dPairs es) fun kvs => (kvs.map (·.1)).Nodup ∧ Q (.own 0 (.dct kvs)) ρ1
  | _ => False) E
@[reducible] def wDItemsE (we : WE) : WE := fun ρ Q E => we ρ (fun c ρ1 => match c with
  | .own _ (.dct kvs) => optK (strKV kvs) fun ks => ∀ ys : List (Str × D), (ks.map (·.1)).Nodup → ys.Perm ks → ys.Pairwise (fun e f => sLt e.1 f.1 = true) → Q (.own 0 (.lst (ys.map itmD))) ρ1
  | _ => False) E
section
variable {X : Cx} {g : G} {W : WX} {e : Expr} {we : WE} {i : Nat} {x : Str} {p p2 apos cpos pos : Pos}
theorem ee_dictP (hc : X.calm = true) (hg : Gl X "dict") (hm : X.mg "dict" = none) (ha : EE X g W e we) (he : starEach [e] X.env = (false, eval e X.env) :: starEach [] X.env := by rfl) (hpl : (backTo pos (starEach [] X.env)).any (·.1) = false := by rfl) : EE X g W (.Call (.Name "dict" p) [e] [] pos) (wDictP we) := by
  obtain ⟨te, p1, s1⟩ := ha.ex
  refine ⟨_, pe_callTy (call_dictT hc) hg hm (by decide +kernel) (pa_cons p1 pa_nil he) (by decide) (by decide) he hpl, fun σ vs H ρ cs QD ED Q hS hw hX hQ => ?_⟩
  refine s1 σ vs H ρ cs _ ED _ hS hw hX fun v H' c ρ1 S1 q => ?_
  split at q
  · rename_i es
    cases ep : dPairs es with
    | none => rw [ep] at q; exact q.elim
    | some kvs =>
      rw [ep] at q
      have q : (kvs.map fun kv : Key × D => kv.1).Nodup ∧ QD (.own 0 (.dct kvs)) ρ1 := q
      obtain ⟨nd, q⟩ := q
      obtain ⟨hd, a, o, xs, rfl, f1, f2⟩ := S1.topP
      have f0 := (hide_some.mp f1).2
      cases hd with
      | @tup a' xs' _ s1 s2 =>
        obtain ⟨ps, ks, rfl, p1, p2⟩ := dp_kvs s2 ep
        refine ⟨a, o, _, ps, ks, rfl, seqT_same same_hide s1, f0, f2, p1, fun pp n => ?_⟩
        rw [merge_new (acc := []) (by rw [List.nil_append, dkv_keys p2]; exact nd), List.nil_append]
        exact hQ _ _ (.own 0 (.dct kvs)) ρ1 (SR.res S1.pop (same_new n) (new_dct n p2)) q
  · exact q.elim
theorem ee_ditemsE (hc : X.calm = true) (hg : Gl X "sorted") (hm : X.mg "sorted" = none) (hx : EE X g W e we) (hbase : attributeBase e "items" X.env (eval e X.env) = eval e X.env := by rfl) (hline : (apos.endLine == cpos.line) = true := by rfl)
    (he : starEach [.Call (.Attribute e "items" apos) [] [] cpos] X.env = (false, eval (.Call (.Attribute e "items" apos) [] [] cpos) X.env) :: starEach [] X.env := by rfl) (hpl : (backTo pos (starEach [] X.env)).any (·.1) = false := by rfl) :
    EE X g W (.Call (.Name "sorted" p2) [.Call (.Attribute e "items" apos) [] [] cpos] [] pos) (wDItemsE we) := by
  obtain ⟨te, p1, s1⟩ := hx.ex
  refine ⟨_, pe_callB (cr_sortIK hc) hg hm (by decide +kernel) (pa_cons (pe_bm0 PySem.F.plainAttrs_dict PySem.F.slot_dict_items PySem.F.type_dict_items mt_itemsK p1 hbase hline) pa_nil he) (by decide) (by decide) he hpl, fun σ vs H0 ρ0 cs QD ED Q hS hw hX hQ => ?_⟩
  refine s1 σ vs H0 ρ0 cs _ ED _ hS hw hX fun v H c ρ S1 hw => ?_
  split at hw
  · rename_i t0 kvs
    obtain ⟨a, ks, rfl, e2, e3⟩ := S1.topD
    have hS := S1.pop
    cases es : strKV kvs with
    | none => rw [es] at hw; exact hw.elim
    | some ss =>
      rw [es] at hw
      have hw : ∀ ys : List (Str × D), (ss.map (·.1)).Nodup → ys.Perm ss → ys.Pairwise (fun e f => sLt e.1 f.1 = true) → QD (.own 0 (.lst (ys.map itmD))) ρ := hw
      rw [strKV_map es] at e3
      obtain ⟨ws, w1, w2, w3⟩ := dkv_str e3
      refine ⟨.inr (.inr (.inl ⟨rfl, .inl ⟨_, e2⟩⟩)), a, ks, rfl, rfl, e2, fun pv pn => ⟨pv, a, ws.map (fun w => (w.1, w.2.1)), rfl, upd_same, ?_, fun H' l ps nd gr pm pw ln hl hz => ?_⟩⟩
      · rw [upd_ne (ne_of_none e2 pn), e2, w1, List.map_map]; rfl
      · obtain ⟨ws', p1, p2⟩ := perm_lift pm ws rfl
        have nd2 : (ss.map (·.1)).Nodup := by
          rw [List.map_map] at nd
          rw [w2, List.map_map]
          exact nd
        have old : ∀ {b : Addr}, upd H pv (L2.DX.itemsO pv a) b = none → H b = none := fun {b} q => by
          by_cases z : b = pv
          · subst z; rw [upd_same] at q; cases q
          · rwa [upd_ne z] at q
        have gr0 : Same H H' := fun b o q => gr b o (by rw [upd_ne (ne_of_none q pn)]; exact q)
        have pw2 : (ws'.map fun w => (w.1, w.2.2)).Pairwise (fun e f : Str × D => sLt e.1 f.1 = true) := by
          have c : (ps.map (·.2)).Pairwise (fun e f : Str × V => sLt e.1 f.1 = true) := List.pairwise_map.mpr pw
          rw [← p2] at c
          exact List.pairwise_map.mpr (List.pairwise_map.mp c)
        have out : ∀ b ∈ l :: (tot σ vs ρ cs ++ g.P0), b = l ∨ ∃ u, H b = some u := fun b hb => by
          rcases List.mem_cons.mp hb with z | z
          · exact .inl z
          · exact .inr (hS.domO b z)
        refine hQ (.ref l) H' (.own 0 (.lst ((ws'.map fun w => (w.1, w.2.2)).map itmD))) ρ (SR.res hS gr0 ⟨rfl, l, rfl, old ln, _, hl, dp_items p2.symm (fun z hz' => ?_) fun w hw' => ?_⟩) (hw _ nd2 (by rw [w2]; exact p1.map _) pw2)
        · obtain ⟨h1, h2, h3⟩ := hz z hz'
          refine hide_some.mpr ⟨fun m => ?_, h3⟩
          rcases out _ m with e | ⟨u, e⟩
          · exact h1 e
          · rw [old h2] at e; cases e
        · refine dp_mono (fun b o q => ?_) _ _ (w3 w (p1.mem_iff.mp hw'))
          obtain ⟨q1, q2⟩ := hide_some.mp q
          refine hide_some.mpr ⟨fun m => ?_, gr0 _ _ q2⟩
          rcases List.mem_cons.mp m with e | m
          · rw [e, old ln] at q2; cases q2
          · exact q1 m
  · exact hw.elim
end
/-! ### calls that keep plain tuples plain; new lists frozen -/
@[reducible] def wFrzA (we : WE) : WE := fun ρ Q E => we ρ (fun c ρ1 => Q (frzC c) ρ1) E
section
variable {X : Cx} {g : G} {W : WX} {k : Nat} {S : SpD} {x : Str} {p pos : Pos} {e : Expr} {es : List Expr} {wa : WA} {we : WE}
theorem takesW0 {X : Cx} : Takes X W0 := fun u s' ⟨_, _, _, _, _, _, _, _, _, _, _, _, _, _, _, _, w⟩ => w.elim
theorem ee_frzA (h : EE X g W e we) : EE X g W e (wFrzA we) := by
  obtain ⟨te, p1, s1⟩ := h.ex
  exact ⟨te, p1, fun σ vs H ρ cs QD ED Q hS hw hX hQ => s1 σ vs H ρ cs _ ED _ hS hw hX fun v H' c ρ1 S1 q => hQ v H' _ ρ1 S1.frzTop q⟩
theorem ee_gl (h : Has X.prog X.w X.K X.mg X.base k x S) (hr : Room k X.A) (hg : Gl X x) (tk : Takes X W) (ha : EA X g W (e :: es) wa) (hdb : (x == ("__debug__" : Str)) = false := by decide)
    (he : starEach (e :: es) X.env = (false, eval e X.env) :: starEach es X.env := by rfl) (hpl : (backTo pos (starEach es X.env)).any (·.1) = false := by rfl) : EE X g W (.Call (.Name x p) (e :: es) [] pos) (wCallG S wa) := by
  obtain ⟨f, fd, ps, F, hm, hk, hb⟩ := h.ex
  obtain ⟨t, q, s⟩ := ha.ex
  refine ⟨_, pe_callS F hr hg hm hk hb (passAt tk) q hdb he hpl, fun σ vs H ρ cs QD ED Q hS hw hX hQ => ?_⟩
  refine s σ vs H ρ cs _ ED _ hS hw hX fun xs H1 ccs ρ1 hl S1 q1 => ?_
  exact SR.callG (W := fun cls d _ H => W cls d σ H) (E := fun cls d H => W cls d σ H) hl S1 q1 hX (fun _ _ _ _ z => z) hQ
end
end DL

set_option Elab.async false
set_option linter.all false
set_option maxRecDepth 100000
set_option maxHeartbeats 4000000
/-! DLLck: for k in d, d an own dict of texts or numbers: locked while the loop runs -/
namespace DL
open PySem PySem.Spec PyProof.Rows L2
@[reducible] def keyDat : Key → D
  | .inl i => .int i
  | .inr s => .str s
@[reducible] def unlK (i t : Nat) (a : Addr) (ob : Obj) (ks : List (Key × V)) (kvs : List (Key × D)) (k : Rho → Prop) : Rho → Prop := fun ρ => rget ρ i = .own t (.lck a ob ks kvs) ∧ k (rset ρ i (.own t (.dct kvs)))
@[reducible] def wForD (i : Nat) (wg : WG) (body : WS) : WS := fun DD ρ => match rget ρ i with
  | .own t (.dct kvs) => ∀ (a : Addr) (ob : Obj) (ks : List (Key × V)), forK (fun d ρ2 k => rget ρ2 i = .own t (.lck a ob ks kvs) ∧ wg d ρ2 k) body (kvs.map fun e => keyDat e.1)
      ⟨unlK i t a ob ks kvs DD.nx, fun c => unlK i t a ob ks kvs (DD.rt c), DD.bk, DD.ct, DD.ex⟩ (rset ρ i (.own t (.lck a ob ks kvs)))
  | _ => False
section
variable {K : PySem.W.Frag} {g : G} {σ : L2.St} {vs : List V} {H H' : Hp} {ρ : Rho} {cs : List C} {i t : Nat}
theorem SR.lck {a : Addr} {ob : Obj} {ks : List (Key × V)} {kvs : List (Key × D)} (h : SR K g σ vs H ρ cs) (e : rget ρ i = .own t (.lck a ob ks kvs)) : σ[i]? = some (some (.ref a)) ∧ H a = some (.frz ob (.dK ks)) ∧ DpKV K (hide H (tot σ vs ρ cs ++ g.P0)) ks kvs := by
  obtain ⟨b, e1, _, ⟨e2, q1, q2⟩, _⟩ := h.own e
  subst e2
  exact ⟨e1, q1, q2⟩
theorem SR.unl {a : Addr} {ob : Obj} {ks : List (Key × V)} {kvs : List (Key × D)} (h : SR K g σ vs H ρ cs) (e : rget ρ i = .own t (.lck a ob ks kvs)) (hL : g.L i = true) : H a = some (.frz ob (.dK ks)) ∧ SR K g σ vs (upd H a (.dK ks)) (rset ρ i (.own t (.dct kvs))) cs := by
  obtain ⟨e1, q1, q2⟩ := h.lck e
  exact ⟨q1, h.mutSlot (H' := upd H a (.dK ks)) e e1 hL (fun b u n z => by rw [upd_ne n]; exact z) (o' := .dct kvs) ⟨ks, upd_same, q2⟩⟩
theorem dkv_at {B : Hp} : ∀ {ks : List (Key × V)} {kvs : List (Key × D)} {j : Nat} {k : Key} {v : V}, DpKV K B ks kvs → ks[j]? = some (k, v) → ∃ d, kvs[j]? = some (k, d)
  | [], [], j, k, v, _, e => by simp at e
  | p :: ks, q :: kvs, j, k, v, h, e => by
    obtain ⟨h1, h2, h3⟩ := h
    cases j with
    | zero =>
      have e : some p = some (k, v) := e
      cases e
      exact ⟨q.2, by rw [show k = q.1 from h1]; rfl⟩
    | succ j => exact dkv_at (j := j) h3 e
  | [], _ :: _, _, _, _, h, _ => h.elim
  | _ :: _, [], _, _, _, h, _ => h.elim
theorem dp_key {B : Hp} (k : Key) : Dp K B (kV k) (keyDat k) := by
  cases k with
  | inl i => exact .int i
  | inr s => exact .str s
theorem sem_forD {W : WX} {T : List Nat} {tgt : TG} {tb : TS} {wg : WG} {wb : WS} (hL : g.L i = true) (hg : SemG K g T tgt wg) (hb : SemS K g W tb wb) : SemS K g W (tLock (tFor (iKeys (tVar i)) tgt tb)) (wForD i wg wb) := by
  intro σ vs H ρ cs DD D hS hp hw hE
  unfold wForD at hw
  split at hw
  · rename_i t kvs e0
    obtain ⟨a, ks, e1, e2, e3⟩ := own_dict hS e0
    refine ⟨a, .dK ks, e2, True.intro, fun ob => ?_⟩
    have hw := hw a ob ks
    have S1 := hS.mutSlot (H' := upd H a (.frz ob (.dK ks))) e0 e1 hL (fun b u n z => by rw [upd_ne n]; exact z) (o' := .lck a ob ks kvs) ⟨rfl, upd_same, e3⟩
    refine ⟨.ref a, e1, a, ob, rfl, .inl ⟨ks, upd_same, ?_⟩⟩
    have hl : ks.length = kvs.length := dkv_len e3
    generalize hDD : (⟨unlK i t a ob ks kvs DD.nx, fun c => unlK i t a ob ks kvs (DD.rt c), DD.bk, DD.ct, DD.ex⟩ : EndsD) = DU at hw
    generalize hg2 : (fun (d : PyData) (ρ2 : Rho) (k : Rho → Prop) => rget ρ2 i = .own t (.lck a ob ks kvs) ∧ wg d ρ2 k) = wg2 at hw
    refine ⟨fun j m σ' H' => m = kvs.length - j ∧ ∃ ρ', SR K g σ' vs H' ρ' cs ∧ forK wg2 wb ((kvs.map fun e => keyDat e.1).drop j) DU ρ' ∧ (kvs.length ≤ j → DU.nx ρ') ∧ (j ≤ kvs.length), ⟨kvs.length, by simp, _, S1, by simpa using hw, fun z => ?_, Nat.zero_le _⟩, ?_⟩
    · have z2 : kvs = [] := List.eq_nil_of_length_eq_zero (by omega)
      subst z2
      exact hw
    rintro j m σ2 H2 ⟨rfl, ρ2, S2, q2, q3, q4⟩
    by_cases hlt : j < kvs.length
    · have ed : (kvs.map fun e => keyDat e.1).drop j = keyDat kvs[j].1 :: (kvs.map fun e => keyDat e.1).drop (j + 1) := by
        rw [List.drop_eq_getElem_cons (by rw [List.length_map]; exact hlt), List.getElem_map]
      rw [ed] at q2
      subst hg2
      obtain ⟨e6, q2⟩ := q2
      obtain ⟨f1, f2, f3⟩ := S2.lck e6
      refine .inr ⟨⟨f2, by omega⟩, fun σ' H' => ∃ ρ', SR K g σ' vs H' ρ' cs ∧ forK (fun d ρ2 k => rget ρ2 i = .own t (.lck a ob ks kvs) ∧ wg d ρ2 k) wb ((kvs.map fun e => keyDat e.1).drop (j + 1)) DU ρ', fun σ' H' q => ⟨kvs.length - (j + 1), by omega, rfl, ?_⟩, fun x H3 y => ?_⟩
      · obtain ⟨ρ', Sq, fq⟩ := q
        refine ⟨ρ', Sq, fq, fun z => ?_, by omega⟩
        rw [List.drop_eq_nil_of_le (by rw [List.length_map]; exact z)] at fq
        exact fq
      obtain ⟨rfl, k, v, y1, rfl⟩ := y
      obtain ⟨d, y2⟩ := dkv_at f3 y1
      have y3 : kvs[j].1 = k := by
        rw [List.getElem?_eq_getElem hlt] at y2
        rw [Option.some.inj y2]
      have S3 : SR K g σ2 (kV k :: vs) H3 ρ2 (.v (keyDat kvs[j].1) :: cs) := SR.resV S2 (Same.refl _) (by rw [y3]; exact dp_key k)
      refine hg σ2 vs H3 ρ2 cs _ _ _ _ S3 (fun j _ k => hp.nopk) q2 fun σ4 H4 ρ4 S4 _ q4 => ?_
      subst hDD
      refine hb σ4 vs H4 ρ4 cs _ _ S4 hp q4 ⟨fun σ' H' ρ' S' q => ⟨ρ', S', q⟩, fun σ' H' ρ' S' q => ?_, fun σ' H' ρ' S' q => ⟨ρ', S', q⟩, fun v σ' H' c ρ' S' q => ?_, hE.ex⟩
      · obtain ⟨u1, u2⟩ := S'.unl q.1 hL
        exact ⟨u1, hE.nx _ _ _ u2 q.2⟩
      · obtain ⟨u1, u2⟩ := S'.unl q.1 hL
        exact ⟨u1, hE.rt _ _ _ _ _ u2 q.2⟩
    · have z := q3 (by omega)
      subst hDD
      obtain ⟨u1, u2⟩ := S2.unl z.1 hL
      refine .inl ⟨⟨u1, by omega⟩, u1, hE.nx _ _ _ u2 z.2⟩
  · exact hw.elim
end
/-! ### d[k] of a locked dict -/
@[reducible] def wDIxL (i : Nat) (wk : WE) : WE := fun ρ Q E => match rget ρ i with
  | .own _ (.lck _ _ _ _) => wk ρ (fun c1 ρ1 => match c1, rget ρ1 i with
    | .v k, .own _ (.lck _ _ _ kvs) => optK (keyD k) fun kk => optK (dGet kvs kk) fun d => Q (.v d) ρ1
    | _, _ => False) E
  | _ => False
section
variable {X : Cx} {g : G} {W : WX} {tg k : Expr} {body : List Stmt} {wk : WE} {wg : WG} {wb : WS} {T : List Nat} {i : Nat} {x : Str} {p pos : Pos}
theorem es_forD (hp : PassesOwn (model X.prog X.w) X.A X.env X.xe) (hc : X.calm = true) (hL : g.L i = true) (hx : PE X (.Name x p) (tVar i)) (hg : EG X g tg T wg) (hb : EB X g W body wb) (hs : ∀ y, foldedSetIterable (.Name x p) X.env y = pure y := by intro _; rfl) : ES X g W (.For tg (.Name x p) body [] pos) (wForD i wg wb) := by
  obtain ⟨t1, p1, s1⟩ := hg.ex
  obtain ⟨t2, p2, s2⟩ := hb.ex
  exact ⟨_, ps_lock (ps_for hp hc (pi_keys hx) p1 p2 hs), sem_forD hL s1 s2⟩
theorem ee_dixL (hu : X.A.units + 65 < cLine) (hx : PE X (.Name x p) (tVar i)) (hk : EE X g W k wk) (hs : NoSl k := by exact fun _ _ => rfl) : EE X g W (.Subscript (.Name x p) k pos) (wDIxL i wk) := by
  obtain ⟨t1, p1, s1⟩ := hk.ex
  refine ⟨_, L2.pe_dget (by omega) hx p1 hs, fun σ vs H ρ cs QD ED Q hS hw hX hQ => ?_⟩
  unfold wDIxL at hw
  split at hw
  · rename_i t0 a ob ks kvs0 e0
    obtain ⟨e1, e2, _⟩ := hS.lck e0
    refine ⟨.ref a, e1, ?_⟩
    refine s1 σ vs H ρ cs _ ED _ hS hw hX fun y H1 c1 ρ1 S1 q1 => ?_
    split at q1
    · rename_i kd t' a' ob' ks' kvs eo
      obtain ⟨e3, e4, e5⟩ := S1.lck eo
      rw [e1] at e3
      cases e3
      cases ek : keyD kd with
      | none => rw [ek] at q1; exact q1.elim
      | some kk =>
        rw [ek] at q1
        cases eg : dGet kvs kk with
        | none =>
          have q1 : optK (dGet kvs kk) _ := q1
          rw [eg] at q1
          exact q1.elim
        | some dd =>
          have q1 : optK (dGet kvs kk) fun d => QD (.v d) ρ1 := q1
          rw [eg] at q1
          have q1 : QD (.v dd) ρ1 := q1
          obtain rfl := key_dp S1.top ek
          obtain ⟨u, h1, h2⟩ := dkv_some e5 eg
          refine ⟨a, u, rfl, .inl ⟨ks', kk, .inr ⟨ob', e4⟩, rfl, h1.symm⟩, hQ _ _ (.v dd) ρ1 (SR.resV S1.pop (Same.refl _) (dp_up h2)) q1⟩
    · exact q1.elim
  · exact hw.elim
end
/-! ### {k: v} -/
@[reducible] def wDisp1 (wk wv : WE) : WE := fun ρ Q E => wk ρ (fun c1 ρ1 => wv ρ1 (fun c2 ρ2 => match c1, frzC c2 with
  | .v dk, .v dv => optK (keyD dk) fun kk => Q (.own 0 (.dct [(kk, dv)])) ρ2
  | _, _ => False) E) E
section
variable {X : Cx} {g : G} {W : WX} {k v : Expr} {wk wv : WE} {pos : Pos}
theorem ee_disp1 (hk : EE X g W k wk) (hv : EE X g W v wv) : EE X g W (.Dict [some k] [v] pos) (wDisp1 wk wv) := by
  obtain ⟨t1, p1, s1⟩ := hk.ex
  obtain ⟨t2, p2, s2⟩ := hv.ex
  refine ⟨_, pe_disp (pps_cons p1 p2 pps_nil) rfl rfl (by simp) (Nat.le_of_ble_eq_true rfl), fun σ vs H ρ cs QD ED Q hS hw hX hQ => ?_⟩
  intro p n
  have S0 : SR X.K g σ (.ref p :: vs) (upd H p (.dK [])) ρ (.own 0 (.dct []) :: cs) := SR.res hS (same_new n) (new_dct (ks := []) (kvs := []) n trivial)
  refine s1 σ (.ref p :: vs) _ ρ (.own 0 (.dct []) :: cs) _ ED _ S0 hw hX fun x H1 c1 ρ1 S1 q1 => ?_
  refine s2 σ (x :: .ref p :: vs) H1 ρ1 (c1 :: .own 0 (.dct []) :: cs) _ ED _ S1 q1 hX fun y H2 c2 ρ2 S2 q2 => ?_
  split at q2
  · rename_i dk dv ec
    have S3 := S2.frzTop
    rw [ec] at S3
    have dy := dp_up S3.top
    have dx := S3.pop.top
    have S4 := S3.pop.pop
    obtain ⟨a, ea, ⟨ks, h1, h2⟩, _⟩ := S4.tp.1
    cases ea
    have eks : ks = [] := by cases ks with
      | nil => rfl
      | cons _ _ => exact h2.elim
    subst eks
    cases ek : keyD dk with
    | none => rw [ek] at q2; exact q2.elim
    | some kk =>
      rw [ek] at q2
      have q2 : QD (.own 0 (.dct [(kk, dv)])) ρ2 := q2
      obtain rfl := key_dp dx ek
      refine ⟨h1, [(kk, y)], rfl, Nat.le_of_ble_eq_true rfl, ?_⟩
      exact hQ _ _ _ _ (S4.mutTop (H' := upd H2 p (.dK [(kk, y)])) (fun b u n z => by rw [upd_ne n]; exact z) (o' := .dct [(kk, dv)]) ⟨[(kk, y)], upd_same, rfl, dy, trivial⟩) q2
  · exact q2.elim
end
/-! ### d.update(a new dict) -/
def rUpdD : V → List V → Hp → VK → Prop := fun x xs H Q => ∃ (a b : Addr) (ks ms : List (Key × V)), x = .ref a ∧ xs = [.ref b] ∧ a ≠ b ∧ H a = some (.dK ks) ∧ H b = some (.dK ms) ∧ ks.length + ms.length ≤ sizeLine ∧ Q .non (upd H a (.dK (mergeK ks ms)))
theorem mt_updD {X : Cx} : MtR X "dict.update" rUpdD := by
  intro pins s σ H x xs v us Q I rx rxs h
  obtain ⟨a, b, ks, ms, rfl, rfl, ne, ha, hb, hz, q⟩ := h
  cases rx
  obtain ⟨u, rfl, ru⟩ := rxs.one
  cases ru
  obtain ⟨z1, hd1, vs1, r1, dd1⟩ := dk_of I.hok ha
  obtain ⟨z2, hd2, vs2, r2, dd2⟩ := dk_of I.hok hb
  refine call_meetsIn PySem.F.slot_dict_update (show s.heap.DictOf (mixKind X.prog X.w) a vs1 from dd1).typeIs PySem.F.entry_dict_update (PySem.F.args_dict_update_2 _ _) (meets_dict_update (mixKind X.prog X.w) a b ne hd2) ⟨vs1, vs2, dd1, dd2, by rw [← r1.length, ← r2.length]; exact hz, fun h' d1 d2 sb => ?_⟩
  have hl : (mergeK ks ms).length ≤ sizeLine := Nat.le_trans (length_mergeK ms ks) hz
  have he : ∃ q, h'.get? a = some q := let ⟨q, _, _, hq, _⟩ := d1; ⟨q, hq⟩
  exact ⟨.non, _, d_write (t' := s.toks) I (by rw [ha]; exact True.intro) sb he (dk_new hl hd1 (KV.merge r2 r1) d1), rfl, q⟩
def mergeD (kvs ms : List (Key × D)) : List (Key × D) := ms.foldl (fun acc e => dPut acc e.1 e.2) kvs
theorem dkv_merge {K : PySem.W.Frag} {B : Hp} : ∀ {ms : List (Key × V)} {ds : List (Key × D)} {ks : List (Key × V)} {kvs : List (Key × D)}, DpKV K B ms ds → DpKV K B ks kvs → DpKV K B (mergeK ks ms) (mergeD kvs ds)
  | [], [], _, _, _, h => h
  | m :: ms, d :: ds, ks, kvs, ⟨h1, h2, h3⟩, h => by
    have e := dkv_put (k := m.1) h2 h
    have h1 : m.1 = d.1 := h1
    have r := dkv_merge h3 e
    show DpKV K B (mergeK (putK ks m.1 m.2) ms) (mergeD (dPut kvs d.1 d.2) ds)
    rw [← h1]
    exact r
  | [], _ :: _, _, _, h, _ => h.elim
  | _ :: _, [], _, _, h, _ => h.elim
@[reducible] def wDUpd (i : Nat) (we : WE) : WE := fun ρ Q E => match rget ρ i with
  | .own _ (.dct _) => we ρ (fun c ρ1 => match c, rget ρ1 i with
    | .own _ (.dct ms), .own t (.dct kvs) => kvs.length + ms.length ≤ sizeLine ∧ Q (.v .none) (rset ρ1 i (.own t (.dct (mergeD kvs ms))))
    | _, _ => False) E
  | _ => False
section
variable {X : Cx} {g : G} {W : WX} {i : Nat} {e : Expr} {we : WE} {x : Str} {p apos pos : Pos}
theorem ee_dupd (hL : g.L i = true) (hx : PE X (.Name x p) (tVar i)) (h : EE X g W e we)
    (hbase : attributeBase (.Name x p) "update" X.env (eval (.Name x p) X.env) = eval (.Name x p) X.env := by rfl)
    (hfew : ((backTo pos (starEach [e] X.env)).all (fun x => !x.1) && (backToKw pos (keywordEach [] X.env)).all (fun x => x.1.isSome) && decide (([e] : List Expr).length + ([] : List Keyword).length + (if ([] : List Keyword).isEmpty then 0 else 1) < 30)) = true := by rfl)
    (hline : (apos.endLine == pos.line) = true := by rfl) (hs : starEach [e] X.env = (false, eval e X.env) :: starEach [] X.env := by rfl) (hplain : (backTo pos (starEach [] X.env)).any (·.1) = false := by rfl) :
    EE X g W (.Call (.Attribute (.Name x p) "update" apos) [e] [] pos) (wDUpd i we) := by
  obtain ⟨t, q, s⟩ := h.ex
  refine ⟨_, pe_bm PySem.F.plainAttrs_dict PySem.F.slot_dict_update PySem.F.type_dict_update mt_updD hx (pa_cons q pa_nil hs) hbase hfew hline hs hplain, fun σ vs H ρ cs QD ED Q hS hw hX hQ => ?_⟩
  unfold wDUpd at hw
  split at hw
  · rename_i t0 ds0 e0
    obtain ⟨a, ks, e1, e2, _⟩ := own_dict hS e0
    refine ⟨.ref a, e1, .inr (.inr (.inl ⟨rfl, .inl ⟨_, e2⟩⟩)), ?_⟩
    refine s σ vs H ρ cs _ ED _ hS hw hX fun y H1 c ρ1 S1 q1 => ?_
    split at q1
    · rename_i t2 ms t1 kvs eo
      obtain ⟨b, mv, rfl, h1, h2⟩ := S1.topD
      obtain ⟨a', ks', e3, e4, e5⟩ := own_dict S1.pop eo
      rw [e1] at e3
      cases e3
      have ne : a ≠ b := fun z => by
        have nd := S1.nd
        rw [tot_cons] at nd
        have m : a ∈ tot σ vs ρ1 cs := by
          obtain ⟨a2, f1, f2, _⟩ := S1.pop.own eo
          rw [e1] at f1
          cases f1
          exact List.mem_append_right _ f2
        exact (List.nodup_append.mp nd).2.2 b (by show b ∈ [b]; exact .head _) a m z.symm
      refine ⟨a, b, ks', mv, rfl, rfl, ne, e4, h1, by rw [dkv_len e5, dkv_len h2]; exact q1.1, ?_⟩
      have S3 := S1.pop.mutSlot (H' := upd H1 a (.dK (mergeK ks' mv))) eo e1 hL (fun b u n z => by rw [upd_ne n]; exact z) (o' := .dct (mergeD kvs ms)) ⟨_, upd_same, dkv_merge h2 e5⟩
      exact hQ _ _ _ _ (SR.resV S3 (Same.refl _) .non) q1.2
    · exact q1.elim
  · exact hw.elim
end
end DL

set_option Elab.async false
set_option linter.all false
set_option maxRecDepth 100000
set_option maxHeartbeats 4000000
/-! DLUnit: a tuple that is written down is a plain one -/
namespace DL
open PySem PySem.Spec PyProof.Rows L2
def rTupPl : List V → Hp → VK → Prop := fun xs H Q => xs.length ≤ sizeLine ∧ ∀ (p : Addr) (o : Obj), H p = none → o.dict = none → Q (.ref p) (upd H p (.frz o (.tup xs)))
theorem pe_tupPl {X : Cx} {es : List Expr} {pos : Pos} {t : TA} {x1} (h : PA X es t) : PE X (.Tuple es x1 pos) (fun σ H Q => t σ H fun xs H1 => rTupPl xs H1 Q) := by
  refine ⟨fun pins s σ H Q I hq => ?_⟩
  refine wpAny_Tuple_spliced (thn (h.run pos pins s σ H _ I hq) fun us s1 ⟨xs, H1, I1, r, z, q⟩ => ⟨by rw [← r.length]; exact z, ?_⟩)
  have hf : H1 s1.heap.objs.size = none := I1.hok.fresh (Nat.le_refl _)
  refine ⟨.ref s1.heap.objs.size, upd H1 s1.heap.objs.size (.frz { cls := .type "tuple", data := .seq us.toArray } (.tup xs)), I1.laid (t' := s1.toks) (fun b u e => Heap.get?_push_of_some _ e) (Nat.le_refl _) ?_, rfl, q _ _ hf rfl⟩
  exact ⟨Heap.get?_push_size _ rfl, z, us, r, ⟨_, Heap.get?_push_size _ rfl, rfl, _, rfl⟩⟩
@[reducible] def oTupPl : OL := fun ds k => ds.length ≤ 1000 ∧ k (.p (.tuple ds))
theorem lift_tupPl {K : PySem.W.Frag} : LiftL K rTupPl oTupPl := by
  intro O H xs ds QD Q hO hx q fin
  have hl := DL.DpAll.len hx
  refine ⟨by rw [hl, sizeLine_eq]; have := q.1; omega, fun p o n ho => fin _ _ (.p _) (same_new n) (new_tupP n ho (fun z => by obtain ⟨u, e⟩ := hO p z; rw [n] at e; cases e) hx) q.2⟩
theorem ee_tupPl {X : Cx} {g : G} {W : WX} {es : List Expr} {wa : WA} {pos : Pos} {x1} (h : EA X g W es wa) : EE X g W (.Tuple es x1 pos) (wL oTupPl wa) := by
  obtain ⟨t, p, s⟩ := h.ex
  exact ⟨_, pe_tupPl p, sem_L lift_tupPl s⟩
end DL

set_option Elab.async false
set_option linter.all false
set_option maxRecDepth 100000
set_option maxHeartbeats 4000000
/-! DLPair: (x, t) returned, t a plain tuple; a, b = such a pair -/
namespace DL
open PySem PySem.Spec PyProof.Rows L2
@[reducible] def wPrp (w1 w2 : WE) : WE := fun ρ Q E => w1 ρ (fun c1 ρ1 => w2 ρ1 (fun c2 ρ2 => match c1, c2 with
  | .v x, .p y => Q (.own 0 (.prp x y)) ρ2
  | _, _ => False) E) E
theorem ee_prp {X : Cx} {g : G} {W : WX} {e1 e2 : Expr} {w1 w2 : WE} {pos : Pos} {k} (h1 : EE X g W e1 w1) (h2 : EE X g W e2 w2)
    (he : starEach [e1, e2] X.env = (false, eval e1 X.env) :: starEach [e2] X.env := by rfl) (he2 : starEach [e2] X.env = (false, eval e2 X.env) :: starEach [] X.env := by rfl) : EE X g W (.Tuple [e1, e2] k pos) (wPrp w1 w2) := by
  obtain ⟨t1, p1, s1⟩ := h1.ex
  obtain ⟨t2, p2, s2⟩ := h2.ex
  refine ⟨_, pe_tup (pa_cons p1 (pa_cons p2 pa_nil he2) he), fun σ vs H ρ cs QD ED Q hS hw hX hQ => ?_⟩
  refine s1 σ vs H ρ cs _ ED _ hS hw hX fun x H1 c1 ρ1 S1 q1 => ?_
  refine s2 σ (x :: vs) H1 ρ1 (c1 :: cs) _ ED _ S1 q1 hX fun y H2 c2 ρ2 S2 q2 => ?_
  split at q2
  · rename_i dx dy
    obtain ⟨d2, pl⟩ := S2.topP
    have e0 : tot σ (x :: vs) ρ2 (.v dx :: cs) = tot σ vs ρ2 cs := foot_cons_v
    rw [e0] at d2 pl
    have d1 := S2.pop.top
    have S3 := S2.pop.pop
    refine ⟨Nat.le_of_ble_eq_true rfl, fun p n => hQ _ _ (.own 0 (.prp dx dy)) ρ2 (SR.res S3 (same_new n) ?_) q2⟩
    have up : Same (hide H2 (tot σ vs ρ2 cs ++ g.P0)) (hide (upd H2 p (.tup [x, y])) (p :: (tot σ vs ρ2 cs ++ g.P0))) := fun a o q => by
      obtain ⟨h1, h2⟩ := hide_some.mp q
      refine hide_some.mpr ⟨fun z => ?_, same_new n a o h2⟩
      rcases List.mem_cons.mp z with z | z
      · rw [z, n] at h2; cases h2
      · exact h1 z
    exact ⟨rfl, p, rfl, n, x, y, upd_same, dp_mono up _ _ d1, dp_mono up _ _ d2, pl.mono up⟩
  · exact q2.elim
@[reducible] def wUnpP (i j : Nat) (we : WE) : WS := fun DD ρ => we ρ (fun c ρ1 => match c with
  | .own _ (.prp x y) => DD.nx (rset (rset ρ1 i (.v x)) j (.p y))
  | _ => False) DD.ex
theorem es_unpP {X : Cx} {g : G} {W : WX} {e : Expr} {we : WE} {pos tpos p1 p2 : Pos} {i j k : Nat} {x y : Str} (hN : X.N.Nodup) (hi : X.N[i]? = some x) (hx : Loc X.env.scope x) (hj : X.N[j]? = some y) (hy : Loc X.env.scope y) (hc : X.calm = true) (h : EE X g W e we)
    (hf : X.fn x = true ∨ X.env.scope.names.lookup x = some .local := by first | exact .inl rfl | exact .inr rfl | assumption) (hf2 : X.fn y = true ∨ X.env.scope.names.lookup y = some .local := by first | exact .inl rfl | exact .inr rfl | assumption)
    (ha1 : (assignEach [.Name x p1, .Name y p2] X.env).map (·.2) = assign (.Name x p1) X.env :: (assignEach [.Name y p2] X.env).map (·.2) := by rfl)
    (ha2 : (assignEach [.Name y p2] X.env).map (·.2) = assign (.Name y p2) X.env :: (assignEach [] X.env).map (·.2) := by rfl)
    (hn : (assignEach [.Name x p1, .Name y p2] X.env).length = 2 := by rfl) (hst : (assignEach [.Name x p1, .Name y p2] X.env).findIdx? (·.1) = none := by rfl)
    (hs : swapsWithSole [.Tuple [.Name x p1, .Name y p2] k tpos] e pos.line X.env = pure false := by rfl) (hw : swappedStores [.Tuple [.Name x p1, .Name y p2] k tpos] e X.env = pure none := by rfl)
    (h1 : (assignEach [.Tuple [.Name x p1, .Name y p2] k tpos] X.env).map (·.2) = [assign (.Tuple [.Name x p1, .Name y p2] k tpos) X.env] := by rfl) :
    ES X g W (.Assign [.Tuple [.Name x p1, .Name y p2] k tpos] e pos) (wUnpP i j we) := by
  obtain ⟨t, p, s⟩ := h.ex
  refine ⟨_, ps_asg p (pg_tup hc (pgs_cons (pg_name hN hi hx hf) (pgs_cons (pg_name hN hj hy hf2) pgs_nil ha2) ha1) hn hst) hs hw h1, fun σ vs H ρ cs DD D hS hp hw hE => ?_⟩
  refine s σ vs H ρ cs _ _ _ hS hw (hE.ex σ) fun v H' c ρ' S' q => ?_
  split at q
  · rename_i t dx dy
    obtain ⟨a, e1, ⟨v1, v2, h2, d1, d2, pl⟩, _⟩ := S'.tp.1
    cases e1
    have S0 := S'.pop
    have up : Same (hide H' (tot σ (.ref a :: vs) ρ' (.own t (.prp dx dy) :: cs) ++ g.P0)) (hide H' (tot σ vs ρ' cs ++ g.P0)) := fun b o q => by
      obtain ⟨h1, h2⟩ := hide_some.mp q
      refine hide_some.mpr ⟨fun z => h1 ?_, h2⟩
      rw [tot_cons]
      rcases List.mem_append.mp z with z | z
      · exact List.mem_append_left _ (List.mem_append_right _ z)
      · exact List.mem_append_right _ z
    have SB : SR X.K g σ (v2 :: vs) H' ρ' (.p dy :: cs) := SR.res (c := .p dy) S0 (Same.refl _) (by
      obtain ⟨b, o, xs, f1, f2, f3⟩ := pl.mono up
      exact ⟨dp_mono up _ _ d2, b, o, xs, f1, f2, f3⟩)
    have eP : tot σ (v2 :: vs) ρ' (.p dy :: cs) = tot σ vs ρ' cs := by rw [tot_cons, footC_p]; rfl
    have SA : SR X.K g σ (v1 :: v2 :: vs) H' ρ' (.v dx :: .p dy :: cs) := SR.resV SB (Same.refl _) (by rw [eP]; exact dp_mono up _ _ d1)
    refine ⟨a, [v1, v2], rfl, .inl (.inl h2), rfl, v1, [v2], rfl, v2, [], rfl, rfl, ?_⟩
    have np1 : ∀ jj, C.pk jj ∈ C.p dy :: cs → C.pk jj ∈ cs := fun jj z => (List.mem_cons.mp z).resolve_left (fun w => nomatch w)
    have np2 : ∀ jj, C.ln jj ∈ C.p dy :: cs → C.ln jj ∈ cs := fun jj z => (List.mem_cons.mp z).resolve_left (fun w => nomatch w)
    have SA2 := SA.store (i := i) rfl (fun jj z => hp.nopk (z.imp (np1 jj) (np2 jj)))
    have SB2 := SA2.store (i := j) rfl (fun jj z => hp.nopk z)
    exact hE.nx _ H' _ SB2 q
  · exact q.elim
end DL

set_option Elab.async false
set_option linter.all false
set_option maxRecDepth 100000
set_option maxHeartbeats 4000000
/-! DLTupMul: a tuple times a number -/
namespace DL
open PySem PySem.Spec PyProof.Rows L2
theorem tuple_mul1 (l : Addr) (items : Array Value) (n : Nat) (dd : Option Addr) (sl : Array (Option Value)) (u : Tok) :
    Meets (Builtin.«tuple.__mul__» ⟨[.ref l, .int 1 u], []⟩) (fun _ R s => s.heap.get? l = some { cls := .type "tuple", dict := dd, data := .seq items n, slots := sl } ∧ R (.ok (.ret (.ref l))) s) :=
  .of_wp fun prog w A R s h => by
    obtain ⟨hp, g, d, tk, os⟩ := s
    obtain ⟨hl, h⟩ := h
    have f1 := AutoSeq1.idx_int
    wp_walk using wpAny_loadPart' hl
    exact ⟨_, rfl, h⟩
theorem tuple_mul0 (l : Addr) (items : Array Value) (n : Nat) (dd : Option Addr) (sl : Array (Option Value)) (x : Int) (u : Tok) (c0 : (decide (x < -(2 ^ 63)) || decide (x ≥ 2 ^ 63)) = false) (c1 : (items.isEmpty || x == 1) = false) (c2 : (decide (x ≤ 0) || items.isEmpty) = true) :
    Meets (Builtin.«tuple.__mul__» ⟨[.ref l, .int x u], []⟩) (fun _ R s => s.heap.get? l = some { cls := .type "tuple", dict := dd, data := .seq items n, slots := sl } ∧
      R (.ok (.ret (Value.ref s.heap.objs.size))) { s with heap := s.heap.push { cls := Value.type "tuple", data := Data.seq #[] }, toks := s.toks }) :=
  .of_wp fun prog w A R s h => by
    obtain ⟨hp, g, d, tk, os⟩ := s
    obtain ⟨hl, h⟩ := h
    have f1 := AutoSeq1.idx_int
    wp_walk using wpAny_loadPart' hl
    repeat (first
      | (refine wpAny_ite_false (decide_eq_false (by rw [c0]; exact Bool.false_ne_true)) ?_; wp_walk using wpAny_loadPart' hl)
      | (refine wpAny_ite_false (decide_eq_false (by rw [c1]; exact Bool.false_ne_true)) ?_; wp_walk using wpAny_loadPart' hl)
      | (refine wpAny_ite_true (decide_eq_true c2) ?_; wp_walk using wpAny_loadPart' hl))
    exact ⟨_, rfl, h⟩
def rRepA (K : PySem.W.Frag) : R2 := fun x y H Q => ∃ l k xs, x = .ref l ∧ y = .int k ∧ SqT K H l xs ∧ xs ≠ [] ∧ -1000 ≤ k ∧ k ≤ 1000 ∧ xs.length ≤ 1000 ∧ (k = 1 → Q (.ref l) H) ∧ (k ≠ 1 → ∀ p, H p = none → Q (.ref p) (upd H p (.tup (List.replicate k.toNat xs).flatten)))
theorem op_repA {X : Cx} : OpR X (binaryOp .Mult) (rRepA X.K) := by
  intro pins s σ H x y v u Q I rx ry h
  obtain ⟨l, k, xs, rfl, rfl, hT, hne, h1, h2, hz, q1, q⟩ := h
  by_cases k2 : 2 ≤ k
  · exact op_repT pins s σ H (.ref l) (.int k) v u Q I rx ry ⟨l, k, xs, rfl, rfl, hT, hne, k2, h2, hz, q (by omega)⟩
  cases rx
  obtain ⟨t, rfl⟩ := ry
  obtain ⟨its, r, ⟨⟨cls, dd, data, sl⟩, ho, hc, n, hd⟩, hs⟩ := I.tuple hT
  simp only at hc hd
  subst hc hd
  have hle : its.length = xs.length := r.length.symm
  by_cases k1 : k = 1
  · subst k1
    refine wpAny_binaryOp_repeat_ref (T := "tuple") (U := "int") (by decide) ⟨_, ho, rfl⟩ (fun s' => typeIs_int s' 1 t) noFill_tuple_mul F.fills_int_mul F.slot_int_rmul repeat_tuple F.slot_int_index.lookup
      (call_meets F.slot_int_rmul (typeIs_int s 1 t) F.entry_int_rmul (F.args_int_rmul_2 _ _) (int_rmul_tuple 1 t l its.toArray n dd sl)
        ⟨ho, rfl, ⟨_, ho, rfl⟩, call_meets F.slot_tuple_mul ⟨_, ho, rfl⟩ F.entry_tuple_mul (F.args_tuple_mul_2 _ _) (tuple_mul1 l its.toArray n dd sl t) ⟨ho, ?_⟩⟩)
    exact ⟨.ref l, H, I.tok s.toks, rfl, q1 rfl⟩
  have hn : its ≠ [] := fun e => hne (by
    rw [e] at hle
    exact List.eq_nil_of_length_eq_zero hle.symm)
  have hi : its.toArray.isEmpty = false := by
    cases its with
    | nil => exact absurd rfl hn
    | cons a b => rfl
  have c0 : (decide (k < -(2 ^ 63)) || decide (k ≥ 2 ^ 63)) = false := by
    rw [decide_eq_false (by omega), decide_eq_false (by omega)] <;> rfl
  have c1 : (its.toArray.isEmpty || k == 1) = false := by
    rw [hi, Bool.false_or]
    exact beq_eq_false_iff_ne.mpr (by omega)
  have c2 : (decide (k ≤ 0) || its.toArray.isEmpty) = true := by
    rw [decide_eq_true (by omega)] <;> rfl
  refine wpAny_binaryOp_repeat_ref (T := "tuple") (U := "int") (by decide) ⟨_, ho, rfl⟩ (fun s' => typeIs_int s' k t) noFill_tuple_mul F.fills_int_mul F.slot_int_rmul repeat_tuple F.slot_int_index.lookup
    (call_meets F.slot_int_rmul (typeIs_int s k t) F.entry_int_rmul (F.args_int_rmul_2 _ _) (int_rmul_tuple k t l its.toArray n dd sl)
      ⟨ho, rfl, ⟨_, ho, rfl⟩, call_meets F.slot_tuple_mul ⟨_, ho, rfl⟩ F.entry_tuple_mul (F.args_tuple_mul_2 _ _) (tuple_mul0 l its.toArray n dd sl k t c0 c1 c2) ⟨ho, ?_⟩⟩)
  have k0 : k.toNat = 0 := by omega
  have q := q k1
  rw [k0] at q
  refine ⟨.ref s.heap.objs.size, _, I.laid (t' := s.toks) (o := .tup []) (fun b ob q => Heap.get?_push_of_some _ q) (Nat.le_refl _) ?_, rfl, q _ (I.hok.fresh (Nat.le_refl _))⟩
  exact ⟨Nat.zero_le _, [], .nil, IsTup.new _ _⟩
@[reducible] def oRepA : O2 := fun d1 d2 k => match d1, d2 with
  | .tuple ds, .int n => (ds ≠ [] ∧ ds.length ≤ 1000 ∧ -1000 ≤ n ∧ n ≤ 1000) ∧ k (.v (.tuple (List.replicate n.toNat ds).flatten))
  | _, _ => False
theorem DpAll.repA {K : PySem.W.Frag} {B : Hp} {xs : List V} {ds : List D} (h : DpAll K B xs ds) : ∀ n : Nat, DpAll K B (List.replicate n xs).flatten (List.replicate n ds).flatten
  | 0 => .nil
  | n + 1 => by
    rw [List.replicate_succ, List.flatten_cons, List.replicate_succ, List.flatten_cons]
    exact DL.DpAll.app h (DpAll.repA h n)
theorem lift_repA {K : PySem.W.Frag} : Lift2 K (rRepA K) oRepA := by
  intro O H x y dx dy QD Q hO hx hy q fin
  cases hx with
  | @tup a xs ds h1 h2 =>
    cases hy with
    | int n =>
      obtain ⟨⟨e1, e2, e3, e4⟩, q⟩ := q
      have hl := DL.DpAll.len h2
      refine ⟨a, n, xs, rfl, rfl, seqT_same same_hide h1, fun z => ?_, e3, e4, by rw [hl]; exact e2, fun k1 => ?_, fun k1 p np => ?_⟩
      · rw [z] at hl
        exact e1 (List.eq_nil_of_length_eq_zero hl.symm)
      · subst k1
        have e : (List.replicate (1 : Int).toNat ds).flatten = ds := by simp
        rw [e] at q
        exact fin _ H (.v _) (Same.refl H) (.tup h1 h2) q
      · refine fin _ _ (.v _) (same_new np) (.tup (.inl (.inl (hide_some.mpr ⟨fun z => ?_, upd_same⟩))) (dpAll_mono (fun b o q => ?_) _ _ (DpAll.repA h2 _))) q
        · obtain ⟨u, e⟩ := hO p z
          rw [np] at e; cases e
        · obtain ⟨h1, h2⟩ := hide_some.mp q
          exact hide_some.mpr ⟨h1, same_new np b o h2⟩
    | _ => exact q.elim
  | _ => exact q.elim
theorem ee_repA {X : Cx} {g : G} {W : WX} {a b : Expr} {wa wb : WE} {pos : Pos} (ha : EE X g W a wa) (hb : EE X g W b wb) : EE X g W (.BinOp a .Mult b pos) (wB oRepA wa wb) := by
  obtain ⟨ta, p1, s1⟩ := ha.ex
  obtain ⟨tb, p2, s2⟩ := hb.ex
  exact ⟨_, pe_op op_repA p1 p2, sem_op lift_repA s1 s2⟩
end DL

set_option Elab.async false
set_option linter.all false
set_option maxRecDepth 100000
set_option maxHeartbeats 4000000
/-! DLDictZ: dict(zip(xs, ys)), xs a list of unlike texts -/
namespace DL
open PySem PySem.Spec PyProof.Rows L2
def rDictZ (K : PySem.W.Frag) : List V → Hp → VK → Prop := fun xs H Q => ∃ (a b : Addr) (ss : List Str) (ys : List V), xs = [.ref a, .ref b] ∧ SqL K H a (ss.map V.str) ∧ SqL K H b ys ∧ ss.length = ys.length ∧
    ∀ p, H p = none → Q (.ref p) (upd H p (.dK (mergeK [] ((ss.zip ys).map fun q => ((Sum.inr q.1 : Key), q.2)))))
theorem strs_rel : ∀ {ss : List Str} {us : List Value}, Vals (ss.map V.str) us → us.length = ss.length ∧ ∀ (i : Nat) (u : Value), us[i]? = some u → ∃ s, ss[i]? = some s ∧ keyIs (Sum.inr s : Key) u = true
  | [], _, .nil => ⟨rfl, fun i u e => by simp at e⟩
  | s :: ss, _, .cons (b := u) r t => by
    obtain ⟨hl, h⟩ := strs_rel t
    refine ⟨by rw [List.length_cons, List.length_cons, hl], fun i v e => ?_⟩
    cases i with
    | zero =>
      obtain ⟨tk, rfl⟩ := r
      have e : some (Value.str s tk) = some v := e
      cases e
      exact ⟨s, rfl, by simp [keyIs, Value.isStrOf]⟩
    | succ i => exact h i v e
theorem kv_zip : ∀ {ss : List Str} {ys : List V} {us : List Value}, Vals ys us → KV ((ss.zip ys).map fun q => ((Sum.inr q.1 : Key), q.2)) ((ss.zip us).map fun q => ((Sum.inr q.1 : Key), q.2))
  | [], _, _, _ => .nil
  | _ :: _, _, _, .nil => .nil
  | s :: ss, _, _, .cons r t => .cons ⟨rfl, r⟩ (kv_zip t)
theorem pe_dictZ {X : Cx} {e1 e2 : Expr} {t : TA} {p q zpos pos : Pos} (hc : X.calm = true) (hg : Gl X "dict") (hm : X.mg "dict" = none) (hgz : Gl X "zip") (hmz : X.mg "zip" = none) (ha : PA X [e1, e2] t)
    (he : starEach [e1, e2] X.env = (false, eval e1 X.env) :: starEach [e2] X.env := by rfl) (hpl : (backTo zpos (starEach [e2] X.env)).any (·.1) = false := by rfl)
    (he2 : starEach [.Call (.Name "zip" q) [e1, e2] [] zpos] X.env = (false, eval (.Call (.Name "zip" q) [e1, e2] [] zpos) X.env) :: starEach [] X.env := by rfl) (hpl2 : (backTo pos (starEach [] X.env)).any (·.1) = false := by rfl) :
    PE X (.Call (.Name "dict" p) [.Call (.Name "zip" q) [e1, e2] [] zpos] [] pos) (tCB (rDictZ X.K) t) := by
  refine ⟨fun pins s σ H Q I h => ?_⟩
  refine wpAny_Call_Name_kw (ld_blt I hg hm (u := .type "dict") (by decide +kernel) ?_ (by decide) (by decide))
  refine PyProof.Rows.callWith_type1 ?_ he2 hpl2
  rw [he2]
  show wpAny _ _ (spliced ((false, eval (.Call (.Name "zip" q) [e1, e2] [] zpos) X.env) :: backTo pos (starEach [] X.env))) _ _ s
  refine Calls.spliced_cons (wpAny_Call_Name_kw (ld_blt I hgz hmz (u := .type "zip") (by decide +kernel) ?_ (by decide) (by decide)))
  refine PyProof.Rows.callWith_type1 (thn (ha.run zpos pins s σ H _ I h) fun us s1 ⟨vs, H1, I1, r1, q1⟩ => ?_) he hpl
  obtain ⟨a, b, ss, ys, rfl, hqa, hqb, hlen, q⟩ := q1
  obtain ⟨u1, u2, rfl, g1, g2⟩ := vals2 r1
  cases g1
  cases g2
  obtain ⟨its1, rv1, pl1, hz1⟩ := I1.list hqa
  obtain ⟨its2, rv2, pl2, hz2⟩ := I1.list hqb
  have lt1 : a < s1.heap.objs.size := by obtain ⟨o, e, _⟩ := pl1.isList; exact Heap.lt_size e
  have lt2 : b < s1.heap.objs.size := by obtain ⟨o, e, _⟩ := pl2.isList; exact Heap.lt_size e
  refine call_zip_2 pl1.isList pl2.isList fun h1 a1 a2 a3 a4 a5 a6 k1 => ?_
  have I2 : Inv X pins σ H1 { s1 with heap := h1 } := I1.kept (t' := s1.toks) k1
  refine Calls.spliced_nil ?_
  obtain ⟨el1, kl⟩ := strs_rel rv1
  have el2 := rv2.length
  have le : its1.length = its2.length := by rw [el1, hlen, el2]
  have D := zipApart_new lt1 lt2
  refine PySem.call_dict_pairs (knd := mixKind X.prog X.w) (kvs := (ss.zip its2).map fun q => ((Sum.inr q.1 : Key), q.2)) (PairArg.zip _ _ _ _ _ _ _ D its1.toArray its2.toArray) (I2.ok.hd hc)
    ⟨a1, a2, ⟨_, _, a3⟩, a4, a5, pl1.isList.at fun o e => k1 _ o e, pl2.isList.at fun o e => k1 _ o e⟩ ⟨by simp [le, el1, el2, hlen], fun j k v e => ?_⟩ (by simp [le]; omega) fun h' tk hd' kp => ?_
  · obtain ⟨e3, e4⟩ := e
    rw [List.getElem?_toArray] at e3 e4
    obtain ⟨s', f1, f2⟩ := kl j k e3
    refine ⟨Sum.inr s', ?_, f2⟩
    rw [List.getElem?_map, (List.getElem?_zip_eq_some (z := (s', v))).mpr ⟨f1, e4⟩]
    rfl
  · have rel : KV ((ss.zip ys).map fun q => ((Sum.inr q.1 : Key), q.2)) ((ss.zip its2).map fun q => ((Sum.inr q.1 : Key), q.2)) := kv_zip rv2
    have k : ∀ b o, s1.heap.get? b = some o → h'.get? b = some o := fun b o e => kp b o (fun z => by
      have lt := Heap.lt_size e
      simp only [List.mem_cons, List.not_mem_nil, or_false] at z
      have big : ∀ n : Nat, ¬ (s1.heap.objs.size + n < s1.heap.objs.size) := fun n h => absurd (Nat.lt_of_le_of_lt (Nat.le_add_right _ n) h) (Nat.lt_irrefl _)
      rcases z with z | z | z | z
      · rw [z] at lt; exact big 4 lt
      · rw [z] at lt; exact big 3 lt
      · rw [z] at lt; exact big 0 lt
      · rw [z] at lt; exact big 1 lt) (k1 b o e)
    have hm : (h1.objs.size == sysModules) = false := beq_eq_false_iff_ne.mpr (Nat.ne_of_gt I2.big)
    have hlen : (mergeK [] ((ss.zip ys).map fun q => ((Sum.inr q.1 : Key), q.2))).length ≤ sizeLine := by
      refine Nat.le_trans (length_mergeK _ []) ?_
      simp only [List.length_nil, List.length_map, List.length_zip, Nat.zero_add] at hz1 ⊢
      omega
    exact ⟨.ref h1.objs.size, upd H1 h1.objs.size (.dK _), I1.laid (t' := tk) k (by rw [a6]; exact Nat.le_add_right _ _) (show ObjOk X.prog X.w _ _ _ (.dK _) from ⟨hlen, hm, merged [] _, KV.merge rel .nil, hd'⟩), rfl, q _ (I2.hok.fresh (Nat.le_refl _))⟩
def strsD : List D → Option (List Str)
  | [] => some []
  | .str s :: r => (strsD r).map (s :: ·)
  | _ => none
theorem strsD_map : ∀ ss : List Str, strsD (ss.map PyData.str) = some ss
  | [] => rfl
  | s :: ss => by rw [List.map_cons, strsD, strsD_map ss]; rfl
theorem strsD_dp {K : PySem.W.Frag} {B : Hp} : ∀ {ds : List D} {ss : List Str} {xs : List V}, strsD ds = some ss → DpAll K B xs ds → xs = ss.map V.str ∧ ds = ss.map PyData.str
  | [], ss, xs, e, h => by cases h; cases e; exact ⟨rfl, rfl⟩
  | d :: ds, ss, xs, e, h => by
    unfold strsD at e
    split at e
    · rename_i hh; cases hh
    · rename_i s r hh
      cases hh
      obtain ⟨ss', e1, rfl⟩ := Option.map_eq_some_iff.mp e
      cases h with
      | cons h1 h2 =>
        cases h1
        obtain ⟨e2, e3⟩ := strsD_dp e1 h2
        exact ⟨by rw [e2]; rfl, by rw [e3]; rfl⟩
    · cases e
@[reducible] def oDictZ : OL := fun ds k => match ds with
  | [.list es, .list fs] => optK (strsD es) fun ss => (ss.Nodup ∧ ss.length = fs.length) ∧ k (.own 0 (.dct ((ss.zip fs).map fun q => ((Sum.inr q.1 : Key), q.2))))
  | _ => False
theorem dp_zipkv {K : PySem.W.Frag} {B : Hp} : ∀ {ss : List Str} {ys : List V} {fs : List D}, DpAll K B ys fs → DpKV K B ((ss.zip ys).map fun q => ((Sum.inr q.1 : Key), q.2)) ((ss.zip fs).map fun q => ((Sum.inr q.1 : Key), q.2))
  | [], _, _, _ => trivial
  | _ :: _, _, _, .nil => trivial
  | s :: ss, _, _, .cons h t => ⟨rfl, h, dp_zipkv t⟩
theorem lift_dictZ {K : PySem.W.Frag} : LiftL K (rDictZ K) oDictZ := by
  intro O H xs ds QD Q hO hx q fin
  unfold oDictZ at q
  split at q
  · rename_i es fs
    cases hx with
    | cons h1 h2 =>
      cases h2 with
      | cons h2 h3 =>
        cases h3
        cases h1 with
        | lst a1 a2 =>
          cases h2 with
          | lst b1 b2 =>
            cases e : strsD es with
            | none => rw [e] at q; exact q.elim
            | some ss =>
              rw [e] at q
              have q : (ss.Nodup ∧ ss.length = fs.length) ∧ QD (.own 0 (.dct ((ss.zip fs).map fun q => ((Sum.inr q.1 : Key), q.2)))) := q
              obtain ⟨⟨nd, el⟩, q⟩ := q
              obtain ⟨e1, e2⟩ := strsD_dp e a2
              subst e1
              have l2 := DL.DpAll.len b2
              refine ⟨_, _, ss, _, rfl, Same.seq same_hide a1, Same.seq same_hide b1, by rw [l2, el], fun p n => ?_⟩
              have kk := dp_zipkv (ss := ss) b2
              rw [merge_new (acc := []) (by
                rw [List.nil_append, dkv_keys kk, List.map_map]
                have e5 : (ss.zip fs).map (((fun kv : Key × D => kv.1)) ∘ fun q => ((Sum.inr q.1 : Key), q.2)) = ss.map Sum.inr := by
                  rw [← List.map_fst_zip (l₁ := ss) (l₂ := fs) (by omega), List.map_map]
                  rw [List.map_fst_zip (by omega)]
                  rfl
                rw [e5]
                exact List.pairwise_map.mpr (List.Pairwise.imp (fun h z => h (Sum.inr.inj z)) nd)), List.nil_append]
              exact fin _ _ (.own 0 (.dct _)) (same_new n) (new_dct n kk) q
  · exact q.elim
theorem ee_dictZ {X : Cx} {g : G} {W : WX} {e1 e2 : Expr} {wa : WA} {p q zpos pos : Pos} (hc : X.calm = true) (hg : Gl X "dict") (hm : X.mg "dict" = none) (hgz : Gl X "zip") (hmz : X.mg "zip" = none) (ha : EA X g W [e1, e2] wa)
    (he : starEach [e1, e2] X.env = (false, eval e1 X.env) :: starEach [e2] X.env := by rfl) (hpl : (backTo zpos (starEach [e2] X.env)).any (·.1) = false := by rfl)
    (he2 : starEach [.Call (.Name "zip" q) [e1, e2] [] zpos] X.env = (false, eval (.Call (.Name "zip" q) [e1, e2] [] zpos) X.env) :: starEach [] X.env := by rfl) (hpl2 : (backTo pos (starEach [] X.env)).any (·.1) = false := by rfl) :
    EE X g W (.Call (.Name "dict" p) [.Call (.Name "zip" q) [e1, e2] [] zpos] [] pos) (wL oDictZ wa) := by
  obtain ⟨t, p1, s1⟩ := ha.ex
  exact ⟨_, pe_dictZ hc hg hm hgz hmz p1 he hpl he2 hpl2, sem_L lift_dictZ s1⟩
end DL

set_option Elab.async false
set_option linter.all false
set_option maxRecDepth 100000
set_option maxHeartbeats 4000000
/-! DLVals: sorted(d.values(), reverse=..) and max, min of d.values() of a dict of whole numbers; min of alike data -/
namespace DL
open PySem PySem.Spec PyProof.Rows L2
def rValsK : V → List V → Hp → VK → Prop := fun x xs H Q => ∃ (a : Addr) (kvs : List (Key × V)), x = .ref a ∧ xs = [] ∧ H a = some (.dK kvs) ∧ ∀ p, H p = none → Q (.ref p) (upd H p (viewO "dict_values" p a))
def intVals : List (Key × D) → Option (List Int)
  | [] => some []
  | (_, .int n) :: r => (intVals r).map (n :: ·)
  | _ => none
theorem intVals_cons {k : Key} {n : Int} {r : List (Key × D)} : intVals ((k, .int n) :: r) = (intVals r).map (n :: ·) := rfl
theorem intVals_dp {K : PySem.W.Frag} {B : Hp} : ∀ {ks : List (Key × V)} {kvs : List (Key × D)} {ns : List Int}, DpKV K B ks kvs → intVals kvs = some ns → ks.map (·.2) = ns.map V.int
  | [], [], ns, _, e => by cases e; rfl
  | k :: ks, (k', .int n) :: kvs, ns, h, e => by
    obtain ⟨h1, h2, h3⟩ := h
    rw [intVals_cons] at e
    obtain ⟨l, e1, rfl⟩ := Option.map_eq_some_iff.mp e
    rw [List.map_cons, List.map_cons, intVals_dp h3 e1]
    obtain ⟨k1, k2⟩ := k
    have h2 : Dp K B k2 (.int n) := h2
    cases h2
    rfl
  | [], _ :: _, _, h, _ => h.elim
  | _ :: _, [], _, h, _ => h.elim
  | _ :: _, (_, .none) :: _, _, _, e => by cases e
  | _ :: _, (_, .bool _) :: _, _, _, e => by cases e
  | _ :: _, (_, .str _) :: _, _, _, e => by cases e
  | _ :: _, (_, .list _) :: _, _, _, e => by cases e
  | _ :: _, (_, .tuple _) :: _, _, _, e => by cases e
def rSortVK (b : Bool) : List V → List V → Hp → VK → Prop := fun vs zs H Q => ∃ (p a : Addr) (kvs : List (Key × V)) (ns : List Int), vs = [.ref p] ∧ zs = [.bl b] ∧ H p = some (viewO "dict_values" p a) ∧ H a = some (.dK kvs) ∧ kvs.map (·.2) = ns.map V.int ∧
  ∀ (ns' : List Int) (l : Addr), ns'.Perm ns → OrdB b ns' → H l = none → Q (.ref l) (upd H l (.lst (ns'.map V.int)))
theorem vals_get : ∀ {xs : List V} {us : List Value}, xs.length = us.length → (∀ (i : Nat) x u, xs[i]? = some x → us[i]? = some u → RelV x u) → Vals xs us
  | [], [], _, _ => .nil
  | x :: xs, u :: us, hl, h => .cons (h 0 x u rfl rfl) (vals_get (by simpa using hl) fun i x u e e' => h (i + 1) x u (by simpa using e) (by simpa using e'))
  | [], _ :: _, hl, _ => by simp at hl
  | _ :: _, [], hl, _ => by simp at hl
section
variable {X : Cx}
theorem mt_valsK : MtR X "dict.values" rValsK := by
  intro pins s σ H x xs v us Q I rx rxs h
  obtain ⟨a, kvs, rfl, rfl, ha, q⟩ := h
  cases rx
  cases rxs
  obtain ⟨_, hsys, vs, rel, dof⟩ := dk_of I.hok ha
  obtain ⟨ep, ob, es, ho, ex, _⟩ := dof.dictAt
  refine call_meetsIn F.slot_dict_values ⟨ob, ho, ex.1⟩ F.entry_dict_values (F.args_dict_values_1 _) (meets_dict_values (mixKind X.prog X.w) a hsys) ⟨⟨vs, dof⟩, ?_⟩
  exact ⟨.ref s.heap.objs.size, _, I.laid (t' := s.toks) (fun b o q => Heap.get?_push_of_some _ q) (Nat.le_refl _) (viewO_ok (Heap.get?_push_size _ rfl)), rfl, q _ (I.hok.fresh (Nat.le_refl _))⟩
theorem cr_sortVK (hc : X.calm = true) {b : Bool} : CallRK X (.builtin "sorted") [Str.ofString "reverse"] (rSortVK b) := by
  intro pins s σ H xs zs us ws Q I r rz h
  obtain ⟨p, a, kvs, ns, rfl, rfl, hp, ha, hv, q⟩ := h
  obtain rfl := Vals.ref1 r
  obtain ⟨w1, rfl, e1⟩ := vals1 rz
  obtain rfl : w1 = Value.bool b := e1
  have view : s.heap.get? p = some (DSub.viewOb "dict_values" a) := (show ObjOk X.prog X.w H s.heap p (viewO "dict_values" p a) from I.hok p _ hp).1
  obtain ⟨hz, hsys, vs, rel, dof⟩ := dk_of I.hok ha
  obtain ⟨ep, dat⟩ := dof.dictAt
  have hlv : vs.length = ns.length := by
    have e1 := congrArg List.length hv
    rw [List.length_map, List.length_map] at e1
    rw [← e1]
    exact (KV.length rel).symm
  have hzl : vs.length ≤ sizeLine := by rw [← KV.length rel]; exact hz
  refine call_function_entry_kw kind_sorted plain_sorted entry_sorted (PyProof.Rows.args_sorted_rev _ _) ?_
  unfold Builtin.«sorted»
  refine wpAny_bind (m := checkCount "sorted" 1 1 _) (wpAny_pure ?_)
  refine wpAny_bind (PySem.W.kdu_collect (A := X.A.in1) (PySem.W.kdl_values (knd := mixKind X.prog X.w) (kvs := vs) (ep := ep)) (I.ok.hd hc) ⟨⟨_, view, rfl, rfl⟩, dat⟩ hzl fun h' tk acc hk hacc => ?_)
  have hl : acc.toList.length = vs.length := by rw [Array.length_toList]; exact hacc.1
  refine wpAny_bind (wpAny_newList ?_ (by rw [hl]; exact hzl))
  have its : IntsAre acc.toList ns := by
    have e0 : kvs.map (·.2) = ns.map V.int := hv
    have rl : Vals (ns.map V.int) acc.toList := by
      refine vals_get (by rw [List.length_map, hl, hlv]) fun i x u hx hu => ?_
      obtain ⟨k, hku⟩ := hacc.2 i u (by rw [← Array.getElem?_toList]; exact hu)
      obtain ⟨x', h1, h2⟩ := KV.at' rel hku
      have e2 : (kvs.map (·.2))[i]? = some x' := by rw [List.getElem?_map, h1]; rfl
      rw [hv, hx] at e2
      cases e2
      exact h2
    exact rl.ints
  have hob : (h'.push { cls := .type "list", data := .seq acc.toList.toArray }).get? h'.objs.size = some (seqObj "list" acc.toList.toArray 0) := Heap.get?_push_size _ rfl
  have kb : ∀ b o, s.heap.get? b = some o → b ≠ h'.objs.size ∧ (h'.push { cls := .type "list", data := .seq acc.toList.toArray }).get? b = some o := fun b o e => ⟨Nat.ne_of_lt (Heap.lt_size (hk b o e)), Heap.get?_push_of_some _ (hk b o e)⟩
  have hn0 : s.heap.get? h'.objs.size = none := (by cases e : s.heap.get? h'.objs.size with | none => rfl | some o => exact absurd (Heap.lt_size (hk _ _ e)) (Nat.lt_irrefl _))
  generalize hh2 : h'.push { cls := .type "list", data := .seq acc.toList.toArray } = h2 at hob kb ⊢
  refine wpAny_bind (wpAny_holding (PyProof.Rows.wpAny_call_entry_kw PyProof.Rows.slot_list_sort ⟨_, hob, rfl⟩ PyProof.Rows.entry_list_sort
    (SrtR.list_sort_ordR (s := { s with heap := h2, toks := tk }) (b := b) SrtO.swo_int hob (by rw [hl]; exact hzl) (fun h2' => SrtO.ints_sortable its h2') fun out h1 h2o => ⟨_, rfl, ?_⟩) (PyProof.Rows.args_list_sort_rev _ _)))
  refine wpAny_pure ⟨_, rfl, ?_⟩
  obtain ⟨ns', k1, k2, k3⟩ := SrtR.ints_outR its h1 h2o
  obtain ⟨eF, heF⟩ := PyProof.Rows.sortedHeap_at (vs := acc.toList) (out := if b = true then out.toArray.reverse else out.toArray) hob
  have kS : ∀ b' o, s.heap.get? b' = some o → (sortedHeap h2 h'.objs.size acc.toList (if b = true then out.toArray.reverse else out.toArray)).get? b' = some o := fun b' o e => by
    obtain ⟨n1, n2⟩ := kb b' o e
    exact (PyProof.Rows.sortedHeap_old n1 (Heap.lt_size n2)).trans n2
  have hn1 : H h'.objs.size = none := I.hok.gone hn0
  have hlen : (ns'.map V.int).length ≤ sizeLine := by
    rw [List.length_map, k2.length_eq, ← hlv]
    exact hzl
  have e0 : ((if b = true then out.toArray.reverse else out.toArray).toList).toArray = (if b = true then out.toArray.reverse else out.toArray) := by rw [Array.toArray_toList]
  exact ⟨.ref _, upd H h'.objs.size (.lst (ns'.map V.int)), I.laidN (t' := tk) kS hn0 hn1 ⟨hlen, _, eF, vals_of_ints k1, by rw [e0]; exact heF⟩, rfl, q _ _ k2 k3 hn1⟩
end
@[reducible] def dctOf (ρ : Rho) : C → Option (List (Key × D))
  | .own _ (.dct kvs) => some kvs
  | .ln i => match rget ρ i with
    | .own _ (.dct kvs) => some kvs
    | _ => none
  | _ => none
section
variable {K : PySem.W.Frag} {g : G} {σ : L2.St} {vs : List V} {H H' : Hp} {ρ : Rho} {cs : List C} {i : Nat}
theorem SR.dct {x : V} {c : C} {kvs : List (Key × D)} (h : SR K g σ (x :: vs) H ρ (c :: cs)) (e : dctOf ρ c = some kvs) : ∃ a ks, x = .ref a ∧ H a = some (.dK ks) ∧ DpKV K (hide H (tot σ vs ρ cs ++ g.P0)) ks kvs := by
  cases c with
  | own t o =>
    cases o with
    | dct es =>
      cases e
      exact h.topD
    | lst _ => cases e
    | dtt _ => cases e
    | lck _ _ _ _ => cases e
    | prp _ _ => cases e
    | tre _ => cases e
  | ln i =>
    obtain ⟨y, e1, e2⟩ := h.tp.1
    cases e1
    revert e
    show (match rget ρ i with
      | .own _ (.dct kvs) => some kvs
      | _ => none) = some kvs → _
    split
    · rename_i t es eo
      intro e
      cases e
      obtain ⟨a, ks, e3, q1, q2⟩ := own_dict h eo
      rw [e2] at e3
      cases e3
      exact ⟨a, ks, rfl, q1, dkv_up q2⟩
    · intro e; cases e
  | v _ => cases e
  | p _ => cases e
  | pk _ => cases e
  | no => cases e
  | sub _ _ => cases e
end
@[reducible] def wSortV (b : Bool) (we : WE) : WE := fun ρ Q E => we ρ (fun c ρ1 => optK (dctOf ρ1 c) fun kvs => optK (intVals kvs) fun ns => ∀ ns' : List Int, ns'.Perm ns → OrdB b ns' → Q (.own 0 (.lst (ns'.map PyData.int))) ρ1) E
section
variable {X : Cx} {g : G} {W : WX} {e : Expr} {we : WE} {b : Bool} {j : Nat} {p kp p2 apos cpos pos : Pos}
theorem ee_sortV (hc : X.calm = true) (hg : Gl X "sorted") (hm : X.mg "sorted" = none) (hx : EE X g W e we) (hbase : attributeBase e "values" X.env (eval e X.env) = eval e X.env := by rfl) (hline : (apos.endLine == cpos.line) = true := by rfl)
    (h0 : starEach [.Call (.Attribute e "values" apos) [] [] cpos] X.env = (false, eval (.Call (.Attribute e "values" apos) [] [] cpos) X.env) :: starEach [] X.env := by rfl) (h2 : (backTo pos (starEach [.Call (.Attribute e "values" apos) [] [] cpos] X.env)).any (·.1) = false := by rfl)
    (h3 : (backToKw pos (keywordEach [⟨some "reverse", .Constant (.bool b) j kp, p2⟩] X.env)).all (·.1.isSome) = true := by rfl) (h4 : (backToKw pos (keywordEach [⟨some "reverse", .Constant (.bool b) j kp, p2⟩] X.env)).any (·.1.isNone) = false := by rfl) (h5 : (backToKw pos (keywordEach [⟨some "reverse", .Constant (.bool b) j kp, p2⟩] X.env)).filterMap (·.1) = ([Str.ofString "reverse"] : List Str) := by rfl) :
    EE X g W (.Call (.Name "sorted" p) [.Call (.Attribute e "values" apos) [] [] cpos] [⟨some "reverse", .Constant (.bool b) j kp, p2⟩] pos) (wSortV b we) := by
  obtain ⟨te, p1, s1⟩ := hx.ex
  refine ⟨_, pe_callBK (cr_sortVK hc (b := b)) hg hm (by rfl) (pa_cons (pe_bm0 PySem.F.plainAttrs_dict PySem.F.slot_dict_values PySem.F.type_dict_values mt_valsK p1 hbase hline) pa_nil h0) (pk_cons pe_bl pk_nil) (by decide) (by decide) (by rw [h0]; rfl) h2 h3 h4 h5, fun σ vs H0 ρ0 cs QD ED Q hS hw hX hQ => ?_⟩
  refine s1 σ vs H0 ρ0 cs _ ED _ hS hw hX fun v H c ρ S1 hw => ?_
  cases dc : dctOf ρ c with
  | none => rw [dc] at hw; exact hw.elim
  | some kvs =>
    rw [dc] at hw
    have hw : optK (intVals kvs) _ := hw
    obtain ⟨a, ks, rfl, e2, e3⟩ := S1.dct dc
    have hS := S1.pop
    cases es : intVals kvs with
    | none => rw [es] at hw; exact hw.elim
    | some ns =>
      rw [es] at hw
      have hw : ∀ ns' : List Int, ns'.Perm ns → OrdB b ns' → QD (.own 0 (.lst (ns'.map PyData.int))) ρ := hw
      refine ⟨.inr (.inr (.inl ⟨rfl, .inl ⟨_, e2⟩⟩)), a, ks, rfl, rfl, e2, fun pv pn => ?_⟩
      refine ⟨pv, a, ks, ns, rfl, rfl, upd_same, by rw [upd_ne (ne_of_none e2 pn), e2], intVals_dp e3 es, fun ns' l pm od hl => ?_⟩
      have old : ∀ {b : Addr}, upd H pv (viewO "dict_values" pv a) b = none → H b = none := fun {b} q => by
        by_cases z : b = pv
        · subst z; rw [upd_same] at q; cases q
        · rwa [upd_ne z] at q
      exact hQ (.ref l) _ (.own 0 (.lst (ns'.map PyData.int))) ρ (SR.res hS ((same_new pn).trans (same_new hl)) ⟨rfl, l, rfl, old hl, _, upd_same, DpAll.ints ns'⟩) (hw ns' pm od)
end
/-! ### max, min of d.values() -/
def rMinV (m : Bool) : List V → Hp → VK → Prop := fun vs H Q => ∃ (p a : Addr) (kvs : List (Key × V)) (is : List Int), vs = [.ref p] ∧ H p = some (viewO "dict_values" p a) ∧ H a = some (.dK kvs) ∧ kvs.map (·.2) = is.map V.int ∧ is ≠ [] ∧
  ∀ x, x ∈ is → (∀ y ∈ is, if m then y ≤ x else x ≤ y) → Q (.int x) H
section
variable {X : Cx}
theorem cr_minV (hc : X.calm = true) : CallR X (.builtin "min") (rMinV false) := by
  intro pins s σ H xs us Q I r h
  obtain ⟨p, a, kvs, is, rfl, hp, ha, hv, hne, q⟩ := h
  obtain rfl := Vals.ref1 r
  have view : s.heap.get? p = some (DSub.viewOb "dict_values" a) := (show ObjOk X.prog X.w H s.heap p (viewO "dict_values" p a) from I.hok p _ hp).1
  obtain ⟨hz, hsys, vs, rel, dof⟩ := dk_of I.hok ha
  obtain ⟨ep, dat⟩ := dof.dictAt
  have hlv : vs.length = is.length := by
    have e1 := congrArg List.length hv
    rw [List.length_map, List.length_map] at e1
    rw [← e1]
    exact (KV.length rel).symm
  have hlen : 0 < vs.length := by
    rw [hlv]
    exact List.length_pos_iff.mpr hne
  have hval : ∀ (i : Nat) (v : Value), (∃ k, vs[i]? = some (k, v)) → ∃ t, v = Value.int (is.getD i 0) t := fun i v ⟨k, hk⟩ => by
    obtain ⟨x, h1, h2⟩ := KV.at' rel hk
    have e1 : (kvs.map (·.2))[i]? = some x := by rw [List.getElem?_map, h1] <;> rfl
    rw [hv, List.getElem?_map] at e1
    obtain ⟨j, hj, e2⟩ := Option.map_eq_some_iff.mp e1
    subst e2
    obtain ⟨t, e3⟩ := h2
    refine ⟨t, ?_⟩
    rw [e3, List.getD_eq_getElem?_getD, hj] <;> rfl
  refine call_min_walk (wpAny_pyIter_values (v := p) (d := a) ⟨_, view, rfl, rfl⟩ dat ?_)
  have hlt : a < s.heap.objs.size := dat.lt_size
  refine ⟨_, _, _, _, _, _, _, rfl, Walks.dictValues (knd := mixKind X.prog X.w) (A := X.A.in1) (I.ok.hd hc) s.heap.objs.size a (Nat.ne_of_lt hlt) vs ep,
    ⟨⟨_, Heap.get?_push_size _ rfl, rfl, rfl⟩, dat.keep fun b u e => Heap.get?_push_of_some _ e⟩, fun b hb => ?_, hlen, CmpOf.ints_lt (fun i => is.getD i 0) hval, fun v h' tk hP hk => ?_⟩
  · show b < (s.heap.push _).objs.size
    rw [Heap.size_push]
    rcases List.mem_cons.mp hb with e | hb
    · rw [e]
      exact Nat.lt_succ_self _
    · have e : b = a := List.mem_singleton.mp hb
      rw [e]
      exact Nat.lt_succ_of_lt hlt
  · obtain ⟨t, rfl⟩ := hval _ v hP
    obtain ⟨b1, b2⟩ := argBest_lt (fun i => is.getD i 0) (vs.length - 1)
    refine ⟨.int _, H, I.kept (t' := tk) fun b u e => hk b u (fun hmem => ?_) (Heap.get?_push_of_some _ e), ⟨t, rfl⟩, q _ ?_ fun j hj => ?_⟩
    · exact absurd (Heap.lt_size e) (by rw [List.mem_singleton.mp hmem]; exact Nat.lt_irrefl _)
    · have hb : argBest (fun i j => decide (is.getD i 0 < is.getD j 0)) (vs.length - 1) < is.length := by omega
      rw [List.getD_eq_getElem?_getD, List.getElem?_eq_getElem hb]
      exact List.getElem_mem hb
    · obtain ⟨i, hi, e⟩ := List.mem_iff_getElem.mp hj
      have e2 : is.getD i 0 = j := by rw [List.getD_eq_getElem?_getD, List.getElem?_eq_getElem hi, ← e] <;> rfl
      show is.getD _ 0 ≤ j
      rw [← e2]
      exact b2 i (by omega)
theorem cr_maxV (hc : X.calm = true) : CallR X (.builtin "max") (rMinV true) := by
  intro pins s σ H xs us Q I r h
  obtain ⟨p, a, kvs, is, rfl, hp, ha, hv, hne, q⟩ := h
  obtain rfl := Vals.ref1 r
  have view : s.heap.get? p = some (DSub.viewOb "dict_values" a) := (show ObjOk X.prog X.w H s.heap p (viewO "dict_values" p a) from I.hok p _ hp).1
  obtain ⟨hz, hsys, vs, rel, dof⟩ := dk_of I.hok ha
  obtain ⟨ep, dat⟩ := dof.dictAt
  have hlv : vs.length = is.length := by
    have e1 := congrArg List.length hv
    rw [List.length_map, List.length_map] at e1
    rw [← e1]
    exact (KV.length rel).symm
  have hlen : 0 < vs.length := by
    rw [hlv]
    exact List.length_pos_iff.mpr hne
  have hval : ∀ (i : Nat) (v : Value), (∃ k, vs[i]? = some (k, v)) → ∃ t, v = Value.int (is.getD i 0) t := fun i v ⟨k, hk⟩ => by
    obtain ⟨x, h1, h2⟩ := KV.at' rel hk
    have e1 : (kvs.map (·.2))[i]? = some x := by rw [List.getElem?_map, h1] <;> rfl
    rw [hv, List.getElem?_map] at e1
    obtain ⟨j, hj, e2⟩ := Option.map_eq_some_iff.mp e1
    subst e2
    obtain ⟨t, e3⟩ := h2
    refine ⟨t, ?_⟩
    rw [e3, List.getD_eq_getElem?_getD, hj] <;> rfl
  refine call_max_walk (wpAny_pyIter_values (v := p) (d := a) ⟨_, view, rfl, rfl⟩ dat ?_)
  have hlt : a < s.heap.objs.size := dat.lt_size
  refine ⟨_, _, _, _, _, _, _, rfl, Walks.dictValues (knd := mixKind X.prog X.w) (A := X.A.in1) (I.ok.hd hc) s.heap.objs.size a (Nat.ne_of_lt hlt) vs ep,
    ⟨⟨_, Heap.get?_push_size _ rfl, rfl, rfl⟩, dat.keep fun b u e => Heap.get?_push_of_some _ e⟩, fun b hb => ?_, hlen, CmpOf.ints_gt (fun i => is.getD i 0) hval, fun v h' tk hP hk => ?_⟩
  · show b < (s.heap.push _).objs.size
    rw [Heap.size_push]
    rcases List.mem_cons.mp hb with e | hb
    · rw [e]
      exact Nat.lt_succ_self _
    · have e : b = a := List.mem_singleton.mp hb
      rw [e]
      exact Nat.lt_succ_of_lt hlt
  · obtain ⟨t, rfl⟩ := hval _ v hP
    obtain ⟨b1, b2⟩ := argBest_gt (fun i => is.getD i 0) (vs.length - 1)
    refine ⟨.int _, H, I.kept (t' := tk) fun b u e => hk b u (fun hmem => ?_) (Heap.get?_push_of_some _ e), ⟨t, rfl⟩, q _ ?_ fun j hj => ?_⟩
    · exact absurd (Heap.lt_size e) (by rw [List.mem_singleton.mp hmem]; exact Nat.lt_irrefl _)
    · have hb : argBest (fun i j => decide (is.getD i 0 > is.getD j 0)) (vs.length - 1) < is.length := by omega
      rw [List.getD_eq_getElem?_getD, List.getElem?_eq_getElem hb]
      exact List.getElem_mem hb
    · obtain ⟨i, hi, e⟩ := List.mem_iff_getElem.mp hj
      have e2 : is.getD i 0 = j := by rw [List.getD_eq_getElem?_getD, List.getElem?_eq_getElem hi, ← e] <;> rfl
      show j ≤ is.getD _ 0
      rw [← e2]
      exact b2 i (by omega)
end
@[reducible] def wMinV (m : Bool) (we : WE) : WE := fun ρ Q E => we ρ (fun c ρ1 => optK (dctOf ρ1 c) fun kvs => optK (intVals kvs) fun ns => ns ≠ [] ∧ ∀ x : Int, x ∈ ns → (∀ y ∈ ns, if m then y ≤ x else x ≤ y) → Q (.v (.int x)) ρ1) E
section
variable {X : Cx} {g : G} {W : WX} {e : Expr} {we : WE} {p p2 apos cpos pos : Pos}
theorem ee_minV (hc : X.calm = true) (hg : Gl X "min") (hm : X.mg "min" = none) (hx : EE X g W e we) (hbase : attributeBase e "values" X.env (eval e X.env) = eval e X.env := by rfl) (hline : (apos.endLine == cpos.line) = true := by rfl)
    (he : starEach [.Call (.Attribute e "values" apos) [] [] cpos] X.env = (false, eval (.Call (.Attribute e "values" apos) [] [] cpos) X.env) :: starEach [] X.env := by rfl) (hpl : (backTo pos (starEach [] X.env)).any (·.1) = false := by rfl) :
    EE X g W (.Call (.Name "min" p2) [.Call (.Attribute e "values" apos) [] [] cpos] [] pos) (wMinV false we) := by
  obtain ⟨te, p1, s1⟩ := hx.ex
  refine ⟨_, pe_callB (cr_minV hc) hg hm (by rfl) (pa_cons (pe_bm0 PySem.F.plainAttrs_dict PySem.F.slot_dict_values PySem.F.type_dict_values mt_valsK p1 hbase hline) pa_nil he) (by decide) (by decide) he hpl, fun σ vs H0 ρ0 cs QD ED Q hS hw hX hQ => ?_⟩
  refine s1 σ vs H0 ρ0 cs _ ED _ hS hw hX fun v H c ρ S1 hw => ?_
  cases dc : dctOf ρ c with
  | none => rw [dc] at hw; exact hw.elim
  | some kvs =>
    rw [dc] at hw
    have hw : optK (intVals kvs) _ := hw
    obtain ⟨a, ks, rfl, e2, e3⟩ := S1.dct dc
    have hS := S1.pop
    cases es : intVals kvs with
    | none => rw [es] at hw; exact hw.elim
    | some ns =>
      rw [es] at hw
      have hw : ns ≠ [] ∧ ∀ x : Int, x ∈ ns → (∀ y ∈ ns, if false then y ≤ x else x ≤ y) → QD (.v (.int x)) ρ := hw
      refine ⟨.inr (.inr (.inl ⟨rfl, .inl ⟨_, e2⟩⟩)), a, ks, rfl, rfl, e2, fun pv pn => ?_⟩
      refine ⟨pv, a, ks, ns, rfl, upd_same, by rw [upd_ne (ne_of_none e2 pn), e2], intVals_dp e3 es, hw.1, fun x hx hy => ?_⟩
      exact hQ (.int x) _ (.v (.int x)) ρ (SR.resV hS (same_new pn) (.int x)) (hw.2 x hx hy)
theorem ee_maxV (hc : X.calm = true) (hg : Gl X "max") (hm : X.mg "max" = none) (hx : EE X g W e we) (hbase : attributeBase e "values" X.env (eval e X.env) = eval e X.env := by rfl) (hline : (apos.endLine == cpos.line) = true := by rfl)
    (he : starEach [.Call (.Attribute e "values" apos) [] [] cpos] X.env = (false, eval (.Call (.Attribute e "values" apos) [] [] cpos) X.env) :: starEach [] X.env := by rfl) (hpl : (backTo pos (starEach [] X.env)).any (·.1) = false := by rfl) :
    EE X g W (.Call (.Name "max" p2) [.Call (.Attribute e "values" apos) [] [] cpos] [] pos) (wMinV true we) := by
  obtain ⟨te, p1, s1⟩ := hx.ex
  refine ⟨_, pe_callB (cr_maxV hc) hg hm (by rfl) (pa_cons (pe_bm0 PySem.F.plainAttrs_dict PySem.F.slot_dict_values PySem.F.type_dict_values mt_valsK p1 hbase hline) pa_nil he) (by decide) (by decide) he hpl, fun σ vs H0 ρ0 cs QD ED Q hS hw hX hQ => ?_⟩
  refine s1 σ vs H0 ρ0 cs _ ED _ hS hw hX fun v H c ρ S1 hw => ?_
  cases dc : dctOf ρ c with
  | none => rw [dc] at hw; exact hw.elim
  | some kvs =>
    rw [dc] at hw
    have hw : optK (intVals kvs) _ := hw
    obtain ⟨a, ks, rfl, e2, e3⟩ := S1.dct dc
    have hS := S1.pop
    cases es : intVals kvs with
    | none => rw [es] at hw; exact hw.elim
    | some ns =>
      rw [es] at hw
      have hw : ns ≠ [] ∧ ∀ x : Int, x ∈ ns → (∀ y ∈ ns, if true then y ≤ x else x ≤ y) → QD (.v (.int x)) ρ := hw
      refine ⟨.inr (.inr (.inl ⟨rfl, .inl ⟨_, e2⟩⟩)), a, ks, rfl, rfl, e2, fun pv pn => ?_⟩
      refine ⟨pv, a, ks, ns, rfl, upd_same, by rw [upd_ne (ne_of_none e2 pn), e2], intVals_dp e3 es, hw.1, fun x hx hy => ?_⟩
      exact hQ (.int x) _ (.v (.int x)) ρ (SR.resV hS (same_new pn) (.int x)) (hw.2 x hx hy)
end
/-! ### min of a list of alike data -/
section
variable {prog : Program} {w : World} {A : Around} {E : Value → Shared → Prop} {s : Shared}
end
section
variable {X : Cx} {g : G} {W : WX} {e : Expr} {es : List Expr} {wa : WA} {p pos : Pos}
end
end DL

set_option Elab.async false
set_option linter.all false
set_option maxRecDepth 100000
set_option maxHeartbeats 4000000
/-! DLDni: k in d, k not in d as tests -/
namespace DL
open PySem PySem.Spec PyProof.Rows L2
section
variable {X : Cx} {g : G} {W : WX} {k : Expr} {wk : WE} {x : Str} {p pos : Pos} {i : Nat}
theorem et_dni (hu : X.A.units + 65 < cLine) (hk : EE X g W k wk) (hx : PE X (.Name x p) (tVar i)) : ET X g W (.Compare k [.NotIn] [.Name x p] pos) (wTst (wDNi i wk)) := by
  obtain ⟨t1, p1, s1⟩ := hk.ex
  refine ⟨_, pt_cmp (pc_dnotin (by omega) p1 hx) rfl, sem_tst fun σ vs H ρ cs QD ED Q hS hw hX hQ => ?_⟩
  refine s1 σ vs H ρ cs _ ED _ hS hw hX fun y H1 c1 ρ1 S1 q1 => ?_
  split at q1
  · rename_i kd t' kvs eo
    obtain ⟨a, ks, e3, e4, e5⟩ := own_dict S1 eo
    cases ek : keyD kd with
    | none => rw [ek] at q1; exact q1.elim
    | some kk =>
      rw [ek] at q1
      have q1 : QD (.v (.bool (!(dGet kvs kk).isSome))) ρ1 := q1
      obtain rfl := key_dp S1.top ek
      refine ⟨.ref a, e3, a, _, rfl, DGet.k e4, ?_⟩
      rw [dkv_is e5]
      exact hQ _ _ _ ρ1 (SR.resV S1.pop (Same.refl _) (.bl _)) q1
  · exact q1.elim
end
end DL

set_option Elab.async false
set_option linter.all false
set_option maxRecDepth 100000
set_option maxHeartbeats 4000000
/-! CFH: the promises of the laws' drawing helpers, alike in all laws -/
namespace CFH
open PySem PySem.Spec PyProof.Rows L2 DL
structure Hd where
  a : Int
  b : Int
  c : Int
@[reducible] def hd (h : Hd) : List D := [.int h.a, .int h.b, .int h.c]
structure Hd.ok (h : Hd) (n : Nat) : Prop where
  a0 : 0 ≤ h.a
  b0 : 0 ≤ h.b
  b1 : h.b < 4611686018427387904
  c0 : 0 ≤ h.c
  c1 : h.c ≤ n
@[reducible] def hc (h : Hd) : C := .own 1 (.lst (hd h))
def S_law_hand : SpD := fun as Q _ => ∃ (ns : List Int) (k : Int), as = [.v (.list (ns.map PyData.int)), .v (.int k)] ∧ 0 ≤ k ∧ k ≤ 1000 ∧ ∀ h : Hd, h.ok 0 → Q (.own 0 (.lst (hd h))) as
def S_law_take : SpD := fun as Q _ => ∃ (h : Hd) (n : Nat) (m : Int), as = [hc h, .v (.int m)] ∧ h.ok n ∧ n ≤ 1000000 ∧ 0 < m ∧ m.natAbs.log2 < 9000 ∧ ∀ (h' : Hd) (x : Int), h'.ok (n + 1) → 0 ≤ x → x < m → Q (.v (.int x)) [hc h', .v (.int m)]
def Boxed (d : D) (ds : List D) : Prop := d = .list ds ∨ d = .tuple ds ∨ ∃ s : Str, d = .str s ∧ ds = strD s ∧ s.length ≤ sizeLine
def S_law_pick : SpD := fun as Q _ => ∃ (h : Hd) (n : Nat) (b : D) (ds : List D), as = [hc h, .v b] ∧ h.ok n ∧ n ≤ 1000000 ∧ 0 < ds.length ∧ ds.length ≤ 1000000 ∧ Boxed b ds ∧ ∀ (h' : Hd) (d : D), h'.ok (n + 1) → d ∈ ds → Q (.v d) [hc h', .v b]
@[reducible] def wholeD : D → Bool
  | .int _ => true
  | _ => false
def S_law_whole : SpD := fun as Q _ => ∃ d : D, as = [.v d] ∧ Q (.v (.bool (wholeD d))) as
def S_law_great : SpD := fun as Q _ => ∃ (h : Hd) (n : Nat), as = [hc h] ∧ h.ok n ∧ n ≤ 900000 ∧ ∀ (h' : Hd) (x : Int), h'.ok (n + 4) → 0 ≤ x → x < 1000000000000000000000000000000000000000000000000000000000000 → Q (.v (.int x)) [hc h']
theorem len_law_hand : ∀ as QD ED, S_law_hand as QD ED → as.length = 2 := by
  rintro as QD ED ⟨_, _, rfl, _⟩
  rfl
theorem len_law_take : ∀ as QD ED, S_law_take as QD ED → as.length = 2 := by
  rintro as QD ED ⟨_, _, _, rfl, _⟩
  rfl
theorem len_law_pick : ∀ as QD ED, S_law_pick as QD ED → as.length = 2 := by
  rintro as QD ED ⟨_, _, _, _, rfl, _⟩
  rfl
theorem Hd.ok.up {h : Hd} {n m : Nat} (o : h.ok n) (l : n ≤ m) : h.ok m := ⟨o.a0, o.b0, o.b1, o.c0, by have := o.c1; omega⟩
@[reducible] def big : Int := 1000000000000000000000000000000000000000000000000000000000000
theorem big_log {m : Int} (h0 : 0 < m) (h : m ≤ big) : m.natAbs.log2 < 9000 := log2_lt (k := 200) (by unfold big at h; omega) (by decide) (by decide)
theorem hand_i {ns : List Int} {k : Int} {Q E} (h0 : 0 ≤ k) (h1 : k ≤ 1000) (q : ∀ h : Hd, h.ok 0 → Q (.own 0 (.lst (hd h))) [.v (.list (ns.map PyData.int)), .v (.int k)]) : S_law_hand [.v (.list (ns.map PyData.int)), .v (.int k)] Q E := ⟨ns, k, rfl, h0, h1, q⟩
theorem take_i {h : Hd} {n : Nat} {m : Int} {Q E} (o : h.ok n) (hn : n ≤ 1000000) (hm : 0 < m) (hl : m.natAbs.log2 < 9000) (q : ∀ (h' : Hd) (x : Int), h'.ok (n + 1) → 0 ≤ x → x < m → Q (.v (.int x)) [hc h', .v (.int m)]) : S_law_take [hc h, .v (.int m)] Q E := ⟨h, n, m, rfl, o, hn, hm, hl, q⟩
theorem great_i {h : Hd} {n : Nat} {Q E} (o : h.ok n) (hn : n ≤ 900000) (q : ∀ (h' : Hd) (x : Int), h'.ok (n + 4) → 0 ≤ x → x < 1000000000000000000000000000000000000000000000000000000000000 → Q (.v (.int x)) [hc h']) : S_law_great [hc h] Q E := ⟨h, n, rfl, o, hn, q⟩
theorem strD_len {s : Str} : (strD s).length = s.length := by
  unfold strD
  rw [List.length_map]
  rfl
theorem pick_z {h : Hd} {n : Nat} (ns : List Int) {ds : List D} {Q E} (e : ds = ns.map PyData.int) (o : h.ok n) (hn : n ≤ 1000000) (h0 : 0 < ns.length) (h1 : ns.length ≤ 1000000) (q : ∀ (h' : Hd) (x : Int), h'.ok (n + 1) → x ∈ ns → Q (.v (.int x)) [hc h', .v (.list ds)]) : S_law_pick [hc h, .v (.list ds)] Q E := ⟨h, n, .list ds, ds, rfl, o, hn, by rw [e, List.length_map]; exact h0, by rw [e, List.length_map]; exact h1, .inl rfl, fun h' d o' hd => by
  rw [e] at hd
  obtain ⟨x, hx, rfl⟩ := List.mem_map.mp hd
  exact q h' x o' hx⟩
theorem whole_i {d : D} {Q E} (q : Q (.v (.bool (wholeD d))) [.v d]) : S_law_whole [.v d] Q E := ⟨d, rfl, q⟩
end CFH

set_option Elab.async false
set_option linter.all false
set_option maxRecDepth 100000
set_option maxHeartbeats 4000000
/-! CFCl: the clock: shown, reading, moment_of: promises and their mathematics -/
namespace CFCl
open PySem PySem.Spec PyProof.Rows L2 DL CFH
abbrev Pr := Int × Int
def Ris : Int → List Pr → Prop
  | _, [] => True
  | lo, p :: js => lo < p.1 ∧ Ris p.1 js
theorem Ris.mono : ∀ {lo lo' : Int} {js : List Pr}, lo' ≤ lo → Ris lo js → Ris lo' js
  | _, _, [], _, h => trivial
  | _, _, _ :: _, l, h => ⟨by have := h.1; omega, h.2⟩
theorem Ris.mem : ∀ {lo : Int} {js : List Pr}, Ris lo js → ∀ p ∈ js, lo < p.1
  | _, q :: js, h, p, hp => by
    rcases List.mem_cons.mp hp with e | hp
    · rw [e]; exact h.1
    · exact Ris.mem (lo := _) (Ris.mono (by have := h.1; omega) h.2) p hp
def rdL (t : Int) : Int → Int → List Pr → Int
  | best, over, [] => if t + over > best then t + over else best
  | best, over, p :: js => if p.1 ≤ t then rdL t (if p.1 - 1 + over > best then p.1 - 1 + over else best) (over + p.2) js else rdL t best over js
def readingL (js : List Pr) (t : Int) : Int := rdL t 0 0 js
def JOk (js : List Pr) : Prop := Ris 0 js ∧ js.length ≤ 8 ∧ ∀ p ∈ js, p.1 < big ∧ p.2 ≠ 0 ∧ -1440 ≤ p.2 ∧ p.2 ≤ 1440

/-! ### promises -/
end CFCl

set_option Elab.async false
set_option linter.all false
set_option maxRecDepth 100000
set_option maxHeartbeats 4000000
/-! CFRu: the runs of the clock: promises and their mathematics -/
namespace CFRu
open PySem PySem.Spec PyProof.Rows L2 DL CFH CFCl
abbrev Rn := Int × Int × Int
def Below (t : Int) : Option Int → Prop
  | none => True
  | some z => t < z
instance {t : Int} : ∀ e, Decidable (Below t e)
  | none => isTrue trivial
  | some z => inferInstanceAs (Decidable (t < z))
theorem Below.mono {s t : Int} : ∀ {e : Option Int}, s ≤ t → Below t e → Below s e
  | none, _, _ => trivial
  | some z, h, h' => Int.lt_of_le_of_lt h h'
def behW (last : Rn) (a over before : Int) (e : Option Int) : List Rn :=
  if before + 1 - over ≤ a then (if last.2.2 = 1 ∧ before + 1 - over = a then [] else [(a, a + over, 1)])
  else (if last.2.2 = 1 then [(a, before, 0)] else []) ++ (if Below (before + 1 - over) e then [(before + 1 - over, before + 1, 1)] else [])
def behL (last : Rn) (a over : Int) (e : Option Int) : List Rn := behW last a over (last.2.1 + last.2.2 * (a - 1 - last.1)) e
def lastOf (r : Rn) : List Rn → Rn
  | [] => r
  | x :: l => lastOf x l
/-! what is true of them -/
def St (R : Int → Int) (t : Int) : Prop := 0 < t ∧ R t = R (t - 1)
def Beg (R : Int → Int) (t : Int) : Prop := t = 0 ∨ ¬ (St R t ↔ St R (t - 1)) ∨ R t > R (t - 1) + 1
structure Seg (R : Int → Int) (r : Rn) (e : Option Int) : Prop where
  lt : Below r.1 e
  ge : 0 ≤ r.1
  st : r.2.2 = 0 ∨ r.2.2 = 1
  bg : Beg R r.1
  at_ : ∀ t, r.1 ≤ t → Below t e → R t = r.2.1 + r.2.2 * (t - r.1) ∧ (St R t ↔ r.2.2 = 0)
def Chain (R : Int → Int) : Rn → List Rn → Prop
  | r, [] => Seg R r none
  | r, r' :: l => Seg R r (some r'.1) ∧ Chain R r' l
theorem region {R : Int → Int} {a over : Int} {e : Option Int} (h : ∀ t, a ≤ t → Below t e → R t = if t + over > R (t - 1) then t + over else R (t - 1)) :
    ∀ (n : Nat), Below (a + n) e → R (a + n) = if a + n + over > R (a - 1) then a + n + over else R (a - 1)
  | 0, b => by
    have := h a (Int.le_refl _) (by simpa using b)
    simpa using this
  | n + 1, b => by
    have ih := region h n (Below.mono (by omega) b)
    have := h (a + (n + 1 : Nat)) (by omega) b
    rw [show a + ((n + 1 : Nat) : Int) - 1 = a + n by omega, ih] at this
    rw [this]
    (repeat' split) <;> omega
theorem region' {R : Int → Int} {a over : Int} {e : Option Int} (h : ∀ t, a ≤ t → Below t e → R t = if t + over > R (t - 1) then t + over else R (t - 1)) (t : Int) (ht : a ≤ t) (b : Below t e) : R t = if t + over > R (a - 1) then t + over else R (a - 1) := by
  have := region h (t - a).toNat (by rw [show a + ((t - a).toNat : Int) = t by omega]; exact b)
  rw [show a + ((t - a).toNat : Int) = t by omega] at this
  exact this
theorem step {R : Int → Int} {last : Rn} {a over : Int} {e : Option Int} {rest : Rn → List Rn} (hs : Seg R last (some a)) (he : Below a e)
    (h : ∀ t, a ≤ t → Below t e → R t = if t + over > R (t - 1) then t + over else R (t - 1))
    (k : ∀ r, Seg R r e → Chain R r (rest r)) : Chain R last (behL last a over e ++ rest (lastOf last (behL last a over e))) := by
  have hc := region' h
  obtain ⟨lt, ge, st, bg, at_⟩ := hs
  obtain ⟨b, v, s⟩ := last
  simp only at lt ge st bg at_
  have lt : b < a := lt
  obtain ⟨e1, e2⟩ := at_ (a - 1) (by omega) (by show a - 1 < a; omega)
  have at0 : ∀ t, b ≤ t → t < a → R t = v + s * (t - b) ∧ (St R t ↔ s = 0) := fun t h1 h2 => at_ t h1 h2
  have hs : Seg R (b, v, s) (some a) := ⟨lt, ge, st, bg, at_⟩
  clear at_
  unfold behL
  simp only
  rw [← e1]
  generalize hB : R (a - 1) = B at *
  unfold behW
  simp only
  by_cases c1 : B + 1 - over ≤ a
  · rw [if_pos c1]
    by_cases c2 : s = 1 ∧ B + 1 - over = a
    · rw [if_pos c2]
      refine k (b, v, s) ⟨Below.mono (by omega) he, ge, st, bg, fun t h1 h2 => ?_⟩
      obtain ⟨rfl, c2⟩ := c2
      by_cases z : t < a
      · exact at0 t h1 z
      · have r1 := hc t (by omega) h2
        rw [if_pos (by omega)] at r1
        refine ⟨by show R t = v + 1 * (t - b); omega, fun q => ?_, fun q => by simp only at q; omega⟩
        have q2 := q.2
        by_cases z2 : t = a
        · subst z2; omega
        · have r2 := hc (t - 1) (by omega) (Below.mono (by omega) h2)
          rw [if_pos (by omega)] at r2
          omega
    · rw [if_neg c2]
      refine ⟨hs, k (a, a + over, 1) ⟨he, by show 0 ≤ a; omega, .inr rfl, ?_, fun t h1 h2 => ?_⟩⟩
      · have r1 := hc a (Int.le_refl _) he
        rw [if_pos (by omega)] at r1
        show Beg R a
        rcases st with rfl | rfl
        · refine .inr (.inl fun q => ?_)
          have := (q.mpr (e2.mpr rfl)).2
          omega
        · refine .inr (.inr ?_)
          have : B + 1 - over ≠ a := fun z => c2 ⟨rfl, z⟩
          omega
      · have h1 : a ≤ t := h1
        have r1 := hc t h1 h2
        rw [if_pos (by omega)] at r1
        refine ⟨by show R t = a + over + 1 * (t - a); omega, fun q => ?_, fun q => by simp only at q; omega⟩
        have q2 := q.2
        by_cases z2 : t = a
        · subst z2; omega
        · have r2 := hc (t - 1) (by omega) (Below.mono (by omega) h2)
          rw [if_pos (by omega)] at r2
          omega
  · rw [if_neg c1]
    have low : ∀ t, a - 1 ≤ t → t < B + 1 - over → Below t e → R t = B := fun t h1 h2 h3 => by
      by_cases z : t = a - 1
      · rw [z, hB]
      · have := hc t (by omega) h3
        rw [if_neg (by omega)] at this
        exact this
    have std : ∀ t, a ≤ t → t < B + 1 - over → Below t e → St R t := fun t h1 h2 h3 => ⟨by omega, by rw [low t (by omega) h2 h3, low (t - 1) (by omega) (by omega) (Below.mono (by omega) h3)]⟩
    have up : Below (B + 1 - over) e → Seg R (B + 1 - over, B + 1, 1) e := fun hb => by
      have r0 := hc (B + 1 - over) (by omega) hb
      rw [if_pos (by omega)] at r0
      have r1 := low (B + 1 - over - 1) (by omega) (by omega) (Below.mono (by omega) hb)
      refine ⟨hb, by show 0 ≤ B + 1 - over; omega, .inr rfl, .inr (.inl fun q => ?_), fun t h1 h2 => ?_⟩
      · have := (q.mpr (std (B + 1 - over - 1) (by omega) (by omega) (Below.mono (by omega) hb))).2
        simp only at this
        omega
      · have h1 : B + 1 - over ≤ t := h1
        have r2 := hc t (by omega) h2
        rw [if_pos (by omega)] at r2
        refine ⟨by show R t = B + 1 + 1 * (t - (B + 1 - over)); omega, fun q => ?_, fun q => by simp only at q; omega⟩
        have q2 := q.2
        by_cases z2 : t = B + 1 - over
        · subst z2; omega
        · have r3 := hc (t - 1) (by omega) (Below.mono (by omega) h2)
          rw [if_pos (by omega)] at r3
          omega
    by_cases c2 : s = 1
    · subst c2
      rw [if_pos rfl]
      have mid : ∀ e' : Option Int, Below a e' → (∀ t, Below t e' → Below t e) → (∀ t, a ≤ t → Below t e' → t < B + 1 - over) → Seg R (a, B, 0) e' := fun e' h1 h2 h3 => by
        refine ⟨h1, by show 0 ≤ a; omega, .inl rfl, .inr (.inl fun q => ?_), fun t g1 g2 => ?_⟩
        · have := e2.mp (q.mp (std a (Int.le_refl _) (by omega) he))
          omega
        · have g1 : a ≤ t := g1
          refine ⟨?_, fun _ => rfl, fun _ => std t g1 (h3 t g1 g2) (h2 t g2)⟩
          rw [low t (by omega) (h3 t g1 g2) (h2 t g2)]
          show B = B + 0 * _
          omega
      by_cases c3 : Below (B + 1 - over) e
      · rw [if_pos c3]
        exact ⟨hs, mid (some (B + 1 - over)) (by show a < _; omega) (fun t g => Below.mono (Int.le_of_lt g) c3) (fun t _ g => g), k _ (up c3)⟩
      · rw [if_neg c3]
        refine ⟨hs, k _ (mid e he (fun _ g => g) fun t _ g => ?_)⟩
        rcases Int.lt_or_le t (B + 1 - over) with z | z
        · exact z
        · exact (c3 (Below.mono z g)).elim
    · rw [if_neg c2]
      have c0 : s = 0 := st.resolve_right c2
      subst c0
      have ext : ∀ e' : Option Int, Below b e' → (∀ t, Below t e' → Below t e) → (∀ t, a ≤ t → Below t e' → t < B + 1 - over) → Seg R (b, v, 0) e' := fun e' h1 h2 h3 => by
        refine ⟨h1, ge, .inl rfl, bg, fun t g1 g2 => ?_⟩
        by_cases z : t < a
        · exact at0 t g1 z
        · refine ⟨?_, fun _ => rfl, fun _ => std t (by omega) (h3 t (by omega) g2) (h2 t g2)⟩
          rw [low t (by omega) (h3 t (by omega) g2) (h2 t g2)]
          show B = v + 0 * _
          omega
      by_cases c3 : Below (B + 1 - over) e
      · rw [if_pos c3]
        exact ⟨ext (some (B + 1 - over)) (by show b < _; omega) (fun t g => Below.mono (Int.le_of_lt g) c3) (fun t _ g => g), k _ (up c3)⟩
      · rw [if_neg c3]
        refine k _ (ext e (Below.mono (by omega) he) (fun _ g => g) fun t _ g => ?_)
        rcases Int.lt_or_le t (B + 1 - over) with z | z
        · exact z
        · exact (c3 (Below.mono z g)).elim
/-! ### promises -/
end CFRu

set_option Elab.async false
set_option linter.all false
set_option maxRecDepth 100000
set_option maxHeartbeats 4000000
/-! CFWd: words of the laws: the promise -/
namespace CFWd
open PySem PySem.Spec PyProof.Rows L2 DL CFH
def signs : Str := "abcdefghijklmnopqrstuvwxyz0123456789"
theorem sg_len : signs.cps.toList.length = 36 := by decide +kernel
theorem sg_sz : signs.length ≤ sizeLine := by
  have : signs.length = 36 := by decide +kernel
  rw [this, sizeLine_eq]; decide
structure WordOk (x : Str) : Prop where
  l1 : 1 ≤ x.length
  l8 : x.length ≤ 8
  sg : ∀ c ∈ x.cps.toList, c ∈ signs.cps.toList
structure WsOk (ws : List Str) : Prop where
  nd : ws.Nodup
  ok : ∀ w ∈ ws, WordOk w
  /-- they differ at one place -/
  ap : ∃ a : Nat, (∀ w ∈ ws, (w.cps.toList[a]?).isSome = true) ∧ ws.Pairwise fun x y => x.cps.toList[a]? ≠ y.cps.toList[a]?
def sgAt (j : Nat) : Nat := signs.cps.toList.getD j 0
theorem sg_at {j : Nat} (h : j < 36) : signs.cps.toList[j]? = some (sgAt j) := by
  unfold sgAt
  rw [List.getD_eq_getElem?_getD, List.getElem?_eq_getElem (by rw [sg_len]; exact h)]
  rfl
theorem sg_mem {j : Nat} (h : j < 36) : sgAt j ∈ signs.cps.toList := List.mem_of_getElem? (sg_at h)
theorem sg_inj' : ∀ i < 36, ∀ j < 36, sgAt i = sgAt j → i = j := by decide +kernel
theorem sg_inj {i j : Nat} (hi : i < 36) (hj : j < 36) (h : sgAt i = sgAt j) : i = j := sg_inj' i hi j hj h
def wordL (c a b : Nat) (short : Bool) (b0 st k : Nat) : List Nat := List.replicate a c ++ [sgAt ((b0 + st * k) % 36)] ++ (if short = true ∧ k % 2 = 1 then [] else List.replicate b c)
theorem word_ok {c a b : Nat} {short : Bool} {b0 st k : Nat} (hc : c ∈ signs.cps.toList) (hl : a + b ≤ 7) : WordOk (T (wordL c a b short b0 st k)) := by
  unfold wordL
  refine ⟨?_, ?_, ?_⟩
  · rw [T_len]; simp only [List.length_append, List.length_cons, List.length_nil]; omega
  · rw [T_len]; split <;> simp <;> omega
  · rw [T_list]
    intro z hz
    rcases List.mem_append.mp hz with hz | hz
    · rcases List.mem_append.mp hz with hz | hz
      · rw [List.eq_of_mem_replicate hz]; exact hc
      · rw [List.mem_singleton.mp hz]; exact sg_mem (Nat.mod_lt _ (by decide))
    · split at hz
      · cases hz
      · rw [List.eq_of_mem_replicate hz]; exact hc
theorem word_inj {c a b : Nat} {short : Bool} {b0 st k k' : Nat} (hs : st = 1 ∨ st = 5 ∨ st = 7 ∨ st = 11 ∨ st = 13 ∨ st = 17) (hk : k < 36) (hk' : k' < 36) (h : wordL c a b short b0 st k = wordL c a b short b0 st k') : k = k' := by
  have g : ∀ k, (wordL c a b short b0 st k)[a]? = some (sgAt ((b0 + st * k) % 36)) := fun k => by
    unfold wordL
    rw [List.append_assoc, List.getElem?_append_right (by simp)]
    simp
  have e := g k
  rw [h, g k'] at e
  have e2 := sg_inj (Nat.mod_lt _ (by decide)) (Nat.mod_lt _ (by decide)) (Option.some.inj e)
  rcases hs with rfl | rfl | rfl | rfl | rfl | rfl <;> omega
theorem words_ok {c a b : Nat} {short : Bool} {b0 st n : Nat} (hs : st = 1 ∨ st = 5 ∨ st = 7 ∨ st = 11 ∨ st = 13 ∨ st = 17) (hn : n ≤ 36) (hc : c ∈ signs.cps.toList) (hl : a + b ≤ 7) : WsOk ((List.range n).map fun k => T (wordL c a b short b0 st k)) := by
  have g : ∀ k, (T (wordL c a b short b0 st k)).cps.toList[a]? = some (sgAt ((b0 + st * k) % 36)) := fun k => by
    show (wordL c a b short b0 st k).toArray.toList[a]? = _
    unfold wordL
    rw [List.append_assoc, List.toList_toArray, List.getElem?_append_right (by simp)]
    simp
  refine ⟨?_, fun w hw => ?_, a, fun w hw => ?_, ?_⟩
  · refine List.pairwise_map.mpr ((show (List.range n).Pairwise (· ≠ ·) from List.nodup_range).imp_of_mem fun {x y} hx hy z e => z (word_inj hs ?_ ?_ (T_inj e)))
    · have := List.mem_range.mp hx; omega
    · have := List.mem_range.mp hy; omega
  · obtain ⟨k, _, rfl⟩ := List.mem_map.mp hw
    exact word_ok hc hl
  · obtain ⟨k, _, rfl⟩ := List.mem_map.mp hw
    rw [g]
    rfl
  · refine List.pairwise_map.mpr ((show (List.range n).Pairwise (· ≠ ·) from List.nodup_range).imp_of_mem fun {x y} hx hy z e => z ?_)
    have kx := List.mem_range.mp hx
    have ky := List.mem_range.mp hy
    rw [g, g] at e
    have e2 := sg_inj (Nat.mod_lt _ (by decide)) (Nat.mod_lt _ (by decide)) (Option.some.inj e)
    rcases hs with rfl | rfl | rfl | rfl | rfl | rfl <;> omega
theorem WsOk.take {ws : List Str} (h : WsOk ws) (k : Nat) : WsOk (ws.take k) := by
  obtain ⟨a, h1, h2⟩ := h.ap
  exact ⟨h.nd.sublist (List.take_sublist _ _), fun w hw => h.ok w (List.mem_of_mem_take hw), a, fun w hw => h1 w (List.mem_of_mem_take hw), h2.sublist (List.take_sublist _ _)⟩
def S_law_words : SpD := fun as Q _ => ∃ (h : Hd) (n : Nat) (m : Int), as = [hc h, .v (.int m)] ∧ h.ok n ∧ n ≤ 800000 ∧ 0 ≤ m ∧ m ≤ 36 ∧ ∀ (h' : Hd) (ws : List Str), h'.ok (n + 10) → (ws.length : Int) = m → WsOk ws → Q (.own 0 (.lst (ws.map PyData.str))) [hc h', .v (.int m)]
theorem len_law_words : ∀ as QD ED, S_law_words as QD ED → as.length = 2 := by
  rintro as QD ED ⟨_, _, _, rfl, _⟩
  rfl
end CFWd

set_option Elab.async false
set_option linter.all false
set_option maxRecDepth 100000
set_option maxHeartbeats 4000000
/-! CFCh: the laws' helpers about the clock -/
namespace CFCh
open PySem PySem.Spec PyProof.Rows L2 DL CFH CFCl
end CFCh

set_option Elab.async false
set_option linter.all false
set_option maxRecDepth 100000
set_option maxHeartbeats 4000000
/-! CFBk: turns, layers, changes, books as data -/
namespace CFBk
open PySem PySem.Spec PyProof.Rows L2 DL CFH CFCl CFRu CFWd
abbrev Trn := Int × Int × Str
structure Lyr where
  word : Str
  start : Int
  days : Int
  turns : List Trn
def TrnsOk (most : Int) : Int → List Trn → Prop
  | _, [] => True
  | lo, t :: ts => lo ≤ t.1 ∧ t.1 < t.2.1 ∧ t.2.1 ≤ most ∧ WordOk t.2.2 ∧ TrnsOk most t.2.1 ts
structure LyrOk (l : Lyr) : Prop where
  wd : WordOk l.word
  d1 : 1 ≤ l.days
  d60 : l.days ≤ 60
  s0 : 0 ≤ l.start
  s1 : l.start < 1440 * l.days
  n12 : l.turns.length ≤ 12
  ts : TrnsOk (1440 * l.days) 0 l.turns
inductive Chg where
  | away (h : Str) (b : Int) (e : Option Int)
  | on (h : Str) (b : Int) (e : Option Int)
  | stand (h o : Str) (b : Int) (e : Option Int)
def Chg.b : Chg → Int
  | away _ b _ => b
  | on _ b _ => b
  | stand _ _ b _ => b
def Chg.e : Chg → Option Int
  | away _ _ e => e
  | on _ _ e => e
  | stand _ _ _ e => e
def Chg.h : Chg → Str
  | away h _ _ => h
  | on h _ _ => h
  | stand h _ _ _ => h
def Chg.kind : Chg → Str
  | away _ _ _ => "away"
  | on _ _ _ => "on"
  | stand _ _ _ _ => "for"
def Chg.Hands (c : Chg) (p : Str → Prop) : Prop := match c with
  | away h _ _ => p h
  | on h _ _ => p h
  | stand h o _ _ => p h ∧ p o ∧ h ≠ o
structure ChgOk (c : Chg) : Prop where
  hs : c.Hands WordOk
  b0 : 0 ≤ c.b
  b1 : c.b < big
  e1 : ∀ e, c.e = some e → c.b < e ∧ e < big
structure Bk where
  js : List Pr
  ls : List Lyr
  cs : List Chg
end CFBk

set_option Elab.async false
set_option linter.all false
set_option maxRecDepth 100000
set_option maxHeartbeats 4000000
/-! CFTu: turns of numbers -/
namespace CFTu
open PySem PySem.Spec PyProof.Rows L2 DL CFH CFCl CFRu CFWd CFBk
def placeL (l : Lyr) (r : Int) : Int := (r - l.start) % (1440 * l.days)
end CFTu

set_option Elab.async false
set_option linter.all false
set_option maxRecDepth 100000
set_option maxHeartbeats 4000000
/-! CFRa: first_from, how_many -/
namespace CFRa
open PySem PySem.Spec PyProof.Rows L2 DL CFH
@[reducible] def ff (rest by_ low : Int) : Int := low + (rest - low) % by_
def hm (rest by_ low high : Int) : Int := if high ≤ ff rest by_ low then 0 else (high - 1 - ff rest by_ low) / by_ + 1
def cnt (rest by_ high : Int) : Int := (high - 1 - rest) / by_
/-! the plain law -/
end CFRa

set_option Elab.async false
set_option linter.all false
set_option maxRecDepth 100000
set_option maxHeartbeats 4000000
/-! CFRb: gcd, inverse, agree, clash_of, joined: promises and their mathematics -/
namespace CFRb
open PySem PySem.Spec PyProof.Rows L2 DL CFH
def zl (a b : Int) : Int := ((Int.lcm a b : Nat) : Int)
def Sm (x : Int) : Prop := x.natAbs < 2 ^ 8900
theorem Sm.of_le {x y : Int} (h : Sm y) (l : x.natAbs ≤ y.natAbs) : Sm x := Nat.lt_of_le_of_lt l h
theorem Sm.neg {x : Int} (h : Sm x) : Sm (-x) := h.of_le (by omega)
theorem Sm.big {x : Int} (h0 : 0 ≤ x) (h : x ≤ big) : Sm x := by
  have e : (2 : Nat) ^ 200 ≤ 2 ^ 8900 := Nat.pow_le_pow_right (by decide) (by decide)
  refine Nat.lt_of_lt_of_le (m := 2 ^ 200) ?_ e
  unfold CFH.big at h
  omega

/-! ### pairs -/
abbrev Pr := Int × Int
/-! ### promises -/
end CFRb

set_option Elab.async false
set_option linter.all false
set_option maxRecDepth 100000
set_option maxHeartbeats 4000000
/-! CFTd: who is called: told, stand, first -/
namespace CFTd
open PySem PySem.Spec PyProof.Rows L2 DL CFH CFCl CFRu CFWd CFBk CFTu
theorem sg_small : ∀ c ∈ signs.cps.toList, c < 0x110000 := by decide +kernel
theorem word_ok {x : Str} (h : WordOk x) : PyData.canLay0 (.str x) = true := by
  show x.cps.all (· < 0x110000) = true
  rw [Array.all_eq_true]
  intro i hi
  have := sg_small _ (h.sg x.cps[i] (by simp))
  simpa using this
theorem eqv_str {a b : Str} : PyData.eqv (.str a) (.str b) = decide (a = b) := by
  simp only [PyData.eqv]
  by_cases h : a = b
  · subst h; simp
  · simp [h]
inductive Rw where
  | non (w : Str)
  | turn (h w : Str) (j : Nat)
  | sub (h w : Str) (j k : Nat)
  | on (h : Str) (k : Nat)
  | away (m : Nat) (r : Rw)
def Rw.hand : Rw → Option Str
  | .turn h _ _ => some h
  | .sub h _ _ _ => some h
  | .on h _ => some h
  | _ => none
def Rw.kind : Rw → Str
  | .non _ => "none"
  | .turn _ _ _ => "turn"
  | .sub _ _ _ _ => "for"
  | .on _ _ => "on"
  | .away _ _ => "away"
def Rw.Ok : Rw → Prop
  | .non w => WordOk w
  | .turn h w _ => WordOk h ∧ WordOk w
  | .sub h w _ _ => WordOk h ∧ WordOk w
  | .on h _ => WordOk h
  | .away _ r => r.Ok
theorem Rw.Ok.hand {r : Rw} {h : Str} (o : r.Ok) (e : r.hand = some h) : WordOk h := by
  cases r <;> cases e
  · exact o.1
  · exact o.1
  · exact o
/-! what is told -/
def coversL (c : Chg) (t : Int) : Bool := decide (c.b ≤ t) && (match c.e with
  | none => true
  | some e => decide (t < e))
def isAway (cs : List Chg) (h : Str) (k : Nat) : Bool := match cs[k]? with
  | some (.away h' _ _) => decide (h' = h)
  | _ => false
def lookL (cs : List Chg) (ks : List Nat) (r : Rw) (h : Str) : Rw := match ks.find? (isAway cs h) with
  | none => r
  | some m => .away m r
/-! facts -/
structure BkW (b : Bk) : Prop where
  js : b.js.length ≤ 100
  ls : ∀ l ∈ b.ls, LyrOk l
  l4 : b.ls.length ≤ 100
  cs : ∀ c ∈ b.cs, ChgOk c
  c24 : b.cs.length ≤ 200
/-! promises -/
end CFTd

set_option Elab.async false
set_option linter.all false
set_option maxRecDepth 100000
set_option maxHeartbeats 4000000
/-! CFRd: the laws' reading by the last moments ahead of jumps, one sum kept -/
namespace CFRd
open PySem PySem.Spec PyProof.Rows L2 DL CFH CFCl CFCh
end CFRd

set_option Elab.async false
set_option linter.all false
set_option maxRecDepth 100000
set_option maxHeartbeats 4000000
/-! CFRw: the laws' own rows -/
namespace CFRw
open PySem PySem.Spec PyProof.Rows L2 DL CFH CFCl CFRu CFWd CFBk CFTu CFTd
def gone (cs : List Chg) (ks : List Nat) (r : Rw) : Rw := match r.hand with
  | none => r
  | some h => lookL cs ks r h
end CFRw

set_option Elab.async false
set_option linter.all false
set_option maxRecDepth 100000
set_option maxHeartbeats 4000000
/-! CFCg: a drawn change -/
namespace CFCg
open PySem PySem.Spec PyProof.Rows L2 DL CFH CFCl CFRu CFWd CFBk
end CFCg

set_option Elab.async false
set_option linter.all false
set_option maxRecDepth 100000
set_option maxHeartbeats 4000000
/-! CFLa: what can be laid: changes, rows, layers, books; kinds of changes -/
namespace CFLa
open PySem PySem.Spec PyProof.Rows L2 DL CFH CFCl CFRu CFWd CFBk CFCg CFTu CFTd CFRw
end CFLa

set_option Elab.async false
set_option linter.all false
set_option maxRecDepth 100000
set_option maxHeartbeats 4000000
/-! CFPl: the plain layers of a moment's span -/
namespace CFPl
open PySem PySem.Spec PyProof.Rows L2 DL CFH CFCl CFRu CFWd CFBk CFCg CFTu CFTd CFLa
end CFPl

set_option Elab.async false
set_option linter.all false
set_option maxRecDepth 100000
set_option maxHeartbeats 4000000
/-! CFEd: edges -/
namespace CFEd
open PySem PySem.Spec PyProof.Rows L2 DL CFH CFCl CFRu CFWd CFBk
end CFEd

set_option Elab.async false
set_option linter.all false
set_option maxRecDepth 100000
set_option maxHeartbeats 4000000
/-! CFLe: the laws' own edges; where runs begin -/
namespace CFLe
open PySem PySem.Spec PyProof.Rows L2 DL CFH CFCl CFRu CFWd CFBk CFEd
instance {R : Int → Int} {t : Int} : Decidable (CFRu.St R t) := inferInstanceAs (Decidable (0 < t ∧ R t = R (t - 1)))
instance {R : Int → Int} {t : Int} : Decidable (Beg R t) := inferInstanceAs (Decidable (t = 0 ∨ ¬ (CFRu.St R t ↔ CFRu.St R (t - 1)) ∨ R t > R (t - 1) + 1))
end CFLe

set_option Elab.async false
set_option linter.all false
set_option maxRecDepth 100000
set_option maxHeartbeats 4000000
/-! CFSp: plain spans: what stays alike from edge to edge -/
namespace CFSp
open PySem PySem.Spec PyProof.Rows L2 DL CFH CFCl CFRu CFWd CFBk CFCg CFTu CFTd CFLa CFPl CFEd CFLe
def inP (p : Int) (t : Trn) : Bool := decide (t.1 ≤ p ∧ p < t.2.1)
end CFSp

set_option Elab.async false
set_option linter.all false
set_option maxRecDepth 100000
set_option maxHeartbeats 4000000
/-! CFLo: lots: who is called, by pieces of the day and rests of its number -/
namespace CFLo
open PySem PySem.Spec PyProof.Rows L2 DL CFH CFCl CFRu CFWd CFBk CFTu CFRb CFSp
/-! ### a layer's hand at a number -/
def whoL (l : Lyr) (r : Int) : Option Str := (l.turns.find? (inP (placeL l r))).map (·.2.2)
/-! ### the lot of a day -/
abbrev Lt := List Int × Option Str
def lotOf : List Lyr → Int → Int → Lt
  | [], _, _ => ([], none)
  | l :: ls, m, d => match whoL l (1440 * d + m) with
    | some h => ([d % l.days], some h)
    | none => (d % l.days :: (lotOf ls m d).1, (lotOf ls m d).2)
def rnd (ls : List Lyr) : Int := ls.foldl (fun n l => zl n l.days) 1
/-! ### the order of the rests -/
/-! ### joining -/
/-! ### layer by layer -/
structure Ah where
  rs : List Int
  r : Int
  n : Int
structure Inv (ls : List Lyr) (m : Int) (s : List Lt × List Ah) : Prop where
  nd : (s.1.map (·.1) ++ s.2.map (·.rs)).Nodup
  fd : ∀ x ∈ s.1, x.2.isSome = true ∧ ∃ d, lotOf ls m d = x
  ah : ∀ a ∈ s.2, 0 ≤ a.r ∧ a.r < a.n ∧ a.n = rnd ls ∧ a.rs.length = ls.length ∧ ∀ d, d % a.n = a.r ↔ lotOf ls m d = (a.rs, none)
  al : ∀ d, lotOf ls m d ∈ s.1 ∨ ∃ a ∈ s.2, lotOf ls m d = (a.rs, none)
/-! ### how many at each time -/
abbrev s0 : List Lt × List Ah := ([], [⟨[], 0, 1⟩])
/-! ### data -/
@[reducible] def optS : Option Str → D
  | none => .none
  | some h => .str h
structure Lot where
  lo : Int
  hi : Int
  x : Lt
/-! ### cuts -/
/-! ### all pieces -/
/-! ### promises -/
end CFLo

set_option Elab.async false
set_option linter.all false
set_option maxRecDepth 100000
set_option maxHeartbeats 4000000
/-! CFLc: the laws' own cuts of the day; within a piece a layer has one turn -/
namespace CFLc
open PySem PySem.Spec PyProof.Rows L2 DL CFH CFCl CFRu CFWd CFBk CFTu CFRb CFSp CFLo
end CFLc

set_option Elab.async false
set_option linter.all false
set_option maxRecDepth 100000
set_option maxHeartbeats 4000000
/-! CFLy: a drawn layer -/
namespace CFLy
open PySem PySem.Spec PyProof.Rows L2 DL CFH CFCl CFRu CFWd CFBk CFCg
end CFLy

set_option Elab.async false
set_option linter.all false
set_option maxRecDepth 100000
set_option maxHeartbeats 4000000
/-! CFCr: a crowded book -/
namespace CFCr
open PySem PySem.Spec PyProof.Rows L2 DL CFH CFCl CFRu CFWd CFBk CFCg CFLy CFTd CFLa
end CFCr

set_option Elab.async false
set_option linter.all false
set_option maxRecDepth 100000
set_option maxHeartbeats 4000000
/-! CFNr: moments near a book's edges -/
namespace CFNr
open PySem PySem.Spec PyProof.Rows L2 DL CFH CFCl CFRu CFWd CFBk
end CFNr

set_option Elab.async false
set_option linter.all false
set_option maxRecDepth 100000
set_option maxHeartbeats 4000000
/-! CFLs: drawn layers -/
namespace CFLs
open PySem PySem.Spec PyProof.Rows L2 DL CFH CFCl CFRu CFWd CFBk CFCg CFLy
def menus : Bool → List (List Int)
  | false => [[1, 2, 3, 4, 6, 12], [7], [1, 2], [1, 7], [2, 5, 10], [3, 9]]
  | true => [[1, 2, 3, 4, 6, 12], [7, 14, 28], [1, 2, 4, 7, 14, 28], [3, 5, 15, 30, 60], [8, 9], [5, 11]]
end CFLs

set_option Elab.async false
set_option linter.all false
set_option maxRecDepth 100000
set_option maxHeartbeats 4000000
/-! k22: the promises -/
namespace K22
open PySem PySem.Spec PyProof.Rows L2 DL CFH CFCl CFRu CFWd CFBk CFCg CFTu CFTd CFRw
def awayH : Chg → Option Str
  | .away h _ _ => some h
  | _ => none
def onH : Chg → Option Str
  | .on h _ _ => some h
  | _ => none
def forH (o : Str) : Chg → Option Str
  | .stand h o' _ _ => if o' = o then some h else none
  | _ => none
abbrev covF (cs : List Chg) (t : Int) : List Chg := cs.filter fun c => coversL c t
def goneW (cs : List Chg) : List Str := cs.filterMap awayH
def forsW (cs : List Chg) (h : Str) : Str := (cs.filterMap (forH h)).getLast?.getD h
/-! the law's books -/
def S_law : SpD := fun as Q _ => ∃ ns : List Int, as = [.v (.list (ns.map PyData.int))] ∧ ns.length ≤ 63 ∧ ∀ rs, Q (.v (.bool true)) rs
theorem law_in : ∀ ns : List Int, ns.length ≤ 63 → S_law [.v (.list (ns.map PyData.int))] (fun c _ => c = .v (.bool true)) (fun _ _ => False) := fun ns h => ⟨ns, rfl, h, fun _ => rfl⟩
theorem len_law : ∀ as QD ED, S_law as QD ED → as.length = 1 := by
  rintro as QD ED ⟨_, rfl, _⟩
  rfl
end K22

set_option Elab.async false
set_option linter.all false
set_option maxRecDepth 100000
set_option maxHeartbeats 4000000
/-! k25: the promises -/
namespace K25
open PySem PySem.Spec PyProof.Rows L2 DL CFH CFCl CFRu CFWd CFBk CFCg CFTu CFTd CFLa CFPl CFSp CFEd CFLe CFRw
open K22 (covF goneW forsW awayH forH)
def S_law : SpD := fun as Q _ => ∃ ns : List Int, as = [.v (.list (ns.map PyData.int))] ∧ ns.length ≤ 63 ∧ ∀ rs, Q (.v (.bool true)) rs
theorem law_in : ∀ ns : List Int, ns.length ≤ 63 → S_law [.v (.list (ns.map PyData.int))] (fun c _ => c = .v (.bool true)) (fun _ _ => False) := fun ns h => ⟨ns, rfl, h, fun _ => rfl⟩
theorem len_law : ∀ as QD ED, S_law as QD ED → as.length = 1 := by
  rintro as QD ED ⟨_, rfl, _⟩
  rfl
end K25

set_option Elab.async false
set_option linter.all false
set_option maxRecDepth 100000
set_option maxHeartbeats 4000000
/-! CFRh: who is there, by the laws' own look at changes and layers -/
namespace CFRh
open PySem PySem.Spec PyProof.Rows L2 DL CFH CFCl CFRu CFWd CFBk CFCg CFTu CFTd CFLa CFPl CFSp
open K22 (covF goneW forsW awayH forH onH)
end CFRh

set_option Elab.async false
set_option linter.all false
set_option maxRecDepth 100000
set_option maxHeartbeats 4000000
/-! CFNn: who is called next that isn't named: spans, soonest, chains -/
namespace CFNn
open PySem PySem.Spec PyProof.Rows L2 DL CFH CFCl CFRu CFWd CFBk CFCg CFTu CFTd CFLa CFPl CFSp CFEd CFLe CFRh
/-! plain layers in order -/
/-! the first moment in a turn -/
/-! the soonest that isn't named -/
/-! the next that isn't named -/
/-! the spans from a moment on -/
abbrev Sp := Int × Option Int × List Lyr
/-! the rows that stand, each hand once -/
/-! chains -/
def allH (b : Bk) : List Str := b.cs.map (·.h) ++ b.ls.flatMap fun l => l.turns.map (·.2.2)
end CFNn

set_option Elab.async false
set_option linter.all false
set_option maxRecDepth 100000
set_option maxHeartbeats 4000000
/-! CFFr: the next gap, the next moment of a hand -/
namespace CFFr
open PySem PySem.Spec PyProof.Rows L2 DL CFH CFCl CFRu CFWd CFBk CFTu CFTd CFPl CFRa CFRb CFSp CFEd CFRh CFNn CFLo CFLc
/-! ### one day's lot, by moments -/
/-! ### the first moment of a lot -/
/-! ### spans -/
end CFFr

set_option Elab.async false
set_option linter.all false
set_option maxRecDepth 100000
set_option maxHeartbeats 4000000
/-! CFCn: counting moments; sums by names -/
namespace CFCn
open PySem PySem.Spec PyProof.Rows L2 DL CFH CFCl CFRu CFWd CFBk CFTu CFTd CFPl CFRa CFRb CFSp CFEd CFRh CFNn CFLo CFLc CFFr
def sumR (g : Nat → Int) : Nat → Int
  | 0 => 0
  | n + 1 => sumR g n + g n
def bI (b : Bool) : Int := if b then 1 else 0
def cnt (p : Int → Bool) (lo hi : Int) : Int := sumR (fun k => bI (p (lo + k))) (hi - lo).toNat
/-! ### sums by names -/
abbrev RwI := Str × Int
def wsum (l : List RwI) (n : Str) : Int := ((l.filter fun r => decide (r.1 = n)).map (·.2)).sum
theorem wsum_nil {n : Str} : wsum [] n = 0 := rfl
theorem wsum_cons {r : RwI} {l : List RwI} {n : Str} : wsum (r :: l) n = (if r.1 = n then r.2 else 0) + wsum l n := by
  unfold wsum
  rw [List.filter_cons]
  by_cases h : r.1 = n
  · rw [if_pos (decide_eq_true h), if_pos h, List.map_cons, List.sum_cons]
  · rw [if_neg (by rw [decide_eq_true_eq]; exact h), if_neg h, Int.zero_add]
theorem wsum_app {l m : List RwI} {n : Str} : wsum (l ++ m) n = wsum l n + wsum m n := by
  unfold wsum
  rw [List.filter_append, List.map_append, List.sum_append]
theorem wsum_none {l : List RwI} {n : Str} (h : n ∉ l.map (·.1)) : wsum l n = 0 := by
  unfold wsum
  rw [List.filter_eq_nil_iff.mpr fun r hr => by
    rw [decide_eq_true_eq]
    exact fun e => h (List.mem_map.mpr ⟨r, hr, e⟩)]
  rfl
theorem wsum_nn {l : List RwI} {n : Str} (h : ∀ r ∈ l, 0 ≤ r.2) : 0 ≤ wsum l n := by
  induction l with
  | nil => exact Int.le_refl _
  | cons r l ih =>
    rw [wsum_cons]
    have := ih fun q hq => h q (.tail _ hq)
    have := h r (.head _)
    split <;> omega
structure IsRows (l : List RwI) (rows : List RwI) : Prop where
  up : rows.Pairwise (fun x y => sLt x.1 y.1 = true)
  mem : ∀ n v, (n, v) ∈ rows ↔ n ∈ l.map (·.1) ∧ v = wsum l n
structure GOk (l : List RwI) (kvs : List (Key × D)) : Prop where
  ks : ∃ ss : List (Str × D), kvs = ss.map fun e => (Sum.inr e.1, e.2)
  nd : (kvs.map (·.1)).Nodup
  len : kvs.length ≤ l.length
  get : ∀ n, dGet kvs (.inr n) = if n ∈ l.map (·.1) then some (.int (wsum l n)) else none
theorem gok_nil : GOk [] [] := ⟨⟨[], rfl⟩, List.nodup_nil, Nat.le_refl _, fun n => by rw [if_neg (fun h => nomatch h)]; rfl⟩
theorem gok_put {l : List RwI} {kvs : List (Key × D)} {n : Str} {w x : Int} (h : GOk l kvs) (e : x = wsum l n + w) : GOk (l ++ [(n, w)]) (dPut kvs (.inr n) (.int x)) := by
  refine ⟨?_, dput_nodup h.nd, ?_, fun m => ?_⟩
  · obtain ⟨ss, e1⟩ := h.ks
    subst e1
    unfold dPut
    split
    · refine ⟨ss.map fun e => if e.1 = n then (e.1, .int x) else e, ?_⟩
      rw [List.map_map, List.map_map]
      refine List.map_congr_left fun p _ => ?_
      show (if (Sum.inr p.1 : Key) = Sum.inr n then ((Sum.inr p.1 : Key), PyData.int x) else (Sum.inr p.1, p.2)) = (Sum.inr (if p.1 = n then (p.1, PyData.int x) else p).1, (if p.1 = n then (p.1, PyData.int x) else p).2)
      by_cases z : p.1 = n
      · rw [if_pos (by rw [z]), if_pos z]
      · rw [if_neg (fun q => z (Sum.inr.inj q)), if_neg z]
    · exact ⟨ss ++ [(n, .int x)], by rw [List.map_append]; rfl⟩
  · have := dput_len kvs (.inr n) (.int x)
    have := h.len
    rw [List.length_append, List.length_singleton]
    omega
  · rw [dget_put, h.get, wsum_app, wsum_cons, wsum_nil]
    have mm : m ∈ (l ++ [(n, w)]).map (·.1) ↔ m ∈ l.map (·.1) ∨ m = n := by rw [List.map_append, List.mem_append]; simp
    by_cases z : m = n
    · rw [if_pos (by rw [z]), if_pos (mm.mpr (.inr z)), z, if_pos rfl, e, Int.add_zero]
    · rw [if_neg (show ¬ (Sum.inr m : Key) = Sum.inr n from fun q => z (Sum.inr.inj q)), if_neg (show ¬ n = m from fun q => z q.symm)]
      by_cases y : m ∈ l.map (·.1)
      · rw [if_pos y, if_pos (mm.mpr (.inl y))]; simp
      · rw [if_neg y, if_neg fun q => (mm.mp q).elim y z]
theorem gok_get {l : List RwI} {kvs : List (Key × D)} {n : Str} (h : GOk l kvs) : (dGet kvs (.inr n)).getD (.int 0) = .int (wsum l n) := by
  rw [h.get]
  split
  · rfl
  · rename_i z
    rw [wsum_none z]; rfl
@[reducible] def rowD (r : RwI) : D := .tuple [.str r.1, .int r.2]
theorem gok_items {l : List RwI} {kvs : List (Key × D)} (h : GOk l kvs) {P : List (Str × D) → Prop} (q : ∀ rows : List RwI, IsRows l rows → P (rows.map fun r => (r.1, .int r.2))) :
    ∃ ss, strKV kvs = some ss ∧ ∀ ys : List (Str × D), (ss.map (·.1)).Nodup → ys.Perm ss → ys.Pairwise (fun e f => sLt e.1 f.1 = true) → P ys := by
  obtain ⟨ss, e⟩ := h.ks
  have go : ∀ ss : List (Str × D), strKV (ss.map fun e => (Sum.inr e.1, e.2)) = some ss := fun ss => by
    induction ss with
    | nil => rfl
    | cons s ss ih =>
      show (strKV (ss.map fun e => (Sum.inr e.1, e.2))).map ((s.1, s.2) :: ·) = _
      rw [ih]; rfl
  refine ⟨ss, by rw [e]; exact go ss, fun ys nd pm pw => ?_⟩
  have get : ∀ (ss : List (Str × D)) (n : Str) (d : D), (ss.map (·.1)).Nodup → ((n, d) ∈ ss ↔ dGet (ss.map fun e => (Sum.inr e.1, e.2)) (.inr n) = some d) := fun ss n d => by
    induction ss with
    | nil => exact fun _ => ⟨(fun h => nomatch h), (fun h => nomatch h)⟩
    | cons s ss ih =>
      intro nd
      obtain ⟨n1, n2⟩ := List.nodup_cons.mp nd
      rw [List.map_cons, List.mem_cons]
      by_cases z : s.1 = n
      · rw [dget_pos (p := (Sum.inr s.1, s.2)) (by rw [z])]
        constructor
        · rintro (w | w)
          · rw [← w]
          · exact absurd (List.mem_map.mpr ⟨(n, d), w, rfl⟩) (by rw [← z]; exact n1)
        · intro w
          exact .inl (by rw [← z, ← Option.some.inj w])
      · rw [dget_neg (p := (Sum.inr s.1, s.2)) (fun q => z (Sum.inr.inj q)), ← ih n2]
        exact ⟨fun w => w.elim (fun w => absurd (by rw [← w]) z) id, .inr⟩
  have mem : ∀ n d, (n, d) ∈ ys ↔ n ∈ l.map (·.1) ∧ d = .int (wsum l n) := fun n d => by
    rw [pm.mem_iff, get ss n d nd, ← e, h.get]
    by_cases y : n ∈ l.map (·.1)
    · rw [if_pos y]
      exact ⟨fun w => ⟨y, (Option.some.inj w).symm⟩, fun w => by rw [w.2]⟩
    · rw [if_neg y]
      exact ⟨(fun w => nomatch w), fun w => absurd w.1 y⟩
  have ey : ys = (ys.map fun e => (e.1, wsum l e.1)).map fun r : RwI => (r.1, PyData.int r.2) := by
    rw [List.map_map]
    conv => lhs; rw [← List.map_id ys]
    refine List.map_congr_left fun e he => ?_
    obtain ⟨_, e2⟩ := (mem e.1 e.2).mp he
    show e = (e.1, PyData.int (wsum l e.1))
    rw [← e2]
  rw [ey]
  refine q _ ⟨List.pairwise_map.mpr pw, fun n v => ?_⟩
  rw [List.mem_map]
  constructor
  · rintro ⟨e, he, z⟩
    obtain ⟨z1, z2⟩ := Prod.mk.inj z
    obtain ⟨m1, m2⟩ := (mem e.1 e.2).mp he
    rw [← z1]
    exact ⟨m1, z2.symm⟩
  · rintro ⟨m1, m2⟩
    exact ⟨(n, .int (wsum l n)), (mem n _).mpr ⟨m1, rfl⟩, by rw [m2]⟩
end CFCn

set_option Elab.async false
set_option linter.all false
set_option maxRecDepth 100000
set_option maxHeartbeats 4000000
/-! CFCb: nights counted: the promises -/
namespace CFCb
open PySem PySem.Spec PyProof.Rows L2 DL CFH CFWd CFLo CFCn
def planR (pl : List (Option Str)) : List RwI := pl.filterMap fun o => o.map fun x => (x, 1)
@[reducible] def kvR (r : RwI) : Key × D := (Sum.inr r.1, PyData.int r.2)
theorem plan_snoc {pl : List (Option Str)} {x : Str} : planR (pl ++ [some x]) = planR pl ++ [(x, 1)] := by
  unfold planR
  rw [List.filterMap_append]; rfl
theorem plan_none {pl : List (Option Str)} : planR (pl ++ [none]) = planR pl := by
  unfold planR
  rw [List.filterMap_append]
  exact List.append_nil _
theorem plan_app {a b : List (Option Str)} : planR (a ++ b) = planR a ++ planR b := List.filterMap_append ..
theorem plan_len (pl : List (Option Str)) : (planR pl).length ≤ pl.length := List.length_filterMap_le _ _
theorem pairs_of_rows : ∀ (ls : List RwI), dPairs (ls.map rowD) = some (ls.map kvR)
  | [] => rfl
  | r :: ls => by
    rw [List.map_cons, List.map_cons]
    show (match keyD (.str r.1), dPairs (ls.map rowD) with | some kk, some l => some ((kk, PyData.int r.2) :: l) | _, _ => none) = _
    rw [pairs_of_rows ls]
theorem kv_keys (ls : List RwI) : (ls.map kvR).map (·.1) = (ls.map (·.1)).map Sum.inr := by rw [List.map_map, List.map_map]; rfl
theorem kv_nodup {ls : List RwI} (nd : (ls.map (·.1)).Nodup) : ((ls.map kvR).map (fun kv : Key × D => kv.1)).Nodup := by
  have e : (ls.map kvR).map (fun kv : Key × D => kv.1) = (ls.map (·.1)).map Sum.inr := kv_keys ls
  rw [e]
  exact List.Pairwise.map _ (fun a b h z => h (Sum.inr.inj z)) nd
theorem gok_of : ∀ {ls : List RwI}, (ls.map (·.1)).Nodup → GOk ls (ls.map kvR)
  | ls, nd => by
    refine ⟨⟨ls.map fun r => (r.1, .int r.2), by rw [List.map_map]; rfl⟩, kv_nodup nd, by rw [List.length_map]; exact Nat.le_refl _, fun n => ?_⟩
    induction ls with
    | nil => rfl
    | cons r ls ih =>
      obtain ⟨n1, n2⟩ := List.nodup_cons.mp nd
      rw [List.map_cons, wsum_cons, List.map_cons]
      by_cases z : r.1 = n
      · rw [dget_pos (p := kvR r) (by show Sum.inr r.1 = Sum.inr n; rw [z]), if_pos (by rw [z]; exact .head _), if_pos z, wsum_none (by rw [← z]; exact n1), Int.add_zero]
      · rw [dget_neg (p := kvR r) (fun q => z (Sum.inr.inj q)), ih n2, if_neg z, Int.zero_add]
        by_cases y : n ∈ ls.map (·.1)
        · rw [if_pos y, if_pos (.tail _ y)]
        · rw [if_neg y, if_neg (fun q => (List.mem_cons.mp q).elim (fun q => z q.symm) y)]
theorem rows_nodup {l rows : List RwI} (h : IsRows l rows) : (rows.map (·.1)).Nodup := by
  refine List.pairwise_map.mpr (List.Pairwise.imp (fun {x y} q z => ?_) h.up)
  rw [z, sLt_irr] at q
  cases q
theorem rows_wsum {l rows : List RwI} (h : IsRows l rows) (n : Str) : wsum rows n = wsum l n := by
  by_cases m : n ∈ l.map (·.1)
  · have hm : (n, wsum l n) ∈ rows := (h.mem _ _).mpr ⟨m, rfl⟩
    have nd := rows_nodup h
    have go : ∀ (rs : List RwI), (rs.map (·.1)).Nodup → ∀ v, (n, v) ∈ rs → wsum rs n = v := fun rs => by
      induction rs with
      | nil => exact fun _ v h => nomatch h
      | cons r rs ih =>
        intro nd v hv
        obtain ⟨n1, n2⟩ := List.nodup_cons.mp nd
        rw [wsum_cons]
        rcases List.mem_cons.mp hv with e | hv
        · subst e
          rw [if_pos rfl, wsum_none n1, Int.add_zero]
        · rw [if_neg (fun z => n1 (List.mem_map.mpr ⟨(n, v), hv, z.symm⟩)), Int.zero_add]
          exact ih n2 v hv
    exact go rows nd _ hm
  · have nm : n ∉ rows.map (·.1) := fun q => by
      obtain ⟨r, hr, e⟩ := List.mem_map.mp q
      obtain ⟨a, b⟩ := r
      have e : a = n := e
      subst e
      exact m ((h.mem _ _).mp hr).1
    rw [wsum_none m, wsum_none nm]
def S_counts_behind : SpD := fun as Q _ => ∃ (ls : List RwI) (pl : List (Option Str)), as = [.p (.tuple (ls.map rowD)), .v (.tuple (pl.map optS))] ∧ (ls.map (·.1)).Nodup ∧ ls.length + pl.length ≤ 100000 ∧ ∀ kvs, GOk (ls ++ planR pl) kvs → Q (.own 0 (.dct kvs)) as
def S_loads_behind : SpD := fun as Q _ => ∃ (ls : List RwI) (pl : List (Option Str)), as = [.p (.tuple (ls.map rowD)), .v (.tuple (pl.map optS))] ∧ (ls.map (·.1)).Nodup ∧ ls.length + pl.length ≤ 100000 ∧ ∀ rows, IsRows (ls ++ planR pl) rows → Q (.p (.tuple (rows.map rowD))) as
theorem len_counts_behind : ∀ as QD ED, S_counts_behind as QD ED → as.length = 2 := by
  rintro as QD ED ⟨_, _, rfl, _⟩
  rfl
theorem len_loads_behind : ∀ as QD ED, S_loads_behind as QD ED → as.length = 2 := by
  rintro as QD ED ⟨_, _, rfl, _⟩
  rfl
end CFCb

set_option Elab.async false
set_option linter.all false
set_option maxRecDepth 100000
set_option maxHeartbeats 4000000
/-! CFRo: one round of layers, minutes by hands -/
namespace CFRo
open PySem PySem.Spec PyProof.Rows L2 DL CFH CFCl CFRu CFWd CFBk CFTu CFTd CFPl CFRa CFRb CFSp CFEd CFRh CFNn CFLo CFLc CFFr CFCn
/-! ### residues -/
/-! ### the rows that the program gathers -/
end CFRo

set_option Elab.async false
set_option linter.all false
set_option maxRecDepth 100000
set_option maxHeartbeats 4000000
/-! CFFw: drawn layers have few lots; what rows of counts add up to -/
namespace CFFw
open PySem PySem.Spec PyProof.Rows L2 DL CFH CFCl CFRu CFWd CFBk CFTu CFTd CFPl CFRa CFRb CFSp CFEd CFRh CFNn CFLo CFLc CFFr CFCn CFRo CFLs
/-! ### the sum of rows of counts -/
end CFFw

set_option Elab.async false
set_option linter.all false
set_option maxRecDepth 100000
set_option maxHeartbeats 4000000
/-! CFSv: minutes served, by hands -/
namespace CFSv
open PySem PySem.Spec PyProof.Rows L2 DL CFH CFCl CFRu CFWd CFBk CFTu CFTd CFPl CFRa CFRb CFSp CFEd CFRh CFNn CFLo CFLc CFFr CFCn CFRo CFFw
/-! ### days -/
/-! ### moments of a lot -/
def inB (b e r n : Int) : Int → Bool := fun x => decide (x / 1440 % n = r ∧ b ≤ x % 1440 ∧ x % 1440 < e)
def mid (b e m : Int) : Int := if (if m - b > 0 then m - b else 0) < e - b then (if m - b > 0 then m - b else 0) else e - b
/-! ### the windows of a span -/
def inS (sp : List (Int × Int)) (m : Int) : Int := (sp.map fun s => bI (decide (s.1 ≤ m ∧ m < s.2))).sum
def inW (js : List CFCl.Pr) (low high x : Int) : Bool := decide (low ≤ readingL js x % 1440 ∧ readingL js x % 1440 < high)
/-! ### lots and windows -/
def inL (q : Lot) (r n x : Int) : Int := bI (inB q.lo q.hi r n x)
/-! ### served -/
end CFSv

set_option Elab.async false
set_option linter.all false
set_option maxRecDepth 100000
set_option maxHeartbeats 4000000
/-! CFBo: a book drawn, as k57 to k62 draw it -/
namespace CFBo
open PySem PySem.Spec PyProof.Rows L2 DL CFH CFCl CFRu CFWd CFBk CFCg CFLy CFTd CFLa
def menus : List (List Int) := [[1, 2, 3, 4, 6, 12], [7], [1, 2], [2, 5, 10], [3, 9]]
structure BoOk (ws : List Str) (mj mc : Int) (b : Bk) : Prop where
  jo : JOk b.js
  jl : (b.js.length : Int) ≤ mj
  ls : ∀ l ∈ b.ls, LyrOk l
  l3 : b.ls.length ≤ 3
  tn : ∀ l ∈ b.ls, l.turns.length * b.ls.length ≤ 6
  dn : ∃ m ∈ menus, ∀ l ∈ b.ls, l.days ∈ m
  lh : ∀ l ∈ b.ls, ∀ t ∈ l.turns, t.2.2 ∈ ws
  cs : ∀ c ∈ b.cs, ChgOk c
  cl : (b.cs.length : Int) ≤ mc
  ch : ∀ c ∈ b.cs, c.Hands (· ∈ ws)
theorem BoOk.wk {ws : List Str} {mj mc : Int} {b : Bk} (h : BoOk ws mj mc b) (hm : mc ≤ 200) : BkW b := ⟨by have := h.jo.2.1; omega, h.ls, by have := h.l3; omega, h.cs, by have := h.cl; omega⟩
end CFBo

set_option Elab.async false
set_option linter.all false
set_option maxRecDepth 100000
set_option maxHeartbeats 4000000
/-! CFFb: drawn books have few lots; what served tells of them -/
namespace CFFb
open PySem PySem.Spec PyProof.Rows L2 DL CFH CFCl CFRu CFWd CFBk CFTu CFTd CFPl CFRa CFRb CFSp CFEd CFRh CFNn CFLo CFLc CFFr CFCn CFRo CFFw CFSv
/-! ### served over the whole day -/
theorem lay_name {w : Str} (h : w = "" ∨ WordOk w) : Lay 0 (.str w) := by
  rcases h with rfl | h
  · exact Lay.str (by decide +kernel)
  · exact Lay.str (word_ok h)
end CFFb

set_option Elab.async false
set_option linter.all false
set_option maxRecDepth 100000
set_option maxHeartbeats 4000000
/-! CFSr: nights shared: what the program reckons, and the promises -/
namespace CFSr
open PySem PySem.Spec PyProof.Rows L2 DL CFH CFWd CFLo CFCn CFRo CFFb CFCb
abbrev Ns := List (List Str)
abbrev Pln := List (Option Str)
@[reducible] def nightD (n : List Str) : D := .tuple (n.map PyData.str)
@[reducible] def nsD (ns : Ns) : D := .tuple (ns.map nightD)
@[reducible] def plnD (p : Pln) : D := .tuple (p.map optS)
abbrev Way := Str × Option (Str × Nat)
@[reducible] def wayD : Option (Str × Nat) → D
  | none => .none
  | some (y, k) => .tuple [.str y, .int (k : Int)]
@[reducible] def wayKV (w : Way) : Key × D := (Sum.inr w.1, wayD w.2)
def nms (W : List Way) : List Str := W.map (·.1)
/-! ### what the program reckons -/
def addZ (x : Str) (k : Nat) (W : List Way) (z : Str) : List Way := if z ∈ nms W then W else W ++ [(z, some (x, k))]
def addN (x : Str) (k : Nat) (W : List Way) (n : List Str) : List Way := n.foldl (addZ x k) W
def scanK (ns : Ns) (p : Pln) (x : Str) (W : List Way) (k : Nat) : List Way := if p[k]? = some (some x) then addN x k W (ns.getD k []) else W
def scan (ns : Ns) (p : Pln) (x : Str) (W : List Way) : Nat → List Way
  | 0 => W
  | k + 1 => scanK ns p x (scan ns p x W k) k
def walk (ns : Ns) (p : Pln) : Nat → Nat → List Way → List Way
  | 0, _, W => W
  | f + 1, at_, W => match W[at_]? with
    | some w => walk ns p f (at_ + 1) (scan ns p w.1 W ns.length)
    | none => W
def allH (ns : Ns) : List Str := ns.flatten
def reachF (ns : Ns) (p : Pln) (h : Str) : List Way := walk ns p ((allH ns).length + 2) 0 [(h, none)]
def wayOf (W : List Way) (x : Str) : Option (Option (Str × Nat)) := (W.find? fun w => decide (w.1 = x)).map (·.2)
def handF (W : List Way) : Nat → Str → Pln → Pln
  | 0, _, q => q
  | f + 1, x, q => match wayOf W x with
    | some (some (y, k)) => handF W f y (q.set k (some x))
    | _ => q
def totC (ls : List RwI) (p : Pln) (x : Str) : Int := wsum ls x + wsum (planR p) x
def firstX (ns : Ns) (ls : List RwI) (p : Pln) (h : Str) : Option Str := (nms (reachF ns p h)).find? fun x => decide (totC ls p x + 2 ≤ totC ls p h)
def tryH (ns : Ns) (ls : List RwI) (p : Pln) (h : Str) : Option Pln := (firstX ns ls p h).map fun x => handF (reachF ns p h) (reachF ns p h).length x p
def BetterR (ns : Ns) (ls : List RwI) (p : Pln) (r : Option Pln) : Prop := ∃ hs : List Str, hs.Pairwise (fun x y => sLt x y = true) ∧ (∀ x, x ∈ hs ↔ some x ∈ p) ∧ r = hs.findSome? (tryH ns ls p)
inductive ShareR (ns : Ns) (ls : List RwI) : Pln → Pln → Prop where
  | done {p : Pln} : BetterR ns ls p none → ShareR ns ls p p
  | step {p q r : Pln} : BetterR ns ls p (some q) → ShareR ns ls q r → ShareR ns ls p r
def startP (ns : Ns) : Pln := ns.map fun n => n.head?
/-! ### plans -/
def IsPlan (ns : Ns) (p : Pln) : Prop := p.length = ns.length ∧ ∀ (k : Nat) (n : List Str) (o : Option Str), ns[k]? = some n → p[k]? = some o → (∃ x, o = some x ∧ x ∈ n) ∨ (n = [] ∧ o = none)
structure NsOk (ns : Ns) : Prop where
  few : ns.length ≤ 1000
  tot : (allH ns).length ≤ 10000
  word : ∀ n ∈ ns, ∀ x ∈ n, WordOk x
structure LdOk (ls : List RwI) : Prop where
  nd : (ls.map (·.1)).Nodup
  few : ls.length ≤ 10000
/-! ### the promises -/
def S_reached : SpD := fun as Q _ => ∃ (ns : Ns) (p : Pln) (h : Str), as = [.v (nsD ns), .v (plnD p), .v (.str h)] ∧ NsOk ns ∧ p.length = ns.length ∧ (∀ x, some x ∈ p → WordOk x) ∧ WordOk h ∧ Q (.own 0 (.dct ((reachF ns p h).map wayKV))) as
def S_handed_on : SpD := fun as Q _ => ∃ (p : Pln) (W : List Way) (x : Str) (a : Addr) (ob : Obj) (ks : List (Key × V)) (n : Nat), as = [.v (plnD p), .own 2 (.lck a ob ks (W.map wayKV)), .v (.str x)] ∧ p.length ≤ 1000 ∧
  (∀ (i : Nat) (x y : Str) (k : Nat), W[i]? = some (x, some (y, k)) → (∃ j : Nat, j < i ∧ ∃ o : Option (Str × Nat), W[j]? = some (y, o)) ∧ k < p.length) ∧ (nms W).Nodup ∧ x ∈ nms W ∧ n = W.length ∧ Q (.v (plnD (handF W n x p))) as
def S_better : SpD := fun as Q _ => ∃ (ns : Ns) (ls : List RwI) (p : Pln), as = [.v (nsD ns), .p (.tuple (ls.map rowD)), .v (plnD p)] ∧ NsOk ns ∧ LdOk ls ∧ p.length = ns.length ∧ (∀ x, some x ∈ p → WordOk x) ∧ ∀ r, BetterR ns ls p r → Q (.v (match r with | some q => plnD q | none => .none)) as
def S_share : SpD := fun as Q _ => ∃ (ns : Ns) (ls : List RwI), as = [.v (nsD ns), .p (.tuple (ls.map rowD))] ∧ NsOk ns ∧ LdOk ls ∧ ∀ r, ShareR ns ls (startP ns) r → IsPlan ns r → Q (.v (plnD r)) as
theorem len_reached : ∀ as QD ED, S_reached as QD ED → as.length = 3 := by
  rintro as QD ED ⟨_, _, _, rfl, _⟩
  rfl
theorem len_handed_on : ∀ as QD ED, S_handed_on as QD ED → as.length = 3 := by
  rintro as QD ED ⟨_, _, _, _, _, _, _, rfl, _⟩
  rfl
theorem len_better : ∀ as QD ED, S_better as QD ED → as.length = 3 := by
  rintro as QD ED ⟨_, _, _, rfl, _⟩
  rfl
theorem len_share : ∀ as QD ED, S_share as QD ED → as.length = 2 := by
  rintro as QD ED ⟨_, _, rfl, _⟩
  rfl
/-! ### the dict of ways -/
theorem way_get (x : Str) : ∀ (W : List Way), dGet (W.map wayKV) (.inr x) = (wayOf W x).map wayD
  | [] => rfl
  | w :: W => by
    unfold wayOf
    rw [List.map_cons, List.find?_cons]
    by_cases z : w.1 = x
    · rw [dget_pos (p := wayKV w) (by show Sum.inr w.1 = Sum.inr x; rw [z]), decide_eq_true z]
      rfl
    · rw [dget_neg (p := wayKV w) (fun q => z (Sum.inr.inj q)), decide_eq_false z, way_get x W]
      rfl
theorem wayOf_mem {W : List Way} {x : Str} : (wayOf W x).isSome = true ↔ x ∈ nms W := by
  unfold wayOf nms
  rw [Option.isSome_map, List.find?_isSome]
  constructor
  · rintro ⟨w, hw, e⟩
    exact List.mem_map.mpr ⟨w, hw, of_decide_eq_true e⟩
  · intro h
    obtain ⟨w, hw, e⟩ := List.mem_map.mp h
    exact ⟨w, hw, decide_eq_true e⟩
theorem way_put {W : List Way} {z x : Str} {k : Nat} (h : z ∉ nms W) : dPut (W.map wayKV) (.inr z) (wayD (some (x, k))) = (W ++ [(z, some (x, k))]).map wayKV := by
  unfold dPut
  have e : ((W.map wayKV).any fun kv => decide (kv.1 = (Sum.inr z : Key))) = false := by
    rw [dget_any, way_get]
    cases q : wayOf W z with
    | none => rfl
    | some o => exact absurd (wayOf_mem.mp (by rw [q]; rfl)) h
  rw [if_neg (by rw [e]; exact Bool.false_ne_true), List.map_append]
  rfl
end CFSr

set_option Elab.async false
set_option linter.all false
set_option maxRecDepth 100000
set_option maxHeartbeats 4000000
/-! CFSm: nights shared: the plain law -/
namespace CFSm
open PySem PySem.Spec PyProof.Rows L2 DL CFH CFWd CFLo CFCn CFRo CFFb CFCb CFSr
/-! ### one night given on -/
theorem plan_set {x y z : Str} : ∀ {q : Pln} {k : Nat}, q[k]? = some (some y) → wsum (planR (q.set k (some x))) z = wsum (planR q) z - (if y = z then 1 else 0) + (if x = z then 1 else 0)
  | [], k, h => by simp at h
  | o :: q, 0, h => by
    have h : o = some y := Option.some.inj h
    subst h
    show wsum ((x, 1) :: planR q) z = wsum ((y, 1) :: planR q) z - _ + _
    rw [wsum_cons, wsum_cons]
    show (if x = z then (1 : Int) else 0) + _ = (if y = z then (1 : Int) else 0) + _ - _ + _
    omega
  | o :: q, k + 1, h => by
    have ih := plan_set (x := x) (y := y) (z := z) (q := q) (k := k) h
    cases o with
    | none => exact ih
    | some w =>
      show wsum ((w, 1) :: planR (q.set k (some x))) z = wsum ((w, 1) :: planR q) z - _ + _
      rw [wsum_cons, wsum_cons, ih]
      omega
theorem wayOf_at : ∀ {W : List Way} {i : Nat} {x : Str} {o : Option (Str × Nat)}, (nms W).Nodup → W[i]? = some (x, o) → wayOf W x = some o
  | [], i, x, o, _, h => by simp at h
  | w :: W, 0, x, o, _, h => by
    have h : w = (x, o) := Option.some.inj h
    subst h
    unfold wayOf
    rw [List.find?_cons, decide_eq_true (show (x, o).1 = x from rfl)]; rfl
  | w :: W, i + 1, x, o, nd, h => by
    obtain ⟨n1, n2⟩ := List.nodup_cons.mp nd
    have h : W[i]? = some (x, o) := h
    have ih := wayOf_at (W := W) n2 h
    have ne : w.1 ≠ x := fun z => n1 (List.mem_map.mpr ⟨(x, o), List.mem_of_getElem? h, z.symm⟩)
    unfold wayOf
    rw [List.find?_cons, decide_eq_false ne]
    exact ih
theorem name_at {W : List Way} {i : Nat} {x : Str} {o : Option (Str × Nat)} (h : W[i]? = some (x, o)) : x ∈ nms W := List.mem_map.mpr ⟨_, List.mem_of_getElem? h, rfl⟩
theorem at_name {W : List Way} {x : Str} (h : x ∈ nms W) : ∃ (i : Nat) (o : Option (Str × Nat)), W[i]? = some (x, o) := by
  obtain ⟨w, hw, e⟩ := List.mem_map.mp h
  obtain ⟨i, hi⟩ := List.mem_iff_getElem?.mp hw
  exact ⟨i, w.2, by rw [hi, ← e]⟩
theorem at_inj : ∀ {W : List Way} {i j : Nat} {x : Str} {o o' : Option (Str × Nat)}, (nms W).Nodup → W[i]? = some (x, o) → W[j]? = some (x, o') → i = j
  | [], i, j, _, _, _, _, h, _ => by simp at h
  | w :: W, 0, 0, _, _, _, _, _, _ => rfl
  | w :: W, 0, j + 1, x, o, o', nd, h, h' => by
    have h : w = (x, o) := Option.some.inj h
    subst h
    exact absurd (name_at (W := W) (i := j) h') (List.nodup_cons.mp nd).1
  | w :: W, i + 1, 0, x, o, o', nd, h, h' => by
    have h' : w = (x, o') := Option.some.inj h'
    subst h'
    exact absurd (name_at (W := W) (i := i) h) (List.nodup_cons.mp nd).1
  | w :: W, i + 1, j + 1, x, o, o', nd, h, h' => by
    rw [at_inj (W := W) (i := i) (j := j) (List.nodup_cons.mp nd).2 h h']
/-! ### the ways -/
structure WaysOk (ns : Ns) (p : Pln) (h : Str) (W : List Way) : Prop where
  nd : (nms W).Nodup
  hd : ∃ t, W = (h, none) :: t
  way : ∀ (i : Nat) (x y : Str) (k : Nat), W[i]? = some (x, some (y, k)) → (∃ j : Nat, j < i ∧ ∃ o : Option (Str × Nat), W[j]? = some (y, o)) ∧ p[k]? = some (some y) ∧ ∃ n, ns[k]? = some n ∧ x ∈ n
  non : ∀ (i : Nat) (x : Str), W[i]? = some (x, none) → x = h
def Ext (W W' : List Way) : Prop := ∃ t, W' = W ++ t
theorem Ext.refl (W : List Way) : Ext W W := ⟨[], by rw [List.append_nil]⟩
theorem Ext.trans {A B C : List Way} (a : Ext A B) (b : Ext B C) : Ext A C := by
  obtain ⟨t, rfl⟩ := a
  obtain ⟨u, rfl⟩ := b
  exact ⟨t ++ u, by rw [List.append_assoc]⟩
theorem Ext.get {A B : List Way} (a : Ext A B) {i : Nat} {w : Way} (h : A[i]? = some w) : B[i]? = some w := by
  obtain ⟨t, rfl⟩ := a
  rw [List.getElem?_append_left (List.getElem?_eq_some_iff.mp h).1]
  exact h
theorem Ext.mem {A B : List Way} (a : Ext A B) {x : Str} (h : x ∈ nms A) : x ∈ nms B := by
  obtain ⟨t, rfl⟩ := a
  unfold nms at *
  rw [List.map_append]
  exact List.mem_append_left _ h
theorem Ext.len {A B : List Way} (a : Ext A B) : A.length ≤ B.length := by
  obtain ⟨t, rfl⟩ := a
  rw [List.length_append]
  omega
theorem addZ_ext {x : Str} {k : Nat} {W : List Way} {z : Str} : Ext W (addZ x k W z) ∧ z ∈ nms (addZ x k W z) := by
  unfold addZ
  by_cases h : z ∈ nms W
  · rw [if_pos h]; exact ⟨Ext.refl _, h⟩
  · rw [if_neg h]; exact ⟨⟨_, rfl⟩, by unfold nms; rw [List.map_append]; exact List.mem_append_right _ (.head _)⟩
theorem addZ_ok {ns : Ns} {p : Pln} {h x z : Str} {k j : Nat} {o : Option (Str × Nat)} {n : List Str} {W : List Way} (w : WaysOk ns p h W) (e1 : W[j]? = some (x, o)) (e2 : p[k]? = some (some x)) (e3 : ns[k]? = some n) (e4 : z ∈ n) : WaysOk ns p h (addZ x k W z) := by
  unfold addZ
  by_cases hz : z ∈ nms W
  · rw [if_pos hz]; exact w
  · rw [if_neg hz]
    have old : ∀ i y, (W ++ [(z, some (x, k))])[i]? = some y → W[i]? = some y ∨ (i = W.length ∧ y = (z, some (x, k))) := fun i y q => by
      by_cases lt : i < W.length
      · rw [List.getElem?_append_left lt] at q; exact .inl q
      · rw [List.getElem?_append_right (by omega)] at q
        obtain ⟨lt2, e⟩ := List.getElem?_eq_some_iff.mp q
        have : i - W.length = 0 := by simp at lt2; omega
        refine .inr ⟨by omega, ?_⟩
        rw [this] at q
        exact (Option.some.inj q).symm
    have ext : Ext W (W ++ [(z, some (x, k))]) := ⟨_, rfl⟩
    refine ⟨?_, ?_, fun i x' y' k' q => ?_, fun i x' q => ?_⟩
    · unfold nms
      rw [List.map_append]
      exact List.nodup_append.mpr ⟨w.nd, by simp, fun a ha b hb z' => hz (by rw [show z = b from (List.mem_singleton.mp hb).symm, ← z']; exact ha)⟩
    · obtain ⟨t, e⟩ := w.hd
      exact ⟨t ++ [(z, some (x, k))], by rw [e]; rfl⟩
    · rcases old i _ q with q | ⟨ei, q⟩
      · obtain ⟨⟨j', a, o', b⟩, c⟩ := w.way i x' y' k' q
        exact ⟨⟨j', a, o', ext.get b⟩, c⟩
      · obtain ⟨q1, q2⟩ := Prod.mk.inj q
        obtain ⟨q3, q4⟩ := Prod.mk.inj (Option.some.inj q2)
        rw [q1, q3, q4]
        exact ⟨⟨j, by rw [ei]; exact (List.getElem?_eq_some_iff.mp e1).1, o, ext.get e1⟩, e2, n, e3, e4⟩
    · rcases old i _ q with q | ⟨_, q⟩
      · exact w.non i x' q
      · exact absurd (Prod.mk.inj q).2 (fun z => nomatch z)
theorem addN_ok {ns : Ns} {p : Pln} {h x : Str} {k j : Nat} {o : Option (Str × Nat)} {n : List Str} (e2 : p[k]? = some (some x)) (e3 : ns[k]? = some n) : ∀ {m : List Str} {W : List Way}, (∀ z ∈ m, z ∈ n) → WaysOk ns p h W → W[j]? = some (x, o) →
    WaysOk ns p h (addN x k W m) ∧ Ext W (addN x k W m) ∧ ∀ z ∈ m, z ∈ nms (addN x k W m)
  | [], W, _, w, _ => ⟨w, Ext.refl _, fun z h => nomatch h⟩
  | z :: m, W, hm, w, e1 => by
    have w1 := addZ_ok w e1 e2 e3 (hm z (.head _))
    obtain ⟨x1, x2⟩ := addZ_ext (x := x) (k := k) (W := W) (z := z)
    obtain ⟨a, b, c⟩ := addN_ok e2 e3 (m := m) (W := addZ x k W z) (fun y hy => hm y (.tail _ hy)) w1 (x1.get e1)
    refine ⟨a, x1.trans b, fun y hy => ?_⟩
    rcases List.mem_cons.mp hy with e | hy
    · rw [e]; exact b.mem x2
    · exact c y hy
theorem scan_ok {ns : Ns} {p : Pln} {h x : Str} {j : Nat} {o : Option (Str × Nat)} {W : List Way} (w : WaysOk ns p h W) (e1 : W[j]? = some (x, o)) : ∀ K : Nat, K ≤ ns.length →
    WaysOk ns p h (scan ns p x W K) ∧ Ext W (scan ns p x W K) ∧ ∀ k, k < K → p[k]? = some (some x) → ∀ n, ns[k]? = some n → ∀ z ∈ n, z ∈ nms (scan ns p x W K)
  | 0, _ => ⟨w, Ext.refl _, fun k hk => absurd hk (Nat.not_lt_zero _)⟩
  | K + 1, hK => by
    obtain ⟨a, b, c⟩ := scan_ok w e1 K (by omega)
    show WaysOk ns p h (scanK ns p x (scan ns p x W K) K) ∧ _
    have st : WaysOk ns p h (scanK ns p x (scan ns p x W K) K) ∧ Ext (scan ns p x W K) (scanK ns p x (scan ns p x W K) K) ∧ (p[K]? = some (some x) → ∀ n, ns[K]? = some n → ∀ z ∈ n, z ∈ nms (scanK ns p x (scan ns p x W K) K)) := by
      unfold scanK
      by_cases e2 : p[K]? = some (some x)
      · rw [if_pos e2]
        have e3 : ns[K]? = some (ns.getD K []) := by rw [List.getD_eq_getElem?_getD, List.getElem?_eq_getElem (by omega)]; rfl
        obtain ⟨a', b', c'⟩ := addN_ok e2 e3 (m := ns.getD K []) (fun _ h => h) a (b.get e1)
        exact ⟨a', b', fun _ n hn z hz => c' z (by rw [e3] at hn; rw [Option.some.inj hn]; exact hz)⟩
      · rw [if_neg e2]
        exact ⟨a, Ext.refl _, fun q => absurd q e2⟩
    obtain ⟨a', b', c'⟩ := st
    refine ⟨a', b.trans b', fun k hk => ?_⟩
    by_cases z : k = K
    · rw [z]; exact c'
    · exact fun q n hn y hy => b'.mem (c k (by omega) q n hn y hy)
theorem nodup_le {a b : List Str} (nd : a.Nodup) (h : ∀ x ∈ a, x ∈ b) : a.length ≤ b.length := by
  induction a generalizing b with
  | nil => exact Nat.zero_le _
  | cons x a ih =>
    obtain ⟨n1, n2⟩ := List.nodup_cons.mp nd
    have hx := h x (.head _)
    have := ih n2 (b := b.erase x) fun y hy => (List.mem_erase_of_ne (fun z : y = x => n1 (z ▸ hy))).mpr (h y (.tail _ hy))
    have e := List.length_erase_of_mem hx
    have := List.length_pos_of_mem hx
    rw [List.length_cons]
    omega
theorem mem_all {ns : Ns} {k : Nat} {n : List Str} {x : Str} (h : ns[k]? = some n) (hx : x ∈ n) : x ∈ allH ns := List.mem_flatten.mpr ⟨n, List.mem_of_getElem? h, hx⟩
theorem WaysOk.sub {ns : Ns} {p : Pln} {h : Str} {W : List Way} (w : WaysOk ns p h W) : ∀ x ∈ nms W, x ∈ h :: allH ns := fun x hx => by
  obtain ⟨i, o, e⟩ := at_name hx
  cases o with
  | none => rw [w.non i x e]; exact .head _
  | some yk =>
    obtain ⟨_, _, n, e3, e4⟩ := w.way i x yk.1 yk.2 e
    exact .tail _ (mem_all e3 e4)
theorem WaysOk.len {ns : Ns} {p : Pln} {h : Str} {W : List Way} (w : WaysOk ns p h W) : W.length ≤ (allH ns).length + 1 := by
  have := nodup_le w.nd w.sub
  unfold nms at this
  rw [List.length_map, List.length_cons] at this
  exact this
theorem ways_start {ns : Ns} {p : Pln} {h : Str} : WaysOk ns p h [(h, none)] := by
  refine ⟨by simp [nms], ⟨[], rfl⟩, fun i x y k e => ?_, fun i x e => ?_⟩
  · cases i with
    | zero => cases e
    | succ i => simp at e
  · cases i with
    | zero => cases e; rfl
    | succ i => simp at e
def Done (ns : Ns) (p : Pln) (W : List Way) (at_ : Nat) : Prop := ∀ i : Nat, i < at_ → ∀ (x : Str) (o : Option (Str × Nat)), W[i]? = some (x, o) → ∀ k : Nat, p[k]? = some (some x) → ∀ n : List Str, ns[k]? = some n → ∀ z ∈ n, z ∈ nms W
theorem walk_ok {ns : Ns} {p : Pln} {h : Str} : ∀ (f at_ : Nat) (W : List Way), WaysOk ns p h W → Done ns p W at_ → (allH ns).length + 2 ≤ f + at_ →
    WaysOk ns p h (walk ns p f at_ W) ∧ Ext W (walk ns p f at_ W) ∧ Done ns p (walk ns p f at_ W) (walk ns p f at_ W).length
  | 0, at_, W, w, d, hf => by
    have := w.len
    exact ⟨w, Ext.refl _, fun i hi => d i (by show i < at_; have hi : i < W.length := hi; omega)⟩
  | f + 1, at_, W, w, d, hf => by
    unfold walk
    cases e : W[at_]? with
    | none =>
      have : W.length ≤ at_ := by
        rcases Nat.lt_or_ge at_ W.length with z | z
        · rw [List.getElem?_eq_getElem z] at e; cases e
        · exact z
      exact ⟨w, Ext.refl _, fun i hi => d i (by have hi : i < W.length := hi; omega)⟩
    | some v =>
      obtain ⟨x, o⟩ := v
      obtain ⟨a, b, c⟩ := scan_ok w e ns.length (Nat.le_refl _)
      have d' : Done ns p (scan ns p x W ns.length) (at_ + 1) := fun i hi x' o' e' k e2 n e3 z hz => by
        have ki : k < ns.length := (List.getElem?_eq_some_iff.mp e3).1
        by_cases q : i = at_
        · subst q
          have e5 := b.get e
          rw [e'] at e5
          cases e5
          exact c k ki e2 n e3 z hz
        · have lt : i < at_ := by omega
          have li : at_ < W.length := (List.getElem?_eq_some_iff.mp e).1
          have e6 : W[i]? = some (x', o') := by
            have e7 := b.get (List.getElem?_eq_getElem (l := W) (i := i) (by omega))
            rw [e'] at e7
            rw [List.getElem?_eq_getElem (by omega), ← Option.some.inj e7]
          exact b.mem (d i lt x' o' e6 k e2 n e3 z hz)
      obtain ⟨a2, b2, c2⟩ := walk_ok f (at_ + 1) _ a d' (by omega)
      exact ⟨a2, b.trans b2, c2⟩
theorem reach_ok (ns : Ns) (p : Pln) (h : Str) : WaysOk ns p h (reachF ns p h) ∧ Done ns p (reachF ns p h) (reachF ns p h).length := by
  obtain ⟨a, _, c⟩ := walk_ok (ns := ns) (p := p) (h := h) ((allH ns).length + 2) 0 [(h, none)] ways_start (fun i hi => absurd hi (Nat.not_lt_zero _)) (Nat.le_refl _)
  exact ⟨a, c⟩
inductive Reach (ns : Ns) (p : Pln) (h : Str) : Str → Prop where
  | me : Reach ns p h h
  | on {x y : Str} {k : Nat} {n : List Str} : Reach ns p h x → p[k]? = some (some x) → ns[k]? = some n → y ∈ n → Reach ns p h y
theorem mem_reach {ns : Ns} {p : Pln} {h x : Str} : x ∈ nms (reachF ns p h) ↔ Reach ns p h x := by
  obtain ⟨w, d⟩ := reach_ok ns p h
  generalize reachF ns p h = W at w d
  constructor
  · intro hx
    obtain ⟨i, o, e⟩ := at_name hx
    clear hx
    induction i using Nat.strongRecOn generalizing x o with
    | ind i ih =>
      cases o with
      | none => rw [w.non i x e]; exact .me
      | some yk =>
        obtain ⟨⟨j, lt, o', e1⟩, e2, n, e3, e4⟩ := w.way i x yk.1 yk.2 e
        exact .on (ih j lt _ e1) e2 e3 e4
  · intro hx
    induction hx with
    | me => obtain ⟨t, rfl⟩ := w.hd; exact .head _
    | on _ e2 e3 e4 ih =>
      obtain ⟨i, o, e⟩ := at_name ih
      exact d i (List.getElem?_eq_some_iff.mp e).1 _ o e _ e2 _ e3 _ e4
/-! ### handed on -/
structure Moved (ns : Ns) (p : Pln) (h x : Str) (q : Pln) : Prop where
  len : q.length = p.length
  cnt : ∀ z, wsum (planR q) z + (if h = z then 1 else 0) = wsum (planR p) z + (if x = z then 1 else 0)
  at_ : ∀ (k : Nat) (o : Option Str), q[k]? = some o → p[k]? = some o ∨ ∃ z n, o = some z ∧ ns[k]? = some n ∧ z ∈ n
theorem hand_ok {ns : Ns} {p : Pln} {h : Str} {W : List Way} (w : WaysOk ns p h W) : ∀ (i : Nat) (x : Str) (o : Option (Str × Nat)) (q : Pln) (f : Nat), W[i]? = some (x, o) → i < f → q.length = p.length →
    (∀ (k : Nat) (y : Str), p[k]? = some (some y) → (∃ j : Nat, j < i ∧ ∃ o' : Option (Str × Nat), W[j]? = some (y, o')) → q[k]? = p[k]?) →
    (handF W f x q).length = p.length ∧ (∀ z, wsum (planR (handF W f x q)) z + (if h = z then 1 else 0) = wsum (planR q) z + (if x = z then 1 else 0)) ∧
      ∀ (k : Nat) (o : Option Str), (handF W f x q)[k]? = some o → q[k]? = some o ∨ ∃ z n, o = some z ∧ ns[k]? = some n ∧ z ∈ n := by
  intro i
  induction i using Nat.strongRecOn with
  | ind i ih =>
    intro x o q f e hf hl un
    obtain ⟨f, rfl⟩ : ∃ g, f = g + 1 := ⟨f - 1, by omega⟩
    have e5 := wayOf_at w.nd e
    unfold handF
    rw [e5]
    cases o with
    | none =>
      have := w.non i x e
      subst this
      exact ⟨hl, fun z => rfl, fun k o h => .inl h⟩
    | some yk =>
      obtain ⟨y, k⟩ := yk
      obtain ⟨⟨j, lt, o', e1⟩, e2, n, e3, e4⟩ := w.way i x y k e
      have qk : q[k]? = some (some y) := (un k y e2 ⟨j, lt, o', e1⟩).trans e2
      have kl : k < q.length := (List.getElem?_eq_some_iff.mp qk).1
      obtain ⟨a, b, c⟩ := ih j lt y o' (q.set k (some x)) f e1 (by omega) (by rw [List.length_set]; exact hl) fun k' y' e2' hj => by
        obtain ⟨j', lt', o2, e1'⟩ := hj
        have ne : k ≠ k' := fun z => by
          rw [z, e2'] at e2
          cases e2
          have := at_inj w.nd e1' e1
          omega
        rw [List.getElem?_set_ne ne]
        exact un k' y' e2' ⟨j', by omega, o2, e1'⟩
      refine ⟨a, fun z => ?_, fun k' o3 h3 => ?_⟩
      · have b1 := b z
        have b2 := plan_set (x := x) (y := y) (z := z) qk
        show wsum (planR (handF W f y (q.set k (some x)))) z + _ = _
        rw [b1, b2]
        omega
      · rcases c k' o3 h3 with c1 | c1
        · by_cases z : k = k'
          · subst z
            rw [List.getElem?_set_self kl] at c1
            cases c1
            exact .inr ⟨x, n, rfl, e3, e4⟩
          · rw [List.getElem?_set_ne z] at c1
            exact .inl c1
        · exact .inr c1
theorem hand_moved {ns : Ns} {p : Pln} {h x : Str} (hx : x ∈ nms (reachF ns p h)) : Moved ns p h x (handF (reachF ns p h) (reachF ns p h).length x p) := by
  obtain ⟨w, _⟩ := reach_ok ns p h
  generalize reachF ns p h = W at w hx
  obtain ⟨i, o, e⟩ := at_name hx
  obtain ⟨a, b, c⟩ := hand_ok w i x o p W.length e (List.getElem?_eq_some_iff.mp e).1 rfl fun _ _ _ _ => rfl
  exact ⟨a, b, c⟩
/-! ### better -/
def EvenP (ns : Ns) (ls : List RwI) (p : Pln) : Prop := ∀ h, some h ∈ p → ∀ x, Reach ns p h x → totC ls p h < totC ls p x + 2
theorem better_none {ns : Ns} {ls : List RwI} {p : Pln} (b : BetterR ns ls p none) : EvenP ns ls p := by
  obtain ⟨hs, b1, b2, b3⟩ := b
  intro h hh x hx
  have t := List.findSome?_eq_none_iff.mp b3.symm h ((b2 h).mpr hh)
  unfold tryH firstX at t
  rw [Option.map_eq_none_iff] at t
  have := List.find?_eq_none.mp t x (mem_reach.mpr hx)
  simp only [decide_eq_true_eq] at this
  omega
theorem better_some {ns : Ns} {ls : List RwI} {p q : Pln} (b : BetterR ns ls p (some q)) : ∃ h x, some h ∈ p ∧ Reach ns p h x ∧ totC ls p x + 2 ≤ totC ls p h ∧ Moved ns p h x q := by
  obtain ⟨hs, b1, b2, b3⟩ := b
  obtain ⟨h, hh, t⟩ := List.exists_of_findSome?_eq_some b3.symm
  unfold tryH at t
  obtain ⟨x, f, rfl⟩ := Option.map_eq_some_iff.mp t
  unfold firstX at f
  have hx := List.mem_of_find?_eq_some f
  have hp := List.find?_some f
  simp only [decide_eq_true_eq] at hp
  exact ⟨h, x, (b2 h).mp hh, mem_reach.mp hx, hp, hand_moved hx⟩
theorem moved_plan {ns : Ns} {p q : Pln} {h x : Str} (a : IsPlan ns p) (m : Moved ns p h x q) : IsPlan ns q := by
  refine ⟨m.len.trans a.1, fun k n o e1 e2 => ?_⟩
  rcases m.at_ k o e2 with e3 | ⟨z, n', rfl, e3, e4⟩
  · exact a.2 k n o e1 e3
  · rw [e1] at e3; cases e3; exact .inl ⟨z, rfl, e4⟩
theorem moved_tot {ns : Ns} {ls : List RwI} {p q : Pln} {h x : Str} (m : Moved ns p h x q) (z : Str) : totC ls q z = totC ls p z - (if h = z then 1 else 0) + (if x = z then 1 else 0) := by
  unfold totC
  have := m.cnt z
  omega
/-! ### it ends -/
def handsOf (ns : Ns) : List Str := nms (addN "" 0 [] (allH ns))
theorem addN_nd {x : Str} {k : Nat} : ∀ {m : List Str} {W : List Way}, (nms W).Nodup → (nms (addN x k W m)).Nodup ∧ (∀ z ∈ nms W, z ∈ nms (addN x k W m)) ∧ ∀ z ∈ m, z ∈ nms (addN x k W m)
  | [], W, h => ⟨h, fun _ q => q, fun _ q => nomatch q⟩
  | z :: m, W, h => by
    have nd : (nms (addZ x k W z)).Nodup := by
      unfold addZ
      by_cases q : z ∈ nms W
      · rw [if_pos q]; exact h
      · rw [if_neg q]
        unfold nms
        rw [List.map_append]
        exact List.nodup_append.mpr ⟨h, by simp, fun a ha b hb z' => q (by rw [show z = b from (List.mem_singleton.mp hb).symm, ← z']; exact ha)⟩
    obtain ⟨x1, x2⟩ := addZ_ext (x := x) (k := k) (W := W) (z := z)
    obtain ⟨a, b, c⟩ := addN_nd (x := x) (k := k) (m := m) nd
    refine ⟨a, fun y hy => b y (x1.mem hy), fun y hy => ?_⟩
    rcases List.mem_cons.mp hy with e | hy
    · rw [e]; exact b z x2
    · exact c y hy
def sq (f : Str → Int) (L : List Str) : Int := (L.map fun z => f z * f z).sum
theorem sq_nn {f : Str → Int} : ∀ {L : List Str}, 0 ≤ sq f L
  | [] => Int.le_refl _
  | z :: L => by
    have := sq_nn (f := f) (L := L)
    have h : 0 ≤ f z * f z := by
      rcases Int.le_total 0 (f z) with h | h
      · exact Int.mul_nonneg h h
      · exact Int.mul_nonneg_of_nonpos_of_nonpos h h
    show 0 ≤ ((f z * f z) :: L.map fun z => f z * f z).sum
    rw [List.sum_cons]
    unfold sq at this
    omega
theorem sq_one {f g : Str → Int} {h : Str} (e : ∀ z, z ≠ h → g z = f z) : ∀ {L : List Str}, L.Nodup → (h ∈ L → sq g L = sq f L + g h * g h - f h * f h) ∧ (h ∉ L → sq g L = sq f L)
  | [], _ => ⟨(fun q => nomatch q), fun _ => rfl⟩
  | z :: L, nd => by
    obtain ⟨n1, n2⟩ := List.nodup_cons.mp nd
    obtain ⟨i1, i2⟩ := sq_one e (L := L) n2
    have c : ∀ f' : Str → Int, sq f' (z :: L) = f' z * f' z + sq f' L := fun f' => by
      show ((f' z * f' z) :: L.map fun z => f' z * f' z).sum = _
      rw [List.sum_cons]; rfl
    rw [c, c]
    refine ⟨fun m => ?_, fun m => ?_⟩
    · rcases List.mem_cons.mp m with q | m
      · subst q
        rw [i2 n1]; omega
      · have : z ≠ h := fun q => n1 (q ▸ m)
        rw [i1 m, e z this]; omega
    · have a : z ≠ h := fun q => m (q ▸ .head _)
      rw [i2 fun q => m (.tail _ q), e z a]
def phi (ns : Ns) (ls : List RwI) (p : Pln) : Nat := (sq (totC ls p) (handsOf ns)).toNat
theorem plan_hands {ns : Ns} {p : Pln} (a : IsPlan ns p) {h : Str} (hh : some h ∈ p) : h ∈ allH ns := by
  obtain ⟨k, hk⟩ := List.mem_iff_getElem?.mp hh
  have kl : k < ns.length := by rw [← a.1]; exact (List.getElem?_eq_some_iff.mp hk).1
  rcases a.2 k _ _ (List.getElem?_eq_getElem kl) hk with ⟨x, e, hx⟩ | ⟨_, e⟩
  · cases e; exact mem_all (List.getElem?_eq_getElem kl) hx
  · cases e
theorem reach_hands {ns : Ns} {p : Pln} {h x : Str} (hh : h ∈ allH ns) (r : Reach ns p h x) : x ∈ allH ns := by
  cases r with
  | me => exact hh
  | on _ _ e3 e4 => exact mem_all e3 e4
theorem phi_moved {ns : Ns} {ls : List RwI} {p q : Pln} {h x : Str} (a : IsPlan ns p) (hh : some h ∈ p) (hr : Reach ns p h x) (le : totC ls p x + 2 ≤ totC ls p h) (m : Moved ns p h x q) : IsPlan ns q ∧ phi ns ls q < phi ns ls p := by
  refine ⟨moved_plan a m, ?_⟩
  have h1 := plan_hands a hh
  have x1 := reach_hands h1 hr
  obtain ⟨nd, _, al⟩ := addN_nd (x := "") (k := 0) (m := allH ns) (W := []) List.nodup_nil
  have hm : h ∈ handsOf ns := al h h1
  have xm : x ∈ handsOf ns := al x x1
  have nd : (handsOf ns).Nodup := nd
  have ne : x ≠ h := fun z => by rw [z] at le; omega
  have t := moved_tot (ls := ls) m
  let g : Str → Int := fun z => totC ls p z - (if h = z then 1 else 0)
  have s1 := (sq_one (f := totC ls p) (g := g) (h := h) (fun z hz => by show totC ls p z - (if h = z then 1 else 0) = _; rw [if_neg (fun q => hz q.symm)]; omega) nd).1 hm
  have s2 := (sq_one (f := g) (g := totC ls q) (h := x) (fun z hz => by rw [t z, if_neg (fun q : x = z => hz q.symm)]; show _ = totC ls p z - (if h = z then 1 else 0); omega) nd).1 xm
  have gh : g h = totC ls p h - 1 := by show totC ls p h - (if h = h then 1 else 0) = _; rw [if_pos rfl]
  have gx : g x = totC ls p x := by show totC ls p x - (if h = x then 1 else 0) = _; rw [if_neg (fun q => ne q.symm)]; omega
  have qx : totC ls q x = totC ls p x + 1 := by rw [t x, if_neg (fun q : h = x => ne q.symm), if_pos rfl]; omega
  have n1 := sq_nn (f := totC ls q) (L := handsOf ns)
  have n2 := sq_nn (f := totC ls p) (L := handsOf ns)
  unfold phi
  rw [gh] at s1
  rw [gx, qx, s1] at s2
  generalize totC ls p h = a1 at *
  generalize totC ls p x = a2 at *
  have e1 : (a1 - 1) * (a1 - 1) = a1 * a1 - 2 * a1 + 1 := by rw [Int.sub_mul, Int.mul_sub]; omega
  have e2 : (a2 + 1) * (a2 + 1) = a2 * a2 + 2 * a2 + 1 := by rw [Int.add_mul, Int.mul_add]; omega
  omega
theorem phi_less {ns : Ns} {ls : List RwI} {p q : Pln} (a : IsPlan ns p) (b : BetterR ns ls p (some q)) : IsPlan ns q ∧ phi ns ls q < phi ns ls p := by
  obtain ⟨h, x, hh, hr, le, m⟩ := better_some b
  exact phi_moved a hh hr le m
theorem share_last {ns : Ns} {ls : List RwI} {p r : Pln} (s : ShareR ns ls p r) : BetterR ns ls r none := by
  induction s with
  | done h => exact h
  | step _ _ ih => exact ih
theorem start_plan {ns : Ns} : IsPlan ns (startP ns) := by
  unfold startP
  refine ⟨List.length_map _, fun k n o e1 e2 => ?_⟩
  rw [List.getElem?_map, e1] at e2
  have e2 : n.head? = o := Option.some.inj e2
  subst e2
  cases n with
  | nil => exact .inr ⟨rfl, rfl⟩
  | cons a n => exact .inl ⟨a, rfl, .head _⟩
end CFSm

set_option Elab.async false
set_option linter.all false
set_option maxRecDepth 100000
set_option maxHeartbeats 4000000
/-! CFSl: what the laws of sharing reckon: the promises -/
namespace CFSl
open PySem PySem.Spec PyProof.Rows L2 DL CFH CFWd CFLo CFCn CFRo CFFb CFCb CFSr CFSm
def zeros (ns : Ns) : List RwI := (allH ns).map fun z => (z, 0)
theorem zeros_sum {ns : Ns} {n : Str} : wsum (zeros ns) n = 0 := by
  unfold zeros
  induction allH ns with
  | nil => rfl
  | cons z l ih => rw [List.map_cons, wsum_cons, ih]; split <;> rfl
theorem tot_rows {ns : Ns} {ls : List RwI} {p : Pln} {n : Str} : wsum (zeros ns ++ ls ++ planR p) n = totC ls p n := by
  rw [wsum_app, wsum_app, zeros_sum]
  unfold totC
  omega
structure Case (ns : Ns) (ls : List RwI) (p : Pln) : Prop where
  nok : NsOk ns
  lok : LdOk ls
  few : ns.length ≤ 12
  plan : IsPlan ns p
structure CaseC (ns : Ns) (ls : List RwI) (p : Pln) : Prop where
  nok : NsOk ns
  lok : LdOk ls
  few : ns.length ≤ 12
  pl : p.length ≤ 12
  hands : ∀ x, some x ∈ p → x ∈ allH ns
theorem Case.c {ns : Ns} {ls : List RwI} {p : Pln} (c : Case ns ls p) : CaseC ns ls p := ⟨c.nok, c.lok, c.few, by rw [c.plan.1]; exact c.few, fun x hx => plan_hands c.plan hx⟩
theorem Case.words {ns : Ns} {ls : List RwI} {p : Pln} (c : Case ns ls p) : ∀ x, some x ∈ p → WordOk x := fun x hx => by
  obtain ⟨n, hn, h⟩ := List.mem_flatten.mp (plan_hands c.plan hx)
  exact c.nok.word n hn x h
def S_law_nights : SpD := fun as Q _ => ∃ (h : Hd) (n m : Nat) (ws : List Str), as = [hc h, .v (.list (ws.map PyData.str)), .v (.int (m : Int))] ∧ m ≤ 12 ∧ h.ok n ∧ n ≤ 10000 ∧ 2 ≤ ws.length ∧ ws.length ≤ 20 ∧ (∀ w ∈ ws, WordOk w) ∧
  ∀ (h' : Hd) (ns : Ns), h'.ok (n + 1000) → NsOk ns → ns.length ≤ m → (∀ n ∈ ns, n.length ≤ 20 ∧ ∀ x ∈ n, x ∈ ws) → Q (.v (nsD ns)) [hc h', .v (.list (ws.map PyData.str)), .v (.int (m : Int))]
def S_law_loads : SpD := fun as Q _ => ∃ (h : Hd) (n : Nat) (ws : List Str), as = [hc h, .v (.list (ws.map PyData.str))] ∧ h.ok n ∧ n ≤ 20000 ∧ ws.length ≤ 20 ∧ ws.Nodup ∧ (∀ w ∈ ws, WordOk w) ∧
  ∀ (h' : Hd) (ls : List RwI), h'.ok (n + 1000) → LdOk ls → (∀ e ∈ ls, e.1 ∈ ws ∧ 0 ≤ e.2 ∧ e.2 ≤ 10 ^ 15) → Q (.p (.tuple (ls.map rowD))) [hc h', .v (.list (ws.map PyData.str))]
def IsP (ns : Ns) (d : D) : Prop := ∃ p, d = plnD p ∧ IsPlan ns p
def OkE (n : List Str) (x : D) : Prop := (∃ w, x = .str w ∧ w ∈ n) ∨ (n = [] ∧ x = .none)
open Classical in
def S_law_plan : SpD := fun as Q _ => ∃ (ns : Ns) (d : D), as = [.v (nsD ns), .v d] ∧ NsOk ns ∧ ns.length ≤ 12 ∧ Lay 60 d ∧ Q (.v (.bool (decide (IsP ns d)))) as
def S_law_counts : SpD := fun as Q _ => ∃ (ns : Ns) (ls : List RwI) (p : Pln), as = [.v (nsD ns), .p (.tuple (ls.map rowD)), .v (plnD p)] ∧ CaseC ns ls p ∧ ∀ kvs, GOk (zeros ns ++ ls ++ planR p) kvs → Q (.own 0 (.dct kvs)) as
def S_law_reach : SpD := fun as Q _ => ∃ (ns : Ns) (ls : List RwI) (p : Pln) (h : Str), as = [.v (nsD ns), .v (plnD p), .v (.str h)] ∧ Case ns ls p ∧ WordOk h ∧ ∀ L : List Str, (∀ x, x ∈ L ↔ Reach ns p h x) → L ≠ [] → L.length ≤ 14000000 → Q (.own 0 (.lst (L.map PyData.str))) as
open Classical in
def S_law_even : SpD := fun as Q _ => ∃ (ns : Ns) (ls : List RwI) (p : Pln), as = [.v (nsD ns), .p (.tuple (ls.map rowD)), .v (plnD p)] ∧ Case ns ls p ∧ Q (.v (.bool (decide (EvenP ns ls p)))) as
theorem len_law_nights : ∀ as QD ED, S_law_nights as QD ED → as.length = 3 := by
  rintro as QD ED ⟨_, _, _, _, rfl, _⟩
  rfl
theorem len_law_loads : ∀ as QD ED, S_law_loads as QD ED → as.length = 2 := by
  rintro as QD ED ⟨_, _, _, rfl, _⟩
  rfl
theorem len_law_plan : ∀ as QD ED, S_law_plan as QD ED → as.length = 2 := by
  rintro as QD ED ⟨_, _, rfl, _⟩
  rfl
theorem len_law_counts : ∀ as QD ED, S_law_counts as QD ED → as.length = 3 := by
  rintro as QD ED ⟨_, _, _, rfl, _⟩
  rfl
theorem len_law_reach : ∀ as QD ED, S_law_reach as QD ED → as.length = 3 := by
  rintro as QD ED ⟨_, _, _, _, rfl, _⟩
  rfl
theorem len_law_even : ∀ as QD ED, S_law_even as QD ED → as.length = 3 := by
  rintro as QD ED ⟨_, _, _, rfl, _⟩
  rfl
theorem isP_iff {ns : Ns} {ds : List D} : IsP ns (.tuple ds) ↔ ds.length = ns.length ∧ ∀ q ∈ ns.zip ds, OkE q.1 q.2 := by
  constructor
  · rintro ⟨p, e, ip⟩
    have e : ds = p.map optS := PyData.tuple.inj e
    subst e
    refine ⟨by rw [List.length_map]; exact ip.1, fun q hq => ?_⟩
    obtain ⟨k, hk⟩ := List.mem_iff_getElem?.mp hq
    obtain ⟨h1, h2⟩ := List.getElem?_zip_eq_some.mp hk
    rw [List.getElem?_map] at h2
    obtain ⟨o, h3, h4⟩ := Option.map_eq_some_iff.mp h2
    rcases ip.2 k _ o h1 h3 with ⟨x, rfl, hx⟩ | ⟨e1, rfl⟩
    · exact .inl ⟨x, h4.symm, hx⟩
    · exact .inr ⟨e1, h4.symm⟩
  · rintro ⟨hl, h⟩
    have ex : ∀ (ds : List D) (ns : Ns), ds.length = ns.length → (∀ q ∈ ns.zip ds, OkE q.1 q.2) → ∃ p, ds = p.map optS ∧ IsPlan ns p := fun ds => by
      induction ds with
      | nil =>
        intro ns hl _
        have : ns = [] := List.eq_nil_of_length_eq_zero hl.symm
        subst this
        exact ⟨[], rfl, rfl, fun k n o h => by simp at h⟩
      | cons d ds ih =>
        intro ns hl h
        match ns, hl, h with
        | n :: ns, hl, h =>
          obtain ⟨p, e, ip⟩ := ih ns (by simpa using hl) fun q hq => h q (by rw [List.zip_cons_cons]; exact .tail _ hq)
          have h0 := h (n, d) (by rw [List.zip_cons_cons]; exact .head _)
          have fin : ∀ o : Option Str, d = optS o → ((∃ x, o = some x ∧ x ∈ n) ∨ (n = [] ∧ o = none)) → ∃ p, d :: ds = p.map optS ∧ IsPlan (n :: ns) p := fun o eo ho => by
            refine ⟨o :: p, by rw [List.map_cons, ← eo, ← e], by simpa using ip.1, fun k n' o' h1 h2 => ?_⟩
            cases k with
            | zero =>
              have h1 : n = n' := Option.some.inj h1
              have h2 : o = o' := Option.some.inj h2
              subst h1 h2
              exact ho
            | succ k => exact ip.2 k n' o' h1 h2
          rcases h0 with ⟨w, e1, hw⟩ | ⟨e1, e2⟩
          · exact fin (some w) e1 (.inl ⟨w, rfl, hw⟩)
          · exact fin none e2 (.inr ⟨e1, rfl⟩)
    obtain ⟨p, e, ip⟩ := ex ds ns hl h
    exact ⟨p, by rw [e], ip⟩
theorem mem_any {x : D} {n : List Str} : memD x (n.map PyData.str) = true ↔ ∃ w, x = .str w ∧ w ∈ n := by
  unfold memD
  rw [List.any_eq_true]
  constructor
  · rintro ⟨d, hd, e⟩
    obtain ⟨w, hw, rfl⟩ := List.mem_map.mp hd
    cases x with
    | str v => rw [CFTd.eqv_str] at e; exact ⟨w, by rw [of_decide_eq_true e], hw⟩
    | _ => simp [PyData.eqv] at e
  · rintro ⟨w, rfl, hw⟩
    exact ⟨.str w, List.mem_map.mpr ⟨w, hw, rfl⟩, by rw [CFTd.eqv_str]; exact decide_eq_true rfl⟩
@[reducible] def zpD (q : List Str × Option Str) : D := .tuple [nightD q.1, optS q.2]
theorem zip_ns : ∀ {ns : Ns} {p : Pln}, zipF (ns.map nightD) (p.map optS) = (ns.zip p).map zpD
  | [], _ => by simp [zipF]
  | _ :: _, [] => by simp [zipF]
  | n :: ns, o :: p => by
    show zipF (nightD n :: ns.map nightD) (optS o :: p.map optS) = _
    rw [List.zip_cons_cons, List.map_cons]
    show PyData.tuple [nightD n, optS o] :: zipF (ns.map nightD) (p.map optS) = _
    rw [zip_ns]
@[reducible] def zqD (q : List Str × D) : D := .tuple [nightD q.1, q.2]
theorem zip_ds : ∀ {ns : Ns} {ds : List D}, zipF (ns.map nightD) ds = (ns.zip ds).map zqD
  | [], _ => by simp [zipF]
  | _ :: _, [] => by simp [zipF]
  | n :: ns, d :: ds => by
    show zipF (nightD n :: ns.map nightD) (d :: ds) = _
    rw [List.zip_cons_cons, List.map_cons]
    show PyData.tuple [nightD n, d] :: zipF (ns.map nightD) ds = _
    rw [zip_ds]
theorem zip_at {ns : Ns} {p : Pln} {n : List Str} {o : Option Str} (h : (n, o) ∈ ns.zip p) : ∃ k : Nat, ns[k]? = some n ∧ p[k]? = some o := by
  obtain ⟨k, hk⟩ := List.mem_iff_getElem?.mp h
  exact ⟨k, List.getElem?_zip_eq_some.mp hk⟩
theorem at_zip {ns : Ns} {p : Pln} {n : List Str} {o : Option Str} {k : Nat} (h : ns[k]? = some n) (h' : p[k]? = some o) : (n, o) ∈ ns.zip p := List.mem_of_getElem? (List.getElem?_zip_eq_some.mpr ⟨h, h'⟩)
theorem mem_str {h : Str} {xs : List Str} : memD (.str h) (xs.map PyData.str) = decide (h ∈ xs) := by
  unfold memD
  rw [List.any_map]
  induction xs with
  | nil => simp
  | cons x xs ih =>
    rw [List.any_cons, ih]
    have e : ((fun d => PyData.eqv d (.str h)) ∘ PyData.str) x = decide (x = h) := CFTd.eqv_str
    rw [e]
    by_cases z : x = h
    · rw [decide_eq_true z, Bool.true_or, decide_eq_true (by rw [z]; exact .head _)]
    · rw [decide_eq_false z, Bool.false_or]
      by_cases y : h ∈ xs
      · rw [decide_eq_true y, decide_eq_true (.tail _ y)]
      · rw [decide_eq_false y, decide_eq_false fun q => (List.mem_cons.mp q).elim (fun q => z q.symm) y]
theorem mem_none {xs : List Str} : memD .none (xs.map PyData.str) = false := by
  unfold memD
  rw [List.any_map]
  induction xs with
  | nil => rfl
  | cons x xs ih => rw [List.any_cons, ih]; simp [PyData.eqv]
theorem lay_night {n : List Str} (h : ∀ x ∈ n, WordOk x) : Lay 1 (nightD n) := Lay.tuple (k := 0) fun d hd => by
  obtain ⟨x, hx, rfl⟩ := List.mem_map.mp hd
  exact lay_name (.inr (h x hx))
theorem lay_texts {n : List Str} (h : ∀ x ∈ n, WordOk x) : Lay 1 (.list (n.map PyData.str)) := Lay.list (k := 0) fun d hd => by
  obtain ⟨x, hx, rfl⟩ := List.mem_map.mp hd
  exact lay_name (.inr (h x hx))
theorem lay_plan {p : Pln} (h : ∀ x, some x ∈ p → WordOk x) : Lay 1 (plnD p) := Lay.tuple (k := 0) fun d hd => by
  obtain ⟨o, ho, rfl⟩ := List.mem_map.mp hd
  cases o with
  | none => exact Lay.none
  | some x => exact lay_name (.inr (h x ho))
theorem new_of {M : List Str} : ∀ n : List Str, n.filterMap (fun y => if y ∈ M then none else some (PyData.str y)) = (n.filter fun y => decide (y ∉ M)).map PyData.str
  | [] => rfl
  | y :: n => by
    by_cases h : y ∈ M
    · rw [List.filterMap_cons_none (by rw [if_pos h]), List.filter_cons_of_neg (by simpa using h), new_of n]
    · rw [List.filterMap_cons_some (by rw [if_neg h]), List.filter_cons_of_pos (by simpa using h), new_of n]; rfl
/-! ### the law's reach -/
def actv (p : Pln) (L : List Str) : Nat := (p.filter fun o => match o with | some x => decide (x ∈ L) | none => false).length
theorem act_cons {x : Str} {p : Pln} {L : List Str} : actv (some x :: p) L = (if x ∈ L then 1 else 0) + actv p L := by
  unfold actv
  by_cases a : x ∈ L
  · rw [List.filter_cons_of_pos (by simpa using a), if_pos a, List.length_cons, Nat.add_comm]
  · rw [List.filter_cons_of_neg (by simpa using a), if_neg a, Nat.zero_add]
theorem act_none {p : Pln} {L : List Str} : actv (none :: p) L = actv p L := by
  unfold actv
  rw [List.filter_cons_of_neg (by simp)]
theorem act_mono : ∀ {p : Pln} {L M : List Str}, (∀ x ∈ L, x ∈ M) → actv p L ≤ actv p M
  | [], _, _, _ => Nat.le_refl _
  | none :: p, L, M, h => by
    rw [act_none, act_none]
    exact act_mono (p := p) h
  | some x :: p, L, M, h => by
    have := act_mono (p := p) h
    rw [act_cons, act_cons]
    by_cases a : x ∈ L
    · rw [if_pos a, if_pos (h x a)]; omega
    · rw [if_neg a]; omega
theorem act_same : ∀ {p : Pln} {L M : List Str}, (∀ x ∈ L, x ∈ M) → actv p M ≤ actv p L → ∀ x, some x ∈ p → x ∈ M → x ∈ L
  | [], _, _, _, _, x, h, _ => nomatch h
  | none :: p, L, M, h, e, x, hx, hm => by
    have hx : some x ∈ p := (List.mem_cons.mp hx).resolve_left (fun z => nomatch z)
    rw [act_none, act_none] at e
    exact act_same (p := p) h e x hx hm
  | some y :: p, L, M, h, e, x, hx, hm => by
    have mono := act_mono (p := p) h
    rw [act_cons, act_cons] at e
    by_cases a : y ∈ L
    · rw [if_pos a, if_pos (h y a)] at e
      rcases List.mem_cons.mp hx with q | q
      · cases q; exact a
      · exact act_same (p := p) h (by omega) x q hm
    · rw [if_neg a] at e
      by_cases b : y ∈ M
      · rw [if_pos b] at e; omega
      · rw [if_neg b] at e
        rcases List.mem_cons.mp hx with q | q
        · cases q; exact absurd hm b
        · exact act_same (p := p) h (by omega) x q hm
theorem act_le {p : Pln} {L : List Str} : actv p L ≤ p.length := List.length_filter_le _ _
def Shut (ns : Ns) (p : Pln) (L : List Str) : Prop := ∀ (k : Nat) (x : Str) (n : List Str), p[k]? = some (some x) → ns[k]? = some n → x ∈ L → ∀ z ∈ n, z ∈ L
theorem round_shut {ns : Ns} {p : Pln} {L M : List Str} (sub : ∀ x ∈ L, x ∈ M) (dn : ∀ (k : Nat) (x : Str) (n : List Str), p[k]? = some (some x) → ns[k]? = some n → x ∈ L → ∀ z ∈ n, z ∈ M) {r : Nat} (i : Shut ns p L ∨ r ≤ actv p L)
    (st : Shut ns p L → ∀ x ∈ M, x ∈ L) : Shut ns p M ∨ r + 1 ≤ actv p M := by
  rcases i with i | i
  · left
    have e := st i
    exact fun k x n e2 e3 hx z hz => sub z (i k x n e2 e3 (e x hx) z hz)
  · by_cases h : actv p M ≤ actv p L
    · left
      exact fun k x n e2 e3 hx z hz => dn k x n e2 e3 (act_same sub h x (List.mem_of_getElem? e2) hx) z hz
    · right; omega
theorem shut_reach {ns : Ns} {p : Pln} {h x : Str} {L : List Str} (s : Shut ns p L) (hh : h ∈ L) (r : Reach ns p h x) : x ∈ L := by
  induction r with
  | me => exact hh
  | on _ e2 e3 e4 ih => exact s _ _ _ e2 e3 ih _ e4
end CFSl

set_option Elab.async false
set_option linter.all false
set_option maxRecDepth 100000
set_option maxHeartbeats 4000000
/-! k70: the plain law: an even plan's counts, sorted falling, are the least of all plans -/
namespace K70
open PySem PySem.Spec PyProof.Rows L2 DL CFH CFWd CFLo CFCn CFRo CFFb CFCb CFSr CFSm
def over (t : Int) (l : List Int) : Int := (l.map fun x => if t < x then x - t else 0).sum
theorem over_cons {t x : Int} {l : List Int} : over t (x :: l) = (if t < x then x - t else 0) + over t l := by
  unfold over
  rw [List.map_cons, List.sum_cons]
theorem over_nn {t : Int} : ∀ {l : List Int}, 0 ≤ over t l
  | [] => Int.le_refl _
  | x :: l => by
    have := over_nn (t := t) (l := l)
    rw [over_cons]
    split <;> omega
theorem over_perm {t : Int} {l m : List Int} (h : l.Perm m) : over t l = over t m := by
  induction h with
  | nil => rfl
  | cons x _ ih => rw [over_cons, over_cons, ih]
  | swap x y l => rw [over_cons, over_cons, over_cons, over_cons]; omega
  | trans _ _ a b => exact a.trans b
theorem over_low {t : Int} : ∀ {l : List Int}, (∀ x ∈ l, x ≤ t) → over t l = 0
  | [], _ => rfl
  | x :: l, h => by
    rw [over_cons, if_neg (by have := h x (.head _); omega), over_low fun y hy => h y (.tail _ hy)]
    rfl
inductive LexLe : List Int → List Int → Prop where
  | nil : LexLe [] []
  | lt {x y : Int} {l m : List Int} : x < y → l.length = m.length → LexLe (x :: l) (y :: m)
  | eq {x : Int} {l m : List Int} : LexLe l m → LexLe (x :: l) (x :: m)
def Falls (l : List Int) : Prop := l.Pairwise (fun x y => y ≤ x)
theorem lex_of_over : ∀ {a b : List Int}, Falls a → Falls b → a.length = b.length → (∀ t, over t a ≤ over t b) → LexLe a b
  | [], [], _, _, _, _ => .nil
  | [], _ :: _, _, _, h, _ => by simp at h
  | _ :: _, [], _, _, h, _ => by simp at h
  | x :: a, y :: b, fa, fb, hl, h => by
    obtain ⟨a1, a2⟩ := List.pairwise_cons.mp fa
    obtain ⟨b1, b2⟩ := List.pairwise_cons.mp fb
    have hl' : a.length = b.length := by simpa using hl
    rcases Int.lt_trichotomy x y with z | z | z
    · exact .lt z hl'
    · subst z
      exact .eq (lex_of_over a2 b2 hl' fun t => by
        have := h t
        rw [over_cons, over_cons] at this
        omega)
    · have q := h y
      rw [over_cons, if_pos z, over_cons, if_neg (by omega), over_low b1] at q
      have := over_nn (t := y) (l := a)
      omega
theorem lex_both {a b : List Int} (h : LexLe a b) (h' : LexLe b a) : a = b := by
  induction h with
  | nil => rfl
  | lt z _ =>
    cases h' with
    | lt z' _ => omega
    | eq _ => omega
  | eq _ ih =>
    cases h' with
    | lt z' _ => omega
    | eq q => rw [ih q]
/-! ### sums over hands -/
def sumH (f : Str → Int) (L : List Str) : Int := (L.map f).sum
theorem sumH_cons {f : Str → Int} {z : Str} {L : List Str} : sumH f (z :: L) = f z + sumH f L := by
  unfold sumH
  rw [List.map_cons, List.sum_cons]
theorem sumH_le {f g : Str → Int} : ∀ {L : List Str}, (∀ z ∈ L, f z ≤ g z) → sumH f L ≤ sumH g L
  | [], _ => Int.le_refl _
  | z :: L, h => by
    have a := h z (.head _)
    have b := sumH_le (L := L) fun y hy => h y (.tail _ hy)
    rw [sumH_cons, sumH_cons]
    omega
theorem sumH_sub {f g : Str → Int} : ∀ {L : List Str}, sumH (fun z => f z - g z) L = sumH f L - sumH g L
  | [] => rfl
  | z :: L => by
    rw [sumH_cons, sumH_cons, sumH_cons, sumH_sub]
    omega
theorem over_sum {t : Int} {f : Str → Int} : ∀ {L : List Str}, over t (L.map f) = sumH (fun z => if t < f z then f z - t else 0) L
  | [] => rfl
  | z :: L => by rw [List.map_cons, over_cons, sumH_cons, over_sum]
open Classical in
/-- the nights of a plan within S: one each -/
theorem in_sum {S : Str → Prop} {L : List Str} (nd : L.Nodup) : ∀ {p : Pln}, (∀ x, some x ∈ p → x ∈ L) → sumH (fun z => if S z then wsum (planR p) z else 0) L = ((p.filter fun o => match o with | some x => decide (S x) | none => false).length : Nat)
  | [], _ => by
    have go : ∀ L : List Str, sumH (fun z => if S z then wsum (planR []) z else 0) L = 0 := fun L => by
      induction L with
      | nil => rfl
      | cons z L ih => rw [sumH_cons, ih]; split <;> rfl
    exact go L
  | none :: p, h => by
    rw [List.filter_cons_of_neg (by simp)]
    exact in_sum nd (p := p) fun x hx => h x (.tail _ hx)
  | some y :: p, h => by
    have ih := in_sum (S := S) nd (p := p) fun x hx => h x (.tail _ hx)
    have hy := h y (.head _)
    have one : ∀ L : List Str, L.Nodup → sumH (fun z => if S z then wsum (planR (some y :: p)) z else 0) L = sumH (fun z => if S z then wsum (planR p) z else 0) L + (if y ∈ L ∧ S y then 1 else 0) := fun L => by
      induction L with
      | nil => intro _; rw [if_neg (fun z => nomatch z.1)]; rfl
      | cons z L ihL =>
        intro nd
        obtain ⟨n1, n2⟩ := List.nodup_cons.mp nd
        have e := ihL n2
        have w : wsum (planR (some y :: p)) z = (if y = z then 1 else 0) + wsum (planR p) z := wsum_cons
        rw [sumH_cons, sumH_cons, e, w]
        by_cases q : y = z
        · subst q
          rw [if_pos rfl, if_neg (fun z : y ∈ L ∧ S y => n1 z.1)]
          by_cases s : S y
          · rw [if_pos s, if_pos s, if_pos ⟨.head _, s⟩]; omega
          · rw [if_neg s, if_neg s, if_neg (fun z => s z.2)]
            omega
        · rw [if_neg q]
          have m : (y ∈ z :: L ∧ S y) ↔ (y ∈ L ∧ S y) := ⟨fun ⟨a, b⟩ => ⟨(List.mem_cons.mp a).resolve_left q, b⟩, fun ⟨a, b⟩ => ⟨.tail _ a, b⟩⟩
          by_cases s : y ∈ L ∧ S y
          · rw [if_pos s, if_pos (m.mpr s)]
            split <;> omega
          · rw [if_neg s, if_neg (fun z => s (m.mp z))]
            split <;> omega
    rw [one L nd, ih]
    by_cases s : S y
    · rw [if_pos ⟨hy, s⟩, List.filter_cons_of_pos (by simpa using s), List.length_cons]; omega
    · rw [if_neg (fun z => s z.2), List.filter_cons_of_neg (by simpa using s)]; omega
theorem in_le {ns : Ns} {p q : Pln} {S : Str → Prop} (a : IsPlan ns p) (b : IsPlan ns q) (cl : ∀ (k : Nat) (x : Str) (n : List Str), p[k]? = some (some x) → ns[k]? = some n → S x → ∀ z ∈ n, S z) :
    ∀ (d : S = S), (open Classical in (p.filter fun o => match o with | some x => decide (S x) | none => false).length ≤ (q.filter fun o => match o with | some x => decide (S x) | none => false).length) := by
  intro _
  have go : ∀ (ns : Ns) (p q : Pln), IsPlan ns p → IsPlan ns q → (∀ (k : Nat) (x : Str) (n : List Str), p[k]? = some (some x) → ns[k]? = some n → S x → ∀ z ∈ n, S z) →
      (open Classical in (p.filter fun o => match o with | some x => decide (S x) | none => false).length ≤ (q.filter fun o => match o with | some x => decide (S x) | none => false).length) := by
    intro ns
    induction ns with
    | nil =>
      intro p q a b _
      have e : p = [] := List.eq_nil_of_length_eq_zero a.1
      rw [e]
      exact Nat.zero_le _
    | cons n ns ih =>
      intro p q a b cl
      match p, q, a, b, cl with
      | [], _, a, _, _ => exact absurd a.1 (by simp)
      | _ :: _, [], _, b, _ => exact absurd b.1 (by simp)
      | o :: p, o' :: q, a, b, cl =>
        have ih := ih p q ⟨by simpa using a.1, fun k n o h h' => a.2 (k + 1) n o h h'⟩ ⟨by simpa using b.1, fun k n o h h' => b.2 (k + 1) n o h h'⟩ fun k x n h h' => cl (k + 1) x n h h'
        by_cases s : ∃ x, o = some x ∧ S x
        · obtain ⟨x, rfl, sx⟩ := s
          have mx : x ∈ n := by
            rcases a.2 0 n (some x) rfl rfl with ⟨y, e, hy⟩ | ⟨_, e⟩
            · cases e; exact hy
            · cases e
          rcases b.2 0 n o' rfl rfl with ⟨y, rfl, hy⟩ | ⟨e, _⟩
          · have sy := cl 0 x n rfl rfl sx y hy
            rw [List.filter_cons_of_pos (by simpa using sx), List.filter_cons_of_pos (by simpa using sy)]
            simp only [List.length_cons]
            omega
          · rw [e] at mx; cases mx
        · rw [List.filter_cons_of_neg (by
            cases o with
            | none => simp
            | some x => simpa using fun z => s ⟨x, rfl, z⟩)]
          refine Nat.le_trans ih ?_
          exact (List.Sublist.filter _ (List.sublist_cons_self _ _)).length_le
  exact go ns p q a b cl
theorem even_over {ns : Ns} {ls : List RwI} {p q : Pln} {L : List Str} (a : IsPlan ns p) (b : IsPlan ns q) (e : EvenP ns ls p) (nd : L.Nodup) (hL : ∀ x ∈ allH ns, x ∈ L) (t : Int) : over t (L.map (totC ls p)) ≤ over t (L.map (totC ls q)) := by
  classical
  let S : Str → Prop := fun x => ∃ h, t < totC ls p h ∧ (some h ∈ p) ∧ Reach ns p h x
  obtain ⟨T, hT⟩ : ∃ T : Str → Prop, ∀ x, T x ↔ (t < totC ls p x ∨ S x) := ⟨fun x => t < totC ls p x ∨ S x, fun _ => Iff.rfl⟩
  have up : ∀ x, S x → t ≤ totC ls p x := fun x ⟨h, h1, h2, h3⟩ => by
    have := e h h2 x h3
    omega
  have cl : ∀ (k : Nat) (x : Str) (n : List Str), p[k]? = some (some x) → ns[k]? = some n → T x → ∀ z ∈ n, T z := fun k x n e2 e3 hx z hz => by
    refine (hT z).mpr (.inr ?_)
    rcases (hT x).mp hx with hx | ⟨h, h1, h2, h3⟩
    · exact ⟨x, hx, List.mem_of_getElem? e2, .on .me e2 e3 hz⟩
    · exact ⟨h, h1, h2, .on h3 e2 e3 hz⟩
  have le := in_le a b cl rfl
  have sp := in_sum (S := T) nd (p := p) fun x hx => hL x (plan_hands a hx)
  have sq := in_sum (S := T) nd (p := q) fun x hx => hL x (plan_hands b hx)
  rw [over_sum, over_sum]
  have e1 : ∀ z, (if t < totC ls p z then totC ls p z - t else 0) = (if T z then totC ls p z - t else 0) := fun z => by
    by_cases h : t < totC ls p z
    · rw [if_pos h, if_pos ((hT z).mpr (.inl h))]
    · rw [if_neg h]
      by_cases s : T z
      · rw [if_pos s]
        rcases (hT z).mp s with s | s
        · exact absurd s h
        · have := up z s
          omega
      · rw [if_neg s]
  have e2 : ∀ z, (if T z then totC ls q z - t else 0) ≤ (if t < totC ls q z then totC ls q z - t else 0) := fun z => by
    by_cases s : T z
    · rw [if_pos s]; split <;> omega
    · rw [if_neg s]; split <;> omega
  have e3 : sumH (fun z => if T z then totC ls q z - t else 0) L - sumH (fun z => if T z then totC ls p z - t else 0) L = sumH (fun z => if T z then wsum (planR q) z else 0) L - sumH (fun z => if T z then wsum (planR p) z else 0) L := by
    rw [← sumH_sub, ← sumH_sub]
    congr 1
    funext z
    by_cases s : T z
    · simp only [if_pos s]; unfold totC; omega
    · simp only [if_neg s]
  have e4 := sumH_le (f := fun z => if T z then totC ls q z - t else 0) (g := fun z => if t < totC ls q z then totC ls q z - t else 0) (L := L) fun z _ => e2 z
  have e5 : sumH (fun z => if t < totC ls p z then totC ls p z - t else 0) L = sumH (fun z => if T z then totC ls p z - t else 0) L := by
    congr 1
    funext z
    exact e1 z
  rw [e5]
  omega
end K70

set_option Elab.async false
set_option linter.all false
set_option maxRecDepth 100000
set_option maxHeartbeats 4000000
/-! k70: the promises -/
namespace K70
open PySem PySem.Spec PyProof.Rows L2 DL CFH CFWd CFLo CFCn CFRo CFFb CFCb CFSr CFSm CFSl
/-! ### all hands of nights and loads -/
def handsL (ns : Ns) (ls : List RwI) : List Str := nms (addN "" 0 [] (allH ns ++ ls.map (·.1)))
theorem addN_sub {x : Str} {k : Nat} : ∀ {m : List Str} {W : List Way} {z : Str}, z ∈ nms (addN x k W m) → z ∈ nms W ∨ z ∈ m
  | [], W, z, h => .inl h
  | y :: m, W, z, h => by
    rcases addN_sub (m := m) (W := addZ x k W y) h with q | q
    · unfold addZ at q
      by_cases hy : y ∈ nms W
      · rw [if_pos hy] at q; exact .inl q
      · rw [if_neg hy] at q
        unfold nms at q
        rw [List.map_append] at q
        rcases List.mem_append.mp q with q | q
        · exact .inl q
        · rw [List.mem_singleton.mp q]; exact .inr (.head _)
    · exact .inr (.tail _ q)
theorem handsL_nd {ns : Ns} {ls : List RwI} : (handsL ns ls).Nodup := (addN_nd (x := "") (k := 0) (m := allH ns ++ ls.map (·.1)) (W := []) List.nodup_nil).1
theorem handsL_mem {ns : Ns} {ls : List RwI} {x : Str} : x ∈ handsL ns ls ↔ x ∈ allH ns ∨ x ∈ ls.map (·.1) := by
  constructor
  · intro h
    rcases addN_sub h with q | q
    · cases q
    · exact List.mem_append.mp q
  · intro h
    exact (addN_nd (x := "") (k := 0) (m := allH ns ++ ls.map (·.1)) (W := []) List.nodup_nil).2.2 x (List.mem_append.mpr h)
/-! ### counts, sorted falling -/
def fallF (ns : Ns) (ls : List RwI) (p : Pln) : List Int := ((handsL ns ls).map (totC ls p)).mergeSort fun a b => decide (b ≤ a)
theorem fall_perm {ns : Ns} {ls : List RwI} {p : Pln} : (fallF ns ls p).Perm ((handsL ns ls).map (totC ls p)) := List.mergeSort_perm _ _
theorem fall_falls {ns : Ns} {ls : List RwI} {p : Pln} : Falls (fallF ns ls p) := by
  have h := List.pairwise_mergeSort (le := fun a b : Int => decide (b ≤ a)) (fun a b c h1 h2 => by
    simp only [decide_eq_true_eq] at *
    omega) (fun a b => by
    simp only [Bool.or_eq_true, decide_eq_true_eq]
    omega) ((handsL ns ls).map (totC ls p))
  exact List.Pairwise.imp (fun h => by simpa using h) h
theorem fall_over {ns : Ns} {ls : List RwI} {p : Pln} {t : Int} : over t (fallF ns ls p) = over t ((handsL ns ls).map (totC ls p)) := over_perm fall_perm
theorem fall_len {ns : Ns} {ls : List RwI} {p : Pln} : (fallF ns ls p).length = (handsL ns ls).length := by rw [fall_perm.length_eq, List.length_map]
theorem fall_uniq {ns : Ns} {ls : List RwI} {p : Pln} {L : List Str} {fl : List Int} (nd : L.Nodup) (hm : ∀ x, x ∈ L ↔ x ∈ allH ns ∨ x ∈ ls.map (·.1)) (pm : fl.Perm (L.map (totC ls p))) (ff : Falls fl) : fl = fallF ns ls p := by
  have pl : L.Perm (handsL ns ls) := (List.perm_ext_iff_of_nodup nd handsL_nd).mpr fun x => by rw [hm, handsL_mem]
  have e : ∀ t, over t fl = over t (fallF ns ls p) := fun t => by rw [over_perm pm, fall_over]; exact over_perm (pl.map _)
  have el : fl.length = (fallF ns ls p).length := by rw [pm.length_eq, List.length_map, fall_len, pl.length_eq]
  exact lex_both (lex_of_over ff fall_falls el fun t => Int.le_of_eq (e t)) (lex_of_over fall_falls ff el.symm fun t => Int.le_of_eq (e t).symm)
theorem even_least {ns : Ns} {ls : List RwI} {p q : Pln} (a : IsPlan ns p) (b : IsPlan ns q) (e : EvenP ns ls p) : LexLe (fallF ns ls p) (fallF ns ls q) :=
  lex_of_over fall_falls fall_falls (by rw [fall_len, fall_len]) fun t => by
    rw [fall_over, fall_over]
    exact even_over a b e handsL_nd (fun x hx => handsL_mem.mpr (.inl hx)) t
/-! ### as data -/
@[reducible] def ilD (l : List Int) : D := .list (l.map PyData.int)
theorem eqv_il : ∀ {a b : List Int}, PyData.eqv (ilD a) (ilD b) = decide (a = b)
  | [], [] => by simp [ilD, PyData.eqv, PyData.eqvAll]
  | [], y :: b => by simp [ilD, PyData.eqv, PyData.eqvAll]
  | x :: a, [] => by simp [ilD, PyData.eqv, PyData.eqvAll]
  | x :: a, y :: b => by
    have ih := eqv_il (a := a) (b := b)
    simp only [ilD, PyData.eqv, List.map_cons, PyData.eqvAll] at *
    rw [ih]
    by_cases h : x = y
    · subst h; simp
    · simp [h]
theorem lay_il {l : List Int} : Lay 1 (ilD l) := Lay.list (k := 0) fun d hd => by
  obtain ⟨x, _, rfl⟩ := List.mem_map.mp hd
  exact Lay.int _
theorem lt_cons {x y : Int} {a b : List Int} : PySem.W.dataLt (ilD (x :: a)) (ilD (y :: b)) = (decide (x < y) || (!decide (y < x) && PySem.W.dataLt (ilD a) (ilD b))) := by
  show PyProof.Rows.lexLt itemOrd (PySem.W.keyToks (.list (.int x :: a.map PyData.int))) (PySem.W.keyToks (.list (.int y :: b.map PyData.int))) = _
  rw [PySem.W.keyToks, PySem.W.keyToks, PySem.W.toks_all_cons, PySem.W.toks_all_cons, PySem.W.keyToks, PySem.W.keyToks, lex_cons, List.cons_append, List.nil_append, List.cons_append, List.nil_append, lex_cons]
  have e1 : itemOrd.blt (Sum.inl 1) (Sum.inl 1) = false := itemOrd.irrefl _
  rw [e1]
  have e2 : PySem.W.dataLt (ilD a) (ilD b) = PyProof.Rows.lexLt itemOrd (PySem.W.keyToksAll (a.map PyData.int)) (PySem.W.keyToksAll (b.map PyData.int)) := by
    unfold PySem.W.dataLt
    rw [PySem.W.keyToks, PySem.W.keyToks]
  rw [e2]
  rfl
theorem lt_nil : PySem.W.dataLt (ilD []) (ilD []) = false := by
  unfold PySem.W.dataLt
  rw [PySem.W.keyToks]
  exact (lex_self (O := itemOrd) _ [] []).trans rfl
theorem not_lt {a b : List Int} (h : LexLe a b) : PySem.W.dataLt (ilD b) (ilD a) = false := by
  induction h with
  | nil => exact lt_nil
  | @lt x y l m z hl => rw [lt_cons, decide_eq_false (by omega), decide_eq_true z]; rfl
  | @eq x l m _ ih => rw [lt_cons, ih, decide_eq_false (Int.lt_irrefl x)]; rfl
/-! ### all plans -/
def opts (n : List Str) : List (Option Str) := if n = [] then [none] else n.map some
def step (ps : List Pln) (n : List Str) : List Pln := ps.flatMap fun p => (opts n).map fun o => p ++ [o]
theorem plan_cons {n : List Str} {ns : Ns} {o : Option Str} {p : Pln} : IsPlan (n :: ns) (o :: p) ↔ ((∃ x, o = some x ∧ x ∈ n) ∨ (n = [] ∧ o = none)) ∧ IsPlan ns p := by
  constructor
  · intro h
    exact ⟨h.2 0 n o rfl rfl, by simpa using h.1, fun k n' o' h1 h2 => h.2 (k + 1) n' o' h1 h2⟩
  · rintro ⟨h1, h2, h3⟩
    refine ⟨by simpa using h2, fun k n' o' e1 e2 => ?_⟩
    cases k with
    | zero =>
      have e1 : n = n' := Option.some.inj e1
      have e2 : o = o' := Option.some.inj e2
      subst e1 e2
      exact h1
    | succ k => exact h3 k n' o' e1 e2
/-! ### the promises -/
def S_law_falling : SpD := fun as Q _ => ∃ (ns : Ns) (ls : List RwI) (p : Pln), as = [.v (nsD ns), .p (.tuple (ls.map rowD)), .v (plnD p)] ∧ Case ns ls p ∧ Q (.v (ilD (fallF ns ls p))) as
def S_law : SpD := fun as Q _ => ∃ ns : List Int, as = [.v (.list (ns.map PyData.int))] ∧ ns.length ≤ 63 ∧ ∀ rs, Q (.v (.bool true)) rs
theorem law_in : ∀ ns : List Int, ns.length ≤ 63 → S_law [.v (.list (ns.map PyData.int))] (fun c _ => c = .v (.bool true)) (fun _ _ => False) := fun ns h => ⟨ns, rfl, h, fun _ => rfl⟩
theorem len_law_falling : ∀ as QD ED, S_law_falling as QD ED → as.length = 3 := by
  rintro as QD ED ⟨_, _, _, rfl, _⟩
  rfl
theorem len_law : ∀ as QD ED, S_law as QD ED → as.length = 1 := by
  rintro as QD ED ⟨_, rfl, _⟩
  rfl
theorem get_mem {kv : Key × D} : ∀ {kvs : List (Key × D)}, (kvs.map (·.1)).Nodup → kv ∈ kvs → dGet kvs kv.1 = some kv.2
  | [], _, h => nomatch h
  | p :: r, nd, h => by
    obtain ⟨n1, n2⟩ := List.nodup_cons.mp nd
    rcases List.mem_cons.mp h with e | h
    · subst e; exact dget_pos rfl
    · rw [dget_neg fun z => n1 (List.mem_map.mpr ⟨kv, h, z.symm⟩)]
      exact get_mem n2 h
theorem gok_shape {l : List RwI} {kvs : List (Key × D)} (g : GOk l kvs) : ∃ L : List Str, L.Nodup ∧ (∀ x, x ∈ L ↔ x ∈ l.map (·.1)) ∧ kvs = L.map fun x => (Sum.inr x, .int (wsum l x)) := by
  obtain ⟨ss, e⟩ := g.ks
  have gnd := g.nd
  have at_ : ∀ q ∈ ss, q.1 ∈ l.map (·.1) ∧ q.2 = .int (wsum l q.1) := fun q hq => by
    have h1 := get_mem (kv := (Sum.inr q.1, q.2)) gnd (by rw [e]; exact List.mem_map.mpr ⟨q, hq, rfl⟩)
    have h2 := g.get q.1
    rw [h1] at h2
    by_cases m : q.1 ∈ l.map (·.1)
    · rw [if_pos m] at h2; exact ⟨m, Option.some.inj h2⟩
    · rw [if_neg m] at h2; cases h2
  refine ⟨ss.map (·.1), ?_, fun x => ?_, ?_⟩
  · rw [e, List.map_map] at gnd
    have : ((ss.map (·.1)).map (Sum.inr (α := Int))).Nodup := by rw [List.map_map]; exact gnd
    exact List.Pairwise.imp (fun h z => h (by rw [z])) (List.pairwise_map.mp this)
  · constructor
    · intro h
      obtain ⟨q, hq, rfl⟩ := List.mem_map.mp h
      exact (at_ q hq).1
    · intro h
      have h2 := g.get x
      rw [if_pos h] at h2
      have h3 : Sum.inr x ∈ kvs.map (·.1) := dget_mem.mp (by rw [h2]; rfl)
      rw [e, List.map_map] at h3
      obtain ⟨q, hq, e3⟩ := List.mem_map.mp h3
      exact List.mem_map.mpr ⟨q, hq, Sum.inr.inj e3⟩
  · rw [e, List.map_map]
    refine List.map_congr_left fun q hq => ?_
    show (Sum.inr q.1, q.2) = (Sum.inr q.1, PyData.int (wsum l q.1))
    rw [(at_ q hq).2]
theorem intVals_map (f : Str → Int) : ∀ L : List Str, intVals (L.map fun x => (Sum.inr x, PyData.int (f x))) = some (L.map f)
  | [] => rfl
  | x :: L => by
    rw [List.map_cons, intVals_cons, intVals_map f L]
    rfl
theorem planR_mem {x : Str} : ∀ {p : Pln}, x ∈ (planR p).map (·.1) → some x ∈ p
  | [], h => nomatch h
  | none :: p, h => .tail _ (planR_mem (p := p) h)
  | some y :: p, h => by
    rcases List.mem_cons.mp (show x ∈ y :: (planR p).map (·.1) from h) with e | h
    · rw [e]; exact .head _
    · exact .tail _ (planR_mem (p := p) h)
theorem falls_of {ns : Ns} {ls : List RwI} {p : Pln} (ip : IsPlan ns p) {kvs : List (Key × D)} (g : GOk (zeros ns ++ ls ++ planR p) kvs) : ∃ vs : List Int, intVals kvs = some vs ∧ ∀ fl : List Int, fl.Perm vs → OrdB true fl → fl = fallF ns ls p := by
  obtain ⟨L, nd, hm, e⟩ := gok_shape g
  have mem : ∀ n, n ∈ L ↔ n ∈ allH ns ∨ n ∈ ls.map (·.1) := fun n => by
    rw [hm, List.map_append, List.map_append, List.mem_append, List.mem_append]
    have z : n ∈ (zeros ns).map (·.1) ↔ n ∈ allH ns := by
      unfold zeros
      rw [List.map_map]
      constructor
      · intro h
        obtain ⟨x, hx, e⟩ := List.mem_map.mp h
        rw [← e]; exact hx
      · intro h
        exact List.mem_map.mpr ⟨n, h, rfl⟩
    rw [z]
    constructor
    · rintro ((h | h) | h)
      · exact .inl h
      · exact .inr h
      · exact .inl (plan_hands ip (planR_mem h))
    · rintro (h | h)
      · exact .inl (.inl h)
      · exact .inl (.inr h)
  refine ⟨L.map (totC ls p), ?_, fun fl pm ff => fall_uniq nd mem pm ?_⟩
  · rw [e, intVals_map]
    congr 2
    funext x
    exact tot_rows
  · exact List.Pairwise.imp (fun h => h) ff
end K70

set_option Elab.async false
set_option linter.all false
set_option maxRecDepth 100000
set_option maxHeartbeats 4000000
/-! k72: the promises -/
namespace K72
open PySem PySem.Spec PyProof.Rows L2 DL CFH CFWd CFLo CFCn CFRo CFFb CFCb CFSr CFSm CFSl K70
/-! ### even plans of alike rounds have the same counts -/
theorem fall_same {ns ns' : Ns} {ls ls' : List RwI} (F G : Pln → Pln) (hF : ∀ p, IsPlan ns p → IsPlan ns' (F p) ∧ fallF ns' ls' (F p) = fallF ns ls p) (hG : ∀ q, IsPlan ns' q → IsPlan ns (G q) ∧ fallF ns ls (G q) = fallF ns' ls' q)
    {p q : Pln} (a : IsPlan ns p) (b : IsPlan ns' q) (e : EvenP ns ls p) (e' : EvenP ns' ls' q) : fallF ns' ls' q = fallF ns ls p := by
  obtain ⟨a1, a2⟩ := hF p a
  obtain ⟨b1, b2⟩ := hG q b
  have h1 := even_least a b1 e
  have h2 := even_least b a1 e'
  rw [b2] at h1
  rw [a2] at h2
  exact lex_both h2 h1
theorem fall_eq {ns ns' : Ns} {ls ls' : List RwI} {p q : Pln} (f : Str → Str) (inj : ∀ x ∈ handsL ns' ls', ∀ y ∈ handsL ns' ls', f x = f y → x = y)
    (hm : ∀ x, (∃ y ∈ handsL ns' ls', f y = x) ↔ x ∈ allH ns ∨ x ∈ ls.map (·.1)) (tot : ∀ y ∈ handsL ns' ls', totC ls p (f y) = totC ls' q y) : fallF ns' ls' q = fallF ns ls p := by
  refine fall_uniq (L := (handsL ns' ls').map f) ?_ (fun x => ?_) ?_ fall_falls
  · have nd := handsL_nd (ns := ns') (ls := ls')
    generalize handsL ns' ls' = L at nd inj
    clear hm tot
    induction L with
    | nil => exact List.nodup_nil
    | cons z L ih =>
      obtain ⟨n1, n2⟩ := List.nodup_cons.mp nd
      rw [List.map_cons]
      refine List.nodup_cons.mpr ⟨fun h => ?_, ih n2 fun x hx y hy => inj x (.tail _ hx) y (.tail _ hy)⟩
      obtain ⟨w, hw, e⟩ := List.mem_map.mp h
      rw [inj w (.tail _ hw) z (.head _) e] at hw
      exact n1 hw
  · rw [← hm x, List.mem_map]
  · have e : ((handsL ns' ls').map f).map (totC ls p) = (handsL ns' ls').map (totC ls' q) := by
      rw [List.map_map]
      exact List.map_congr_left fun y hy => tot y hy
    rw [e]
    exact fall_perm
theorem wsum_perm {l m : List RwI} {n : Str} (h : l.Perm m) : wsum l n = wsum m n := by
  induction h with
  | nil => rfl
  | cons r _ ih => rw [wsum_cons, wsum_cons, ih]
  | swap r s l => rw [wsum_cons, wsum_cons, wsum_cons, wsum_cons]; omega
  | trans _ _ a b => exact a.trans b
/-! ### the nights the other way round -/
theorem plan_rev {ns : Ns} {p : Pln} (a : IsPlan ns p) : IsPlan ns.reverse p.reverse := by
  refine ⟨by rw [List.length_reverse, List.length_reverse]; exact a.1, fun k n o h1 h2 => ?_⟩
  have k1 : k < ns.length := by
    have := (List.getElem?_eq_some_iff.mp h1).1
    rwa [List.length_reverse] at this
  rw [List.getElem?_reverse k1] at h1
  rw [List.getElem?_reverse (by rw [a.1]; exact k1), a.1] at h2
  exact a.2 _ n o h1 h2
theorem allH_rev {ns : Ns} {x : Str} : x ∈ allH ns.reverse ↔ x ∈ allH ns := by
  unfold allH
  rw [List.mem_flatten, List.mem_flatten]
  simp only [List.mem_reverse]
theorem fall_rev {ns : Ns} {ls : List RwI} {p : Pln} : fallF ns.reverse ls p.reverse = fallF ns ls p := by
  refine fall_eq (fun x => x) (fun x _ y _ e => e) (fun x => ?_) fun y _ => ?_
  · constructor
    · rintro ⟨y, hy, rfl⟩
      rcases handsL_mem.mp hy with h | h
      · exact .inl (allH_rev.mp h)
      · exact .inr h
    · intro h
      exact ⟨x, handsL_mem.mpr (h.imp allH_rev.mpr id), rfl⟩
  · unfold totC
    have e : wsum (planR p.reverse) y = wsum (planR p) y := by
      unfold planR
      rw [List.filterMap_reverse]
      exact wsum_perm (List.reverse_perm _)
    rw [e]
theorem same_rev {ns : Ns} {ls : List RwI} {p q : Pln} (a : IsPlan ns p) (b : IsPlan ns.reverse q) (e : EvenP ns ls p) (e' : EvenP ns.reverse ls q) : fallF ns.reverse ls q = fallF ns ls p :=
  fall_same List.reverse List.reverse (fun p a => ⟨plan_rev a, fall_rev⟩) (fun q b => by
    have c := plan_rev b
    rw [List.reverse_reverse] at c
    have f := fall_rev (ns := ns.reverse) (ls := ls) (p := q)
    rw [List.reverse_reverse] at f
    exact ⟨c, f⟩) a b e e'
/-! ### each load as so many nights of its hand alone -/
def namesOf (ls : List RwI) : List Str := ls.flatMap fun r => List.replicate r.2.toNat r.1
def extN (ls : List RwI) : Ns := (namesOf ls).map fun x => [x]
theorem plan_app {a b : Ns} {p q : Pln} (h : p.length = a.length) : IsPlan (a ++ b) (p ++ q) ↔ IsPlan a p ∧ IsPlan b q := by
  constructor
  · intro c
    refine ⟨⟨h, fun k n o h1 h2 => c.2 k n o ?_ ?_⟩, ⟨?_, fun k n o h1 h2 => c.2 (a.length + k) n o ?_ ?_⟩⟩
    · rw [List.getElem?_append_left (List.getElem?_eq_some_iff.mp h1).1]; exact h1
    · rw [List.getElem?_append_left (List.getElem?_eq_some_iff.mp h2).1]; exact h2
    · have := c.1
      rw [List.length_append, List.length_append] at this
      omega
    · rw [List.getElem?_append_right (Nat.le_add_right _ _), Nat.add_sub_cancel_left]; exact h1
    · rw [List.getElem?_append_right (by omega), h, Nat.add_sub_cancel_left]; exact h2
  · rintro ⟨c, d⟩
    refine ⟨by rw [List.length_append, List.length_append, c.1, d.1], fun k n o h1 h2 => ?_⟩
    rcases Nat.lt_or_ge k a.length with z | z
    · rw [List.getElem?_append_left z] at h1
      rw [List.getElem?_append_left (by omega)] at h2
      exact c.2 k n o h1 h2
    · rw [List.getElem?_append_right z] at h1
      rw [List.getElem?_append_right (by omega), h] at h2
      exact d.2 _ n o h1 h2
theorem plan_ones : ∀ {hs : List Str} {q : Pln}, IsPlan (hs.map fun x => [x]) q ↔ q = hs.map some
  | [], q => by
    constructor
    · intro h; exact List.eq_nil_of_length_eq_zero h.1
    · rintro rfl; exact ⟨rfl, fun k n o h => by simp at h⟩
  | h :: hs, [] => by
    constructor
    · intro c; exact absurd c.1 (by simp)
    · intro e; cases e
  | h :: hs, o :: q => by
    rw [List.map_cons, plan_cons, plan_ones (hs := hs)]
    constructor
    · rintro ⟨h1, rfl⟩
      rcases h1 with ⟨x, rfl, hx⟩ | ⟨e, _⟩
      · rw [List.mem_singleton.mp hx]; rfl
      · cases e
    · intro e
      rw [List.map_cons] at e
      obtain ⟨e1, e2⟩ := List.cons.inj e
      exact ⟨.inl ⟨h, e1, .head _⟩, e2⟩
theorem wsum_rep {h y : Str} : ∀ n : Nat, wsum (planR ((List.replicate n h).map some)) y = if h = y then (n : Int) else 0
  | 0 => by split <;> rfl
  | n + 1 => by
    rw [List.replicate_succ, List.map_cons]
    show wsum ((h, 1) :: planR ((List.replicate n h).map some)) y = _
    rw [wsum_cons, wsum_rep n]
    by_cases e : h = y
    · rw [if_pos e, if_pos e, if_pos e]; show (1 : Int) + n = ((n + 1 : Nat) : Int); omega
    · rw [if_neg e, if_neg e, if_neg e]; rfl
theorem wsum_names {y : Str} : ∀ {ls : List RwI}, (∀ e ∈ ls, 0 ≤ e.2) → wsum (planR ((namesOf ls).map some)) y = wsum ls y
  | [], _ => rfl
  | r :: ls, h => by
    have r0 := h r (.head _)
    unfold namesOf
    rw [List.flatMap_cons, List.map_append, plan_app', wsum_app, wsum_rep, wsum_cons]
    have ih := wsum_names (y := y) (ls := ls) fun e he => h e (.tail _ he)
    unfold namesOf at ih
    rw [ih]
    split <;> omega
where plan_app' {a b : Pln} : planR (a ++ b) = planR a ++ planR b := List.filterMap_append ..
theorem names_mem {ls : List RwI} (h : ∀ e ∈ ls, 0 < e.2) {x : Str} : x ∈ namesOf ls ↔ x ∈ ls.map (·.1) := by
  unfold namesOf
  rw [List.mem_flatMap, List.mem_map]
  constructor
  · rintro ⟨r, hr, hx⟩
    exact ⟨r, hr, (List.eq_of_mem_replicate hx).symm⟩
  · rintro ⟨r, hr, rfl⟩
    exact ⟨r, hr, List.mem_replicate.mpr ⟨by have := h r hr; omega, rfl⟩⟩
theorem allH_ext {ns : Ns} {ls : List RwI} {x : Str} : x ∈ allH (ns ++ extN ls) ↔ x ∈ allH ns ∨ x ∈ namesOf ls := by
  unfold allH extN
  rw [List.flatten_append, List.mem_append]
  constructor
  · rintro (h | h)
    · exact .inl h
    · obtain ⟨l, hl, hx⟩ := List.mem_flatten.mp h
      obtain ⟨z, hz, rfl⟩ := List.mem_map.mp hl
      rw [List.mem_singleton.mp hx]
      exact .inr hz
  · rintro (h | h)
    · exact .inl h
    · exact .inr (List.mem_flatten.mpr ⟨[x], List.mem_map.mpr ⟨x, h, rfl⟩, .head _⟩)
theorem fall_ext {ns : Ns} {ls : List RwI} {p : Pln} (h : ∀ e ∈ ls, 0 < e.2) : fallF (ns ++ extN ls) [] (p ++ (namesOf ls).map some) = fallF ns ls p := by
  refine fall_eq (fun x => x) (fun x _ y _ e => e) (fun x => ?_) fun y _ => ?_
  · constructor
    · rintro ⟨y, hy, rfl⟩
      rcases handsL_mem.mp hy with q | q
      · exact (allH_ext.mp q).imp id (names_mem h).mp
      · cases q
    · intro q
      exact ⟨x, handsL_mem.mpr (.inl (allH_ext.mpr (q.imp id (names_mem h).mpr))), rfl⟩
  · unfold totC
    have e : planR (p ++ (namesOf ls).map some) = planR p ++ planR ((namesOf ls).map some) := List.filterMap_append ..
    rw [e, wsum_app, wsum_names fun e he => Int.le_of_lt (h e he), wsum_nil]
    omega
theorem same_ext {ns : Ns} {ls : List RwI} {p q : Pln} (h : ∀ e ∈ ls, 0 < e.2) (a : IsPlan ns p) (b : IsPlan (ns ++ extN ls) q) (e : EvenP ns ls p) (e' : EvenP (ns ++ extN ls) [] q) : fallF (ns ++ extN ls) [] q = fallF ns ls p := by
  refine fall_same (fun p => p ++ (namesOf ls).map some) (fun q => q.take ns.length) (fun p a => ⟨(plan_app a.1).mpr ⟨a, plan_ones.mpr rfl⟩, fall_ext h⟩) (fun q b => ?_) a b e e'
  have l1 : (q.take ns.length).length = ns.length := by
    rw [List.length_take]
    have := b.1
    rw [List.length_append] at this
    omega
  have eq := List.take_append_drop ns.length q
  rw [← eq] at b
  obtain ⟨b1, b2⟩ := (plan_app l1).mp b
  refine ⟨b1, ?_⟩
  rw [← fall_ext (ns := ns) h, ← plan_ones.mp b2, eq]
  rfl
/-! ### the words given to the hands the other way round -/
def turnW (ws : List Str) (x : Str) : Str := match (ws.zip ws.reverse).find? fun q => decide (q.1 = x) with
  | some q => q.2
  | none => x
theorem zip_find {x y : Str} : ∀ {a b : List Str} {i : Nat}, a.Nodup → a[i]? = some x → b[i]? = some y → (a.zip b).find? (fun q => decide (q.1 = x)) = some (x, y)
  | [], _, _, _, h, _ => by simp at h
  | _ :: _, [], _, _, _, h => by simp at h
  | z :: a, w :: b, 0, nd, h1, h2 => by
    have h1 : some z = some x := h1
    have h2 : some w = some y := h2
    cases h1; cases h2
    rw [List.zip_cons_cons, List.find?_cons_of_pos (by simp)]
  | z :: a, w :: b, i + 1, nd, h1, h2 => by
    obtain ⟨n1, n2⟩ := List.nodup_cons.mp nd
    have h1 : a[i]? = some x := h1
    rw [List.zip_cons_cons, List.find?_cons_of_neg (by
      rw [decide_eq_true_eq]
      intro e
      exact n1 (by rw [show z = x from e]; exact List.mem_of_getElem? h1))]
    exact zip_find n2 h1 h2
theorem turn_at {ws : List Str} (nd : ws.Nodup) {i : Nat} {x y : Str} (h1 : ws[i]? = some x) (h2 : ws.reverse[i]? = some y) : turnW ws x = y := by
  unfold turnW
  rw [zip_find nd h1 h2]
theorem turn_ok {ws : List Str} (nd : ws.Nodup) {x : Str} (hx : x ∈ ws) : turnW ws x ∈ ws ∧ turnW ws (turnW ws x) = x := by
  obtain ⟨i, hi⟩ := List.mem_iff_getElem?.mp hx
  have li := (List.getElem?_eq_some_iff.mp hi).1
  obtain ⟨y, hy⟩ : ∃ y, ws[ws.length - 1 - i]? = some y := ⟨_, List.getElem?_eq_getElem (by omega)⟩
  have e1 := turn_at nd hi (by rw [List.getElem?_reverse li]; exact hy)
  have e2 := turn_at nd hy (by rw [List.getElem?_reverse (by omega), show ws.length - 1 - (ws.length - 1 - i) = i by omega]; exact hi)
  rw [e1]
  exact ⟨List.mem_of_getElem? hy, e2⟩
theorem zip_dget {x : Str} {d : D} : ∀ {a : List Str} {b : List D} {i : Nat}, a.Nodup → a[i]? = some x → b[i]? = some d → dGet ((a.zip b).map fun q => ((Sum.inr q.1 : Key), q.2)) (.inr x) = some d
  | [], _, _, _, h, _ => by simp at h
  | _ :: _, [], _, _, _, h => by simp at h
  | z :: a, w :: b, 0, nd, h1, h2 => by
    have h1 : some z = some x := h1
    have h2 : some w = some d := h2
    cases h1; cases h2
    rw [List.zip_cons_cons, List.map_cons]
    exact dget_pos rfl
  | z :: a, w :: b, i + 1, nd, h1, h2 => by
    obtain ⟨n1, n2⟩ := List.nodup_cons.mp nd
    have h1 : a[i]? = some x := h1
    rw [List.zip_cons_cons, List.map_cons, dget_neg fun e => n1 (by rw [show z = x from Sum.inr.inj e]; exact List.mem_of_getElem? h1)]
    exact zip_dget n2 h1 h2
theorem turn_get {ws : List Str} (nd : ws.Nodup) {x : Str} (hx : x ∈ ws) : dGet ((ws.zip (ws.map PyData.str).reverse).map fun q => ((Sum.inr q.1 : Key), q.2)) (.inr x) = some (.str (turnW ws x)) := by
  obtain ⟨i, hi⟩ := List.mem_iff_getElem?.mp hx
  have li := (List.getElem?_eq_some_iff.mp hi).1
  obtain ⟨y, hy⟩ : ∃ y, ws.reverse[i]? = some y := ⟨_, List.getElem?_eq_getElem (by rw [List.length_reverse]; exact li)⟩
  rw [turn_at nd hi hy]
  refine zip_dget nd hi ?_
  rw [← List.map_reverse, List.getElem?_map, hy]
  rfl
structure Turned (τ : Str → Str) (ns : Ns) (ls : List RwI) (ns' : Ns) (ls' : List RwI) : Prop where
  len : ns'.length = ns.length
  at_ : ∀ (k : Nat) (n n' : List Str), ns[k]? = some n → ns'[k]? = some n' → n'.Perm (n.map τ)
  ld : ls'.Perm (ls.map fun r => (τ r.1, r.2))
structure InW (ws : List Str) (ns : Ns) (ls : List RwI) : Prop where
  n : ∀ n ∈ ns, ∀ x ∈ n, x ∈ ws
  l : ∀ e ∈ ls, e.1 ∈ ws
section
variable {τ : Str → Str} {ws : List Str} {ns ns' : Ns} {ls ls' : List RwI}
theorem Turned.inW (t : Turned τ ns ls ns' ls') (hτ : ∀ x ∈ ws, τ x ∈ ws ∧ τ (τ x) = x) (i : InW ws ns ls) : InW ws ns' ls' := by
  refine ⟨fun n' hn x hx => ?_, fun e he => ?_⟩
  · obtain ⟨k, hk⟩ := List.mem_iff_getElem?.mp hn
    have lk := (List.getElem?_eq_some_iff.mp hk).1
    have e0 := List.getElem?_eq_getElem (show k < ns.length by rw [← t.len]; exact lk)
    obtain ⟨y, hy, rfl⟩ := List.mem_map.mp ((t.at_ k _ _ e0 hk).mem_iff.mp hx)
    exact (hτ y (i.n _ (List.mem_of_getElem? e0) y hy)).1
  · obtain ⟨r, hr, rfl⟩ := List.mem_map.mp (t.ld.mem_iff.mp he)
    exact (hτ _ (i.l r hr)).1
theorem Turned.symm (t : Turned τ ns ls ns' ls') (hτ : ∀ x ∈ ws, τ x ∈ ws ∧ τ (τ x) = x) (i : InW ws ns ls) : Turned τ ns' ls' ns ls := by
  have back : ∀ {α : Type} (f : α → α) (l : List α), (∀ x ∈ l, f (f x) = x) → (l.map f).map f = l := fun f l h => by
    rw [List.map_map]
    exact (List.map_congr_left fun x hx => h x hx).trans (List.map_id _)
  refine ⟨t.len.symm, fun k n' n h1 h2 => ?_, ?_⟩
  · have p := (t.at_ k n n' h2 h1).map τ
    rw [back τ n fun x hx => (hτ x (i.n n (List.mem_of_getElem? h2) x hx)).2] at p
    exact p.symm
  · have p := t.ld.map fun r : RwI => (τ r.1, r.2)
    rw [back (fun r : RwI => (τ r.1, r.2)) ls fun r hr => by rw [(hτ _ (i.l r hr)).2]] at p
    exact p.symm
def mapP (τ : Str → Str) (p : Pln) : Pln := p.map fun o => o.map τ
theorem Turned.plan (t : Turned τ ns ls ns' ls') {p : Pln} (a : IsPlan ns p) : IsPlan ns' (mapP τ p) := by
  refine ⟨by unfold mapP; rw [List.length_map, a.1, t.len], fun k n' o h1 h2 => ?_⟩
  unfold mapP at h2
  rw [List.getElem?_map] at h2
  obtain ⟨o0, h3, rfl⟩ := Option.map_eq_some_iff.mp h2
  have lk := (List.getElem?_eq_some_iff.mp h1).1
  have e0 := List.getElem?_eq_getElem (show k < ns.length by rw [← t.len]; exact lk)
  have pm := t.at_ k _ n' e0 h1
  rcases a.2 k _ o0 e0 h3 with ⟨x, rfl, hx⟩ | ⟨e, rfl⟩
  · exact .inl ⟨τ x, rfl, pm.mem_iff.mpr (List.mem_map.mpr ⟨x, hx, rfl⟩)⟩
  · rw [e] at pm
    exact .inr ⟨List.Perm.eq_nil pm, rfl⟩
theorem wsum_turn {l : List RwI} {y : Str} (hτ : ∀ x ∈ ws, τ x ∈ ws ∧ τ (τ x) = x) (hy : y ∈ ws) : (∀ r ∈ l, r.1 ∈ ws) → wsum (l.map fun r => (τ r.1, r.2)) (τ y) = wsum l y := by
  induction l with
  | nil => exact fun _ => rfl
  | cons r l ih =>
    intro h
    rw [List.map_cons, wsum_cons, wsum_cons, ih fun q hq => h q (.tail _ hq)]
    have hr := h r (.head _)
    by_cases e : r.1 = y
    · rw [if_pos e, if_pos (by rw [e])]
    · rw [if_neg e, if_neg fun z => e (by
        have z : τ r.1 = τ y := z
        rw [← (hτ _ hr).2, z, (hτ _ hy).2])]
theorem planR_map : ∀ p : Pln, planR (mapP τ p) = (planR p).map fun r => (τ r.1, r.2)
  | [] => rfl
  | none :: p => planR_map p
  | some x :: p => by
    show (τ x, 1) :: planR (mapP τ p) = _
    rw [planR_map p]
    rfl
theorem Turned.tot (t : Turned τ ns ls ns' ls') (hτ : ∀ x ∈ ws, τ x ∈ ws ∧ τ (τ x) = x) (i : InW ws ns ls) {p : Pln} (a : IsPlan ns p) {y : Str} (hy : y ∈ ws) : totC ls' (mapP τ p) (τ y) = totC ls p y := by
  unfold totC
  rw [planR_map, wsum_perm t.ld, wsum_turn hτ hy i.l, wsum_turn hτ hy fun r hr => ?_]
  have h1 := planR_mem (p := p) (List.mem_map.mpr ⟨r, hr, rfl⟩)
  obtain ⟨n, hn, hx⟩ := List.mem_flatten.mp (plan_hands a h1)
  exact i.n n hn _ hx
theorem Turned.hands (t : Turned τ ns ls ns' ls') {x : Str} (h : x ∈ allH ns ∨ x ∈ ls.map (·.1)) : τ x ∈ allH ns' ∨ τ x ∈ ls'.map (·.1) := by
  rcases h with h | h
  · obtain ⟨n, hn, hx⟩ := List.mem_flatten.mp h
    obtain ⟨k, hk⟩ := List.mem_iff_getElem?.mp hn
    have lk := (List.getElem?_eq_some_iff.mp hk).1
    have e0 := List.getElem?_eq_getElem (show k < ns'.length by rw [t.len]; exact lk)
    exact .inl (List.mem_flatten.mpr ⟨_, List.mem_of_getElem? e0, (t.at_ k _ _ hk e0).mem_iff.mpr (List.mem_map.mpr ⟨x, hx, rfl⟩)⟩)
  · obtain ⟨r, hr, rfl⟩ := List.mem_map.mp h
    exact .inr (List.mem_map.mpr ⟨(τ r.1, r.2), t.ld.mem_iff.mpr (List.mem_map.mpr ⟨r, hr, rfl⟩), rfl⟩)
theorem InW.hands (i : InW ws ns ls) {x : Str} (h : x ∈ allH ns ∨ x ∈ ls.map (·.1)) : x ∈ ws := by
  rcases h with h | h
  · obtain ⟨n, hn, hx⟩ := List.mem_flatten.mp h
    exact i.n n hn x hx
  · obtain ⟨r, hr, rfl⟩ := List.mem_map.mp h
    exact i.l r hr
theorem Turned.fall (t : Turned τ ns ls ns' ls') (hτ : ∀ x ∈ ws, τ x ∈ ws ∧ τ (τ x) = x) (i : InW ws ns ls) {p : Pln} (a : IsPlan ns p) : fallF ns' ls' (mapP τ p) = fallF ns ls p := by
  have i' := t.inW hτ i
  have t' := t.symm hτ i
  have inw : ∀ {y}, y ∈ handsL ns' ls' → y ∈ ws := fun hy => i'.hands (handsL_mem.mp hy)
  refine fall_eq τ (fun x hx y hy e => ?_) (fun x => ?_) fun y hy => ?_
  · rw [← (hτ x (inw hx)).2, e, (hτ y (inw hy)).2]
  · constructor
    · rintro ⟨y, hy, rfl⟩
      exact t'.hands (handsL_mem.mp hy)
    · intro h
      exact ⟨τ x, handsL_mem.mpr (t.hands h), (hτ x (i.hands h)).2⟩
  · have e := t.tot hτ i a (y := τ y) (hτ y (inw hy)).1
    rw [(hτ y (inw hy)).2] at e
    exact e.symm
theorem same_turn (t : Turned τ ns ls ns' ls') (hτ : ∀ x ∈ ws, τ x ∈ ws ∧ τ (τ x) = x) (i : InW ws ns ls) {p q : Pln} (a : IsPlan ns p) (b : IsPlan ns' q) (e : EvenP ns ls p) (e' : EvenP ns' ls' q) : fallF ns' ls' q = fallF ns ls p :=
  fall_same (mapP τ) (mapP τ) (fun p a => ⟨t.plan a, t.fall hτ i a⟩) (fun q b => ⟨(t.symm hτ i).plan b, (t.symm hτ i).fall hτ (t.inW hτ i) b⟩) a b e e'
end
/-! ### the promises -/
structure Rnd (ws : List Str) (ns : Ns) (ls : List RwI) : Prop where
  nd : ws.Nodup
  wok : ∀ w ∈ ws, WordOk w
  w20 : ws.length ≤ 20
  few : ns.length ≤ 12
  thin : ∀ n ∈ ns, n.length ≤ 20
  lnd : (ls.map (·.1)).Nodup
  lfew : ls.length ≤ 20
  inW : InW ws ns ls
theorem tot_thin : ∀ {ns : Ns}, (∀ n ∈ ns, n.length ≤ 20) → (allH ns).length ≤ 20 * ns.length
  | [], _ => Nat.le_refl _
  | n :: ns, h => by
    have a1 := h n (.head _)
    have a2 := tot_thin (ns := ns) fun m hm => h m (.tail _ hm)
    unfold allH at *
    rw [List.flatten_cons, List.length_append, List.length_cons]
    omega
section
variable {ws : List Str} {ns : Ns} {ls : List RwI}
theorem Rnd.nok (r : Rnd ws ns ls) : NsOk ns := ⟨by have := r.few; omega, by have := tot_thin r.thin; have := r.few; omega, fun n hn x hx => r.wok x (r.inW.n n hn x hx)⟩
theorem Rnd.lok (r : Rnd ws ns ls) : LdOk ls := ⟨r.lnd, by have := r.lfew; omega⟩
theorem Rnd.rev (r : Rnd ws ns ls) : Rnd ws ns.reverse ls := ⟨r.nd, r.wok, r.w20, by rw [List.length_reverse]; exact r.few, fun n hn => r.thin n (List.mem_reverse.mp hn), r.lnd, r.lfew, fun n hn => r.inW.n n (List.mem_reverse.mp hn), r.inW.l⟩
theorem Rnd.turn (r : Rnd ws ns ls) {ns' : Ns} {ls' : List RwI} (t : Turned (turnW ws) ns ls ns' ls') : Rnd ws ns' ls' := by
  have hτ : ∀ x ∈ ws, turnW ws x ∈ ws ∧ turnW ws (turnW ws x) = x := fun x hx => turn_ok r.nd hx
  refine ⟨r.nd, r.wok, r.w20, by rw [t.len]; exact r.few, fun n' hn => ?_, ?_, ?_, t.inW hτ r.inW⟩
  · obtain ⟨k, hk⟩ := List.mem_iff_getElem?.mp hn
    have lk := (List.getElem?_eq_some_iff.mp hk).1
    have e0 := List.getElem?_eq_getElem (show k < ns.length by rw [← t.len]; exact lk)
    rw [(t.at_ k _ _ e0 hk).length_eq, List.length_map]
    exact r.thin _ (List.mem_of_getElem? e0)
  · have pm := t.ld.map fun r : RwI => r.1
    refine pm.nodup_iff.mpr ?_
    rw [List.map_map]
    have nd := r.lnd
    have il := r.inW.l
    clear pm t
    have e : ls.map ((fun r : RwI => r.1) ∘ fun r => (turnW ws r.1, r.2)) = (ls.map (·.1)).map (turnW ws) := by rw [List.map_map]; rfl
    rw [e]
    refine List.pairwise_map.mpr (List.Pairwise.imp_of_mem (fun {a b} ha hb h z => h ?_) nd)
    obtain ⟨x, hx, rfl⟩ := List.mem_map.mp ha
    obtain ⟨y, hy, rfl⟩ := List.mem_map.mp hb
    rw [← (hτ _ (il x hx)).2, z, (hτ _ (il y hy)).2]
  · rw [t.ld.length_eq, List.length_map]; exact r.lfew
theorem names_len : ∀ {ls : List RwI}, (∀ e ∈ ls, 0 ≤ e.2) → ((namesOf ls).length : Int) = (ls.map (·.2)).sum
  | [], _ => rfl
  | r :: ls, h => by
    have r0 := h r (.head _)
    have ih := names_len (ls := ls) fun e he => h e (.tail _ he)
    unfold namesOf at *
    rw [List.flatMap_cons, List.length_append, List.length_replicate, List.map_cons, List.sum_cons]
    omega
theorem Rnd.ext (r : Rnd ws ns ls) (h : ∀ e ∈ ls, 0 < e.2) (few : (ls.map (·.2)).sum + ns.length ≤ 12) : Rnd ws (ns ++ extN ls) [] := by
  have nl := names_len (ls := ls) fun e he => Int.le_of_lt (h e he)
  refine ⟨r.nd, r.wok, r.w20, ?_, fun n hn => ?_, List.nodup_nil, Nat.zero_le _, fun n hn x hx => ?_, fun e he => nomatch he⟩
  · unfold extN
    rw [List.length_append, List.length_map]
    omega
  · rcases List.mem_append.mp hn with hn | hn
    · exact r.thin n hn
    · obtain ⟨z, _, rfl⟩ := List.mem_map.mp hn
      exact Nat.le_of_ble_eq_true rfl
  · rcases List.mem_append.mp hn with hn | hn
    · exact r.inW.n n hn x hx
    · obtain ⟨z, hz, rfl⟩ := List.mem_map.mp hn
      rw [List.mem_singleton.mp hx]
      obtain ⟨e, he, e2⟩ := List.mem_map.mp ((names_mem h).mp hz)
      rw [← e2]
      exact r.inW.l e he
theorem Rnd.case (r : Rnd ws ns ls) {p : Pln} (a : IsPlan ns p) : Case ns ls p := ⟨r.nok, r.lok, r.few, a⟩
end
def S_law_falling : SpD := fun as Q _ => ∃ (ns : Ns) (ls : List RwI) (p : Pln), as = [.v (nsD ns), .p (.tuple (ls.map rowD)), .v (plnD p)] ∧ Case ns ls p ∧ Q (.v (ilD (fallF ns ls p))) as
def S_law_turned : SpD := fun as Q _ => ∃ (ws : List Str) (ns : Ns) (ls : List RwI), as = [.v (.list (ws.map PyData.str)), .v (nsD ns), .v (.tuple (ls.map rowD))] ∧ Rnd ws ns ls ∧
  ∀ (ns' : Ns) (ls' : List RwI), Turned (turnW ws) ns ls ns' ls' → Q (.own 0 (.prp (nsD ns') (.tuple (ls'.map rowD)))) as
def S_law_round : SpD := fun as Q _ => ∃ (ws : List Str) (ns : Ns) (ls : List RwI), as = [.v (.list (ws.map PyData.str)), .v (nsD ns), .p (.tuple (ls.map rowD))] ∧ Rnd ws ns ls ∧ (∀ e ∈ ls, 0 ≤ e.2 ∧ e.2 ≤ 1000) ∧
  ∀ r : Pln, IsPlan ns r → EvenP ns ls r → Q (.v (plnD r)) as
def S_law : SpD := fun as Q _ => ∃ ns : List Int, as = [.v (.list (ns.map PyData.int))] ∧ ns.length ≤ 63 ∧ ∀ rs, Q (.v (.bool true)) rs
theorem law_in : ∀ ns : List Int, ns.length ≤ 63 → S_law [.v (.list (ns.map PyData.int))] (fun c _ => c = .v (.bool true)) (fun _ _ => False) := fun ns h => ⟨ns, rfl, h, fun _ => rfl⟩
theorem len_law_falling : ∀ as QD ED, S_law_falling as QD ED → as.length = 3 := by
  rintro as QD ED ⟨_, _, _, rfl, _⟩
  rfl
theorem len_law_turned : ∀ as QD ED, S_law_turned as QD ED → as.length = 3 := by
  rintro as QD ED ⟨_, _, _, rfl, _⟩
  rfl
theorem len_law_round : ∀ as QD ED, S_law_round as QD ED → as.length = 3 := by
  rintro as QD ED ⟨_, _, _, rfl, _⟩
  rfl
theorem len_law : ∀ as QD ED, S_law as QD ED → as.length = 1 := by
  rintro as QD ED ⟨_, rfl, _⟩
  rfl
/-! ### all hands let: no count is two above another -/
def Bal (ws : List Str) (ls : List RwI) : Prop := ∀ x ∈ ws, ∀ y ∈ ws, wsum ls x ≤ wsum ls y + 1
theorem planR_nn {p : Pln} {x : Str} : 0 ≤ wsum (planR p) x := wsum_nn fun r hr => by
  obtain ⟨o, _, e⟩ := List.mem_filterMap.mp hr
  cases o with
  | none => cases e
  | some z => cases e; exact Int.zero_le_ofNat 1
theorem bal_next {ws : List Str} {ns : Ns} {ls rows : List RwI} {p : Pln} (all : ∀ n ∈ ns, ∀ x ∈ ws, x ∈ n) (a : IsPlan ns p) (e : EvenP ns ls p) (b : Bal ws ls) (r : IsRows (ls ++ planR p) rows) : Bal ws rows := fun x hx y hy => by
  rw [rows_wsum r, rows_wsum r, wsum_app, wsum_app]
  by_cases m : some x ∈ p
  · obtain ⟨k, hk⟩ := List.mem_iff_getElem?.mp m
    have lk := (List.getElem?_eq_some_iff.mp hk).1
    have e0 := List.getElem?_eq_getElem (show k < ns.length by rw [← a.1]; exact lk)
    have := e x m y (.on .me hk e0 (all _ (List.mem_of_getElem? e0) y hy))
    unfold totC at this
    omega
  · have h0 : wsum (planR p) x = 0 := wsum_none fun h => m (planR_mem h)
    have := b x hx y hy
    have := planR_nn (p := p) (x := y)
    omega
structure Lds (ws : List Str) (b : Int) (ls : List RwI) : Prop where
  nd : (ls.map (·.1)).Nodup
  few : ls.length ≤ 20
  inw : ∀ e ∈ ls, e.1 ∈ ws
  val : ∀ e ∈ ls, 0 ≤ e.2 ∧ e.2 ≤ b
theorem planR_le {p : Pln} {x : Str} : wsum (planR p) x ≤ p.length := by
  induction p with
  | nil => exact Int.le_refl _
  | cons o p ih =>
    have e : ((o :: p).length : Int) = p.length + 1 := by rw [List.length_cons]; rfl
    rw [e]
    cases o with
    | none => show wsum (planR p) x ≤ _; omega
    | some z =>
      show wsum ((z, 1) :: planR p) x ≤ _
      rw [wsum_cons]
      split <;> omega
theorem wsum_le {b : Int} : ∀ {l : List RwI}, (l.map (·.1)).Nodup → (∀ e ∈ l, 0 ≤ e.2 ∧ e.2 ≤ b) → 0 ≤ b → ∀ x, wsum l x ≤ b
  | [], _, _, b0, x => b0
  | r :: l, nd, h, b0, x => by
    obtain ⟨n1, n2⟩ := List.nodup_cons.mp nd
    have ih := wsum_le n2 (fun e he => h e (.tail _ he)) b0 x
    have r0 := h r (.head _)
    rw [wsum_cons]
    by_cases e : r.1 = x
    · rw [if_pos e, wsum_none (by rw [← e]; exact n1)]; omega
    · rw [if_neg e]; omega
theorem Lds.next {ws : List Str} {b : Int} {ns : Ns} {ls rows : List RwI} {p : Pln} (l : Lds ws b ls) (w20 : ws.length ≤ 20) (b0 : 0 ≤ b) (a : IsPlan ns p) (few : ns.length ≤ 12) (i : ∀ n ∈ ns, ∀ x ∈ n, x ∈ ws) (r : IsRows (ls ++ planR p) rows) : Lds ws (b + 12) rows := by
  have inw : ∀ e ∈ rows, e.1 ∈ ws := fun e he => by
    have h := (r.mem e.1 e.2).mp he
    rw [List.map_append] at h
    rcases List.mem_append.mp h.1 with q | q
    · obtain ⟨z, hz, e2⟩ := List.mem_map.mp q
      rw [← e2]; exact l.inw z hz
    · obtain ⟨n, hn, hx⟩ := List.mem_flatten.mp (plan_hands a (planR_mem q))
      exact i n hn _ hx
  have nd := rows_nodup r
  refine ⟨nd, ?_, inw, fun e he => ?_⟩
  · have := nodup_le (a := rows.map (·.1)) (b := ws) nd fun x hx => by
      obtain ⟨e, he, rfl⟩ := List.mem_map.mp hx
      exact inw e he
    rw [List.length_map] at this
    omega
  · have h := ((r.mem e.1 e.2).mp he).2
    rw [wsum_app] at h
    have h1 := wsum_le l.nd l.val b0 e.1
    have h2 : 0 ≤ wsum ls e.1 := wsum_nn fun q hq => (l.val q hq).1
    have h3 := planR_nn (p := p) (x := e.1)
    have h4 := planR_le (p := p) (x := e.1)
    have := a.1
    omega
def TurnN (τ : Str → Str) (ns ns' : Ns) : Prop := ns'.length = ns.length ∧ ∀ (k : Nat) (n n' : List Str), ns[k]? = some n → ns'[k]? = some n' → n'.Perm (n.map τ)
theorem turnN_nil {τ : Str → Str} : TurnN τ [] [] := ⟨rfl, fun k n n' h => by simp at h⟩
theorem turnN_snoc {τ : Str → Str} {ns ns' : Ns} {n n' : List Str} (h : TurnN τ ns ns') (p : n'.Perm (n.map τ)) : TurnN τ (ns ++ [n]) (ns' ++ [n']) := by
  refine ⟨by rw [List.length_append, List.length_append, h.1]; rfl, fun k m m' h1 h2 => ?_⟩
  rcases Nat.lt_or_ge k ns.length with z | z
  · rw [List.getElem?_append_left z] at h1
    rw [List.getElem?_append_left (by rw [h.1]; exact z)] at h2
    exact h.2 k m m' h1 h2
  · rw [List.getElem?_append_right z] at h1
    rw [List.getElem?_append_right (by rw [h.1]; exact z), h.1] at h2
    cases e : k - ns.length with
    | zero =>
      rw [e] at h1 h2
      have h1 : some n = some m := h1
      have h2 : some n' = some m' := h2
      cases h1; cases h2
      exact p
    | succ j =>
      rw [e] at h1
      cases h1
theorem names_le : ∀ {ls : List RwI}, (∀ e ∈ ls, 0 ≤ e.2 ∧ e.2 ≤ 1000) → (namesOf ls).length ≤ 1000 * ls.length
  | [], _ => Nat.le_refl _
  | r :: ls, h => by
    have r0 := h r (.head _)
    have ih := names_le (ls := ls) fun e he => h e (.tail _ he)
    unfold namesOf at *
    rw [List.flatMap_cons, List.length_append, List.length_replicate, List.length_cons]
    omega
theorem ext_snoc {ls : List RwI} {x : Str} {c : Int} : (extN (ls ++ [(x, c)])).map nightD = (extN ls).map nightD ++ (List.replicate c.toNat [nightD [x]]).flatten := by
  have e : ∀ n : Nat, (List.replicate n [nightD [x]]).flatten = (List.replicate n x).map fun z => nightD [z] := fun n => by
    induction n with
    | zero => rfl
    | succ n ih => rw [List.replicate_succ, List.flatten_cons, ih, List.replicate_succ, List.map_cons]; rfl
  rw [e]
  unfold extN namesOf
  rw [List.flatMap_append, List.map_append, List.map_append, List.flatMap_cons, List.flatMap_nil, List.append_nil, List.map_map (l := List.replicate _ _)]
  rfl
end K72

set_option Elab.async false
set_option linter.all false
/-! CFWe: words of the laws, as k67 to k72 draw them -/
namespace CFWe
open PySem PySem.Spec PyProof.Rows L2 DL
abbrev S_law_words : SpD := CFWd.S_law_words
theorem len_law_words : ∀ as QD ED, S_law_words as QD ED → as.length = 2 := CFWd.len_law_words
end CFWe

set_option Elab.async false
set_option linter.all false
set_option maxRecDepth 100000
set_option maxHeartbeats 4000000

/-! generated: the readings of the defs of k72 -/
namespace K72
open PySem PySem.Spec PyProof.Rows L2 DL CFCb CFSr CFH CFWe CFSl
def L_law_falling : Nat → Bool := fun j => ([] : List Nat).contains j
def w_law_falling : WS := wRet (wFrzA (wSortV true (wCallG CFSl.S_law_counts (wCons (wVar 0) (wCons (wVarP 1) (wCons (wVar 2) wNil))))))
def n_law_falling : Nat := 3
def L_law_turned : Nat → Bool := fun j => [3].contains j
def w_law_turned : WS := wSeq (wSet 3 (wL oDictZ (wCons (wVar 0) (wCons (wRevS (wVar 0)) wNil))))
    (wSeq (wSetF 4 (wL oTuple (wCons (wLcB [6] (wISeq (wVar 1)) (wgName 6) wYes (wL oTuple (wCons (wL oSortS (wCons (wLcB [7] (wISeq (wVar 6)) (wgName 7) wYes (wDIx 3 (wVar 7))) wNil)) wNil))) wNil)))
    (wRet (wPrp (wVar 4) (wL oTupP (wCons (wL oSortK (wCons (wLcB [7, 8] (wISeq (wVar 2)) (wgTup 2 (wgCons (wgName 7) (wgCons (wgName 8) wgNil))) wYes (wL oTup (wCons (wDIx 3 (wVar 7)) (wCons (wVar 8) wNil)))) wNil)) wNil)))))
def n_law_turned : Nat := 9
def L_law_round : Nat → Bool := fun j => ([] : List Nat).contains j
def w_law_round : WS := wSeq (wSetF 3 (wCallG CFSr.S_share (wCons (wVar 1) (wCons (wVarP 2) wNil))))
    (wSeq (wIf (wOr (wNot (wTst (wCall CFSl.S_law_plan (wCons (wVar 1) (wCons (wVar 3) wNil))))) (wNot (wTst (wCallG CFSl.S_law_even (wCons (wVar 1) (wCons (wVarP 2) (wCons (wVar 3) wNil)))))))
    (wRet (wC .none))
    wNext)
    (wSeq (wSetF 4 (wCallG S_law_falling (wCons (wVar 1) (wCons (wVarP 2) (wCons (wVar 3) wNil)))))
    (wSeq (wIf (wTst (wB oNe (wCallG S_law_falling (wCons (wRevS (wVar 1)) (wCons (wVarP 2) (wCons (wCallG CFSr.S_share (wCons (wRevS (wVar 1)) (wCons (wVarP 2) wNil))) wNil)))) (wVar 4)))
    (wRet (wC .none))
    wNext)
    (wSeq (wUnpP 5 6 (wCall S_law_turned (wCons (wVar 0) (wCons (wVar 1) (wCons (wVar 2) wNil)))))
    (wSeq (wIf (wTst (wB oNe (wCallG S_law_falling (wCons (wVar 5) (wCons (wVarP 6) (wCons (wCallG CFSr.S_share (wCons (wVar 5) (wCons (wVarP 6) wNil))) wNil)))) (wVar 4)))
    (wRet (wC .none))
    wNext)
    (wSeq (wSetF 9 (wLcB [7, 8] (wISeq (wVar 2)) (wgTup 2 (wgCons (wgName 7) (wgCons (wgName 8) wgNil))) wYes (wVar 8)))
    (wSeq (wIf (wAnd (wTst (wB oLe (wB oAdd (wL oSum (wCons (wVar 9) wNil)) (wL oLen (wCons (wVar 1) wNil))) (wC (.int 12)))) (wTst (wB oNotIn (wC (.int 0)) (wVar 9))))
    (wSeq (wSetF 10 (wVar 1))
    (wSeq (wFor (wISeq (wVar 2)) (wgTup 2 (wgCons (wgName 7) (wgCons (wgName 8) wgNil)))
    (wSetF 10 (wB oPlus (wVar 10) (wB oRepA (wL oTup (wCons (wL oTup (wCons (wVar 7) wNil)) wNil)) (wVar 8)))))
    (wIf (wTst (wB oNe (wCallG S_law_falling (wCons (wVar 10) (wCons (wL oTupPl wNil) (wCons (wCallG CFSr.S_share (wCons (wVar 10) (wCons (wL oTupPl wNil) wNil))) wNil)))) (wVar 4)))
    (wRet (wC .none))
    wNext)))
    wNext)
    (wRet (wVar 3)))))))))
def n_law_round : Nat := 12
def L_law : Nat → Bool := fun j => [2, 9].contains j
def w_law : WS := wSeq (wFor (wIR1 (wCons (wB oAdd (wC (.int 1)) (wL oMin2 (wCons (wL oLen (wCons (wVar 0) wNil)) (wCons (wC (.int 3)) wNil)))) wNil)) (wgName 1)
    (wSeq (wSet 2 (wCall CFH.S_law_hand (wCons (wVar 0) (wCons (wVar 1) wNil))))
    (wSeq (wPar 3 4 (wCons (wCall CFH.S_law_take (wCons (wPk 2) (wCons (wC (.int 3)) wNil))) (wCons (wCall CFWe.S_law_words (wCons (wPk 2) (wCons (wB oAdd (wC (.int 2)) (wCall CFH.S_law_take (wCons (wPk 2) (wCons (wC (.int 8)) wNil)))) wNil))) wNil)))
    (wSeq (wSet 5 (wL oTupPl wNil))
    (wSeq (wIf (wTst (wB oGt (wVar 3) (wC (.int 0))))
    (wSet 5 (wL oTupP (wCons (wLcB [11, 12] (wISeq (wCall CFSl.S_law_loads (wCons (wPk 2) (wCons (wVar 4) wNil)))) (wgTup 2 (wgCons (wgName 11) (wgCons (wgName 12) wgNil))) wYes (wL oTup (wCons (wVar 11) (wCons (wB oMod (wVar 12) (wC (.int 7))) wNil)))) wNil)))
    wNext)
    (wFor (wIR1 (wCons (wC (.int 3)) wNil)) (wgName 6)
    (wSeq (wSetF 7 (wCall CFSl.S_law_nights (wCons (wPk 2) (wCons (wVar 4) (wCons (wC (.int 6)) wNil)))))
    (wSeq (wIf (wTst (wB oEq (wVar 3) (wC (.int 0))))
    (wSetF 7 (wB oRepA (wL oTup (wCons (wL oTuple (wCons (wL oSortS (wCons (wVar 4) wNil)) wNil)) wNil)) (wL oLen (wCons (wVar 7) wNil))))
    wNext)
    (wSeq (wSetF 8 (wCallG S_law_round (wCons (wVar 4) (wCons (wVar 7) (wCons (wVarP 5) wNil)))))
    (wSeq (wIf (wTst (wU oIsN (wVar 8)))
    (wRet (wC (.bool false)))
    wNext)
    (wSeq (wSet 5 (wCallG CFCb.S_loads_behind (wCons (wVarP 5) (wCons (wVar 8) wNil))))
    (wSeq (wSet 9 (wCallG CFSl.S_law_counts (wCons (wL oTup (wCons (wL oTuple (wCons (wVar 4) wNil)) wNil)) (wCons (wVarP 5) (wCons (wL oTup wNil) wNil)))))
    (wIf (wAnd (wTst (wB oEq (wVar 3) (wC (.int 0)))) (wTst (wB oGt (wMinV true (wLn 9)) (wB oAdd (wMinV false (wLn 9)) (wC (.int 1))))))
    (wRet (wC (.bool false)))
    wNext)))))))))))))
    (wRet (wC (.bool true)))
def n_law : Nat := 13
end K72

set_option Elab.async false
set_option linter.all false
set_option maxRecDepth 100000
set_option maxHeartbeats 4000000

/-! generated: readings shared by laws -/
namespace CFCb
open PySem PySem.Spec PyProof.Rows L2 DL CFCb
def L_counts_behind : Nat → Bool := fun j => [2].contains j
def w_counts_behind : WS := wSeq (wSet 2 (wDictP (wVarP 0)))
    (wSeq (wFor (wISeq (wVar 1)) (wgName 3)
    (wIf (wTst (wU oNotN (wVar 3)))
    (wDPut 2 (wB oAdd (wDGet 2 (wVar 3) (wC (.int 0))) (wC (.int 1))) (wVar 3))
    wNext))
    (wRetO 2))
def n_counts_behind : Nat := 4
def L_loads_behind : Nat → Bool := fun j => ([] : List Nat).contains j
def w_loads_behind : WS := wRet (wL oTupP (wCons (wDItemsE (wCallG S_counts_behind (wCons (wVarP 0) (wCons (wVar 1) wNil)))) wNil))
def n_loads_behind : Nat := 2
end CFCb

set_option Elab.async false
set_option linter.all false
set_option maxRecDepth 100000
set_option maxHeartbeats 4000000

/-! generated: readings shared by laws -/
namespace CFSr
open PySem PySem.Spec PyProof.Rows L2 DL CFCb CFSr
def L_reached : Nat → Bool := fun j => [3, 4].contains j
def w_reached : WS := wSeq (wSet 3 (wDisp1 (wVar 2) (wC .none)))
    (wSeq (wSet 4 (wL oLst (wCons (wVar 2) wNil)))
    (wSeq (wSetF 5 (wC (.int 0)))
    (wSeq (wWhile (wTst (wB oLt (wVar 5) (wL oLen (wCons (wLn 4) wNil))))
    (wSeq (wFor (wIR1 (wCons (wL oLen (wCons (wVar 0) wNil)) wNil)) (wgName 6)
    (wIf (wTst (wB oEq (wB oIx (wVar 1) (wVar 6)) (wB oIx (wLn 4) (wVar 5))))
    (wFor (wISeq (wB oIx (wVar 0) (wVar 6))) (wgName 7)
    (wIf (wTst (wDNi 3 (wVar 7)))
    (wSeq (wDPut 3 (wL oTup (wCons (wB oIx (wLn 4) (wVar 5)) (wCons (wVar 6) wNil))) (wVar 7))
    (wDrop (wApp 4 (wVar 7))))
    wNext))
    wNext))
    (wAug 5 oAdd (wC (.int 1)))))
    (wRetO 3))))
def n_reached : Nat := 8
def L_handed_on : Nat → Bool := fun j => [1, 3].contains j
def w_handed_on : WS := wSeq (wSet 3 (wL oList (wCons (wVar 0) wNil)))
    (wSeq (wWhile (wTst (wU oNotN (wDIxL 1 (wVar 2))))
    (wSeq (wAsg (wDIxL 1 (wVar 2)) (wgTup 2 (wgCons (wgName 4) (wgCons (wgName 5) wgNil))))
    (wSeq (wSetIx 3 (wVar 2) (wVar 5))
    (wSetF 2 (wVar 4)))))
    (wRet (wL oTuple (wCons (wLn 3) wNil))))
def n_handed_on : Nat := 6
def L_better : Nat → Bool := fun j => [3, 5].contains j
def w_better : WS := wSeq (wSet 3 (wCallG CFCb.S_counts_behind (wCons (wVarP 1) (wCons (wVar 2) wNil))))
    (wSeq (wFor (wIL (wU oSortSetT (wLcB [4] (wISeq (wVar 2)) (wgName 4) (wTst (wU oNotN (wVar 4))) (wVar 4)))) (wgName 4)
    (wSeq (wSet 5 (wCall S_reached (wCons (wVar 0) (wCons (wVar 2) (wCons (wVar 4) wNil)))))
    (wForD 5 (wgName 6)
    (wIf (wTst (wB oLe (wB oAdd (wDGet 3 (wVar 6) (wC (.int 0))) (wC (.int 2))) (wDIx 3 (wVar 4))))
    (wRet (wCallG S_handed_on (wCons (wVar 2) (wCons (wPk 5) (wCons (wVar 6) wNil)))))
    wNext))))
    (wRet (wC .none)))
def n_better : Nat := 8
def L_share : Nat → Bool := fun j => ([] : List Nat).contains j
def w_share : WS := wSeq (wSetF 2 (wL oTuple (wCons (wLcB [5] (wISeq (wVar 0)) (wgName 5) wYes (wB oIx (wB oPlus (wVar 5) (wL oTup (wCons (wC .none) wNil))) (wC (.int 0)))) wNil)))
    (wSeq (wSetF 3 (wVar 2))
    (wSeq (wWhile (wTst (wU oNotN (wVar 2)))
    (wSeq (wSetF 3 (wVar 2))
    (wSetF 2 (wCallG S_better (wCons (wVar 0) (wCons (wVarP 1) (wCons (wVar 3) wNil)))))))
    (wRet (wVar 3))))
def n_share : Nat := 6
end CFSr

set_option Elab.async false
set_option linter.all false
set_option maxRecDepth 100000
set_option maxHeartbeats 4000000

/-! generated: readings shared by laws -/
namespace CFWe
open PySem PySem.Spec PyProof.Rows L2 DL CFH CFWd
def L_law_words : Nat → Bool := fun j => [0, 8].contains j
def w_law_words : WS := wSeq (wSetF 2 (wC (.str "abcdefghijklmnopqrstuvwxyz0123456789")))
    (wSeq (wPar 3 4 (wCons (wCall CFH.S_law_take (wCons (wPk 0) (wCons (wC (.int 36)) wNil))) (wCons (wCall CFH.S_law_pick (wCons (wPk 0) (wCons (wL oLst (wCons (wC (.int 1)) (wCons (wC (.int 5)) (wCons (wC (.int 7)) (wCons (wC (.int 11)) (wCons (wC (.int 13)) (wCons (wC (.int 17)) wNil))))))) wNil))) wNil)))
    (wSeq (wSetF 5 (wB oMulS (wB oIx (wVar 2) (wCall CFH.S_law_take (wCons (wPk 0) (wCons (wC (.int 36)) wNil)))) (wCall CFH.S_law_pick (wCons (wPk 0) (wCons (wL oLst (wCons (wC (.int 0)) (wCons (wC (.int 1)) (wCons (wC (.int 0)) (wCons (wC (.int 2)) (wCons (wC (.int 7)) wNil)))))) wNil)))))
    (wSeq (wPar 6 7 (wCons (wCall CFH.S_law_take (wCons (wPk 0) (wCons (wB oAdd (wL oLen (wCons (wVar 5) wNil)) (wC (.int 1))) wNil))) (wCons (wCall CFH.S_law_take (wCons (wPk 0) (wCons (wC (.int 2)) wNil))) wNil)))
    (wSeq (wSet 8 (wL oLst wNil))
    (wSeq (wFor (wIR1 (wCons (wVar 1) wNil)) (wgName 9)
    (wSeq (wSetF 10 (wB oMulS (wSl (wVar 5) (wPart (wVar 6)) wNoPart) (wB oSub (wC (.int 1)) (wB oMul (wVar 7) (wB oMod (wVar 9) (wC (.int 2)))))))
    (wDrop (wApp 8 (wB oPlus (wB oPlus (wSl (wVar 5) wNoPart (wPart (wVar 6))) (wB oIx (wVar 2) (wB oMod (wB oAdd (wVar 3) (wB oMul (wVar 4) (wVar 9))) (wC (.int 36))))) (wVar 10))))))
    (wRetO 8))))))
def n_law_words : Nat := 11
end CFWe

set_option Elab.async false
set_option linter.all false
set_option maxRecDepth 100000
set_option maxHeartbeats 4000000

/-! generated: readings shared by laws -/
namespace CFSl
open PySem PySem.Spec PyProof.Rows L2 DL CFCb CFSr CFSl
def L_law_nights : Nat → Bool := fun j => [0, 3].contains j
def w_law_nights : WS := wSeq (wSet 3 (wL oLst wNil))
    (wSeq (wSetF 4 (wCall CFH.S_law_take (wCons (wPk 0) (wCons (wC (.int 4)) wNil))))
    (wSeq (wFor (wIR1 (wCons (wCall CFH.S_law_take (wCons (wPk 0) (wCons (wB oAdd (wVar 2) (wC (.int 1))) wNil))) wNil)) (wgName 5)
    (wSeq (wSetF 6 (wB oIx (wL oLst (wCons (wCall CFH.S_law_take (wCons (wPk 0) (wCons (wC (.int 6)) wNil))) (wCons (wC (.int 0)) (wCons (wC (.int 1)) (wCons (wC (.int 2)) wNil))))) (wVar 4)))
    (wSeq (wSetF 7 (wCall CFH.S_law_take (wCons (wPk 0) (wCons (wL oLen (wCons (wVar 1) wNil)) wNil))))
    (wSeq (wIf (wTst (wB oEq (wVar 6) (wC (.int 0))))
    (wSetF 8 (wLcB [10] (wISeq (wVar 1)) (wgName 10) (wTst (wB oEq (wCall CFH.S_law_take (wCons (wPk 0) (wCons (wC (.int 2)) wNil))) (wC (.int 1)))) (wVar 10)))
    (wIf (wTst (wB oEq (wVar 6) (wC (.int 1))))
    (wSetF 8 (wL oLst (wCons (wB oIx (wVar 1) (wVar 7)) (wCons (wB oIx (wVar 1) (wB oMod (wB oAdd (wVar 7) (wC (.int 1))) (wL oLen (wCons (wVar 1) wNil)))) wNil))))
    (wIf (wTst (wB oEq (wVar 6) (wC (.int 2))))
    (wSetF 8 (wL oLst (wCons (wB oIx (wVar 1) (wB oMod (wVar 5) (wL oLen (wCons (wVar 1) wNil)))) (wCons (wB oIx (wVar 1) (wB oMod (wB oAdd (wVar 5) (wC (.int 1))) (wL oLen (wCons (wVar 1) wNil)))) wNil))))
    (wSetF 8 (wB oIx (wL oLst (wCons (wL oLst (wCons (wB oIx (wVar 1) (wVar 7)) wNil)) (wCons (wL oList (wCons (wVar 1) wNil)) (wCons (wL oLst wNil) wNil)))) (wB oSub (wVar 6) (wC (.int 3))))))))
    (wDrop (wApp 3 (wL oTuple (wCons (wU oSortSetT (wVar 8)) wNil))))))))
    (wRet (wL oTuple (wCons (wLn 3) wNil)))))
def n_law_nights : Nat := 11
def L_law_loads : Nat → Bool := fun j => [0, 2].contains j
def w_law_loads : WS := wSeq (wSet 2 (wLcB [5] (wIL (wL oSortS (wCons (wVar 1) wNil))) (wgName 5) (wTst (wB oGt (wCall CFH.S_law_take (wCons (wPk 0) (wCons (wC (.int 3)) wNil))) (wC (.int 0)))) (wL oTup (wCons (wVar 5) (wCons (wCall CFH.S_law_pick (wCons (wPk 0) (wCons (wL oLst (wCons (wC (.int 0)) (wCons (wC (.int 1)) (wCons (wC (.int 2)) (wCons (wC (.int 3)) (wCons (wC (.int 5)) (wCons (wC (.int 1)) wNil))))))) wNil))) wNil)))))
    (wSeq (wIf (wAnd (wTst (wB oNe (wLn 2) (wL oLst wNil))) (wTst (wB oEq (wCall CFH.S_law_take (wCons (wPk 0) (wCons (wC (.int 5)) wNil))) (wC (.int 0)))))
    (wSeq (wSetF 3 (wCall CFH.S_law_take (wCons (wPk 0) (wCons (wL oLen (wCons (wLn 2) wNil)) wNil))))
    (wSetIx 2 (wL oTup (wCons (wB oIx (wB oIx (wLn 2) (wVar 3)) (wC (.int 0))) (wCons (wCall CFH.S_law_take (wCons (wPk 0) (wCons (wB oPow (wC (.int 10)) (wC (.int 15))) wNil))) wNil))) (wVar 3)))
    wNext)
    (wRet (wL oTupP (wCons (wLn 2) wNil))))
def n_law_loads : Nat := 6
def L_law_plan : Nat → Bool := fun j => ([] : List Nat).contains j
def w_law_plan : WS := wSeq (wIf (wOr (wNot (wTst (wU (oIsi "tuple") (wVar 1)))) (wTst (wB oNe (wL oLen (wCons (wVar 1) wNil)) (wL oLen (wCons (wVar 0) wNil)))))
    (wRet (wC (.bool false)))
    wNext)
    (wSeq (wFor (wIZip (wCons (wVar 0) (wCons (wVar 1) wNil))) (wgTup 2 (wgCons (wgName 2) (wgCons (wgName 3) wgNil)))
    (wIf (wOr (wAnd (wTst (wB oEq (wVar 2) (wL oTup wNil))) (wTst (wU oNotN (wVar 3)))) (wAnd (wTst (wB oNe (wVar 2) (wL oTup wNil))) (wTst (wB oNotIn (wVar 3) (wVar 2)))))
    (wRet (wC (.bool false)))
    wNext))
    (wRet (wC (.bool true))))
def n_law_plan : Nat := 4
def L_law_counts : Nat → Bool := fun j => [3].contains j
def w_law_counts : WS := wSeq (wSet 3 wDNew)
    (wSeq (wFor (wISeq (wVar 0)) (wgName 4)
    (wFor (wISeq (wVar 4)) (wgName 5)
    (wDPut 3 (wC (.int 0)) (wVar 5))))
    (wSeq (wDrop (wDUpd 3 (wDictP (wVarP 1))))
    (wSeq (wFor (wISeq (wVar 2)) (wgName 5)
    (wIf (wTst (wU oNotN (wVar 5)))
    (wDPut 3 (wB oAdd (wDIx 3 (wVar 5)) (wC (.int 1))) (wVar 5))
    wNext))
    (wRetO 3))))
def n_law_counts : Nat := 6
def L_law_reach : Nat → Bool := fun j => [3].contains j
def w_law_reach : WS := wSeq (wSet 3 (wL oLst (wCons (wVar 2) wNil)))
    (wSeq (wFor (wIR1 (wCons (wB oAdd (wL oLen (wCons (wVar 0) wNil)) (wC (.int 1))) wNil)) (wgName 4)
    (wFor (wIZip (wCons (wVar 0) (wCons (wVar 1) wNil))) (wgTup 2 (wgCons (wgName 5) (wgCons (wgName 6) wgNil)))
    (wIf (wTst (wB oIn (wVar 6) (wLn 3)))
    (wDrop (wExt 3 (wLcB [8] (wISeq (wVar 5)) (wgName 8) (wTst (wB oNotIn (wVar 8) (wLn 3))) (wVar 8))))
    wNext)))
    (wRetO 3))
def n_law_reach : Nat := 9
def L_law_even : Nat → Bool := fun j => [3].contains j
def w_law_even : WS := wSeq (wSet 3 (wCallG S_law_counts (wCons (wVar 0) (wCons (wVarP 1) (wCons (wVar 2) wNil)))))
    (wSeq (wFor (wIL (wU oSortSetT (wLcB [6] (wISeq (wVar 2)) (wgName 6) (wTst (wU oNotN (wVar 6))) (wVar 6)))) (wgName 4)
    (wIf (wTst (wB oLt (wL oMin1 (wCons (wLcB [6] (wISeq (wCall S_law_reach (wCons (wVar 0) (wCons (wVar 2) (wCons (wVar 4) wNil))))) (wgName 6) wYes (wDIx 3 (wVar 6))) wNil)) (wB oSub (wDIx 3 (wVar 4)) (wC (.int 1)))))
    (wRet (wC (.bool false)))
    wNext))
    (wRet (wC (.bool true))))
def n_law_even : Nat := 7
end CFSl

set_option Elab.async false
set_option linter.all false
set_option maxRecDepth 100000
set_option maxHeartbeats 4000000

/-! generated: readings shared by laws -/
namespace CFH
open PySem PySem.Spec PyProof.Rows L2 DL
def L_law_hand : Nat → Bool := fun j => ([] : List Nat).contains j
def w_law_hand : WS := wSeq (wSetF 2 (wC (.int 0)))
    (wSeq (wIf (wTst (wB oLt (wVar 1) (wL oLen (wCons (wVar 0) wNil))))
    (wSetF 2 (wB oIx (wVar 0) (wVar 1)))
    wNext)
    (wRet (wL oLst (wCons (wB oMul (wVar 2) (wL oInt1 (wCons (wB oGe (wVar 2) (wB oPow (wC (.int 10)) (wC (.int 18)))) wNil))) (wCons (wB oAdd (wB oAdd (wB oMod (wVar 2) (wC (.int 2305843009213693951))) (wB oMul (wC (.int 7919)) (wVar 1))) (wC (.int 3))) (wCons (wC (.int 0)) wNil))))))
def n_law_hand : Nat := 3
def L_law_take : Nat → Bool := fun j => [0].contains j
def w_law_take : WS := wSeq (wIf (wTst (wB oGt (wB oIx (wLn 0) (wC (.int 0))) (wC (.int 0))))
    (wSeq (wSetF 2 (wB oMod (wB oIx (wLn 0) (wC (.int 0))) (wVar 1)))
    (wSeq (wSetIx 0 (wB oDiv (wB oIx (wLn 0) (wC (.int 0))) (wVar 1)) (wC (.int 0)))
    (wRet (wVar 2))))
    wNext)
    (wSeq (wSetIx 0 (wB oAdd (wB oIx (wLn 0) (wC (.int 2))) (wC (.int 1))) (wC (.int 2)))
    (wSeq (wSetF 3 (wB oIx (wLn 0) (wC (.int 2))))
    (wSeq (wSetF 4 (wB oAdd (wB oAdd (wC (.int 48271)) (wB oMul (wB oMul (wC (.int 2)) (wVar 3)) (wVar 3))) (wB oMul (wC (.int 65537)) (wVar 3))))
    (wSeq (wSetF 5 (wB oMod (wB oMul (wB oAdd (wB oIx (wLn 0) (wC (.int 1))) (wB oMul (wC (.int 1299709)) (wVar 3))) (wVar 4)) (wC (.int 2305843009213693921))))
    (wSeq (wSetF 6 (wB oAdd (wB oAdd (wB oMod (wVar 5) (wC (.int 1000003))) (wB oMul (wVar 3) (wC (.int 99991)))) (wC (.int 11))))
    (wSeq (wSetF 5 (wB oMod (wB oMul (wVar 5) (wVar 6)) (wC (.int 2305843009213693907))))
    (wRet (wB oMod (wB oAdd (wB oDiv (wVar 5) (wC (.int 97))) (wB oDiv (wVar 5) (wC (.int 1000033)))) (wVar 1)))))))))
def n_law_take : Nat := 7
def L_law_pick : Nat → Bool := fun j => [0].contains j
def w_law_pick : WS := wRet (wB oIx (wVar 1) (wCall S_law_take (wCons (wPk 0) (wCons (wL oLen (wCons (wVar 1) wNil)) wNil))))
def n_law_pick : Nat := 2
end CFH

section
open PySem PySem.Spec PyProof.Rows L2 DL CFH
local macro_rules | `(tactic| tm_at "dw") => `(tactic| with_reducible (conv => whnf))
local macro_rules | `(tactic| tm_at "dside") => `(tactic| first | with_reducible assumption | ((with_reducible show CDivW _ _); exact ⟨by omega, log2_sm (by omega)⟩) | exact rfl | exact True.intro | exact Nat.le_of_ble_eq_true rfl | (intro z; first | exact rfl | exact (Bool.false_ne_true z).elim) | (intro _; (with_reducible refine And.intro ?_ ?_) <;> first | exact rfl | assumption) | (intro _; assumption) | (intro _; with_reducible exact lf_ints) | (intro _; with_reducible exact lf_strs) | ((with_reducible show SeqAt.shaped (PyData.str _) = true); exact (Lay.str (k := 0) (by first | assumption | decide +kernel)).shaped) | omega | (simp only [List.length_map, List.length_reverse, List.length_append, List.length_cons, List.length_nil]; omega) | exact And.intro (by omega) (by with_reducible assumption) | exact And.intro (by omega) (by decide +kernel) | exact And.intro (by omega) (And.intro (by omega) (by omega)) | exact MulOk.left ⟨by omega, by omega⟩ | exact MulOk.right ⟨by omega, by omega⟩ | exact le1000 (by first | omega | (simp only [List.length_map, List.length_reverse, List.length_append, List.length_cons, List.length_nil, rangeD_len, enumF_len]; omega)) | with_reducible exact lf_ints | with_reducible exact lf_strs | assumption | decide)
local macro_rules | `(tactic| tm_at "do") => `(tactic| first | with_reducible exact intsOf_map _ | with_reducible exact boolsOf_map _ | ((with_reducible show lstOf _ _ = _); with_unfolding_all exact rfl) | ((with_reducible show intsOf _ = _); with_unfolding_all exact rfl) | ((with_reducible show itemsD _ = _); with_unfolding_all exact rfl) | ((with_reducible show itemsLT _ = _); with_unfolding_all exact rfl) | ((with_reducible show boolsOf _ = _); with_unfolding_all exact rfl) | ((with_reducible show strsOf _ = _); with_unfolding_all exact rfl) | ((with_reducible show keyD _ = _); with_unfolding_all exact rfl) | with_reducible exact atI_0 | with_reducible exact atI_1 | with_reducible exact atI_2 | with_reducible exact atI_3 | with_reducible exact atI_4 | with_reducible exact setI_0 | with_reducible exact setI_1 | with_reducible exact setI_2 | with_reducible exact setI_3)
local macro_rules | `(tactic| tm_at "dz") => `(tactic| (intro z; (try simp only [decide_eq_true_eq, decide_eq_false_iff_not, eqv_int, Bool.not_eq_true', Bool.not_eq_false', Bool.not_not, Bool.false_eq_true, reduceCtorEq, Int.not_lt, Int.not_le, wholeD, List.length_cons, List.length_nil, List.length_map, isT_tuple_none, isT_tuple_bool, isT_tuple_int, isT_tuple_str, isT_tuple_list, isT_tuple_tuple, isT_int_none, isT_int_bool, isT_int_int, isT_int_str, isT_int_list, isT_int_tuple, isT_bool_none, isT_bool_bool, isT_bool_int, isT_bool_str, isT_bool_list, isT_bool_tuple, isT_str_none, isT_str_bool, isT_str_int, isT_str_str, isT_str_list, isT_str_tuple, isT_list_none, isT_list_bool, isT_list_int, isT_list_str, isT_list_list, isT_list_tuple] at z); try (first | (exfalso; omega) | exact (Bool.false_ne_true z).elim | (cases z; done))))
local macro_rules | `(tactic| tm_at "dnorm") => `(tactic| first | ((simp only [rset, rget, frzC, retag, clr, back]); done) | ((simp only [rset, rget, frzC, retag, clr, back]); exact rfl) | exact rfl)
local macro_rules | `(tactic| tm_at "dh") => `(tactic| first | ((with_reducible show wSeq _ _ _ _); with_reducible refine wSeq_i (by tm_at "dnorm") ?_) | ((with_reducible show optK _ _); with_reducible refine optK_of (by tm_at "do") ?_) | (with_reducible refine ifb ?_ ?_) <;> tm_at "dz" | ((with_reducible refine And.intro ?_ ?_); tm_at "dside") | fail "dh")
local macro_rules | `(tactic| tm_at "dc") => `(tactic| fail "dc")
local macro_rules | `(tactic| tm_at "dt") => `(tactic| first | (tm_at "dh" <;> (try tm_at "dw")) | (tm_at "dc" <;> (try tm_at "dw")))
local macro_rules | `(tactic| tm_at "dstart") => `(tactic| simp only [startD, List.length_cons, List.length_nil, Nat.reduceAdd, Nat.reduceSub, List.replicate, List.cons_append, List.nil_append])
local macro_rules | `(tactic| tm_at "dl") => `(tactic| ((try tm_at "dw"); repeat' tm_at "dt"))
local macro_rules | `(tactic| tm_at "dlc") => `(tactic| first | with_reducible refine lcK_eq (by tm_at "dnorm") ?_ | with_reducible refine forK_eq (by tm_at "dnorm") ?_)

section
set_option Elab.async false
set_option linter.all false
set_option maxRecDepth 100000
set_option maxHeartbeats 4000000
namespace CFCb
open PySem PySem.Spec PyProof.Rows L2 DL CFH CFWd CFLo CFCn
local macro_rules | `(tactic| tm_at "dpos") => `(tactic| first | omega | decide)
local macro_rules | `(tactic| tm_at "dlog") => `(tactic| first | exact log2_sm (by omega) | exact CFH.big_log (by omega) (by omega) | assumption | exact log2_sm (by decide))
local macro_rules | `(tactic| tm_at "dc") => `(tactic| ((with_reducible show CFH.S_law_take _ _ _); refine CFH.take_i (by assumption) (by omega) (by tm_at "dpos") (by tm_at "dlog") (fun _ _ _ _ _ => ?_)))
local macro_rules | `(tactic| tm_at "dc") => `(tactic| ((with_reducible show CFH.S_law_great _ _ _); refine CFH.great_i (by assumption) (by omega) (fun _ _ _ _ _ => ?_)))
local macro_rules | `(tactic| tm_at "dc") => `(tactic| ((with_reducible show CFH.S_law_whole _ _ _); refine CFH.whole_i ?_))
local macro_rules | `(tactic| tm_at "dh") => `(tactic| first | ((with_reducible show ite _ _ _); first | (with_reducible refine DL.ifb_t (by with_reducible assumption) ?_) | (with_reducible refine DL.ifb_f (by with_reducible assumption) ?_)) | fail "dk")
local macro_rules | `(tactic| tm_at "do") => `(tactic| with_reducible assumption)
theorem ok_counts_behind : ∀ as QD ED, S_counts_behind as QD ED → w_counts_behind (bodyEnds as QD fun _ _ => False) (startD n_counts_behind as) := by
  rintro as QD ED ⟨ls, pl, rfl, nd, hl, q⟩
  unfold n_counts_behind w_counts_behind
  have e1 := pairs_of_rows ls
  have e2 := kv_nodup nd
  tm_at "dstart"
  tm_at "dl"
  refine forK_xs (inj := optS) pl (fun done ρ => ∃ (kvs : List (Key × D)) (c3 : C), GOk (ls ++ planR done) kvs ∧ ρ = [.p (.tuple (ls.map rowD)), .v (.tuple (pl.map optS)), .own 0 (.dct kvs), c3]) ⟨_, _, by rw [show planR [] = [] from rfl, List.append_nil]; exact gok_of nd, rfl⟩ ?_ ?_
  · rintro ρ ⟨kvs, c3, g, rfl⟩
    tm_at "dl"
    exact q _ g
  rintro done o rest ρ next epl hnx ⟨kvs, c3, g, rfl⟩
  clear q
  cases o with
  | none =>
    rw [plan_none] at hnx
    tm_at "dl"
    exact hnx _ ⟨_, _, g, rfl⟩
  | some x =>
    rw [plan_snoc, ← List.append_assoc] at hnx
    have kl : kvs.length < sizeLine := by
      have := g.len
      have b := plan_len done
      rw [List.length_append] at this
      have e3 : pl.length = done.length + (rest.length + 1) := by rw [epl]; simp
      rw [sizeLine_eq]
      omega
    tm_at "dl"
    rw [gok_get g]
    tm_at "dl"
    exact hnx _ ⟨_, _, gok_put g rfl, rfl⟩
theorem ok_loads_behind : ∀ as QD ED, S_loads_behind as QD ED → w_loads_behind (bodyEnds as QD fun _ _ => False) (startD n_loads_behind as) := by
  rintro as QD ED ⟨ls, pl, rfl, nd, hl, q⟩
  unfold n_loads_behind w_loads_behind
  tm_at "dstart"
  tm_at "dl"
  refine ⟨ls, pl, rfl, nd, hl, fun kvs g => ?_⟩
  tm_at "dl"
  obtain ⟨ss, e1, e2⟩ := gok_items g (P := fun ys => QD (.p (.tuple (ys.map itmD))) [.p (.tuple (ls.map rowD)), .v (.tuple (pl.map optS))]) fun rows hr => by
    have := q rows hr
    rw [List.map_map]
    exact this
  refine optK_of e1 fun ys nd pm pw => ?_
  have qq := e2 ys nd pm pw
  tm_at "dl"
  exact qq
end CFCb
end

section
set_option Elab.async false
set_option linter.all false
set_option maxRecDepth 100000
set_option maxHeartbeats 4000000
namespace CFSr
open PySem PySem.Spec PyProof.Rows L2 DL CFH CFWd CFLo CFCn CFRo CFFb CFCb CFSm
local macro_rules | `(tactic| tm_at "dpos") => `(tactic| first | omega | decide)
local macro_rules | `(tactic| tm_at "dlog") => `(tactic| first | exact log2_sm (by omega) | exact CFH.big_log (by omega) (by omega) | assumption | exact log2_sm (by decide))
local macro_rules | `(tactic| tm_at "dc") => `(tactic| ((with_reducible show CFH.S_law_take _ _ _); refine CFH.take_i (by assumption) (by omega) (by tm_at "dpos") (by tm_at "dlog") (fun _ _ _ _ _ => ?_)))
local macro_rules | `(tactic| tm_at "dc") => `(tactic| ((with_reducible show CFH.S_law_great _ _ _); refine CFH.great_i (by assumption) (by omega) (fun _ _ _ _ _ => ?_)))
local macro_rules | `(tactic| tm_at "dc") => `(tactic| ((with_reducible show CFH.S_law_whole _ _ _); refine CFH.whole_i ?_))
local macro_rules | `(tactic| tm_at "dh") => `(tactic| first | ((with_reducible show ite _ _ _); first | (with_reducible refine DL.ifb_t (by with_reducible assumption) ?_) | (with_reducible refine DL.ifb_f (by with_reducible assumption) ?_)) | fail "dk")
local macro_rules | `(tactic| tm_at "do") => `(tactic| with_reducible assumption)
theorem scan_inv {ns : Ns} {p : Pln} {x : Str} (nok : NsOk ns) {W : List Way} {P : List Way → Prop} (h0 : P W) (h1 : ∀ V k z, P V → z ∈ allH ns → P (addZ x k V z)) : ∀ K, P (scan ns p x W K)
  | 0 => h0
  | K + 1 => by
    have ih := scan_inv nok (p := p) (x := x) h0 h1 K
    show P (scanK ns p x _ K)
    unfold scanK
    split
    · have go : ∀ (m : List Str) (V : List Way), (∀ z ∈ m, z ∈ allH ns) → P V → P (addN x K V m) := fun m => by
        induction m with
        | nil => exact fun V _ h => h
        | cons z m ih => exact fun V hm h => ih _ (fun y hy => hm y (.tail _ hy)) (h1 _ _ _ h (hm z (.head _)))
      refine go _ _ (fun z hz => ?_) ih
      rw [List.getD_eq_getElem?_getD] at hz
      cases e : ns[K]? with
      | none => rw [e] at hz; cases hz
      | some n => rw [e] at hz; exact List.mem_flatten.mpr ⟨n, List.mem_of_getElem? e, hz⟩
    · exact ih
structure Wd (ns : Ns) (h : Str) (W : List Way) : Prop where
  nd : (nms W).Nodup
  sub : ∀ x ∈ nms W, x ∈ h :: allH ns
  wd : ∀ x ∈ nms W, WordOk x
theorem Wd.len {ns : Ns} {h : Str} {W : List Way} (w : Wd ns h W) : W.length ≤ (allH ns).length + 1 := by
  have := nodup_le w.nd w.sub
  unfold nms at this
  rw [List.length_map, List.length_cons] at this
  exact this
theorem all_word {ns : Ns} (nok : NsOk ns) {z : Str} (h : z ∈ allH ns) : WordOk z := by
  obtain ⟨n, hn, hz⟩ := List.mem_flatten.mp h
  exact nok.word n hn z hz
theorem wd_add {ns : Ns} (nok : NsOk ns) {h x z : Str} {k : Nat} {V : List Way} (w : Wd ns h V) (hz : z ∈ allH ns) : Wd ns h (addZ x k V z) := by
  unfold addZ
  by_cases q : z ∈ nms V
  · rw [if_pos q]; exact w
  · rw [if_neg q]
    have e : nms (V ++ [(z, some (x, k))]) = nms V ++ [z] := by unfold nms; rw [List.map_append]; rfl
    refine ⟨?_, fun y hy => ?_, fun y hy => ?_⟩
    · rw [e]
      exact List.nodup_append.mpr ⟨w.nd, by simp, fun a ha b hb z' => q (by rw [show z = b from (List.mem_singleton.mp hb).symm, ← z']; exact ha)⟩
    · rw [e] at hy
      rcases List.mem_append.mp hy with hy | hy
      · exact w.sub y hy
      · rw [List.mem_singleton.mp hy]; exact .tail _ hz
    · rw [e] at hy
      rcases List.mem_append.mp hy with hy | hy
      · exact w.wd y hy
      · rw [List.mem_singleton.mp hy]; exact all_word nok hz
theorem wd_scan {ns : Ns} {p : Pln} (nok : NsOk ns) {h x : Str} {W : List Way} (w : Wd ns h W) (K : Nat) : Wd ns h (scan ns p x W K) := scan_inv nok w (fun V k z v hz => wd_add nok v hz) K
theorem ext_scan {ns : Ns} {p : Pln} (nok : NsOk ns) {x : Str} {W : List Way} (K : Nat) : Ext W (scan ns p x W K) := scan_inv nok (P := Ext W) (Ext.refl W) (fun V k z v hz => v.trans addZ_ext.1) K
theorem addN_snoc {x : Str} {k : Nat} {V : List Way} {m : List Str} {y : Str} : addN x k V (m ++ [y]) = addZ x k (addN x k V m) y := by
  unfold addN
  rw [List.foldl_append]; rfl
theorem ok_reached : ∀ as QD ED, S_reached as QD ED → w_reached (bodyEnds as QD fun _ _ => False) (startD n_reached as) := by
  rintro as QD ED ⟨ns, p, h, rfl, nok, pl, pw, hw, q⟩
  unfold n_reached w_reached
  have few := nok.few
  have tot := nok.tot
  tm_at "dstart"
  tm_at "dl"
  refine ⟨fun m ρ => ∃ (a : Nat) (W : List Way) (c6 c7 : C), m + a = (allH ns).length + 2 ∧ Wd ns h W ∧ walk ns p m a W = reachF ns p h ∧ ρ = [.v (nsD ns), .v (plnD p), .v (.str h), .own 0 (.dct (W.map wayKV)), .own 0 (.lst ((nms W).map PyData.str)), .v (.int (a : Int)), c6, c7], ⟨(allH ns).length + 2, 0, [(h, none)], _, _, rfl, ⟨List.nodup_cons.mpr ⟨(fun z => nomatch z), List.nodup_nil⟩, fun x hx => by rw [show x = h from List.mem_singleton.mp hx]; exact .head _, fun x hx => by rw [show x = h from List.mem_singleton.mp hx]; exact hw⟩, rfl, rfl⟩, ?_⟩
  rintro m ρ ⟨a, W, c6, c7, hm, wd, hwk, rfl⟩
  have wl := wd.len
  have nl : (nms W).length = W.length := by unfold nms; rw [List.length_map]
  tm_at "dl"
  rotate_left
  · have e : walk ns p m a W = W := by
      cases m with
      | zero => rfl
      | succ m =>
        unfold walk
        rw [List.getElem?_eq_none (by omega)]
    rw [← hwk, e] at q
    exact q
  obtain ⟨m, rfl⟩ : ∃ m', m = m' + 1 := ⟨m - 1, by omega⟩
  obtain ⟨⟨x, ox⟩, ex⟩ : ∃ w, W[a]? = some w := ⟨_, List.getElem?_eq_getElem (by omega)⟩
  unfold walk at hwk
  rw [ex] at hwk
  have xw : WordOk x := wd.wd x (name_at ex)
  have hwk : walk ns p m (a + 1) (scan ns p x W ns.length) = reachF ns p h := hwk
  rw [show ((ns.map nightD).length : Int).toNat = ns.length by rw [List.length_map]; rfl]
  clear q
  refine forK_r0 ns.length (fun k ρ => ∃ (c6 c7 : C), ρ = [.v (nsD ns), .v (plnD p), .v (.str h), .own 0 (.dct ((scan ns p x W k).map wayKV)), .own 0 (.lst ((nms (scan ns p x W k)).map PyData.str)), .v (.int (a : Int)), c6, c7]) ⟨_, _, rfl⟩ ?_ ?_
  · rintro ρ ⟨c6, c7, rfl⟩
    tm_at "dl"
    exact ⟨m, by omega, a + 1, _, _, _, by omega, wd_scan nok wd _, hwk, rfl⟩
  rintro k ρ next hk hnx ⟨c6, c7, rfl⟩
  have vd := wd_scan nok wd (p := p) (x := x) k
  have ve := (ext_scan nok (p := p) (x := x) (W := W) k).get ex
  have vl := vd.len
  have st : scan ns p x W (k + 1) = scanK ns p x (scan ns p x W k) k := rfl
  rw [st] at hnx
  clear st hwk
  generalize scan ns p x W k = V at vd ve vl hnx ⊢
  have gr : atI ((nms V).map PyData.str) (a : Int) = some (.str x) := L2.atI_nat (by unfold nms; rw [List.getElem?_map, List.getElem?_map, ve]; rfl)
  obtain ⟨o, eo⟩ : ∃ o, p[k]? = some o := ⟨_, List.getElem?_eq_getElem (by omega)⟩
  have gp : atI (p.map optS) (k : Int) = some (optS o) := L2.atI_nat (by rw [List.getElem?_map, eo]; rfl)
  have en : ns[k]? = some (ns.getD k []) := by rw [List.getD_eq_getElem?_getD, List.getElem?_eq_getElem hk]; rfl
  have gn : atI (ns.map nightD) (k : Int) = some (nightD (ns.getD k [])) := L2.atI_nat (by rw [List.getElem?_map, en]; rfl)
  have s2 := (lay_name (.inr xw)).shaped
  have s1 : SeqAt.shaped (optS o) = true := by
    cases o with
    | none => decide
    | some w => exact (lay_name (.inr (pw w (List.mem_of_getElem? eo)))).shaped
  have lfo : lfree (optS o) = true := by cases o <;> rfl
  unfold scanK at hnx
  by_cases z : o = some x
  · rw [if_pos (by rw [eo, z])] at hnx
    have ev : PyData.eqv (optS o) (.str x) = true := by rw [z]; show PyData.eqv (.str x) (.str x) = true; rw [CFTd.eqv_str]; simp
    have hn : ∀ y ∈ ns.getD k [], y ∈ allH ns := fun y hy => mem_all en hy
    generalize ns.getD k [] = n at hnx gn hn ⊢
    tm_at "dl"
    refine forK_xs (inj := PyData.str) n (fun done ρ => ∃ (c7 : C), Wd ns h (addN x k V done) ∧ (addN x k V done)[a]? = some (x, ox) ∧ ρ = [.v (nsD ns), .v (plnD p), .v (.str h), .own 0 (.dct ((addN x k V done).map wayKV)), .own 0 (.lst ((nms (addN x k V done)).map PyData.str)), .v (.int (a : Int)), .v (.int (k : Int)), c7]) ⟨_, vd, ve, rfl⟩ ?_ ?_
    · rintro ρ ⟨c7, _, _, rfl⟩
      exact hnx _ ⟨_, _, rfl⟩
    rintro done y rest ρ next2 ed hnx2 ⟨c7, ud, ue, rfl⟩
    have ya := hn y (by rw [ed]; simp)
    rw [addN_snoc] at hnx2
    have ud2 := wd_add nok (x := x) (k := k) ud ya
    have ue2 := (addZ_ext (x := x) (k := k) (W := addN x k V done) (z := y)).1.get ue
    generalize addN x k V done = U at ud ue hnx2 ud2 ue2 ⊢
    have ul := ud.len
    have gr2 : atI ((nms U).map PyData.str) (a : Int) = some (.str x) := L2.atI_nat (by unfold nms; rw [List.getElem?_map, List.getElem?_map, ue]; rfl)
    clear hnx gr gp gn hn
    by_cases yu : y ∈ nms U
    · have e3 : (dGet (U.map wayKV) (.inr y)).isSome = true := by rw [way_get, Option.isSome_map]; exact wayOf_mem.mpr yu
      have ea : addZ x k U y = U := by unfold addZ; rw [if_pos yu]
      rw [ea] at hnx2
      tm_at "dl"
      all_goals first | exact hnx2 _ ⟨_, ud, ue, rfl⟩ | (rename_i zz; rw [e3] at zz; cases zz)
    · have e3 : (dGet (U.map wayKV) (.inr y)).isSome = false := by
        rw [way_get, Option.isSome_map]
        cases q : (wayOf U y).isSome with
        | false => rfl
        | true => exact absurd (wayOf_mem.mp q) yu
      have ea : addZ x k U y = U ++ [(y, some (x, k))] := by unfold addZ; rw [if_neg yu]
      have wp := way_put (x := x) (k := k) yu
      have en2 : nms (U ++ [(y, some (x, k))]) = nms U ++ [y] := by unfold nms; rw [List.map_append]; rfl
      rw [ea] at hnx2 ud2 ue2
      have sz : (U.map wayKV).length < sizeLine := by rw [List.length_map, sizeLine_eq]; omega
      have sz2 : ((nms U).map PyData.str).length < sizeLine := by unfold nms; rw [List.length_map, List.length_map, sizeLine_eq]; omega
      have wp' : dPut (U.map wayKV) (.inr y) (.tuple [.str x, .int (k : Int)]) = (U ++ [(y, some (x, k))]).map wayKV := wp
      have ex2 : (nms (U ++ [(y, some (x, k))])).map PyData.str = (nms U).map PyData.str ++ [.str y] := by rw [en2, List.map_append]; rfl
      have fin := hnx2 _ ⟨.v (.str y), ud2, ue2, rfl⟩
      rw [ex2, ← wp'] at fin
      tm_at "dl"
      all_goals first | exact fin | (rename_i zz; rw [e3] at zz; cases zz)
  · rw [if_neg (by rw [eo]; exact fun q => z (Option.some.inj q))] at hnx
    have ev : PyData.eqv (optS o) (.str x) = false := by
      cases o with
      | none => simp [PyData.eqv]
      | some w => show PyData.eqv (.str w) (.str x) = false; rw [CFTd.eqv_str]; exact decide_eq_false fun q => z (by rw [q])
    tm_at "dl"
    exact hnx _ ⟨_, _, rfl⟩
theorem ok_handed_on : ∀ as QD ED, S_handed_on as QD ED → w_handed_on (bodyEnds as QD fun _ _ => False) (startD n_handed_on as) := by
  rintro as QD ED ⟨p, W, x, a, ob, ks, n, rfl, pl, hW, nd, hx, rfl, q⟩
  unfold n_handed_on w_handed_on
  have sz : (p.map optS).length ≤ sizeLine := by rw [List.length_map, sizeLine_eq]; omega
  tm_at "dstart"
  tm_at "dl"
  obtain ⟨i0, o0, e0⟩ := at_name hx
  refine ⟨fun m ρ => ∃ (cur : Str) (o : Option (Str × Nat)) (r : Pln) (f : Nat) (c4 c5 : C), W[m]? = some (cur, o) ∧ m < f ∧ r.length = p.length ∧ handF W f cur r = handF W W.length x p ∧ ρ = [.v (plnD p), .own 2 (.lck a ob ks (W.map wayKV)), .v (.str cur), .own 0 (.lst (r.map optS)), c4, c5], ⟨i0, x, o0, p, W.length, _, _, e0, (List.getElem?_eq_some_iff.mp e0).1, rfl, rfl, rfl⟩, ?_⟩
  rintro m ρ ⟨cur, o, r, f, c4, c5, e, hf, rl, hr, rfl⟩
  obtain ⟨f, rfl⟩ : ∃ g, f = g + 1 := ⟨f - 1, by omega⟩
  have gg : dGet (W.map wayKV) (.inr cur) = some (wayD o) := by rw [way_get, wayOf_at nd e]; rfl
  have hr2 : handF W (f + 1) cur r = (match o with | some (y, k) => handF W f y (r.set k (some cur)) | none => r) := by
    show (match wayOf W cur with | some (some (y, k)) => handF W f y (r.set k (some cur)) | _ => r) = _
    rw [wayOf_at nd e]
    cases o with
    | none => rfl
    | some yk => rfl
  cases o with
  | none =>
    have hr2 : handF W (f + 1) cur r = r := hr2
    rw [← hr, hr2] at q
    have lfr : lfree (plnD r) = true := lfree_tup fun d hd => by
      obtain ⟨o, _, rfl⟩ := List.mem_map.mp hd
      cases o <;> rfl
    tm_at "dl"
    exact q
  | some yk =>
    obtain ⟨y, k⟩ := yk
    obtain ⟨⟨j, lt, o', e1⟩, kl⟩ := hW m cur y k e
    have hr2 : handF W (f + 1) cur r = handF W f y (r.set k (some cur)) := hr2
    clear q
    have es : setI (r.map optS) (k : Int) (.str cur) = some ((r.set k (some cur)).map optS) := by
      rw [setI_nat (by rw [List.length_map]; omega), List.map_set]
    tm_at "dl"
    exact ⟨j, lt, y, o', _, f, _, _, e1, by omega, by rw [List.length_set]; exact rl, by rw [← hr2]; exact hr, rfl⟩
theorem find_first {α : Type} {f : α → Bool} {x : α} {b : List α} : ∀ {a : List α}, (∀ y ∈ a, f y = false) → f x = true → (a ++ x :: b).find? f = some x
  | [], _, h => by rw [List.nil_append, List.find?_cons, h]
  | y :: a, h0, h => by
    rw [List.cons_append, List.find?_cons, h0 y (.head _)]
    exact find_first (fun z hz => h0 z (.tail _ hz)) h
theorem findSome_first {α β : Type} {f : α → Option β} {x : α} {v : β} {b : List α} : ∀ {a : List α}, (∀ y ∈ a, f y = none) → f x = some v → (a ++ x :: b).findSome? f = some v
  | [], _, h => by rw [List.nil_append, List.findSome?_cons, h]
  | y :: a, h0, h => by
    rw [List.cons_append, List.findSome?_cons, h0 y (.head _)]
    exact findSome_first (fun z hz => h0 z (.tail _ hz)) h
theorem ok_better : ∀ as QD ED, S_better as QD ED → w_better (bodyEnds as QD fun _ _ => False) (startD n_better as) := by
  rintro as QD ED ⟨ns, ls, p, rfl, nok, lok, pl, pw, q⟩
  unfold n_better w_better
  have few := nok.few
  have lfew := lok.few
  tm_at "dstart"
  tm_at "dl"
  refine ⟨ls, p, rfl, lok.nd, by omega, fun kvs g => ?_⟩
  tm_at "dl"
  tm_at "dlc"
  refine lcK_xs (inj := optS) (fun o => o.map PyData.str) p [] (fun o _ nx hnx => ?_) ?_
  · cases o with
    | none =>
      tm_at "dl"
      exact hnx
    | some w =>
      tm_at "dl"
      exact hnx
  rw [List.nil_append]
  obtain ⟨ts, ets, tsl, tsm⟩ : ∃ ts : List Str, p.filterMap (fun o => o.map PyData.str) = ts.map PyData.str ∧ ts.length ≤ 1000 ∧ ∀ x, x ∈ ts ↔ some x ∈ p := by
    refine ⟨p.filterMap id, ?_, ?_, fun x => ?_⟩
    · rw [List.map_filterMap]
      congr 1
    · have := List.length_filterMap_le (fun o : Option Str => id o) p
      exact Nat.le_trans this (by omega)
    · rw [List.mem_filterMap]
      exact ⟨fun ⟨o, ho, e⟩ => by rw [← show o = some x from e]; exact ho, fun h => ⟨_, h, rfl⟩⟩
  rw [ets]
  have e3 : strsOf (ts.map PyData.str) = some ts := strsOf_map ts
  tm_at "dl"
  intro hs up hm hsl
  clear e3 ets
  have hm2 : ∀ x, x ∈ hs ↔ some x ∈ p := fun x => (hm x).trans (tsm x)
  have hl2 : hs.length ≤ 1000 := by omega
  clear tsm hm tsl hsl
  tm_at "dl"
  refine forK_xs (inj := PyData.str) hs (fun done ρ => ∃ (c4 c5 c6 c7 : C), (∀ h ∈ done, tryH ns ls p h = none) ∧ ρ = [.v (nsD ns), .p (.tuple (ls.map rowD)), .v (plnD p), .own 0 (.dct kvs), c4, c5, c6, c7]) ⟨_, _, _, _, (fun h hh => nomatch hh), rfl⟩ ?_ ?_
  · rintro ρ ⟨c4, c5, c6, c7, dn, rfl⟩
    tm_at "dl"
    exact q none ⟨hs, up, hm2, (List.findSome?_eq_none_iff.mpr dn).symm⟩
  rintro done h rest ρ next ed hnx ⟨c4, c5, c6, c7, dn, rfl⟩
  have hp : some h ∈ p := (hm2 h).mp (by rw [ed]; simp)
  have hw := pw h hp
  tm_at "dl"
  refine ⟨ns, p, h, rfl, nok, pl, pw, hw, ?_⟩
  tm_at "dl"
  intro a ob ks
  obtain ⟨wok, _⟩ := reach_ok ns p h
  have gh : dGet kvs (.inr h) = some (.int (totC ls p h)) := by
    rw [g.get, if_pos (by rw [List.map_append]; exact List.mem_append_right _ (List.mem_map.mpr ⟨(h, 1), List.mem_filterMap.mpr ⟨_, hp, rfl⟩, rfl⟩)), wsum_app]
    rfl
  have gx : ∀ x, (dGet kvs (.inr x)).getD (.int 0) = .int (totC ls p x) := fun x => by
    rw [gok_get g, wsum_app]
    rfl
  have try_ : ∀ x, firstX ns ls p h = some x → tryH ns ls p h = some (handF (reachF ns p h) (reachF ns p h).length x p) := fun x e => by unfold tryH; rw [e]; rfl
  have try0 : firstX ns ls p h = none → tryH ns ls p h = none := fun e => by unfold tryH; rw [e]; rfl
  have fx : firstX ns ls p h = (nms (reachF ns p h)).find? fun x => decide (totC ls p x + 2 ≤ totC ls p h) := rfl
  have wl : (reachF ns p h).length ≤ 20000 := by
    have := wok.len
    have := nok.tot
    omega
  generalize reachF ns p h = W at wok try_ fx wl ⊢
  have ekey : (W.map wayKV).map (fun e => keyDat e.1) = (nms W).map PyData.str := by unfold nms; rw [List.map_map, List.map_map]; rfl
  refine forK_ds ekey ?_
  refine forK_xs (inj := PyData.str) (nms W) (fun seen ρ => ∃ (c6 : C), (∀ x ∈ seen, decide (totC ls p x + 2 ≤ totC ls p h) = false) ∧ ρ = [.v (nsD ns), .p (.tuple (ls.map rowD)), .v (plnD p), .own 0 (.dct kvs), .v (.str h), .own 0 (.lck a ob ks (W.map wayKV)), c6, c7]) ⟨_, (fun x hx => nomatch hx), rfl⟩ ?_ ?_
  · rintro ρ ⟨c6, sn, rfl⟩
    have tn : tryH ns ls p h = none := try0 (by rw [fx]; exact List.find?_eq_none.mpr fun x hx => by rw [sn x hx]; exact Bool.false_ne_true)
    refine ⟨rfl, hnx _ ⟨_, _, _, _, fun y hy => ?_, rfl⟩⟩
    rcases List.mem_append.mp hy with z | z
    · exact dn y z
    · rw [List.mem_singleton.mp z]; exact tn
  rintro seen x rest2 ρ next2 ed2 hnx2 ⟨c6, sn, rfl⟩
  have gx2 := gx x
  clear hnx gx
  refine ⟨rfl, ?_⟩
  tm_at "dl"
  rw [gx2]
  tm_at "dl"
  · rename_i zz
    have hx : x ∈ nms W := by rw [ed2]; simp
    have fx2 : firstX ns ls p h = some x := by rw [fx, ed2]; exact find_first sn (decide_eq_true zz)
    have th := try_ x fx2
    have qq := q (some _) ⟨hs, up, hm2, by rw [ed]; exact (findSome_first dn th).symm⟩
    refine ⟨p, W, x, a, ob, ks, W.length, rfl, by omega, fun i y z k e => ?_, wok.nd, hx, rfl, ?_⟩
    · obtain ⟨a1, a2, _⟩ := wok.way i y z k e
      exact ⟨a1, (List.getElem?_eq_some_iff.mp a2).1⟩
    tm_at "dl"
    exact qq
  · rename_i zz
    refine hnx2 _ ⟨_, fun y hy => ?_, rfl⟩
    rcases List.mem_append.mp hy with z | z
    · exact sn y z
    · rw [List.mem_singleton.mp z]; exact decide_eq_false (by omega)
theorem night_len {n : List Str} : ∀ {ns : Ns}, n ∈ ns → n.length ≤ (allH ns).length
  | m :: ns, h => by
    show _ ≤ (m ++ ns.flatten).length
    rw [List.length_append]
    rcases List.mem_cons.mp h with e | h
    · rw [e]; omega
    · have := night_len (ns := ns) h
      unfold allH at this
      omega
theorem ok_share : ∀ as QD ED, S_share as QD ED → w_share (bodyEnds as QD fun _ _ => False) (startD n_share as) := by
  rintro as QD ED ⟨ns, ls, rfl, nok, lok, q⟩
  unfold n_share w_share
  have few := nok.few
  have tot := nok.tot
  have sz : (ns.map nightD).length ≤ sizeLine := by rw [List.length_map, sizeLine_eq]; omega
  tm_at "dstart"
  tm_at "dl"
  tm_at "dlc"
  refine lcK_ys (inj := nightD) (fun n => optS n.head?) ns (fun n hn nx hnx => ?_) ?_
  · have nl := night_len hn
    have s1 : (n.map PyData.str).length + [PyData.none].length ≤ sizeLine := by rw [List.length_map, List.length_singleton, sizeLine_eq]; omega
    have ea : atI (n.map PyData.str ++ [PyData.none]) 0 = some (optS n.head?) := by
      cases n with
      | nil => rfl
      | cons a n => exact atI_0
    tm_at "dl"
    exact hnx
  have e0 : ns.map (fun n => optS n.head?) = (startP ns).map optS := by unfold startP; rw [List.map_map]; rfl
  rw [e0]
  have start := start_plan (ns := ns)
  tm_at "dl"
  refine ⟨fun m ρ => ∃ c4 : C, (∃ r, m = 0 ∧ ShareR ns ls (startP ns) r ∧ IsPlan ns r ∧ ρ = [.v (nsD ns), .p (.tuple (ls.map rowD)), .v .none, .v (plnD r), c4, .no]) ∨
    ∃ (r : Pln) (c3 : C), m = phi ns ls r + 1 ∧ IsPlan ns r ∧ (∀ t, ShareR ns ls r t → ShareR ns ls (startP ns) t) ∧ ρ = [.v (nsD ns), .p (.tuple (ls.map rowD)), .v (plnD r), c3, c4, .no], ⟨_, _, .inr ⟨startP ns, _, rfl, start, fun t h => h, rfl⟩⟩, ?_⟩
  rintro m ρ ⟨c4, ⟨r, rfl, sr, ip, rfl⟩ | ⟨r, c3, rfl, ip, sr, rfl⟩⟩
  · have qq := q r sr ip
    tm_at "dl"
    exact qq
  have rw' : ∀ x, some x ∈ r → WordOk x := fun x hx => by
    have := plan_hands ip hx
    exact all_word nok this
  clear q
  tm_at "dl"
  refine ⟨ns, ls, r, rfl, nok, lok, ip.1, rw', fun t b => ?_⟩
  cases t with
  | none =>
    tm_at "dl"
    exact ⟨0, by omega, _, .inl ⟨r, rfl, sr r (.done b), ip, rfl⟩⟩
  | some t =>
    obtain ⟨ip2, lt⟩ := phi_less ip b
    tm_at "dl"
    exact ⟨phi ns ls t + 1, by omega, _, .inr ⟨t, _, rfl, ip2, fun u h => sr u (.step b h), rfl⟩⟩
end CFSr
end

section
set_option Elab.async false
set_option linter.all false
set_option maxRecDepth 100000
set_option maxHeartbeats 4000000
namespace CFWe
open PySem PySem.Spec PyProof.Rows L2 DL CFH CFWd
local macro_rules | `(tactic| tm_at "dpos") => `(tactic| first | omega | decide)
local macro_rules | `(tactic| tm_at "dlog") => `(tactic| first | exact log2_sm (by omega) | exact CFH.big_log (by omega) (by omega) | assumption | exact log2_sm (by decide))
local macro_rules | `(tactic| tm_at "dc") => `(tactic| ((with_reducible show CFH.S_law_take _ _ _); refine CFH.take_i (by assumption) (by omega) (by tm_at "dpos") (by tm_at "dlog") (fun _ _ _ _ _ => ?_)))
local macro_rules | `(tactic| tm_at "dc") => `(tactic| ((with_reducible show CFH.S_law_great _ _ _); refine CFH.great_i (by assumption) (by omega) (fun _ _ _ _ _ => ?_)))
local macro_rules | `(tactic| tm_at "dc") => `(tactic| ((with_reducible show CFH.S_law_whole _ _ _); refine CFH.whole_i ?_))
theorem rep0 {l : List Nat} : repS (T l) 0 = T [] := by rw [T_rep]; rfl
theorem rep1 {l : List Nat} : repS (T l) 1 = T l := by rw [T_rep]; simp
theorem ok_law_words : ∀ as QD ED, CFWe.S_law_words as QD ED → CFWe.w_law_words (bodyEnds as QD fun _ _ => False) (startD CFWe.n_law_words as) := by
  rintro as QD ED ⟨h, n, m, rfl, ho, hn, m0, m1, q⟩
  unfold CFWe.n_law_words CFWe.w_law_words
  have sz : (Str.ofString "abcdefghijklmnopqrstuvwxyz0123456789").length ≤ sizeLine := sg_sz
  tm_at "dstart"
  tm_at "dl"
  rename_i h1 b0 o1 b00 b01
  refine pick_z [1, 5, 7, 11, 13, 17] rfl o1 (by omega) (by decide) (by decide) fun h2 st o2 hst => ?_
  obtain ⟨st, rfl, hs6, st17⟩ : ∃ k : Nat, st = k ∧ (fun k : Nat => k = 1 ∨ k = 5 ∨ k = 7 ∨ k = 11 ∨ k = 13 ∨ k = 17) k ∧ k ≤ 17 := by
    have hst : st = 1 ∨ st = 5 ∨ st = 7 ∨ st = 11 ∨ st = 13 ∨ st = 17 := by simpa using hst
    exact ⟨st.toNat, by omega, by show _ ∨ _; omega, by omega⟩
  clear hst
  tm_at "dl"
  rename_i h3 x o3 x0 x1
  obtain ⟨x, rfl⟩ := Int.eq_ofNat_of_zero_le x0
  have hx : x < 36 := by omega
  refine optK_of (L2.atI_nat (sg_at hx)) ?_
  have hc := sg_mem hx
  generalize sgAt x = c at hc
  tm_at "dl"
  refine pick_z [0, 1, 0, 2, 7] rfl o3 (by omega) (by decide) (by decide) fun h4 r o4 hr => ?_
  obtain ⟨r, rfl, hr7⟩ : ∃ k : Nat, r = k ∧ k ≤ 7 := by
    simp only [List.mem_cons, List.not_mem_nil, or_false] at hr
    exact ⟨r.toNat, by omega, by omega⟩
  clear hr
  have l1 : (⟨#[c]⟩ : Str).length ≤ 1000 := by show (T [c]).length ≤ 1000; rw [T_len]; exact Nat.le_of_ble_eq_true rfl
  have er : repS ⟨#[c]⟩ (r : Int).toNat = T (List.replicate r c) := by
    rw [Int.toNat_natCast]
    show repS (T [c]) r = _
    rw [T_rep, flat_rep]
  have el : (T (List.replicate r c)).length = r := by rw [T_len, List.length_replicate]
  tm_at "dl"
  rw [er, el]
  tm_at "dl"
  rename_i h5 a o5 a0 a1 h6 s o6 s0 s1
  obtain ⟨a, rfl⟩ := Int.eq_ofNat_of_zero_le a0
  have har : a ≤ r := by omega
  have sz2 : (T (List.replicate r c)).length ≤ sizeLine := by rw [el, sizeLine_eq]; omega
  have ea : cutS (T (List.replicate r c)) (some (a : Int)) none = T (List.replicate (r - a) c) := by
    rw [T_drop (by rw [List.length_replicate]; exact har), List.drop_replicate]
  have eb : cutS (T (List.replicate r c)) none (some (a : Int)) = T (List.replicate a c) := by
    rw [T_take (by rw [List.length_replicate]; exact har), List.take_replicate, Nat.min_eq_left har]
  obtain ⟨b0, rfl⟩ := Int.eq_ofNat_of_zero_le b00
  obtain ⟨m, rfl⟩ := Int.eq_ofNat_of_zero_le m0
  have fin := fun k (hk : k ≤ 36) => words_ok (c := c) (a := a) (b := r - a) (short := decide (s = 1)) (b0 := b0) (st := st) (n := k) hs6 hk hc (by omega)
  rw [Int.toNat_natCast]
  refine forK_r0 m (fun k ρ => ∃ c9 c10 : C, ρ = [CFH.hc h6, .v (.int m), .v (.str (Str.ofString "abcdefghijklmnopqrstuvwxyz0123456789")), .v (.int b0), .v (.int st), .v (.str (T (List.replicate r c))), .v (.int a), .v (.int s), .own 0 (.lst (((List.range k).map fun i => T (wordL c a (r - a) (decide (s = 1)) b0 st i)).map PyData.str)), c9, c10]) ⟨_, _, rfl⟩ ?_ ?_
  · rintro ρ ⟨c9, c10, rfl⟩
    tm_at "dl"
    exact q h6 _ (o6.up (by omega)) (by simp) (fin m (by omega))
  · rintro k ρ next hkm hnx ⟨c9, c10, rfl⟩
    have mo : MulOk (st : Int) (k : Int) := MulOk.left ⟨by omega, by omega⟩
    have mo2 : MulOk s ((k : Int) % 2) := MulOk.left ⟨by omega, by omega⟩
    have ei : ((b0 : Int) + (st : Int) * (k : Int)) % 36 = (((b0 + st * k) % 36 : Nat) : Int) := by push_cast; rfl
    have hj : (b0 + st * k) % 36 < 36 := Nat.mod_lt _ (by decide)
    have hsg := sg_at hj
    have leaf : ∀ (c9 c10 : C) (w : Str), w = T (wordL c a (r - a) (decide (s = 1)) b0 st k) → next [CFH.hc h6, .v (.int m), .v (.str (Str.ofString "abcdefghijklmnopqrstuvwxyz0123456789")), .v (.int b0), .v (.int st), .v (.str (T (List.replicate r c))), .v (.int a), .v (.int s), .own 0 (.lst (((List.range k).map fun i => T (wordL c a (r - a) (decide (s = 1)) b0 st i)).map PyData.str ++ [.str w])), c9, c10] := fun c9 c10 w hw => hnx _ ⟨c9, c10, by rw [List.range_succ, List.map_append, List.map_append, hw]; rfl⟩
    clear hnx fin q
    have lf : (((List.range k).map fun i => T (wordL c a (r - a) (decide (s = 1)) b0 st i)).map PyData.str).length < sizeLine := by
      rw [List.length_map, List.length_map, List.length_range, sizeLine_eq]
      omega
    obtain ⟨tl, etl, ltl⟩ : ∃ tl : List Nat, tl.length ≤ 7 ∧ repS (T (List.replicate (r - a) c)) (1 - s * ((k : Int) % 2)).toNat = T tl ∧ tl = (if decide (s = 1) = true ∧ k % 2 = 1 then [] else List.replicate (r - a) c) := by
      by_cases z : s = 1 ∧ k % 2 = 1
      · refine ⟨[], Nat.zero_le _, ?_, by rw [if_pos ⟨decide_eq_true z.1, z.2⟩]⟩
        rw [z.1, show (1 - 1 * ((k : Int) % 2)).toNat = 0 by omega]
        exact rep0
      · refine ⟨List.replicate (r - a) c, by rw [List.length_replicate]; omega, ?_, by rw [if_neg (fun y => z ⟨of_decide_eq_true y.1, y.2⟩)]⟩
        have : s * ((k : Int) % 2) = 0 := by
          rcases (show s = 0 ∨ s = 1 by omega) with y | y
          · rw [y, Int.zero_mul]
          · rw [y, Int.one_mul]; omega
        rw [this]
        exact rep1
    have rl : (T (List.replicate (r - a) c)).length ≤ 1000 := by rw [T_len, List.length_replicate]; omega
    have bs : -1000 ≤ 1 - s * ((k : Int) % 2) ∧ 1 - s * ((k : Int) % 2) ≤ 1000 := by
      rcases (show s = 0 ∨ s = 1 by omega) with y | y
      · rw [y, Int.zero_mul]; omega
      · rw [y, Int.one_mul]; omega
    tm_at "dl"
    rw [ea]
    refine ⟨rl, bs, ?_⟩
    rw [ltl.1]
    tm_at "dl"
    refine optK_of (by rw [ei]; exact L2.atI_nat hsg) ?_
    tm_at "dl"
    rw [eb]
    refine ⟨le1000 (by show (T (List.replicate a c)).length + (T [sgAt ((b0 + st * k) % 36)]).length ≤ 1000; rw [T_len, T_len, List.length_replicate]; show a + 1 ≤ 1000; omega), ?_⟩
    have e1 : T (List.replicate a c) ++ (⟨#[sgAt ((b0 + st * k) % 36)]⟩ : Str) = T (List.replicate a c ++ [sgAt ((b0 + st * k) % 36)]) := T_app
    tm_at "dl"
    rw [e1]
    refine ⟨le1000 ?_, ?_⟩
    · rw [T_len, T_len, List.length_append, List.length_replicate]
      show a + 1 + tl.length ≤ 1000
      omega
    tm_at "dl"
    refine leaf _ _ _ ?_
    unfold wordL
    rw [← ltl.2]
    exact T_app
end CFWe
end

section
set_option Elab.async false
set_option linter.all false
set_option maxRecDepth 100000
set_option maxHeartbeats 4000000
namespace CFSl
open PySem PySem.Spec PyProof.Rows L2 DL CFH CFWd CFLo CFCn CFRo CFFb CFCb CFSr CFSm
local macro_rules | `(tactic| tm_at "dpos") => `(tactic| first | omega | decide)
local macro_rules | `(tactic| tm_at "dlog") => `(tactic| first | exact log2_sm (by omega) | exact CFH.big_log (by omega) (by omega) | assumption | exact log2_sm (by decide))
local macro_rules | `(tactic| tm_at "dc") => `(tactic| ((with_reducible show CFH.S_law_take _ _ _); refine CFH.take_i (by assumption) (by omega) (by tm_at "dpos") (by tm_at "dlog") (fun _ _ _ _ _ => ?_)))
local macro_rules | `(tactic| tm_at "dc") => `(tactic| ((with_reducible show CFH.S_law_great _ _ _); refine CFH.great_i (by assumption) (by omega) (fun _ _ _ _ _ => ?_)))
local macro_rules | `(tactic| tm_at "dc") => `(tactic| ((with_reducible show CFH.S_law_whole _ _ _); refine CFH.whole_i ?_))
local macro_rules | `(tactic| tm_at "dh") => `(tactic| first | ((with_reducible show ite _ _ _); first | (with_reducible refine DL.ifb_t (by with_reducible assumption) ?_) | (with_reducible refine DL.ifb_f (by with_reducible assumption) ?_)) | fail "dk")
local macro_rules | `(tactic| tm_at "do") => `(tactic| with_reducible assumption)
theorem ok_law_nights : ∀ as QD ED, S_law_nights as QD ED → w_law_nights (bodyEnds as QD fun _ _ => False) (startD n_law_nights as) := by
  rintro as QD ED ⟨h, n, m0, ws, rfl, m12, o, nn, w2, w20, wok, q⟩
  unfold n_law_nights w_law_nights
  have wl : (ws.map PyData.str).length = ws.length := List.length_map _
  tm_at "dstart"
  tm_at "dl"
  rename_i h1 way o1 w0 w1 h2 many o2 n0 n1
  refine forK_r0 _ (fun j ρ => ∃ (h : Hd) (kk : Nat) (ns : Ns) (c5 c6 c7 c8 : C), h.ok kk ∧ kk ≤ n + 2 + 60 * j ∧ ns.length = j ∧ (∀ m ∈ ns, m.length ≤ 20 ∧ ∀ x ∈ m, x ∈ ws) ∧ ρ = [.own 1 (.lst (hd h)), .v (.list (ws.map PyData.str)), .v (.int (m0 : Int)), .own 0 (.lst (ns.map nightD)), .v (.int way), c5, c6, c7, c8, .no, .no]) ⟨_, _, [], _, _, _, _, o2, by omega, rfl, (fun m hm => nomatch hm), rfl⟩ ?_ ?_
  · rintro ρ ⟨h3, kk, ns, c5, c6, c7, c8, o3, hk, nl, hns, rfl⟩
    have fl : (allH ns).length ≤ 20 * ns.length := by
      have go : ∀ l : Ns, (∀ m ∈ l, m.length ≤ 20) → l.flatten.length ≤ 20 * l.length := fun l => by
        induction l with
        | nil => exact fun _ => Nat.le_refl _
        | cons m l ih =>
          intro h
          have a1 := h m (.head _)
          have a2 := ih fun x hx => h x (.tail _ hx)
          rw [List.flatten_cons, List.length_append, List.length_cons]
          omega
      exact go ns fun m hm => (hns m hm).1
    have lfn : lfree (.tuple (ns.map nightD)) = true := lfree_tup fun d hd => by
      obtain ⟨m, _, rfl⟩ := List.mem_map.mp hd
      exact lfree_tup fun d hd => by
        obtain ⟨x, _, rfl⟩ := List.mem_map.mp hd
        rfl
    have qq := q h3 ns (o3.up (by omega)) ⟨by omega, by omega, fun m hm x hx => wok x ((hns m hm).2 x hx)⟩ (by omega) hns
    tm_at "dl"
    exact qq
  rintro j ρ next hj hnx ⟨h3, kk, ns, c5, c6, c7, c8, o3, hk, nl, hns, rfl⟩
  clear q
  have wat : ∀ i : Int, 0 ≤ i → i < ws.length → ∃ w, atI (ws.map PyData.str) i = some (.str w) ∧ w ∈ ws := fun i i0 i1 => by
    obtain ⟨d, e, hd⟩ := atI_mem (ds := ws.map PyData.str) (x := i) i0 (by rw [wl]; exact i1)
    obtain ⟨w, hw, rfl⟩ := List.mem_map.mp hd
    exact ⟨w, e, hw⟩
  tm_at "dl"
  rename_i h4 t o4 t0 t1
  obtain ⟨kd, ek, kd0, kd5⟩ : ∃ kd : Int, atI [PyData.int t, PyData.int 0, PyData.int 1, PyData.int 2] way = some (PyData.int kd) ∧ 0 ≤ kd ∧ kd ≤ 5 := by
    rcases (show way = 0 ∨ way = 1 ∨ way = 2 ∨ way = 3 by omega) with rfl | rfl | rfl | rfl
    · exact ⟨t, atI_0, t0, by omega⟩
    · exact ⟨0, atI_1, by omega, by omega⟩
    · exact ⟨1, atI_2, by omega, by omega⟩
    · exact ⟨2, atI_3, by omega, by omega⟩
  refine optK_of ek ?_
  clear ek
  have wmod : ∀ i : Int, ∃ w, atI (ws.map PyData.str) (i % ((ws.map PyData.str).length : Int)) = some (.str w) ∧ w ∈ ws := fun i => wat _ (Int.emod_nonneg _ (by omega)) (by rw [wl]; exact Int.emod_lt_of_pos _ (by omega))
  tm_at "dl"
  · rename_i h5 at_ o5 a0 a1 z
    have szw : (ws.map PyData.str).length ≤ sizeLine := by rw [wl, sizeLine_eq]; omega
    tm_at "dlc"
    refine lcK_ind (fun es acc ρ => ∃ (h : Hd) (kk2 : Nat) (rest ys : List Str), h.ok kk2 ∧ kk2 + rest.length ≤ kk + 30 ∧ es = rest.map PyData.str ∧ acc = ys.map PyData.str ∧ ys.length + rest.length ≤ 20 ∧ (∀ y ∈ ys, y ∈ ws) ∧ (∀ y ∈ rest, y ∈ ws) ∧ ρ = [.own 1 (.lst (hd h)), .v (.list (ws.map PyData.str)), .v (.int (m0 : Int)), .own 0 (.lst (ns.map nightD)), .v (.int way), .v (.int (j : Int)), .v (.int kd), .v (.int at_), c8, .no, .no]) ?_ ?_ _ _ _ ⟨_, _, ws, [], o5, by omega, rfl, rfl, by simpa using w20, (fun y hy => nomatch hy), (fun y hy => hy), rfl⟩
    · rintro acc ρ ⟨h6, kk2, rest, ys, oo, hk2, hr, rfl, yl, sok, _, rfl⟩
      have re : rest = [] := by cases rest with
        | nil => rfl
        | cons a b => cases hr
      subst re
      simp only [List.length_nil, Nat.add_zero] at hk2 yl
      clear hr
      have se : strsOf (ys.map PyData.str) = some ys := strsOf_map ys
      tm_at "dl"
      intro ms up hm hml
      clear se
      have mok : ∀ x ∈ ms, x ∈ ws := fun x hx => sok x ((hm x).mp hx)
      have en : (ns ++ [ms]).map nightD = ns.map nightD ++ [nightD ms] := by rw [List.map_append]; rfl
      have szn : (ns.map nightD).length < sizeLine := by rw [List.length_map, sizeLine_eq]; omega
      tm_at "dl"
      refine hnx _ ⟨_, _, ns ++ [ms], _, _, _, _, oo, by omega, by rw [List.length_append, List.length_singleton]; omega, fun m hm2 => ?_, by rw [en]⟩
      rcases List.mem_append.mp hm2 with y | y
      · exact hns m y
      · rw [List.mem_singleton.mp y]; exact ⟨by omega, mok⟩
    · rintro d es acc ρ next2 hnx2 ⟨h6, kk2, rest, ys, oo, hk2, hr, rfl, yl, sok, rok, rfl⟩
      obtain ⟨w, rest, rfl⟩ : ∃ w r, rest = w :: r := by cases rest with
        | nil => cases hr
        | cons a b => exact ⟨a, b, rfl⟩
      obtain ⟨rfl, rfl⟩ := List.cons.inj hr
      rw [List.length_cons] at hk2 yl
      clear hr hnx
      tm_at "dl"
      all_goals rename_i h7 x7 o7 x70 x71 z7
      · refine hnx2 _ _ ⟨h7, kk2 + 1, rest, ys ++ [w], o7, by omega, rfl, by rw [List.map_append]; rfl, by rw [List.length_append, List.length_singleton]; omega, fun y hy => ?_, fun y hy => rok y (.tail _ hy), rfl⟩
        rcases List.mem_append.mp hy with q | q
        · exact sok y q
        · rw [List.mem_singleton.mp q]; exact rok w (.head _)
      · exact hnx2 _ _ ⟨h7, kk2 + 1, rest, ys, o7, by omega, rfl, rfl, by omega, sok, fun y hy => rok y (.tail _ hy), rfl⟩
  · rename_i h5 at_ o5 a0 a1 z1 z2
    obtain ⟨wa, ea, oka⟩ := wat at_ a0 (by omega)
    obtain ⟨wb, eb, okb⟩ := wmod (at_ + 1)
    have se : strsOf [PyData.str wa, PyData.str wb] = some [wa, wb] := rfl
    have sok : ∀ x ∈ [wa, wb], x ∈ ws := fun x hx => by
      simp only [List.mem_cons, List.not_mem_nil, or_false] at hx
      rcases hx with rfl | rfl
      · exact oka
      · exact okb
    have yl : [wa, wb].length ≤ 2 := Nat.le_refl _
    have oo := o5
    refine optK_of ea ?_
    tm_at "dl"
    intro ms up hm hml
    clear se
    have mok : ∀ x ∈ ms, x ∈ ws := fun x hx => sok x ((hm x).mp hx)
    have en : (ns ++ [ms]).map nightD = ns.map nightD ++ [nightD ms] := by rw [List.map_append]; rfl
    have szn : (ns.map nightD).length < sizeLine := by rw [List.length_map, sizeLine_eq]; omega
    tm_at "dl"
    refine hnx _ ⟨_, _, ns ++ [ms], _, _, _, _, oo, by omega, by rw [List.length_append, List.length_singleton]; omega, fun m hm2 => ?_, by rw [en]⟩
    rcases List.mem_append.mp hm2 with y | y
    · exact hns m y
    · rw [List.mem_singleton.mp y]; exact ⟨by omega, mok⟩
  · rename_i h5 at_ o5 a0 a1 z1 z2 z3
    obtain ⟨wa, ea, oka⟩ := wmod (j : Int)
    obtain ⟨wb, eb, okb⟩ := wmod ((j : Int) + 1)
    have se : strsOf [PyData.str wa, PyData.str wb] = some [wa, wb] := rfl
    have sok : ∀ x ∈ [wa, wb], x ∈ ws := fun x hx => by
      simp only [List.mem_cons, List.not_mem_nil, or_false] at hx
      rcases hx with rfl | rfl
      · exact oka
      · exact okb
    have yl : [wa, wb].length ≤ 2 := Nat.le_refl _
    have oo := o5
    refine optK_of ea ?_
    tm_at "dl"
    intro ms up hm hml
    clear se
    have mok : ∀ x ∈ ms, x ∈ ws := fun x hx => sok x ((hm x).mp hx)
    have en : (ns ++ [ms]).map nightD = ns.map nightD ++ [nightD ms] := by rw [List.map_append]; rfl
    have szn : (ns.map nightD).length < sizeLine := by rw [List.length_map, sizeLine_eq]; omega
    tm_at "dl"
    refine hnx _ ⟨_, _, ns ++ [ms], _, _, _, _, oo, by omega, by rw [List.length_append, List.length_singleton]; omega, fun m hm2 => ?_, by rw [en]⟩
    rcases List.mem_append.mp hm2 with y | y
    · exact hns m y
    · rw [List.mem_singleton.mp y]; exact ⟨by omega, mok⟩
  · rename_i h5 at_ o5 a0 a1 z1 z2 z3
    obtain ⟨wa, ea, oka⟩ := wat at_ a0 (by omega)
    have oo := o5
    refine optK_of ea ?_
    tm_at "dl"
    have szw : ws.length ≤ 20 := w20
    obtain ⟨ys, ey, yl, sok⟩ : ∃ ys : List Str, atI [PyData.list [PyData.str wa], PyData.list (ws.map PyData.str), PyData.list []] (kd - 3) = some (PyData.list (ys.map PyData.str)) ∧ ys.length ≤ 20 ∧ ∀ x ∈ ys, x ∈ ws := by
      rcases (show kd = 3 ∨ kd = 4 ∨ kd = 5 by omega) with rfl | rfl | rfl
      · exact ⟨[wa], atI_0, Nat.le_of_ble_eq_true rfl, fun x hx => by rw [List.mem_singleton.mp hx]; exact oka⟩
      · exact ⟨ws, atI_1, w20, fun x hx => hx⟩
      · exact ⟨[], atI_2, Nat.zero_le _, fun x hx => nomatch hx⟩
    have se : strsOf (ys.map PyData.str) = some ys := strsOf_map ys
    refine optK_of ey ?_
    tm_at "dl"
    intro ms up hm hml
    clear se
    have mok : ∀ x ∈ ms, x ∈ ws := fun x hx => sok x ((hm x).mp hx)
    have en : (ns ++ [ms]).map nightD = ns.map nightD ++ [nightD ms] := by rw [List.map_append]; rfl
    have szn : (ns.map nightD).length < sizeLine := by rw [List.length_map, sizeLine_eq]; omega
    tm_at "dl"
    refine hnx _ ⟨_, _, ns ++ [ms], _, _, _, _, oo, by omega, by rw [List.length_append, List.length_singleton]; omega, fun m hm2 => ?_, by rw [en]⟩
    rcases List.mem_append.mp hm2 with y | y
    · exact hns m y
    · rw [List.mem_singleton.mp y]; exact ⟨by omega, mok⟩
theorem ok_law_loads : ∀ as QD ED, S_law_loads as QD ED → w_law_loads (bodyEnds as QD fun _ _ => False) (startD n_law_loads as) := by
  rintro as QD ED ⟨h, n, ws, rfl, o, nn, w20, wnd, wok, q⟩
  unfold n_law_loads w_law_loads
  have e1 : strsOf (ws.map PyData.str) = some ws := strsOf_map ws
  tm_at "dstart"
  tm_at "dl"
  intro vs pm _
  have vl := pm.length_eq
  have vnd : vs.Nodup := pm.nodup_iff.mpr wnd
  have vok : ∀ v ∈ vs, WordOk v := fun v hv => wok v (pm.mem_iff.mp hv)
  have vsub : ∀ v ∈ vs, v ∈ ws := fun v hv => pm.mem_iff.mp hv
  clear pm e1 wnd wok
  have szv : (vs.map PyData.str).length ≤ sizeLine := by rw [List.length_map, sizeLine_eq]; omega
  tm_at "dl"
  tm_at "dlc"
  refine lcK_ind (fun es acc ρ => ∃ (h : Hd) (kk : Nat) (rest : List Str) (rows : List RwI), h.ok kk ∧ kk + 4 * rest.length ≤ n + 100 ∧ es = rest.map PyData.str ∧ acc = rows.map rowD ∧ (rows.map (·.1) ++ rest).Nodup ∧ rows.length + rest.length ≤ 20 ∧ (∀ x ∈ rows.map (·.1), x ∈ vs) ∧ (∀ x ∈ rest, x ∈ vs) ∧ (∀ e ∈ rows, 0 ≤ e.2 ∧ e.2 ≤ 10 ^ 15) ∧ ρ = [hc h, .v (.list (ws.map PyData.str)), .no, .no, .no, .no]) ?_ ?_ _ _ _ ⟨h, _, vs, [], o, by omega, rfl, rfl, vnd, by simpa using (by omega : vs.length ≤ 20), (fun x hx => nomatch hx), (fun x hx => hx), (fun e he => nomatch he), rfl⟩
  · rintro acc ρ ⟨h1, kk, rest, rows, oo, hk, hr, rfl, nd, rl, sub, _, vb, rfl⟩
    have re : rest = [] := by cases rest with
      | nil => rfl
      | cons a b => cases hr
    subst re
    simp only [List.length_nil, Nat.mul_zero, Nat.add_zero] at hk rl
    rw [List.append_nil] at nd
    clear hr
    have lne : PyData.eqv (.list (rows.map rowD)) (.list []) = rows.isEmpty := by rw [eqv_lnil]; cases rows <;> rfl
    have fin : ∀ (h' : Hd) (kk' : Nat) (rs : List RwI), h'.ok kk' → kk' ≤ n + 1000 → rs.map (·.1) = rows.map (·.1) → (∀ e ∈ rs, 0 ≤ e.2 ∧ e.2 ≤ 10 ^ 15) → QD (.p (.tuple (rs.map rowD))) [hc h', .v (.list (ws.map PyData.str))] := fun h' kk' rs o' k' e vb' => by
      have le : rs.length = rows.length := by
        have := congrArg List.length e
        rw [List.length_map, List.length_map] at this
        exact this
      exact q h' rs (o'.up k') ⟨by rw [e]; exact nd, by omega⟩ fun y hy => ⟨vsub _ (sub _ (by rw [← e]; exact List.mem_map.mpr ⟨y, hy, rfl⟩)), vb' y hy⟩
    have lfr : ∀ rs : List RwI, lfree (.tuple (rs.map rowD)) = true := fun rs => lfree_tup fun d hd => by
      obtain ⟨r, _, rfl⟩ := List.mem_map.mp hd
      rfl
    have rok : ∀ r ∈ rows, WordOk r.1 := fun r hr => vok r.1 (sub r.1 (List.mem_map.mpr ⟨r, hr, rfl⟩))
    have s1 : SeqAt.shaped (.list (rows.map rowD)) = true := (Lay.list (k := 1) fun d hd => by
      obtain ⟨r, hr, rfl⟩ := List.mem_map.mp hd
      exact Lay.tuple (k := 0) fun e he => by
        simp only [List.mem_cons, List.not_mem_nil, or_false] at he
        rcases he with rfl | rfl
        · exact lay_name (.inr (rok r hr))
        · exact Lay.int _).shaped
    have s2 : SeqAt.shaped (.list []) = true := by decide
    have lfr0 := lfr rows
    cases hrows : rows.isEmpty with
    | true =>
      rw [hrows] at lne
      have lne2 : (!PyData.eqv (.list (rows.map rowD)) (.list [])) = false := by rw [lne]; rfl
      have qq := fin h1 kk rows oo (by omega) rfl vb
      clear lne
      tm_at "dl"
      exact qq
    | false =>
      rw [hrows] at lne
      have rp : 0 < rows.length := by
        cases rows with
        | nil => cases hrows
        | cons a b => exact Nat.zero_lt_succ _
      have lp : 0 < ((rows.map rowD).length : Int) := by rw [List.length_map]; omega
      have lq : ((rows.map rowD).length : Int) ≤ 20 := by rw [List.length_map]; omega
      have lr : (rows.map rowD).length = rows.length := List.length_map _
      have lne2 : (!PyData.eqv (.list (rows.map rowD)) (.list [])) = true := by rw [lne]; rfl
      clear lne
      tm_at "dl"
      · rename_i h7 x7 o7 x70 x71 z7 h8 i8 o8 i80 i81
        obtain ⟨r, er⟩ : ∃ r, rows[i8.toNat]? = some r := ⟨_, List.getElem?_eq_getElem (by omega)⟩
        have ea : atI (rows.map rowD) i8 = some (rowD r) := atI_of i80 (by rw [List.getElem?_map, er]; rfl)
        refine optK_of ea ?_
        tm_at "dl"
        rename_i h9 x9 o9 x90 x91
        have es : setI (rows.map rowD) i8 (PyData.tuple [PyData.str r.1, PyData.int x9]) = some ((rows.set i8.toNat (r.1, x9)).map rowD) := by
          rw [setI_of i80 (by omega), List.map_set]
        have lfr1 := lfr (rows.set i8.toNat (r.1, x9))
        have qq := fin h9 _ (rows.set i8.toNat (r.1, x9)) o9 (by omega) (by
          rw [List.map_set]
          refine List.ext_getElem? fun i => ?_
          by_cases z : i8.toNat = i
          · subst z
            rw [List.getElem?_set_self (by rw [List.length_map]; exact (List.getElem?_eq_some_iff.mp er).1), List.getElem?_map, er]; rfl
          · rw [List.getElem?_set_ne z]) (fun y hy => by
            rcases List.mem_or_eq_of_mem_set hy with z | z
            · exact vb y z
            · rw [z]; exact ⟨x90, by have q : x9 < 1000000000000000 := x91; show x9 ≤ 1000000000000000; omega⟩)
        refine optK_of es ?_
        tm_at "dl"
        exact qq
      · rename_i h7 x7 o7 x70 x71 z7
        have qq := fin h7 _ rows o7 (by omega) rfl vb
        exact qq
  · rintro d es acc ρ next hnx ⟨h1, kk, rest, rows, oo, hk, hr, rfl, nd, rl, sub, sub2, vb, rfl⟩
    obtain ⟨w, rest, rfl⟩ : ∃ w r, rest = w :: r := by cases rest with
      | nil => cases hr
      | cons a b => exact ⟨a, b, rfl⟩
    obtain ⟨rfl, rfl⟩ := List.cons.inj hr
    rw [List.length_cons] at hk rl
    clear hr q
    tm_at "dl"
    all_goals rename_i h7 x7 o7 x70 x71 z7
    · refine pick_z [0, 1, 2, 3, 5, 1] rfl o7 (by omega) (by exact Nat.le_of_ble_eq_true rfl) (by exact Nat.le_of_ble_eq_true rfl) fun h9 v o9 vm => ?_
      tm_at "dl"
      refine hnx _ _ ⟨h9, _, rest, rows ++ [(w, v)], o9, by omega, rfl, by rw [List.map_append]; rfl, ?_, by rw [List.length_append, List.length_singleton]; omega, fun x hx => ?_, fun x hx => sub2 x (.tail _ hx), fun y hy => ?_, rfl⟩
      · rw [List.map_append, List.append_assoc]; exact nd
      · rw [List.map_append] at hx
        rcases List.mem_append.mp hx with y | y
        · exact sub x y
        · rw [List.mem_singleton.mp y]; exact sub2 w (.head _)
      · rcases List.mem_append.mp hy with z | z
        · exact vb y z
        · rw [List.mem_singleton.mp z]
          simp only [List.mem_cons, List.not_mem_nil, or_false] at vm
          show 0 ≤ v ∧ v ≤ 10 ^ 15
          omega
    · refine hnx _ _ ⟨h7, _, rest, rows, o7, by omega, rfl, rfl, ?_, by omega, sub, (fun x hx => sub2 x (.tail _ hx)), vb, rfl⟩
      obtain ⟨n1, n2, n3⟩ := List.nodup_append.mp nd
      exact List.nodup_append.mpr ⟨n1, (List.nodup_cons.mp n2).2, fun a ha b hb => n3 a ha b (.tail _ hb)⟩
theorem lay_part {k : Nat} {ds : List D} (h : Lay k (.tuple ds)) : ∀ x ∈ ds, Lay k x := by
  have a : PyData.canLayAll0 ds = true := by have := h.ok; rw [PyData.canLay0] at this; exact this
  have b : PyData.depthAll ds ≤ k := by have := h.dp; simp only [PyData.depth] at this; omega
  clear h
  induction ds with
  | nil => exact fun x hx => nomatch hx
  | cons d ds ih =>
    rw [PyData.canLayAll0, Bool.and_eq_true] at a
    simp only [PyData.depthAll] at b
    intro x hx
    rcases List.mem_cons.mp hx with e | hx
    · rw [e]; exact ⟨a.1, by omega⟩
    · exact ih a.2 (by omega) x hx
open Classical in
theorem ok_law_plan : ∀ as QD ED, S_law_plan as QD ED → w_law_plan (bodyEnds as QD fun _ _ => False) (startD n_law_plan as) := by
  rintro as QD ED ⟨ns, d, rfl, nok, few, ly, q⟩
  unfold n_law_plan w_law_plan
  have l1 : (ns.map nightD).length = ns.length := List.length_map _
  by_cases tp : ∃ ds, d = .tuple ds
  · obtain ⟨ds, rfl⟩ := tp
    have it : isT "tuple" (.tuple ds) = true := rfl
    rw [show decide (IsP ns (.tuple ds)) = decide (ds.length = ns.length ∧ ∀ v ∈ ns.zip ds, OkE v.1 v.2) from by rw [decide_eq_decide]; exact isP_iff] at q
    have lx : ∀ x ∈ ds, Lay 60 x := fun x hx => lay_part ly x hx
    by_cases el : ds.length = ns.length
    · tm_at "dstart"
      tm_at "dl"
      refine forK_ds zip_ds ?_
      refine forK_xs (inj := zqD) (ns.zip ds) (fun done ρ => ∃ c2 c3 : C, (∀ v ∈ done, OkE v.1 v.2) ∧ ρ = [.v (nsD ns), .v (.tuple ds), c2, c3]) ⟨_, _, (fun v hv => nomatch hv), rfl⟩ ?_ ?_
      · rintro ρ ⟨c2, c3, dn, rfl⟩
        rw [decide_eq_true ⟨el, dn⟩] at q
        tm_at "dl"
        exact q
      rintro done ⟨n, x⟩ rest ρ next ed hnx ⟨c2, c3, dn, rfl⟩
      have mz : (n, x) ∈ ns.zip ds := by rw [ed]; simp
      obtain ⟨k, hk⟩ := List.mem_iff_getElem?.mp mz
      obtain ⟨k1, k2⟩ := List.getElem?_zip_eq_some.mp hk
      have nw := nok.word n (List.mem_of_getElem? k1)
      have s1 := (lay_night nw).shaped
      have s2 : SeqAt.shaped (.tuple []) = true := by decide
      have s3 : SeqAt.shaped x = true := (lx x (List.mem_of_getElem? k2)).shaped
      by_cases ok : OkE n x
      · have go : ∀ c2 c3 : C, next [.v (nsD ns), .v (.tuple ds), c2, c3] := fun c2 c3 => hnx _ ⟨_, _, fun v hv => by
          rcases List.mem_append.mp hv with y | y
          · exact dn v y
          · rw [List.mem_singleton.mp y]; exact ok, rfl⟩
        rcases ok with ⟨w, rfl, hw⟩ | ⟨rfl, rfl⟩
        · have e1 : PyData.eqv (nightD n) (.tuple []) = false := by
            rw [eqv_tnil]
            cases n with
            | nil => cases hw
            | cons a n => rfl
          have e2 : memD (.str w) (n.map PyData.str) = true := mem_any.mpr ⟨w, rfl, hw⟩
          tm_at "dl"
          all_goals first | exact go _ _ | exact absurd (e2.symm.trans ‹memD (.str w) (n.map PyData.str) = false›) (by decide) | exact absurd (e1.symm.trans ‹PyData.eqv (nightD n) (.tuple []) = true›) (by decide)
        · have e1 : PyData.eqv (nightD []) (.tuple []) = true := by rw [eqv_tnil]; rfl
          tm_at "dl"
          all_goals first | exact go _ _ | exact absurd (e1.symm.trans ‹PyData.eqv (nightD []) (.tuple []) = false›) (by decide)
      · rw [decide_eq_false (fun z => ok (z.2 _ mz))] at q
        have e2 : memD x (n.map PyData.str) = false := by
          cases h : memD x (n.map PyData.str) with
          | false => rfl
          | true => exact absurd (.inl (mem_any.mp h)) ok
        have e3 : n.isEmpty = true → x ≠ .none := fun h z => ok (.inr ⟨List.isEmpty_iff.mp h, z⟩)
        have e4 : PyData.eqv (nightD n) (.tuple []) = n.isEmpty := by rw [eqv_tnil]; cases n <;> rfl
        clear hnx
        tm_at "dl"
        all_goals first
          | exact q
          | exact absurd (e2.symm.trans ‹memD x (n.map PyData.str) = true›) (by decide)
          | (exfalso
             have e6 : n.isEmpty = true := e4.symm.trans ‹PyData.eqv (nightD n) (.tuple []) = true›
             cases x with
             | none => exact e3 e6 rfl
             | _ => simp_all)
    · rw [decide_eq_false (fun z => el z.1)] at q
      tm_at "dstart"
      tm_at "dl"
      all_goals first | exact q | (exfalso; omega)
  · have it : isT "tuple" d = false := by
      cases d with
      | tuple ds => exact absurd ⟨ds, rfl⟩ tp
      | _ => rfl
    rw [decide_eq_false (fun ⟨p, e, _⟩ => tp ⟨_, e⟩)] at q
    tm_at "dstart"
    tm_at "dl"
    all_goals first | exact q | exact absurd (it.symm.trans ‹isT "tuple" d = true›) (by decide)
theorem zeros_snoc {ns : List (List Str)} {m : List (List Str)} {n : List Str} : ((m ++ [n]).flatten).map (fun z => ((z, 0) : RwI)) = (m.flatten).map (fun z => ((z, 0) : RwI)) ++ n.map fun z => (z, 0) := by
  rw [List.flatten_append, List.map_append]
  simp
theorem zer_sum {l : List Str} {n : Str} : wsum (l.map fun z => ((z, 0) : RwI)) n = 0 := by
  induction l with
  | nil => rfl
  | cons z l ih => rw [List.map_cons, wsum_cons, ih]; split <;> rfl
theorem merge_ok {l : List RwI} : ∀ {ls : List RwI} {kvs : List (Key × D)}, GOk l kvs → (∀ n ∈ ls.map (·.1), wsum l n = 0) → (ls.map (·.1)).Nodup → GOk (l ++ ls) (mergeD kvs (ls.map kvR))
  | [], kvs, g, _, _ => by rw [List.append_nil]; exact g
  | r :: ls, kvs, g, h, nd => by
    obtain ⟨n1, n2⟩ := List.nodup_cons.mp nd
    have h1 := h r.1 (.head _)
    have g1 : GOk (l ++ [(r.1, r.2)]) (dPut kvs (.inr r.1) (.int r.2)) := gok_put g (by rw [h1]; omega)
    have := merge_ok (l := l ++ [(r.1, r.2)]) (ls := ls) g1 (fun n hn => by
      rw [wsum_app, h n (.tail _ hn), wsum_cons, wsum_nil, if_neg (fun z : r.1 = n => n1 (show r.1 ∈ ls.map (·.1) from z ▸ hn))]
      rfl) n2
    rw [List.append_assoc] at this
    exact this
theorem ok_law_counts : ∀ as QD ED, S_law_counts as QD ED → w_law_counts (bodyEnds as QD fun _ _ => False) (startD n_law_counts as) := by
  rintro as QD ED ⟨ns, ls, p, rfl, c, q⟩
  unfold n_law_counts w_law_counts
  have few := c.few
  have tot := c.nok.tot
  have lf := c.lok.few
  have pl := c.pl
  have e1 := pairs_of_rows ls
  have e2 := kv_nodup c.lok.nd
  tm_at "dstart"
  tm_at "dl"
  refine forK_xs (inj := nightD) ns (fun done ρ => ∃ (kvs : List (Key × D)) (c4 c5 : C), GOk (zeros done) kvs ∧ ρ = [.v (nsD ns), .p (.tuple (ls.map rowD)), .v (plnD p), .own 0 (.dct kvs), c4, c5]) ⟨_, _, _, gok_nil, rfl⟩ ?_ ?_
  · rintro ρ ⟨kvs, c4, c5, g, rfl⟩
    have kl : kvs.length + (ls.map kvR).length ≤ sizeLine := by
      have := g.len
      unfold zeros at this
      rw [List.length_map] at this
      rw [List.length_map, sizeLine_eq]
      omega
    tm_at "dl"
    have g2 := merge_ok (ls := ls) g (fun n _ => zeros_sum) c.lok.nd
    generalize mergeD kvs (ls.map kvR) = kvs2 at g2 ⊢
    clear g kl
    refine forK_xs (inj := optS) p (fun done ρ => ∃ (kvs : List (Key × D)) (c4 c5 : C), GOk (zeros ns ++ ls ++ planR done) kvs ∧ ρ = [.v (nsD ns), .p (.tuple (ls.map rowD)), .v (plnD p), .own 0 (.dct kvs), c4, c5]) ⟨_, _, _, by rw [show planR [] = [] from rfl, List.append_nil]; exact g2, rfl⟩ ?_ ?_
    · rintro ρ ⟨kvs, c4, c5, g, rfl⟩
      tm_at "dl"
      exact q _ g
    rintro done o rest ρ next ed hnx ⟨kvs, c4, c5, g, rfl⟩
    clear q
    cases o with
    | none =>
      rw [plan_none] at hnx
      tm_at "dl"
      exact hnx _ ⟨_, _, _, g, rfl⟩
    | some x =>
      rw [plan_snoc, ← List.append_assoc] at hnx
      have xa := c.hands x (by rw [ed]; simp)
      have gx : dGet kvs (.inr x) = some (.int (wsum (zeros ns ++ ls ++ planR done) x)) := by
        rw [g.get, if_pos (by
          rw [List.map_append, List.map_append]
          exact List.mem_append_left _ (List.mem_append_left _ (List.mem_map.mpr ⟨(x, 0), List.mem_map.mpr ⟨x, xa, rfl⟩, rfl⟩)))]
      have kl : kvs.length < sizeLine := by
        have a1 := g.len
        have a2 := plan_len done
        have a3 : p.length = done.length + (rest.length + 1) := by rw [ed]; simp
        have a4 : (zeros ns).length = (allH ns).length := List.length_map _
        rw [List.length_append, List.length_append] at a1
        rw [sizeLine_eq]
        omega
      tm_at "dl"
      exact hnx _ ⟨_, _, _, gok_put g rfl, rfl⟩
  rintro done n rest ρ next ed hnx ⟨kvs, c4, c5, g, rfl⟩
  have ez : zeros (done ++ [n]) = zeros done ++ n.map fun z => (z, 0) := zeros_snoc (ns := ns)
  rw [ez] at hnx
  clear q
  have al : (allH done).length + n.length ≤ (allH ns).length := by
    have : allH ns = allH done ++ (n ++ allH rest) := by unfold allH; rw [ed, List.flatten_append]; rfl
    rw [this, List.length_append, List.length_append]
    omega
  tm_at "dl"
  refine forK_xs (inj := PyData.str) n (fun seen ρ => ∃ (kvs : List (Key × D)) (c5 : C), GOk (zeros done ++ seen.map fun z => (z, 0)) kvs ∧ ρ = [.v (nsD ns), .p (.tuple (ls.map rowD)), .v (plnD p), .own 0 (.dct kvs), .v (nightD n), c5]) ⟨_, _, by rw [List.map_nil, List.append_nil]; exact g, rfl⟩ ?_ ?_
  · rintro ρ ⟨kvs, c5, g, rfl⟩
    exact hnx _ ⟨_, _, _, g, rfl⟩
  rintro seen x rest2 ρ next2 ed2 hnx2 ⟨kvs, c5, g, rfl⟩
  rw [show (seen ++ [x]).map (fun z => ((z, 0) : RwI)) = seen.map (fun z => ((z, 0) : RwI)) ++ [(x, 0)] by rw [List.map_append]; rfl, ← List.append_assoc] at hnx2
  have kl : kvs.length < sizeLine := by
    have a1 := g.len
    have a3 : n.length = seen.length + (rest2.length + 1) := by rw [ed2]; simp
    have a4 : (zeros done).length = (allH done).length := List.length_map _
    rw [List.length_append, List.length_map] at a1
    rw [sizeLine_eq]
    omega
  have gw : (0 : Int) = wsum (zeros done ++ seen.map fun z => (z, 0)) x + 0 := by rw [wsum_app, zeros_sum, zer_sum]; rfl
  tm_at "dl"
  exact hnx2 _ ⟨_, _, gok_put g gw, rfl⟩
theorem ok_law_reach : ∀ as QD ED, S_law_reach as QD ED → w_law_reach (bodyEnds as QD fun _ _ => False) (startD n_law_reach as) := by
  rintro as QD ED ⟨ns, ls, p, h, rfl, c, hw, q⟩
  unfold n_law_reach w_law_reach
  have few := c.few
  have tot := c.nok.tot
  have pl := c.plan.1
  have nl : (ns.map nightD).length = ns.length := List.length_map _
  tm_at "dstart"
  tm_at "dl"
  rw [show (((ns.map nightD).length : Int) + 1).toNat = ns.length + 1 by rw [nl]; rfl]
  refine forK_r0 (ns.length + 1) (fun r ρ => ∃ (L : List Str) (c4 c5 c6 c7 c8 : C), (∀ x ∈ L, Reach ns p h x ∧ WordOk x) ∧ h ∈ L ∧ (Shut ns p L ∨ r ≤ actv p L) ∧ L.length ≤ 1 + 1000000 * r ∧ ρ = [.v (nsD ns), .v (plnD p), .v (.str h), .own 0 (.lst (L.map PyData.str)), c4, c5, c6, c7, c8]) ⟨[h], _, _, _, _, _, fun x hx => by rw [List.mem_singleton.mp hx]; exact ⟨.me, hw⟩, .head _, .inr (Nat.zero_le _), by rw [List.length_singleton]; omega, rfl⟩ ?_ ?_
  · rintro ρ ⟨L, c4, c5, c6, c7, c8, hL, hh, hs, hl0, rfl⟩
    have ll : L.length ≤ 14000000 := by
      clear hL hs hh q
      have e9 : ns.length + 1 ≤ 13 := by omega
      have e8 := Nat.mul_le_mul_left 1000000 e9
      generalize 1000000 * (ns.length + 1) = zz at hl0 e8
      omega
    have lne : L ≠ [] := List.ne_nil_of_mem hh
    have sh : Shut ns p L := hs.resolve_right fun z => by
      have := act_le (p := p) (L := L)
      omega
    have qq := q L (fun x => ⟨fun hx => (hL x hx).1, fun hx => shut_reach sh hh hx⟩) lne ll
    tm_at "dl"
    exact qq
  rintro r ρ next hr hnx ⟨L, c4, c5, c6, c7, c8, hL, hh, hs, hl, rfl⟩
  clear q
  have szz : (ns.map nightD).length ≤ sizeLine := by rw [nl, sizeLine_eq]; omega
  tm_at "dl"
  refine forK_ds zip_ns ?_
  refine forK_xs (inj := zpD) (ns.zip p) (fun done ρ => ∃ (M : List Str) (c5 c6 c7 c8 : C), (∀ x ∈ L, x ∈ M) ∧ (∀ x ∈ M, Reach ns p h x ∧ WordOk x) ∧ (∀ v ∈ done, ∀ x, v.2 = some x → x ∈ L → ∀ z ∈ v.1, z ∈ M) ∧ (Shut ns p L → ∀ x ∈ M, x ∈ L) ∧ M.length ≤ L.length + 10000 * done.length ∧ ρ = [.v (nsD ns), .v (plnD p), .v (.str h), .own 0 (.lst (M.map PyData.str)), .v (.int (r : Int)), c5, c6, c7, c8]) ⟨L, _, _, _, _, fun _ h => h, hL, (fun v hv => nomatch hv), fun _ _ h => h, Nat.le_refl _, rfl⟩ ?_ ?_
  · rintro ρ ⟨M, c5, c6, c7, c8, m1, m2, m3, m4, m5, rfl⟩
    refine hnx _ ⟨M, _, _, _, _, _, m2, m1 h hh, round_shut m1 (fun k x n e2 e3 hx z hz => m3 _ (at_zip e3 e2) x rfl hx z hz) hs m4, ?_, rfl⟩
    have : (ns.zip p).length ≤ ns.length := by rw [List.length_zip]; exact Nat.min_le_left _ _
    omega
  rintro done ⟨n, o⟩ rest ρ next2 ed hnx2 ⟨M, c5, c6, c7, c8, m1, m2, m3, m4, m5, rfl⟩
  clear hnx
  obtain ⟨k, k1, k2⟩ := zip_at (ns := ns) (p := p) (n := n) (o := o) (by rw [ed]; simp)
  have nw := c.nok.word n (List.mem_of_getElem? k1)
  have nl2 := night_len (List.mem_of_getElem? k1)
  have dl3 : done.length ≤ 12 := by
    have a1 : (ns.zip p).length ≤ ns.length := by rw [List.length_zip]; exact Nat.min_le_left _ _
    rw [ed, List.length_append] at a1
    omega
  have s1 : SeqAt.shaped (optS o) = true := by
    cases o with
    | none => decide
    | some w => exact (lay_name (.inr (c.words w (List.mem_of_getElem? k2)))).shaped
  have s2 := (lay_texts fun x hx => (m2 x hx).2).shaped
  by_cases om : ∃ x, o = some x ∧ x ∈ M
  · obtain ⟨x, rfl, xm⟩ := om
    have e2 : memD (.str x) (M.map PyData.str) = true := by rw [mem_str]; exact decide_eq_true xm
    have szn : (n.map PyData.str).length ≤ sizeLine := by rw [List.length_map, sizeLine_eq]; omega
    tm_at "dl"
    tm_at "dlc"
    refine lcK_xs (inj := PyData.str) (fun y => if y ∈ M then none else some (.str y)) n [] (fun y hy nx hnx => ?_) ?_
    · have s3 := (lay_name (.inr (nw y hy))).shaped
      by_cases ym : y ∈ M
      · have e3 : memD (.str y) (M.map PyData.str) = true := by rw [mem_str]; exact decide_eq_true ym
        rw [if_pos ym] at hnx
        tm_at "dl"
        all_goals first | exact hnx | exact absurd (e3.symm.trans ‹memD (.str y) (M.map PyData.str) = false›) (by decide)
      · have e3 : memD (.str y) (M.map PyData.str) = false := by rw [mem_str]; exact decide_eq_false ym
        rw [if_neg ym] at hnx
        tm_at "dl"
        all_goals first | exact hnx | exact absurd (e3.symm.trans ‹memD (.str y) (M.map PyData.str) = true›) (by decide)
    rw [List.nil_append, new_of]
    have esl : (n.filter fun y => decide (y ∉ M)).length ≤ n.length := List.length_filter_le _ _
    have esm : ∀ y, y ∈ (n.filter fun y => decide (y ∉ M)) ↔ y ∈ n ∧ y ∉ M := fun y => by rw [List.mem_filter, decide_eq_true_eq]
    generalize (n.filter fun y => decide (y ∉ M)) = es at esl esm ⊢
    have sz3 : (M.map PyData.str).length + (es.map PyData.str).length ≤ sizeLine := by rw [List.length_map, List.length_map, sizeLine_eq]; omega
    have xr := (m2 x xm).1
    tm_at "dl"
    refine hnx2 _ ⟨M ++ es, _, _, _, _, fun y hy => List.mem_append_left _ (m1 y hy), fun y hy => ?_, fun v hv y e yl z hz => ?_, fun sh y hy => ?_, ?_, by first | (rw [List.map_append]; done) | (rw [List.map_append]; rfl)⟩
    · rcases List.mem_append.mp hy with w | w
      · exact m2 y w
      · exact ⟨.on xr k2 k1 ((esm y).mp w).1, nw y ((esm y).mp w).1⟩
    · rcases List.mem_append.mp hv with w | w
      · exact List.mem_append_left _ (m3 v w y e yl z hz)
      · rw [List.mem_singleton.mp w] at hz
        by_cases zm : z ∈ M
        · exact List.mem_append_left _ zm
        · exact List.mem_append_right _ ((esm z).mpr ⟨hz, zm⟩)
    · rcases List.mem_append.mp hy with w | w
      · exact m4 sh y w
      · exact sh k x n k2 k1 (m4 sh x xm) y ((esm y).mp w).1
    · rw [List.length_append, List.length_append, List.length_singleton]
      omega
  · have e2 : memD (optS o) (M.map PyData.str) = false := by
      cases o with
      | none => exact mem_none
      | some w => show memD (.str w) _ = false; rw [mem_str]; exact decide_eq_false fun z => om ⟨w, rfl, z⟩
    tm_at "dl"
    refine hnx2 _ ⟨M, _, _, _, _, m1, m2, fun v hv x e xl z hz => ?_, m4, by rw [List.length_append, List.length_singleton]; omega, rfl⟩
    rcases List.mem_append.mp hv with y | y
    · exact m3 v y x e xl z hz
    · rw [List.mem_singleton.mp y] at e
      exact absurd ⟨x, e, m1 x xl⟩ om
open Classical in
theorem ok_law_even : ∀ as QD ED, S_law_even as QD ED → w_law_even (bodyEnds as QD fun _ _ => False) (startD n_law_even as) := by
  rintro as QD ED ⟨ns, ls, p, rfl, c, q⟩
  unfold n_law_even w_law_even
  have few := c.few
  have pl := c.plan.1
  tm_at "dstart"
  tm_at "dl"
  refine ⟨ns, ls, p, rfl, c.c, fun kvs g => ?_⟩
  tm_at "dl"
  tm_at "dlc"
  refine lcK_xs (inj := optS) (fun o => o.map PyData.str) p [] (fun o _ nx hnx => ?_) ?_
  · cases o with
    | none =>
      tm_at "dl"
      exact hnx
    | some w =>
      tm_at "dl"
      exact hnx
  rw [List.nil_append]
  obtain ⟨ts, ets, tsl, tsm⟩ : ∃ ts : List Str, p.filterMap (fun o => o.map PyData.str) = ts.map PyData.str ∧ ts.length ≤ 1000 ∧ ∀ x, x ∈ ts ↔ some x ∈ p := by
    refine ⟨p.filterMap id, ?_, ?_, fun x => ?_⟩
    · rw [List.map_filterMap]
      congr 1
    · have := List.length_filterMap_le (fun o : Option Str => id o) p
      exact Nat.le_trans this (by omega)
    · rw [List.mem_filterMap]
      exact ⟨fun ⟨o, ho, e⟩ => by rw [← show o = some x from e]; exact ho, fun h => ⟨_, h, rfl⟩⟩
  rw [ets]
  have e3 : strsOf (ts.map PyData.str) = some ts := strsOf_map ts
  tm_at "dl"
  intro hs up hm hsl
  clear e3 ets
  have hm2 : ∀ x, x ∈ hs ↔ some x ∈ p := fun x => (hm x).trans (tsm x)
  have hl2 : hs.length ≤ 1000 := by omega
  clear tsm hm tsl hsl
  tm_at "dl"
  refine forK_xs (inj := PyData.str) hs (fun done ρ => ∃ (c4 c5 c6 : C), (∀ h ∈ done, ∀ x, Reach ns p h x → totC ls p h < totC ls p x + 2) ∧ ρ = [.v (nsD ns), .p (.tuple (ls.map rowD)), .v (plnD p), .own 0 (.dct kvs), c4, c5, c6]) ⟨_, _, _, (fun h hh => nomatch hh), rfl⟩ ?_ ?_
  · rintro ρ ⟨c4, c5, c6, dn, rfl⟩
    rw [decide_eq_true (show EvenP ns ls p from fun h hh => dn h ((hm2 h).mpr hh))] at q
    tm_at "dl"
    exact q
  rintro done h rest ρ next ed hnx ⟨c4, c5, c6, dn, rfl⟩
  have hp : some h ∈ p := (hm2 h).mp (by rw [ed]; simp)
  have hw := c.words h hp
  have hall := plan_hands c.plan hp
  have get : ∀ x, x ∈ allH ns → dGet kvs (.inr x) = some (.int (totC ls p x)) := fun x hx => by
    rw [g.get, if_pos (by
      rw [List.map_append, List.map_append]
      exact List.mem_append_left _ (List.mem_append_left _ (List.mem_map.mpr ⟨(x, 0), List.mem_map.mpr ⟨x, hx, rfl⟩, rfl⟩))), tot_rows]
  have gh := get h hall
  tm_at "dl"
  refine ⟨ns, ls, p, h, rfl, c, hw, fun L hL ne ll => ?_⟩
  have szL : (L.map PyData.str).length ≤ sizeLine := by rw [List.length_map, sizeLine_eq]; omega
  tm_at "dl"
  tm_at "dlc"
  refine lcK_ys (inj := PyData.str) (fun x => .int (totC ls p x)) L (fun x hx nx hnx => ?_) ?_
  · have gx := get x (reach_hands hall ((hL x).mp hx))
    tm_at "dl"
    exact hnx
  have ei : intsOf (L.map fun x => PyData.int (totC ls p x)) = some (L.map (totC ls p)) := by
    have := intsOf_map (L.map (totC ls p))
    rw [List.map_map] at this
    exact this
  clear szL
  tm_at "dl"
  refine ⟨by rw [List.length_map]; exact List.length_pos_iff.mpr ne, fun m hm hmin => ?_⟩
  obtain ⟨x, hx, rfl⟩ := List.mem_map.mp hm
  have least : ∀ y, Reach ns p h y → totC ls p x ≤ totC ls p y := fun y hy => hmin _ (List.mem_map.mpr ⟨y, (hL y).mpr hy, rfl⟩)
  have xr := (hL x).mp hx
  clear hmin hm
  tm_at "dl"
  · rename_i zz
    rw [decide_eq_false (fun e : EvenP ns ls p => by have := e h hp x xr; omega)] at q
    exact q
  · rename_i zz
    refine hnx _ ⟨_, _, _, fun y hy => ?_, rfl⟩
    rcases List.mem_append.mp hy with w | w
    · exact dn y w
    · rw [List.mem_singleton.mp w]
      exact fun z hz => by have := least z hz; omega
end CFSl
end

section
set_option Elab.async false
set_option linter.all false
set_option maxRecDepth 100000
set_option maxHeartbeats 4000000
namespace K72
open PySem PySem.Spec PyProof.Rows L2 DL CFH CFWd CFLo CFCn CFRo CFFb CFCb CFSr CFSm CFSl K70
local macro_rules | `(tactic| tm_at "dpos") => `(tactic| first | omega | decide)
local macro_rules | `(tactic| tm_at "dlog") => `(tactic| first | exact log2_sm (by omega) | exact CFH.big_log (by omega) (by omega) | assumption | exact log2_sm (by decide))
local macro_rules | `(tactic| tm_at "dc") => `(tactic| ((with_reducible show CFH.S_law_take _ _ _); refine CFH.take_i (by assumption) (by omega) (by tm_at "dpos") (by tm_at "dlog") (fun _ _ _ _ _ => ?_)))
local macro_rules | `(tactic| tm_at "dc") => `(tactic| ((with_reducible show CFH.S_law_great _ _ _); refine CFH.great_i (by assumption) (by omega) (fun _ _ _ _ _ => ?_)))
local macro_rules | `(tactic| tm_at "dc") => `(tactic| ((with_reducible show CFH.S_law_whole _ _ _); refine CFH.whole_i ?_))
local macro_rules | `(tactic| tm_at "dh") => `(tactic| first | ((with_reducible show ite _ _ _); first | (with_reducible refine DL.ifb_t (by with_reducible assumption) ?_) | (with_reducible refine DL.ifb_f (by with_reducible assumption) ?_)) | fail "dk")
local macro_rules | `(tactic| tm_at "do") => `(tactic| with_reducible assumption)
theorem ok_law_falling : ∀ as QD ED, S_law_falling as QD ED → w_law_falling (bodyEnds as QD fun _ _ => False) (startD n_law_falling as) := by
  rintro as QD ED ⟨ns, ls, p, rfl, c, q⟩
  unfold n_law_falling w_law_falling
  tm_at "dstart"
  tm_at "dl"
  refine ⟨ns, ls, p, rfl, c.c, fun kvs g => ?_⟩
  obtain ⟨vs, ev, fe⟩ := falls_of c.plan g
  tm_at "dl"
  refine optK_of (a := kvs) rfl ?_
  refine optK_of ev ?_
  intro fl pm od
  obtain rfl := fe fl pm od
  tm_at "dl"
  exact q
theorem ok_law_turned : ∀ as QD ED, S_law_turned as QD ED → w_law_turned (bodyEnds as QD fun _ _ => False) (startD n_law_turned as) := by
  rintro as QD ED ⟨ws, ns, ls, rfl, r, q⟩
  unfold n_law_turned w_law_turned
  have ss := strsD_map ws
  have nd := r.nd
  have e1 : ws.length = (ws.map PyData.str).reverse.length := by rw [List.length_reverse, List.length_map]
  have few := r.few
  have lfew := r.lfew
  have szn : (ns.map nightD).length ≤ sizeLine := by rw [List.length_map, sizeLine_eq]; omega
  have szl : (ls.map rowD).length ≤ sizeLine := by rw [List.length_map, sizeLine_eq]; omega
  tm_at "dstart"
  tm_at "dl"
  tm_at "dlc"
  have kvs_def := Eq.refl ((ws.zip (ws.map PyData.str).reverse).map fun q => ((Sum.inr q.1 : Key), q.2))
  have get : ∀ x ∈ ws, dGet ((ws.zip (ws.map PyData.str).reverse).map fun q => ((Sum.inr q.1 : Key), q.2)) (.inr x) = some (.str (turnW ws x)) := fun x hx => turn_get nd hx
  generalize ((ws.zip (ws.map PyData.str).reverse).map fun q => ((Sum.inr q.1 : Key), q.2)) = kvs at get ⊢
  clear kvs_def ss e1
  refine lcK_ind (fun es acc ρ => ∃ (done rest acs : Ns), ns = done ++ rest ∧ es = rest.map nightD ∧ acc = acs.map nightD ∧ TurnN (turnW ws) done acs ∧ ρ = [.v (.list (ws.map PyData.str)), .v (nsD ns), .v (.tuple (ls.map rowD)), .own 0 (.dct kvs), .no, .no, .no, .no, .no]) ?_ ?_ _ _ _ ⟨[], ns, [], rfl, rfl, rfl, turnN_nil, rfl⟩
  · rintro acc ρ ⟨done, rest, acs, ed, er, rfl, tn, rfl⟩
    obtain rfl : rest = [] := by cases rest with
      | nil => rfl
      | cons a b => cases er
    rw [List.append_nil] at ed
    subst ed
    clear er
    tm_at "dl"
    tm_at "dlc"
    refine lcK_ys (inj := rowD) (fun r => rowD (turnW ws r.1, r.2)) ls (fun e he nx hnx => ?_) ?_
    · have gx := get e.1 (r.inW.l e he)
      tm_at "dl"
      exact hnx
    have em : ls.map (fun r => rowD (turnW ws r.1, r.2)) = (ls.map fun r => ((turnW ws r.1, r.2) : RwI)).map rowD := by rw [List.map_map]; rfl
    rw [em]
    have t0 : Turned (turnW ws) ns ls acs (ls.map fun r => ((turnW ws r.1, r.2) : RwI)) := ⟨tn.1, tn.2, List.Perm.refl _⟩
    have nd2 := (r.turn t0).lnd
    generalize ls.map (fun r => ((turnW ws r.1, r.2) : RwI)) = ms at t0 nd2 ⊢
    have ef : (ms.map rowD).map fstS = ms.map (·.1) := by rw [List.map_map]; rfl
    tm_at "dl"
    refine ⟨fun e he => ?_, by rw [ef]; exact nd2, fun es' pm pw => ?_⟩
    · obtain ⟨z, _, rfl⟩ := List.mem_map.mp he
      exact trivial
    obtain ⟨ls', p1, rfl⟩ := perm_lift pm _ rfl
    have tt : Turned (turnW ws) ns ls acs ls' := ⟨tn.1, tn.2, p1.trans t0.ld⟩
    tm_at "dl"
    exact q acs ls' tt
  · rintro d es acc ρ next hnx ⟨done, rest, acs, ed, er, rfl, tn, rfl⟩
    obtain ⟨n, rest, rfl⟩ : ∃ w r, rest = w :: r := by cases rest with
      | nil => cases er
      | cons a b => exact ⟨a, b, rfl⟩
    obtain ⟨rfl, rfl⟩ := List.cons.inj er
    clear er q
    have hn : n ∈ ns := by rw [ed]; simp
    have thn := r.thin n hn
    have inw := r.inW.n n hn
    have szn2 : (n.map PyData.str).length ≤ sizeLine := by rw [List.length_map, sizeLine_eq]; omega
    tm_at "dl"
    tm_at "dlc"
    refine lcK_ys (inj := PyData.str) (fun x => .str (turnW ws x)) n (fun x hx nx hnx => ?_) ?_
    · have gx := get x (inw x hx)
      tm_at "dl"
      exact hnx
    have em : n.map (fun x => PyData.str (turnW ws x)) = (n.map (turnW ws)).map PyData.str := by rw [List.map_map]; rfl
    rw [em]
    have se := strsOf_map (n.map (turnW ws))
    tm_at "dl"
    intro n' pm _
    tm_at "dl"
    exact hnx _ _ ⟨done ++ [n], rest, acs ++ [n'], by rw [ed, List.append_assoc]; rfl, rfl, by rw [List.map_append]; rfl, turnN_snoc tn pm, rfl⟩
open Classical in
theorem ok_law_round : ∀ as QD ED, S_law_round as QD ED → w_law_round (bodyEnds as QD fun _ _ => False) (startD n_law_round as) := by
  rintro as QD ED ⟨ws, ns, ls, rfl, r, val, q⟩
  unfold n_law_round w_law_round
  have few := r.few
  tm_at "dstart"
  tm_at "dl"
  refine ⟨ns, ls, rfl, r.nok, r.lok, fun p sp ip => ?_⟩
  have ev := better_none (share_last sp)
  have lyp : Lay 60 (plnD p) := (lay_plan (r.case ip).words).up (by decide)
  tm_at "dl"
  refine ⟨ns, plnD p, rfl, r.nok, r.few, lyp, ?_⟩
  rw [decide_eq_true (show IsP ns (plnD p) from ⟨p, rfl, ip⟩)]
  tm_at "dl"
  refine ⟨ns, ls, p, rfl, r.case ip, ?_⟩
  rw [decide_eq_true ev]
  tm_at "dl"
  refine ⟨ns, ls, p, rfl, r.case ip, ?_⟩
  have si : ∀ {ns ls p}, SeqAt.shaped (ilD (fallF ns ls p)) = true := lay_il.shaped
  have s1 := si (ns := ns) (ls := ls) (p := p)
  have enr : (ns.map nightD).reverse = ns.reverse.map nightD := (List.map_reverse ..).symm
  tm_at "dl"
  rw [enr]
  have rr := r.rev
  refine ⟨ns.reverse, ls, rfl, rr.nok, rr.lok, fun p2 sp2 ip2 => ?_⟩
  have ev2 := better_none (share_last sp2)
  tm_at "dl"
  refine ⟨ns.reverse, ls, p2, rfl, rr.case ip2, ?_⟩
  rw [same_rev ip ip2 ev ev2]
  have en0 : (!PyData.eqv (ilD (fallF ns ls p)) (ilD (fallF ns ls p))) = false := by rw [eqv_il, decide_eq_true rfl]; rfl
  clear sp2 ev2 ip2
  tm_at "dl"
  refine ⟨ws, ns, ls, rfl, r, fun ns' ls' t => ?_⟩
  have hτ : ∀ x ∈ ws, turnW ws x ∈ ws ∧ turnW ws (turnW ws x) = x := fun x hx => turn_ok r.nd hx
  have rt := r.turn t
  tm_at "dl"
  refine ⟨ns', ls', rfl, rt.nok, rt.lok, fun p3 sp3 ip3 => ?_⟩
  have ev3 := better_none (share_last sp3)
  tm_at "dl"
  refine ⟨ns', ls', p3, rfl, rt.case ip3, ?_⟩
  rw [same_turn t hτ r.inW ip ip3 ev ev3]
  clear sp3 ev3 ip3
  have szl : (ls.map rowD).length ≤ sizeLine := by have := r.lfew; rw [List.length_map, sizeLine_eq]; omega
  tm_at "dl"
  tm_at "dlc"
  refine lcK_ys (inj := rowD) (fun r => .int r.2) ls (fun e he nx hnx => ?_) ?_
  · tm_at "dl"
    exact hnx
  have em : ls.map (fun r => PyData.int r.2) = (ls.map (·.2)).map PyData.int := by rw [List.map_map]; rfl
  rw [em]
  have si2 := intsOf_map (ls.map (·.2))
  have qq := q p ip ev
  have shl : SeqAt.shaped (.list ((ls.map (·.2)).map PyData.int)) = true := (lay_il (l := ls.map (·.2))).shaped
  clear q em
  tm_at "dl"
  all_goals first | exact qq | skip
  rename_i h12 z0
  have pos : ∀ e ∈ ls, 0 < e.2 := fun e he => by
    have v := val e he
    rcases Int.lt_or_eq_of_le v.1 with w | w
    · exact w
    · exfalso
      have m : memD (.int 0) ((ls.map (·.2)).map PyData.int) = true := List.any_eq_true.mpr ⟨.int e.2, List.mem_map.mpr ⟨e.2, List.mem_map.mpr ⟨e, he, rfl⟩, rfl⟩, by rw [← w]; simp [PyData.eqv]⟩
      rw [z0] at m
      cases m
  refine forK_xs (inj := rowD) ls (fun done ρ => ∃ c7 c8 : C, ρ = [.v (.list (ws.map PyData.str)), .v (nsD ns), .p (.tuple (ls.map rowD)), .v (plnD p), .v (ilD (fallF ns ls p)), .v (nsD ns'), .p (.tuple (ls'.map rowD)), c7, c8, .v (ilD (ls.map (·.2))), .v (nsD (ns ++ extN done)), .no]) ⟨_, _, by rw [show extN [] = [] from rfl, List.append_nil]⟩ ?_ ?_
  · rintro ρ ⟨c7, c8, rfl⟩
    have re := r.ext pos h12
    tm_at "dl"
    refine ⟨ns ++ extN ls, [], rfl, re.nok, re.lok, fun p4 sp4 ip4 => ?_⟩
    have ev4 := better_none (share_last sp4)
    tm_at "dl"
    refine ⟨ns ++ extN ls, [], p4, rfl, re.case ip4, ?_⟩
    rw [same_ext pos ip ip4 ev ev4]
    clear sp4 ev4 ip4
    tm_at "dl"
    exact qq
  rintro done e rest ρ next ed hnx ⟨c7, c8, rfl⟩
  have lfew := r.lfew
  have v := val e (by rw [ed]; simp)
  have dl1 : done.length + (rest.length + 1) = ls.length := by rw [ed]; simp
  have nl := names_le (ls := done) fun z hz => val z (by rw [ed]; exact List.mem_append_left _ hz)
  have xl : ((ns ++ extN done).map nightD).length ≤ 30000 := by
    unfold extN
    rw [List.length_map, List.length_append, List.length_map]
    omega
  have yl : (List.replicate e.2.toNat [nightD [e.1]]).flatten.length ≤ 1000 := by
    rw [PyProof.Rows.lm_len_rep_flat, List.length_singleton]
    omega
  have sz : ((ns ++ extN done).map nightD).length + (List.replicate e.2.toNat [nightD [e.1]]).flatten.length ≤ sizeLine := by rw [sizeLine_eq]; omega
  have enx : nsD (ns ++ extN (done ++ [e])) = .tuple ((ns ++ extN done).map nightD ++ (List.replicate e.2.toNat [nightD [e.1]]).flatten) := by
    show PyData.tuple ((ns ++ extN (done ++ [(e.1, e.2)])).map nightD) = _
    rw [List.map_append, ext_snoc, List.map_append, List.append_assoc]
  rw [enx] at hnx
  tm_at "dl"
  refine ⟨⟨by simp, Nat.le_of_ble_eq_true rfl, by omega, by omega⟩, ?_⟩
  tm_at "dl"
  exact hnx _ ⟨_, _, rfl⟩
def w_tail : WS := (wSeq (wSetF 8 (wCallG S_law_round (wCons (wVar 4) (wCons (wVar 7) (wCons (wVarP 5) wNil)))))
    (wSeq (wIf (wTst (wU oIsN (wVar 8)))
    (wRet (wC (.bool false)))
    wNext)
    (wSeq (wSet 5 (wCallG CFCb.S_loads_behind (wCons (wVarP 5) (wCons (wVar 8) wNil))))
    (wSeq (wSet 9 (wCallG CFSl.S_law_counts (wCons (wL oTup (wCons (wL oTuple (wCons (wVar 4) wNil)) wNil)) (wCons (wVarP 5) (wCons (wL oTup wNil) wNil)))))
    (wIf (wAnd (wTst (wB oEq (wVar 3) (wC (.int 0)))) (wTst (wB oGt (wMinV true (wLn 9)) (wB oAdd (wMinV false (wLn 9)) (wC (.int 1))))))
    (wRet (wC (.bool false)))
    wNext)))))
theorem rep_one {d : D} : ∀ n : Nat, (List.replicate n [d]).flatten = List.replicate n d
  | 0 => rfl
  | n + 1 => by rw [List.replicate_succ, List.flatten_cons, rep_one n, List.replicate_succ]; rfl
theorem tail_ok {DD : EndsD} {sc d7 : D} {k way b : Int} {ws : List Str} {c6 c8 c9 : C} {h : Hd} {ns : Ns} {ls : List RwI} (e7 : d7 = nsD ns) (r : Rnd ws ns ls) (l : Lds ws b ls) (b1 : 0 ≤ b) (b2 : b ≤ 100) (w2 : 2 ≤ ws.length) (b0 : way = 0 → Bal ws ls ∧ ∀ n ∈ ns, ∀ x ∈ ws, x ∈ n)
    (hnx : ∀ (rows : List RwI) (c8 c9 : C), Lds ws (b + 12) rows → (way = 0 → Bal ws rows) → DD.nx [.v sc, .v (.int k), .own 0 (.lst (hd h)), .v (.int way), .v (.list (ws.map PyData.str)), .p (.tuple (rows.map rowD)), c6, .v (nsD ns), c8, c9, .no, .no, .no]) :
    w_tail DD [.v sc, .v (.int k), .own 0 (.lst (hd h)), .v (.int way), .v (.list (ws.map PyData.str)), .p (.tuple (ls.map rowD)), c6, .v d7, c8, c9, .no, .no, .no] := by
  subst e7
  unfold w_tail
  tm_at "dl"
  refine ⟨ws, ns, ls, rfl, r, fun e he => ⟨(l.val e he).1, by have := (l.val e he).2; omega⟩, fun p ip ev => ?_⟩
  tm_at "dl"
  refine ⟨ls, p, rfl, r.lnd, by have := r.lfew; have := r.few; have := ip.1; omega, fun rows ir => ?_⟩
  have ln := l.next r.w20 b1 ip r.few r.inW.n ir
  have bn : way = 0 → Bal ws rows := fun z => bal_next (b0 z).2 ip ev (b0 z).1 ir
  have cc : CaseC [ws] rows [] := ⟨⟨Nat.le_of_ble_eq_true rfl, by have := r.w20; unfold allH; simp; omega, fun n hn x hx => by rw [List.mem_singleton.mp hn] at hx; exact r.wok x hx⟩, ⟨ln.nd, by have := ln.few; omega⟩, Nat.le_of_ble_eq_true rfl, Nat.zero_le _, fun x hx => nomatch hx⟩
  tm_at "dl"
  refine ⟨[ws], rows, [], rfl, cc, fun kvs g => ?_⟩
  obtain ⟨L, ndL, hL, ek⟩ := gok_shape g
  have ev2 : intVals kvs = some (L.map (wsum (zeros [ws] ++ rows ++ planR []))) := by rw [ek]; exact intVals_map _ L
  have val : ∀ a, wsum (zeros [ws] ++ rows ++ planR []) a = wsum rows a := fun a => by
    rw [wsum_app, wsum_app, zeros_sum]
    show 0 + wsum rows a + 0 = _
    omega
  have inL : ∀ a ∈ L, a ∈ ws := fun a ha => by
    have m := (hL a).mp ha
    rw [List.map_append, List.map_append] at m
    rcases List.mem_append.mp m with m | m
    · rcases List.mem_append.mp m with m | m
      · unfold zeros allH at m
        rw [List.map_map] at m
        obtain ⟨z, hz, rfl⟩ := List.mem_map.mp m
        simpa using hz
      · obtain ⟨e, he, rfl⟩ := List.mem_map.mp m
        exact ln.inw e he
    · cases m
  have ne : L.map (wsum (zeros [ws] ++ rows ++ planR [])) ≠ [] := fun e => by
    obtain ⟨x, ws0, rfl⟩ : ∃ x r, ws = x :: r := by cases ws with
      | nil => simp at w2
      | cons a b => exact ⟨a, b, rfl⟩
    have m : x ∈ L := (hL x).mpr (by
      rw [List.map_append, List.map_append]
      refine List.mem_append_left _ (List.mem_append_left _ ?_)
      unfold zeros allH
      rw [List.map_map]
      exact List.mem_map.mpr ⟨x, by simp, rfl⟩)
    have e2 := List.map_eq_nil_iff.mp e
    rw [e2] at m
    cases m
  tm_at "dl"
  · rename_i z
    have bal := bn z
    refine optK_of (a := kvs) rfl ?_
    refine optK_of ev2 ?_
    refine ⟨ne, fun x hx mx => ?_⟩
    tm_at "dl"
    refine optK_of (a := kvs) rfl ?_
    refine optK_of ev2 ?_
    refine ⟨ne, fun y hy mn => ?_⟩
    obtain ⟨a, ha, ea⟩ := List.mem_map.mp hx
    obtain ⟨b', hb, eb⟩ := List.mem_map.mp hy
    rw [val] at ea eb
    have le := bal a (inL a ha) b' (inL b' hb)
    clear ndL hL ek ev2 inL ne hx hy mx mn b0 bal g cc
    tm_at "dl"
    exact hnx rows _ _ ln bn
  · exact hnx rows _ _ ln bn
def w_body : WS := (wSeq (wSetF 7 (wCall CFSl.S_law_nights (wCons (wPk 2) (wCons (wVar 4) (wCons (wC (.int 6)) wNil)))))
    (wSeq (wIf (wTst (wB oEq (wVar 3) (wC (.int 0))))
    (wSetF 7 (wB oRepA (wL oTup (wCons (wL oTuple (wCons (wL oSortS (wCons (wVar 4) wNil)) wNil)) wNil)) (wL oLen (wCons (wVar 7) wNil))))
    wNext)
    (wSeq (wSetF 8 (wCallG S_law_round (wCons (wVar 4) (wCons (wVar 7) (wCons (wVarP 5) wNil)))))
    (wSeq (wIf (wTst (wU oIsN (wVar 8)))
    (wRet (wC (.bool false)))
    wNext)
    (wSeq (wSet 5 (wCallG CFCb.S_loads_behind (wCons (wVarP 5) (wCons (wVar 8) wNil))))
    (wSeq (wSet 9 (wCallG CFSl.S_law_counts (wCons (wL oTup (wCons (wL oTuple (wCons (wVar 4) wNil)) wNil)) (wCons (wVarP 5) (wCons (wL oTup wNil) wNil)))))
    (wIf (wAnd (wTst (wB oEq (wVar 3) (wC (.int 0)))) (wTst (wB oGt (wMinV true (wLn 9)) (wB oAdd (wMinV false (wLn 9)) (wC (.int 1))))))
    (wRet (wC (.bool false)))
    wNext)))))))
theorem rounds_ok {DD : EndsD} {sc : D} {k way : Int} {ws : List Str} {c6 c7 c8 c9 : C} {h0 : Hd} {ls0 : List RwI} (o0 : h0.ok 5000) (nd : ws.Nodup) (wok : ∀ w ∈ ws, WordOk w) (w2 : 2 ≤ ws.length) (w20 : ws.length ≤ 20) (l0 : Lds ws 10 ls0) (b0 : way = 0 → Bal ws ls0)
    (hnx : ∀ (h : Hd) (ls : List RwI) (c6 c7 c8 c9 : C), DD.nx [.v sc, .v (.int k), .own 0 (.lst (hd h)), .v (.int way), .v (.list (ws.map PyData.str)), .p (.tuple (ls.map rowD)), c6, c7, c8, c9, .no, .no, .no]) :
    forK (wgName 6) w_body (rangeD 0 (Int.toNat 3)) DD [.v sc, .v (.int k), .own 0 (.lst (hd h0)), .v (.int way), .v (.list (ws.map PyData.str)), .p (.tuple (ls0.map rowD)), c6, c7, c8, c9, .no, .no, .no] := by
  refine forK_r0 _ (fun j ρ => ∃ (h : Hd) (kk : Nat) (ls : List RwI) (c6 c7 c8 c9 : C), h.ok kk ∧ kk ≤ 5000 + 1000 * j ∧ Lds ws (10 + 12 * (j : Int)) ls ∧ (way = 0 → Bal ws ls) ∧ ρ = [.v sc, .v (.int k), .own 0 (.lst (hd h)), .v (.int way), .v (.list (ws.map PyData.str)), .p (.tuple (ls.map rowD)), c6, c7, c8, c9, .no, .no, .no]) ⟨h0, 5000, ls0, _, _, _, _, o0, by omega, by simpa using l0, b0, rfl⟩ ?_ ?_
  · rintro ρ ⟨h, kk, ls, c6, c7, c8, c9, o, hk, l, b, rfl⟩
    exact hnx _ _ _ _ _ _
  rintro j ρ next hj hn ⟨h, kk, ls, c6, c7, c8, c9, o, hk, l, b, rfl⟩
  clear hnx l0 b0 o0
  unfold w_body
  tm_at "dl"
  refine ⟨h, kk, 6, ws, rfl, by decide, o, by omega, w2, w20, wok, fun h' ns o' nok few inw => ?_⟩
  have rnd : ∀ ns : Ns, ns.length ≤ 6 → (∀ n ∈ ns, n.length ≤ 20 ∧ ∀ x ∈ n, x ∈ ws) → Rnd ws ns ls := fun ns few inw => ⟨nd, wok, w20, by omega, fun n hn => (inw n hn).1, l.nd, l.few, ⟨fun n hn => (inw n hn).2, l.inw⟩⟩
  have el : (10 + 12 * (j : Int)) + 12 = 10 + 12 * ((j + 1 : Nat) : Int) := by omega
  have fin : ∀ (ns : Ns) (rows : List RwI) (c8 c9 : C), Lds ws ((10 + 12 * (j : Int)) + 12) rows → (way = 0 → Bal ws rows) → next [.v sc, .v (.int k), .own 0 (.lst (hd h')), .v (.int way), .v (.list (ws.map PyData.str)), .p (.tuple (rows.map rowD)), .v (.int (j : Nat)), .v (nsD ns), c8, c9, .no, .no, .no] := fun ns rows c8 c9 lr br => hn _ ⟨h', kk + 1000, rows, _, _, _, _, o', by omega, by rw [← el]; exact lr, br, rfl⟩
  have ss := strsOf_map ws
  tm_at "dl"
  · rename_i z
    intro ws' pm _
    have rn := rnd (List.replicate ns.length ws') (by rw [List.length_replicate]; exact few) fun n hn => by
      rw [List.eq_of_mem_replicate hn]
      exact ⟨by rw [pm.length_eq]; exact w20, fun x hx => pm.mem_iff.mp hx⟩
    have l6 : (ns.map nightD).length ≤ 6 := by rw [List.length_map]; exact few
    have en : nsD (List.replicate ns.length ws') = .tuple (List.replicate (((ns.map nightD).length : Int).toNat) [nightD ws']).flatten := by
      rw [rep_one]
      show PyData.tuple ((List.replicate ns.length ws').map nightD) = _
      rw [List.map_replicate]
      simp
    tm_at "dl"
    refine ⟨⟨by simp, Nat.le_of_ble_eq_true rfl, by omega, by omega⟩, ?_⟩
    refine ⟨fun z => Bool.noConfusion z, rfl, ?_⟩
    exact tail_ok en.symm rn l (by omega) (by omega) w2 (fun z => ⟨b z, fun n hn x hx => by rw [List.eq_of_mem_replicate hn]; exact pm.mem_iff.mpr hx⟩) (fin _)
  · rename_i z
    exact tail_ok rfl (rnd ns few inw) l (by omega) (by omega) w2 (fun z' => absurd z' z) (fin ns)
theorem ok_law : ∀ as QD ED, S_law as QD ED → w_law (bodyEnds as QD fun _ _ => False) (startD n_law as) := by
  rintro as QD ED ⟨ns, rfl, hns, q⟩
  unfold n_law w_law
  tm_at "dstart"
  tm_at "dl"
  refine forK_st _ (fun ρ => ∃ c1 c2 c3 c4 c5 c6 c7 c8 c9 : C, ρ = [.v (.list (ns.map PyData.int)), c1, c2, c3, c4, c5, c6, c7, c8, c9, .no, .no, .no]) ⟨_, _, _, _, _, _, _, _, _, rfl⟩ ?_ ?_
  · rintro ρ ⟨c1, c2, c3, c4, c5, c6, c7, c8, c9, rfl⟩
    tm_at "dl"
    exact q _
  rintro d hd ρ next hn ⟨c1, c2, c3, c4, c5, c6, c7, c8, c9, rfl⟩
  obtain ⟨k, rfl, k0, k1⟩ : ∃ k : Int, d = .int k ∧ 0 ≤ k ∧ k ≤ 1000 := by
    obtain ⟨k, e, k0, k1⟩ := mem_range hd
    exact ⟨k, e, k0, by omega⟩
  clear hd q
  tm_at "dl"
  refine hand_i k0 k1 fun h0 o0 => ?_
  tm_at "dl"
  rename_i h1 way o1 way0 way1 h2 x2 o2 x20 x21
  refine ⟨_, _, 2 + x2, rfl, by assumption, by omega, by omega, by omega, fun h3 ws o3 wl wok => ?_⟩
  have w2 : 2 ≤ ws.length := by omega
  have w20 : ws.length ≤ 20 := by omega
  tm_at "dl"
  · rename_i z
    refine ⟨h3, _, ws, rfl, o3, by omega, w20, wok.nd, wok.ok, fun h4 ls o4 lok lin => ?_⟩
    have ll : ls.length ≤ 20 := by
      have := nodup_le (a := ls.map (·.1)) (b := ws) lok.nd fun x hx => by
        obtain ⟨e, he, rfl⟩ := List.mem_map.mp hx
        exact (lin e he).1
      rw [List.length_map] at this
      omega
    have szl : (ls.map rowD).length ≤ sizeLine := by rw [List.length_map, sizeLine_eq]; omega
    tm_at "dl"
    tm_at "dlc"
    refine lcK_ys (inj := rowD) (fun r => rowD (r.1, r.2 % 7)) ls (fun e he nx hnx => ?_) ?_
    · have e0 := (lin e he).2
      tm_at "dl"
      exact hnx
    have em : ls.map (fun r => rowD (r.1, r.2 % 7)) = (ls.map fun r => ((r.1, r.2 % 7) : RwI)).map rowD := by rw [List.map_map]; rfl
    rw [em]
    have ln : Lds ws 10 (ls.map fun r => ((r.1, r.2 % 7) : RwI)) := by
      refine ⟨by rw [List.map_map]; exact lok.nd, by rw [List.length_map]; exact ll, fun e he => ?_, fun e he => ?_⟩
      · obtain ⟨z, hz, rfl⟩ := List.mem_map.mp he
        exact (lin z hz).1
      · obtain ⟨z, hz, rfl⟩ := List.mem_map.mp he
        have m0 := Int.emod_nonneg z.2 (show (7 : Int) ≠ 0 by decide)
        have m1 := Int.emod_lt_of_pos z.2 (show (0 : Int) < 7 by decide)
        exact ⟨m0, by show z.2 % 7 ≤ 10; omega⟩
    generalize ls.map (fun r => ((r.1, r.2 % 7) : RwI)) = ls2 at ln ⊢
    tm_at "dl"
    refine rounds_ok (ls0 := ls2) (o4.up (by omega)) wok.nd wok.ok w2 w20 ln (fun e => by omega) ?_
    exact fun h ls c6 c7 c8 c9 => hn _ ⟨_, _, _, _, _, _, _, _, _, rfl⟩
  · rename_i z
    refine rounds_ok (ls0 := []) (o3.up (by omega)) wok.nd wok.ok w2 w20 ⟨List.nodup_nil, Nat.zero_le _, (fun e he => nomatch he), (fun e he => nomatch he)⟩ (fun _ x _ y _ => by rw [wsum_nil, wsum_nil]; omega) ?_
    exact fun h ls c6 c7 c8 c9 => hn _ ⟨_, _, _, _, _, _, _, _, _, rfl⟩
end K72
end

section
set_option Elab.async false
set_option linter.all false
set_option maxRecDepth 100000
set_option maxHeartbeats 4000000
namespace CFH
open PySem PySem.Spec PyProof.Rows L2 DL
theorem ok_law_take : ∀ as QD ED, S_law_take as QD ED → w_law_take (bodyEnds as QD fun _ _ => False) (startD n_law_take as) := by
  rintro as QD ED ⟨h, n, m, rfl, ho, hn, hm, hl, q⟩
  obtain ⟨a0, b0, b1, c0, c1⟩ := ho
  unfold n_law_take w_law_take
  tm_at "dstart"
  tm_at "dl"
  · exact q ⟨h.a / m, h.b, h.c⟩ (h.a % m) ⟨Int.ediv_nonneg a0 (by omega), b0, b1, c0, by show h.c ≤ _; omega⟩ (Int.emod_nonneg _ (by omega)) (Int.emod_lt_of_pos _ hm)
  · exact q ⟨h.a, h.b, h.c + 1⟩ _ ⟨a0, b0, b1, by show 0 ≤ h.c + 1; omega, by show h.c + 1 ≤ _; omega⟩ (Int.emod_nonneg _ (by omega)) (Int.emod_lt_of_pos _ hm)
theorem ok_law_pick : ∀ as QD ED, S_law_pick as QD ED → w_law_pick (bodyEnds as QD fun _ _ => False) (startD n_law_pick as) := by
  rintro as QD ED ⟨h, n, b, ds, rfl, ho, hn, h0, h1, bx, q⟩
  unfold n_law_pick w_law_pick
  rcases bx with rfl | rfl | ⟨s, rfl, rfl, sl⟩
  · tm_at "dstart"
    tm_at "dl"
    refine ⟨h, n, ds.length, rfl, ho, hn, by omega, log2_sm (by omega), fun h' x ho' x0 x1 => ?_⟩
    tm_at "dl"
    obtain ⟨d, e, hd⟩ := atI_mem x0 x1
    refine optK_of e ?_
    tm_at "dl"
    exact q h' d ho' hd
  · tm_at "dstart"
    tm_at "dl"
    refine ⟨h, n, ds.length, rfl, ho, hn, by omega, log2_sm (by omega), fun h' x ho' x0 x1 => ?_⟩
    tm_at "dl"
    obtain ⟨d, e, hd⟩ := atI_mem x0 x1
    refine optK_of e ?_
    tm_at "dl"
    exact q h' d ho' hd
  · rw [strD_len] at h0 h1
    tm_at "dstart"
    tm_at "dl"
    refine ⟨h, n, s.length, rfl, ho, hn, by omega, log2_sm (by omega), fun h' x ho' x0 x1 => ?_⟩
    tm_at "dl"
    have xl : x.toNat < s.cps.toList.length := by
      show x.toNat < s.cps.size
      have : s.length = s.cps.size := rfl
      omega
    have e : atI s.cps.toList x = some (s.cps.toList[x.toNat]) := by
      have := L2.atI_nat (xs := s.cps.toList) (j := x.toNat) (List.getElem?_eq_getElem xl)
      rwa [show ((x.toNat : Nat) : Int) = x by omega] at this
    refine optK_of e ?_
    tm_at "dl"
    exact q h' _ ho' (List.mem_map_of_mem (f := fun c => PyData.str ⟨#[c]⟩) (List.getElem_mem xl))
theorem ok_law_hand : ∀ as QD ED, S_law_hand as QD ED → w_law_hand (bodyEnds as QD fun _ _ => False) (startD n_law_hand as) := by
  rintro as QD ED ⟨ns, k, rfl, h0, h1, q⟩
  unfold n_law_hand w_law_hand
  tm_at "dstart"
  have e : ∀ c : Int, (0 ≤ c * (if decide ((10:Int) ^ Int.toNat 18 ≤ c) = true then 1 else 0)) := by
    intro c
    by_cases h : (10:Int) ^ Int.toNat 18 ≤ c
    · rw [if_pos (decide_eq_true h), Int.mul_one]
      exact Int.le_trans (by decide) h
    · rw [if_neg (fun z => h (of_decide_eq_true z)), Int.mul_zero]
      exact Int.le_refl 0
  have mo : ∀ c : Int, MulOk c (if decide ((10:Int) ^ Int.toNat 18 ≤ c) = true then 1 else 0) := by
    intro c
    refine MulOk.right ?_
    split <;> decide
  have fin : ∀ c : Int, (Hd.mk (c * (if decide ((10:Int) ^ Int.toNat 18 ≤ c) = true then 1 else 0)) (c % 2305843009213693951 + 7919 * k + 3) 0).ok 0 := fun c => ⟨e c, by show 0 ≤ c % 2305843009213693951 + 7919 * k + 3; omega, by show c % 2305843009213693951 + 7919 * k + 3 < _; omega, Int.le_refl 0, Int.le_refl 0⟩
  tm_at "dl"
  · obtain ⟨d, e1, e2⟩ := atI_mem (ds := ns.map PyData.int) h0 (by rename_i z; first | exact z | exact of_decide_eq_true z | (rw [List.length_map]; exact z) | (rw [List.length_map]; exact of_decide_eq_true z) | (simp only [decide_eq_true_eq, List.length_map] at z; rw [List.length_map]; exact z))
    obtain ⟨c, _, rfl⟩ := List.mem_map.mp e2
    refine optK_of e1 ?_
    have m := mo c
    tm_at "dl"
    exact q _ (fin c)
  · have m := mo 0
    tm_at "dl"
    exact q _ (fin 0)
end CFH
end

end

set_option Elab.async false
set_option linter.all false
set_option maxRecDepth 100000
set_option maxHeartbeats 4000000

/-! generated: the derivations, the end -/
namespace K72
open PySem PySem.Spec PyProof.Rows L2 DL K72H CFCb CFSr CFH CFWe CFSl
abbrev N_counts_behind : List Str := ["loads", "plan", "counts", "hand"]
abbrev P_counts_behind : List Str := ["loads", "plan"]
theorem sc_counts_behind : FnScope N_counts_behind P_counts_behind (defScope st_counts_behind) := ⟨rfl, rfl, rfl, by decide +kernel, rfl, by decide +kernel, by decide +kernel⟩
abbrev N_loads_behind : List Str := ["loads", "plan"]
abbrev P_loads_behind : List Str := ["loads", "plan"]
theorem sc_loads_behind : FnScope N_loads_behind P_loads_behind (defScope st_loads_behind) := ⟨rfl, rfl, rfl, by decide +kernel, rfl, by decide +kernel, by decide +kernel⟩
abbrev N_reached : List Str := ["nights", "plan", "hand", "ways", "row", "at", "k", "other"]
abbrev P_reached : List Str := ["nights", "plan", "hand"]
theorem sc_reached : FnScope N_reached P_reached (defScope st_reached) := ⟨rfl, rfl, rfl, by decide +kernel, rfl, by decide +kernel, by decide +kernel⟩
abbrev N_handed_on : List Str := ["plan", "ways", "hand", "found", "giver", "k"]
abbrev P_handed_on : List Str := ["plan", "ways", "hand"]
theorem sc_handed_on : FnScope N_handed_on P_handed_on (defScope st_handed_on) := ⟨rfl, rfl, rfl, by decide +kernel, rfl, by decide +kernel, by decide +kernel⟩
abbrev N_better : List Str := ["nights", "loads", "plan", "counts", "hand", "ways", "other", "#0"]
abbrev P_better : List Str := ["nights", "loads", "plan"]
theorem sc_better : FnScope N_better P_better (defScope st_better) := ⟨rfl, rfl, rfl, by decide +kernel, rfl, by decide +kernel, by decide +kernel⟩
abbrev N_share : List Str := ["nights", "loads", "found", "plan", "#0", "hands"]
abbrev P_share : List Str := ["nights", "loads"]
theorem sc_share : FnScope N_share P_share (defScope st_share) := ⟨rfl, rfl, rfl, by decide +kernel, rfl, by decide +kernel, by decide +kernel⟩
abbrev N_law_hand : List Str := ["_law_script", "_law_k", "_law_cell"]
abbrev P_law_hand : List Str := ["_law_script", "_law_k"]
theorem sc_law_hand : FnScope N_law_hand P_law_hand (defScope st_law_hand) := ⟨rfl, rfl, rfl, by decide +kernel, rfl, by decide +kernel, by decide +kernel⟩
abbrev N_law_take : List Str := ["_law_hand_here", "_law_many", "_law_digit", "_law_turn", "_law_more", "_law_mixed", "_law_other"]
abbrev P_law_take : List Str := ["_law_hand_here", "_law_many"]
theorem sc_law_take : FnScope N_law_take P_law_take (defScope st_law_take) := ⟨rfl, rfl, rfl, by decide +kernel, rfl, by decide +kernel, by decide +kernel⟩
abbrev N_law_pick : List Str := ["_law_hand_here", "_law_some"]
abbrev P_law_pick : List Str := ["_law_hand_here", "_law_some"]
theorem sc_law_pick : FnScope N_law_pick P_law_pick (defScope st_law_pick) := ⟨rfl, rfl, rfl, by decide +kernel, rfl, by decide +kernel, by decide +kernel⟩
abbrev N_law_words : List Str := ["_law_hand_here", "_law_many", "_law_signs", "_law_start", "_law_step", "_law_stem", "_law_at", "_law_short", "_law_found", "_law_k", "_law_tail"]
abbrev P_law_words : List Str := ["_law_hand_here", "_law_many"]
theorem sc_law_words : FnScope N_law_words P_law_words (defScope st_law_words) := ⟨rfl, rfl, rfl, by decide +kernel, rfl, by decide +kernel, by decide +kernel⟩
abbrev N_law_nights : List Str := ["_law_hand_here", "_law_words_here", "_law_most", "_law_found", "_law_way", "_law_k", "_law_kind", "_law_at", "_law_some", "#0", "_law_one"]
abbrev P_law_nights : List Str := ["_law_hand_here", "_law_words_here", "_law_most"]
theorem sc_law_nights : FnScope N_law_nights P_law_nights (defScope st_law_nights) := ⟨rfl, rfl, rfl, by decide +kernel, rfl, by decide +kernel, by decide +kernel⟩
abbrev N_law_loads : List Str := ["_law_hand_here", "_law_words_here", "_law_found", "_law_at", "#0", "_law_one"]
abbrev P_law_loads : List Str := ["_law_hand_here", "_law_words_here"]
theorem sc_law_loads : FnScope N_law_loads P_law_loads (defScope st_law_loads) := ⟨rfl, rfl, rfl, by decide +kernel, rfl, by decide +kernel, by decide +kernel⟩
abbrev N_law_plan : List Str := ["_law_nights_here", "_law_plan_here", "_law_hands", "_law_one"]
abbrev P_law_plan : List Str := ["_law_nights_here", "_law_plan_here"]
theorem sc_law_plan : FnScope N_law_plan P_law_plan (defScope st_law_plan) := ⟨rfl, rfl, rfl, by decide +kernel, rfl, by decide +kernel, by decide +kernel⟩
abbrev N_law_counts : List Str := ["_law_nights_here", "_law_loads_here", "_law_plan_here", "_law_counts_here", "_law_hands", "_law_one"]
abbrev P_law_counts : List Str := ["_law_nights_here", "_law_loads_here", "_law_plan_here"]
theorem sc_law_counts : FnScope N_law_counts P_law_counts (defScope st_law_counts) := ⟨rfl, rfl, rfl, by decide +kernel, rfl, by decide +kernel, by decide +kernel⟩
abbrev N_law_reach : List Str := ["_law_nights_here", "_law_plan_here", "_law_one", "_law_found", "_law_turn", "_law_hands", "_law_giver", "#0", "_law_other"]
abbrev P_law_reach : List Str := ["_law_nights_here", "_law_plan_here", "_law_one"]
theorem sc_law_reach : FnScope N_law_reach P_law_reach (defScope st_law_reach) := ⟨rfl, rfl, rfl, by decide +kernel, rfl, by decide +kernel, by decide +kernel⟩
abbrev N_law_even : List Str := ["_law_nights_here", "_law_loads_here", "_law_plan_here", "_law_counts_here", "_law_one", "#0", "_law_other"]
abbrev P_law_even : List Str := ["_law_nights_here", "_law_loads_here", "_law_plan_here"]
theorem sc_law_even : FnScope N_law_even P_law_even (defScope st_law_even) := ⟨rfl, rfl, rfl, by decide +kernel, rfl, by decide +kernel, by decide +kernel⟩
abbrev N_law_falling : List Str := ["_law_nights_here", "_law_loads_here", "_law_plan_here"]
abbrev P_law_falling : List Str := ["_law_nights_here", "_law_loads_here", "_law_plan_here"]
theorem sc_law_falling : FnScope N_law_falling P_law_falling (defScope st_law_falling) := ⟨rfl, rfl, rfl, by decide +kernel, rfl, by decide +kernel, by decide +kernel⟩
abbrev N_law_turned : List Str := ["_law_words_here", "_law_nights_here", "_law_loads_here", "_law_other", "_law_row", "#0", "_law_hands", "_law_one", "_law_count"]
abbrev P_law_turned : List Str := ["_law_words_here", "_law_nights_here", "_law_loads_here"]
theorem sc_law_turned : FnScope N_law_turned P_law_turned (defScope st_law_turned) := ⟨rfl, rfl, rfl, by decide +kernel, rfl, by decide +kernel, by decide +kernel⟩
abbrev N_law_round : List Str := ["_law_words_here", "_law_nights_here", "_law_loads_here", "_law_plan_here", "_law_due", "_law_row", "_law_others", "_law_one", "_law_count", "_law_many", "_law_some", "#0"]
abbrev P_law_round : List Str := ["_law_words_here", "_law_nights_here", "_law_loads_here"]
theorem sc_law_round : FnScope N_law_round P_law_round (defScope st_law_round) := ⟨rfl, rfl, rfl, by decide +kernel, rfl, by decide +kernel, by decide +kernel⟩
abbrev N_law : List Str := ["_law_script", "_law_k", "_law_hand_here", "_law_way", "_law_words_here", "_law_loads_here", "_law_turn", "_law_nights_here", "_law_plan_here", "_law_counts_here", "#0", "_law_one", "_law_count"]
abbrev P_law : List Str := ["_law_script"]
theorem sc_law : FnScope N_law P_law (defScope st_law) := ⟨rfl, rfl, rfl, by decide +kernel, rfl, by decide +kernel, by decide +kernel⟩
section
variable {P : Program} {w : World} {K : PySem.W.Frag} {mg : Str → Option Value} {base : Heap}
theorem has_counts_behind {a : Addr} {fd : FuncData} (F : FunD K "counts_behind" "counts_behind" (defArgs st_counts_behind) (defBody st_counts_behind) (defScope st_counts_behind) [] [] a fd) (gl : mg "counts_behind" = some (.ref a)) (m_dict : mg "dict" = none) : Has P w K mg base 1 "counts_behind" CFCb.S_counts_behind :=
  ⟨a, fd, P_counts_behind, fn0 (k := 0) (L := CFCb.L_counts_behind) (ww := CFCb.w_counts_behind) F sc_counts_behind rfl CFCb.len_counts_behind (by
      intro cdv A outer s H E hr g hgL
      unfold CFCb.w_counts_behind
      refine eb_cons ?_ ?_
      refine es_set (i := 2) sc_counts_behind.nd rfl (Or.inl rfl) ?_
      refine ee_dictP rfl (by rfl) m_dict ?_
      exact ee_varP (pv 0)
      refine eb_cons ?_ ?_
      refine es_for PassesOwn.never rfl ?_ (eg_name (i := 3) sc_counts_behind.nd rfl (Or.inl rfl)) ?_
      refine ei_seq ?_
      exact ee_var (pv 1)
      refine eb_one ?_
      refine es_if ?_ ?_ ?_
      refine et_notN ?_
      exact ee_var (pv 3)
      refine eb_one ?_
      refine es_dput (i := 2) (units65 hr) (lt_ hgL rfl) (pv 2) ?_ ?_
      refine ee_add ?_ ?_
      refine ee_dget (i := 2) (units65 hr) (pv 2) ?_ ?_
      exact ee_var (pv 3)
      exact ee_int
      exact ee_int
      exact ee_var (pv 3)
      exact eb_nil
      refine eb_one ?_
      exact es_retO (i := 2) (lt_ hgL rfl) (pv 2)) CFCb.ok_counts_behind, gl, F.kp, F.bindsN (fun _ _ _ _ _ _ us hl => match us, hl with | [_, _], _ => rfl)⟩
theorem has_loads_behind {a : Addr} {fd : FuncData} (F : FunD K "loads_behind" "loads_behind" (defArgs st_loads_behind) (defBody st_loads_behind) (defScope st_loads_behind) [] [] a fd) (gl : mg "loads_behind" = some (.ref a)) (m_tuple : mg "tuple" = none) (m_sorted : mg "sorted" = none) (h_counts_behind : Has P w K mg base 1 "counts_behind" CFCb.S_counts_behind) : Has P w K mg base 2 "loads_behind" CFCb.S_loads_behind :=
  ⟨a, fd, P_loads_behind, fn0 (k := 1) (L := CFCb.L_loads_behind) (ww := CFCb.w_loads_behind) F sc_loads_behind rfl CFCb.len_loads_behind (by
      intro cdv A outer s H E hr g hgL
      unfold CFCb.w_loads_behind
      refine eb_one ?_
      refine es_ret ?_
      refine ee_tupP (by rfl) m_tuple ?_
      refine ea_cons ?_ ?_
      refine ee_ditemsE rfl (by rfl) m_sorted ?_
      refine ee_gl h_counts_behind (hr.mono (by decide)) (by rfl) takesW0 ?_
      refine ea_cons ?_ ?_
      exact ee_varP (pv 0)
      refine ea_cons ?_ ?_
      exact ee_var (pv 1)
      exact ea_nil
      exact ea_nil) CFCb.ok_loads_behind, gl, F.kp, F.bindsN (fun _ _ _ _ _ _ us hl => match us, hl with | [_, _], _ => rfl)⟩
theorem has_reached {a : Addr} {fd : FuncData} (F : FunD K "reached" "reached" (defArgs st_reached) (defBody st_reached) (defScope st_reached) [] [] a fd) (gl : mg "reached" = some (.ref a)) (m_len : mg "len" = none) (m_range : mg "range" = none) : Has P w K mg base 1 "reached" CFSr.S_reached :=
  ⟨a, fd, P_reached, fn0 (k := 0) (L := CFSr.L_reached) (ww := CFSr.w_reached) F sc_reached rfl CFSr.len_reached (by
      intro cdv A outer s H E hr g hgL
      unfold CFSr.w_reached
      refine eb_cons ?_ ?_
      refine es_set (i := 3) sc_reached.nd rfl (Or.inl rfl) ?_
      refine ee_disp1 ?_ ?_
      exact ee_var (pv 2)
      exact ee_non
      refine eb_cons ?_ ?_
      refine es_set (i := 4) sc_reached.nd rfl (Or.inl rfl) ?_
      refine ee_lst ?_
      refine ea_cons ?_ ?_
      exact ee_var (pv 2)
      exact ea_nil
      refine eb_cons ?_ ?_
      refine es_setF (i := 5) sc_reached.nd rfl (Or.inl rfl) ?_
      exact ee_int
      refine eb_cons ?_ ?_
      refine es_while PassesOwn.never ?_ ?_
      refine et_lt ?_ ?_
      exact ee_var (pv 5)
      refine ee_len (by rfl) m_len ?_
      refine ea_cons ?_ ?_
      exact ee_ln (i := 4) (lt_ hgL rfl) (pv 4)
      exact ea_nil
      refine eb_cons ?_ ?_
      refine es_for PassesOwn.never rfl ?_ (eg_name (i := 6) sc_reached.nd rfl (Or.inl rfl)) ?_
      refine ei_range1 (by rfl) m_range ?_
      refine ea_cons ?_ ?_
      refine ee_len (by rfl) m_len ?_
      refine ea_cons ?_ ?_
      exact ee_var (pv 0)
      exact ea_nil
      exact ea_nil
      refine eb_one ?_
      refine es_if ?_ ?_ ?_
      refine et_eq hr.units ?_ ?_
      refine ee_ix ?_ ?_
      exact ee_var (pv 1)
      exact ee_var (pv 6)
      refine ee_ix ?_ ?_
      exact ee_ln (i := 4) (lt_ hgL rfl) (pv 4)
      exact ee_var (pv 5)
      refine eb_one ?_
      refine es_for PassesOwn.never rfl ?_ (eg_name (i := 7) sc_reached.nd rfl (Or.inl rfl)) ?_
      refine ei_seq ?_
      refine ee_ix ?_ ?_
      exact ee_var (pv 0)
      exact ee_var (pv 6)
      refine eb_one ?_
      refine es_if ?_ ?_ ?_
      refine et_dni (i := 3) (units65 hr) ?_ (pv 3)
      exact ee_var (pv 7)
      refine eb_cons ?_ ?_
      refine es_dput (i := 3) (units65 hr) (lt_ hgL rfl) (pv 3) ?_ ?_
      refine ee_tup ?_
      refine ea_cons ?_ ?_
      refine ee_ix ?_ ?_
      exact ee_ln (i := 4) (lt_ hgL rfl) (pv 4)
      exact ee_var (pv 5)
      refine ea_cons ?_ ?_
      exact ee_var (pv 6)
      exact ea_nil
      exact ee_var (pv 7)
      refine eb_one ?_
      refine es_expr ?_
      refine ee_app (i := 4) (lt_ hgL rfl) (pv 4) ?_
      exact ee_var (pv 7)
      exact eb_nil
      exact eb_nil
      refine eb_one ?_
      refine es_augAdd (i := 5) sc_reached.nd rfl (Or.inl rfl) ?_
      exact ee_int
      refine eb_one ?_
      exact es_retO (i := 3) (lt_ hgL rfl) (pv 3)) CFSr.ok_reached, gl, F.kp, F.bindsN (fun _ _ _ _ _ _ us hl => match us, hl with | [_, _, _], _ => rfl)⟩
theorem has_handed_on {a : Addr} {fd : FuncData} (F : FunD K "handed_on" "handed_on" (defArgs st_handed_on) (defBody st_handed_on) (defScope st_handed_on) [] [] a fd) (gl : mg "handed_on" = some (.ref a)) (m_list : mg "list" = none) (m_tuple : mg "tuple" = none) : Has P w K mg base 1 "handed_on" CFSr.S_handed_on :=
  ⟨a, fd, P_handed_on, fn0 (k := 0) (L := CFSr.L_handed_on) (ww := CFSr.w_handed_on) F sc_handed_on rfl CFSr.len_handed_on (by
      intro cdv A outer s H E hr g hgL
      unfold CFSr.w_handed_on
      refine eb_cons ?_ ?_
      refine es_set (i := 3) sc_handed_on.nd rfl (Or.inl rfl) ?_
      refine ee_list (by rfl) m_list ?_
      refine ea_cons ?_ ?_
      exact ee_var (pv 0)
      exact ea_nil
      refine eb_cons ?_ ?_
      refine es_while PassesOwn.never ?_ ?_
      refine et_notN ?_
      refine ee_dixL (i := 1) (units65 hr) (pv 1) ?_
      exact ee_var (pv 2)
      refine eb_cons ?_ ?_
      refine es_asg ?_ (eg_tup rfl (egs_cons (eg_name (i := 4) sc_handed_on.nd rfl (Or.inl rfl)) (egs_cons (eg_name (i := 5) sc_handed_on.nd rfl (Or.inl rfl)) egs_nil)))
      refine ee_dixL (i := 1) (units65 hr) (pv 1) ?_
      exact ee_var (pv 2)
      refine eb_cons ?_ ?_
      refine es_setIx (i := 3) (lt_ hgL rfl) (pv 3) ?_ ?_
      exact ee_var (pv 2)
      exact ee_var (pv 5)
      refine eb_one ?_
      refine es_setF (i := 2) sc_handed_on.nd rfl (Or.inl rfl) ?_
      exact ee_var (pv 4)
      refine eb_one ?_
      refine es_ret ?_
      refine ee_tuple (by rfl) m_tuple ?_
      refine ea_cons ?_ ?_
      exact ee_ln (i := 3) (lt_ hgL rfl) (pv 3)
      exact ea_nil) CFSr.ok_handed_on, gl, F.kp, F.bindsN (fun _ _ _ _ _ _ us hl => match us, hl with | [_, _, _], _ => rfl)⟩
theorem has_better {a : Addr} {fd : FuncData} (F : FunD K "better" "better" (defArgs st_better) (defBody st_better) (defScope st_better) [] [] a fd) (gl : mg "better" = some (.ref a)) (h_counts_behind : Has P w K mg base 1 "counts_behind" CFCb.S_counts_behind) (m_sorted : mg "sorted" = none) (m_set : mg "set" = none) (h_reached : Has P w K mg base 1 "reached" CFSr.S_reached) (h_handed_on : Has P w K mg base 1 "handed_on" CFSr.S_handed_on) : Has P w K mg base 2 "better" CFSr.S_better :=
  ⟨a, fd, P_better, fn0 (k := 1) (L := CFSr.L_better) (ww := CFSr.w_better) F sc_better rfl CFSr.len_better (by
      intro cdv A outer s H E hr g hgL
      unfold CFSr.w_better
      refine eb_cons ?_ ?_
      refine es_set (i := 3) sc_better.nd rfl (Or.inl rfl) ?_
      refine ee_gl h_counts_behind (hr.mono (by decide)) (by rfl) takesW0 ?_
      refine ea_cons ?_ ?_
      exact ee_varP (pv 1)
      refine ea_cons ?_ ?_
      exact ee_var (pv 2)
      exact ea_nil
      refine eb_cons ?_ ?_
      refine es_for PassesOwn.never rfl ?_ (eg_name (i := 4) sc_better.nd rfl (Or.inl rfl)) ?_
      refine ei_lst ?_
      refine ee_sortSetT rfl (by rfl) m_sorted (by rfl) m_set ?_
      refine ee_lc (own := [("hand", 4)]) rfl sc_better.nd (lf_ hgL rfl) ?_ (blkOk_by (own := [("hand", 4)]) (N := N_better) (sc := defScope st_better) (by decide +kernel)) (fun _ _ _ _ _ => eg_name (i := 4) sc_better.nd rfl (Or.inl rfl)) (fun _ _ _ _ _ => ets_one (et_notN (ee_var (pv 4)))) (fun _ _ _ _ _ => ee_var (pv 4))
      refine ei_seq ?_
      exact ee_var (pv 2)
      refine eb_cons ?_ ?_
      refine es_set (i := 5) sc_better.nd rfl (Or.inl rfl) ?_
      refine ee_has h_reached (hr.mono (by decide)) (by rfl) ?_
      refine ea_cons ?_ ?_
      exact ee_var (pv 0)
      refine ea_cons ?_ ?_
      exact ee_var (pv 2)
      refine ea_cons ?_ ?_
      exact ee_var (pv 4)
      exact ea_nil
      refine eb_one ?_
      refine es_forD (i := 5) PassesOwn.never rfl (lt_ hgL rfl) (pv 5) (eg_name (i := 6) sc_better.nd rfl (Or.inl rfl)) ?_
      refine eb_one ?_
      refine es_if ?_ ?_ ?_
      refine et_le ?_ ?_
      refine ee_add ?_ ?_
      refine ee_dget (i := 3) (units65 hr) (pv 3) ?_ ?_
      exact ee_var (pv 6)
      exact ee_int
      exact ee_int
      refine ee_dix (i := 3) (units65 hr) (pv 3) ?_
      exact ee_var (pv 4)
      refine eb_one ?_
      refine es_ret ?_
      refine ee_gl h_handed_on (hr.mono (by decide)) (by rfl) takesW0 ?_
      refine ea_cons ?_ ?_
      exact ee_var (pv 2)
      refine ea_cons ?_ ?_
      exact ee_pk (i := 5) (lt_ hgL rfl) (pv 5)
      refine ea_cons ?_ ?_
      exact ee_var (pv 6)
      exact ea_nil
      exact eb_nil
      refine eb_one ?_
      refine es_ret ?_
      exact ee_non) CFSr.ok_better, gl, F.kp, F.bindsN (fun _ _ _ _ _ _ us hl => match us, hl with | [_, _, _], _ => rfl)⟩
theorem has_share {a : Addr} {fd : FuncData} (F : FunD K "share" "share" (defArgs st_share) (defBody st_share) (defScope st_share) [] [] a fd) (gl : mg "share" = some (.ref a)) (m_tuple : mg "tuple" = none) (h_better : Has P w K mg base 2 "better" CFSr.S_better) : Has P w K mg base 3 "share" CFSr.S_share :=
  ⟨a, fd, P_share, fn0 (k := 2) (L := CFSr.L_share) (ww := CFSr.w_share) F sc_share rfl CFSr.len_share (by
      intro cdv A outer s H E hr g hgL
      unfold CFSr.w_share
      refine eb_cons ?_ ?_
      refine es_setF (i := 2) sc_share.nd rfl (Or.inl rfl) ?_
      refine ee_tuple (by rfl) m_tuple ?_
      refine ea_cons ?_ ?_
      refine ee_lc (own := [("hands", 5)]) rfl sc_share.nd (lf_ hgL rfl) ?_ (blkOk_by (own := [("hands", 5)]) (N := N_share) (sc := defScope st_share) (by decide +kernel)) (fun _ _ _ _ _ => eg_name (i := 5) sc_share.nd rfl (Or.inl rfl)) (fun _ _ _ _ _ => ets_nil) (fun _ _ _ _ _ => ee_ix (ee_plus hr.units (ee_var (pv 5)) (ee_tup (ea_cons ee_non ea_nil))) ee_int)
      refine ei_seq ?_
      exact ee_var (pv 0)
      exact ea_nil
      refine eb_cons ?_ ?_
      refine es_setF (i := 3) sc_share.nd rfl (Or.inl rfl) ?_
      exact ee_var (pv 2)
      refine eb_cons ?_ ?_
      refine es_while PassesOwn.never ?_ ?_
      refine et_notN ?_
      exact ee_var (pv 2)
      refine eb_cons ?_ ?_
      refine es_setF (i := 3) sc_share.nd rfl (Or.inl rfl) ?_
      exact ee_var (pv 2)
      refine eb_one ?_
      refine es_setF (i := 2) sc_share.nd rfl (Or.inl rfl) ?_
      refine ee_gl h_better (hr.mono (by decide)) (by rfl) takesW0 ?_
      refine ea_cons ?_ ?_
      exact ee_var (pv 0)
      refine ea_cons ?_ ?_
      exact ee_varP (pv 1)
      refine ea_cons ?_ ?_
      exact ee_var (pv 3)
      exact ea_nil
      refine eb_one ?_
      refine es_ret ?_
      exact ee_var (pv 3)) CFSr.ok_share, gl, F.kp, F.bindsN (fun _ _ _ _ _ _ us hl => match us, hl with | [_, _], _ => rfl)⟩
theorem has_law_hand {a : Addr} {fd : FuncData} (F : FunD K "_law_hand" "_law_hand" (defArgs st_law_hand) (defBody st_law_hand) (defScope st_law_hand) [] [] a fd) (gl : mg "_law_hand" = some (.ref a)) (m_len : mg "len" = none) (m_int : mg "int" = none) : Has P w K mg base 1 "_law_hand" CFH.S_law_hand :=
  ⟨a, fd, P_law_hand, fn0 (k := 0) (L := CFH.L_law_hand) (ww := CFH.w_law_hand) F sc_law_hand rfl CFH.len_law_hand (by
      intro cdv A outer s H E hr g hgL
      unfold CFH.w_law_hand
      refine eb_cons ?_ ?_
      refine es_setF (i := 2) sc_law_hand.nd rfl (Or.inl rfl) ?_
      exact ee_int
      refine eb_cons ?_ ?_
      refine es_if ?_ ?_ ?_
      refine et_lt ?_ ?_
      exact ee_var (pv 1)
      refine ee_len (by rfl) m_len ?_
      refine ea_cons ?_ ?_
      exact ee_var (pv 0)
      exact ea_nil
      refine eb_one ?_
      refine es_setF (i := 2) sc_law_hand.nd rfl (Or.inl rfl) ?_
      refine ee_ix ?_ ?_
      exact ee_var (pv 0)
      exact ee_var (pv 1)
      exact eb_nil
      refine eb_one ?_
      refine es_ret ?_
      refine ee_lst ?_
      refine ea_cons ?_ ?_
      refine ee_mul ?_ ?_
      exact ee_var (pv 2)
      refine ee_int1 (by rfl) m_int ?_
      refine ea_cons ?_ ?_
      refine ee_ge ?_ ?_
      exact ee_var (pv 2)
      refine ee_pow ?_ ?_
      exact ee_int
      exact ee_int
      exact ea_nil
      refine ea_cons ?_ ?_
      refine ee_add ?_ ?_
      refine ee_add ?_ ?_
      refine ee_mod ?_ ?_
      exact ee_var (pv 2)
      exact ee_int
      refine ee_mul ?_ ?_
      exact ee_int
      exact ee_var (pv 1)
      exact ee_int
      refine ea_cons ?_ ?_
      exact ee_int
      exact ea_nil) CFH.ok_law_hand, gl, F.kp, F.bindsN (fun _ _ _ _ _ _ us hl => match us, hl with | [_, _], _ => rfl)⟩
theorem has_law_take {a : Addr} {fd : FuncData} (F : FunD K "_law_take" "_law_take" (defArgs st_law_take) (defBody st_law_take) (defScope st_law_take) [] [] a fd) (gl : mg "_law_take" = some (.ref a))  : Has P w K mg base 1 "_law_take" CFH.S_law_take :=
  ⟨a, fd, P_law_take, fn0 (k := 0) (L := CFH.L_law_take) (ww := CFH.w_law_take) F sc_law_take rfl CFH.len_law_take (by
      intro cdv A outer s H E hr g hgL
      unfold CFH.w_law_take
      refine eb_cons ?_ ?_
      refine es_if ?_ ?_ ?_
      refine et_gt ?_ ?_
      refine ee_ix ?_ ?_
      exact ee_ln (i := 0) (lt_ hgL rfl) (pv 0)
      exact ee_int
      exact ee_int
      refine eb_cons ?_ ?_
      refine es_setF (i := 2) sc_law_take.nd rfl (Or.inl rfl) ?_
      refine ee_mod ?_ ?_
      refine ee_ix ?_ ?_
      exact ee_ln (i := 0) (lt_ hgL rfl) (pv 0)
      exact ee_int
      exact ee_var (pv 1)
      refine eb_cons ?_ ?_
      refine es_setIx (i := 0) (lt_ hgL rfl) (pv 0) ?_ ?_
      refine ee_div ?_ ?_
      refine ee_ix ?_ ?_
      exact ee_ln (i := 0) (lt_ hgL rfl) (pv 0)
      exact ee_int
      exact ee_var (pv 1)
      exact ee_int
      refine eb_one ?_
      refine es_ret ?_
      exact ee_var (pv 2)
      exact eb_nil
      refine eb_cons ?_ ?_
      refine es_setIx (i := 0) (lt_ hgL rfl) (pv 0) ?_ ?_
      refine ee_add ?_ ?_
      refine ee_ix ?_ ?_
      exact ee_ln (i := 0) (lt_ hgL rfl) (pv 0)
      exact ee_int
      exact ee_int
      exact ee_int
      refine eb_cons ?_ ?_
      refine es_setF (i := 3) sc_law_take.nd rfl (Or.inl rfl) ?_
      refine ee_ix ?_ ?_
      exact ee_ln (i := 0) (lt_ hgL rfl) (pv 0)
      exact ee_int
      refine eb_cons ?_ ?_
      refine es_setF (i := 4) sc_law_take.nd rfl (Or.inl rfl) ?_
      refine ee_add ?_ ?_
      refine ee_add ?_ ?_
      exact ee_int
      refine ee_mul ?_ ?_
      refine ee_mul ?_ ?_
      exact ee_int
      exact ee_var (pv 3)
      exact ee_var (pv 3)
      refine ee_mul ?_ ?_
      exact ee_int
      exact ee_var (pv 3)
      refine eb_cons ?_ ?_
      refine es_setF (i := 5) sc_law_take.nd rfl (Or.inl rfl) ?_
      refine ee_mod ?_ ?_
      refine ee_mul ?_ ?_
      refine ee_add ?_ ?_
      refine ee_ix ?_ ?_
      exact ee_ln (i := 0) (lt_ hgL rfl) (pv 0)
      exact ee_int
      refine ee_mul ?_ ?_
      exact ee_int
      exact ee_var (pv 3)
      exact ee_var (pv 4)
      exact ee_int
      refine eb_cons ?_ ?_
      refine es_setF (i := 6) sc_law_take.nd rfl (Or.inl rfl) ?_
      refine ee_add ?_ ?_
      refine ee_add ?_ ?_
      refine ee_mod ?_ ?_
      exact ee_var (pv 5)
      exact ee_int
      refine ee_mul ?_ ?_
      exact ee_var (pv 3)
      exact ee_int
      exact ee_int
      refine eb_cons ?_ ?_
      refine es_setF (i := 5) sc_law_take.nd rfl (Or.inl rfl) ?_
      refine ee_mod ?_ ?_
      refine ee_mul ?_ ?_
      exact ee_var (pv 5)
      exact ee_var (pv 6)
      exact ee_int
      refine eb_one ?_
      refine es_ret ?_
      refine ee_mod ?_ ?_
      refine ee_add ?_ ?_
      refine ee_div ?_ ?_
      exact ee_var (pv 5)
      exact ee_int
      refine ee_div ?_ ?_
      exact ee_var (pv 5)
      exact ee_int
      exact ee_var (pv 1)) CFH.ok_law_take, gl, F.kp, F.bindsN (fun _ _ _ _ _ _ us hl => match us, hl with | [_, _], _ => rfl)⟩
theorem has_law_pick {a : Addr} {fd : FuncData} (F : FunD K "_law_pick" "_law_pick" (defArgs st_law_pick) (defBody st_law_pick) (defScope st_law_pick) [] [] a fd) (gl : mg "_law_pick" = some (.ref a)) (h_law_take : Has P w K mg base 1 "_law_take" CFH.S_law_take) (m_len : mg "len" = none) : Has P w K mg base 2 "_law_pick" CFH.S_law_pick :=
  ⟨a, fd, P_law_pick, fn0 (k := 1) (L := CFH.L_law_pick) (ww := CFH.w_law_pick) F sc_law_pick rfl CFH.len_law_pick (by
      intro cdv A outer s H E hr g hgL
      unfold CFH.w_law_pick
      refine eb_one ?_
      refine es_ret ?_
      refine ee_ix ?_ ?_
      exact ee_var (pv 1)
      refine ee_has h_law_take (hr.mono (by decide)) (by rfl) ?_
      refine ea_cons ?_ ?_
      exact ee_pk (i := 0) (lt_ hgL rfl) (pv 0)
      refine ea_cons ?_ ?_
      refine ee_len (by rfl) m_len ?_
      refine ea_cons ?_ ?_
      exact ee_var (pv 1)
      exact ea_nil
      exact ea_nil) CFH.ok_law_pick, gl, F.kp, F.bindsN (fun _ _ _ _ _ _ us hl => match us, hl with | [_, _], _ => rfl)⟩
theorem has_law_words {a : Addr} {fd : FuncData} (F : FunD K "_law_words" "_law_words" (defArgs st_law_words) (defBody st_law_words) (defScope st_law_words) [] [] a fd) (gl : mg "_law_words" = some (.ref a)) (h_law_pick : Has P w K mg base 2 "_law_pick" CFH.S_law_pick) (h_law_take : Has P w K mg base 1 "_law_take" CFH.S_law_take) (m_len : mg "len" = none) (m_range : mg "range" = none) : Has P w K mg base 3 "_law_words" CFWe.S_law_words :=
  ⟨a, fd, P_law_words, fn0 (k := 2) (L := CFWe.L_law_words) (ww := CFWe.w_law_words) F sc_law_words rfl CFWe.len_law_words (by
      intro cdv A outer s H E hr g hgL
      unfold CFWe.w_law_words
      refine eb_cons ?_ ?_
      refine es_setF (i := 2) sc_law_words.nd rfl (Or.inl rfl) ?_
      exact ee_str
      refine eb_cons ?_ ?_
      refine es_par (i := 3) (j := 4) rfl sc_law_words.nd rfl rfl (by decide) rfl rfl ?_ (by rfl)
      refine ea_cons ?_ ?_
      refine ee_has h_law_take (hr.mono (by decide)) (by rfl) ?_
      refine ea_cons ?_ ?_
      exact ee_pk (i := 0) (lt_ hgL rfl) (pv 0)
      refine ea_cons ?_ ?_
      exact ee_int
      exact ea_nil
      refine ea_cons ?_ ?_
      refine ee_has h_law_pick (hr.mono (by decide)) (by rfl) ?_
      refine ea_cons ?_ ?_
      exact ee_pk (i := 0) (lt_ hgL rfl) (pv 0)
      refine ea_cons ?_ ?_
      refine ee_lst ?_
      refine ea_cons ?_ ?_
      exact ee_int
      refine ea_cons ?_ ?_
      exact ee_int
      refine ea_cons ?_ ?_
      exact ee_int
      refine ea_cons ?_ ?_
      exact ee_int
      refine ea_cons ?_ ?_
      exact ee_int
      refine ea_cons ?_ ?_
      exact ee_int
      exact ea_nil
      exact ea_nil
      exact ea_nil
      refine eb_cons ?_ ?_
      refine es_setF (i := 5) sc_law_words.nd rfl (Or.inl rfl) ?_
      refine ee_mulS ?_ ?_
      refine ee_ix ?_ ?_
      exact ee_var (pv 2)
      refine ee_has h_law_take (hr.mono (by decide)) (by rfl) ?_
      refine ea_cons ?_ ?_
      exact ee_pk (i := 0) (lt_ hgL rfl) (pv 0)
      refine ea_cons ?_ ?_
      exact ee_int
      exact ea_nil
      refine ee_has h_law_pick (hr.mono (by decide)) (by rfl) ?_
      refine ea_cons ?_ ?_
      exact ee_pk (i := 0) (lt_ hgL rfl) (pv 0)
      refine ea_cons ?_ ?_
      refine ee_lst ?_
      refine ea_cons ?_ ?_
      exact ee_int
      refine ea_cons ?_ ?_
      exact ee_int
      refine ea_cons ?_ ?_
      exact ee_int
      refine ea_cons ?_ ?_
      exact ee_int
      refine ea_cons ?_ ?_
      exact ee_int
      exact ea_nil
      exact ea_nil
      refine eb_cons ?_ ?_
      refine es_par (i := 6) (j := 7) rfl sc_law_words.nd rfl rfl (by decide) rfl rfl ?_ (by rfl)
      refine ea_cons ?_ ?_
      refine ee_has h_law_take (hr.mono (by decide)) (by rfl) ?_
      refine ea_cons ?_ ?_
      exact ee_pk (i := 0) (lt_ hgL rfl) (pv 0)
      refine ea_cons ?_ ?_
      refine ee_add ?_ ?_
      refine ee_len (by rfl) m_len ?_
      refine ea_cons ?_ ?_
      exact ee_var (pv 5)
      exact ea_nil
      exact ee_int
      exact ea_nil
      refine ea_cons ?_ ?_
      refine ee_has h_law_take (hr.mono (by decide)) (by rfl) ?_
      refine ea_cons ?_ ?_
      exact ee_pk (i := 0) (lt_ hgL rfl) (pv 0)
      refine ea_cons ?_ ?_
      exact ee_int
      exact ea_nil
      exact ea_nil
      refine eb_cons ?_ ?_
      refine es_set (i := 8) sc_law_words.nd rfl (Or.inl rfl) ?_
      refine ee_lst ?_
      exact ea_nil
      refine eb_cons ?_ ?_
      refine es_for PassesOwn.never rfl ?_ (eg_name (i := 9) sc_law_words.nd rfl (Or.inl rfl)) ?_
      refine ei_range1 (by rfl) m_range ?_
      refine ea_cons ?_ ?_
      exact ee_var (pv 1)
      exact ea_nil
      refine eb_cons ?_ ?_
      refine es_setF (i := 10) sc_law_words.nd rfl (Or.inl rfl) ?_
      refine ee_mulS ?_ ?_
      refine ee_sl ?_ ?_ ?_
      exact ee_var (pv 5)
      refine eo_some ?_
      exact ee_var (pv 6)
      exact eo_none
      refine ee_sub ?_ ?_
      exact ee_int
      refine ee_mul ?_ ?_
      exact ee_var (pv 7)
      refine ee_mod ?_ ?_
      exact ee_var (pv 9)
      exact ee_int
      refine eb_one ?_
      refine es_expr ?_
      refine ee_app (i := 8) (lt_ hgL rfl) (pv 8) ?_
      refine ee_plus hr.units ?_ ?_
      refine ee_plus hr.units ?_ ?_
      refine ee_sl ?_ ?_ ?_
      exact ee_var (pv 5)
      exact eo_none
      refine eo_some ?_
      exact ee_var (pv 6)
      refine ee_ix ?_ ?_
      exact ee_var (pv 2)
      refine ee_mod ?_ ?_
      refine ee_add ?_ ?_
      exact ee_var (pv 3)
      refine ee_mul ?_ ?_
      exact ee_var (pv 4)
      exact ee_var (pv 9)
      exact ee_int
      exact ee_var (pv 10)
      refine eb_one ?_
      exact es_retO (i := 8) (lt_ hgL rfl) (pv 8)) CFWe.ok_law_words, gl, F.kp, F.bindsN (fun _ _ _ _ _ _ us hl => match us, hl with | [_, _], _ => rfl)⟩
theorem has_law_nights {a : Addr} {fd : FuncData} (F : FunD K "_law_nights" "_law_nights" (defArgs st_law_nights) (defBody st_law_nights) (defScope st_law_nights) [] [] a fd) (gl : mg "_law_nights" = some (.ref a)) (h_law_take : Has P w K mg base 1 "_law_take" CFH.S_law_take) (m_range : mg "range" = none) (m_len : mg "len" = none) (m_list : mg "list" = none) (m_tuple : mg "tuple" = none) (m_sorted : mg "sorted" = none) (m_set : mg "set" = none) : Has P w K mg base 2 "_law_nights" CFSl.S_law_nights :=
  ⟨a, fd, P_law_nights, fn0 (k := 1) (L := CFSl.L_law_nights) (ww := CFSl.w_law_nights) F sc_law_nights rfl CFSl.len_law_nights (by
      intro cdv A outer s H E hr g hgL
      unfold CFSl.w_law_nights
      refine eb_cons ?_ ?_
      refine es_set (i := 3) sc_law_nights.nd rfl (Or.inl rfl) ?_
      refine ee_lst ?_
      exact ea_nil
      refine eb_cons ?_ ?_
      refine es_setF (i := 4) sc_law_nights.nd rfl (Or.inl rfl) ?_
      refine ee_has h_law_take (hr.mono (by decide)) (by rfl) ?_
      refine ea_cons ?_ ?_
      exact ee_pk (i := 0) (lt_ hgL rfl) (pv 0)
      refine ea_cons ?_ ?_
      exact ee_int
      exact ea_nil
      refine eb_cons ?_ ?_
      refine es_for PassesOwn.never rfl ?_ (eg_name (i := 5) sc_law_nights.nd rfl (Or.inl rfl)) ?_
      refine ei_range1 (by rfl) m_range ?_
      refine ea_cons ?_ ?_
      refine ee_has h_law_take (hr.mono (by decide)) (by rfl) ?_
      refine ea_cons ?_ ?_
      exact ee_pk (i := 0) (lt_ hgL rfl) (pv 0)
      refine ea_cons ?_ ?_
      refine ee_add ?_ ?_
      exact ee_var (pv 2)
      exact ee_int
      exact ea_nil
      exact ea_nil
      refine eb_cons ?_ ?_
      refine es_setF (i := 6) sc_law_nights.nd rfl (Or.inl rfl) ?_
      refine ee_ix ?_ ?_
      refine ee_lst ?_
      refine ea_cons ?_ ?_
      refine ee_has h_law_take (hr.mono (by decide)) (by rfl) ?_
      refine ea_cons ?_ ?_
      exact ee_pk (i := 0) (lt_ hgL rfl) (pv 0)
      refine ea_cons ?_ ?_
      exact ee_int
      exact ea_nil
      refine ea_cons ?_ ?_
      exact ee_int
      refine ea_cons ?_ ?_
      exact ee_int
      refine ea_cons ?_ ?_
      exact ee_int
      exact ea_nil
      exact ee_var (pv 4)
      refine eb_cons ?_ ?_
      refine es_setF (i := 7) sc_law_nights.nd rfl (Or.inl rfl) ?_
      refine ee_has h_law_take (hr.mono (by decide)) (by rfl) ?_
      refine ea_cons ?_ ?_
      exact ee_pk (i := 0) (lt_ hgL rfl) (pv 0)
      refine ea_cons ?_ ?_
      refine ee_len (by rfl) m_len ?_
      refine ea_cons ?_ ?_
      exact ee_var (pv 1)
      exact ea_nil
      exact ea_nil
      refine eb_cons ?_ ?_
      refine es_if ?_ ?_ ?_
      refine et_eq hr.units ?_ ?_
      exact ee_var (pv 6)
      exact ee_int
      refine eb_one ?_
      refine es_setLcF (i := 8) (own := [("_law_one", 10)]) rfl sc_law_nights.nd rfl rfl (sw_true rfl rfl rfl (by decide +kernel)) (lf_ hgL rfl) ?_ (blkOk_by (own := [("_law_one", 10)]) (N := N_law_nights) (sc := defScope st_law_nights) (by decide +kernel)) (fun _ _ _ _ _ => eg_name (i := 10) sc_law_nights.nd rfl (Or.inl rfl)) (fun _ _ _ _ _ => ets_one (et_eq hr.units (ee_has h_law_take (hr.mono (by decide)) (by rfl) (ea_cons (ee_pk (i := 0) (lt_ hgL rfl) (pv 0)) (ea_cons ee_int ea_nil))) ee_int)) (fun _ _ _ _ _ => ee_var (pv 10))
      refine ei_seq ?_
      exact ee_var (pv 1)
      refine eb_one ?_
      refine es_if ?_ ?_ ?_
      refine et_eq hr.units ?_ ?_
      exact ee_var (pv 6)
      exact ee_int
      refine eb_one ?_
      refine es_setF (i := 8) sc_law_nights.nd rfl (Or.inl rfl) ?_
      refine ee_lst ?_
      refine ea_cons ?_ ?_
      refine ee_ix ?_ ?_
      exact ee_var (pv 1)
      exact ee_var (pv 7)
      refine ea_cons ?_ ?_
      refine ee_ix ?_ ?_
      exact ee_var (pv 1)
      refine ee_mod ?_ ?_
      refine ee_add ?_ ?_
      exact ee_var (pv 7)
      exact ee_int
      refine ee_len (by rfl) m_len ?_
      refine ea_cons ?_ ?_
      exact ee_var (pv 1)
      exact ea_nil
      exact ea_nil
      refine eb_one ?_
      refine es_if ?_ ?_ ?_
      refine et_eq hr.units ?_ ?_
      exact ee_var (pv 6)
      exact ee_int
      refine eb_one ?_
      refine es_setF (i := 8) sc_law_nights.nd rfl (Or.inl rfl) ?_
      refine ee_lst ?_
      refine ea_cons ?_ ?_
      refine ee_ix ?_ ?_
      exact ee_var (pv 1)
      refine ee_mod ?_ ?_
      exact ee_var (pv 5)
      refine ee_len (by rfl) m_len ?_
      refine ea_cons ?_ ?_
      exact ee_var (pv 1)
      exact ea_nil
      refine ea_cons ?_ ?_
      refine ee_ix ?_ ?_
      exact ee_var (pv 1)
      refine ee_mod ?_ ?_
      refine ee_add ?_ ?_
      exact ee_var (pv 5)
      exact ee_int
      refine ee_len (by rfl) m_len ?_
      refine ea_cons ?_ ?_
      exact ee_var (pv 1)
      exact ea_nil
      exact ea_nil
      refine eb_one ?_
      refine es_setF (i := 8) sc_law_nights.nd rfl (Or.inl rfl) ?_
      refine ee_ix ?_ ?_
      refine ee_lst ?_
      refine ea_cons ?_ ?_
      refine ee_lst ?_
      refine ea_cons ?_ ?_
      refine ee_ix ?_ ?_
      exact ee_var (pv 1)
      exact ee_var (pv 7)
      exact ea_nil
      refine ea_cons ?_ ?_
      refine ee_list (by rfl) m_list ?_
      refine ea_cons ?_ ?_
      exact ee_var (pv 1)
      exact ea_nil
      refine ea_cons ?_ ?_
      refine ee_lst ?_
      exact ea_nil
      exact ea_nil
      refine ee_sub ?_ ?_
      exact ee_var (pv 6)
      exact ee_int
      refine eb_one ?_
      refine es_expr ?_
      refine ee_app (i := 3) (lt_ hgL rfl) (pv 3) ?_
      refine ee_tuple (by rfl) m_tuple ?_
      refine ea_cons ?_ ?_
      refine ee_sortSetT rfl (by rfl) m_sorted (by rfl) m_set ?_
      exact ee_var (pv 8)
      exact ea_nil
      refine eb_one ?_
      refine es_ret ?_
      refine ee_tuple (by rfl) m_tuple ?_
      refine ea_cons ?_ ?_
      exact ee_ln (i := 3) (lt_ hgL rfl) (pv 3)
      exact ea_nil) CFSl.ok_law_nights, gl, F.kp, F.bindsN (fun _ _ _ _ _ _ us hl => match us, hl with | [_, _, _], _ => rfl)⟩
theorem has_law_loads {a : Addr} {fd : FuncData} (F : FunD K "_law_loads" "_law_loads" (defArgs st_law_loads) (defBody st_law_loads) (defScope st_law_loads) [] [] a fd) (gl : mg "_law_loads" = some (.ref a)) (m_sorted : mg "sorted" = none) (h_law_take : Has P w K mg base 1 "_law_take" CFH.S_law_take) (h_law_pick : Has P w K mg base 2 "_law_pick" CFH.S_law_pick) (m_len : mg "len" = none) (m_tuple : mg "tuple" = none) : Has P w K mg base 3 "_law_loads" CFSl.S_law_loads :=
  ⟨a, fd, P_law_loads, fn0 (k := 2) (L := CFSl.L_law_loads) (ww := CFSl.w_law_loads) F sc_law_loads rfl CFSl.len_law_loads (by
      intro cdv A outer s H E hr g hgL
      unfold CFSl.w_law_loads
      refine eb_cons ?_ ?_
      refine es_setLc (i := 2) (own := [("_law_one", 5)]) rfl sc_law_loads.nd rfl rfl (sw_true rfl rfl rfl (by decide +kernel)) (lf_ hgL rfl) ?_ (blkOk_by (own := [("_law_one", 5)]) (N := N_law_loads) (sc := defScope st_law_loads) (by decide +kernel)) (fun _ _ _ _ _ => eg_name (i := 5) sc_law_loads.nd rfl (Or.inl rfl)) (fun _ _ _ _ _ => ets_one (et_gt (ee_has h_law_take (hr.mono (by decide)) (by rfl) (ea_cons (ee_pk (i := 0) (lt_ hgL rfl) (pv 0)) (ea_cons ee_int ea_nil))) ee_int)) (fun _ _ _ _ _ => ee_tup (ea_cons (ee_var (pv 5)) (ea_cons (ee_has h_law_pick (hr.mono (by decide)) (by rfl) (ea_cons (ee_pk (i := 0) (lt_ hgL rfl) (pv 0)) (ea_cons (ee_lst (ea_cons ee_int (ea_cons ee_int (ea_cons ee_int (ea_cons ee_int (ea_cons ee_int (ea_cons ee_int ea_nil))))))) ea_nil))) ea_nil)))
      refine ei_lst ?_
      refine ee_sortS (by rfl) m_sorted ?_
      refine ea_cons ?_ ?_
      exact ee_var (pv 1)
      exact ea_nil
      refine eb_cons ?_ ?_
      refine es_if ?_ ?_ ?_
      refine et_w ?_
      refine ew_and ?_ ?_
      refine et_ne hr.units ?_ ?_
      exact ee_ln (i := 2) (lt_ hgL rfl) (pv 2)
      refine ee_lst ?_
      exact ea_nil
      refine ew_and1 ?_
      refine et_eq hr.units ?_ ?_
      refine ee_has h_law_take (hr.mono (by decide)) (by rfl) ?_
      refine ea_cons ?_ ?_
      exact ee_pk (i := 0) (lt_ hgL rfl) (pv 0)
      refine ea_cons ?_ ?_
      exact ee_int
      exact ea_nil
      exact ee_int
      refine eb_cons ?_ ?_
      refine es_setF (i := 3) sc_law_loads.nd rfl (Or.inl rfl) ?_
      refine ee_has h_law_take (hr.mono (by decide)) (by rfl) ?_
      refine ea_cons ?_ ?_
      exact ee_pk (i := 0) (lt_ hgL rfl) (pv 0)
      refine ea_cons ?_ ?_
      refine ee_len (by rfl) m_len ?_
      refine ea_cons ?_ ?_
      exact ee_ln (i := 2) (lt_ hgL rfl) (pv 2)
      exact ea_nil
      exact ea_nil
      refine eb_one ?_
      refine es_setIx (i := 2) (lt_ hgL rfl) (pv 2) ?_ ?_
      refine ee_tup ?_
      refine ea_cons ?_ ?_
      refine ee_ix ?_ ?_
      refine ee_ix ?_ ?_
      exact ee_ln (i := 2) (lt_ hgL rfl) (pv 2)
      exact ee_var (pv 3)
      exact ee_int
      refine ea_cons ?_ ?_
      refine ee_has h_law_take (hr.mono (by decide)) (by rfl) ?_
      refine ea_cons ?_ ?_
      exact ee_pk (i := 0) (lt_ hgL rfl) (pv 0)
      refine ea_cons ?_ ?_
      refine ee_pow ?_ ?_
      exact ee_int
      exact ee_int
      exact ea_nil
      exact ea_nil
      exact ee_var (pv 3)
      exact eb_nil
      refine eb_one ?_
      refine es_ret ?_
      refine ee_tupP (by rfl) m_tuple ?_
      refine ea_cons ?_ ?_
      exact ee_ln (i := 2) (lt_ hgL rfl) (pv 2)
      exact ea_nil) CFSl.ok_law_loads, gl, F.kp, F.bindsN (fun _ _ _ _ _ _ us hl => match us, hl with | [_, _], _ => rfl)⟩
theorem has_law_plan {a : Addr} {fd : FuncData} (F : FunD K "_law_plan" "_law_plan" (defArgs st_law_plan) (defBody st_law_plan) (defScope st_law_plan) [] [] a fd) (gl : mg "_law_plan" = some (.ref a)) (m_isinstance : mg "isinstance" = none) (m_tuple : mg "tuple" = none) (m_len : mg "len" = none) (m_zip : mg "zip" = none) : Has P w K mg base 1 "_law_plan" CFSl.S_law_plan :=
  ⟨a, fd, P_law_plan, fn0 (k := 0) (L := CFSl.L_law_plan) (ww := CFSl.w_law_plan) F sc_law_plan rfl CFSl.len_law_plan (by
      intro cdv A outer s H E hr g hgL
      unfold CFSl.w_law_plan
      refine eb_cons ?_ ?_
      refine es_if ?_ ?_ ?_
      refine et_w ?_
      refine ew_or ?_ ?_
      refine et_not ?_
      refine et_val ?_
      refine ee_isi2 (by rfl) m_isinstance (by rfl) m_tuple ?_
      exact ee_var (pv 1)
      refine ew_or1 ?_
      refine et_ne hr.units ?_ ?_
      refine ee_len (by rfl) m_len ?_
      refine ea_cons ?_ ?_
      exact ee_var (pv 1)
      exact ea_nil
      refine ee_len (by rfl) m_len ?_
      refine ea_cons ?_ ?_
      exact ee_var (pv 0)
      exact ea_nil
      refine eb_one ?_
      refine es_ret ?_
      exact ee_bl
      exact eb_nil
      refine eb_cons ?_ ?_
      refine es_for PassesOwn.never rfl ?_ (eg_tup rfl (egs_cons (eg_name (i := 2) sc_law_plan.nd rfl (Or.inl rfl)) (egs_cons (eg_name (i := 3) sc_law_plan.nd rfl (Or.inl rfl)) egs_nil))) ?_
      refine ei_zip (by rfl) m_zip ?_
      refine ea_cons ?_ ?_
      exact ee_var (pv 0)
      refine ea_cons ?_ ?_
      exact ee_var (pv 1)
      exact ea_nil
      refine eb_one ?_
      refine es_if ?_ ?_ ?_
      refine et_w ?_
      refine ew_or ?_ ?_
      refine et_w ?_
      refine ew_and ?_ ?_
      refine et_eq hr.units ?_ ?_
      exact ee_var (pv 2)
      refine ee_tup ?_
      exact ea_nil
      refine ew_and1 ?_
      refine et_notN ?_
      exact ee_var (pv 3)
      refine ew_or1 ?_
      refine et_w ?_
      refine ew_and ?_ ?_
      refine et_ne hr.units ?_ ?_
      exact ee_var (pv 2)
      refine ee_tup ?_
      exact ea_nil
      refine ew_and1 ?_
      refine et_notin (units65 hr) ?_ ?_
      exact ee_var (pv 3)
      exact ee_var (pv 2)
      refine eb_one ?_
      refine es_ret ?_
      exact ee_bl
      exact eb_nil
      refine eb_one ?_
      refine es_ret ?_
      exact ee_bl) CFSl.ok_law_plan, gl, F.kp, F.bindsN (fun _ _ _ _ _ _ us hl => match us, hl with | [_, _], _ => rfl)⟩
theorem has_law_counts {a : Addr} {fd : FuncData} (F : FunD K "_law_counts" "_law_counts" (defArgs st_law_counts) (defBody st_law_counts) (defScope st_law_counts) [] [] a fd) (gl : mg "_law_counts" = some (.ref a)) (m_dict : mg "dict" = none) : Has P w K mg base 1 "_law_counts" CFSl.S_law_counts :=
  ⟨a, fd, P_law_counts, fn0 (k := 0) (L := CFSl.L_law_counts) (ww := CFSl.w_law_counts) F sc_law_counts rfl CFSl.len_law_counts (by
      intro cdv A outer s H E hr g hgL
      unfold CFSl.w_law_counts
      refine eb_cons ?_ ?_
      refine es_set (i := 3) sc_law_counts.nd rfl (Or.inl rfl) ?_
      exact ee_dnew
      refine eb_cons ?_ ?_
      refine es_for PassesOwn.never rfl ?_ (eg_name (i := 4) sc_law_counts.nd rfl (Or.inl rfl)) ?_
      refine ei_seq ?_
      exact ee_var (pv 0)
      refine eb_one ?_
      refine es_for PassesOwn.never rfl ?_ (eg_name (i := 5) sc_law_counts.nd rfl (Or.inl rfl)) ?_
      refine ei_seq ?_
      exact ee_var (pv 4)
      refine eb_one ?_
      refine es_dput (i := 3) (units65 hr) (lt_ hgL rfl) (pv 3) ?_ ?_
      exact ee_int
      exact ee_var (pv 5)
      refine eb_cons ?_ ?_
      refine es_expr ?_
      refine ee_dupd (i := 3) (lt_ hgL rfl) (pv 3) ?_
      refine ee_dictP rfl (by rfl) m_dict ?_
      exact ee_varP (pv 1)
      refine eb_cons ?_ ?_
      refine es_for PassesOwn.never rfl ?_ (eg_name (i := 5) sc_law_counts.nd rfl (Or.inl rfl)) ?_
      refine ei_seq ?_
      exact ee_var (pv 2)
      refine eb_one ?_
      refine es_if ?_ ?_ ?_
      refine et_notN ?_
      exact ee_var (pv 5)
      refine eb_one ?_
      refine es_dput (i := 3) (units65 hr) (lt_ hgL rfl) (pv 3) ?_ ?_
      refine ee_add ?_ ?_
      refine ee_dix (i := 3) (units65 hr) (pv 3) ?_
      exact ee_var (pv 5)
      exact ee_int
      exact ee_var (pv 5)
      exact eb_nil
      refine eb_one ?_
      exact es_retO (i := 3) (lt_ hgL rfl) (pv 3)) CFSl.ok_law_counts, gl, F.kp, F.bindsN (fun _ _ _ _ _ _ us hl => match us, hl with | [_, _, _], _ => rfl)⟩
theorem has_law_reach {a : Addr} {fd : FuncData} (F : FunD K "_law_reach" "_law_reach" (defArgs st_law_reach) (defBody st_law_reach) (defScope st_law_reach) [] [] a fd) (gl : mg "_law_reach" = some (.ref a)) (m_range : mg "range" = none) (m_len : mg "len" = none) (m_zip : mg "zip" = none) : Has P w K mg base 1 "_law_reach" CFSl.S_law_reach :=
  ⟨a, fd, P_law_reach, fn0 (k := 0) (L := CFSl.L_law_reach) (ww := CFSl.w_law_reach) F sc_law_reach rfl CFSl.len_law_reach (by
      intro cdv A outer s H E hr g hgL
      unfold CFSl.w_law_reach
      refine eb_cons ?_ ?_
      refine es_set (i := 3) sc_law_reach.nd rfl (Or.inr rfl) ?_
      refine ee_lst ?_
      refine ea_cons ?_ ?_
      exact ee_var (pv 2)
      exact ea_nil
      refine eb_cons ?_ ?_
      refine es_for PassesOwn.never rfl ?_ (eg_name (i := 4) sc_law_reach.nd rfl (Or.inl rfl)) ?_
      refine ei_range1 (by rfl) m_range ?_
      refine ea_cons ?_ ?_
      refine ee_add ?_ ?_
      refine ee_len (by rfl) m_len ?_
      refine ea_cons ?_ ?_
      exact ee_var (pv 0)
      exact ea_nil
      exact ee_int
      exact ea_nil
      refine eb_one ?_
      refine es_for PassesOwn.never rfl ?_ (eg_tup rfl (egs_cons (eg_name (i := 5) sc_law_reach.nd rfl (Or.inl rfl)) (egs_cons (eg_name (i := 6) sc_law_reach.nd rfl (Or.inl rfl)) egs_nil))) ?_
      refine ei_zip (by rfl) m_zip ?_
      refine ea_cons ?_ ?_
      exact ee_var (pv 0)
      refine ea_cons ?_ ?_
      exact ee_var (pv 1)
      exact ea_nil
      refine eb_one ?_
      refine es_if ?_ ?_ ?_
      refine et_in (units65 hr) ?_ ?_
      exact ee_var (pv 6)
      exact ee_ln (i := 3) (lt_ hgL rfl) (pv 3)
      refine eb_one ?_
      refine es_expr ?_
      refine ee_ext (i := 3) (lt_ hgL rfl) (pv 3) ?_
      refine ee_lc (own := [("_law_other", 8)]) rfl sc_law_reach.nd (lf_ hgL rfl) ?_ (blkOk_by (own := [("_law_other", 8)]) (N := N_law_reach) (sc := defScope st_law_reach) (by decide +kernel)) (fun _ _ _ _ _ => eg_name (i := 8) sc_law_reach.nd rfl (Or.inl rfl)) (fun _ _ _ _ _ => ets_one (et_notin (units65 hr) (ee_var (pv 8)) (ee_ln (i := 3) (lt_ hgL rfl) (pv 3)))) (fun _ _ _ _ _ => ee_var (pv 8))
      refine ei_seq ?_
      exact ee_var (pv 5)
      exact eb_nil
      refine eb_one ?_
      exact es_retO (i := 3) (lt_ hgL rfl) (pv 3)) CFSl.ok_law_reach, gl, F.kp, F.bindsN (fun _ _ _ _ _ _ us hl => match us, hl with | [_, _, _], _ => rfl)⟩
theorem has_law_even {a : Addr} {fd : FuncData} (F : FunD K "_law_even" "_law_even" (defArgs st_law_even) (defBody st_law_even) (defScope st_law_even) [] [] a fd) (gl : mg "_law_even" = some (.ref a)) (h_law_counts : Has P w K mg base 1 "_law_counts" CFSl.S_law_counts) (m_sorted : mg "sorted" = none) (m_set : mg "set" = none) (m_min : mg "min" = none) (h_law_reach : Has P w K mg base 1 "_law_reach" CFSl.S_law_reach) : Has P w K mg base 2 "_law_even" CFSl.S_law_even :=
  ⟨a, fd, P_law_even, fn0 (k := 1) (L := CFSl.L_law_even) (ww := CFSl.w_law_even) F sc_law_even rfl CFSl.len_law_even (by
      intro cdv A outer s H E hr g hgL
      unfold CFSl.w_law_even
      refine eb_cons ?_ ?_
      refine es_set (i := 3) sc_law_even.nd rfl (Or.inr rfl) ?_
      refine ee_gl h_law_counts (hr.mono (by decide)) (by rfl) takesW0 ?_
      refine ea_cons ?_ ?_
      exact ee_var (pv 0)
      refine ea_cons ?_ ?_
      exact ee_varP (pv 1)
      refine ea_cons ?_ ?_
      exact ee_var (pv 2)
      exact ea_nil
      refine eb_cons ?_ ?_
      refine es_for PassesOwn.never rfl ?_ (eg_name (i := 4) sc_law_even.nd rfl (Or.inl rfl)) ?_
      refine ei_lst ?_
      refine ee_sortSetT rfl (by rfl) m_sorted (by rfl) m_set ?_
      refine ee_lc (own := [("_law_other", 6)]) rfl sc_law_even.nd (lf_ hgL rfl) ?_ (blkOk_by (own := [("_law_other", 6)]) (N := N_law_even) (sc := defScope st_law_even) (by decide +kernel)) (fun _ _ _ _ _ => eg_name (i := 6) sc_law_even.nd rfl (Or.inl rfl)) (fun _ _ _ _ _ => ets_one (et_notN (ee_var (pv 6)))) (fun _ _ _ _ _ => ee_var (pv 6))
      refine ei_seq ?_
      exact ee_var (pv 2)
      refine eb_one ?_
      refine es_if ?_ ?_ ?_
      refine et_lt ?_ ?_
      refine ee_min1 rfl (by rfl) m_min ?_
      refine ea_cons ?_ ?_
      refine ee_lc (own := [("_law_other", 6)]) rfl sc_law_even.nd (lf_ hgL rfl) ?_ (blkOk_by (own := [("_law_other", 6)]) (N := N_law_even) (sc := defScope st_law_even) (by decide +kernel)) (fun _ _ _ _ _ => eg_name (i := 6) sc_law_even.nd rfl (Or.inl rfl)) (fun _ _ _ _ _ => ets_nil) (fun _ _ _ _ _ => ee_dix (i := 3) (units65 hr) (pv 3) (ee_var (pv 6)))
      refine ei_seq ?_
      refine ee_has h_law_reach (hr.mono (by decide)) (by rfl) ?_
      refine ea_cons ?_ ?_
      exact ee_var (pv 0)
      refine ea_cons ?_ ?_
      exact ee_var (pv 2)
      refine ea_cons ?_ ?_
      exact ee_var (pv 4)
      exact ea_nil
      exact ea_nil
      refine ee_sub ?_ ?_
      refine ee_dix (i := 3) (units65 hr) (pv 3) ?_
      exact ee_var (pv 4)
      exact ee_int
      refine eb_one ?_
      refine es_ret ?_
      exact ee_bl
      exact eb_nil
      refine eb_one ?_
      refine es_ret ?_
      exact ee_bl) CFSl.ok_law_even, gl, F.kp, F.bindsN (fun _ _ _ _ _ _ us hl => match us, hl with | [_, _, _], _ => rfl)⟩
theorem has_law_falling {a : Addr} {fd : FuncData} (F : FunD K "_law_falling" "_law_falling" (defArgs st_law_falling) (defBody st_law_falling) (defScope st_law_falling) [] [] a fd) (gl : mg "_law_falling" = some (.ref a)) (m_sorted : mg "sorted" = none) (h_law_counts : Has P w K mg base 1 "_law_counts" CFSl.S_law_counts) : Has P w K mg base 2 "_law_falling" S_law_falling :=
  ⟨a, fd, P_law_falling, fn0 (k := 1) (L := L_law_falling) (ww := w_law_falling) F sc_law_falling rfl len_law_falling (by
      intro cdv A outer s H E hr g hgL
      unfold w_law_falling
      refine eb_one ?_
      refine es_ret ?_
      refine ee_frzA ?_
      refine ee_sortV (b := true) rfl (by rfl) m_sorted ?_
      refine ee_gl h_law_counts (hr.mono (by decide)) (by rfl) takesW0 ?_
      refine ea_cons ?_ ?_
      exact ee_var (pv 0)
      refine ea_cons ?_ ?_
      exact ee_varP (pv 1)
      refine ea_cons ?_ ?_
      exact ee_var (pv 2)
      exact ea_nil) ok_law_falling, gl, F.kp, F.bindsN (fun _ _ _ _ _ _ us hl => match us, hl with | [_, _, _], _ => rfl)⟩
theorem has_law_turned {a : Addr} {fd : FuncData} (F : FunD K "_law_turned" "_law_turned" (defArgs st_law_turned) (defBody st_law_turned) (defScope st_law_turned) [] [] a fd) (gl : mg "_law_turned" = some (.ref a)) (m_dict : mg "dict" = none) (m_zip : mg "zip" = none) (m_tuple : mg "tuple" = none) (m_sorted : mg "sorted" = none) : Has P w K mg base 1 "_law_turned" S_law_turned :=
  ⟨a, fd, P_law_turned, fn0 (k := 0) (L := L_law_turned) (ww := w_law_turned) F sc_law_turned rfl len_law_turned (by
      intro cdv A outer s H E hr g hgL
      unfold w_law_turned
      refine eb_cons ?_ ?_
      refine es_set (i := 3) sc_law_turned.nd rfl (Or.inr rfl) ?_
      refine ee_dictZ rfl (by rfl) m_dict (by rfl) m_zip ?_
      refine ea_cons ?_ ?_
      exact ee_var (pv 0)
      refine ea_cons ?_ ?_
      refine ee_revS ?_
      exact ee_var (pv 0)
      exact ea_nil
      refine eb_cons ?_ ?_
      refine es_setF (i := 4) sc_law_turned.nd rfl (Or.inl rfl) ?_
      refine ee_tuple (by rfl) m_tuple ?_
      refine ea_cons ?_ ?_
      refine ee_lc (own := [("_law_hands", 6)]) rfl sc_law_turned.nd (lf_ hgL rfl) ?_ (blkOk_by (own := [("_law_hands", 6)]) (N := N_law_turned) (sc := defScope st_law_turned) (by decide +kernel)) (fun _ _ _ _ _ => eg_name (i := 6) sc_law_turned.nd rfl (Or.inl rfl)) (fun _ _ _ _ _ => ets_nil) (fun _ _ _ _ _ => ee_tuple (by rfl) m_tuple (ea_cons (ee_sortS (by rfl) m_sorted (ea_cons (ee_lc (own := [("_law_one", 7)]) rfl sc_law_turned.nd (lf_ hgL rfl) (ei_seq (ee_var (pv 6))) (blkOk_by (own := [("_law_one", 7)]) (N := N_law_turned) (sc := { kind := .function, names := [(".0", .local), ("_law_hands", .local), ("tuple", .globalImplicit), ("sorted", .globalImplicit), ("_law_other", .cell)], isGenerator := false, isCoroutine := false }) (by decide +kernel)) (fun _ _ _ _ _ => eg_name (i := 7) sc_law_turned.nd rfl (Or.inl rfl)) (fun _ _ _ _ _ => ets_nil) (fun _ _ _ _ _ => ee_dix (i := 3) (units65 hr) (pv 3) (ee_var (pv 7)))) ea_nil)) ea_nil))
      refine ei_seq ?_
      exact ee_var (pv 1)
      exact ea_nil
      refine eb_one ?_
      refine es_ret ?_
      refine ee_prp ?_ ?_
      exact ee_var (pv 4)
      refine ee_tupP (by rfl) m_tuple ?_
      refine ea_cons ?_ ?_
      refine ee_sortK (by rfl) m_sorted ?_
      refine ea_cons ?_ ?_
      refine ee_lc (own := [("_law_one", 7), ("_law_count", 8)]) rfl sc_law_turned.nd (lf_ hgL rfl) ?_ (blkOk_by (own := [("_law_one", 7), ("_law_count", 8)]) (N := N_law_turned) (sc := defScope st_law_turned) (by decide +kernel)) (fun _ _ _ _ _ => eg_tup rfl (egs_cons (eg_name (i := 7) sc_law_turned.nd rfl (Or.inl rfl)) (egs_cons (eg_name (i := 8) sc_law_turned.nd rfl (Or.inl rfl)) egs_nil))) (fun _ _ _ _ _ => ets_nil) (fun _ _ _ _ _ => ee_tup (ea_cons (ee_dix (i := 3) (units65 hr) (pv 3) (ee_var (pv 7))) (ea_cons (ee_var (pv 8)) ea_nil)))
      refine ei_seq ?_
      exact ee_var (pv 2)
      exact ea_nil
      exact ea_nil) ok_law_turned, gl, F.kp, F.bindsN (fun _ _ _ _ _ _ us hl => match us, hl with | [_, _, _], _ => rfl)⟩
theorem has_law_round {a : Addr} {fd : FuncData} (F : FunD K "_law_round" "_law_round" (defArgs st_law_round) (defBody st_law_round) (defScope st_law_round) [] [] a fd) (gl : mg "_law_round" = some (.ref a)) (h_share : Has P w K mg base 3 "share" CFSr.S_share) (h_law_plan : Has P w K mg base 1 "_law_plan" CFSl.S_law_plan) (h_law_even : Has P w K mg base 2 "_law_even" CFSl.S_law_even) (h_law_falling : Has P w K mg base 2 "_law_falling" S_law_falling) (h_law_turned : Has P w K mg base 1 "_law_turned" S_law_turned) (m_sum : mg "sum" = none) (m_len : mg "len" = none) : Has P w K mg base 4 "_law_round" S_law_round :=
  ⟨a, fd, P_law_round, fn0 (k := 3) (L := L_law_round) (ww := w_law_round) F sc_law_round rfl len_law_round (by
      intro cdv A outer s H E hr g hgL
      unfold w_law_round
      refine eb_cons ?_ ?_
      refine es_setF (i := 3) sc_law_round.nd rfl (Or.inl rfl) ?_
      refine ee_gl h_share (hr.mono (by decide)) (by rfl) takesW0 ?_
      refine ea_cons ?_ ?_
      exact ee_var (pv 1)
      refine ea_cons ?_ ?_
      exact ee_varP (pv 2)
      exact ea_nil
      refine eb_cons ?_ ?_
      refine es_if ?_ ?_ ?_
      refine et_w ?_
      refine ew_or ?_ ?_
      refine et_not ?_
      refine et_val ?_
      refine ee_has h_law_plan (hr.mono (by decide)) (by rfl) ?_
      refine ea_cons ?_ ?_
      exact ee_var (pv 1)
      refine ea_cons ?_ ?_
      exact ee_var (pv 3)
      exact ea_nil
      refine ew_or1 ?_
      refine et_not ?_
      refine et_val ?_
      refine ee_gl h_law_even (hr.mono (by decide)) (by rfl) takesW0 ?_
      refine ea_cons ?_ ?_
      exact ee_var (pv 1)
      refine ea_cons ?_ ?_
      exact ee_varP (pv 2)
      refine ea_cons ?_ ?_
      exact ee_var (pv 3)
      exact ea_nil
      refine eb_one ?_
      refine es_ret ?_
      exact ee_non
      exact eb_nil
      refine eb_cons ?_ ?_
      refine es_setF (i := 4) sc_law_round.nd rfl (Or.inl rfl) ?_
      refine ee_gl h_law_falling (hr.mono (by decide)) (by rfl) takesW0 ?_
      refine ea_cons ?_ ?_
      exact ee_var (pv 1)
      refine ea_cons ?_ ?_
      exact ee_varP (pv 2)
      refine ea_cons ?_ ?_
      exact ee_var (pv 3)
      exact ea_nil
      refine eb_cons ?_ ?_
      refine es_if ?_ ?_ ?_
      refine et_ne hr.units ?_ ?_
      refine ee_gl h_law_falling (hr.mono (by decide)) (by rfl) takesW0 ?_
      refine ea_cons ?_ ?_
      refine ee_revS ?_
      exact ee_var (pv 1)
      refine ea_cons ?_ ?_
      exact ee_varP (pv 2)
      refine ea_cons ?_ ?_
      refine ee_gl h_share (hr.mono (by decide)) (by rfl) takesW0 ?_
      refine ea_cons ?_ ?_
      refine ee_revS ?_
      exact ee_var (pv 1)
      refine ea_cons ?_ ?_
      exact ee_varP (pv 2)
      exact ea_nil
      exact ea_nil
      exact ee_var (pv 4)
      refine eb_one ?_
      refine es_ret ?_
      exact ee_non
      exact eb_nil
      refine eb_cons ?_ ?_
      refine es_unpP (i := 5) (j := 6) sc_law_round.nd rfl (Or.inl rfl) rfl (Or.inl rfl) rfl ?_
      refine ee_has h_law_turned (hr.mono (by decide)) (by rfl) ?_
      refine ea_cons ?_ ?_
      exact ee_var (pv 0)
      refine ea_cons ?_ ?_
      exact ee_var (pv 1)
      refine ea_cons ?_ ?_
      exact ee_var (pv 2)
      exact ea_nil
      refine eb_cons ?_ ?_
      refine es_if ?_ ?_ ?_
      refine et_ne hr.units ?_ ?_
      refine ee_gl h_law_falling (hr.mono (by decide)) (by rfl) takesW0 ?_
      refine ea_cons ?_ ?_
      exact ee_var (pv 5)
      refine ea_cons ?_ ?_
      exact ee_varP (pv 6)
      refine ea_cons ?_ ?_
      refine ee_gl h_share (hr.mono (by decide)) (by rfl) takesW0 ?_
      refine ea_cons ?_ ?_
      exact ee_var (pv 5)
      refine ea_cons ?_ ?_
      exact ee_varP (pv 6)
      exact ea_nil
      exact ea_nil
      exact ee_var (pv 4)
      refine eb_one ?_
      refine es_ret ?_
      exact ee_non
      exact eb_nil
      refine eb_cons ?_ ?_
      refine es_setLcF (i := 9) (own := [("_law_one", 7), ("_law_count", 8)]) rfl sc_law_round.nd rfl rfl (sw_true rfl rfl rfl (by decide +kernel)) (lf_ hgL rfl) ?_ (blkOk_by (own := [("_law_one", 7), ("_law_count", 8)]) (N := N_law_round) (sc := defScope st_law_round) (by decide +kernel)) (fun _ _ _ _ _ => eg_tup rfl (egs_cons (eg_name (i := 7) sc_law_round.nd rfl (Or.inl rfl)) (egs_cons (eg_name (i := 8) sc_law_round.nd rfl (Or.inl rfl)) egs_nil))) (fun _ _ _ _ _ => ets_nil) (fun _ _ _ _ _ => ee_var (pv 8))
      refine ei_seq ?_
      exact ee_var (pv 2)
      refine eb_cons ?_ ?_
      refine es_if ?_ ?_ ?_
      refine et_w ?_
      refine ew_and ?_ ?_
      refine et_le ?_ ?_
      refine ee_add ?_ ?_
      refine ee_sum rfl (by rfl) m_sum ?_
      refine ea_cons ?_ ?_
      exact ee_var (pv 9)
      exact ea_nil
      refine ee_len (by rfl) m_len ?_
      refine ea_cons ?_ ?_
      exact ee_var (pv 1)
      exact ea_nil
      exact ee_int
      refine ew_and1 ?_
      refine et_notin (units65 hr) ?_ ?_
      exact ee_int
      exact ee_var (pv 9)
      refine eb_cons ?_ ?_
      refine es_setF (i := 10) sc_law_round.nd rfl (Or.inl rfl) ?_
      exact ee_var (pv 1)
      refine eb_cons ?_ ?_
      refine es_for PassesOwn.never rfl ?_ (eg_tup rfl (egs_cons (eg_name (i := 7) sc_law_round.nd rfl (Or.inl rfl)) (egs_cons (eg_name (i := 8) sc_law_round.nd rfl (Or.inl rfl)) egs_nil))) ?_
      refine ei_seq ?_
      exact ee_var (pv 2)
      refine eb_one ?_
      refine es_setF (i := 10) sc_law_round.nd rfl (Or.inl rfl) ?_
      refine ee_plus hr.units ?_ ?_
      exact ee_var (pv 10)
      refine ee_repA ?_ ?_
      refine ee_tup ?_
      refine ea_cons ?_ ?_
      refine ee_tup ?_
      refine ea_cons ?_ ?_
      exact ee_var (pv 7)
      exact ea_nil
      exact ea_nil
      exact ee_var (pv 8)
      refine eb_one ?_
      refine es_if ?_ ?_ ?_
      refine et_ne hr.units ?_ ?_
      refine ee_gl h_law_falling (hr.mono (by decide)) (by rfl) takesW0 ?_
      refine ea_cons ?_ ?_
      exact ee_var (pv 10)
      refine ea_cons ?_ ?_
      refine ee_tupPl ?_
      exact ea_nil
      refine ea_cons ?_ ?_
      refine ee_gl h_share (hr.mono (by decide)) (by rfl) takesW0 ?_
      refine ea_cons ?_ ?_
      exact ee_var (pv 10)
      refine ea_cons ?_ ?_
      refine ee_tupPl ?_
      exact ea_nil
      exact ea_nil
      exact ea_nil
      exact ee_var (pv 4)
      refine eb_one ?_
      refine es_ret ?_
      exact ee_non
      exact eb_nil
      exact eb_nil
      refine eb_one ?_
      refine es_ret ?_
      exact ee_var (pv 3)) ok_law_round, gl, F.kp, F.bindsN (fun _ _ _ _ _ _ us hl => match us, hl with | [_, _, _], _ => rfl)⟩
theorem fn_law {a : Addr} {fd : FuncData} (F : FunD K "law" "law" (defArgs st_law) (defBody st_law) (defScope st_law) [] [] a fd) (m_range : mg "range" = none) (m_min : mg "min" = none) (m_len : mg "len" = none) (h_law_hand : Has P w K mg base 1 "_law_hand" CFH.S_law_hand) (h_law_words : Has P w K mg base 3 "_law_words" CFWe.S_law_words) (h_law_take : Has P w K mg base 1 "_law_take" CFH.S_law_take) (m_tuple : mg "tuple" = none) (h_law_loads : Has P w K mg base 3 "_law_loads" CFSl.S_law_loads) (h_law_nights : Has P w K mg base 2 "_law_nights" CFSl.S_law_nights) (m_sorted : mg "sorted" = none) (h_law_round : Has P w K mg base 4 "_law_round" S_law_round) (h_loads_behind : Has P w K mg base 2 "loads_behind" CFCb.S_loads_behind) (h_law_counts : Has P w K mg base 1 "_law_counts" CFSl.S_law_counts) (m_max : mg "max" = none) : FnOk P w K mg base (L2.CX P w) 5 a fd P_law (spOf K S_law) :=
  fn0 (k := 4) (L := L_law) (ww := w_law) F sc_law rfl len_law (by
      intro cdv A outer s H E hr g hgL
      unfold w_law
      refine eb_cons ?_ ?_
      refine es_for PassesOwn.never rfl ?_ (eg_name (i := 1) sc_law.nd rfl (Or.inl rfl)) ?_
      refine ei_range1 (by rfl) m_range ?_
      refine ea_cons ?_ ?_
      refine ee_add ?_ ?_
      exact ee_int
      refine ee_min2 rfl (by rfl) m_min ?_
      refine ea_cons ?_ ?_
      refine ee_len (by rfl) m_len ?_
      refine ea_cons ?_ ?_
      exact ee_var (pv 0)
      exact ea_nil
      refine ea_cons ?_ ?_
      exact ee_int
      exact ea_nil
      exact ea_nil
      refine eb_cons ?_ ?_
      refine es_set (i := 2) sc_law.nd rfl (Or.inl rfl) ?_
      refine ee_has h_law_hand (hr.mono (by decide)) (by rfl) ?_
      refine ea_cons ?_ ?_
      exact ee_var (pv 0)
      refine ea_cons ?_ ?_
      exact ee_var (pv 1)
      exact ea_nil
      refine eb_cons ?_ ?_
      refine es_par (i := 3) (j := 4) rfl sc_law.nd rfl rfl (by decide) rfl rfl ?_ (by rfl)
      refine ea_cons ?_ ?_
      refine ee_has h_law_take (hr.mono (by decide)) (by rfl) ?_
      refine ea_cons ?_ ?_
      exact ee_pk (i := 2) (lt_ hgL rfl) (pv 2)
      refine ea_cons ?_ ?_
      exact ee_int
      exact ea_nil
      refine ea_cons ?_ ?_
      refine ee_has h_law_words (hr.mono (by decide)) (by rfl) ?_
      refine ea_cons ?_ ?_
      exact ee_pk (i := 2) (lt_ hgL rfl) (pv 2)
      refine ea_cons ?_ ?_
      refine ee_add ?_ ?_
      exact ee_int
      refine ee_has h_law_take (hr.mono (by decide)) (by rfl) ?_
      refine ea_cons ?_ ?_
      exact ee_pk (i := 2) (lt_ hgL rfl) (pv 2)
      refine ea_cons ?_ ?_
      exact ee_int
      exact ea_nil
      exact ea_nil
      exact ea_nil
      refine eb_cons ?_ ?_
      refine es_set (i := 5) sc_law.nd rfl (Or.inl rfl) ?_
      refine ee_tupPl ?_
      exact ea_nil
      refine eb_cons ?_ ?_
      refine es_if ?_ ?_ ?_
      refine et_gt ?_ ?_
      exact ee_var (pv 3)
      exact ee_int
      refine eb_one ?_
      refine es_set (i := 5) sc_law.nd rfl (Or.inl rfl) ?_
      refine ee_tupP (by rfl) m_tuple ?_
      refine ea_cons ?_ ?_
      refine ee_lc (own := [("_law_one", 11), ("_law_count", 12)]) rfl sc_law.nd (lf_ hgL rfl) ?_ (blkOk_by (own := [("_law_one", 11), ("_law_count", 12)]) (N := N_law) (sc := defScope st_law) (by decide +kernel)) (fun _ _ _ _ _ => eg_tup rfl (egs_cons (eg_name (i := 11) sc_law.nd rfl (Or.inl rfl)) (egs_cons (eg_name (i := 12) sc_law.nd rfl (Or.inl rfl)) egs_nil))) (fun _ _ _ _ _ => ets_nil) (fun _ _ _ _ _ => ee_tup (ea_cons (ee_var (pv 11)) (ea_cons (ee_mod (ee_var (pv 12)) ee_int) ea_nil)))
      refine ei_seq ?_
      refine ee_has h_law_loads (hr.mono (by decide)) (by rfl) ?_
      refine ea_cons ?_ ?_
      exact ee_pk (i := 2) (lt_ hgL rfl) (pv 2)
      refine ea_cons ?_ ?_
      exact ee_var (pv 4)
      exact ea_nil
      exact ea_nil
      exact eb_nil
      refine eb_one ?_
      refine es_for PassesOwn.never rfl ?_ (eg_name (i := 6) sc_law.nd rfl (Or.inl rfl)) ?_
      refine ei_range1 (by rfl) m_range ?_
      refine ea_cons ?_ ?_
      exact ee_int
      exact ea_nil
      refine eb_cons ?_ ?_
      refine es_setF (i := 7) sc_law.nd rfl (Or.inl rfl) ?_
      refine ee_has h_law_nights (hr.mono (by decide)) (by rfl) ?_
      refine ea_cons ?_ ?_
      exact ee_pk (i := 2) (lt_ hgL rfl) (pv 2)
      refine ea_cons ?_ ?_
      exact ee_var (pv 4)
      refine ea_cons ?_ ?_
      exact ee_int
      exact ea_nil
      refine eb_cons ?_ ?_
      refine es_if ?_ ?_ ?_
      refine et_eq hr.units ?_ ?_
      exact ee_var (pv 3)
      exact ee_int
      refine eb_one ?_
      refine es_setF (i := 7) sc_law.nd rfl (Or.inl rfl) ?_
      refine ee_repA ?_ ?_
      refine ee_tup ?_
      refine ea_cons ?_ ?_
      refine ee_tuple (by rfl) m_tuple ?_
      refine ea_cons ?_ ?_
      refine ee_sortS (by rfl) m_sorted ?_
      refine ea_cons ?_ ?_
      exact ee_var (pv 4)
      exact ea_nil
      exact ea_nil
      exact ea_nil
      refine ee_len (by rfl) m_len ?_
      refine ea_cons ?_ ?_
      exact ee_var (pv 7)
      exact ea_nil
      exact eb_nil
      refine eb_cons ?_ ?_
      refine es_setF (i := 8) sc_law.nd rfl (Or.inl rfl) ?_
      refine ee_gl h_law_round (hr.mono (by decide)) (by rfl) takesW0 ?_
      refine ea_cons ?_ ?_
      exact ee_var (pv 4)
      refine ea_cons ?_ ?_
      exact ee_var (pv 7)
      refine ea_cons ?_ ?_
      exact ee_varP (pv 5)
      exact ea_nil
      refine eb_cons ?_ ?_
      refine es_if ?_ ?_ ?_
      refine et_isN ?_
      exact ee_var (pv 8)
      refine eb_one ?_
      refine es_ret ?_
      exact ee_bl
      exact eb_nil
      refine eb_cons ?_ ?_
      refine es_set (i := 5) sc_law.nd rfl (Or.inl rfl) ?_
      refine ee_gl h_loads_behind (hr.mono (by decide)) (by rfl) takesW0 ?_
      refine ea_cons ?_ ?_
      exact ee_varP (pv 5)
      refine ea_cons ?_ ?_
      exact ee_var (pv 8)
      exact ea_nil
      refine eb_cons ?_ ?_
      refine es_set (i := 9) sc_law.nd rfl (Or.inl rfl) ?_
      refine ee_gl h_law_counts (hr.mono (by decide)) (by rfl) takesW0 ?_
      refine ea_cons ?_ ?_
      refine ee_tup ?_
      refine ea_cons ?_ ?_
      refine ee_tuple (by rfl) m_tuple ?_
      refine ea_cons ?_ ?_
      exact ee_var (pv 4)
      exact ea_nil
      exact ea_nil
      refine ea_cons ?_ ?_
      exact ee_varP (pv 5)
      refine ea_cons ?_ ?_
      refine ee_tup ?_
      exact ea_nil
      exact ea_nil
      refine eb_one ?_
      refine es_if ?_ ?_ ?_
      refine et_w ?_
      refine ew_and ?_ ?_
      refine et_eq hr.units ?_ ?_
      exact ee_var (pv 3)
      exact ee_int
      refine ew_and1 ?_
      refine et_gt ?_ ?_
      refine ee_maxV rfl (by rfl) m_max ?_
      exact ee_ln (i := 9) (lt_ hgL rfl) (pv 9)
      refine ee_add ?_ ?_
      refine ee_minV rfl (by rfl) m_min ?_
      exact ee_ln (i := 9) (lt_ hgL rfl) (pv 9)
      exact ee_int
      refine eb_one ?_
      refine es_ret ?_
      exact ee_bl
      exact eb_nil
      refine eb_one ?_
      refine es_ret ?_
      exact ee_bl) ok_law
end
theorem facts {P : Program} {w : World} {K : PySem.W.Frag} {h : Heap} {mg : Str → Option Value} {f : Addr} (X : K.In h) (G : h.Ns mainGlobals mg) (hfa : mg ("law" : Str) = some (.ref f)) (c : He.SaysD fa fn K) :
    ∃ fd : FuncData, (∀ (s : Shared) (v : Value), BindsTo s fd ⟨[v], []⟩ [("_law_script", v)]) ∧ ∀ base : Heap, K.In base → base.Ns mainGlobals mg → FnOk P w K mg base (L2.CX P w) 5 f fd ["_law_script"] (spOf K S_law) := by
  obtain ⟨fd_counts_behind, F_counts_behind⟩ := c.def_ 0 (d := dd_counts_behind) rfl
  obtain ⟨fd_loads_behind, F_loads_behind⟩ := c.def_ 1 (d := dd_loads_behind) rfl
  obtain ⟨fd_reached, F_reached⟩ := c.def_ 2 (d := dd_reached) rfl
  obtain ⟨fd_handed_on, F_handed_on⟩ := c.def_ 3 (d := dd_handed_on) rfl
  obtain ⟨fd_better, F_better⟩ := c.def_ 4 (d := dd_better) rfl
  obtain ⟨fd_share, F_share⟩ := c.def_ 5 (d := dd_share) rfl
  obtain ⟨fd_law_hand, F_law_hand⟩ := c.def_ 6 (d := dd_law_hand) rfl
  obtain ⟨fd_law_take, F_law_take⟩ := c.def_ 7 (d := dd_law_take) rfl
  obtain ⟨fd_law_pick, F_law_pick⟩ := c.def_ 8 (d := dd_law_pick) rfl
  obtain ⟨fd_law_words, F_law_words⟩ := c.def_ 9 (d := dd_law_words) rfl
  obtain ⟨fd_law_nights, F_law_nights⟩ := c.def_ 10 (d := dd_law_nights) rfl
  obtain ⟨fd_law_loads, F_law_loads⟩ := c.def_ 11 (d := dd_law_loads) rfl
  obtain ⟨fd_law_plan, F_law_plan⟩ := c.def_ 12 (d := dd_law_plan) rfl
  obtain ⟨fd_law_counts, F_law_counts⟩ := c.def_ 13 (d := dd_law_counts) rfl
  obtain ⟨fd_law_reach, F_law_reach⟩ := c.def_ 14 (d := dd_law_reach) rfl
  obtain ⟨fd_law_even, F_law_even⟩ := c.def_ 15 (d := dd_law_even) rfl
  obtain ⟨fd_law_falling, F_law_falling⟩ := c.def_ 16 (d := dd_law_falling) rfl
  obtain ⟨fd_law_turned, F_law_turned⟩ := c.def_ 17 (d := dd_law_turned) rfl
  obtain ⟨fd_law_round, F_law_round⟩ := c.def_ 18 (d := dd_law_round) rfl
  obtain ⟨fd_law, F_law⟩ := c.def_ 19 (d := dd_law) rfl
  have g_counts_behind := He.glo_ok X G (c.fact 0 (f := .glo "counts_behind") rfl)
  have g_loads_behind := He.glo_ok X G (c.fact 1 (f := .glo "loads_behind") rfl)
  have g_reached := He.glo_ok X G (c.fact 2 (f := .glo "reached") rfl)
  have g_handed_on := He.glo_ok X G (c.fact 3 (f := .glo "handed_on") rfl)
  have g_better := He.glo_ok X G (c.fact 4 (f := .glo "better") rfl)
  have g_share := He.glo_ok X G (c.fact 5 (f := .glo "share") rfl)
  have g_law_hand := He.glo_ok X G (c.fact 6 (f := .glo "_law_hand") rfl)
  have g_law_take := He.glo_ok X G (c.fact 7 (f := .glo "_law_take") rfl)
  have g_law_pick := He.glo_ok X G (c.fact 8 (f := .glo "_law_pick") rfl)
  have g_law_words := He.glo_ok X G (c.fact 9 (f := .glo "_law_words") rfl)
  have g_law_nights := He.glo_ok X G (c.fact 10 (f := .glo "_law_nights") rfl)
  have g_law_loads := He.glo_ok X G (c.fact 11 (f := .glo "_law_loads") rfl)
  have g_law_plan := He.glo_ok X G (c.fact 12 (f := .glo "_law_plan") rfl)
  have g_law_counts := He.glo_ok X G (c.fact 13 (f := .glo "_law_counts") rfl)
  have g_law_reach := He.glo_ok X G (c.fact 14 (f := .glo "_law_reach") rfl)
  have g_law_even := He.glo_ok X G (c.fact 15 (f := .glo "_law_even") rfl)
  have g_law_falling := He.glo_ok X G (c.fact 16 (f := .glo "_law_falling") rfl)
  have g_law_turned := He.glo_ok X G (c.fact 17 (f := .glo "_law_turned") rfl)
  have g_law_round := He.glo_ok X G (c.fact 18 (f := .glo "_law_round") rfl)
  have g_law := He.glo_ok X G (c.fact 19 (f := .glo "law") rfl)
  have m_dict := He.free_ok X G (c.fact 20 (f := .free "dict") rfl)
  have m_tuple := He.free_ok X G (c.fact 21 (f := .free "tuple") rfl)
  have m_sorted := He.free_ok X G (c.fact 22 (f := .free "sorted") rfl)
  have m_len := He.free_ok X G (c.fact 23 (f := .free "len") rfl)
  have m_range := He.free_ok X G (c.fact 24 (f := .free "range") rfl)
  have m_list := He.free_ok X G (c.fact 25 (f := .free "list") rfl)
  have m_set := He.free_ok X G (c.fact 26 (f := .free "set") rfl)
  have m_int := He.free_ok X G (c.fact 27 (f := .free "int") rfl)
  have m_isinstance := He.free_ok X G (c.fact 28 (f := .free "isinstance") rfl)
  have m_zip := He.free_ok X G (c.fact 29 (f := .free "zip") rfl)
  have m_min := He.free_ok X G (c.fact 30 (f := .free "min") rfl)
  have m_sum := He.free_ok X G (c.fact 31 (f := .free "sum") rfl)
  have m_max := He.free_ok X G (c.fact 32 (f := .free "max") rfl)
  have e := hfa.symm.trans g_law
  cases e
  have b := FunD.bindsA (ps := ["_law_script"]) F_law fun _ _ _ _ _ _ us hl => match us, hl with | [_], _ => rfl
  refine ⟨fd_law, fun s v => b s [v] rfl, fun base _ _ => ?_⟩
  have h_counts_behind : Has P w K mg base 1 "counts_behind" CFCb.S_counts_behind := has_counts_behind F_counts_behind g_counts_behind m_dict
  have h_loads_behind : Has P w K mg base 2 "loads_behind" CFCb.S_loads_behind := has_loads_behind F_loads_behind g_loads_behind m_tuple m_sorted h_counts_behind
  have h_reached : Has P w K mg base 1 "reached" CFSr.S_reached := has_reached F_reached g_reached m_len m_range
  have h_handed_on : Has P w K mg base 1 "handed_on" CFSr.S_handed_on := has_handed_on F_handed_on g_handed_on m_list m_tuple
  have h_better : Has P w K mg base 2 "better" CFSr.S_better := has_better F_better g_better h_counts_behind m_sorted m_set h_reached h_handed_on
  have h_share : Has P w K mg base 3 "share" CFSr.S_share := has_share F_share g_share m_tuple h_better
  have h_law_hand : Has P w K mg base 1 "_law_hand" CFH.S_law_hand := has_law_hand F_law_hand g_law_hand m_len m_int
  have h_law_take : Has P w K mg base 1 "_law_take" CFH.S_law_take := has_law_take F_law_take g_law_take 
  have h_law_pick : Has P w K mg base 2 "_law_pick" CFH.S_law_pick := has_law_pick F_law_pick g_law_pick h_law_take m_len
  have h_law_words : Has P w K mg base 3 "_law_words" CFWe.S_law_words := has_law_words F_law_words g_law_words h_law_pick h_law_take m_len m_range
  have h_law_nights : Has P w K mg base 2 "_law_nights" CFSl.S_law_nights := has_law_nights F_law_nights g_law_nights h_law_take m_range m_len m_list m_tuple m_sorted m_set
  have h_law_loads : Has P w K mg base 3 "_law_loads" CFSl.S_law_loads := has_law_loads F_law_loads g_law_loads m_sorted h_law_take h_law_pick m_len m_tuple
  have h_law_plan : Has P w K mg base 1 "_law_plan" CFSl.S_law_plan := has_law_plan F_law_plan g_law_plan m_isinstance m_tuple m_len m_zip
  have h_law_counts : Has P w K mg base 1 "_law_counts" CFSl.S_law_counts := has_law_counts F_law_counts g_law_counts m_dict
  have h_law_reach : Has P w K mg base 1 "_law_reach" CFSl.S_law_reach := has_law_reach F_law_reach g_law_reach m_range m_len m_zip
  have h_law_even : Has P w K mg base 2 "_law_even" CFSl.S_law_even := has_law_even F_law_even g_law_even h_law_counts m_sorted m_set m_min h_law_reach
  have h_law_falling : Has P w K mg base 2 "_law_falling" S_law_falling := has_law_falling F_law_falling g_law_falling m_sorted h_law_counts
  have h_law_turned : Has P w K mg base 1 "_law_turned" S_law_turned := has_law_turned F_law_turned g_law_turned m_dict m_zip m_tuple m_sorted
  have h_law_round : Has P w K mg base 4 "_law_round" S_law_round := has_law_round F_law_round g_law_round h_share h_law_plan h_law_even h_law_falling h_law_turned m_sum m_len
  exact fn_law F_law m_range m_min m_len h_law_hand h_law_words h_law_take m_tuple h_law_loads h_law_nights m_sorted h_law_round h_loads_behind h_law_counts m_max
end K72
open PySem PySem.W PySem.Calls PyProof.Rows
set_option maxHeartbeats 0 in
theorem PySem.Challenge.cw_calledfirst_k72_whole_rounds_of_shares_holds : PySem.Challenge.rw_calledfirst_k72_whole_rounds_of_shares.Holds := by
  w_on; o_law
  refine HandSHeadRun.head_any (r := OpenLaw.row PySem.Challenge.rw_calledfirst_k72_whole_rounds_of_shares) (q := view (OpenLaw.row PySem.Challenge.rw_calledfirst_k72_whole_rounds_of_shares).prog [21]) (H := K72H.hk) (ob := K72H.ob) (M := 1280) (loose := K72H.loose) (d := HandSHeadRun.topDef (OpenLaw.row PySem.Challenge.rw_calledfirst_k72_whole_rounds_of_shares).prog 21) (kwd := []) K72H.ob_eq
    (by kernel_rfl) (fun s => by kernel_rfl) K72H.run (by kernel_rfl) (by kernel_rfl) (by kernel_rfl) (by rfl) (by first | assumption | decide +kernel) (by decide +kernel) ⟨rfl, rfl, rfl, rfl, rfl, by decide +kernel⟩ ?hw ?hc
  case hw => w_witness2
  case hc =>
    refine DL.walk_dl (l := PySem.Challenge.rw_calledfirst_k72_whole_rounds_of_shares) (n := 63) (k := 5) (x := "_law_script") rfl (by decide) (by kernel_rfl) ⟨rfl, by decide, by decide⟩ (S := K72.S_law) ?F K72.law_in
    intro w mg fa h Y G hmg0
    obtain ⟨K, KX, c⟩ := Y
    have hmg : mg ("law" : PySem.Str) = some (.ref fa) := by
      have e : (HandSHeadRun.topDef (OpenLaw.row PySem.Challenge.rw_calledfirst_k72_whole_rounds_of_shares).prog 21).name = ("law" : PySem.Str) := by kernel_rfl
      rw [← e]
      exact hmg0
    obtain ⟨fd, hb, hF⟩ := K72.facts (P := (PySem.Challenge.rw_calledfirst_k72_whole_rounds_of_shares).prog) (w := w) KX G hmg c
    exact ⟨K, fd, KX, hb, hF⟩
