import PyProof.Rows.All
import HandS.ForExc
import HandS.ForMost
import HandS.Wide
import HandS.Defaults
import HandS.TupAny
import HandS.WordsExc
import HandS.IsInst
import HandS.Head0
import HandS.Head1
import HandS.Head2
import HandS.HeadEnd
import HandS.HeadHook1
import HandS.HeadHook2
import PySem.Challenge.RW_calledfirst_k10_layers_of_anything
import HandS.Deep
import HandS.Style
import HandS.Text
import HandS.Zip
import HandS.Rev
import HandS.RevRange
import KE.GoesEnum
import HandS.SortInts
import HandS.NoneIn
import PyProof.StrOps2
import HandS.StrMore
import HandS.SortKw
import HandS.DictEq
import HandS.SetFor
import PyProof.LongRange
import HandS.More
import HandS.RaiseMore
import HandS.Small
import PyProof.ExcBaseAll.ValueError
import PyProof.ReprRoads
import PyProof.StrLawsRepr
import HandS.SortRule
import HandS.SortOrd
import HandS.NamedTupSort
import KE.KSortTup
import HandS.DictTup
import HandS.Dict
import HandS.TryOnly
import HandS.ExcIs
import HandS.CallSlots
import KE.GoesMore
import HandS.Iter
import HandS.List
import HandS.Sort
import KE.DataCmp
import PyProof.ListRange
import HandS.Conv
set_option Elab.async false
set_option linter.all false
set_option maxRecDepth 100000
set_option maxHeartbeats 4000000

/-! generated: the head -/
namespace K10H
open PySem PySem.Spec PyProof.Rows L2
def topS (i : Nat) : Stmt := PySem.Challenge.pw_calledfirst_k10_layers_of_anything.main.body.getD i (.Pass ⟨0, 0, 0, 0⟩)
abbrev st_is_whole : Stmt := topS 3
abbrev st_is_word : Stmt := topS 4
abbrev st_is_turn : Stmt := topS 8
abbrev st_are_turns : Stmt := topS 9
abbrev st_is_layer : Stmt := topS 10
abbrev st_law_hand : Stmt := topS 12
abbrev st_law_take : Stmt := topS 13
abbrev st_law_pick : Stmt := topS 14
abbrev st_law_words : Stmt := topS 15
abbrev st_law_minute : Stmt := topS 16
abbrev st_law_layer : Stmt := topS 17
abbrev st_law_is_whole : Stmt := topS 18
abbrev st_law_is_word : Stmt := topS 19
abbrev st_law_are_turns : Stmt := topS 20
abbrev st_law_due : Stmt := topS 21
abbrev st_law_bent_word : Stmt := topS 22
abbrev st_law_others : Stmt := topS 23
abbrev st_law_bent : Stmt := topS 24
abbrev st_law_things : Stmt := topS 25
abbrev st_law : Stmt := topS 26
def dd_is_whole : He.DefD := ⟨("is_whole", none), "is_whole", "is_whole", defArgs st_is_whole, defBody st_is_whole, defScope st_is_whole, [], []⟩
def dd_is_word : He.DefD := ⟨("is_word", none), "is_word", "is_word", defArgs st_is_word, defBody st_is_word, defScope st_is_word, [], []⟩
def dd_is_turn : He.DefD := ⟨("is_turn", none), "is_turn", "is_turn", defArgs st_is_turn, defBody st_is_turn, defScope st_is_turn, [], []⟩
def dd_are_turns : He.DefD := ⟨("are_turns", none), "are_turns", "are_turns", defArgs st_are_turns, defBody st_are_turns, defScope st_are_turns, [], []⟩
def dd_is_layer : He.DefD := ⟨("is_layer", none), "is_layer", "is_layer", defArgs st_is_layer, defBody st_is_layer, defScope st_is_layer, [], []⟩
def dd_law_hand : He.DefD := ⟨("_law_hand", none), "_law_hand", "_law_hand", defArgs st_law_hand, defBody st_law_hand, defScope st_law_hand, [], []⟩
def dd_law_take : He.DefD := ⟨("_law_take", none), "_law_take", "_law_take", defArgs st_law_take, defBody st_law_take, defScope st_law_take, [], []⟩
def dd_law_pick : He.DefD := ⟨("_law_pick", none), "_law_pick", "_law_pick", defArgs st_law_pick, defBody st_law_pick, defScope st_law_pick, [], []⟩
def dd_law_words : He.DefD := ⟨("_law_words", none), "_law_words", "_law_words", defArgs st_law_words, defBody st_law_words, defScope st_law_words, [], []⟩
def dd_law_minute : He.DefD := ⟨("_law_minute", none), "_law_minute", "_law_minute", defArgs st_law_minute, defBody st_law_minute, defScope st_law_minute, [], []⟩
def dd_law_layer : He.DefD := ⟨("_law_layer", none), "_law_layer", "_law_layer", defArgs st_law_layer, defBody st_law_layer, defScope st_law_layer, [], []⟩
def dd_law_is_whole : He.DefD := ⟨("_law_is_whole", none), "_law_is_whole", "_law_is_whole", defArgs st_law_is_whole, defBody st_law_is_whole, defScope st_law_is_whole, [], []⟩
def dd_law_is_word : He.DefD := ⟨("_law_is_word", none), "_law_is_word", "_law_is_word", defArgs st_law_is_word, defBody st_law_is_word, defScope st_law_is_word, [], []⟩
def dd_law_are_turns : He.DefD := ⟨("_law_are_turns", none), "_law_are_turns", "_law_are_turns", defArgs st_law_are_turns, defBody st_law_are_turns, defScope st_law_are_turns, [], []⟩
def dd_law_due : He.DefD := ⟨("_law_due", none), "_law_due", "_law_due", defArgs st_law_due, defBody st_law_due, defScope st_law_due, [], []⟩
def dd_law_bent_word : He.DefD := ⟨("_law_bent_word", none), "_law_bent_word", "_law_bent_word", defArgs st_law_bent_word, defBody st_law_bent_word, defScope st_law_bent_word, [], []⟩
def dd_law_others : He.DefD := ⟨("_law_others", none), "_law_others", "_law_others", defArgs st_law_others, defBody st_law_others, defScope st_law_others, [], []⟩
def dd_law_bent : He.DefD := ⟨("_law_bent", none), "_law_bent", "_law_bent", defArgs st_law_bent, defBody st_law_bent, defScope st_law_bent, [], []⟩
def dd_law_things : He.DefD := ⟨("_law_things", none), "_law_things", "_law_things", defArgs st_law_things, defBody st_law_things, defScope st_law_things, [], []⟩
def dd_law : He.DefD := ⟨("law", none), "law", "law", defArgs st_law, defBody st_law, defScope st_law, [], []⟩
def fn : List He.DefD := [dd_is_whole, dd_is_word, dd_is_turn, dd_are_turns, dd_is_layer, dd_law_hand, dd_law_take, dd_law_pick, dd_law_words, dd_law_minute, dd_law_layer, dd_law_is_whole, dd_law_is_word, dd_law_are_turns, dd_law_due, dd_law_bent_word, dd_law_others, dd_law_bent, dd_law_things, dd_law]
def fa : List He.Fa := [.glo "is_whole", .glo "is_word", .glo "is_turn", .glo "are_turns", .glo "is_layer", .glo "_law_hand", .glo "_law_take", .glo "_law_pick", .glo "_law_words", .glo "_law_minute", .glo "_law_layer", .glo "_law_is_whole", .glo "_law_is_word", .glo "_law_are_turns", .glo "_law_due", .glo "_law_bent_word", .glo "_law_others", .glo "_law_bent", .glo "_law_things", .glo "law", .free "isinstance", .free "int", .free "bool", .free "str", .free "len", .free "all", .free "tuple", .free "range", .free "sorted", .free "set", .free "list", .free "max", .free "min", .str "SIGNS" "abcdefghijklmnopqrstuvwxyz0123456789", .int "MOST_TURNS" 12, .int "MOST_DAYS" 60, .int "DAY" 1440]
abbrev R : PySem.W.OpenRow := PySem.W.OpenLaw.row PySem.Challenge.rw_calledfirst_k10_layers_of_anything
abbrev hk : PySem.W.Hook := He.hookD 4 fa fn
def ob (s : PySem.W.SharedT) : He.AlD := He.obsDG 4 fa fn (HandSHeadRun.getT s)
theorem ob_eq (s : PySem.W.SharedT) : ob s = hk.obs s.abs := He.obsDG_eq (HandSHeadRun.getT_eq s)
def loose : List Str := (["SIGNS", "DAY", "is_whole", "is_word", "MOST_DAYS", "MOST_TURNS", "is_turn", "are_turns", "is_layer", "_law_hand", "_law_take", "_law_pick", "_law_words", "_law_minute", "_law_layer", "_law_is_whole", "_law_is_word", "_law_are_turns", "_law_due", "_law_bent_word", "_law_others", "_law_bent", "_law_things"] : List Str)
theorem run (w : World) : HandSHeadRun.RunEq R (PySem.W.view R.prog [26]) hk ob 1480 loose w := by
  intro os
  kernel_rfl
end K10H

set_option Elab.async false
set_option linter.all false
set_option maxRecDepth 100000
set_option maxHeartbeats 4000000
/-! DL: a level of plain data over the hand layer. A def's slots hold data (numbers, texts, tuples, lists that nobody changes any more) or a list or dict of its own; what stands at which address is proved away once, here. -/
namespace DL
open PySem PySem.Spec PyProof.Rows L2

abbrev D := PyData
/-- a list or dict that one slot owns -/
inductive OD where
  | lst (ds : List D)
  | dct (kvs : List (Key × D))
/-- what a slot (or a passing value) holds: nothing known, data, an own object (t: the tag of a parameter's own object, 0 else), a slot lent out -/
inductive C where
  | no
  | v (d : D)
  | own (t : Nat) (o : OD)
  | pk (i : Nat)
  | ln (i : Nat)
abbrev Rho := List C

def hide (H : Hp) (O : List Addr) : Hp := fun a => if a ∈ O then none else H a
theorem hide_some {H : Hp} {O : List Addr} {a : Addr} {o : HO} : hide H O a = some o ↔ a ∉ O ∧ H a = some o := by
  unfold hide
  by_cases h : a ∈ O
  · simp [h]
  · simp [h]
theorem hide_congr {H : Hp} {O O' : List Addr} (h : ∀ a, a ∈ O ↔ a ∈ O') : hide H O = hide H O' := by
  funext a
  unfold hide
  by_cases q : a ∈ O
  · rw [if_pos q, if_pos ((h a).mp q)]
  · rw [if_neg q, if_neg fun z => q ((h a).mpr z)]

theorem seqT_same {K : PySem.W.Frag} {H H' : Hp} {a : Addr} {xs : List V} (e : Same H H') (h : SqT K H a xs) : SqT K H' a xs := by
  rcases h with (h | ⟨o, h⟩) | h
  · exact .inl (.inl (e _ _ h))
  · exact .inl (.inr ⟨o, e _ _ h⟩)
  · exact .inr h
mutual
theorem dp_mono {K : PySem.W.Frag} {B B' : Hp} (e : Same B B') : ∀ (d : D) (v : V), Dp K B v d → Dp K B' v d
  | .none, _, h => by cases h; exact .non
  | .bool b, _, h => by cases h; exact .bl b
  | .int i, _, h => by cases h; exact .int i
  | .str x, _, h => by cases h; exact .str x
  | .list ds, _, h => by
    cases h with
    | lst hs ha => exact .lst (e.seq hs) (dpAll_mono e ds _ ha)
  | .tuple ds, _, h => by
    cases h with
    | tup hs ha => exact .tup (seqT_same e hs) (dpAll_mono e ds _ ha)
  | .dict _, _, h => by cases h
theorem dpAll_mono {K : PySem.W.Frag} {B B' : Hp} (e : Same B B') : ∀ (ds : List D) (vs : List V), DpAll K B vs ds → DpAll K B' vs ds
  | [], _, h => by cases h; exact .nil
  | d :: ds, _, h => by
    cases h with
    | cons h1 h2 => exact .cons (dp_mono e d _ h1) (dpAll_mono e ds _ h2)
end
theorem DpAll.len {K : PySem.W.Frag} {B : Hp} : ∀ {vs : List V} {ds : List D}, DpAll K B vs ds → vs.length = ds.length
  | _, [], h => by cases h; rfl
  | _, d :: ds, h => by
    cases h with
    | cons h1 h2 => rw [List.length_cons, List.length_cons, DpAll.len h2]
theorem DpAll.get {K : PySem.W.Frag} {B : Hp} : ∀ {vs : List V} {ds : List D} {i : Nat} {d : D}, DpAll K B vs ds → ds[i]? = some d → ∃ v, vs[i]? = some v ∧ Dp K B v d
  | _, [], _, _, _, e => by simp at e
  | _, d' :: ds, i, d, h, e => by
    cases h with
    | cons h1 h2 =>
      cases i with
      | zero =>
        have e' : d' = d := by simpa using e
        subst e'
        exact ⟨_, rfl, h1⟩
      | succ i =>
        obtain ⟨v, q1, q2⟩ := DpAll.get (i := i) (d := d) h2 (by simpa using e)
        exact ⟨v, by simpa using q1, q2⟩
theorem DpAll.app {K : PySem.W.Frag} {B : Hp} : ∀ {vs us : List V} {ds es : List D}, DpAll K B vs ds → DpAll K B us es → DpAll K B (vs ++ us) (ds ++ es)
  | _, _, [], _, h, h' => by cases h; exact h'
  | _, _, d :: ds, _, h, h' => by
    cases h with
    | cons h1 h2 => exact .cons h1 (DpAll.app h2 h')
theorem DpAll.setAt {K : PySem.W.Frag} {B : Hp} {x : V} {d : D} (hx : Dp K B x d) : ∀ {vs : List V} {ds : List D} (i : Nat), DpAll K B vs ds → DpAll K B (vs.set i x) (ds.set i d)
  | _, [], _, h => by cases h; exact .nil
  | _, d' :: ds, i, h => by
    cases h with
    | cons h1 h2 =>
      cases i with
      | zero => exact .cons hx h2
      | succ i => exact .cons h1 (DpAll.setAt hx i h2)
theorem DpAll.takeN {K : PySem.W.Frag} {B : Hp} : ∀ {vs : List V} {ds : List D} (n : Nat), DpAll K B vs ds → DpAll K B (vs.take n) (ds.take n)
  | _, [], n, h => by cases h; simp; exact .nil
  | _, d :: ds, n, h => by
    cases h with
    | cons h1 h2 =>
      cases n with
      | zero => exact .nil
      | succ n => exact .cons h1 (DpAll.takeN n h2)
theorem DpAll.dropN {K : PySem.W.Frag} {B : Hp} : ∀ {vs : List V} {ds : List D} (n : Nat), DpAll K B vs ds → DpAll K B (vs.drop n) (ds.drop n)
  | _, [], n, h => by cases h; simp; exact .nil
  | _, d :: ds, n, h => by
    cases h with
    | cons h1 h2 =>
      cases n with
      | zero => exact .cons h1 h2
      | succ n => exact DpAll.dropN n h2
theorem DpAll.ints {K : PySem.W.Frag} {B : Hp} : ∀ (ns : List Int), DpAll K B (ns.map V.int) (ns.map PyData.int)
  | [] => .nil
  | n :: ns => .cons (.int n) (DpAll.ints ns)
theorem DpAll.of_ints {K : PySem.W.Frag} {B : Hp} : ∀ {ns : List Int} {vs : List V}, DpAll K B vs (ns.map PyData.int) → vs = ns.map V.int
  | [], _, h => by cases h; rfl
  | n :: ns, _, h => by
    cases h with
    | cons h1 h2 =>
      cases h1
      rw [DpAll.of_ints h2]
      rfl

/-- a dict's values -/
def DpKV (K : PySem.W.Frag) (B : Hp) : List (Key × V) → List (Key × D) → Prop
  | [], [] => True
  | p :: ps, q :: qs => p.1 = q.1 ∧ Dp K B p.2 q.2 ∧ DpKV K B ps qs
  | _, _ => False
theorem DpKV.mono {K : PySem.W.Frag} {B B' : Hp} (e : Same B B') : ∀ {ps : List (Key × V)} {qs : List (Key × D)}, DpKV K B ps qs → DpKV K B' ps qs
  | [], [], h => h
  | p :: ps, q :: qs, h => ⟨h.1, dp_mono e _ _ h.2.1, DpKV.mono e h.2.2⟩
  | [], _ :: _, h => h.elim
  | _ :: _, [], h => h.elim
def OwnAt (K : PySem.W.Frag) (B H : Hp) (a : Addr) : OD → Prop
  | .lst ds => ∃ xs, H a = some (.lst xs) ∧ DpAll K B xs ds
  | .dct kvs => ∃ ks, H a = some (.dK ks) ∧ DpKV K B ks kvs
theorem OwnAt.mono {K : PySem.W.Frag} {B B' H H' : Hp} {a : Addr} {o : OD} (e : Same B B') (k : ∀ u, H a = some u → H' a = some u) (h : OwnAt K B H a o) : OwnAt K B' H' a o := by
  cases o with
  | lst ds => obtain ⟨xs, h1, h2⟩ := h; exact ⟨xs, k _ h1, dpAll_mono e _ _ h2⟩
  | dct kvs => obtain ⟨ks, h1, h2⟩ := h; exact ⟨ks, k _ h1, h2.mono e⟩
theorem OwnAt.there {K : PySem.W.Frag} {B H : Hp} {a : Addr} {o : OD} (h : OwnAt K B H a o) : ∃ u, H a = some u := by
  cases o with
  | lst ds => obtain ⟨xs, h1, h2⟩ := h; exact ⟨_, h1⟩
  | dct kvs => obtain ⟨ks, h1, h2⟩ := h; exact ⟨_, h1⟩

/-- the entry of a def: the heap there, the addresses of its parameters' own objects (tg by tag), what is private to those around, the slots that may be lent -/
structure G where
  H0 : Hp
  tg : Nat → Addr
  Oa : List Addr
  P0 : List Addr
  L : Nat → Bool

def RC (K : PySem.W.Frag) (g : G) (σ : L2.St) (B H : Hp) (ov : Option V) : C → Prop
  | .no => True
  | .v d => ∃ x, ov = some x ∧ Dp K B x d
  | .own t o => ∃ a, ov = some (.ref a) ∧ OwnAt K B H a o ∧ (t ≠ 0 → g.tg t = a) ∧ (t = 0 → g.H0 a = none)
  | .pk i => ∃ x, ov = some x ∧ σ[i]? = some (some x)
  | .ln i => ∃ x, ov = some x ∧ σ[i]? = some (some x)
def RCs (K : PySem.W.Frag) (g : G) (σ : L2.St) (B H : Hp) : List (Option V) → List C → Prop
  | [], [] => True
  | v :: vs, c :: cs => RC K g σ B H v c ∧ RCs K g σ B H vs cs
  | _, _ => False
def footC : Option V → C → List Addr
  | some (.ref a), .own _ _ => [a]
  | _, _ => []
def foot : List (Option V) → List C → List Addr
  | v :: vs, c :: cs => footC v c ++ foot vs cs
  | _, _ => []
abbrev tot (σ : L2.St) (vs : List V) (ρ : Rho) (cs : List C) : List Addr := foot (vs.map some) cs ++ foot σ ρ

structure SR (K : PySem.W.Frag) (g : G) (σ : L2.St) (vs : List V) (H : Hp) (ρ : Rho) (cs : List C) : Prop where
  fr : ∀ a o, g.H0 a = some o → a ∉ g.Oa → H a = some o
  dm : ∀ a o, g.H0 a = some o → ∃ o', H a = some o'
  pr : ∀ a ∈ g.P0, a ∉ g.Oa ∧ ∃ o, g.H0 a = some o
  nw : ∀ a ∈ tot σ vs ρ cs, a ∈ g.Oa ∨ g.H0 a = none
  nd : (tot σ vs ρ cs).Nodup
  sl : RCs K g [] (hide H (tot σ vs ρ cs ++ g.P0)) H σ ρ
  tp : RCs K g σ (hide H (tot σ vs ρ cs ++ g.P0)) H (vs.map some) cs
  pk : ∀ i, (C.pk i ∈ cs ∨ C.ln i ∈ cs) → g.L i = true

section
variable {K : PySem.W.Frag} {g : G} {σ σ' : L2.St} {B B' H H' : Hp} {v : Option V} {c : C}
theorem RC.mono (e : Same B B') (k : ∀ a ∈ footC v c, ∀ u, H a = some u → H' a = some u) (h : RC K g σ B H v c) : RC K g σ B' H' v c := by
  cases c with
  | no => trivial
  | v d => obtain ⟨x, h1, h2⟩ := h; exact ⟨x, h1, dp_mono e _ _ h2⟩
  | own t o =>
    obtain ⟨a, h1, h2, h3⟩ := h
    subst h1
    exact ⟨a, rfl, h2.mono e (k a (by simp [footC])), h3⟩
  | pk i => exact h
  | ln i => exact h
theorem RCs.mono (e : Same B B') : ∀ {vs : List (Option V)} {cs : List C}, (∀ a ∈ foot vs cs, ∀ u, H a = some u → H' a = some u) → RCs K g σ B H vs cs → RCs K g σ B' H' vs cs
  | [], [], _, h => h
  | v :: vs, c :: cs, k, h => ⟨h.1.mono e fun a ha => k a (by simp [foot, ha]), RCs.mono e (fun a ha => k a (by simp [foot, ha])) h.2⟩
  | [], _ :: _, _, h => h.elim
  | _ :: _, [], _, h => h.elim
theorem RCs.len : ∀ {vs : List (Option V)} {cs : List C}, RCs K g σ B H vs cs → vs.length = cs.length
  | [], [], _ => rfl
  | _ :: _, _ :: _, h => by rw [List.length_cons, List.length_cons, RCs.len h.2]
  | [], _ :: _, h => h.elim
  | _ :: _, [], h => h.elim
theorem RCs.there : ∀ {vs : List (Option V)} {cs : List C}, RCs K g σ B H vs cs → ∀ a ∈ foot vs cs, ∃ u, H a = some u
  | [], [], _, a, ha => by simp [foot] at ha
  | v :: vs, c :: cs, h, a, ha => by
    rw [foot, List.mem_append] at ha
    rcases ha with ha | ha
    · cases c with
      | own t o =>
        obtain ⟨b, e, q, _⟩ := h.1
        subst e
        have e2 : a = b := by simpa [footC] using ha
        subst e2
        exact q.there
      | no => cases v with
        | none => simp [footC] at ha
        | some x => cases x <;> simp [footC] at ha
      | v d => cases v with
        | none => simp [footC] at ha
        | some x => cases x <;> simp [footC] at ha
      | pk i => cases v with
        | none => simp [footC] at ha
        | some x => cases x <;> simp [footC] at ha
      | ln i => cases v with
        | none => simp [footC] at ha
        | some x => cases x <;> simp [footC] at ha
    · exact RCs.there h.2 a ha
  | [], _ :: _, h, _, _ => h.elim
  | _ :: _, [], h, _, _ => h.elim
theorem foot_app : ∀ {vs us : List (Option V)} {cs ds : List C}, vs.length = cs.length → foot (vs ++ us) (cs ++ ds) = foot vs cs ++ foot us ds
  | [], _, [], _, _ => rfl
  | v :: vs, us, c :: cs, ds, h => by
    show footC v c ++ foot (vs ++ us) (cs ++ ds) = (footC v c ++ foot vs cs) ++ foot us ds
    rw [foot_app (by simpa using h), List.append_assoc]
  | [], _, _ :: _, _, h => by simp at h
  | _ :: _, _, [], _, h => by simp at h
theorem RCs.app : ∀ {vs us : List (Option V)} {cs ds : List C}, RCs K g σ B H vs cs → RCs K g σ B H us ds → RCs K g σ B H (vs ++ us) (cs ++ ds)
  | [], _, [], _, _, h => h
  | _ :: _, _, _ :: _, _, h, h' => ⟨h.1, RCs.app h.2 h'⟩
  | [], _, _ :: _, _, h, _ => h.elim
  | _ :: _, _, [], _, h, _ => h.elim
theorem RCs.split : ∀ {vs us : List (Option V)} {cs ds : List C}, vs.length = cs.length → RCs K g σ B H (vs ++ us) (cs ++ ds) → RCs K g σ B H vs cs ∧ RCs K g σ B H us ds
  | [], _, [], _, _, h => ⟨trivial, h⟩
  | _ :: _, _, _ :: _, _, hl, h => ⟨⟨h.1, (RCs.split (by simpa using hl) h.2).1⟩, (RCs.split (by simpa using hl) h.2).2⟩
  | [], _, _ :: _, _, h, _ => by simp at h
  | _ :: _, _, [], _, h, _ => by simp at h
end

section
variable {K : PySem.W.Frag} {g : G} {σ σ' : L2.St} {vs vs' : List V} {H H' : Hp} {ρ ρ' : Rho} {cs cs' : List C}
theorem SR.there (h : SR K g σ vs H ρ cs) : ∀ a ∈ tot σ vs ρ cs, ∃ u, H a = some u := fun a ha => by
  rcases List.mem_append.mp ha with q | q
  · exact h.tp.there a q
  · exact h.sl.there a q
theorem SR.pdom (h : SR K g σ vs H ρ cs) : ∀ a ∈ g.P0, ∃ u, H a = some u := fun a ha => by
  obtain ⟨h1, o, h2⟩ := h.pr a ha
  exact ⟨o, h.fr a o h2 h1⟩
theorem SR.domO (h : SR K g σ vs H ρ cs) : ∀ a ∈ tot σ vs ρ cs ++ g.P0, ∃ u, H a = some u := fun a ha => (List.mem_append.mp ha).elim (h.there a) (h.pdom a)
theorem SR.pout (h : SR K g σ vs H ρ cs) : ∀ a ∈ tot σ vs ρ cs, a ∉ g.P0 := fun a ha hp => by
  obtain ⟨h1, o, h2⟩ := h.pr a hp
  rcases h.nw a ha with q | q
  · exact h1 q
  · rw [h2] at q; cases q
theorem hide_step {F F' P : List Addr} (keep : ∀ a o, a ∉ F → H a = some o → H' a = some o) (new : ∀ a ∈ F', a ∈ F ∨ H a = none) : Same (hide H (F ++ P)) (hide H' (F' ++ P)) := fun a o e => by
  obtain ⟨h1, h2⟩ := hide_some.mp e
  have hF : a ∉ F := fun z => h1 (List.mem_append_left _ z)
  have hP : a ∉ P := fun z => h1 (List.mem_append_right _ z)
  refine hide_some.mpr ⟨fun z => ?_, keep a o hF h2⟩
  rcases List.mem_append.mp z with z | z
  · rcases new a z with q | q
    · exact hF q
    · rw [h2] at q; cases q
  · exact hP z
/-- the general step -/
theorem SR.gen (h : SR K g σ vs H ρ cs) (keep : ∀ a o, a ∉ tot σ vs ρ cs → H a = some o → H' a = some o) (dom : ∀ a o, H a = some o → ∃ o', H' a = some o') (new : ∀ a ∈ tot σ' vs' ρ' cs', a ∈ tot σ vs ρ cs ∨ H a = none) (nd : (tot σ' vs' ρ' cs').Nodup)
    (sl : Same (hide H (tot σ vs ρ cs ++ g.P0)) (hide H' (tot σ' vs' ρ' cs' ++ g.P0)) → RCs K g [] (hide H' (tot σ' vs' ρ' cs' ++ g.P0)) H' σ' ρ')
    (tp : Same (hide H (tot σ vs ρ cs ++ g.P0)) (hide H' (tot σ' vs' ρ' cs' ++ g.P0)) → RCs K g σ' (hide H' (tot σ' vs' ρ' cs' ++ g.P0)) H' (vs'.map some) cs')
    (pk : ∀ i, (C.pk i ∈ cs' ∨ C.ln i ∈ cs') → g.L i = true) : SR K g σ' vs' H' ρ' cs' := by
  have hB : Same (hide H (tot σ vs ρ cs ++ g.P0)) (hide H' (tot σ' vs' ρ' cs' ++ g.P0)) := hide_step keep new
  refine ⟨fun a o e n => ?_, fun a o e => ?_, h.pr, fun a ha => ?_, nd, sl hB, tp hB, pk⟩
  · refine keep a o (fun z => ?_) (h.fr a o e n)
    rcases h.nw a z with q | q
    · exact n q
    · rw [e] at q; cases q
  · obtain ⟨o', q⟩ := h.dm a o e
    exact dom a o' q
  · rcases new a ha with q | q
    · exact h.nw a q
    · cases e : g.H0 a with
      | none => exact .inr rfl
      | some o =>
        by_cases n : a ∈ g.Oa
        · exact .inl n
        · rw [h.fr a o e n] at q; cases q
/-- what a rule hands back -/
def NewRes (K : PySem.W.Frag) (O : List Addr) (H H' : Hp) (v : V) : C → Prop
  | .v d => Dp K (hide H' O) v d
  | .own t o => t = 0 ∧ ∃ a, v = .ref a ∧ H a = none ∧ OwnAt K (hide H' (a :: O)) H' a o
  | _ => False
theorem foot_cons_v {x : V} {d : D} : tot σ (x :: vs) ρ (.v d :: cs) = tot σ vs ρ cs := by
  show (footC (some x) (.v d) ++ foot (vs.map some) cs) ++ foot σ ρ = _
  have e : footC (some x) (.v d) = [] := by cases x <;> rfl
  rw [e]; rfl
theorem foot_cons_own {a : Addr} {t : Nat} {o : OD} : tot σ (.ref a :: vs) ρ (.own t o :: cs) = a :: tot σ vs ρ cs := rfl
theorem foot_cons_pk {x : V} {i : Nat} : tot σ (x :: vs) ρ (.pk i :: cs) = tot σ vs ρ cs := by
  show (footC (some x) (.pk i) ++ foot (vs.map some) cs) ++ foot σ ρ = _
  have e : footC (some x) (.pk i) = [] := by cases x <;> rfl
  rw [e]; rfl
theorem SR.memT (ha : a ∈ foot (vs.map some) cs) : a ∈ tot σ vs ρ cs := List.mem_append_left _ ha
theorem SR.memS (ha : a ∈ foot σ ρ) : a ∈ tot σ vs ρ cs := List.mem_append_right _ ha
/-- a value is pushed; the heap has grown -/
theorem SR.res {v : V} {c : C} (h : SR K g σ vs H ρ cs) (e : Same H H') (r : NewRes K (tot σ vs ρ cs ++ g.P0) H H' v c) : SR K g σ (v :: vs) H' ρ (c :: cs) := by
  cases c with
  | no => exact r.elim
  | pk i => exact r.elim
  | ln i => exact r.elim
  | v d =>
    have ft : tot σ (v :: vs) ρ (.v d :: cs) = tot σ vs ρ cs := foot_cons_v
    refine h.gen (fun a o _ q => e a o q) (fun a o q => ⟨o, e a o q⟩) (fun a ha => .inl (by rw [ft] at ha; exact ha)) (by rw [ft]; exact h.nd) (fun hB => h.sl.mono hB fun a _ u q => e a u q) (fun hB => ?_) (fun i hi => h.pk i (by simpa using hi))
    refine ⟨⟨v, rfl, ?_⟩, h.tp.mono hB fun a _ u q => e a u q⟩
    rw [ft]; exact r
  | own t o =>
    obtain ⟨rfl, a, rfl, na, oa⟩ := r
    have ft : tot σ (.ref a :: vs) ρ (.own 0 o :: cs) = a :: tot σ vs ρ cs := rfl
    refine h.gen (fun a o _ q => e a o q) (fun a o q => ⟨o, e a o q⟩) (fun b hb => ?_) ?_ (fun hB => h.sl.mono hB fun a _ u q => e a u q) (fun hB => ?_) (fun i hi => h.pk i (by simpa using hi))
    · rw [ft] at hb
      rcases List.mem_cons.mp hb with q | q
      · subst q; exact .inr na
      · exact .inl q
    · rw [ft]
      refine List.nodup_cons.mpr ⟨fun z => ?_, h.nd⟩
      obtain ⟨u, q⟩ := h.there a z
      rw [na] at q; cases q
    · refine ⟨⟨a, rfl, ?_, fun z => absurd rfl z, fun _ => ?_⟩, h.tp.mono hB fun a _ u q => e a u q⟩
      · rw [ft]; exact oa
      · cases z : g.H0 a with
        | none => rfl
        | some o =>
          obtain ⟨o', q⟩ := h.dm a o z
          rw [na] at q; cases q
/-- the heap has grown alone -/
theorem SR.grow (h : SR K g σ vs H ρ cs) (e : Same H H') : SR K g σ vs H' ρ cs :=
  h.gen (fun a o _ q => e a o q) (fun a o q => ⟨o, e a o q⟩) (fun a ha => .inl ha) h.nd (fun hB => h.sl.mono hB fun a _ u q => e a u q) (fun hB => h.tp.mono hB fun a _ u q => e a u q) h.pk
theorem tot_cons {x : V} {c : C} : tot σ (x :: vs) ρ (c :: cs) = footC (some x) c ++ tot σ vs ρ cs := by
  show (footC (some x) c ++ foot (vs.map some) cs) ++ foot σ ρ = _
  rw [List.append_assoc]
/-- the last value is let go -/
theorem SR.pop {x : V} {c : C} (h : SR K g σ (x :: vs) H ρ (c :: cs)) : SR K g σ vs H ρ cs := by
  have ft := tot_cons (σ := σ) (vs := vs) (ρ := ρ) (cs := cs) (x := x) (c := c)
  refine h.gen (fun _ _ _ q => q) (fun _ o q => ⟨o, q⟩) (fun a ha => .inl (by rw [ft]; exact List.mem_append_right _ ha)) ?_ (fun hB => h.sl.mono hB fun _ _ _ q => q) (fun hB => (RCs.mono hB (fun _ _ _ q => q) h.tp).2) (fun i hi => h.pk i (hi.imp (List.mem_cons_of_mem _) (List.mem_cons_of_mem _)))
  have q := h.nd
  rw [ft] at q
  exact (List.nodup_append.mp q).2.1
/-- what is known of the top -/
theorem SR.top {x : V} {d : D} (h : SR K g σ (x :: vs) H ρ (.v d :: cs)) : Dp K (hide H (tot σ vs ρ cs ++ g.P0)) x d := by
  obtain ⟨x', e, q⟩ := h.tp.1
  cases e
  rw [foot_cons_v] at q
  exact q
theorem SR.len (h : SR K g σ vs H ρ cs) : σ.length = ρ.length := h.sl.len
theorem SR.pops : ∀ {xs : List V} {ccs : List C}, xs.length = ccs.length → SR K g σ (xs ++ vs) H ρ (ccs ++ cs) → SR K g σ vs H ρ cs
  | [], [], _, h => h
  | _ :: xs, _ :: ccs, hl, h => SR.pops (xs := xs) (ccs := ccs) (by simpa using hl) h.pop
  | [], _ :: _, hl, _ => by simp at hl
  | _ :: _, [], hl, _ => by simp at hl
theorem tot_app {xs : List V} {ccs : List C} (hl : xs.length = ccs.length) : tot σ (xs ++ vs) ρ (ccs ++ cs) = foot (xs.map some) ccs ++ tot σ vs ρ cs := by
  show foot ((xs ++ vs).map some) (ccs ++ cs) ++ foot σ ρ = _
  rw [List.map_append, foot_app (by simpa using hl), List.append_assoc]
/-- a value below others comes to the top -/
theorem SR.rot {x : V} {c : C} {xs : List V} {ccs : List C} (hl : xs.length = ccs.length) (h : SR K g σ (xs ++ x :: vs) H ρ (ccs ++ c :: cs)) : SR K g σ (x :: (xs ++ vs)) H ρ (c :: (ccs ++ cs)) := by
  have e1 : tot σ (xs ++ x :: vs) ρ (ccs ++ c :: cs) = foot (xs.map some) ccs ++ (footC (some x) c ++ tot σ vs ρ cs) := by rw [tot_app hl, tot_cons]
  have e2 : tot σ (x :: (xs ++ vs)) ρ (c :: (ccs ++ cs)) = footC (some x) c ++ (foot (xs.map some) ccs ++ tot σ vs ρ cs) := by rw [tot_cons, tot_app hl]
  have pm : (foot (xs.map some) ccs ++ (footC (some x) c ++ tot σ vs ρ cs)).Perm (footC (some x) c ++ (foot (xs.map some) ccs ++ tot σ vs ρ cs)) := by
    exact List.perm_append_comm_assoc _ _ _
  refine h.gen (fun _ _ _ q => q) (fun _ o q => ⟨o, q⟩) (fun a ha => .inl ?_) ?_ (fun hB => h.sl.mono hB fun _ _ _ q => q) (fun hB => ?_) (fun i hi => h.pk i ?_)
  · rw [e1]; rw [e2] at ha; exact pm.mem_iff.mpr ha
  · rw [e2]; have q := h.nd; rw [e1] at q; exact pm.nodup_iff.mp q
  · have q := RCs.mono hB (fun _ _ _ q => q) h.tp
    rw [List.map_append] at q
    obtain ⟨q1, q2, q3⟩ := RCs.split (by simpa using hl) q
    rw [List.map_cons, List.map_append]
    exact ⟨q2, q1.app q3⟩
  · simp only [List.mem_append, List.mem_cons] at hi ⊢
    rcases hi with (h1 | h1 | h1) | (h1 | h1 | h1) <;> simp [h1]
theorem SR.unrot {x : V} {c : C} {xs : List V} {ccs : List C} (hl : xs.length = ccs.length) (h : SR K g σ (x :: (xs ++ vs)) H ρ (c :: (ccs ++ cs))) : SR K g σ (xs ++ x :: vs) H ρ (ccs ++ c :: cs) := by
  have e1 : tot σ (xs ++ x :: vs) ρ (ccs ++ c :: cs) = foot (xs.map some) ccs ++ (footC (some x) c ++ tot σ vs ρ cs) := by rw [tot_app hl, tot_cons]
  have e2 : tot σ (x :: (xs ++ vs)) ρ (c :: (ccs ++ cs)) = footC (some x) c ++ (foot (xs.map some) ccs ++ tot σ vs ρ cs) := by rw [tot_cons, tot_app hl]
  have pm : (foot (xs.map some) ccs ++ (footC (some x) c ++ tot σ vs ρ cs)).Perm (footC (some x) c ++ (foot (xs.map some) ccs ++ tot σ vs ρ cs)) := by
    exact List.perm_append_comm_assoc _ _ _
  refine h.gen (fun _ _ _ q => q) (fun _ o q => ⟨o, q⟩) (fun a ha => .inl ?_) ?_ (fun hB => h.sl.mono hB fun _ _ _ q => q) (fun hB => ?_) (fun i hi => h.pk i ?_)
  · rw [e2]; rw [e1] at ha; exact pm.mem_iff.mp ha
  · rw [e1]; have q := h.nd; rw [e2] at q; exact pm.nodup_iff.mpr q
  · have q := RCs.mono hB (fun _ _ _ q => q) h.tp
    rw [List.map_cons, List.map_append] at q
    obtain ⟨q2, q1⟩ := q
    obtain ⟨q1, q3⟩ := RCs.split (by simpa using hl) q1
    rw [List.map_append, List.map_cons]
    exact q1.app ⟨q2, q3⟩
  · simp only [List.mem_append, List.mem_cons] at hi ⊢
    rcases hi with (h1 | h1 | h1) | (h1 | h1 | h1) <;> simp [h1]
end

/-! ### slots -/
@[reducible] def rget : Rho → Nat → C
  | [], _ => .no
  | c :: _, 0 => c
  | _ :: ρ, n + 1 => rget ρ n
@[reducible] def rset : Rho → Nat → C → Rho
  | [], _, _ => []
  | _ :: ρ, 0, c => c :: ρ
  | c' :: ρ, n + 1, c => c' :: rset ρ n c
@[simp] theorem rget_zero {c : C} {ρ : Rho} : rget (c :: ρ) 0 = c := rfl
@[simp] theorem rget_succ {c : C} {ρ : Rho} {n : Nat} : rget (c :: ρ) (n + 1) = rget ρ n := rfl
@[simp] theorem rset_zero {c c' : C} {ρ : Rho} : rset (c' :: ρ) 0 c = c :: ρ := rfl
@[simp] theorem rset_succ {c c' : C} {ρ : Rho} {n : Nat} : rset (c' :: ρ) (n + 1) c = c' :: rset ρ n c := rfl
/-- the data of a passing value -/
@[reducible] def dat (ρ : Rho) : C → Option D
  | .v d => some d
  | .own _ (.lst ds) => some (.list ds)
  | .ln i => match rget ρ i with
    | .own _ (.lst ds) => some (.list ds)
    | .v d => some d
    | _ => none
  | _ => none
/-- data without lists -/
@[reducible] def lfree : D → Bool
  | .list _ => false
  | .dict _ => false
  | .tuple ds => lfreeAll ds
  | _ => true
where lfreeAll : List D → Bool
  | [] => true
  | d :: ds => lfree d && lfreeAll ds
@[reducible] def C.lf : C → Bool
  | .v d => lfree d
  | .own _ (.lst ds) => lfree.lfreeAll ds
  | _ => false
section
variable {K : PySem.W.Frag} {g : G} {σ σ' : L2.St} {vs vs' : List V} {B B' H H' : Hp} {ρ ρ' : Rho} {cs cs' : List C}
theorem seqT_lf {A O : List Addr} (hA : ∀ a ∈ A, ∃ xs, H a = some (.lst xs)) {a : Addr} {xs : List V} (h : SqT K (hide H O) a xs) : SqT K (hide H (A ++ O)) a xs := by
  rcases h with (h | ⟨o, h⟩) | h
  · obtain ⟨h1, h2⟩ := hide_some.mp h
    refine .inl (.inl (hide_some.mpr ⟨fun z => ?_, h2⟩))
    rcases List.mem_append.mp z with z | z
    · obtain ⟨ys, e⟩ := hA a z
      rw [h2] at e; cases e
    · exact h1 z
  · obtain ⟨h1, h2⟩ := hide_some.mp h
    refine .inl (.inr ⟨o, hide_some.mpr ⟨fun z => ?_, h2⟩⟩)
    rcases List.mem_append.mp z with z | z
    · obtain ⟨ys, e⟩ := hA a z
      rw [h2] at e; cases e
    · exact h1 z
  · exact .inr h
mutual
theorem dp_lf {A O : List Addr} (hA : ∀ a ∈ A, ∃ xs, H a = some (.lst xs)) : ∀ (d : D) (v : V), lfree d = true → Dp K (hide H O) v d → Dp K (hide H (A ++ O)) v d
  | .none, _, _, h => by cases h; exact .non
  | .bool b, _, _, h => by cases h; exact .bl b
  | .int i, _, _, h => by cases h; exact .int i
  | .str x, _, _, h => by cases h; exact .str x
  | .list ds, _, q, _ => by simp [lfree] at q
  | .tuple ds, _, q, h => by
    cases h with
    | tup hs ha => exact .tup (seqT_lf hA hs) (dpAll_lf hA ds _ (by simpa [lfree] using q) ha)
  | .dict _, _, _, h => by cases h
theorem dpAll_lf {A O : List Addr} (hA : ∀ a ∈ A, ∃ xs, H a = some (.lst xs)) : ∀ (ds : List D) (vs : List V), lfree.lfreeAll ds = true → DpAll K (hide H O) vs ds → DpAll K (hide H (A ++ O)) vs ds
  | [], _, _, h => by cases h; exact .nil
  | d :: ds, _, q, h => by
    have q' : lfree d = true ∧ lfree.lfreeAll ds = true := by simpa [lfree.lfreeAll] using q
    cases h with
    | cons h1 h2 => exact .cons (dp_lf hA d _ q'.1 h1) (dpAll_lf hA ds _ q'.2 h2)
end
theorem NewRes.lent {A O : List Addr} {v : V} {c : C} (hA : ∀ a ∈ A, ∃ xs, H a = some (.lst xs)) (e : Same H H') (hc : c.lf = true) (r : NewRes K O H H' v c) : NewRes K (A ++ O) H H' v c := by
  have hA' : ∀ a ∈ A, ∃ xs, H' a = some (.lst xs) := fun a ha => let ⟨xs, q⟩ := hA a ha; ⟨xs, e _ _ q⟩
  cases c with
  | v d => exact dp_lf hA' d v hc r
  | own t o =>
    obtain ⟨h0, a, e1, na, oa⟩ := r
    refine ⟨h0, a, e1, na, ?_⟩
    cases o with
    | dct _ => cases hc
    | lst ds =>
      obtain ⟨xs, h1, h2⟩ := oa
      refine ⟨xs, h1, ?_⟩
      have q := dpAll_lf hA' ds xs hc h2
      have e2 : hide H' (A ++ a :: O) = hide H' (a :: (A ++ O)) := hide_congr fun b => by
        simp only [List.mem_append, List.mem_cons]
        constructor
        · rintro (z | z | z) <;> simp [z]
        · rintro (z | z | z) <;> simp [z]
      rw [e2] at q
      exact q
  | no => exact r
  | pk i => exact r
  | ln i => exact r
theorem NewRes.congr {O O' : List Addr} {v : V} {c : C} (h : ∀ a, a ∈ O ↔ a ∈ O') (r : NewRes K O H H' v c) : NewRes K O' H H' v c := by
  cases c with
  | v d =>
    show Dp K (hide H' O') v d
    rw [← hide_congr h]; exact r
  | own t o =>
    obtain ⟨h0, a, e1, na, oa⟩ := r
    refine ⟨h0, a, e1, na, ?_⟩
    rw [← hide_congr (O := a :: O) (fun b => by simp [h b])]; exact oa
  | no => exact r
  | pk i => exact r
  | ln i => exact r
/-- a slot by its number -/
theorem RCs.at_ : ∀ {σ0 : List (Option V)} {ρ : Rho} {i : Nat}, RCs K g σ B H σ0 ρ → rget ρ i ≠ .no → ∃ ov, σ0[i]? = some ov ∧ RC K g σ B H ov (rget ρ i)
  | [], [], i, _, h => absurd rfl h
  | ov :: σ0, c :: ρ, 0, h, _ => ⟨ov, rfl, h.1⟩
  | ov :: σ0, c :: ρ, i + 1, h, hn => by
    obtain ⟨ov', e, q⟩ := RCs.at_ (i := i) h.2 hn
    exact ⟨ov', by simpa using e, q⟩
  | [], _ :: _, _, h, _ => h.elim
  | _ :: _, [], _, h, _ => h.elim
theorem foot_at : ∀ {σ0 : List (Option V)} {ρ : Rho} {i : Nat} {a : Addr} {t : Nat} {o : OD}, σ0[i]? = some (some (.ref a)) → rget ρ i = .own t o → a ∈ foot σ0 ρ
  | [], _, i, _, _, _, h, _ => by simp at h
  | ov :: σ0, [], i, _, _, _, _, h => by cases h
  | ov :: σ0, c :: ρ, 0, a, t, o, h1, h2 => by
    have e1 : ov = some (.ref a) := by simpa using h1
    have e2 : c = .own t o := h2
    subst e1; subst e2
    show a ∈ [a] ++ foot σ0 ρ
    simp
  | ov :: σ0, c :: ρ, i + 1, a, t, o, h1, h2 => by
    show a ∈ footC ov c ++ foot σ0 ρ
    exact List.mem_append_right _ (foot_at (i := i) (by simpa using h1) h2)
/-- an own slot -/
theorem SR.own {i t : Nat} {o : OD} (h : SR K g σ vs H ρ cs) (e : rget ρ i = .own t o) : ∃ a, σ[i]? = some (some (.ref a)) ∧ a ∈ foot σ ρ ∧ OwnAt K (hide H (tot σ vs ρ cs ++ g.P0)) H a o ∧ (t ≠ 0 → g.tg t = a) ∧ (t = 0 → g.H0 a = none) := by
  obtain ⟨ov, e1, q⟩ := h.sl.at_ (i := i) (by rw [e]; exact fun z => nomatch z)
  rw [e] at q
  obtain ⟨a, e2, q1, q2⟩ := q
  subst e2
  exact ⟨a, e1, foot_at e1 e, q1, q2⟩
theorem SR.slot {i : Nat} {d : D} (h : SR K g σ vs H ρ cs) (e : rget ρ i = .v d) : ∃ x, σ[i]? = some (some x) ∧ Dp K (hide H (tot σ vs ρ cs ++ g.P0)) x d := by
  obtain ⟨ov, e1, q⟩ := h.sl.at_ (i := i) (by rw [e]; exact fun z => nomatch z)
  rw [e] at q
  obtain ⟨x, e2, q1⟩ := q
  subst e2
  exact ⟨x, e1, q1⟩
/-- what the lent slots hold -/
def lentA (σ : L2.St) (ρ : Rho) : List C → List Addr
  | [] => []
  | .ln i :: cs => (match σ[i]?, rget ρ i with
    | some (some (.ref a)), .own _ (.lst _) => [a]
    | _, _ => []) ++ lentA σ ρ cs
  | _ :: cs => lentA σ ρ cs
theorem lentA_mem : ∀ {ccs : List C} {a : Addr}, a ∈ lentA σ ρ ccs → ∃ i t ds, C.ln i ∈ ccs ∧ σ[i]? = some (some (.ref a)) ∧ rget ρ i = .own t (.lst ds)
  | [], a, h => by simp [lentA] at h
  | c :: ccs, a, h => by
    have rec_ : a ∈ lentA σ ρ ccs → ∃ i t ds, C.ln i ∈ c :: ccs ∧ σ[i]? = some (some (.ref a)) ∧ rget ρ i = .own t (.lst ds) := fun z => by
      obtain ⟨i, t, ds, h1, h2⟩ := lentA_mem z
      exact ⟨i, t, ds, List.mem_cons_of_mem _ h1, h2⟩
    cases c with
    | ln i =>
      rw [lentA, List.mem_append] at h
      rcases h with h | h
      · revert h
        split
        · rename_i b t ds e1 e2
          intro h
          have e3 : a = b := by simpa using h
          subst e3
          exact ⟨i, t, ds, List.mem_cons_self, e1, e2⟩
        · intro h; simp at h
      · exact rec_ h
    | no => exact rec_ h
    | v d => exact rec_ h
    | own t o => exact rec_ h
    | pk i => exact rec_ h
theorem mem_lentA : ∀ {ccs : List C} {a : Addr} {i t : Nat} {ds : List D}, C.ln i ∈ ccs → σ[i]? = some (some (.ref a)) → rget ρ i = .own t (.lst ds) → a ∈ lentA σ ρ ccs
  | [], _, _, _, _, h, _, _ => by simp at h
  | c :: ccs, a, i, t, ds, h, h1, h2 => by
    rcases List.mem_cons.mp h with e | h
    · subst e
      rw [lentA, h1, h2]
      simp
    · have q := mem_lentA h h1 h2
      cases c with
      | ln j => rw [lentA]; exact List.mem_append_right _ q
      | no => exact q
      | v d => exact q
      | own t o => exact q
      | pk i => exact q
@[reducible] def C.isLn : C → Bool
  | .ln _ => true
  | _ => false
theorem lentA_none : ∀ {ccs : List C}, ccs.any C.isLn = false → lentA σ ρ ccs = []
  | [], _ => rfl
  | c :: ccs, h => by
    have h' : c.isLn = false ∧ ccs.any C.isLn = false := by simpa using h
    have r := lentA_none h'.2
    cases c with
    | ln i => simp [C.isLn] at h'
    | no => exact r
    | v d => exact r
    | own t o => exact r
    | pk i => exact r
def dats (ρ : Rho) : List C → Option (List D)
  | [] => some []
  | c :: cs => match dat ρ c, dats ρ cs with
    | some d, some ds => some (d :: ds)
    | _, _ => none
/-- the operands of a rule: data, fresh lists, lent lists -/
theorem SR.use {xs : List V} {ccs : List C} {ds : List D} (h : SR K g σ (xs ++ vs) H ρ (ccs ++ cs)) (hl : xs.length = ccs.length) (hd : dats ρ ccs = some ds) :
    ∃ O, (∀ a ∈ O, a ∈ tot σ vs ρ cs ++ g.P0) ∧ DpAll K (hide H O) xs ds ∧ ∀ H' v c, Same H H' → NewRes K O H H' v c → (ccs.any C.isLn = true → c.lf = true) → NewRes K (tot σ vs ρ cs ++ g.P0) H H' v c := by
  refine ⟨(tot σ vs ρ cs ++ g.P0).filter fun a => decide (a ∉ lentA σ ρ ccs), fun a ha => (List.mem_filter.mp ha).1, ?_, fun H' v c e r hc => ?_⟩
  · -- every operand reads as its data
    have big : ∀ a, a ∈ (tot σ vs ρ cs ++ g.P0).filter (fun a => decide (a ∉ lentA σ ρ ccs)) → a ∈ tot σ (xs ++ vs) ρ (ccs ++ cs) ++ g.P0 := fun a ha => by
      rw [tot_app hl]
      rcases List.mem_append.mp (List.mem_filter.mp ha).1 with q | q
      · exact List.mem_append_left _ (List.mem_append_right _ q)
      · exact List.mem_append_right _ q
    have up : Same (hide H (tot σ (xs ++ vs) ρ (ccs ++ cs) ++ g.P0)) (hide H ((tot σ vs ρ cs ++ g.P0).filter fun a => decide (a ∉ lentA σ ρ ccs))) := fun a o q => by
      obtain ⟨h1, h2⟩ := hide_some.mp q
      exact hide_some.mpr ⟨fun z => h1 (big a z), h2⟩
    have tp := h.tp
    rw [List.map_append] at tp
    have tp1 := (RCs.split (by simpa using hl) tp).1
    have nd := h.nd
    rw [tot_app hl] at nd
    have key : ∀ (ys : List V) (qs : List C) (es : List D), ys.length = qs.length → (∀ c ∈ qs, c ∈ ccs) → (∀ a ∈ foot (ys.map some) qs, a ∈ foot (xs.map some) ccs) → RCs K g σ (hide H (tot σ (xs ++ vs) ρ (ccs ++ cs) ++ g.P0)) H (ys.map some) qs → dats ρ qs = some es →
        DpAll K (hide H ((tot σ vs ρ cs ++ g.P0).filter fun a => decide (a ∉ lentA σ ρ ccs))) ys es := by
      intro ys
      induction ys with
      | nil =>
        intro qs es hlen _ _ _ hds
        cases qs with
        | nil => cases hds; exact .nil
        | cons _ _ => simp at hlen
      | cons y ys ih =>
        intro qs es hlen hin hft hrc hds
        cases qs with
        | nil => simp at hlen
        | cons q qs =>
          rw [dats] at hds
          cases e1 : dat ρ q with
          | none => rw [e1] at hds; cases hds
          | some d =>
            cases e2 : dats ρ qs with
            | none => rw [e1, e2] at hds; cases hds
            | some es' =>
              rw [e1, e2] at hds
              cases hds
              refine .cons ?_ (ih qs es' (by simpa using hlen) (fun c hc => hin c (List.mem_cons_of_mem _ hc)) (fun a ha => hft a (by rw [List.map_cons, foot]; exact List.mem_append_right _ ha)) hrc.2 e2)
              have hq := hrc.1
              cases q with
              | no => cases e1
              | pk i => cases e1
              | v d' =>
                cases e1
                obtain ⟨x, e3, q1⟩ := hq
                cases e3
                exact dp_mono up _ _ q1
              | own t o =>
                cases o with
                | dct _ => cases e1
                | lst zs =>
                  cases e1
                  obtain ⟨a, e3, ⟨us, q1, q2⟩, _⟩ := hq
                  cases e3
                  have ha : a ∈ foot (xs.map some) ccs := hft a (by rw [List.map_cons, foot]; exact List.mem_append_left _ (by simp [footC]))
                  refine .lst (.inl (.inl (hide_some.mpr ⟨fun z => ?_, q1⟩))) (dpAll_mono up _ _ q2)
                  rcases List.mem_append.mp (List.mem_filter.mp z).1 with z | z
                  · exact (List.nodup_append.mp nd).2.2 a ha a z rfl
                  · exact h.pout a (by rw [tot_app hl]; exact List.mem_append_left _ ha) z
              | ln i =>
                obtain ⟨x, e3, q1⟩ := hq
                cases e3
                have hin' := hin (.ln i) List.mem_cons_self
                revert e1
                show (match rget ρ i with
                  | .own _ (.lst ds) => some (PyData.list ds)
                  | .v d => some d
                  | _ => none) = some d → _
                split
                · rename_i t zs eo
                  intro e1
                  cases e1
                  obtain ⟨a, e4, _, ⟨us, q2, q3⟩, _⟩ := h.own eo
                  rw [q1] at e4
                  cases e4
                  refine .lst (.inl (.inl (hide_some.mpr ⟨fun z => ?_, q2⟩))) (dpAll_mono up _ _ q3)
                  exact of_decide_eq_true (List.mem_filter.mp z).2 (mem_lentA hin' q1 eo)
                · rename_i d' eo
                  intro e1
                  cases e1
                  obtain ⟨x', e4, q2⟩ := h.slot eo
                  rw [q1] at e4
                  cases e4
                  exact dp_mono up _ _ q2
                · intro e1; cases e1
    exact key xs ccs ds hl (fun _ q => q) (fun _ q => q) tp1 hd
  · -- the answer
    cases hb : ccs.any C.isLn with
    | false =>
      have e0 := lentA_none (σ := σ) (ρ := ρ) hb
      refine r.congr fun a => ?_
      rw [e0]
      simp
    | true =>
      have hlst : ∀ a ∈ lentA σ ρ ccs, ∃ xs, H a = some (.lst xs) := fun a ha => by
        obtain ⟨i, t, zs, h1, h2, h3⟩ := lentA_mem ha
        obtain ⟨b, e4, _, ⟨us, q2, _⟩, _⟩ := h.own h3
        rw [h2] at e4
        cases e4
        exact ⟨us, q2⟩
      refine (NewRes.lent hlst e (hc hb) r).congr fun a => ?_
      simp only [List.mem_append, List.mem_filter, decide_not, Bool.not_eq_true', decide_eq_false_iff_not]
      constructor
      · rintro (q | ⟨q, _⟩)
        · obtain ⟨i, t, zs, h1, h2, h3⟩ := lentA_mem q
          obtain ⟨b, e4, q5, _⟩ := h.own h3
          rw [h2] at e4
          cases e4
          exact .inl (.inr q5)
        · exact q
      · intro q
        by_cases z : a ∈ lentA σ ρ ccs
        · exact .inl z
        · exact .inr ⟨q, z⟩
end
end DL

set_option Elab.async false
set_option linter.all false
set_option maxRecDepth 100000
set_option maxHeartbeats 4000000
/-! DL, expressions: each rule of the hand layer, said over data. -/
namespace DL
open PySem PySem.Spec PyProof.Rows L2

/-- an exception: its class, its fields -/
structure XD where
  cls : Str
  fs : List (Str × D)
abbrev KC := C → Rho → Prop
abbrev KX := XD → Rho → Prop
abbrev WE := Rho → KC → KX → Prop
abbrev WT := Rho → (Bool → Rho → Prop) → KX → Prop
abbrev WA := Rho → (List C → Rho → Prop) → KX → Prop
def XFs (K : PySem.W.Frag) (B : Hp) : List (Str × V) → List (Str × D) → Prop
  | [], [] => True
  | p :: ps, q :: qs => p.1 = q.1 ∧ Dp K B p.2 q.2 ∧ XFs K B ps qs
  | _, _ => False
/-- how an exception lies -/
def XRep (K : PySem.W.Frag) (B H : Hp) (x : XD) (cls : Value) (d : Option Addr) : Prop :=
  Value.ref (He.ga K x.cls) = cls ∧ ((d = none ∧ x.fs = []) ∨ (x.fs ≠ [] ∧ ∃ a fs, d = some a ∧ H a = some (.xd fs) ∧ XFs K B fs x.fs))
/-- what is wanted of exceptions, over data, is enough -/
def XEnds (K : PySem.W.Frag) (g : G) (W : WX) (σ : L2.St) (ED : KX) : Prop :=
  ∀ x ρ' cls d H', SR K g σ [] H' ρ' [] → XRep K (hide H' (tot σ [] ρ' [] ++ g.P0)) H' x cls d → ED x ρ' → W cls d σ H'
def Sem (K : PySem.W.Frag) (g : G) (W : WX) (t : TE) (w : WE) : Prop :=
  ∀ (σ : L2.St) (vs : List V) (H : Hp) (ρ : Rho) (cs : List C) (QD : KC) (ED : KX) (Q : VK), SR K g σ vs H ρ cs → w ρ QD ED → XEnds K g W σ ED →
    (∀ v H' c ρ', SR K g σ (v :: vs) H' ρ' (c :: cs) → QD c ρ' → Q v H') → t σ H Q
def SemT (K : PySem.W.Frag) (g : G) (W : WX) (t : TT) (w : WT) : Prop :=
  ∀ (σ : L2.St) (vs : List V) (H : Hp) (ρ : Rho) (cs : List C) (QD : Bool → Rho → Prop) (ED : KX) (Q : Bool → Hp → Prop), SR K g σ vs H ρ cs → w ρ QD ED → XEnds K g W σ ED →
    (∀ b H' ρ', SR K g σ vs H' ρ' cs → QD b ρ' → Q b H') → t σ H Q
def SemA (K : PySem.W.Frag) (g : G) (W : WX) (t : TA) (w : WA) : Prop :=
  ∀ (σ : L2.St) (vs : List V) (H : Hp) (ρ : Rho) (cs : List C) (QD : List C → Rho → Prop) (ED : KX) (Q : List V → Hp → Prop), SR K g σ vs H ρ cs → w ρ QD ED → XEnds K g W σ ED →
    (∀ xs H' ccs ρ', xs.length = ccs.length → SR K g σ (xs ++ vs) H' ρ' (ccs ++ cs) → QD ccs ρ' → Q xs H') → t σ H Q
structure EE (X : Cx) (g : G) (W : WX) (e : Expr) (w : WE) : Prop where
  ex : ∃ t, PE X e t ∧ Sem X.K g W t w
structure ET (X : Cx) (g : G) (W : WX) (e : Expr) (w : WT) : Prop where
  ex : ∃ t, PT X e t ∧ SemT X.K g W t w
structure EW (X : Cx) (g : G) (W : WX) (e : Expr) (w : WT) : Prop where
  ex : ∃ t, PW X e t ∧ SemT X.K g W t w
structure EA (X : Cx) (g : G) (W : WX) (es : List Expr) (w : WA) : Prop where
  ex : ∃ t, PA X es t ∧ SemA X.K g W t w

/-- the operands' data -/
@[reducible] def useK (ρ : Rho) : List C → (List D → Prop) → Prop
  | [], k => k []
  | c :: cs, k => match dat ρ c with
    | some d => useK ρ cs fun ds => k (d :: ds)
    | none => False
theorem useK_dats {ρ : Rho} : ∀ {cs : List C} {k : List D → Prop}, useK ρ cs k → ∃ ds, dats ρ cs = some ds ∧ k ds
  | [], k, h => ⟨[], rfl, h⟩
  | c :: cs, k, h => by
    unfold useK at h
    cases e : dat ρ c with
    | none => rw [e] at h; exact h.elim
    | some d =>
      rw [e] at h
      obtain ⟨ds, e2, q⟩ := useK_dats h
      refine ⟨d :: ds, ?_, q⟩
      unfold dats
      rw [e, e2]
@[reducible] def okR (cs : List C) (c : C) : Prop := cs.any C.isLn = true → c.lf = true
/-- a rule of two operands, over data -/
abbrev O2 := D → D → (C → Prop) → Prop
abbrev O1 := D → (C → Prop) → Prop
abbrev OL := List D → (C → Prop) → Prop
def Lift2 (K : PySem.W.Frag) (r : R2) (o : O2) : Prop :=
  ∀ (O : List Addr) (H : Hp) (x y : V) (dx dy : D) (QD : C → Prop) (Q : VK), (∀ a ∈ O, ∃ u, H a = some u) → Dp K (hide H O) x dx → Dp K (hide H O) y dy → o dx dy QD →
    (∀ v H' c, Same H H' → NewRes K O H H' v c → QD c → Q v H') → r x y H Q
def Lift1 (K : PySem.W.Frag) (r : V → Hp → VK → Prop) (o : O1) : Prop :=
  ∀ (O : List Addr) (H : Hp) (x : V) (dx : D) (QD : C → Prop) (Q : VK), (∀ a ∈ O, ∃ u, H a = some u) → Dp K (hide H O) x dx → o dx QD →
    (∀ v H' c, Same H H' → NewRes K O H H' v c → QD c → Q v H') → r x H Q
def LiftL (K : PySem.W.Frag) (r : List V → Hp → VK → Prop) (o : OL) : Prop :=
  ∀ (O : List Addr) (H : Hp) (xs : List V) (ds : List D) (QD : C → Prop) (Q : VK), (∀ a ∈ O, ∃ u, H a = some u) → DpAll K (hide H O) xs ds → o ds QD →
    (∀ v H' c, Same H H' → NewRes K O H H' v c → QD c → Q v H') → r xs H Q
@[reducible] def use2 (ρ : Rho) (c1 c2 : C) (o : O2) (Q : KC) : Prop := useK ρ [c2, c1] fun ds => match ds with
  | [d2, d1] => o d1 d2 fun c => okR [c2, c1] c ∧ Q c ρ
  | _ => False
@[reducible] def use1 (ρ : Rho) (c1 : C) (o : O1) (Q : KC) : Prop := useK ρ [c1] fun ds => match ds with
  | [d1] => o d1 fun c => okR [c1] c ∧ Q c ρ
  | _ => False
@[reducible] def useL (ρ : Rho) (cs : List C) (o : OL) (Q : KC) : Prop := useK ρ cs fun ds => o ds fun c => okR cs c ∧ Q c ρ

section
variable {K : PySem.W.Frag} {g : G} {W : WX} {σ : L2.St} {vs : List V} {H H' : Hp} {ρ : Rho} {cs : List C}
theorem SR.resV {v : V} {d : D} (h : SR K g σ vs H ρ cs) (e : Same H H') (r : Dp K (hide H' (tot σ vs ρ cs ++ g.P0)) v d) : SR K g σ (v :: vs) H' ρ (.v d :: cs) := SR.res (c := .v d) h e r
theorem SR.use2 {x y : V} {c1 c2 : C} {o : O2} {r : R2} {QD : KC} {Q : VK} (l : Lift2 K r o) (h : SR K g σ (y :: x :: vs) H ρ (c2 :: c1 :: cs)) (q : DL.use2 ρ c1 c2 o QD)
    (hQ : ∀ v H' c, SR K g σ (v :: vs) H' ρ (c :: cs) → QD c ρ → Q v H') : r x y H Q := by
  obtain ⟨ds, e, q⟩ := useK_dats q
  obtain ⟨O, hO, hd, fin⟩ := SR.use (xs := [y, x]) (ccs := [c2, c1]) h rfl e
  cases hd with
  | cons h2 hd =>
    cases hd with
    | cons h1 hd =>
      cases hd
      refine l O H x y _ _ _ Q (fun a ha => (SR.pops (xs := [y, x]) (ccs := [c2, c1]) rfl h).domO a (hO a ha)) h1 h2 q fun v H' c sm nr ⟨ok, qd⟩ => ?_
      exact hQ v H' c (SR.res (SR.pops (xs := [y, x]) (ccs := [c2, c1]) rfl h) sm (fin H' v c sm nr ok)) qd
theorem SR.use1 {x : V} {c1 : C} {o : O1} {r : V → Hp → VK → Prop} {QD : KC} {Q : VK} (l : Lift1 K r o) (h : SR K g σ (x :: vs) H ρ (c1 :: cs)) (q : DL.use1 ρ c1 o QD)
    (hQ : ∀ v H' c, SR K g σ (v :: vs) H' ρ (c :: cs) → QD c ρ → Q v H') : r x H Q := by
  obtain ⟨ds, e, q⟩ := useK_dats q
  obtain ⟨O, hO, hd, fin⟩ := SR.use (xs := [x]) (ccs := [c1]) h rfl e
  cases hd with
  | cons h1 hd =>
    cases hd
    refine l O H x _ _ Q (fun a ha => (SR.pops (xs := [x]) (ccs := [c1]) rfl h).domO a (hO a ha)) h1 q fun v H' c sm nr ⟨ok, qd⟩ => ?_
    exact hQ v H' c (SR.res (SR.pops (xs := [x]) (ccs := [c1]) rfl h) sm (fin H' v c sm nr ok)) qd
theorem SR.useL {xs : List V} {ccs : List C} {o : OL} {r : List V → Hp → VK → Prop} {QD : KC} {Q : VK} (l : LiftL K r o) (hl : xs.length = ccs.length) (h : SR K g σ (xs ++ vs) H ρ (ccs ++ cs)) (q : DL.useL ρ ccs o QD)
    (hQ : ∀ v H' c, SR K g σ (v :: vs) H' ρ (c :: cs) → QD c ρ → Q v H') : r xs H Q := by
  obtain ⟨ds, e, q⟩ := useK_dats q
  obtain ⟨O, hO, hd, fin⟩ := SR.use h hl e
  refine l O H xs ds _ Q (fun a ha => (SR.pops hl h).domO a (hO a ha)) hd q fun v H' c sm nr ⟨ok, qd⟩ => ?_
  exact hQ v H' c (SR.res (SR.pops hl h) sm (fin H' v c sm nr ok)) qd
end

/-! ### names, constants -/
@[reducible] def wVar (i : Nat) : WE := fun ρ Q _ => match rget ρ i with
  | .v d => Q (.v d) ρ
  | _ => False
@[reducible] def wLn (i : Nat) : WE := fun ρ Q _ => match rget ρ i with
  | .v d => Q (.v d) ρ
  | .own _ _ => Q (.ln i) ρ
  | _ => False
@[reducible] def wC (d : D) : WE := fun ρ Q _ => Q (.v d) ρ
section
variable {X : Cx} {g : G} {W : WX} {pos : Pos}
theorem sem_var {K : PySem.W.Frag} {i : Nat} : Sem K g W (tVar i) (wVar i) := by
  intro σ vs H ρ cs QD ED Q hS hw hX hQ
  unfold wVar at hw
  split at hw
  · rename_i d e
    obtain ⟨x, e1, q1⟩ := hS.slot e
    exact ⟨x, e1, hQ x H _ ρ (SR.resV hS (Same.refl H) q1) hw⟩
  · exact hw.elim
theorem ee_var {i : Nat} {x : Str} (h : PE X (.Name x pos) (tVar i)) : EE X g W (.Name x pos) (wVar i) := ⟨_, h, sem_var⟩
theorem SR.pushLn {K : PySem.W.Frag} {σ : L2.St} {vs : List V} {H : Hp} {ρ : Rho} {cs : List C} {i : Nat} {x : V} (h : SR K g σ vs H ρ cs) (e : σ[i]? = some (some x)) (hL : g.L i = true) : SR K g σ (x :: vs) H ρ (.ln i :: cs) := by
  have ft : tot σ (x :: vs) ρ (.ln i :: cs) = tot σ vs ρ cs := by
    rw [tot_cons]
    have e : footC (some x) (.ln i) = [] := by cases x <;> rfl
    rw [e]; rfl
  refine h.gen (fun _ _ _ q => q) (fun _ o q => ⟨o, q⟩) (fun a ha => .inl (by rw [ft] at ha; exact ha)) (by rw [ft]; exact h.nd) (fun hB => h.sl.mono hB fun _ _ _ q => q) (fun hB => ⟨⟨x, rfl, e⟩, h.tp.mono hB fun _ _ _ q => q⟩) (fun j hj => ?_)
  simp only [List.mem_cons] at hj
  rcases hj with (z | z) | (z | z)
  · cases z
  · exact h.pk j (.inl z)
  · cases z; exact hL
  · exact h.pk j (.inr z)
theorem SR.pushPk {K : PySem.W.Frag} {σ : L2.St} {vs : List V} {H : Hp} {ρ : Rho} {cs : List C} {i : Nat} {x : V} (h : SR K g σ vs H ρ cs) (e : σ[i]? = some (some x)) (hL : g.L i = true) : SR K g σ (x :: vs) H ρ (.pk i :: cs) := by
  have ft : tot σ (x :: vs) ρ (.pk i :: cs) = tot σ vs ρ cs := foot_cons_pk
  refine h.gen (fun _ _ _ q => q) (fun _ o q => ⟨o, q⟩) (fun a ha => .inl (by rw [ft] at ha; exact ha)) (by rw [ft]; exact h.nd) (fun hB => h.sl.mono hB fun _ _ _ q => q) (fun hB => ⟨⟨x, rfl, e⟩, h.tp.mono hB fun _ _ _ q => q⟩) (fun j hj => ?_)
  simp only [List.mem_cons] at hj
  rcases hj with (z | z) | (z | z)
  · cases z; exact hL
  · exact h.pk j (.inl z)
  · cases z
  · exact h.pk j (.inr z)
theorem sem_ln {K : PySem.W.Frag} {i : Nat} (hL : g.L i = true) : Sem K g W (tVar i) (wLn i) := by
  intro σ vs H ρ cs QD ED Q hS hw hX hQ
  unfold wLn at hw
  split at hw
  · rename_i d e
    obtain ⟨x, e1, q1⟩ := hS.slot e
    exact ⟨x, e1, hQ x H _ ρ (SR.resV hS (Same.refl H) q1) hw⟩
  · rename_i t o e
    obtain ⟨a, e1, _⟩ := hS.own e
    exact ⟨_, e1, hQ _ H _ ρ (hS.pushLn e1 hL) hw⟩
  · exact hw.elim
/-- an own list or dict of the slot, read by the rule that takes it -/
theorem ee_ln {i : Nat} {x : Str} (hL : g.L i = true) (h : PE X (.Name x pos) (tVar i)) : EE X g W (.Name x pos) (wLn i) := ⟨_, h, sem_ln hL⟩
theorem sem_C {K : PySem.W.Frag} {v : V} {d : D} (h : ∀ B, Dp K B v d) : Sem K g W (tC v) (wC d) := fun σ vs H ρ cs QD ED Q hS hw hX hQ => hQ v H _ ρ (SR.resV hS (Same.refl H) (h _)) hw
theorem ee_int {i j} : EE X g W (.Constant (.int i) j pos) (wC (.int i)) := ⟨_, pe_int, sem_C fun _ => .int i⟩
theorem ee_bl {b j} : EE X g W (.Constant (.bool b) j pos) (wC (.bool b)) := ⟨_, pe_bl, sem_C fun _ => .bl b⟩
theorem ee_non {j} : EE X g W (.Constant .none j pos) (wC .none) := ⟨_, pe_non, sem_C fun _ => .non⟩
theorem ee_str {x j} : EE X g W (.Constant (.str x) j pos) (wC (.str x)) := ⟨_, pe_str, sem_C fun _ => .str x⟩
theorem ee_gint {i : Int} {x : Str} {t : Tok} (hg : Gl X x) (hm : X.mg x = some (.int i t)) (hd : (x == ("__debug__" : Str)) = false := by decide) : EE X g W (.Name x pos) (wC (.int i)) := ⟨_, pe_glob (v := .int i) hg hm ⟨_, rfl⟩ hd, sem_C fun _ => .int i⟩
theorem ee_gstr {z x : Str} {t : Tok} (hg : Gl X x) (hm : X.mg x = some (.str z t)) (hd : (x == ("__debug__" : Str)) = false := by decide) : EE X g W (.Name x pos) (wC (.str z)) := ⟨_, pe_glob (v := .str z) hg hm ⟨_, rfl⟩ hd, sem_C fun _ => .str z⟩
end

/-! ### operators -/
@[reducible] def wB (o : O2) (wa wb : WE) : WE := fun ρ Q E => wa ρ (fun c1 ρ1 => wb ρ1 (fun c2 ρ2 => use2 ρ2 c1 c2 o Q) E) E
@[reducible] def wU (o : O1) (wa : WE) : WE := fun ρ Q E => wa ρ (fun c1 ρ1 => use1 ρ1 c1 o Q) E
section
variable {K : PySem.W.Frag} {g : G} {W : WX} {ta tb : TE} {wa wb : WE} {r : R2} {o : O2}
theorem sem_op (l : Lift2 K r o) (ha : Sem K g W ta wa) (hb : Sem K g W tb wb) : Sem K g W (tOp r ta tb) (wB o wa wb) := by
  intro σ vs H ρ cs QD ED Q hS hw hX hQ
  refine ha σ vs H ρ cs _ ED _ hS hw hX fun x H1 c1 ρ1 S1 q1 => ?_
  refine hb σ (x :: vs) H1 ρ1 (c1 :: cs) _ ED _ S1 q1 hX fun y H2 c2 ρ2 S2 q2 => ?_
  exact S2.use2 l q2 fun v H' c S3 q3 => hQ v H' c ρ2 S3 q3
theorem sem_un {r : V → Hp → VK → Prop} {o : O1} (l : Lift1 K r o) (ha : Sem K g W ta wa) : Sem K g W (tUn r ta) (wU o wa) := by
  intro σ vs H ρ cs QD ED Q hS hw hX hQ
  refine ha σ vs H ρ cs _ ED _ hS hw hX fun x H1 c1 ρ1 S1 q1 => ?_
  exact S1.use1 l q1 fun v H' c S3 q3 => hQ v H' c ρ1 S3 q3
end
/-- of two whole numbers -/
@[reducible] def oI (f : Int → Int → D) : O2 := fun d1 d2 k => match d1, d2 with
  | .int i, .int j => k (.v (f i j))
  | _, _ => False
@[reducible] def oIc (P : Int → Int → Prop) (f : Int → Int → D) : O2 := fun d1 d2 k => match d1, d2 with
  | .int i, .int j => P i j ∧ k (.v (f i j))
  | _, _ => False
@[simp] theorem oI_int {f : Int → Int → D} {i j : Int} {k : C → Prop} : oI f (.int i) (.int j) k = k (.v (f i j)) := rfl
@[simp] theorem oIc_int {P : Int → Int → Prop} {f : Int → Int → D} {i j : Int} {k : C → Prop} : oIc P f (.int i) (.int j) k = (P i j ∧ k (.v (f i j))) := rfl
theorem lift_I {K : PySem.W.Frag} {gv : Int → Int → V} {f : Int → Int → D} (h : ∀ i j B, Dp K B (gv i j) (f i j)) : Lift2 K (rI0 gv) (oI f) := by
  intro O H x y dx dy QD Q _ hx hy q fin
  cases hx <;> try exact q.elim
  cases hy <;> try exact q.elim
  exact ⟨_, _, rfl, rfl, fin _ H (.v _) (Same.refl H) (h _ _ _) q⟩
theorem lift_Ic {K : PySem.W.Frag} {P P' : Int → Int → Prop} {gv : Int → Int → V} {f : Int → Int → D} (hp : ∀ i j, P i j → P' i j) (h : ∀ i j B, Dp K B (gv i j) (f i j)) : Lift2 K (rI P' gv) (oIc P f) := by
  intro O H x y dx dy QD Q _ hx hy q fin
  cases hx <;> try exact q.elim
  cases hy <;> try exact q.elim
  exact ⟨_, _, rfl, rfl, hp _ _ q.1, fin _ H (.v _) (Same.refl H) (h _ _ _) q.2⟩
abbrev oAdd : O2 := oI fun i j => .int (i + j)
abbrev oSub : O2 := oI fun i j => .int (i - j)
/-- a product within the model's bounds -/
def MulOk (i j : Int) : Prop := IntMulOk i j
abbrev oMul : O2 := oIc MulOk fun i j => .int (i * j)
abbrev oDiv : O2 := oIc CDivW fun i j => .int (i / j)
abbrev oMod : O2 := oIc (fun _ j => 0 < j) fun i j => .int (i % j)
abbrev oPow : O2 := oIc CPow fun i j => .int (i ^ j.toNat)
abbrev oLt : O2 := oI fun i j => .bool (decide (i < j))
abbrev oLe : O2 := oI fun i j => .bool (decide (i ≤ j))
abbrev oGt : O2 := oI fun i j => .bool (decide (j < i))
abbrev oGe : O2 := oI fun i j => .bool (decide (j ≤ i))
theorem op_mulX {X : Cx} : OpR X (binaryOp .Mult) (rI MulOk fun i j => .int (i * j)) := opI fun _ _ _ _ _ _ _ hc q => mul_int q hc
theorem MulOk.wide {i j : Int} {a b : Nat} (ha : i.natAbs < 2 ^ a) (hb : j.natAbs < 2 ^ b) (h0 : 0 < a := by decide) (h1 : 0 < b := by decide) (h : a + b ≤ 1000000 := by decide) : MulOk i j := (wide_mul ha hb h0 h1 h).ok
theorem MulOk.left {i j : Int} (h : -(2 ^ 64) < i ∧ i < 2 ^ 64) : MulOk i j := CMul.ok (.inl h)
theorem MulOk.right {i j : Int} (h : -(2 ^ 64) < j ∧ j < 2 ^ 64) : MulOk i j := CMul.ok (.inr h)
section
variable {X : Cx} {g : G} {W : WX} {a b : Expr} {wa wb : WE} {pos : Pos}
theorem ee_op {op : Operator} {r : R2} {o : O2} (ho : OpR X (binaryOp op) r) (l : Lift2 X.K r o) (ha : EE X g W a wa) (hb : EE X g W b wb) : EE X g W (.BinOp a op b pos) (wB o wa wb) := by
  obtain ⟨ta, p1, s1⟩ := ha.ex
  obtain ⟨tb, p2, s2⟩ := hb.ex
  exact ⟨_, pe_op ho p1 p2, sem_op l s1 s2⟩
theorem ee_add (ha : EE X g W a wa) (hb : EE X g W b wb) : EE X g W (.BinOp a .Add b pos) (wB oAdd wa wb) := ee_op op_add (lift_I fun i j _ => .int (i + j)) ha hb
theorem ee_sub (ha : EE X g W a wa) (hb : EE X g W b wb) : EE X g W (.BinOp a .Sub b pos) (wB oSub wa wb) := ee_op op_sub (lift_I fun i j _ => .int (i - j)) ha hb
theorem ee_mul (ha : EE X g W a wa) (hb : EE X g W b wb) : EE X g W (.BinOp a .Mult b pos) (wB oMul wa wb) := ee_op op_mulX (lift_Ic (fun _ _ h => h) fun i j _ => .int (i * j)) ha hb
theorem ee_div (ha : EE X g W a wa) (hb : EE X g W b wb) : EE X g W (.BinOp a .FloorDiv b pos) (wB oDiv wa wb) := ee_op op_fdivW (lift_Ic (fun _ _ h => h) fun i j _ => .int (i / j)) ha hb
theorem ee_mod (ha : EE X g W a wa) (hb : EE X g W b wb) : EE X g W (.BinOp a .Mod b pos) (wB oMod wa wb) := ee_op op_mod (lift_Ic (fun _ _ h => h) fun i j _ => .int (i % j)) ha hb
theorem ee_pow (ha : EE X g W a wa) (hb : EE X g W b wb) : EE X g W (.BinOp a .Pow b pos) (wB oPow wa wb) := ee_op op_pow (lift_Ic (fun _ _ h => h) fun i j _ => .int (i ^ j.toNat)) ha hb
end
/-! ### comparisons -/
/-- == of data: scalars as they are, the rest by the model's own == of data -/
@[reducible] def oEq : O2 := fun d1 d2 k => SeqAt.shaped d1 = true ∧ SeqAt.shaped d2 = true ∧ k (.v (.bool (PyData.eqv d1 d2)))
@[reducible] def oNe : O2 := fun d1 d2 k => SeqAt.shaped d1 = true ∧ SeqAt.shaped d2 = true ∧ k (.v (.bool (!PyData.eqv d1 d2)))
theorem dp_hide {K : PySem.W.Frag} {H : Hp} {O : List Addr} {v : V} {d : D} (h : Dp K (hide H O) v d) : Dp K H v d := dp_mono (fun _ _ e => (hide_some.mp e).2) _ _ h
theorem dpAll_hide {K : PySem.W.Frag} {H : Hp} {O : List Addr} {v : List V} {d : List D} (h : DpAll K (hide H O) v d) : DpAll K H v d := dpAll_mono (fun _ _ e => (hide_some.mp e).2) _ _ h
theorem lift_eq {K : PySem.W.Frag} : Lift2 K (rEqD K) oEq := fun O H x y dx dy QD Q _ hx hy q fin =>
  ⟨dx, dy, dp_hide hx, dp_hide hy, q.1, q.2.1, fin _ H (.v _) (Same.refl H) (.bl _) q.2.2⟩
theorem lift_ne {K : PySem.W.Frag} : Lift2 K (rNeD K) oNe := fun O H x y dx dy QD Q _ hx hy q fin =>
  ⟨dx, dy, dp_hide hx, dp_hide hy, q.1, q.2.1, fin _ H (.v _) (Same.refl H) (.bl _) q.2.2⟩
@[reducible] def oIsN : O1 := fun d k => k (.v (.bool (match d with
  | .none => true
  | _ => false)))
@[reducible] def oNotN : O1 := fun d k => k (.v (.bool (match d with
  | .none => false
  | _ => true)))
section
variable {X : Cx} {g : G} {W : WX} {a b c : Expr} {wa wb wc : WE} {pos : Pos}
theorem ee_cmp {op : CmpOp} {r : R2} {o : O2} (ho : OpR X (compareOp op) r) (l : Lift2 X.K r o) (ha : EE X g W a wa) (hb : EE X g W b wb) (hm : behindInMarks op b = false) : EE X g W (.Compare a [op] [b] pos) (wB o wa wb) := by
  obtain ⟨ta, p1, s1⟩ := ha.ex
  obtain ⟨tb, p2, s2⟩ := hb.ex
  exact ⟨_, pe_cmpR ho p1 p2 hm, sem_op l s1 s2⟩
theorem ee_lt (ha : EE X g W a wa) (hb : EE X g W b wb) : EE X g W (.Compare a [.Lt] [b] pos) (wB oLt wa wb) := ee_cmp op_lt (lift_I fun i j _ => .bl _) ha hb (nomark _)
theorem ee_le (ha : EE X g W a wa) (hb : EE X g W b wb) : EE X g W (.Compare a [.LtE] [b] pos) (wB oLe wa wb) := ee_cmp op_le (lift_I fun i j _ => .bl _) ha hb (nomark _)
theorem ee_gt (ha : EE X g W a wa) (hb : EE X g W b wb) : EE X g W (.Compare a [.Gt] [b] pos) (wB oGt wa wb) := ee_cmp op_gt (lift_I fun i j _ => .bl _) ha hb (nomark _)
theorem ee_ge (ha : EE X g W a wa) (hb : EE X g W b wb) : EE X g W (.Compare a [.GtE] [b] pos) (wB oGe wa wb) := ee_cmp op_ge (lift_I fun i j _ => .bl _) ha hb (nomark _)
theorem ee_eq (hu : X.A.units + 64 < cLine) (ha : EE X g W a wa) (hb : EE X g W b wb) : EE X g W (.Compare a [.Eq] [b] pos) (wB oEq wa wb) := ee_cmp (op_eqD hu) lift_eq ha hb (nomark _)
theorem ee_ne (hu : X.A.units + 64 < cLine) (ha : EE X g W a wa) (hb : EE X g W b wb) : EE X g W (.Compare a [.NotEq] [b] pos) (wB oNe wa wb) := ee_cmp (op_neD hu) lift_ne ha hb (nomark _)
/-- a op b op' c -/
@[reducible] def wCh (o o' : O2) (wa wb wc : WE) : WE := fun ρ Q E => wa ρ (fun c1 ρ1 => wb ρ1 (fun c2 ρ2 => useK ρ2 [c2, c1] fun ds => match ds with
  | [d2, d1] => [c2, c1].any C.isLn = false ∧ o d1 d2 fun cr => match cr with
    | .v (.bool k) => if k = true then wc ρ2 (fun c3 ρ3 => useK ρ3 [c3] fun es => match es with
      | [d3] => [c3].any C.isLn = false ∧ o' d2 d3 fun c => Q c ρ3
      | _ => False) E else Q (.v (.bool false)) ρ2
    | _ => False
  | _ => False) E) E
end
theorem SR.frzAt {K : PySem.W.Frag} {g : G} {σ : L2.St} {vs : List V} {H : Hp} {ρ : Rho} {cs : List C} {x : V} {c : C} {d : D} (h : SR K g σ (x :: vs) H ρ (c :: cs)) (e : dat ρ c = some d) (hn : c.isLn = false) : SR K g σ (x :: vs) H ρ (.v d :: cs) := by
  obtain ⟨O, _, hd, fin⟩ := SR.use (xs := [x]) (ccs := [c]) (ds := [d]) h rfl (by unfold dats; rw [e]; rfl)
  have e0 : lentA σ ρ [c] = [] := lentA_none (by simp [hn])
  refine SR.res h.pop (Same.refl H) ?_
  cases hd with
  | cons h1 _ =>
    exact fin H x (.v d) (Same.refl H) h1 (fun z => by simp [hn] at z)
section
variable {K : PySem.W.Frag} {g : G} {W : WX} {ta tb tc : TE} {wa wb wc : WE} {r r' : R2} {o o' : O2}
theorem sem_chain (l : Lift2 K r o) (l' : Lift2 K r' o') (hr : ∀ x y H Q Q', (∀ z H', Q z H' → Q' z H') → r x y H Q → r x y H Q') (ha : Sem K g W ta wa) (hb : Sem K g W tb wb) (hc : Sem K g W tc wc) : Sem K g W (tChain r r' ta tb tc) (wCh o o' wa wb wc) := by
  intro σ vs H ρ cs QD ED Q hS hw hX hQ
  refine ha σ vs H ρ cs _ ED _ hS hw hX fun x H1 c1 ρ1 S1 q1 => ?_
  refine hb σ (x :: vs) H1 ρ1 (c1 :: cs) _ ED _ S1 q1 hX fun y H2 c2 ρ2 S2 q2 => ?_
  obtain ⟨ds, e, q⟩ := useK_dats q2
  cases e1 : dat ρ2 c1 with
  | none => simp [dats, e1] at e
  | some d1 =>
    cases e2 : dat ρ2 c2 with
    | none => simp [dats, e2] at e
    | some d2 =>
      have e' : ds = [d2, d1] := by simpa [dats, e1, e2] using e.symm
      subst e'
      obtain ⟨nl, q⟩ := q
      have n2 : c2.isLn = false ∧ c1.isLn = false := by simpa using nl
      have S3 : SR K g σ (y :: x :: vs) H2 ρ2 (.v d2 :: c1 :: cs) := S2.frzAt e2 n2.1
      have S4 : SR K g σ (x :: y :: vs) H2 ρ2 (.v d1 :: .v d2 :: cs) := SR.frzAt (SR.rot (xs := [y]) (ccs := [.v d2]) rfl S3) e1 n2.2
      have hx : Dp K (hide H2 (tot σ (y :: vs) ρ2 (.v d2 :: cs) ++ g.P0)) x d1 := S4.top
      have hy : Dp K (hide H2 (tot σ (y :: vs) ρ2 (.v d2 :: cs) ++ g.P0)) y d2 := by
        have q := S4.pop.top
        rw [foot_cons_v]; exact q
      refine l _ H2 x y d1 d2 _ _ S4.pop.domO hx hy q fun z H3 c sm nr qd => ?_
      split at qd
      · rename_i k
        cases nr
        have S5 : SR K g σ (y :: vs) H3 ρ2 (.v d2 :: cs) := S4.pop.grow sm
        refine ⟨k, rfl, ?_⟩
        cases k with
        | false =>
          rw [if_neg Bool.false_ne_true] at qd ⊢
          exact hQ _ H3 _ ρ2 (SR.resV S5.pop (Same.refl H3) (.bl false)) qd
        | true =>
          rw [if_pos rfl] at qd ⊢
          refine hc σ (y :: vs) H3 ρ2 (.v d2 :: cs) _ ED _ S5 qd hX fun w' H4 c3 ρ3 S6 q6 => ?_
          obtain ⟨es, e3, q6⟩ := useK_dats q6
          cases e4 : dat ρ3 c3 with
          | none => simp [dats, e4] at e3
          | some d3 =>
            have e5 : es = [d3] := by simpa [dats, e4] using e3.symm
            subst e5
            obtain ⟨nl3, q6⟩ := q6
            have S7 : SR K g σ (w' :: y :: vs) H4 ρ3 (.v d3 :: .v d2 :: cs) := S6.frzAt e4 (by simpa using nl3)
            have hw' : Dp K (hide H4 (tot σ vs ρ3 cs ++ g.P0)) w' d3 := by
              have q := S7.top
              rw [foot_cons_v] at q; exact q
            refine l' _ H4 y w' d2 d3 _ _ S7.pop.pop.domO S7.pop.top hw' q6 fun z H5 c sm nr qd => ?_
            exact hQ z H5 c ρ3 (SR.res S7.pop.pop sm nr) qd
      · exact qd.elim
end
section
variable {X : Cx} {g : G} {W : WX} {a b c : Expr} {wa wb wc : WE} {pos : Pos}
theorem rI0_mono {gv : Int → Int → V} : ∀ x y H Q Q', (∀ z H', Q z H' → Q' z H') → rI0 gv x y H Q → rI0 gv x y H Q' := fun x y H Q Q' h ⟨i, j, e1, e2, q⟩ => ⟨i, j, e1, e2, h _ _ q⟩
theorem ee_chain {op op' : CmpOp} {f f' : Int → Int → Bool} (ho : OpR X (compareOp op) (rI0 fun i j => .bl (f i j))) (ho' : OpR X (compareOp op') (rI0 fun i j => .bl (f' i j))) (ha : EE X g W a wa) (hb : EE X g W b wb) (hc : EE X g W c wc)
    (hm : lastMarks [op, op'] [b, c] = false := by with_unfolding_all rfl) : EE X g W (.Compare a [op, op'] [b, c] pos) (wCh (oI fun i j => .bool (f i j)) (oI fun i j => .bool (f' i j)) wa wb wc) := by
  obtain ⟨ta, p1, s1⟩ := ha.ex
  obtain ⟨tb, p2, s2⟩ := hb.ex
  obtain ⟨tc, p3, s3⟩ := hc.ex
  exact ⟨_, pe_chain ho ho' p1 p2 p3 hm, sem_chain (lift_I fun i j _ => .bl _) (lift_I fun i j _ => .bl _) rI0_mono s1 s2 s3⟩
end
/-! ### tests -/
@[reducible] def wTst (w : WE) : WT := fun ρ Q E => w ρ (fun c ρ1 => match c with
  | .v (.bool b) => Q b ρ1
  | _ => False) E
@[reducible] def wAnd (wt wu : WT) : WT := fun ρ Q E => wt ρ (fun b ρ1 => if b = true then wu ρ1 Q E else Q false ρ1) E
@[reducible] def wOr (wt wu : WT) : WT := fun ρ Q E => wt ρ (fun b ρ1 => if b = true then Q true ρ1 else wu ρ1 Q E) E
@[reducible] def wNot (wt : WT) : WT := fun ρ Q E => wt ρ (fun b ρ1 => Q (!b) ρ1) E
@[reducible] def wAndV (wa wb : WE) : WE := fun ρ Q E => wa ρ (fun c ρ1 => match c with
  | .v (.bool b) => if b = true then wb ρ1 Q E else Q (.v (.bool false)) ρ1
  | _ => False) E
@[reducible] def wOrV (wa wb : WE) : WE := fun ρ Q E => wa ρ (fun c ρ1 => match c with
  | .v (.bool b) => if b = true then Q (.v (.bool true)) ρ1 else wb ρ1 Q E
  | _ => False) E
@[reducible] def wNotV (wa : WE) : WE := fun ρ Q E => wa ρ (fun c ρ1 => match c with
  | .v (.bool b) => Q (.v (.bool (!b))) ρ1
  | _ => False) E
@[reducible] def wIte (wt : WT) (wa wb : WE) : WE := fun ρ Q E => wt ρ (fun b ρ1 => if b = true then wa ρ1 Q E else wb ρ1 Q E) E
section
variable {K : PySem.W.Frag} {g : G} {W : WX}
theorem sem_tst {t : TE} {w : WE} (h : Sem K g W t w) : SemT K g W (tTest t) (wTst w) := by
  intro σ vs H ρ cs QD ED Q hS hw hX hQ
  refine h σ vs H ρ cs _ ED _ hS hw hX fun x H1 c1 ρ1 S1 q1 => ?_
  split at q1
  · rename_i b
    have e := S1.top
    cases e
    exact ⟨b, rfl, hQ b H1 ρ1 S1.pop q1⟩
  · exact q1.elim
theorem sem_and {t u : TT} {wt wu : WT} (h : SemT K g W t wt) (h' : SemT K g W u wu) : SemT K g W (tAnd t u) (wAnd wt wu) := by
  intro σ vs H ρ cs QD ED Q hS hw hX hQ
  refine h σ vs H ρ cs _ ED _ hS hw hX fun b H1 ρ1 S1 q1 => ?_
  cases b with
  | true => exact h' σ vs H1 ρ1 cs QD ED Q S1 q1 hX hQ
  | false => exact hQ false H1 ρ1 S1 q1
theorem sem_or {t u : TT} {wt wu : WT} (h : SemT K g W t wt) (h' : SemT K g W u wu) : SemT K g W (tOr t u) (wOr wt wu) := by
  intro σ vs H ρ cs QD ED Q hS hw hX hQ
  refine h σ vs H ρ cs _ ED _ hS hw hX fun b H1 ρ1 S1 q1 => ?_
  cases b with
  | true => exact hQ true H1 ρ1 S1 q1
  | false => exact h' σ vs H1 ρ1 cs QD ED Q S1 q1 hX hQ
theorem sem_not {t : TT} {wt : WT} (h : SemT K g W t wt) : SemT K g W (tNot t) (wNot wt) := by
  intro σ vs H ρ cs QD ED Q hS hw hX hQ
  exact h σ vs H ρ cs _ ED _ hS hw hX fun b H1 ρ1 S1 q1 => hQ _ H1 ρ1 S1 q1
theorem sem_andV {ta tb : TE} {wa wb : WE} (h : Sem K g W ta wa) (h' : Sem K g W tb wb) : Sem K g W (tAndV ta tb) (wAndV wa wb) := by
  intro σ vs H ρ cs QD ED Q hS hw hX hQ
  refine h σ vs H ρ cs _ ED _ hS hw hX fun x H1 c1 ρ1 S1 q1 => ?_
  split at q1
  · rename_i b
    have e := S1.top
    cases e
    refine ⟨b, rfl, ?_⟩
    cases b with
    | true => exact h' σ vs H1 ρ1 cs QD ED Q S1.pop q1 hX hQ
    | false => exact hQ _ H1 _ ρ1 (SR.resV S1.pop (Same.refl H1) (.bl false)) q1
  · exact q1.elim
theorem sem_orV {ta tb : TE} {wa wb : WE} (h : Sem K g W ta wa) (h' : Sem K g W tb wb) : Sem K g W (tOrV ta tb) (wOrV wa wb) := by
  intro σ vs H ρ cs QD ED Q hS hw hX hQ
  refine h σ vs H ρ cs _ ED _ hS hw hX fun x H1 c1 ρ1 S1 q1 => ?_
  split at q1
  · rename_i b
    have e := S1.top
    cases e
    refine ⟨b, rfl, ?_⟩
    cases b with
    | false => exact h' σ vs H1 ρ1 cs QD ED Q S1.pop q1 hX hQ
    | true => exact hQ _ H1 _ ρ1 (SR.resV S1.pop (Same.refl H1) (.bl true)) q1
  · exact q1.elim
theorem sem_notV {ta : TE} {wa : WE} (h : Sem K g W ta wa) : Sem K g W (tNotV ta) (wNotV wa) := by
  intro σ vs H ρ cs QD ED Q hS hw hX hQ
  refine h σ vs H ρ cs _ ED _ hS hw hX fun x H1 c1 ρ1 S1 q1 => ?_
  split at q1
  · rename_i b
    have e := S1.top
    cases e
    exact ⟨b, rfl, hQ _ H1 _ ρ1 (SR.resV S1.pop (Same.refl H1) (.bl _)) q1⟩
  · exact q1.elim
theorem sem_ite {t : TT} {ta tb : TE} {wt : WT} {wa wb : WE} (h : SemT K g W t wt) (ha : Sem K g W ta wa) (hb : Sem K g W tb wb) : Sem K g W (tIf t ta tb) (wIte wt wa wb) := by
  intro σ vs H ρ cs QD ED Q hS hw hX hQ
  refine h σ vs H ρ cs _ ED _ hS hw hX fun b H1 ρ1 S1 q1 => ?_
  cases b with
  | true => exact ha σ vs H1 ρ1 cs QD ED Q S1 q1 hX hQ
  | false => exact hb σ vs H1 ρ1 cs QD ED Q S1 q1 hX hQ
end
section
variable {X : Cx} {g : G} {W : WX} {a b c : Expr} {rest : List Expr} {wa wb wc : WE} {wt wu : WT} {pos : Pos}
theorem et_val (h : EE X g W a wa) (he : ∀ whole, isTrue a X.env whole = (do let v ← whole; standAt a.pos; holding [v] (truthy v)) := by intro _; rfl) : ET X g W a (wTst wa) := by
  obtain ⟨t, p, s⟩ := h.ex
  exact ⟨_, pt_val p he, sem_tst s⟩
theorem et_cmp {op : CmpOp} {r : R2} {o : O2} (ho : OpR X (compareOp op) r) (l : Lift2 X.K r o) (ha : EE X g W a wa) (hb : EE X g W b wb) (hm : behindInMarks op b = false) : ET X g W (.Compare a [op] [b] pos) (wTst (wB o wa wb)) := by
  obtain ⟨ta, p1, s1⟩ := ha.ex
  obtain ⟨tb, p2, s2⟩ := hb.ex
  exact ⟨_, pt_cmpR ho p1 p2 hm, sem_tst (sem_op l s1 s2)⟩
theorem et_lt (ha : EE X g W a wa) (hb : EE X g W b wb) : ET X g W (.Compare a [.Lt] [b] pos) (wTst (wB oLt wa wb)) := et_cmp op_lt (lift_I fun i j _ => .bl _) ha hb (nomark _)
theorem et_le (ha : EE X g W a wa) (hb : EE X g W b wb) : ET X g W (.Compare a [.LtE] [b] pos) (wTst (wB oLe wa wb)) := et_cmp op_le (lift_I fun i j _ => .bl _) ha hb (nomark _)
theorem et_gt (ha : EE X g W a wa) (hb : EE X g W b wb) : ET X g W (.Compare a [.Gt] [b] pos) (wTst (wB oGt wa wb)) := et_cmp op_gt (lift_I fun i j _ => .bl _) ha hb (nomark _)
theorem et_ge (ha : EE X g W a wa) (hb : EE X g W b wb) : ET X g W (.Compare a [.GtE] [b] pos) (wTst (wB oGe wa wb)) := et_cmp op_ge (lift_I fun i j _ => .bl _) ha hb (nomark _)
theorem et_eq (hu : X.A.units + 64 < cLine) (ha : EE X g W a wa) (hb : EE X g W b wb) : ET X g W (.Compare a [.Eq] [b] pos) (wTst (wB oEq wa wb)) := et_cmp (op_eqD hu) lift_eq ha hb (nomark _)
theorem et_ne (hu : X.A.units + 64 < cLine) (ha : EE X g W a wa) (hb : EE X g W b wb) : ET X g W (.Compare a [.NotEq] [b] pos) (wTst (wB oNe wa wb)) := et_cmp (op_neD hu) lift_ne ha hb (nomark _)
theorem et_chain {op op' : CmpOp} {f f' : Int → Int → Bool} (ho : OpR X (compareOp op) (rI0 fun i j => .bl (f i j))) (ho' : OpR X (compareOp op') (rI0 fun i j => .bl (f' i j))) (ha : EE X g W a wa) (hb : EE X g W b wb) (hc : EE X g W c wc)
    (hm : lastMarks [op, op'] [b, c] = false := by with_unfolding_all rfl) : ET X g W (.Compare a [op, op'] [b, c] pos) (wTst (wCh (oI fun i j => .bool (f i j)) (oI fun i j => .bool (f' i j)) wa wb wc)) := by
  obtain ⟨ta, p1, s1⟩ := ha.ex
  obtain ⟨tb, p2, s2⟩ := hb.ex
  obtain ⟨tc, p3, s3⟩ := hc.ex
  exact ⟨_, pt_chain ho ho' p1 p2 p3 hm, sem_tst (sem_chain (lift_I fun i j _ => .bl _) (lift_I fun i j _ => .bl _) rI0_mono s1 s2 s3)⟩
theorem et_isN {j pos'} (ha : EE X g W a wa) : ET X g W (.Compare a [.Is] [.Constant .none j pos'] pos) (wTst (wU oIsN wa)) := by
  obtain ⟨ta, p1, s1⟩ := ha.ex
  refine ⟨_, pt_cmp (pc_isN p1), ?_⟩
  refine sem_tst (t := tIsN ta) fun σ vs H ρ cs QD ED Q hS hw hX hQ => ?_
  refine s1 σ vs H ρ cs _ ED _ hS hw hX fun x H1 c1 ρ1 S1 q1 => ?_
  refine S1.use1 (r := fun x H Q => Q (.bl (decide (x = .non))) H) (fun O H x dx QD Q _ hx q fin => ?_) q1 fun v H' c S3 q3 => hQ v H' c ρ1 S3 q3
  refine fin _ H (.v _) (Same.refl H) ?_ q
  cases hx <;> exact .bl _
theorem et_notN {j pos'} (ha : EE X g W a wa) : ET X g W (.Compare a [.IsNot] [.Constant .none j pos'] pos) (wTst (wU oNotN wa)) := by
  obtain ⟨ta, p1, s1⟩ := ha.ex
  refine ⟨_, pt_cmp (pc_notN p1), ?_⟩
  refine sem_tst (t := tNotN ta) fun σ vs H ρ cs QD ED Q hS hw hX hQ => ?_
  refine s1 σ vs H ρ cs _ ED _ hS hw hX fun x H1 c1 ρ1 S1 q1 => ?_
  refine S1.use1 (r := fun x H Q => Q (.bl (!decide (x = .non))) H) (fun O H x dx QD Q _ hx q fin => ?_) q1 fun v H' c S3 q3 => hQ v H' c ρ1 S3 q3
  refine fin _ H (.v _) (Same.refl H) ?_ q
  cases hx <;> exact .bl _
theorem ee_isN {j pos'} (ha : EE X g W a wa) : EE X g W (.Compare a [.Is] [.Constant .none j pos'] pos) (wU oIsN wa) := by
  obtain ⟨ta, p1, s1⟩ := ha.ex
  refine ⟨_, pe_cmp (pc_isN p1), ?_⟩
  refine fun σ vs H ρ cs QD ED Q hS hw hX hQ => ?_
  refine s1 σ vs H ρ cs _ ED _ hS hw hX fun x H1 c1 ρ1 S1 q1 => ?_
  refine S1.use1 (r := fun x H Q => Q (.bl (decide (x = .non))) H) (fun O H x dx QD Q _ hx q fin => ?_) q1 fun v H' c S3 q3 => hQ v H' c ρ1 S3 q3
  refine fin _ H (.v _) (Same.refl H) ?_ q
  cases hx <;> exact .bl _
theorem ew_and1 (h : ET X g W a wt) : EW X g W (.BoolOp .And [a] pos) wt := by
  obtain ⟨t, p, s⟩ := h.ex
  exact ⟨_, pw_and1 p, s⟩
theorem ew_or1 (h : ET X g W a wt) : EW X g W (.BoolOp .Or [a] pos) wt := by
  obtain ⟨t, p, s⟩ := h.ex
  exact ⟨_, pw_or1 p, s⟩
theorem ew_and (h : ET X g W a wt) (h' : EW X g W (.BoolOp .And (b :: rest) pos) wu) : EW X g W (.BoolOp .And (a :: b :: rest) pos) (wAnd wt wu) := by
  obtain ⟨t, p, s⟩ := h.ex
  obtain ⟨t', p', s'⟩ := h'.ex
  exact ⟨_, pw_and p p', sem_and s s'⟩
theorem ew_or (h : ET X g W a wt) (h' : EW X g W (.BoolOp .Or (b :: rest) pos) wu) : EW X g W (.BoolOp .Or (a :: b :: rest) pos) (wOr wt wu) := by
  obtain ⟨t, p, s⟩ := h.ex
  obtain ⟨t', p', s'⟩ := h'.ex
  exact ⟨_, pw_or p p', sem_or s s'⟩
theorem et_w (h : EW X g W a wt) : ET X g W a wt := by
  obtain ⟨t, p, s⟩ := h.ex
  exact ⟨_, p.pt, s⟩
theorem et_not (h : ET X g W a wt) : ET X g W (.UnaryOp .Not a pos) (wNot wt) := by
  obtain ⟨t, p, s⟩ := h.ex
  exact ⟨_, pt_not p, sem_not s⟩
theorem ee_one {op} (h : EE X g W a wa) : EE X g W (.BoolOp op [a] pos) wa := by
  obtain ⟨t, p, s⟩ := h.ex
  exact ⟨_, pe_one p, s⟩
theorem ee_and (h : EE X g W a wa) (h' : EE X g W (.BoolOp .And (b :: rest) pos) wb) : EE X g W (.BoolOp .And (a :: b :: rest) pos) (wAndV wa wb) := by
  obtain ⟨t, p, s⟩ := h.ex
  obtain ⟨t', p', s'⟩ := h'.ex
  exact ⟨_, pe_and p p', sem_andV s s'⟩
theorem ee_or (h : EE X g W a wa) (h' : EE X g W (.BoolOp .Or (b :: rest) pos) wb) : EE X g W (.BoolOp .Or (a :: b :: rest) pos) (wOrV wa wb) := by
  obtain ⟨t, p, s⟩ := h.ex
  obtain ⟨t', p', s'⟩ := h'.ex
  exact ⟨_, pe_or p p', sem_orV s s'⟩
theorem ee_not (h : EE X g W a wa) : EE X g W (.UnaryOp .Not a pos) (wNotV wa) := by
  obtain ⟨t, p, s⟩ := h.ex
  exact ⟨_, pe_not p, sem_notV s⟩
theorem ee_ite (h : ET X g W c wt) (ha : EE X g W a wa) (hb : EE X g W b wb) : EE X g W (.IfExp c a b pos) (wIte wt wa wb) := by
  obtain ⟨t, p, s⟩ := h.ex
  obtain ⟨ta, p1, s1⟩ := ha.ex
  obtain ⟨tb, p2, s2⟩ := hb.ex
  exact ⟨_, pe_ifExp p p1 p2, sem_ite s s1 s2⟩
end
end DL

set_option Elab.async false
set_option linter.all false
set_option maxRecDepth 100000
set_option maxHeartbeats 4000000
/-! DL, arguments and calls; slots emptied and filled. -/
namespace DL
open PySem PySem.Spec PyProof.Rows L2

/-! ### slots -/
theorem rget_rset : ∀ {ρ : Rho} {i : Nat} {c : C}, i < ρ.length → rget (rset ρ i c) i = c
  | [], _, _, h => by simp at h
  | _ :: _, 0, _, _ => rfl
  | _ :: ρ, i + 1, c, h => rget_rset (ρ := ρ) (i := i) (by simpa using h)
theorem rset_rset : ∀ {ρ : Rho} {i : Nat} {c c' : C}, rset (rset ρ i c) i c' = rset ρ i c'
  | [], _, _, _ => rfl
  | _ :: _, 0, _, _ => rfl
  | _ :: ρ, i + 1, c, c' => by show _ :: rset (rset ρ i c) i c' = _ :: rset ρ i c'; rw [rset_rset]
theorem rset_len : ∀ {ρ : Rho} {i : Nat} {c : C}, (rset ρ i c).length = ρ.length
  | [], _, _ => rfl
  | _ :: _, 0, _ => rfl
  | _ :: ρ, i + 1, c => by show (rset ρ i c).length + 1 = ρ.length + 1; rw [rset_len]
theorem rget_lt : ∀ {ρ : Rho} {i : Nat}, rget ρ i ≠ .no → i < ρ.length
  | [], _, h => absurd rfl h
  | _ :: _, 0, _ => by simp
  | _ :: ρ, i + 1, h => by have := rget_lt (ρ := ρ) (i := i) h; simpa using this
theorem footC_no (v : Option V) : footC v .no = [] := by
  cases v with
  | none => rfl
  | some x => cases x <;> rfl
theorem footC_v (v : Option V) (d : D) : footC v (.v d) = [] := by
  cases v with
  | none => rfl
  | some x => cases x <;> rfl
theorem foot_clear : ∀ {σ : List (Option V)} {ρ : Rho} {i : Nat}, (foot σ (rset ρ i .no)).Sublist (foot σ ρ)
  | [], ρ, _ => by
    have e : ∀ r : Rho, foot [] r = [] := fun r => by cases r <;> rfl
    rw [e, e]; exact List.Sublist.slnil
  | _ :: _, [], _ => List.Sublist.refl _
  | v :: σ, c :: ρ, 0 => by
    show (footC v .no ++ foot σ ρ).Sublist (footC v c ++ foot σ ρ)
    rw [footC_no]
    exact List.sublist_append_right _ _
  | v :: σ, c :: ρ, i + 1 => by
    show (footC v c ++ foot σ (rset ρ i .no)).Sublist (footC v c ++ foot σ ρ)
    exact (foot_clear (i := i)).append_left _
theorem foot_out : ∀ {σ : List (Option V)} {ρ : Rho} {i : Nat} {a : Addr} {t : Nat} {o : OD}, σ[i]? = some (some (.ref a)) → rget ρ i = .own t o → (foot σ ρ).Perm (a :: foot σ (rset ρ i .no))
  | [], _, _, _, _, _, h, _ => by simp at h
  | _ :: _, [], _, _, _, _, _, h => by cases h
  | v :: σ, c :: ρ, 0, a, t, o, h, h2 => by
    have e1 : v = some (.ref a) := by simpa using h
    have e2 : c = .own t o := h2
    subst e1; subst e2
    show ([a] ++ foot σ ρ).Perm (a :: (footC (some (.ref a)) .no ++ foot σ ρ))
    rw [footC_no]
    exact List.Perm.refl _
  | v :: σ, c :: ρ, i + 1, a, t, o, h, h2 => by
    show (footC v c ++ foot σ ρ).Perm (a :: (footC v c ++ foot σ (rset ρ i .no)))
    refine (List.Perm.append_left _ (foot_out (i := i) (by simpa using h) h2)).trans ?_
    exact List.perm_middle
theorem foot_in : ∀ {σ : List (Option V)} {ρ : Rho} {i : Nat} {x : V} {c : C}, σ[i]? = some (some x) → i < ρ.length → rget ρ i = .no → (foot σ (rset ρ i c)).Perm (footC (some x) c ++ foot σ ρ)
  | [], _, _, _, _, h, _, _ => by simp at h
  | _ :: _, [], _, _, _, _, h, _ => by simp at h
  | v :: σ, c' :: ρ, 0, x, c, h, _, h2 => by
    have e1 : v = some x := by simpa using h
    have e2 : c' = .no := h2
    subst e1; subst e2
    show (footC (some x) c ++ foot σ ρ).Perm (footC (some x) c ++ (footC (some x) .no ++ foot σ ρ))
    rw [footC_no]
    exact List.Perm.refl _
  | v :: σ, c' :: ρ, i + 1, x, c, h, hl, h2 => by
    show (footC v c' ++ foot σ (rset ρ i c)).Perm (footC (some x) c ++ (footC v c' ++ foot σ ρ))
    refine (List.Perm.append_left _ (foot_in (i := i) (by simpa using h) (by simpa using hl) h2)).trans ?_
    exact List.perm_append_comm_assoc _ _ _
theorem foot_setNo : ∀ {σ : List (Option V)} {ρ : Rho} {i : Nat} {v : Option V}, rget ρ i = .no → foot (σ.set i v) ρ = foot σ ρ
  | [], _, _, _, _ => by simp
  | _ :: _, [], 0, _, _ => rfl
  | _ :: _, [], _ + 1, _, _ => rfl
  | v' :: σ, c :: ρ, 0, v, h => by
    have e : c = .no := h
    subst e
    show footC v .no ++ foot σ ρ = footC v' .no ++ foot σ ρ
    rw [footC_no, footC_no]
  | v' :: σ, c :: ρ, i + 1, v, h => by
    show footC v' c ++ foot (σ.set i v) ρ = footC v' c ++ foot σ ρ
    rw [foot_setNo (i := i) h]
section
variable {K : PySem.W.Frag} {g : G} {s : L2.St} {B H : Hp}
theorem RCs.rset : ∀ {σ : List (Option V)} {ρ : Rho} {i : Nat} {c : C} {ov : Option V}, RCs K g s B H σ ρ → σ[i]? = some ov → RC K g s B H ov c → RCs K g s B H σ (DL.rset ρ i c)
  | [], [], _, _, _, _, h, _ => by simp at h
  | v :: σ, c' :: ρ, 0, c, ov, h, e, q => by
    have e1 : v = ov := by simpa using e
    subst e1
    exact ⟨q, h.2⟩
  | v :: σ, c' :: ρ, i + 1, c, ov, h, e, q => ⟨h.1, RCs.rset (i := i) h.2 (by simpa using e) q⟩
  | [], _ :: _, _, _, _, h, _, _ => h.elim
  | _ :: _, [], _, _, _, h, _, _ => h.elim
theorem RCs.rsetNo : ∀ {σ : List (Option V)} {ρ : Rho} {i : Nat}, RCs K g s B H σ ρ → RCs K g s B H σ (DL.rset ρ i .no)
  | [], [], _, h => h
  | v :: σ, c' :: ρ, 0, h => ⟨trivial, h.2⟩
  | v :: σ, c' :: ρ, i + 1, h => ⟨h.1, RCs.rsetNo (i := i) h.2⟩
  | [], _ :: _, _, h => h.elim
  | _ :: _, [], _, h => h.elim
theorem RCs.setNo : ∀ {σ : List (Option V)} {ρ : Rho} {i : Nat} {v : Option V}, RCs K g s B H σ ρ → rget ρ i = .no → RCs K g s B H (σ.set i v) ρ
  | [], [], _, _, h, _ => h
  | _ :: _, c :: ρ, 0, v, h, e => by
    have e1 : c = .no := e
    subst e1
    exact ⟨trivial, h.2⟩
  | _ :: _, c' :: ρ, i + 1, v, h, e => ⟨h.1, RCs.setNo (i := i) h.2 e⟩
  | [], _ :: _, _, _, h, _ => h.elim
  | _ :: _, [], _, _, h, _ => h.elim
/-- a passing value hangs on the slots by what is lent alone -/
theorem RCs.slots {σ σ' : L2.St} : ∀ {vs : List (Option V)} {cs : List C}, (∀ j, (C.pk j ∈ cs ∨ C.ln j ∈ cs) → σ'[j]? = σ[j]?) → RCs K g σ B H vs cs → RCs K g σ' B H vs cs
  | [], [], _, h => h
  | v :: vs, c :: cs, hj, h => by
    refine ⟨?_, RCs.slots (fun j q => hj j (q.imp (List.mem_cons_of_mem _) (List.mem_cons_of_mem _))) h.2⟩
    have q := h.1
    cases c with
    | no => trivial
    | v d => exact q
    | own t o => exact q
    | pk i =>
      obtain ⟨x, e1, e2⟩ := q
      exact ⟨x, e1, (hj i (.inl List.mem_cons_self)).trans e2⟩
    | ln i =>
      obtain ⟨x, e1, e2⟩ := q
      exact ⟨x, e1, (hj i (.inr List.mem_cons_self)).trans e2⟩
  | [], _ :: _, _, h => h.elim
  | _ :: _, [], _, h => h.elim
end
section
variable {K : PySem.W.Frag} {g : G} {σ σ' : L2.St} {vs vs' : List V} {H H' : Hp} {ρ ρ' : Rho} {cs cs' : List C} {i : Nat}
/-- a slot is forgotten -/
theorem SR.clear (h : SR K g σ vs H ρ cs) (i : Nat) : SR K g σ vs H (rset ρ i .no) cs := by
  have sl : (tot σ vs (rset ρ i .no) cs).Sublist (tot σ vs ρ cs) := foot_clear.append_left _
  exact h.gen (fun _ _ _ q => q) (fun _ o q => ⟨o, q⟩) (fun a ha => .inl (sl.subset ha)) (sl.nodup h.nd) (fun hB => (h.sl.mono hB fun _ _ _ q => q).rsetNo) (fun hB => h.tp.mono hB fun _ _ _ q => q) h.pk
/-- a forgotten slot may hold anything -/
theorem SR.setNo (h : SR K g σ vs H ρ cs) (e : rget ρ i = .no) (hj : ∀ j, (C.pk j ∈ cs ∨ C.ln j ∈ cs) → j ≠ i) (v : Option V) : SR K g (σ.set i v) vs H ρ cs := by
  have ft : tot (σ.set i v) vs ρ cs = tot σ vs ρ cs := by
    show foot (vs.map some) cs ++ foot (σ.set i v) ρ = _
    rw [foot_setNo e]
  refine h.gen (fun _ _ _ q => q) (fun _ o q => ⟨o, q⟩) (fun a ha => .inl (by rw [ft] at ha; exact ha)) (by rw [ft]; exact h.nd) (fun hB => (h.sl.mono hB fun _ _ _ q => q).setNo e) (fun hB => ?_) h.pk
  exact (h.tp.mono hB fun _ _ _ q => q).slots fun j q => List.getElem?_set_ne (hj j q).symm
@[reducible] def C.plain : C → Bool
  | .v _ => true
  | .own _ _ => true
  | _ => false
theorem RC.plainσ {B : Hp} {ov : Option V} {c : C} (hc : c.plain = true) (h : RC K g σ B H ov c) : RC K g σ' B H ov c := by
  cases c with
  | v d => exact h
  | own t o => exact h
  | no => cases hc
  | pk i => cases hc
  | ln i => cases hc
/-- the top goes into the slot that holds its value -/
theorem SR.moveIn {x : V} {c : C} (h : SR K g σ (x :: vs) H ρ (c :: cs)) (hc : c.plain = true) (e1 : σ[i]? = some (some x)) (e2 : rget ρ i = .no) : SR K g σ vs H (rset ρ i c) cs := by
  have hl : i < ρ.length := by
    rw [← h.len]; exact (List.getElem?_eq_some_iff.mp e1).1
  have pm : (tot σ vs (rset ρ i c) cs).Perm (tot σ (x :: vs) ρ (c :: cs)) := by
    rw [tot_cons]
    exact (List.Perm.append_left _ (foot_in e1 hl e2)).trans (List.perm_append_comm_assoc _ _ _)
  refine h.gen (fun _ _ _ q => q) (fun _ o q => ⟨o, q⟩) (fun a ha => .inl (pm.mem_iff.mp ha)) (pm.nodup_iff.mpr h.nd) (fun hB => ?_) (fun hB => (RCs.mono hB (fun _ _ _ q => q) h.tp).2) fun j q => h.pk j (q.imp (List.mem_cons_of_mem _) (List.mem_cons_of_mem _))
  refine (h.sl.mono hB fun _ _ _ q => q).rset e1 ?_
  exact (RCs.mono hB (fun _ _ _ q => q) h.tp).1.plainσ hc
/-- name = value -/
theorem SR.assign {x : V} {c : C} (h : SR K g σ (x :: vs) H ρ (c :: cs)) (hc : c.plain = true) (hi : i < σ.length) (hj : ∀ j, (C.pk j ∈ cs ∨ C.ln j ∈ cs) → j ≠ i) : SR K g (σ.set i (some x)) vs H (rset ρ i c) cs := by
  have hl : i < ρ.length := by rw [← h.len]; exact hi
  have h1 := h.clear i
  have h2 := h1.setNo (i := i) (rget_rset hl) (fun j q => hj j ?_) (some x)
  · have h3 := h2.moveIn (i := i) hc (List.getElem?_set_self hi) (rget_rset hl)
    rw [rset_rset] at h3
    exact h3
  · have n1 : C.pk j ≠ c := fun z => by rw [← z] at hc; cases hc
    have n2 : C.ln j ≠ c := fun z => by rw [← z] at hc; cases hc
    rcases q with q | q
    · exact .inl ((List.mem_cons.mp q).resolve_left n1)
    · exact .inr ((List.mem_cons.mp q).resolve_left n2)
/-- a lent slot's object comes to the top -/
theorem SR.moveOut {x : V} {t : Nat} {o : OD} (h : SR K g σ (x :: vs) H ρ (.pk i :: cs)) (e : rget ρ i = .own t o) : σ[i]? = some (some x) ∧ SR K g σ (x :: vs) H (rset ρ i .no) (.own t o :: cs) := by
  obtain ⟨x', ex, e1⟩ := h.tp.1
  cases ex
  obtain ⟨a, e2, q1, q2, q3⟩ := h.own e
  rw [e1] at e2
  cases e2
  refine ⟨e1, ?_⟩
  have pm : (tot σ (.ref a :: vs) (rset ρ i .no) (.own t o :: cs)).Perm (tot σ (.ref a :: vs) ρ (.pk i :: cs)) := by
    rw [foot_cons_pk]
    show (a :: (foot (vs.map some) cs ++ foot σ (rset ρ i .no))).Perm (foot (vs.map some) cs ++ foot σ ρ)
    exact (List.perm_middle.symm).trans (List.Perm.append_left _ (foot_out e1 e).symm)
  refine h.gen (fun _ _ _ q => q) (fun _ o q => ⟨o, q⟩) (fun a ha => .inl (pm.mem_iff.mp ha)) (pm.nodup_iff.mpr h.nd) (fun hB => (h.sl.mono hB fun _ _ _ q => q).rsetNo) (fun hB => ?_) fun j q => h.pk j ?_
  · exact ⟨⟨a, rfl, q2.mono hB fun _ q => q, q3.1, q3.2⟩, (RCs.mono hB (fun _ _ _ q => q) h.tp).2⟩
  · simp only [List.mem_cons] at q ⊢
    rcases q with (z | z) | (z | z)
    · cases z
    · exact .inl (.inr z)
    · cases z
    · exact .inr (.inr z)
@[reducible] def frzC : C → C
  | .own _ (.lst ds) => .v (.list ds)
  | c => c
@[reducible] def frzs : List C → List C
  | [] => []
  | c :: cs => frzC c :: frzs cs
theorem frzs_eq : ∀ {cs : List C}, frzs cs = cs.map frzC
  | [] => rfl
  | c :: cs => by show frzC c :: frzs cs = _; rw [frzs_eq]; rfl
theorem SR.frzTop {x : V} {c : C} (h : SR K g σ (x :: vs) H ρ (c :: cs)) : SR K g σ (x :: vs) H ρ (frzC c :: cs) := by
  cases c with
  | own t o =>
    cases o with
    | lst ds => exact h.frzAt rfl rfl
    | dct _ => exact h
  | no => exact h
  | v d => exact h
  | pk i => exact h
  | ln i => exact h
theorem SR.frzArgs : ∀ {xs : List V} {ccs : List C} {vs : List V} {cs : List C}, xs.length = ccs.length → SR K g σ (xs ++ vs) H ρ (ccs ++ cs) → SR K g σ (xs ++ vs) H ρ (ccs.map frzC ++ cs)
  | [], [], _, _, _, h => h
  | x :: xs, c :: ccs, vs, cs, hl, h => by
    have hl' : xs.length = ccs.length := by simpa using hl
    have h1 : SR K g σ (xs ++ x :: vs) H ρ (ccs ++ frzC c :: cs) := SR.unrot hl' (SR.frzTop h)
    have h2 := SR.frzArgs (xs := xs) (ccs := ccs) (vs := x :: vs) (cs := frzC c :: cs) hl' h1
    exact SR.rot (by simpa using hl') h2
  | [], _ :: _, _, _, h, _ => by simp at h
  | _ :: _, [], _, _, h, _ => by simp at h
end

/-! ### arguments -/
@[reducible] def wNil : WA := fun ρ Q _ => Q [] ρ
@[reducible] def wCons (we : WE) (wr : WA) : WA := fun ρ Q E => we ρ (fun c ρ1 => wr ρ1 (fun cs ρ2 => Q (c :: cs) ρ2) E) E
@[reducible] def wPk (i : Nat) : WE := fun ρ Q _ => match rget ρ i with
  | .own _ _ => Q (.pk i) ρ
  | _ => False
section
variable {X : Cx} {g : G} {W : WX} {e : Expr} {es : List Expr} {we : WE} {wr : WA} {pos : Pos}
theorem ea_nil : EA X g W [] wNil := ⟨_, pa_nil, fun σ vs H ρ cs QD ED Q hS hw hX hQ => hQ [] H [] ρ rfl hS hw⟩
theorem ea_cons (h : EE X g W e we) (hr : EA X g W es wr) (hs : starEach (e :: es) X.env = (false, eval e X.env) :: starEach es X.env := by rfl) : EA X g W (e :: es) (wCons we wr) := by
  obtain ⟨t, p, s⟩ := h.ex
  obtain ⟨u, p', s'⟩ := hr.ex
  refine ⟨_, pa_cons p p' hs, fun σ vs H ρ cs QD ED Q hS hw hX hQ => ?_⟩
  refine s σ vs H ρ cs _ ED _ hS hw hX fun x H1 c ρ1 S1 q1 => ?_
  refine s' σ (x :: vs) H1 ρ1 (c :: cs) _ ED _ S1 q1 hX fun xs H2 ccs ρ2 hl S2 q2 => ?_
  exact hQ (x :: xs) H2 (c :: ccs) ρ2 (by simp [hl]) (SR.rot hl S2) q2
theorem ee_pk {i : Nat} {x : Str} (hL : g.L i = true) (h : PE X (.Name x pos) (tVar i)) : EE X g W (.Name x pos) (wPk i) := by
  refine ⟨_, h, fun σ vs H ρ cs QD ED Q hS hw hX hQ => ?_⟩
  unfold wPk at hw
  split at hw
  · rename_i t o e
    obtain ⟨a, e1, _⟩ := hS.own e
    exact ⟨_, e1, hQ _ H _ ρ (hS.pushPk e1 hL) hw⟩
  · exact hw.elim
end

/-! ### displays, built-ins -/
@[reducible] def oTup : OL := fun ds k => ds.length ≤ 1000 ∧ k (.v (.tuple ds))
@[reducible] def oLst : OL := fun ds k => ds.length ≤ 1000 ∧ k (.own 0 (.lst ds))
theorem le1000 {n : Nat} (h : n ≤ 1000) : n ≤ sizeLine := Nat.le_of_lt (small1000 h)
theorem same_new {H : Hp} {p : Addr} {o : HO} (n : H p = none) : Same H (upd H p o) := fun b u q => by
  rw [upd_ne (ne_of_none q n)]; exact q
/-- a new tuple of data -/
theorem new_tup {K : PySem.W.Frag} {O : List Addr} {H : Hp} {p : Addr} {xs : List V} {ds : List D} (n : H p = none) (hO : p ∉ O) (h : DpAll K (hide H O) xs ds) : Dp K (hide (upd H p (.tup xs)) O) (.ref p) (.tuple ds) := by
  refine .tup (.inl (.inl (hide_some.mpr ⟨hO, upd_same⟩))) (dpAll_mono (fun a o q => ?_) _ _ h)
  obtain ⟨h1, h2⟩ := hide_some.mp q
  exact hide_some.mpr ⟨h1, same_new n a o h2⟩
theorem new_lst {K : PySem.W.Frag} {O : List Addr} {H : Hp} {p : Addr} {xs : List V} {ds : List D} (n : H p = none) (h : DpAll K (hide H O) xs ds) : NewRes K O H (upd H p (.lst xs)) (.ref p) (.own 0 (.lst ds)) := by
  refine ⟨rfl, p, rfl, n, xs, upd_same, dpAll_mono (fun a o q => ?_) _ _ h⟩
  obtain ⟨h1, h2⟩ := hide_some.mp q
  refine hide_some.mpr ⟨fun z => ?_, same_new n a o h2⟩
  rcases List.mem_cons.mp z with z | z
  · rw [z, n] at h2; cases h2
  · exact h1 z
section
variable {K : PySem.W.Frag} {g : G} {W : WX} {ta : TA} {wa : WA}
@[reducible] def wL (o : OL) (wa : WA) : WE := fun ρ Q E => wa ρ (fun cs ρ1 => useL ρ1 cs o Q) E
theorem sem_L {r : List V → Hp → VK → Prop} {o : OL} (l : LiftL K r o) (ha : SemA K g W ta wa) : Sem K g W (tCB r ta) (wL o wa) := by
  intro σ vs H ρ cs QD ED Q hS hw hX hQ
  refine ha σ vs H ρ cs _ ED _ hS hw hX fun xs H1 ccs ρ1 hl S1 q1 => ?_
  exact SR.useL l hl S1 q1 fun v H' c S3 q3 => hQ v H' c ρ1 S3 q3
theorem lift_tup : LiftL K (fun xs H Q => xs.length ≤ sizeLine ∧ ∀ p, H p = none → Q (.ref p) (upd H p (.tup xs))) oTup := by
  intro O H xs ds QD Q hO hx q fin
  refine ⟨by rw [DL.DpAll.len hx]; exact le1000 q.1, fun p n => ?_⟩
  exact fin _ _ (.v _) (same_new n) (new_tup n (fun z => by obtain ⟨u, e⟩ := hO p z; rw [n] at e; cases e) hx) q.2
theorem lift_lst : LiftL K (fun xs H Q => xs.length ≤ sizeLine ∧ ∀ p, H p = none → Q (.ref p) (upd H p (.lst xs))) oLst := by
  intro O H xs ds QD Q hO hx q fin
  refine ⟨by rw [DL.DpAll.len hx]; exact le1000 q.1, fun p n => ?_⟩
  exact fin _ _ (.own 0 (.lst ds)) (same_new n) (new_lst n hx) q.2
end
section
variable {X : Cx} {g : G} {W : WX} {e : Expr} {es : List Expr} {wa : WA} {pos : Pos}
theorem ee_tup {x1} (h : EA X g W es wa) : EE X g W (.Tuple es x1 pos) (wL oTup wa) := by
  obtain ⟨t, p, s⟩ := h.ex
  exact ⟨_, pe_tup p, sem_L lift_tup s⟩
theorem ee_lst (h : EA X g W es wa) : EE X g W (.List es pos) (wL oLst wa) := by
  obtain ⟨t, p, s⟩ := h.ex
  exact ⟨_, pe_lst p, sem_L lift_lst s⟩
/-- a built-in function by its name -/
theorem ee_cb {x : Str} {p : Pos} {id : String} {r : List V → Hp → VK → Prop} {o : OL} (hc : CallR X (.builtin id) r) (l : LiftL X.K r o) (hg : Gl X x) (hm : X.mg x = none) (hv : bootBuiltins x = some (.builtin id)) (ha : EA X g W (e :: es) wa) (hn : x ≠ "__name__" := by decide)
    (hdb : (x == ("__debug__" : Str)) = false := by decide) (he : starEach (e :: es) X.env = (false, eval e X.env) :: starEach es X.env := by rfl) (hpl : (backTo pos (starEach es X.env)).any (·.1) = false := by rfl) : EE X g W (.Call (.Name x p) (e :: es) [] pos) (wL o wa) := by
  obtain ⟨t, q, s⟩ := ha.ex
  exact ⟨_, pe_callB hc hg hm hv q hn hdb he hpl, sem_L l s⟩
/-- a built-in class by its name -/
theorem ee_ct {x : Str} {p : Pos} {T : String} {r : List V → Hp → VK → Prop} {o : OL} (hc : CallR X (.type T) r) (l : LiftL X.K r o) (hg : Gl X x) (hm : X.mg x = none) (hv : bootBuiltins x = some (.type T)) (ha : EA X g W (e :: es) wa) (hn : x ≠ "__name__" := by decide)
    (hdb : (x == ("__debug__" : Str)) = false := by decide) (he : starEach (e :: es) X.env = (false, eval e X.env) :: starEach es X.env := by rfl) (hpl : (backTo pos (starEach es X.env)).any (·.1) = false := by rfl) : EE X g W (.Call (.Name x p) (e :: es) [] pos) (wL o wa) := by
  obtain ⟨t, q, s⟩ := ha.ex
  exact ⟨_, pe_callTy hc hg hm hv q hn hdb he hpl, sem_L l s⟩
end

/-! ### a def's promise over data -/
/-- what the parameters hold; the wish for the answer and what own objects hold then; the wish for an exception -/
abbrev SpD := List C → (C → List C → Prop) → (XD → List C → Prop) → Prop
def tgOf (xs : List V) (t : Nat) : Addr := match xs[t - 1]? with
  | some (.ref a) => a
  | _ => 0
def mkG (H : Hp) (xs : List V) (as : List C) (P : List Addr) (L : Nat → Bool) : G := ⟨H, tgOf xs, foot (xs.map some) as, P, L⟩
@[reducible] def C.ok : C → Bool
  | .v _ => true
  | .own 0 _ => true
  | _ => false
abbrev L0 : Nat → Bool := fun _ => false
def spOf (K : PySem.W.Frag) (S : SpD) : Sp := fun vs H Q E => ∃ (as : List C) (P : List Addr) (QD : C → List C → Prop) (ED : XD → List C → Prop), SR K (mkG H vs as P L0) (vs.map some) [] H as [] ∧ S as QD ED ∧
  (∀ c rs, c.ok = true → QD c rs → ∀ v H', SR K (mkG H vs as P L0) (vs.map some) [v] H' rs [c] → Q v H') ∧
  (∀ x rs, ED x rs → ∀ cls d H', SR K (mkG H vs as P L0) (vs.map some) [] H' rs [] → XRep K (hide H' (tot (vs.map some) [] rs [] ++ P)) H' x cls d → E cls d H')
theorem SR.setL {K : PySem.W.Frag} {g g' : G} {σ : L2.St} {vs : List V} {H : Hp} {ρ : Rho} {cs : List C} (h : SR K g σ vs H ρ cs) (e1 : g'.H0 = g.H0) (e2 : g'.tg = g.tg) (e3 : g'.Oa = g.Oa) (e4 : g'.P0 = g.P0) (hp : ∀ i, (C.pk i ∈ cs ∨ C.ln i ∈ cs) → g'.L i = true) : SR K g' σ vs H ρ cs := by
  obtain ⟨H0, tg, Oa, P0, L⟩ := g
  obtain ⟨H0', tg', Oa', P0', L'⟩ := g'
  cases e1; cases e2; cases e3; cases e4
  refine ⟨h.fr, h.dm, h.pr, h.nw, h.nd, ?_, ?_, hp⟩
  · have q := h.sl
    revert q
    generalize hide H _ = B
    intro q
    have go : ∀ (σ0 : List (Option V)) (ρ0 : List C), RCs K ⟨H0, tg, Oa, P0, L⟩ [] B H σ0 ρ0 → RCs K ⟨H0, tg, Oa, P0, L'⟩ [] B H σ0 ρ0 := by
      intro σ0
      induction σ0 with
      | nil => intro ρ0 q; cases ρ0 <;> exact q
      | cons v σ0 ih =>
        intro ρ0 q
        cases ρ0 with
        | nil => exact q
        | cons c ρ0 => exact ⟨by cases c <;> exact q.1, ih ρ0 q.2⟩
    exact go _ _ q
  · have q := h.tp
    revert q
    generalize hide H _ = B
    intro q
    have go : ∀ (σ0 : List (Option V)) (ρ0 : List C), RCs K ⟨H0, tg, Oa, P0, L⟩ σ B H σ0 ρ0 → RCs K ⟨H0, tg, Oa, P0, L'⟩ σ B H σ0 ρ0 := by
      intro σ0
      induction σ0 with
      | nil => intro ρ0 q; cases ρ0 <;> exact q
      | cons v σ0 ih =>
        intro ρ0 q
        cases ρ0 with
        | nil => exact q
        | cons c ρ0 => exact ⟨by cases c <;> exact q.1, ih ρ0 q.2⟩
    exact go _ _ q
/-- what a callee's parameters hold -/
def argM (ρ : Rho) : Nat → List C → Option (List C)
  | _, [] => some []
  | k, .own _ o :: cs => (argM ρ (k + 1) cs).map (C.own (k + 1) o :: ·)
  | k, c :: cs => match dat ρ c, argM ρ (k + 1) cs with
    | some d, some as => some (.v d :: as)
    | _, _ => none
/-- own objects behind a call: with the caller's tags -/
@[reducible] def retag : C → C → C
  | .own t _, .own _ o => .own t o
  | .own _ _, _ => .no
  | c, _ => c
@[reducible] def retags : List C → List C → List C
  | c :: cs, r :: rs => retag c r :: retags cs rs
  | cs, [] => cs
  | [], _ => []
@[reducible] def C.lfo : C → Bool
  | .own _ (.lst ds) => lfree.lfreeAll ds
  | .own _ (.dct _) => false
  | _ => true
theorem foot_argM {ρ : Rho} : ∀ {ys : List (Option V)} {qs as : List C} {k : Nat}, argM ρ k qs = some as → foot ys as = foot ys qs
  | ys, [], as, k, h => by cases h; rfl
  | [], q :: qs, as, k, _ => by cases as <;> rfl
  | y :: ys, q :: qs, as, k, h => by
    cases q with
    | own t o =>
      unfold argM at h
      cases e : argM ρ (k + 1) qs with
      | none => rw [e] at h; cases h
      | some as' =>
        rw [e] at h
        cases h
        show footC y (.own (k + 1) o) ++ foot ys as' = footC y (.own t o) ++ foot ys qs
        rw [foot_argM e]
        have e3 : footC y (.own (k + 1) o) = footC y (.own t o) := by
          cases y with
          | none => rfl
          | some x => cases x <;> rfl
        rw [e3]
    | _ =>
      unfold argM at h
      split at h
      · rename_i d as' e1 e2
        cases h
        show footC y (.v d) ++ foot ys as' = footC y _ ++ foot ys qs
        rw [foot_argM e2, footC_v]
        cases y with
        | none => rfl
        | some x => cases x <;> rfl
      · cases h
theorem foot_retags : ∀ {ys : List (Option V)} {qs rs : List C}, ys.length = qs.length → qs.length = rs.length → (foot ys (retags qs rs)).Sublist (foot ys qs) ∧ ∀ a ∈ foot ys (retags qs rs), a ∈ foot ys rs
  | [], [], [], _, _ => ⟨List.Sublist.refl _, fun _ h => h⟩
  | y :: ys, q :: qs, r :: rs, h1, h2 => by
    obtain ⟨i1, i2⟩ := foot_retags (ys := ys) (qs := qs) (rs := rs) (by simpa using h1) (by simpa using h2)
    have key : (footC y (retag q r)).Sublist (footC y q) ∧ ∀ a ∈ footC y (retag q r), a ∈ footC y r := by
      cases q with
      | own t o =>
        cases r with
        | own t' o' =>
          refine ⟨?_, fun a ha => ?_⟩
          · show (footC y (.own t o')).Sublist (footC y (.own t o))
            cases y with
            | none => exact List.Sublist.refl _
            | some x => cases x <;> exact List.Sublist.refl _
          · revert ha
            show a ∈ footC y (.own t o') → a ∈ footC y (.own t' o')
            cases y with
            | none => exact id
            | some x => cases x <;> exact id
        | _ =>
          show (footC y .no).Sublist _ ∧ ∀ a ∈ footC y .no, _
          rw [footC_no]
          exact ⟨List.nil_sublist _, fun a ha => by simp at ha⟩
      | _ =>
        have e : ∀ c : C, (∀ t o, c ≠ .own t o) → footC y c = [] := fun c hc => by
          cases c with
          | own t o => exact absurd rfl (hc t o)
          | _ =>
            cases y with
            | none => rfl
            | some x => cases x <;> rfl
        refine ⟨List.Sublist.refl _, fun a ha => ?_⟩
        rw [show footC y (retag _ r) = [] from e _ (fun t o z => by cases z)] at ha
        simp at ha
    refine ⟨key.1.append i1, fun a ha => ?_⟩
    rcases List.mem_append.mp (show a ∈ footC y (retag q r) ++ foot ys (retags qs rs) from ha) with z | z
    · exact List.mem_append_left _ (key.2 a z)
    · exact List.mem_append_right _ (i2 a z)
  | [], _ :: _, _, h, _ => by simp at h
  | _ :: _, [], _, h, _ => by simp at h
  | _, [], _ :: _, _, h => by simp at h
  | _, _ :: _, [], _, h => by simp at h
theorem argM_len {ρ : Rho} : ∀ {qs as : List C} {n : Nat}, argM ρ n qs = some as → qs.length = as.length
  | [], as, n, h => by cases h; rfl
  | q :: qs, as, n, h => by
    cases q with
    | own t o =>
      unfold argM at h
      cases e : argM ρ (n + 1) qs with
      | none => rw [e] at h; cases h
      | some as' =>
        rw [e] at h
        cases h
        simp [argM_len e]
    | _ =>
      unfold argM at h
      split at h
      · rename_i d as' e1 e2
        cases h
        simp [argM_len e2]
      · cases h
section
variable {K : PySem.W.Frag} {g : G} {σ : L2.St} {vs : List V} {H H' : Hp} {ρ : Rho} {cs : List C}
/-- data moves to a heap where more is hidden: what is hidden besides holds lists, and the data has none -/
theorem dp_more {B : Hp} {A S T : List Addr} {v : V} {d : D} (hA : ∀ a ∈ A, ∃ xs, B a = some (.lst xs)) (hT : ∀ a ∈ T, a ∈ A ∨ a ∈ S) (hl : A = [] ∨ lfree d = true) (h : Dp K (hide B S) v d) : Dp K (hide B T) v d := by
  have up : ∀ R : List Addr, (∀ a ∈ T, a ∈ R) → Dp K (hide B R) v d → Dp K (hide B T) v d := fun R hR q => dp_mono (fun a o e => by
    obtain ⟨h1, h2⟩ := hide_some.mp e
    exact hide_some.mpr ⟨fun z => h1 (hR a z), h2⟩) _ _ q
  rcases hl with e | e
  · subst e
    exact up S (fun a ha => (hT a ha).resolve_left (by simp)) h
  · exact up (A ++ S) (fun a ha => List.mem_append.mpr (hT a ha)) (dp_lf hA d v e h)
theorem dpAll_more {B : Hp} {A S T : List Addr} : ∀ {ds : List D} {v : List V}, (∀ a ∈ A, ∃ xs, B a = some (.lst xs)) → (∀ a ∈ T, a ∈ A ∨ a ∈ S) → (A = [] ∨ lfree.lfreeAll ds = true) → DpAll K (hide B S) v ds → DpAll K (hide B T) v ds
  | [], _, _, _, _, h => by cases h; exact .nil
  | d :: ds, _, hA, hT, hl, h => by
    cases h with
    | cons h1 h2 =>
      refine .cons (dp_more hA hT (hl.imp id fun z => ?_) h1) (dpAll_more hA hT (hl.imp id fun z => ?_) h2)
      · have q : lfree d = true ∧ lfree.lfreeAll ds = true := by simpa [lfree.lfreeAll] using z
        exact q.1
      · have q : lfree d = true ∧ lfree.lfreeAll ds = true := by simpa [lfree.lfreeAll] using z
        exact q.2
theorem ownAt_more {B : Hp} {A S T : List Addr} {a : Addr} {o : OD} (hA : ∀ a ∈ A, ∃ xs, B a = some (.lst xs)) (hT : ∀ a ∈ T, a ∈ A ∨ a ∈ S) (hl : A = [] ∨ C.lfo (.own 0 o) = true) (h : OwnAt K (hide B S) B a o) : OwnAt K (hide B T) B a o := by
  cases o with
  | lst ds =>
    obtain ⟨xs, h1, h2⟩ := h
    exact ⟨xs, h1, dpAll_more hA hT hl h2⟩
  | dct kvs =>
    rcases hl with e | e
    · subst e
      refine h.mono (fun a o e => ?_) fun _ q => q
      obtain ⟨h1, h2⟩ := hide_some.mp e
      exact hide_some.mpr ⟨fun z => h1 ((hT a z).resolve_left (by simp)), h2⟩
    · cases e
theorem SR.callM {xs : List V} {ccs as : List C} (h : SR K g σ (xs ++ vs) H ρ (ccs ++ cs)) (hl : xs.length = ccs.length) (ha : argM ρ 0 ccs = some as) :
    ∃ P, SR K (mkG H xs as P L0) (xs.map some) [] H as [] ∧
      (∀ v H' c rs, c.ok = true → SR K (mkG H xs as P L0) (xs.map some) [v] H' rs [c] → (ccs.any C.isLn = true → c.lf = true ∧ ∀ r ∈ retags ccs rs, r.lfo = true) → SR K g σ (v :: (xs ++ vs)) H' ρ (c :: (retags ccs rs ++ cs))) ∧
      (∀ H' rs, SR K (mkG H xs as P L0) (xs.map some) [] H' rs [] → (ccs.any C.isLn = true → ∀ r ∈ retags ccs rs, r.lfo = true) → SR K g σ (xs ++ vs) H' ρ (retags ccs rs ++ cs) ∧ (ccs.any C.isLn = false →
        Same (hide H' (tot (xs.map some) [] rs [] ++ P)) (hide H' (tot σ (xs ++ vs) ρ (retags ccs rs ++ cs) ++ g.P0)))) := by
  have fa : foot (xs.map some) as = foot (xs.map some) ccs := foot_argM ha
  have nd := h.nd
  rw [tot_app hl] at nd
  obtain ⟨nd1, nd2, nd3⟩ := List.nodup_append.mp nd
  have tp := h.tp
  rw [List.map_append] at tp
  obtain ⟨tp1, tp2⟩ := RCs.split (by simpa using hl) tp
  have base : SR K g σ vs H ρ cs := h.pops hl
  have hdj : ∀ a ∈ foot (xs.map some) ccs, a ∉ tot σ vs ρ cs ++ g.P0 := fun a h1 h2 => by
    rcases List.mem_append.mp h2 with z | z
    · exact nd3 a h1 a z rfl
    · exact h.pout a (by rw [tot_app hl]; exact List.mem_append_left _ h1) z
  have hsub : ∀ a ∈ lentA σ ρ ccs, a ∈ foot σ ρ := fun a q => by
    obtain ⟨i, t, zs, h1, h2, h3⟩ := lentA_mem q
    obtain ⟨b, e4, q5, _⟩ := h.own h3
    rw [h2] at e4
    cases e4
    exact q5
  have hlst : ∀ a ∈ lentA σ ρ ccs, ∃ xs, H a = some (.lst xs) := fun a q => by
    obtain ⟨i, t, zs, h1, h2, h3⟩ := lentA_mem q
    obtain ⟨b, e4, _, ⟨us, q2, _⟩, _⟩ := h.own h3
    rw [h2] at e4
    cases e4
    exact ⟨us, q2⟩
  refine ⟨(tot σ vs ρ cs ++ g.P0).filter fun a => decide (a ∉ lentA σ ρ ccs), ?_, ?_⟩
  · -- the callee's entry
    refine ⟨fun a o e _ => e, fun a o e => ⟨o, e⟩, fun a q => ?_, fun a q => .inl q, ?_, ?_, trivial, fun i q => by simp at q⟩
    · have q1 := (List.mem_filter.mp q).1
      refine ⟨fun z => ?_, base.domO a q1⟩
      have z' : a ∈ foot (xs.map some) as := z
      rw [fa] at z'
      exact hdj a z' q1
    · show (foot ([].map some) [] ++ foot (xs.map some) as).Nodup
      rw [fa]; exact nd1
    · have up : Same (hide H (tot σ (xs ++ vs) ρ (ccs ++ cs) ++ g.P0)) (hide H (foot (xs.map some) as ++ (tot σ vs ρ cs ++ g.P0).filter fun a => decide (a ∉ lentA σ ρ ccs))) := fun a o q => by
        obtain ⟨h1, h2⟩ := hide_some.mp q
        refine hide_some.mpr ⟨fun z => h1 ?_, h2⟩
        rw [tot_app hl, fa] at *
        rcases List.mem_append.mp z with z | z
        · exact List.mem_append_left _ (List.mem_append_left _ z)
        · rcases List.mem_append.mp (List.mem_filter.mp z).1 with z | z
          · exact List.mem_append_left _ (List.mem_append_right _ z)
          · exact List.mem_append_right _ z
      have key : ∀ (ys : List V) (qs as' : List C) (k : Nat), ys.length = qs.length → (∀ j, ys[j]? = xs[k + j]?) → (∀ c ∈ qs, c ∈ ccs) → (∀ a ∈ foot (ys.map some) qs, a ∈ foot (xs.map some) ccs) → RCs K g σ (hide H (tot σ (xs ++ vs) ρ (ccs ++ cs) ++ g.P0)) H (ys.map some) qs → argM ρ k qs = some as' →
          RCs K (mkG H xs as ((tot σ vs ρ cs ++ g.P0).filter fun a => decide (a ∉ lentA σ ρ ccs)) L0) [] (hide H (foot (xs.map some) as ++ (tot σ vs ρ cs ++ g.P0).filter fun a => decide (a ∉ lentA σ ρ ccs))) H (ys.map some) as' := by
        intro ys
        induction ys with
        | nil =>
          intro qs as' k hlen _ _ _ _ ham
          cases qs with
          | nil => cases ham; trivial
          | cons _ _ => simp at hlen
        | cons y ys ih =>
          intro qs as' k hlen hix hin hft hrc ham
          cases qs with
          | nil => simp at hlen
          | cons q qs =>
            have hq := hrc.1
            have next : ∀ as'', argM ρ (k + 1) qs = some as'' → RCs K (mkG H xs as ((tot σ vs ρ cs ++ g.P0).filter fun a => decide (a ∉ lentA σ ρ ccs)) L0) [] (hide H (foot (xs.map some) as ++ (tot σ vs ρ cs ++ g.P0).filter fun a => decide (a ∉ lentA σ ρ ccs))) H (ys.map some) as'' := fun as'' e =>
              ih qs as'' (k + 1) (by simpa using hlen) (fun j => by have := hix (j + 1); rw [List.getElem?_cons_succ] at this; rw [this]; congr 1; omega) (fun c hc => hin c (List.mem_cons_of_mem _ hc)) (fun a z => hft a (by rw [List.map_cons, foot]; exact List.mem_append_right _ z)) hrc.2 e
            have datum : ∀ d, (∃ d0 as'', dat ρ q = some d0 ∧ argM ρ (k + 1) qs = some as'' ∧ as' = .v d0 :: as'' ∧ d = d0) → Dp K (hide H (foot (xs.map some) as ++ (tot σ vs ρ cs ++ g.P0).filter fun a => decide (a ∉ lentA σ ρ ccs))) y d → RCs K (mkG H xs as ((tot σ vs ρ cs ++ g.P0).filter fun a => decide (a ∉ lentA σ ρ ccs)) L0) [] (hide H (foot (xs.map some) as ++ (tot σ vs ρ cs ++ g.P0).filter fun a => decide (a ∉ lentA σ ρ ccs))) H ((y :: ys).map some) as' := by
              rintro d ⟨d0, as'', e1, e2, e3, rfl⟩ hd
              subst e3
              exact ⟨⟨y, rfl, hd⟩, next _ e2⟩
            have spl : ∀ {q}, (∀ t o, q ≠ C.own t o) → argM ρ k (q :: qs) = some as' → ∃ d as'', dat ρ q = some d ∧ argM ρ (k + 1) qs = some as'' ∧ as' = .v d :: as'' := by
              intro q hno e
              unfold argM at e
              split at e
              · rename_i z; cases z
              · rename_i t o _ z; cases z; exact absurd rfl (hno _ _)
              · rename_i c cs' _ z
                cases z
                split at e
                · rename_i d as'' e1 e2
                  cases e
                  exact ⟨d, as'', e1, e2, rfl⟩
                · cases e
            cases q with
            | no => obtain ⟨d, as'', e1, _⟩ := spl (fun t o z => by cases z) ham; cases e1
            | pk i => obtain ⟨d, as'', e1, _⟩ := spl (fun t o z => by cases z) ham; cases e1
            | v d' =>
              obtain ⟨d, as'', e1, e2, e3⟩ := spl (fun t o z => by cases z) ham
              cases e1
              obtain ⟨x, e4, q1⟩ := hq
              cases e4
              exact datum _ ⟨_, _, rfl, e2, e3, rfl⟩ (dp_mono up _ _ q1)
            | own t o =>
              unfold argM at ham
              cases e : argM ρ (k + 1) qs with
              | none => rw [e] at ham; cases ham
              | some as'' =>
                rw [e] at ham
                cases ham
                obtain ⟨a, e4, q1, _⟩ := hq
                cases e4
                refine ⟨⟨a, rfl, q1.mono up fun _ z => z, fun _ => ?_, fun z => by cases z⟩, next _ e⟩
                have e5 := hix 0
                rw [List.getElem?_cons_zero, Nat.add_zero] at e5
                show (match xs[k + 1 - 1]? with
                  | some (.ref a) => a
                  | _ => 0) = a
                rw [Nat.add_sub_cancel, ← e5]
            | ln i =>
              obtain ⟨d, as'', e1, e2, e3⟩ := spl (fun t o z => by cases z) ham
              refine datum _ ⟨_, _, e1, e2, e3, rfl⟩ ?_
              obtain ⟨x, e4, q1⟩ := hq
              cases e4
              have hin' := hin (.ln i) List.mem_cons_self
              revert e1
              show (match rget ρ i with
                | .own _ (.lst ds) => some (PyData.list ds)
                | .v d => some d
                | _ => none) = some d → _
              split
              · rename_i t zs eo
                intro e1
                cases e1
                obtain ⟨a, e6, q7, ⟨us, q2, q3⟩, _⟩ := h.own eo
                rw [q1] at e6
                cases e6
                refine .lst (.inl (.inl (hide_some.mpr ⟨fun z => ?_, q2⟩))) (dpAll_mono up _ _ q3)
                rcases List.mem_append.mp z with z | z
                · rw [fa] at z
                  exact hdj a z (List.mem_append_left _ (List.mem_append_right _ q7))
                · exact of_decide_eq_true (List.mem_filter.mp z).2 (mem_lentA hin' q1 eo)
              · rename_i d' eo
                intro e1
                cases e1
                obtain ⟨x', e6, q2⟩ := h.slot eo
                rw [q1] at e6
                cases e6
                exact dp_mono up _ _ q2
              · intro e1; cases e1
      exact key xs ccs as 0 hl (fun j => by rw [Nat.zero_add]) (fun _ q => q) (fun _ q => q) tp1 ha
  · -- behind the call
    have common : ∀ (ws : List V) (H' : Hp) (ds rs : List C), SR K (mkG H xs as ((tot σ vs ρ cs ++ g.P0).filter fun a => decide (a ∉ lentA σ ρ ccs)) L0) (xs.map some) ws H' rs ds → ws.length = ds.length →
        (∀ c ∈ ds, c.ok = true) → ds.length ≤ 1 → (ccs.any C.isLn = true → (∀ c ∈ ds, c.lf = true) ∧ ∀ r ∈ retags ccs rs, r.lfo = true) → SR K g σ (ws ++ (xs ++ vs)) H' ρ (ds ++ (retags ccs rs ++ cs)) := by
      intro ws H' ds rs S' hwl hok hd1 hlf
      have lr : ccs.length = rs.length := by
        have q := S'.sl.len
        rw [List.length_map] at q
        omega
      obtain ⟨fr1, fr2⟩ := foot_retags (ys := xs.map some) (by simpa using hl) lr
      have keep : ∀ a o, a ∉ foot (xs.map some) ccs → H a = some o → H' a = some o := fun a o n e => S'.fr a o e (by show a ∉ foot (xs.map some) as; rw [fa]; exact n)
      have fresh : ∀ a ∈ foot (ws.map some) ds, H a = none := fun a q => by
        have hin : ∃ t o, C.own t o ∈ ds ∧ RC K (mkG H xs as ((tot σ vs ρ cs ++ g.P0).filter fun a => decide (a ∉ lentA σ ρ ccs)) L0) (xs.map some) (hide H' (tot (xs.map some) ws rs ds ++ (tot σ vs ρ cs ++ g.P0).filter fun a => decide (a ∉ lentA σ ρ ccs))) H' (some (.ref a)) (.own t o) := by
          have go : ∀ (us : List V) (es : List C), RCs K (mkG H xs as ((tot σ vs ρ cs ++ g.P0).filter fun a => decide (a ∉ lentA σ ρ ccs)) L0) (xs.map some) (hide H' (tot (xs.map some) ws rs ds ++ (tot σ vs ρ cs ++ g.P0).filter fun a => decide (a ∉ lentA σ ρ ccs))) H' (us.map some) es → a ∈ foot (us.map some) es →
              ∃ t o, C.own t o ∈ es ∧ RC K (mkG H xs as ((tot σ vs ρ cs ++ g.P0).filter fun a => decide (a ∉ lentA σ ρ ccs)) L0) (xs.map some) (hide H' (tot (xs.map some) ws rs ds ++ (tot σ vs ρ cs ++ g.P0).filter fun a => decide (a ∉ lentA σ ρ ccs))) H' (some (.ref a)) (.own t o) := by
            intro us
            induction us with
            | nil => intro es _ z; cases es <;> simp [foot] at z
            | cons u us ih =>
              intro es hr z
              cases es with
              | nil => simp [foot] at z
              | cons e es =>
                rcases List.mem_append.mp (show a ∈ footC (some u) e ++ foot (us.map some) es from z) with z | z
                · cases e with
                  | own t o =>
                    obtain ⟨b, e1, e2⟩ := id hr.1
                    cases e1
                    have e3 : a = b := by simpa [footC] using z
                    subst e3
                    exact ⟨t, o, List.mem_cons_self, hr.1⟩
                  | _ => cases u <;> simp [footC] at z
                · obtain ⟨t, o, h1, h2⟩ := ih es hr.2 z
                  exact ⟨t, o, List.mem_cons_of_mem _ h1, h2⟩
          exact go ws ds S'.tp q
        obtain ⟨t, o, h1, b, e1, _, _, h3⟩ := hin
        cases e1
        have h4 := hok _ h1
        cases t with
        | zero => exact h3 rfl
        | succ t => cases h4
      have e1 : tot σ (ws ++ (xs ++ vs)) ρ (ds ++ (retags ccs rs ++ cs)) = foot (ws.map some) ds ++ (foot (xs.map some) (retags ccs rs) ++ tot σ vs ρ cs) := by
        rw [tot_app hwl, tot_app]
        have : ∀ {a b : List C}, a.length = b.length → (retags a b).length = a.length := by
          intro a
          induction a with
          | nil => intro b _; cases b <;> rfl
          | cons x a ih => intro b hb; cases b with
            | nil => simp at hb
            | cons y b => simp [retags, ih (b := b) (by simpa using hb)]
        rw [this lr]; exact hl
      have sub : (foot (xs.map some) (retags ccs rs) ++ tot σ vs ρ cs).Sublist (foot (xs.map some) ccs ++ tot σ vs ρ cs) := fr1.append_right _
      have hT : ∀ a ∈ tot σ (ws ++ (xs ++ vs)) ρ (ds ++ (retags ccs rs ++ cs)) ++ g.P0, a ∈ lentA σ ρ ccs ∨ a ∈ tot (xs.map some) ws rs ds ++ (tot σ vs ρ cs ++ g.P0).filter fun a => decide (a ∉ lentA σ ρ ccs) := fun a q => by
        rw [e1] at q
        by_cases z : a ∈ lentA σ ρ ccs
        · exact .inl z
        · right
          rcases List.mem_append.mp q with q | q
          · rcases List.mem_append.mp q with q | q
            · exact List.mem_append_left _ (List.mem_append_left _ q)
            · rcases List.mem_append.mp q with q | q
              · exact List.mem_append_left _ (List.mem_append_right _ (fr2 a q))
              · exact List.mem_append_right _ (List.mem_filter.mpr ⟨List.mem_append_left _ q, decide_eq_true z⟩)
          · exact List.mem_append_right _ (List.mem_filter.mpr ⟨List.mem_append_right _ q, decide_eq_true z⟩)
      have hA' : ∀ a ∈ lentA σ ρ ccs, ∃ xs, H' a = some (.lst xs) := fun a q => by
        obtain ⟨us, e⟩ := hlst a q
        exact ⟨us, keep a _ (fun z => hdj a z (List.mem_append_left _ (List.mem_append_right _ (hsub a q)))) e⟩
      have hE : lentA σ ρ ccs = [] ∨ ((∀ c ∈ ds, c.lf = true) ∧ ∀ r ∈ retags ccs rs, r.lfo = true) := by
        cases hb : ccs.any C.isLn with
        | false => exact .inl (lentA_none hb)
        | true => exact .inr (hlf hb)
      refine h.gen (fun a o n e => keep a o (fun z => n (by rw [tot_app hl]; exact List.mem_append_left _ z)) e) S'.dm (fun a q => ?_) ?_ (fun hB => h.sl.mono hB fun a q u e => ?_) (fun hB => ?_) (fun i q => h.pk i ?_)
      · rw [e1] at q
        rcases List.mem_append.mp q with q | q
        · exact .inr (fresh a q)
        · exact .inl (by rw [tot_app hl]; exact sub.subset q)
      · rw [e1]
        refine List.nodup_append.mpr ⟨(List.nodup_append.mp S'.nd).1, sub.nodup nd, fun a q b z e => ?_⟩
        subst e
        obtain ⟨u, e2⟩ := h.there a (by rw [tot_app hl]; exact sub.subset z)
        rw [fresh a q] at e2; cases e2
      · exact keep a u (fun z => hdj a z (List.mem_append_left _ (List.mem_append_right _ q))) e
      · rw [List.map_append, List.map_append]
        refine RCs.app ?_ (RCs.app ?_ (tp2.mono hB fun a q u e => keep a u (fun z => hdj a z (List.mem_append_left _ (List.mem_append_left _ q))) e))
        · -- the answer
          have go : ∀ (us : List V) (es : List C), (∀ c ∈ es, c ∈ ds) → RCs K (mkG H xs as ((tot σ vs ρ cs ++ g.P0).filter fun a => decide (a ∉ lentA σ ρ ccs)) L0) (xs.map some) (hide H' (tot (xs.map some) ws rs ds ++ (tot σ vs ρ cs ++ g.P0).filter fun a => decide (a ∉ lentA σ ρ ccs))) H' (us.map some) es → (∀ a ∈ foot (us.map some) es, H a = none) →
              RCs K g σ (hide H' (tot σ (ws ++ (xs ++ vs)) ρ (ds ++ (retags ccs rs ++ cs)) ++ g.P0)) H' (us.map some) es := by
            intro us
            induction us with
            | nil => intro es _ z _; cases es <;> exact z
            | cons u us ih =>
              intro es hin hr hf
              cases es with
              | nil => exact hr
              | cons e es =>
                refine ⟨?_, ih es (fun c hc => hin c (List.mem_cons_of_mem _ hc)) hr.2 fun a z => hf a (List.mem_append_right _ z)⟩
                have q := hr.1
                have hm := hin e List.mem_cons_self
                have hk := hok e hm
                cases e with
                | v d =>
                  obtain ⟨x, e2, q2⟩ := q
                  exact ⟨x, e2, dp_more hA' hT (hE.imp id fun z => z.1 _ hm) q2⟩
                | own t o =>
                  obtain ⟨a, e2, q2, _, _⟩ := q
                  cases e2
                  have t0 : t = 0 := by cases t with
                    | zero => rfl
                    | succ t => cases hk
                  subst t0
                  refine ⟨a, rfl, ownAt_more hA' hT (hE.imp id fun z => ?_) q2, fun z => absurd rfl z, fun _ => ?_⟩
                  · have z1 := z.1 _ hm
                    cases o with
                    | lst ds => exact z1
                    | dct _ => cases z1
                  · have e3 := hf a (List.mem_append_left _ (by simp [footC]))
                    cases e4 : g.H0 a with
                    | none => rfl
                    | some o' =>
                      obtain ⟨o2, e5⟩ := h.dm a o' e4
                      rw [e3] at e5; cases e5
                | no => cases hk
                | pk i => cases hk
                | ln i => cases hk
          exact go ws ds (fun _ q => q) S'.tp fresh
        · -- the arguments
          have go : ∀ (us : List V) (es rs' : List C), us.length = es.length → es.length = rs'.length → (∀ r ∈ retags es rs', r ∈ retags ccs rs) → (∀ c ∈ es, c ∈ ccs) → RCs K g σ (hide H (tot σ (xs ++ vs) ρ (ccs ++ cs) ++ g.P0)) H (us.map some) es →
              RCs K (mkG H xs as ((tot σ vs ρ cs ++ g.P0).filter fun a => decide (a ∉ lentA σ ρ ccs)) L0) [] (hide H' (tot (xs.map some) ws rs ds ++ (tot σ vs ρ cs ++ g.P0).filter fun a => decide (a ∉ lentA σ ρ ccs))) H' (us.map some) rs' →
              RCs K g σ (hide H' (tot σ (ws ++ (xs ++ vs)) ρ (ds ++ (retags ccs rs ++ cs)) ++ g.P0)) H' (us.map some) (retags es rs') := by
            intro us
            induction us with
            | nil =>
              intro es rs' h1 h2 _ _ _ _
              cases es with
              | nil => cases rs' with
                | nil => trivial
                | cons _ _ => simp at h2
              | cons _ _ => simp at h1
            | cons u us ih =>
              intro es rs' h1 h2 hrs hcs hr1 hr2
              cases es with
              | nil => simp at h1
              | cons e es =>
                cases rs' with
                | nil => simp at h2
                | cons r rs' =>
                  refine ⟨?_, ih es rs' (by simpa using h1) (by simpa using h2) (fun c hc => hrs c (List.mem_cons_of_mem _ hc)) (fun c hc => hcs c (List.mem_cons_of_mem _ hc)) hr1.2 hr2.2⟩
                  have q1 := hr1.1
                  have q2 := hr2.1
                  cases e with
                  | own t o =>
                    cases r with
                    | own t' o' =>
                      obtain ⟨a, e2, _, q3, q4⟩ := q1
                      cases e2
                      obtain ⟨b, e3, q5, _, _⟩ := q2
                      cases e3
                      refine ⟨a, rfl, ownAt_more hA' hT (hE.imp id fun z => (show C.lfo (.own 0 o') = true from (show C.lfo (.own t o') = C.lfo (.own 0 o') by cases o' <;> rfl) ▸ z.2 _ (hrs (.own t o') List.mem_cons_self))) q5, q3, q4⟩
                    | _ => exact trivial
                  | v d =>
                    obtain ⟨x, e2, q3⟩ := q1
                    exact ⟨x, e2, dp_mono hB _ _ q3⟩
                  | no => exact trivial
                  | pk i => exact q1
                  | ln i => exact q1
          exact go xs ccs rs hl lr (fun _ q => q) (fun _ q => q) tp1 S'.sl
      · have nok : ∀ c ∈ ds, c ≠ .pk i ∧ c ≠ .ln i := fun c hc => ⟨fun z => (by have := hok c hc; rw [z] at this; cases this), fun z => (by have := hok c hc; rw [z] at this; cases this)⟩
        have inR : ∀ {a b : List C} (x : C), (∀ t o, x ≠ .own t o) → x ≠ .no → x ∈ retags a b → x ∈ a := by
          intro a
          induction a with
          | nil => intro b x _ _ z; cases b <;> exact z
          | cons y a ih =>
            intro b x h1 h2 z
            cases b with
            | nil => exact z
            | cons r b =>
              rcases List.mem_cons.mp z with e | z
              · cases y with
                | own t o => cases r with
                  | own t' o' => exact absurd e (h1 _ _)
                  | _ => exact absurd e h2
                | _ => rw [e]; exact List.mem_cons_self
              · exact List.mem_cons_of_mem _ (ih x h1 h2 z)
        rcases q with q | q
        · rcases List.mem_append.mp q with q | q
          · exact absurd rfl (nok _ q).1
          · rcases List.mem_append.mp q with q | q
            · exact .inl (List.mem_append_left _ (inR _ (fun t o z => by cases z) (fun z => by cases z) q))
            · exact .inl (List.mem_append_right _ q)
        · rcases List.mem_append.mp q with q | q
          · exact absurd rfl (nok _ q).2
          · rcases List.mem_append.mp q with q | q
            · exact .inr (List.mem_append_left _ (inR _ (fun t o z => by cases z) (fun z => by cases z) q))
            · exact .inr (List.mem_append_right _ q)
    refine ⟨fun v H' c rs hk S' hlf => ?_, fun H' rs S' hlf => ⟨?_, fun hb => ?_⟩⟩
    · exact common [v] H' [c] rs S' rfl (fun c' hc => by rw [List.mem_singleton.mp hc]; exact hk) (Nat.le_refl _) fun z => ⟨fun c' hc => by rw [List.mem_singleton.mp hc]; exact (hlf z).1, (hlf z).2⟩
    · exact common [] H' [] rs S' rfl (fun c' hc => by simp at hc) (Nat.zero_le _) (fun z => And.intro (fun c' hc => by simp at hc) (hlf z))
    · have lr : ccs.length = rs.length := by
        have q := S'.sl.len
        rw [List.length_map] at q
        omega
      obtain ⟨fr1, fr2⟩ := foot_retags (ys := xs.map some) (by simpa using hl) lr
      intro a o e
      obtain ⟨h1, h2⟩ := hide_some.mp e
      refine hide_some.mpr ⟨fun z => h1 ?_, h2⟩
      have e0 := lentA_none (σ := σ) (ρ := ρ) hb
      have lrt : xs.length = (retags ccs rs).length := by
        have : ∀ {a b : List C}, a.length = b.length → (retags a b).length = a.length := by
          intro a
          induction a with
          | nil => intro b _; cases b <;> rfl
          | cons x a ih => intro b hb; cases b with
            | nil => simp at hb
            | cons y b => simp [retags, ih (b := b) (by simpa using hb)]
        rw [this lr]; exact hl
      rw [tot_app lrt] at z
      rcases List.mem_append.mp z with z | z
      · rcases List.mem_append.mp z with z | z
        · exact List.mem_append_left _ (List.mem_append_right _ (fr2 a z))
        · exact List.mem_append_right _ (List.mem_filter.mpr ⟨List.mem_append_left _ z, decide_eq_true (by rw [e0]; simp)⟩)
      · exact List.mem_append_right _ (List.mem_filter.mpr ⟨List.mem_append_right _ z, decide_eq_true (by rw [e0]; simp)⟩)
end
end DL

set_option Elab.async false
set_option linter.all false
set_option maxRecDepth 100000
set_option maxHeartbeats 4000000
/-! DL, calls of the program's own defs. -/
namespace DL
open PySem PySem.Spec PyProof.Rows L2
section
variable {K : PySem.W.Frag} {g : G} {σ : L2.St} {vs : List V} {H H' : Hp} {ρ : Rho} {cs : List C}
theorem SR.popAll : ∀ {vs : List V} {cs : List C}, SR K g σ vs H ρ cs → SR K g σ [] H ρ []
  | [], [], h => h
  | _ :: _, _ :: _, h => SR.popAll h.pop
  | [], _ :: _, h => (show False from h.tp).elim
  | _ :: _, [], h => (show False from h.tp).elim
theorem XFs.mono {B B' : Hp} (e : Same B B') : ∀ {ps : List (Str × V)} {qs : List (Str × D)}, XFs K B ps qs → XFs K B' ps qs
  | [], [], h => h
  | p :: ps, q :: qs, h => ⟨h.1, dp_mono e _ _ h.2.1, XFs.mono e h.2.2⟩
  | [], _ :: _, h => h.elim
  | _ :: _, [], h => h.elim
theorem XRep.mono {B B' : Hp} {x : XD} {cls : Value} {d : Option Addr} (e : x.fs = [] ∨ Same B B') (h : XRep K B H x cls d) : XRep K B' H x cls d := by
  refine ⟨h.1, h.2.imp id ?_⟩
  rintro ⟨ne, a, fs, e1, e2, e3⟩
  refine ⟨ne, a, fs, e1, e2, ?_⟩
  rcases e with e | e
  · exact absurd e ne
  · exact e3.mono e
theorem same_popAll (h : SR K g σ vs H ρ cs) : Same (hide H (tot σ vs ρ cs ++ g.P0)) (hide H (tot σ [] ρ [] ++ g.P0)) := fun a o e => by
  obtain ⟨h1, h2⟩ := hide_some.mp e
  refine hide_some.mpr ⟨fun z => h1 ?_, h2⟩
  rcases List.mem_append.mp z with z | z
  · exact List.mem_append_left _ (List.mem_append_right _ (show a ∈ foot σ ρ from z))
  · exact List.mem_append_right _ z
theorem SR.unCall {v : V} {c : C} {xs : List V} {ccs : List C} (hl : xs.length = ccs.length) (h : SR K g σ (v :: (xs ++ vs)) H ρ (c :: (ccs ++ cs))) : SR K g σ (v :: vs) H ρ (c :: cs) := SR.pops hl (SR.unrot hl h)
end
/-- the call by what the arguments hold -/
@[reducible] def okX (ccs : List C) (x : XD) : Prop := ccs.any C.isLn = true → x.fs = []
@[reducible] def callK (S : SpD) (ρ : Rho) (ccs : List C) (Q : KC) (E : KX) : Prop := useK ρ ccs fun ds => S (ds.map C.v) (fun c _ => okR ccs c ∧ Q c ρ) (fun x _ => okX ccs x ∧ E x ρ)
@[reducible] def hd1 (rs : List C) (k : C → Prop) : Prop := match rs with
  | r :: _ => k r
  | [] => False
@[reducible] def callP (S : SpD) (i : Nat) (ρ : Rho) (rest : List C) (Q : KC) (E : KX) : Prop := match rget ρ i with
  | .own t o => useK (rset ρ i .no) rest fun ds => S (.own 1 o :: ds.map C.v)
      (fun c rs => hd1 rs fun r => (rest.any C.isLn = true → c.lf = true ∧ (retag (.own t o) r).lfo = true) ∧ Q c (rset ρ i (retag (.own t o) r)))
      (fun x rs => hd1 rs fun r => (rest.any C.isLn = true → x.fs = [] ∧ (retag (.own t o) r).lfo = true) ∧ E x (rset ρ i (retag (.own t o) r)))
  | _ => False
@[reducible] def callA (S : SpD) (ρ : Rho) (ccs : List C) (Q : KC) (E : KX) : Prop := match ccs with
  | .pk i :: rest => callP S i ρ rest Q E
  | ccs => callK S ρ ccs Q E
@[reducible] def wCall (S : SpD) (wa : WA) : WE := fun ρ Q E => wa ρ (fun ccs ρ1 => callA S ρ1 ccs Q E) E
theorem isLn_frz : ∀ (ccs : List C), (ccs.map frzC).any C.isLn = ccs.any C.isLn
  | [] => rfl
  | c :: ccs => by
    have e : (frzC c).isLn = c.isLn := by
      cases c with
      | own t o => cases o <;> rfl
      | _ => rfl
    simp [e, isLn_frz ccs]
theorem retags_len : ∀ {a b : List C}, a.length = b.length → (retags a b).length = a.length
  | [], b, _ => by cases b <;> rfl
  | x :: a, [], h => by simp at h
  | x :: a, y :: b, h => by simp [retags, retags_len (a := a) (b := b) (by simpa using h)]
theorem argM_dats {ρ : Rho} : ∀ {ccs : List C} {ds : List D} {k : Nat}, dats ρ ccs = some ds → argM ρ k (ccs.map frzC) = some (ds.map C.v) ∧ (∀ rs : List C, rs.length = ccs.length → retags (ccs.map frzC) rs = ccs.map frzC) ∧ ∀ c ∈ ccs.map frzC, c.lfo = true
  | [], ds, k, h => by
    cases h
    exact ⟨rfl, fun rs _ => by cases rs <;> rfl, fun c hc => by simp at hc⟩
  | c :: ccs, ds, k, h => by
    unfold dats at h
    split at h
    · rename_i d ds' e1 e2
      cases h
      obtain ⟨i1, i2, i3⟩ := argM_dats (ccs := ccs) (k := k + 1) e2
      have key : ∀ c' : C, (∀ t o, c' ≠ .own t o) → dat ρ c' = some d → argM ρ k (c' :: ccs.map frzC) = some (C.v d :: ds'.map C.v) ∧ (∀ rs : List C, rs.length = ccs.length + 1 → retags (c' :: ccs.map frzC) rs = c' :: ccs.map frzC) ∧ c'.lfo = true := by
        intro c' hn he
        refine ⟨?_, ?_, ?_⟩
        · cases c' with
          | own t o => exact absurd rfl (hn t o)
          | _ =>
            unfold argM
            rw [he, i1]
        · intro rs hr
          cases rs with
          | nil => simp at hr
          | cons r rs =>
            cases c' with
            | own t o => exact absurd rfl (hn t o)
            | _ =>
              unfold retags
              rw [i2 rs (by simpa using hr)]
        · cases c' with
          | own t o => exact absurd rfl (hn t o)
          | _ => rfl
      have fin : ∀ c' : C, frzC c = c' → (∀ t o, c' ≠ .own t o) → dat ρ c' = some d → argM ρ k ((c :: ccs).map frzC) = some ((d :: ds').map C.v) ∧ (∀ rs : List C, rs.length = (c :: ccs).length → retags ((c :: ccs).map frzC) rs = (c :: ccs).map frzC) ∧ ∀ q ∈ (c :: ccs).map frzC, q.lfo = true := by
        intro c' e hn he
        obtain ⟨k1, k2, k3⟩ := key c' hn he
        rw [List.map_cons, List.map_cons, e]
        refine ⟨k1, fun rs hr => k2 rs (by simpa using hr), fun q hq => ?_⟩
        rcases List.mem_cons.mp hq with z | z
        · rw [z]; exact k3
        · exact i3 q z
      cases c with
      | no => cases e1
      | pk i => cases e1
      | v d' => exact fin _ rfl (fun t o z => by cases z) e1
      | ln i => exact fin _ rfl (fun t o z => by cases z) e1
      | own t o =>
        cases o with
        | dct _ => cases e1
        | lst zs =>
          cases e1
          exact fin _ rfl (fun t o z => by cases z) rfl
    · cases h
section
variable {K : PySem.W.Frag} {g : G} {W : WX} {σ : L2.St} {vs : List V} {H : Hp} {ρ : Rho} {cs : List C} {i : Nat}
theorem entry_len {K : PySem.W.Frag} {g : G} {xs : List V} {ws : List V} {H : Hp} {rs ds : List C} (S' : SR K g (xs.map some) ws H rs ds) : rs.length = xs.length := by
  have q := S'.sl.len
  rw [List.length_map] at q
  omega
/-- a call whose arguments are data -/
theorem SR.callD {S : SpD} {xs : List V} {ccs : List C} {QD : KC} {ED : KX} {E : XK} {Q : VK} (hl : xs.length = ccs.length) (h : SR K g σ (xs ++ vs) H ρ (ccs ++ cs)) (q : callK S ρ ccs QD ED) (hX : XEnds K g W σ ED) (hE : ∀ cls d σ H, W cls d σ H → E cls d H)
    (hQ : ∀ v H' c, SR K g σ (v :: vs) H' ρ (c :: cs) → QD c ρ → Q v H') : spOf K S xs H Q E := by
  obtain ⟨ds, e, q⟩ := useK_dats q
  obtain ⟨e, rt, lf⟩ := argM_dats (k := 0) e
  have h' := h.frzArgs hl
  have hl' : xs.length = (ccs.map frzC).length := by simpa using hl
  obtain ⟨P, entry, ret, exc⟩ := SR.callM h' hl' e
  refine ⟨_, P, _, _, entry, q, fun c rs hk ⟨ok, qd⟩ v H' S' => ?_, fun x rs ⟨ok, ed⟩ cls d H' S' xr => ?_⟩
  · have er := rt rs (by rw [entry_len S', hl])
    have S1 := ret v H' c rs hk S' fun z => ⟨ok (by rw [isLn_frz] at z; exact z), fun r hr => lf r (by rw [er] at hr; exact hr)⟩
    rw [er] at S1
    exact hQ v H' c (SR.unCall hl' S1) qd
  · have er := rt rs (by rw [entry_len S', hl])
    obtain ⟨S1, hs⟩ := exc H' rs S' fun z r hr => lf r (by rw [er] at hr; exact hr)
    rw [er] at S1 hs
    refine hE cls d σ H' (hX x ρ cls d H' S1.popAll (XRep.mono ?_ xr) ed)
    cases hb : ccs.any C.isLn with
    | true => exact .inl (ok hb)
    | false => exact .inr ((hs (by rw [isLn_frz]; exact hb)).trans (same_popAll S1))
theorem retag_own {t : Nat} {o : OD} {r : C} : (∃ o', retag (.own t o) r = .own t o') ∨ retag (.own t o) r = .no := by
  cases r with
  | own t' o' => exact .inl ⟨o', rfl⟩
  | _ => exact .inr rfl
/-- the slot's object goes back -/
theorem SR.putBack {x : V} {c : C} (h : SR K g σ (x :: vs) H ρ (c :: cs)) (e1 : σ[i]? = some (some x)) (e2 : rget ρ i = .no) (hc : c.plain = true ∨ c = .no) : SR K g σ vs H (rset ρ i c) cs := by
  rcases hc with hc | hc
  · exact h.moveIn hc e1 e2
  · subst hc
    exact (h.pop).clear i
theorem SR.callP {S : SpD} {x : V} {xs : List V} {ccs : List C} {QD : KC} {ED : KX} {E : XK} {Q : VK} (hl : xs.length = ccs.length) (h : SR K g σ (x :: (xs ++ vs)) H ρ (.pk i :: (ccs ++ cs))) (q : DL.callP S i ρ ccs QD ED) (hX : XEnds K g W σ ED) (hE : ∀ cls d σ H, W cls d σ H → E cls d H)
    (hQ : ∀ v H' c ρ', SR K g σ (v :: vs) H' ρ' (c :: cs) → QD c ρ' → Q v H') : spOf K S (x :: xs) H Q E := by
  unfold DL.callP at q
  split at q
  · rename_i t o eo
    obtain ⟨ds, e, q⟩ := useK_dats q
    obtain ⟨e, rt, lf⟩ := argM_dats (k := 1) e
    have hl' : xs.length = (ccs.map frzC).length := by simpa using hl
    have h1 : SR K g σ (x :: (xs ++ vs)) H ρ (.pk i :: (ccs.map frzC ++ cs)) := SR.rot hl' (SR.frzArgs hl (SR.unrot hl h))
    obtain ⟨ex, h2⟩ := h1.moveOut eo
    have hlen : i < ρ.length := rget_lt (by rw [eo]; exact fun z => nomatch z)
    have en : rget (rset ρ i .no) i = .no := rget_rset hlen
    have ea : argM (rset ρ i .no) 0 (.own t o :: ccs.map frzC) = some (.own 1 o :: ds.map C.v) := by
      unfold argM
      rw [e]
      rfl
    obtain ⟨P, entry, ret, exc⟩ := SR.callM (xs := x :: xs) (ccs := .own t o :: ccs.map frzC) h2 (by simp [hl]) ea
    have hb0 : ∀ ccs : List C, (C.own t o :: ccs).any C.isLn = ccs.any C.isLn := fun ccs => rfl
    refine ⟨_, P, _, _, entry, q, fun c rs hk qd v H' S' => ?_, fun y rs ed cls d H' S' xr => ?_⟩
    · have el := entry_len S'
      cases rs with
      | nil => exact qd.elim
      | cons r rs =>
        obtain ⟨ok, qd⟩ := qd
        have er := rt rs (by have : rs.length = xs.length := by simpa using el
                             rw [this, hl])
        have e3 : retags (.own t o :: ccs.map frzC) (r :: rs) = retag (.own t o) r :: ccs.map frzC := by
          show retag (.own t o) r :: retags (ccs.map frzC) rs = _
          rw [er]
        have S1 := ret v H' c (r :: rs) hk S' fun z => by
          have z' := ok (by rw [hb0, isLn_frz] at z; exact z)
          refine ⟨z'.1, fun p hp => ?_⟩
          rw [e3] at hp
          rcases List.mem_cons.mp hp with w | w
          · rw [w]; exact z'.2
          · exact lf p w
        rw [e3] at S1
        have S2 : SR K g σ (x :: (v :: (xs ++ vs))) H' (rset ρ i .no) (retag (.own t o) r :: (c :: (ccs.map frzC ++ cs))) := SR.rot (xs := [v]) (ccs := [c]) rfl S1
        have S3 := S2.putBack ex en (by
          rcases retag_own (t := t) (o := o) (r := r) with ⟨o', w⟩ | w
          · rw [w]; exact .inl rfl
          · exact .inr w)
        rw [rset_rset] at S3
        exact hQ v H' c _ (SR.unCall hl' S3) qd
    · have el := entry_len S'
      cases rs with
      | nil => exact ed.elim
      | cons r rs =>
        obtain ⟨ok, ed⟩ := ed
        have er := rt rs (by have : rs.length = xs.length := by simpa using el
                             rw [this, hl])
        have e3 : retags (.own t o :: ccs.map frzC) (r :: rs) = retag (.own t o) r :: ccs.map frzC := by
          show retag (.own t o) r :: retags (ccs.map frzC) rs = _
          rw [er]
        obtain ⟨S1, hs⟩ := exc H' (r :: rs) S' fun z p hp => by
          have z' := ok (by rw [hb0, isLn_frz] at z; exact z)
          rw [e3] at hp
          rcases List.mem_cons.mp hp with w | w
          · rw [w]; exact z'.2
          · exact lf p w
        rw [e3] at S1 hs
        have S3 := SR.putBack (i := i) S1 ex en (by
          rcases retag_own (t := t) (o := o) (r := r) with ⟨o', w⟩ | w
          · rw [w]; exact .inl rfl
          · exact .inr w)
        rw [rset_rset] at S3
        refine hE cls d σ H' (hX y _ cls d H' S3.popAll (XRep.mono ?_ xr) ed)
        cases hb : ccs.any C.isLn with
        | true => exact .inl (ok hb).1
        | false =>
          refine .inr ((hs (by rw [hb0, isLn_frz]; exact hb)).trans fun a u z => ?_)
          obtain ⟨z1, z2⟩ := hide_some.mp z
          refine hide_some.mpr ⟨fun w => z1 ?_, z2⟩
          rcases List.mem_append.mp w with w | w
          · refine List.mem_append_left _ ?_
            have w' : a ∈ foot σ (rset ρ i (retag (.own t o) r)) := w
            have pm := foot_in (σ := σ) (ρ := rset ρ i .no) (c := retag (.own t o) r) ex (by rw [rset_len]; exact hlen) en
            rw [rset_rset] at pm
            have w2 := pm.mem_iff.mp w'
            show a ∈ (footC (some x) (retag (.own t o) r) ++ foot ((xs ++ vs).map some) (ccs.map frzC ++ cs)) ++ foot σ (rset ρ i .no)
            rcases List.mem_append.mp w2 with w2 | w2
            · exact List.mem_append_left _ (List.mem_append_left _ w2)
            · exact List.mem_append_right _ w2
          · exact List.mem_append_right _ w
  · exact q.elim
end
/-- a call whose first argument is a new object of its own -/
@[reducible] def callO (S : SpD) (ρ : Rho) (ccs : List C) (Q : KC) (E : KX) : Prop := match ccs with
  | .own t o :: rest => useK ρ rest fun ds => S (.own 1 o :: ds.map C.v)
      (fun c rs => hd1 rs fun r => (rest.any C.isLn = true → c.lf = true ∧ (retag (.own t o) r).lfo = true) ∧ Q c ρ)
      (fun x rs => hd1 rs fun r => (rest.any C.isLn = true → x.fs = [] ∧ (retag (.own t o) r).lfo = true) ∧ E x ρ)
  | _ => False
@[reducible] def wCallO (S : SpD) (wa : WA) : WE := fun ρ Q E => wa ρ (fun ccs ρ1 => callO S ρ1 ccs Q E) E
section
variable {K : PySem.W.Frag} {g : G} {W : WX} {σ : L2.St} {vs : List V} {H : Hp} {ρ : Rho} {cs : List C} {i : Nat}
theorem SR.callO {S : SpD} {xs : List V} {ccs : List C} {QD : KC} {ED : KX} {E : XK} {Q : VK} (hl : xs.length = ccs.length) (h : SR K g σ (xs ++ vs) H ρ (ccs ++ cs)) (q : DL.callO S ρ ccs QD ED) (hX : XEnds K g W σ ED) (hE : ∀ cls d σ H, W cls d σ H → E cls d H)
    (hQ : ∀ v H' c, SR K g σ (v :: vs) H' ρ (c :: cs) → QD c ρ → Q v H') : spOf K S xs H Q E := by
  unfold DL.callO at q
  split at q
  · rename_i t o rest
    cases xs with
    | nil => simp at hl
    | cons x xs =>
      have hlr : xs.length = rest.length := by simpa using hl
      obtain ⟨ds, e, q⟩ := useK_dats q
      obtain ⟨e, rt, lf⟩ := argM_dats (k := 1) e
      have hl' : xs.length = (rest.map frzC).length := by simpa using hlr
      have h1 : SR K g σ (x :: (xs ++ vs)) H ρ (.own t o :: (rest.map frzC ++ cs)) := SR.rot hl' (SR.frzArgs hlr (SR.unrot hlr h))
      have ea : argM ρ 0 (.own t o :: rest.map frzC) = some (.own 1 o :: ds.map C.v) := by
        unfold argM
        rw [e]
        rfl
      have hl2 : (x :: xs).length = (C.own t o :: rest.map frzC).length := by simp [hlr]
      obtain ⟨P, entry, ret, exc⟩ := SR.callM (xs := x :: xs) (ccs := .own t o :: rest.map frzC) h1 hl2 ea
      have hb0 : ∀ ccs : List C, (C.own t o :: ccs).any C.isLn = ccs.any C.isLn := fun ccs => rfl
      refine ⟨_, P, _, _, entry, q, fun c rs hk qd v H' S' => ?_, fun y rs ed cls d H' S' xr => ?_⟩
      · have el := entry_len S'
        cases rs with
        | nil => exact qd.elim
        | cons r rs =>
          obtain ⟨ok, qd⟩ := qd
          have er := rt rs (by have : rs.length = xs.length := by simpa using el
                               rw [this, hlr])
          have e3 : retags (.own t o :: rest.map frzC) (r :: rs) = retag (.own t o) r :: rest.map frzC := by
            show retag (.own t o) r :: retags (rest.map frzC) rs = _
            rw [er]
          have S1 := ret v H' c (r :: rs) hk S' fun z => by
            have z' := ok (by rw [hb0, isLn_frz] at z; exact z)
            refine ⟨z'.1, fun p hp => ?_⟩
            rw [e3] at hp
            rcases List.mem_cons.mp hp with w | w
            · rw [w]; exact z'.2
            · exact lf p w
          rw [e3] at S1
          exact hQ v H' c (SR.unCall (xs := x :: xs) (ccs := retag (.own t o) r :: rest.map frzC) (by simp [hlr]) S1) qd
      · have el := entry_len S'
        cases rs with
        | nil => exact ed.elim
        | cons r rs =>
          obtain ⟨ok, ed⟩ := ed
          have er := rt rs (by have : rs.length = xs.length := by simpa using el
                               rw [this, hlr])
          have e3 : retags (.own t o :: rest.map frzC) (r :: rs) = retag (.own t o) r :: rest.map frzC := by
            show retag (.own t o) r :: retags (rest.map frzC) rs = _
            rw [er]
          obtain ⟨S1, hs⟩ := exc H' (r :: rs) S' fun z p hp => by
            have z' := ok (by rw [hb0, isLn_frz] at z; exact z)
            rw [e3] at hp
            rcases List.mem_cons.mp hp with w | w
            · rw [w]; exact z'.2
            · exact lf p w
          rw [e3] at S1 hs
          refine hE cls d σ H' (hX y ρ cls d H' S1.popAll (XRep.mono ?_ xr) ed)
          cases hb : rest.any C.isLn with
          | true => exact .inl (ok hb).1
          | false => exact .inr ((hs (by rw [hb0, isLn_frz]; exact hb)).trans (same_popAll S1))
  · exact q.elim
end
section
variable {X : Cx} {g : G} {W : WX} {CX : CXT} {k : Nat} {f : Addr} {fd : FuncData} {ps : List Str} {S : SpD} {E : XK} {x : Str} {p pos : Pos} {e : Expr} {es : List Expr} {wa : WA}
/-- f(e, ..) of the program -/
theorem ee_call (F : FnOk X.prog X.w X.K X.mg X.base CX k f fd ps (spOf X.K S)) (hr : Room k X.A) (hg : Gl X x) (hm : X.mg x = some (.ref f)) (hk : PySem.W.keepIn X.K (.ref f) = true) (hb : Binds X.K fd ps []) (hx : Passes CX X E) (hE : ∀ cls d σ H, W cls d σ H → E cls d H)
    (ha : EA X g W (e :: es) wa) (hdb : (x == ("__debug__" : Str)) = false := by decide) (he : starEach (e :: es) X.env = (false, eval e X.env) :: starEach es X.env := by rfl) (hpl : (backTo pos (starEach es X.env)).any (·.1) = false := by rfl) :
    EE X g W (.Call (.Name x p) (e :: es) [] pos) (wCall S wa) := by
  obtain ⟨t, q, s⟩ := ha.ex
  refine ⟨_, pe_call F hr hg hm hk hb .nil hx q hdb he hpl, fun σ vs H ρ cs QD ED Q hS hw hX hQ => ?_⟩
  refine s σ vs H ρ cs _ ED _ hS hw hX fun xs H1 ccs ρ1 hl S1 q1 => ?_
  rw [List.append_nil]
  unfold callA at q1
  split at q1
  · rename_i i rest
    cases xs with
    | nil => simp at hl
    | cons x xs => exact SR.callP (by simpa using hl) S1 q1 hX hE hQ
  · exact SR.callD hl S1 q1 hX hE fun v H' c S3 q3 => hQ v H' c ρ1 S3 q3
/-- f([..], ..) of the program, its first argument handed over -/
theorem ee_callO (F : FnOk X.prog X.w X.K X.mg X.base CX k f fd ps (spOf X.K S)) (hr : Room k X.A) (hg : Gl X x) (hm : X.mg x = some (.ref f)) (hk : PySem.W.keepIn X.K (.ref f) = true) (hb : Binds X.K fd ps []) (hx : Passes CX X E) (hE : ∀ cls d σ H, W cls d σ H → E cls d H)
    (ha : EA X g W (e :: es) wa) (hdb : (x == ("__debug__" : Str)) = false := by decide) (he : starEach (e :: es) X.env = (false, eval e X.env) :: starEach es X.env := by rfl) (hpl : (backTo pos (starEach es X.env)).any (·.1) = false := by rfl) :
    EE X g W (.Call (.Name x p) (e :: es) [] pos) (wCallO S wa) := by
  obtain ⟨t, q, s⟩ := ha.ex
  refine ⟨_, pe_call F hr hg hm hk hb .nil hx q hdb he hpl, fun σ vs H ρ cs QD ED Q hS hw hX hQ => ?_⟩
  refine s σ vs H ρ cs _ ED _ hS hw hX fun xs H1 ccs ρ1 hl S1 q1 => ?_
  rw [List.append_nil]
  exact SR.callO hl S1 q1 hX hE fun v H' c S3 q3 => hQ v H' c ρ1 S3 q3
/-- f() -/
theorem ee_call0 (F : FnOk X.prog X.w X.K X.mg X.base CX k f fd ps (spOf X.K S)) (hr : Room k X.A) (hg : Gl X x) (hm : X.mg x = some (.ref f)) (hk : PySem.W.keepIn X.K (.ref f) = true) (hb : Binds X.K fd ps []) (hx : Passes CX X E) (hE : ∀ cls d σ H, W cls d σ H → E cls d H)
    (hdb : (x == ("__debug__" : Str)) = false := by decide) : EE X g W (.Call (.Name x p) [] [] pos) (wCall S wNil) := by
  refine ⟨_, pe_call0 F hr hg hm hk hb .nil hx hdb, fun σ vs H ρ cs QD ED Q hS hw hX hQ => ?_⟩
  exact SR.callD (xs := []) (ccs := []) rfl hS hw hX hE fun v H' c S3 q3 => hQ v H' c ρ S3 q3
end
end DL

set_option Elab.async false
set_option linter.all false
set_option maxRecDepth 100000
set_option maxHeartbeats 4000000
/-! DL, statements, loops, comprehensions, a def's body. -/
namespace DL
open PySem PySem.Spec PyProof.Rows L2

structure EndsD where
  nx : Rho → Prop
  rt : KC
  bk : Rho → Prop
  ct : Rho → Prop
  ex : KX
abbrev WS := EndsD → Rho → Prop
def plainAll (cs : List C) : Prop := ∀ c ∈ cs, c.plain = true
structure EndsOk (K : PySem.W.Frag) (g : G) (W : WX) (vs : List V) (cs : List C) (DD : EndsD) (D : Ends) : Prop where
  nx : ∀ σ' H' ρ', SR K g σ' vs H' ρ' cs → DD.nx ρ' → D.nx σ' H'
  bk : ∀ σ' H' ρ', SR K g σ' vs H' ρ' cs → DD.bk ρ' → D.bk σ' H'
  ct : ∀ σ' H' ρ', SR K g σ' vs H' ρ' cs → DD.ct ρ' → D.ct σ' H'
  rt : ∀ v σ' H' c ρ', SR K g σ' (v :: vs) H' ρ' (c :: cs) → DD.rt c ρ' → D.rt v H'
  ex : ∀ σ', XEnds K g W σ' DD.ex
def SemS (K : PySem.W.Frag) (g : G) (W : WX) (t : TS) (w : WS) : Prop :=
  ∀ (σ : L2.St) (vs : List V) (H : Hp) (ρ : Rho) (cs : List C) (DD : EndsD) (D : Ends), SR K g σ vs H ρ cs → plainAll cs → w DD ρ → EndsOk K g W vs cs DD D → t D σ H
structure ES (X : Cx) (g : G) (W : WX) (st : Stmt) (w : WS) : Prop where
  ex : ∃ t, PS X st t ∧ SemS X.K g W t w
structure EB (X : Cx) (g : G) (W : WX) (sts : List Stmt) (w : WS) : Prop where
  ex : ∃ t, PSs X sts t ∧ SemS X.K g W t w
theorem plainAll.nopk {cs : List C} (h : plainAll cs) {j i : Nat} : (C.pk j ∈ cs ∨ C.ln j ∈ cs) → j ≠ i := fun q => by
  rcases q with q | q <;> cases h _ q
theorem plainAll.cons {c : C} {cs : List C} (h : plainAll cs) (hc : c.plain = true) : plainAll (c :: cs) := fun q hq => by
  rcases List.mem_cons.mp hq with e | hq
  · rw [e]; exact hc
  · exact h q hq

@[reducible] def wNext : WS := fun DD ρ => DD.nx ρ
def wSeq (w u : WS) : WS := fun DD ρ => w ⟨u DD, DD.rt, DD.bk, DD.ct, DD.ex⟩ ρ
@[reducible] def wBreak : WS := fun DD ρ => DD.bk ρ
@[reducible] def wCont : WS := fun DD ρ => DD.ct ρ
@[reducible] def wDrop (we : WE) : WS := fun DD ρ => we ρ (fun _ ρ1 => DD.nx ρ1) DD.ex
@[reducible] def wRet (we : WE) : WS := fun DD ρ => we ρ (fun c ρ1 => DD.rt c ρ1) DD.ex
@[reducible] def wRetN : WS := fun DD ρ => DD.rt (.v .none) ρ
@[reducible] def wRetO (i : Nat) : WS := fun DD ρ => match rget ρ i with
  | .own t o => DD.rt (.own t o) (rset ρ i .no)
  | .v d => DD.rt (.v d) ρ
  | _ => False
@[reducible] def wIf (wt : WT) (w u : WS) : WS := fun DD ρ => wt ρ (fun b ρ1 => if b = true then w DD ρ1 else u DD ρ1) DD.ex
@[reducible] def wSet (i : Nat) (we : WE) : WS := fun DD ρ => we ρ (fun c ρ1 => c.plain = true ∧ DD.nx (rset ρ1 i c)) DD.ex
@[reducible] def wSetF (i : Nat) (we : WE) : WS := fun DD ρ => we ρ (fun c ρ1 => (frzC c).plain = true ∧ DD.nx (rset ρ1 i (frzC c))) DD.ex
section
variable {K : PySem.W.Frag} {g : G} {W : WX} {t u : TS} {w w' : WS} {te : TE} {we : WE}
theorem sem_next : SemS K g W tNext wNext := fun σ vs H ρ cs DD D hS hp hw hE => hE.nx σ H ρ hS hw
theorem sem_seq (h : SemS K g W t w) (h' : SemS K g W u w') : SemS K g W (tSeq t u) (wSeq w w') := fun σ vs H ρ cs DD D hS hp hw hE =>
  h σ vs H ρ cs _ _ hS hp hw ⟨fun σ' H' ρ' S' q => h' σ' vs H' ρ' cs DD D S' hp q hE, hE.bk, hE.ct, hE.rt, hE.ex⟩
theorem sem_drop (h : Sem K g W te we) : SemS K g W (tDrop te) (wDrop we) := fun σ vs H ρ cs DD D hS hp hw hE =>
  h σ vs H ρ cs _ _ _ hS hw (hE.ex σ) fun v H' c ρ' S' q => hE.nx σ H' ρ' S'.pop q
theorem sem_ret (h : Sem K g W te we) : SemS K g W (tRet te) (wRet we) := fun σ vs H ρ cs DD D hS hp hw hE =>
  h σ vs H ρ cs _ _ _ hS hw (hE.ex σ) fun v H' c ρ' S' q => hE.rt v σ H' c ρ' S' q
theorem sem_if {tc : TT} {wt : WT} (hc : SemT K g W tc wt) (h : SemS K g W t w) (h' : SemS K g W u w') : SemS K g W (tIfS tc t u) (wIf wt w w') := fun σ vs H ρ cs DD D hS hp hw hE =>
  hc σ vs H ρ cs _ _ _ hS hw (hE.ex σ) fun b H' ρ' S' q => by
    cases b with
    | true => exact h σ vs H' ρ' cs DD D S' hp q hE
    | false => exact h' σ vs H' ρ' cs DD D S' hp q hE
theorem SR.store {σ : L2.St} {vs : List V} {H : Hp} {ρ : Rho} {cs : List C} {i : Nat} {x : V} {c : C} (h : SR K g σ (x :: vs) H ρ (c :: cs)) (hc : c.plain = true) (hj : ∀ j, (C.pk j ∈ cs ∨ C.ln j ∈ cs) → j ≠ i) : SR K g (σ.set i (some x)) vs H (rset ρ i c) cs := by
  by_cases hi : i < σ.length
  · exact h.assign hc hi hj
  · have e1 : σ.set i (some x) = σ := List.set_eq_of_length_le (by omega)
    have e2 : rset ρ i c = ρ := by
      have hl : ρ.length ≤ i := by rw [← h.len]; omega
      clear h hj e1 hi
      induction ρ generalizing i with
      | nil => rfl
      | cons q ρ ih =>
        cases i with
        | zero => simp at hl
        | succ i =>
          show q :: rset ρ i c = q :: ρ
          rw [ih (by simpa using hl)]
    rw [e1, e2]
    exact h.pop
theorem sem_set {i : Nat} (h : Sem K g W te we) : SemS K g W (tAsg te (gName i)) (wSet i we) := fun σ vs H ρ cs DD D hS hp hw hE =>
  h σ vs H ρ cs _ _ _ hS hw (hE.ex σ) fun v H' c ρ' S' q => hE.nx _ H' _ (S'.store q.1 fun j => hp.nopk) q.2
theorem sem_setF {i : Nat} (h : Sem K g W te we) : SemS K g W (tAsg te (gName i)) (wSetF i we) := fun σ vs H ρ cs DD D hS hp hw hE =>
  h σ vs H ρ cs _ _ _ hS hw (hE.ex σ) fun v H' c ρ' S' q => hE.nx _ H' _ (S'.frzTop.store q.1 fun j => hp.nopk) q.2
end
section
variable {X : Cx} {g : G} {W : WX} {st : Stmt} {rest : List Stmt} {w u : WS} {e : Expr} {we : WE} {pos : Pos}
theorem eb_nil : EB X g W [] wNext := ⟨_, pss_nil, sem_next⟩
theorem eb_cons (h : ES X g W st w) (h' : EB X g W rest u) : EB X g W (st :: rest) (wSeq w u) := by
  obtain ⟨t, p, s⟩ := h.ex
  obtain ⟨t', p', s'⟩ := h'.ex
  exact ⟨_, pss_cons p p', sem_seq s s'⟩
theorem eb_one (h : ES X g W st w) : EB X g W [st] w := by
  obtain ⟨t, p, s⟩ := h.ex
  exact ⟨_, pss_one p, s⟩
theorem es_pass : ES X g W (.Pass pos) wNext := ⟨_, ps_pass, sem_next⟩
theorem es_doc {x j pos'} : ES X g W (.Expr (.Constant (.str x) j pos) pos') wNext := ⟨_, ps_doc, sem_next⟩
theorem es_break : ES X g W (.Break pos) wBreak := ⟨_, ps_break, fun σ vs H ρ cs DD D hS hp hw hE => hE.bk σ H ρ hS hw⟩
theorem es_cont : ES X g W (.Continue pos) wCont := ⟨_, ps_continue, fun σ vs H ρ cs DD D hS hp hw hE => hE.ct σ H ρ hS hw⟩
theorem es_expr (h : EE X g W e we) (hs : swapsWith e none pos.line X.env = pure false := by rfl) : ES X g W (.Expr e pos) (wDrop we) := by
  obtain ⟨t, p, s⟩ := h.ex
  exact ⟨_, ps_expr p hs, sem_drop s⟩
theorem es_ret (h : EE X g W e we) : ES X g W (.Return (some e) pos) (wRet we) := by
  obtain ⟨t, p, s⟩ := h.ex
  exact ⟨_, ps_ret p, sem_ret s⟩
theorem es_retN : ES X g W (.Return none pos) wRetN := ⟨_, ps_retN, fun σ vs H ρ cs DD D hS hp hw hE => hE.rt .non σ H _ ρ (SR.resV hS (Same.refl H) .non) hw⟩
theorem es_retO {i : Nat} {x : Str} {p : Pos} (hL : g.L i = true) (h : PE X (.Name x p) (tVar i)) : ES X g W (.Return (some (.Name x p)) pos) (wRetO i) := by
  refine ⟨_, ps_ret h, fun σ vs H ρ cs DD D hS hp hw hE => ?_⟩
  unfold wRetO at hw
  split at hw
  · rename_i t o eo
    obtain ⟨a, e1, _⟩ := hS.own eo
    obtain ⟨_, S2⟩ := (hS.pushPk e1 hL).moveOut eo
    exact ⟨_, e1, hE.rt _ σ H _ _ S2 hw⟩
  · rename_i d eo
    obtain ⟨x, e1, q⟩ := hS.slot eo
    exact ⟨_, e1, hE.rt _ σ H _ ρ (SR.resV hS (Same.refl H) q) hw⟩
  · exact hw.elim
theorem es_if {c : Expr} {a b : List Stmt} {wt : WT} (hc : ET X g W c wt) (h : EB X g W a w) (h' : EB X g W b u) : ES X g W (.If c a b pos) (wIf wt w u) := by
  obtain ⟨t, p, s⟩ := hc.ex
  obtain ⟨t1, p1, s1⟩ := h.ex
  obtain ⟨t2, p2, s2⟩ := h'.ex
  exact ⟨_, ps_if p p1 p2, sem_if s s1 s2⟩
theorem es_set {i : Nat} {x : Str} {pos' : Pos} (hN : X.N.Nodup) (hi : X.N[i]? = some x) (hx : Loc X.env.scope x) (h : EE X g W e we) (hs : swapsWith e (some (.Name x pos')) pos.line X.env = pure false := by rfl) (hf : X.fn x = true ∨ X.env.scope.names.lookup x = some .local := by first | exact .inl rfl | exact .inr rfl | assumption) :
    ES X g W (.Assign [.Name x pos'] e pos) (wSet i we) := by
  obtain ⟨t, p, s⟩ := h.ex
  exact ⟨_, ps_set hN hi hx p hs hf, sem_set s⟩
theorem es_setF {i : Nat} {x : Str} {pos' : Pos} (hN : X.N.Nodup) (hi : X.N[i]? = some x) (hx : Loc X.env.scope x) (h : EE X g W e we) (hs : swapsWith e (some (.Name x pos')) pos.line X.env = pure false := by rfl) (hf : X.fn x = true ∨ X.env.scope.names.lookup x = some .local := by first | exact .inl rfl | exact .inr rfl | assumption) :
    ES X g W (.Assign [.Name x pos'] e pos) (wSetF i we) := by
  obtain ⟨t, p, s⟩ := h.ex
  exact ⟨_, ps_set hN hi hx p hs hf, sem_setF s⟩
end

/-! ### targets -/
abbrev WG := D → Rho → (Rho → Prop) → Prop
abbrev WGs := List D → Rho → (Rho → Prop) → Prop
/-- the slots in T alone are stored -/
def Only (T : List Nat) (σ σ' : L2.St) : Prop := σ'.length = σ.length ∧ ∀ j, j ∉ T → σ'[j]? = σ[j]?
def SemG (K : PySem.W.Frag) (g : G) (T : List Nat) (t : TG) (w : WG) : Prop :=
  ∀ (σ : L2.St) (vs : List V) (H : Hp) (ρ : Rho) (cs : List C) (x : V) (d : D) (QD : Rho → Prop) (Q : L2.St → Hp → Prop), SR K g σ (x :: vs) H ρ (.v d :: cs) → (∀ j ∈ T, ∀ i, (C.pk i ∈ cs ∨ C.ln i ∈ cs) → i ≠ j) → w d ρ QD →
    (∀ σ' H' ρ', SR K g σ' vs H' ρ' cs → DL.Only T σ σ' → QD ρ' → Q σ' H') → t x σ H Q
def SemGs (K : PySem.W.Frag) (g : G) (T : List Nat) (t : TGs) (w : WGs) : Prop :=
  ∀ (σ : L2.St) (vs : List V) (H : Hp) (ρ : Rho) (cs : List C) (xs : List V) (ds : List D) (QD : Rho → Prop) (Q : L2.St → Hp → Prop), xs.length = ds.length → SR K g σ (xs ++ vs) H ρ (ds.map C.v ++ cs) → (∀ j ∈ T, ∀ i, (C.pk i ∈ cs ∨ C.ln i ∈ cs) → i ≠ j) → w ds ρ QD →
    (∀ σ' H' ρ', SR K g σ' vs H' ρ' cs → DL.Only T σ σ' → QD ρ' → Q σ' H') → t xs σ H Q
structure EG (X : Cx) (g : G) (tg : Expr) (T : List Nat) (w : WG) : Prop where
  ex : ∃ t, PG X tg t ∧ SemG X.K g T t w
structure EGs (X : Cx) (g : G) (tgs : List Expr) (T : List Nat) (w : WGs) : Prop where
  ex : ∃ t, PGs X tgs t ∧ SemGs X.K g T t w
@[reducible] def wgName (i : Nat) : WG := fun d ρ Q => Q (rset ρ i (.v d))
@[reducible] def wgNil : WGs := fun ds ρ Q => match ds with
  | [] => Q ρ
  | _ => False
@[reducible] def wgCons (w : WG) (u : WGs) : WGs := fun ds ρ Q => match ds with
  | d :: ds => w d ρ fun ρ1 => u ds ρ1 Q
  | [] => False
@[reducible] def wgTup (n : Nat) (u : WGs) : WG := fun d ρ Q => match d with
  | .tuple ds => ds.length = n ∧ u ds ρ Q
  | _ => False
theorem tot_vs {σ : L2.St} {ρ : Rho} : ∀ {xs : List V} {ds : List D} {vs : List V} {cs : List C}, xs.length = ds.length → tot σ (xs ++ vs) ρ (ds.map C.v ++ cs) = tot σ vs ρ cs
  | [], [], _, _, _ => rfl
  | x :: xs, d :: ds, vs, cs, h => by
    show tot σ (x :: (xs ++ vs)) ρ (.v d :: (ds.map C.v ++ cs)) = _
    rw [foot_cons_v, tot_vs (by simpa using h)]
  | [], _ :: _, _, _, h => by simp at h
  | _ :: _, [], _, _, h => by simp at h
section
variable {K : PySem.W.Frag} {g : G} {σ : L2.St} {vs : List V} {H : Hp} {ρ : Rho} {cs : List C}
theorem SR.pushAll (h : SR K g σ vs H ρ cs) : ∀ {xs : List V} {ds : List D}, DpAll K (hide H (tot σ vs ρ cs ++ g.P0)) xs ds → SR K g σ (xs ++ vs) H ρ (ds.map C.v ++ cs)
  | _, [], q => by cases q; exact h
  | _, d :: ds, q => by
    cases q with
    | cons h1 h2 =>
      have r := SR.pushAll h h2
      have e := tot_vs (σ := σ) (ρ := ρ) (vs := vs) (cs := cs) (DL.DpAll.len h2)
      have q := SR.resV (H' := H) r (Same.refl H) (by rw [e]; exact h1)
      exact q
theorem only_set {i : Nat} {x : Option V} {T : List Nat} (hi : i ∈ T) : DL.Only T σ (σ.set i x) := ⟨by simp, fun j hj => List.getElem?_set_ne (fun e => hj (by rw [← e]; exact hi))⟩
theorem Only.trans {T T' : List Nat} {σ σ1 σ2 : L2.St} (a : DL.Only T σ σ1) (b : DL.Only T' σ1 σ2) : DL.Only (T ++ T') σ σ2 := ⟨b.1.trans a.1, fun j hj => by
  have h : j ∉ T ∧ j ∉ T' := by simpa using hj
  rw [b.2 j h.2, a.2 j h.1]⟩
theorem semG_name {i : Nat} : SemG K g [i] (gName i) (wgName i) := fun σ vs H ρ cs x d QD Q hS hp hw hQ =>
  hQ _ H _ (hS.store rfl fun j q => hp i (by simp) j q) (only_set (by simp)) hw
theorem semGs_nil : SemGs K g [] gNil wgNil := fun σ vs H ρ cs xs ds QD Q hl hS hp hw hQ => by
  cases ds with
  | nil =>
    cases xs with
    | nil => exact ⟨rfl, hQ σ H ρ hS ⟨rfl, fun _ _ => rfl⟩ hw⟩
    | cons _ _ => simp at hl
  | cons _ _ => exact hw.elim
theorem semGs_cons {T T' : List Nat} {t : TG} {u : TGs} {w : WG} {w' : WGs} (h : SemG K g T t w) (h' : SemGs K g T' u w') : SemGs K g (T ++ T') (gCons t u) (wgCons w w') := fun σ vs H ρ cs xs ds QD Q hl hS hp hw hQ => by
  cases ds with
  | nil => exact hw.elim
  | cons d ds =>
    cases xs with
    | nil => simp at hl
    | cons x xs =>
      refine ⟨x, xs, rfl, ?_⟩
      refine h σ (xs ++ vs) H ρ (ds.map C.v ++ cs) x d _ _ hS (fun j hj i q => hp j (List.mem_append_left _ hj) i ?_) hw fun σ1 H1 ρ1 S1 o1 q1 => ?_
      · have nm : ∀ z : C, (∀ e, z ≠ .v e) → z ∈ ds.map C.v ++ cs → z ∈ cs := fun z hz q => by
          rcases List.mem_append.mp q with q | q
          · obtain ⟨e, _, e2⟩ := List.mem_map.mp q
            exact absurd e2.symm (hz e)
          · exact q
        exact q.imp (nm _ fun e z => by cases z) (nm _ fun e z => by cases z)
      · exact h' σ1 vs H1 ρ1 cs xs ds QD Q (by simpa using hl) S1 (fun j hj => hp j (List.mem_append_right _ hj)) q1 fun σ2 H2 ρ2 S2 o2 q2 => hQ σ2 H2 ρ2 S2 (o1.trans o2) q2
theorem semG_tup {n : Nat} {T : List Nat} {t : TGs} {w : WGs} (h : SemGs K g T t w) : SemG K g T (gTup K n t) (wgTup n w) := fun σ vs H ρ cs x d QD Q hS hp hw hQ => by
  cases d with
  | tuple ds =>
    have q := hS.top
    cases q with
    | tup hs ha =>
      rename_i a xs
      have hs' : SqT K H a xs := seqT_same (fun b o e => (hide_some.mp e).2) hs
      refine ⟨a, xs, rfl, hs', by rw [DL.DpAll.len ha]; exact hw.1, ?_⟩
      exact h σ vs H ρ cs xs ds QD Q (DL.DpAll.len ha) (hS.pop.pushAll ha) hp hw.2 hQ
  | _ => exact hw.elim
end
@[reducible] def wgLst (n : Nat) (u : WGs) : WG := fun d ρ Q => match d with
  | .list ds => ds.length = n ∧ u ds ρ Q
  | _ => False
/-- target = value, the value as data -/
@[reducible] def wAsg (we : WE) (wg : WG) : WS := fun DD ρ => we ρ (fun c ρ1 => match frzC c with
  | .v d => wg d ρ1 DD.nx
  | _ => False) DD.ex
section
variable {X : Cx} {g : G} {W : WX} {e tg : Expr} {es : List Expr} {we : WE} {wg : WG} {ws : WGs} {T T' : List Nat} {pos : Pos}
theorem eg_name {i : Nat} {x : Str} (hN : X.N.Nodup) (hi : X.N[i]? = some x) (hx : Loc X.env.scope x) (hf : X.fn x = true ∨ X.env.scope.names.lookup x = some .local := by first | exact .inl rfl | exact .inr rfl | assumption) : EG X g (.Name x pos) [i] (wgName i) := ⟨_, pg_name hN hi hx hf, semG_name⟩
theorem egs_nil : EGs X g [] [] wgNil := ⟨_, pgs_nil, semGs_nil⟩
theorem egs_cons (h : EG X g e T wg) (h' : EGs X g es T' ws) (hs : (assignEach (e :: es) X.env).map (·.2) = assign e X.env :: (assignEach es X.env).map (·.2) := by rfl) : EGs X g (e :: es) (T ++ T') (wgCons wg ws) := by
  obtain ⟨t, p, s⟩ := h.ex
  obtain ⟨t', p', s'⟩ := h'.ex
  exact ⟨_, pgs_cons p p' hs, semGs_cons s s'⟩
theorem eg_tup {k : Nat} {n : Nat} (hc : X.calm = true) (h : EGs X g es T ws) (hn : (assignEach es X.env).length = n := by rfl) (hst : (assignEach es X.env).findIdx? (·.1) = none := by rfl) : EG X g (.Tuple es k pos) T (wgTup n ws) := by
  obtain ⟨t, p, s⟩ := h.ex
  exact ⟨_, pg_tup hc p hn hst, semG_tup s⟩
theorem es_asg (h : EE X g W e we) (hg : EG X g tg T wg) (hs : swapsWithSole [tg] e pos.line X.env = pure false := by rfl) (hw : swappedStores [tg] e X.env = pure none := by rfl)
    (h1 : (assignEach [tg] X.env).map (·.2) = [assign tg X.env] := by rfl) : ES X g W (.Assign [tg] e pos) (wAsg we wg) := by
  obtain ⟨t, p, s⟩ := h.ex
  obtain ⟨t', p', s'⟩ := hg.ex
  refine ⟨_, ps_asg p p' hs hw h1, fun σ vs H ρ cs DD D hS hp hw hE => ?_⟩
  refine s σ vs H ρ cs _ _ _ hS hw (hE.ex σ) fun v H' c ρ' S' q => ?_
  split at q
  · rename_i d ec
    have S2 := S'.frzTop
    rw [ec] at S2
    exact s' σ vs H' ρ' cs v d _ _ S2 (fun j _ i => hp.nopk) q fun σ2 H2 ρ2 S3 _ q2 => hE.nx σ2 H2 ρ2 S3 q2
  · exact q.elim
end

/-! ### what loops walk -/
structure Walks (K : PySem.W.Frag) (J : It) (hs : List V) (hd ds : List D) : Prop where
  go : ∀ (H : Hp) (O : List Addr) (i : Nat), (∀ a ∈ O, ∃ u, H a = some u) → DpAll K (hide H O) hs hd → i < ds.length → J.go i H
  yld : ∀ (H : Hp) (O : List Addr) (i : Nat) (y : V) (H' : Hp) (d : D), (∀ a ∈ O, ∃ u, H a = some u) → DpAll K (hide H O) hs hd → J.yld i H y H' → ds[i]? = some d → Same H H' ∧ Dp K (hide H' O) y d
  stop : ∀ (H : Hp) (O : List Addr) (i : Nat), (∀ a ∈ O, ∃ u, H a = some u) → DpAll K (hide H O) hs hd → ds.length ≤ i → J.stop i H
abbrev WI := Rho → (List D → Rho → Prop) → KX → Prop
def SemI (K : PySem.W.Frag) (g : G) (W : WX) (t : TI) (w : WI) : Prop :=
  ∀ (σ : L2.St) (vs : List V) (H : Hp) (ρ : Rho) (cs : List C) (QD : List D → Rho → Prop) (ED : KX) (R : It → Hp → Prop), SR K g σ vs H ρ cs → w ρ QD ED → XEnds K g W σ ED →
    (∀ J hs hd ds H' ρ', hs.length = hd.length → SR K g σ (hs ++ vs) H' ρ' (hd.map C.v ++ cs) → Walks K J hs hd ds → QD ds ρ' → R J H') → t σ H R
structure EI (X : Cx) (g : G) (W : WX) (tg iter : Expr) (w : WI) : Prop where
  ex : ∃ t, PI X tg iter t ∧ SemI X.K g W t w
@[reducible] def forK (wg : WG) (body : WS) : List D → EndsD → Rho → Prop
  | [], DD, ρ => DD.nx ρ
  | d :: ds, DD, ρ => wg d ρ fun ρ1 => body ⟨forK wg body ds DD, DD.rt, DD.nx, forK wg body ds DD, DD.ex⟩ ρ1
@[reducible] def wFor (wi : WI) (wg : WG) (body : WS) : WS := fun DD ρ => wi ρ (fun ds ρ1 => forK wg body ds DD ρ1) DD.ex
theorem plainAll.vs {hd : List D} {cs : List C} (h : plainAll cs) : plainAll (hd.map C.v ++ cs) := fun c hc => by
  rcases List.mem_append.mp hc with q | q
  · obtain ⟨d, _, e⟩ := List.mem_map.mp q
    exact e ▸ rfl
  · exact h c q
section
variable {K : PySem.W.Frag} {g : G} {σ : L2.St} {vs : List V} {H : Hp} {ρ : Rho} {cs : List C}
/-- the data at the top, all of it -/
theorem SR.tops {hs : List V} {hd : List D} (hl : hs.length = hd.length) (h : SR K g σ (hs ++ vs) H ρ (hd.map C.v ++ cs)) : DpAll K (hide H (tot σ vs ρ cs ++ g.P0)) hs hd := by
  have e0 : dats ρ (hd.map C.v) = some hd := by
    clear h hl
    induction hd with
    | nil => rfl
    | cons d hd ih => show (match some d, dats ρ (hd.map C.v) with | some d, some ds => some (d :: ds) | _, _ => none) = _; rw [ih]
  have tp := h.tp
  rw [List.map_append] at tp
  have q := (RCs.split (by simpa using hl) tp).1
  rw [tot_vs hl] at q
  clear tp e0 h
  induction hs generalizing hd with
  | nil => cases hd with
    | nil => exact .nil
    | cons _ _ => simp at hl
  | cons x hs ih => cases hd with
    | nil => simp at hl
    | cons d hd =>
      obtain ⟨⟨y, e, q1⟩, q2⟩ := q
      cases e
      exact .cons q1 (ih (by simpa using hl) q2)
theorem sem_for {W : WX} {T : List Nat} {ti : TI} {tgt : TG} {tb : TS} {wi : WI} {wg : WG} {wb : WS} (hi : SemI K g W ti wi) (hg : SemG K g T tgt wg) (hb : SemS K g W tb wb) : SemS K g W (tFor ti tgt tb) (wFor wi wg wb) := by
  intro σ vs H ρ cs DD D hS hp hw hE
  refine hi σ vs H ρ cs _ _ _ hS hw (hE.ex σ) fun J hs hd ds H1 ρ1 hl S1 wk q1 => ?_
  refine ⟨fun i m σ' H' => m = ds.length - i ∧ ∃ ρ', SR K g σ' (hs ++ vs) H' ρ' (hd.map C.v ++ cs) ∧ forK wg wb (ds.drop i) DD ρ', ⟨ds.length, by simp, ρ1, S1, by simpa using q1⟩, ?_⟩
  rintro i m σ2 H2 ⟨rfl, ρ2, S2, q2⟩
  have dom := (SR.pops (by simpa using hl) S2).domO
  have dd := SR.tops hl S2
  by_cases hlt : i < ds.length
  · refine .inr ⟨wk.go H2 _ i dom dd hlt, fun σ' H' => ∃ ρ', SR K g σ' (hs ++ vs) H' ρ' (hd.map C.v ++ cs) ∧ forK wg wb (ds.drop (i + 1)) DD ρ', fun σ' H' q => ⟨ds.length - (i + 1), by omega, rfl, q⟩, fun x H3 y => ?_⟩
    have ed : ds.drop i = ds[i] :: ds.drop (i + 1) := List.drop_eq_getElem_cons hlt
    rw [ed] at q2
    obtain ⟨sm, dx⟩ := wk.yld H2 _ i x H3 ds[i] dom dd y (List.getElem?_eq_getElem hlt)
    have S3 : SR K g σ2 (x :: (hs ++ vs)) H3 ρ2 (.v ds[i] :: (hd.map C.v ++ cs)) := SR.resV S2 sm (by rw [tot_vs hl]; exact dx)
    refine hg σ2 (hs ++ vs) H3 ρ2 (hd.map C.v ++ cs) x ds[i] _ _ S3 (fun j _ k => hp.vs.nopk) q2 fun σ4 H4 ρ4 S4 _ q4 => ?_
    refine hb σ4 (hs ++ vs) H4 ρ4 (hd.map C.v ++ cs) _ _ S4 hp.vs q4 ⟨fun σ' H' ρ' S' q => ⟨ρ', S', q⟩, fun σ' H' ρ' S' q => ?_, fun σ' H' ρ' S' q => ⟨ρ', S', q⟩, fun v σ' H' c ρ' S' q => ?_, hE.ex⟩
    · exact hE.nx σ' H' ρ' (SR.pops (by simpa using hl) S') q
    · exact hE.rt v σ' H' c ρ' (SR.pops (xs := hs) (ccs := hd.map C.v) (by simpa using hl) (SR.unrot (by simpa using hl) S')) q
  · refine .inl ⟨wk.stop H2 _ i dom dd (by omega), ?_⟩
    have ed : ds.drop i = [] := List.drop_eq_nil_of_le (by omega)
    rw [ed] at q2
    exact hE.nx σ2 H2 ρ2 (SR.pops (by simpa using hl) S2) q2
end
section
variable {X : Cx} {g : G} {W : WX} {tg iter : Expr} {body : List Stmt} {wi : WI} {wg : WG} {wb : WS} {T : List Nat} {pos : Pos}
theorem es_for (hp : PassesOwn (model X.prog X.w) X.A X.env X.xe) (hc : X.calm = true) (hi : EI X g W tg iter wi) (hg : EG X g tg T wg) (hb : EB X g W body wb) (hs : ∀ x, foldedSetIterable iter X.env x = pure x := by intro _; rfl) : ES X g W (.For tg iter body [] pos) (wFor wi wg wb) := by
  obtain ⟨t, p, s⟩ := hi.ex
  obtain ⟨t1, p1, s1⟩ := hg.ex
  obtain ⟨t2, p2, s2⟩ := hb.ex
  exact ⟨_, ps_for hp hc p p1 p2 hs, sem_for s s1 s2⟩
/-- while -/
@[reducible] def wWhile (wt : WT) (body : WS) : WS := fun DD ρ => ∃ I : Nat → Rho → Prop, (∃ m, I m ρ) ∧ ∀ m ρ, I m ρ →
  wt ρ (fun b ρ1 => if b = true then body ⟨fun ρ2 => ∃ m', m' < m ∧ I m' ρ2, DD.rt, DD.nx, fun ρ2 => ∃ m', m' < m ∧ I m' ρ2, DD.ex⟩ ρ1 else DD.nx ρ1) DD.ex
theorem es_while {c : Expr} {wt : WT} (hp : PassesOwn (model X.prog X.w) X.A X.env X.xe) (hc : ET X g W c wt) (hb : EB X g W body wb) : ES X g W (.While c body [] pos) (wWhile wt wb) := by
  obtain ⟨t, p, s⟩ := hc.ex
  obtain ⟨t2, p2, s2⟩ := hb.ex
  refine ⟨_, ps_while hp p p2, fun σ vs H ρ cs DD D hS hpl hw hE => ?_⟩
  obtain ⟨I, ⟨m0, i0⟩, turn⟩ := hw
  refine ⟨fun m σ H => ∃ ρ, SR X.K g σ vs H ρ cs ∧ I m ρ, ⟨m0, ρ, hS, i0⟩, ?_⟩
  rintro m σ1 H1 ⟨ρ1, S1, i1⟩
  refine s σ1 vs H1 ρ1 cs _ _ _ S1 (turn m ρ1 i1) (hE.ex σ1) fun b H2 ρ2 S2 q2 => ?_
  cases b with
  | false => exact hE.nx σ1 H2 ρ2 S2 q2
  | true =>
    refine ⟨fun σ' H' => ∃ m', m' < m ∧ ∃ ρ', SR X.K g σ' vs H' ρ' cs ∧ I m' ρ', fun σ' H' ⟨m', h1, h2⟩ => ⟨m', h1, h2⟩, ?_⟩
    exact s2 σ1 vs H2 ρ2 cs _ _ S2 hpl q2 ⟨fun σ' H' ρ' S' ⟨m', h1, h2⟩ => ⟨m', h1, ρ', S', h2⟩, fun σ' H' ρ' S' q => hE.nx σ' H' ρ' S' q, fun σ' H' ρ' S' ⟨m', h1, h2⟩ => ⟨m', h1, ρ', S', h2⟩, hE.rt, hE.ex⟩
end
end DL

set_option Elab.async false
set_option linter.all false
set_option maxRecDepth 100000
set_option maxHeartbeats 4000000
/-! DL, a def keeps its promise; what is walked; comprehensions. -/
namespace DL
open PySem PySem.Spec PyProof.Rows L2

/-- what own parameters hold at a def's end -/
@[reducible] def back1 : C → Option C → C
  | .own t _, some (.own t' o') => if t' = t then .own t o' else .no
  | .own _ _, _ => .no
  | a, _ => a
@[reducible] def backs : List C → Rho → List C
  | [], _ => []
  | a :: as, [] => back1 a none :: backs as []
  | a :: as, c :: ρ => back1 a (some c) :: backs as ρ
@[reducible] def startD (n : Nat) (as : List C) : Rho := as ++ List.replicate (n - as.length) .no
section
variable {K : PySem.W.Frag} {g : G}
theorem backs_foot : ∀ {us : List (Option V)} {as : List C} {ρ : Rho}, us.length = as.length → (foot us (backs as ρ)).Sublist (foot us as)
  | [], [], ρ, _ => by cases ρ <;> exact List.Sublist.refl _
  | u :: us, a :: as, [], h => by
    have ih := backs_foot (us := us) (as := as) (ρ := []) (by simpa using h)
    have no : (foot (u :: us) (.no :: backs as [])).Sublist (foot (u :: us) (a :: as)) := by
      show (footC u .no ++ foot us (backs as [])).Sublist (footC u a ++ foot us as)
      rw [footC_no]
      exact (List.nil_sublist _).append ih
    have same : (foot (u :: us) (a :: backs as [])).Sublist (foot (u :: us) (a :: as)) := ih.append_left _
    cases a with
    | own t o => exact no
    | _ => exact same
  | u :: us, a :: as, c :: ρ, h => by
    have ih := backs_foot (us := us) (as := as) (ρ := ρ) (by simpa using h)
    have no : (foot (u :: us) (.no :: backs as ρ)).Sublist (foot (u :: us) (a :: as)) := by
      show (footC u .no ++ foot us (backs as ρ)).Sublist (footC u a ++ foot us as)
      rw [footC_no]
      exact (List.nil_sublist _).append ih
    have same : (foot (u :: us) (a :: backs as ρ)).Sublist (foot (u :: us) (a :: as)) := ih.append_left _
    cases a with
    | own t o =>
      cases c with
      | own t' o' =>
        show (foot (u :: us) ((if t' = t then C.own t o' else .no) :: backs as ρ)).Sublist _
        split
        · have e : footC u (.own t o') = footC u (.own t o) := by
            cases u with
            | none => rfl
            | some x => cases x <;> rfl
          show (footC u (.own t o') ++ foot us (backs as ρ)).Sublist _
          rw [e]
          exact same
        · exact no
      | _ => exact no
    | _ => exact same
  | [], _ :: _, _, h => by simp at h
  | _ :: _, [], _, h => by simp at h
/-- at a def's end: the parameters as they were, their own objects as they are -/
theorem SR.leave {H H' : Hp} {us : L2.St} {as : List C} {σ' : L2.St} {v : List V} {c : List C} {ρ' : Rho} (h : SR K g us [] H as []) (hH : g.H0 = H) (hO : g.Oa = foot us as) (h' : SR K g σ' v H' ρ' c) (hok : ∀ q ∈ c, q.ok = true) : SR K g us v H' (backs as ρ') c ∧ ∀ a ∈ foot us (backs as ρ'), a ∈ foot σ' ρ' := by
  have hlen := h.len
  -- an own parameter that is still there stands where it stood
  have own : ∀ (k : Nat) (us0 : List (Option V)) (as0 : List C) (σ0 : List (Option V)) (ρ0 : Rho), us0.length = as0.length → RCs K g [] (hide H (tot us [] as [] ++ g.P0)) H us0 as0 → RCs K g [] (hide H' (tot σ' v ρ' c ++ g.P0)) H' σ0 ρ0 →
      (∀ a ∈ foot us0 (backs as0 ρ0), a ∈ foot σ0 ρ0) ∧ ∀ (B : Hp), Same (hide H' (tot σ' v ρ' c ++ g.P0)) B → Same (hide H (tot us [] as [] ++ g.P0)) B → RCs K g [] B H' us0 (backs as0 ρ0) := by
    intro k us0
    induction us0 with
    | nil =>
      intro as0 σ0 ρ0 hl _ _
      cases as0 with
      | nil => refine ⟨fun a q => ?_, fun B _ _ => ?_⟩ <;> cases ρ0 <;> first | exact trivial | (simp [backs, foot] at q)
      | cons _ _ => simp at hl
    | cons u us0 ih =>
      intro as0 σ0 ρ0 hl r1 r2
      cases as0 with
      | nil => simp at hl
      | cons a as0 =>
        cases ρ0 with
        | nil =>
          obtain ⟨i1, i2⟩ := ih as0 [] [] (by simpa using hl) r1.2 trivial
          have no : (∀ b ∈ foot (u :: us0) (.no :: backs as0 []), b ∈ foot σ0 ([] : List C)) ∧ ∀ (B : Hp), Same (hide H' (tot σ' v ρ' c ++ g.P0)) B → Same (hide H (tot us [] as [] ++ g.P0)) B → RCs K g [] B H' (u :: us0) (.no :: backs as0 []) := by
            refine ⟨fun b q => ?_, fun B h1 h2 => ⟨trivial, i2 B h1 h2⟩⟩
            rcases List.mem_append.mp (show b ∈ footC u .no ++ foot us0 (backs as0 []) from q) with z | z
            · rw [footC_no] at z; simp at z
            · have q := i1 b z
              simp [foot] at q
          have same : (∀ t o, a ≠ .own t o) → (∀ b ∈ foot (u :: us0) (a :: backs as0 []), b ∈ foot σ0 ([] : List C)) ∧ ∀ (B : Hp), Same (hide H' (tot σ' v ρ' c ++ g.P0)) B → Same (hide H (tot us [] as [] ++ g.P0)) B → RCs K g [] B H' (u :: us0) (a :: backs as0 []) := by
            intro ha
            refine ⟨fun b q => ?_, fun B h1 h2 => ⟨?_, i2 B h1 h2⟩⟩
            · rcases List.mem_append.mp (show b ∈ footC u a ++ foot us0 (backs as0 []) from q) with z | z
              · cases a with
                | own t o => exact absurd rfl (ha t o)
                | _ => cases u with
                  | none => simp [footC] at z
                  | some x => cases x <;> simp [footC] at z
              · have q := i1 b z
                simp [foot] at q
            · cases a with
              | own t o => exact absurd rfl (ha t o)
              | no => trivial
              | v d => obtain ⟨x, e, q⟩ := r1.1; exact ⟨x, e, dp_mono h2 _ _ q⟩
              | pk i => exact r1.1
              | ln i => exact r1.1
          cases a with
          | own t o => exact no
          | _ => exact same fun t o z => by cases z
        | cons c0 ρ0 =>
          cases σ0 with
          | nil => exact r2.elim
          | cons s0 σ0 =>
            obtain ⟨i1, i2⟩ := ih as0 σ0 ρ0 (by simpa using hl) r1.2 r2.2
            have no : (∀ b ∈ foot (u :: us0) (.no :: backs as0 ρ0), b ∈ foot (s0 :: σ0) (c0 :: ρ0)) ∧ ∀ (B : Hp), Same (hide H' (tot σ' v ρ' c ++ g.P0)) B → Same (hide H (tot us [] as [] ++ g.P0)) B → RCs K g [] B H' (u :: us0) (.no :: backs as0 ρ0) := by
              refine ⟨fun b q => ?_, fun B h1 h2 => ⟨trivial, i2 B h1 h2⟩⟩
              rcases List.mem_append.mp (show b ∈ footC u .no ++ foot us0 (backs as0 ρ0) from q) with z | z
              · rw [footC_no] at z; simp at z
              · exact List.mem_append_right _ (i1 b z)
            have same : (∀ t o, a ≠ .own t o) → (∀ b ∈ foot (u :: us0) (a :: backs as0 ρ0), b ∈ foot (s0 :: σ0) (c0 :: ρ0)) ∧ ∀ (B : Hp), Same (hide H' (tot σ' v ρ' c ++ g.P0)) B → Same (hide H (tot us [] as [] ++ g.P0)) B → RCs K g [] B H' (u :: us0) (a :: backs as0 ρ0) := by
              intro ha
              refine ⟨fun b q => ?_, fun B h1 h2 => ⟨?_, i2 B h1 h2⟩⟩
              · rcases List.mem_append.mp (show b ∈ footC u a ++ foot us0 (backs as0 ρ0) from q) with z | z
                · cases a with
                  | own t o => exact absurd rfl (ha t o)
                  | _ => cases u with
                    | none => simp [footC] at z
                    | some x => cases x <;> simp [footC] at z
                · exact List.mem_append_right _ (i1 b z)
              · cases a with
                | own t o => exact absurd rfl (ha t o)
                | no => trivial
                | v d => obtain ⟨x, e, q⟩ := r1.1; exact ⟨x, e, dp_mono h2 _ _ q⟩
                | pk i => exact r1.1
                | ln i => exact r1.1
            cases a with
            | own t o =>
              cases c0 with
              | own t' o' =>
                by_cases et : t' = t
                · have e : backs (.own t o :: as0) (.own t' o' :: ρ0) = .own t o' :: backs as0 ρ0 := by
                    show (if t' = t then C.own t o' else .no) :: backs as0 ρ0 = _
                    rw [if_pos et]
                  rw [e]
                  subst et
                  obtain ⟨b1, e1, _, p1, p2⟩ := r1.1
                  obtain ⟨b2, e2, o2, p3, p4⟩ := r2.1
                  have tn : t' ≠ 0 := fun z => by
                    have q := p2 z
                    have q2 := r1.1
                    obtain ⟨b3, e3, o3, _⟩ := q2
                    obtain ⟨u3, o4⟩ := o3.there
                    rw [e1] at e3; cases e3
                    rw [hH] at q
                    rw [q] at o4; cases o4
                  have eb : b1 = b2 := (p1 tn).symm.trans (p3 tn)
                  subst eb
                  subst e1; subst e2
                  refine ⟨fun b q => ?_, fun B h1 h2 => ⟨⟨b1, rfl, o2.mono h1 fun _ q => q, p3, p4⟩, i2 B h1 h2⟩⟩
                  rcases List.mem_append.mp (show b ∈ footC (some (.ref b1)) (.own t' o') ++ foot us0 (backs as0 ρ0) from q) with z | z
                  · exact List.mem_append_left _ z
                  · exact List.mem_append_right _ (i1 b z)
                · have e : backs (.own t o :: as0) (.own t' o' :: ρ0) = .no :: backs as0 ρ0 := by
                    show (if t' = t then C.own t o' else .no) :: backs as0 ρ0 = _
                    rw [if_neg et]
                  rw [e]
                  exact no
              | _ => exact no
            | _ => exact same fun t o z => by cases z
  obtain ⟨o1, o2⟩ := own 0 us as σ' ρ' hlen h.sl h'.sl
  have sub : ∀ a ∈ tot us v (backs as ρ') c, a ∈ tot σ' v ρ' c := fun a q => by
    rcases List.mem_append.mp q with z | z
    · exact List.mem_append_left _ z
    · exact List.mem_append_right _ (o1 a z)
  have hB2 : Same (hide H (tot us [] as [] ++ g.P0)) (hide H' (tot us v (backs as ρ') c ++ g.P0)) := fun a o e => by
    obtain ⟨h1, h2⟩ := hide_some.mp e
    have nO : a ∉ g.Oa := fun z => h1 (List.mem_append_left _ (List.mem_append_right _ (by rw [← hO]; exact z)))
    have e0 : g.H0 a = some o := by rw [hH]; exact h2
    refine hide_some.mpr ⟨fun z => ?_, h'.fr a o e0 nO⟩
    rcases List.mem_append.mp z with z | z
    · rcases h'.nw a (sub a z) with q | q
      · exact nO q
      · rw [e0] at q; cases q
    · exact h1 (List.mem_append_right _ z)
  refine ⟨?_, o1⟩
  refine h'.gen (fun _ _ _ q => q) (fun _ o q => ⟨o, q⟩) (fun a q => .inl (sub a q)) ?_ (fun hB => o2 _ hB hB2) (fun hB => ?_) h'.pk
  · have n1 := h'.nd
    have n2 := h.nd
    obtain ⟨p1, p2, p3⟩ := List.nodup_append.mp n1
    refine List.nodup_append.mpr ⟨p1, (backs_foot hlen).nodup (List.nodup_append.mp n2).2.1, fun a q b z e => ?_⟩
    subst e
    exact p3 a q a (o1 a z) rfl
  · have q := RCs.mono (B' := hide H' (tot us v (backs as ρ') c ++ g.P0)) (H' := H') hB (fun _ _ _ q => q) h'.tp
    refine q.slots fun j z => ?_
    rcases z with z | z <;> cases hok _ z
end
section
variable {P : Program} {w : World} {K : PySem.W.Frag} {mg : Str → Option Value} {base : Heap} {x qual : Str} {params : Arguments} {body : List Stmt} {scope : Scope} {dvs : List V} {kws : List (Str × V)} {f : Addr} {fd : FuncData}
theorem start_SR {H : Hp} {vs : List V} {as : List C} {P : List Addr} {L : Nat → Bool} {n : Nat} {N : List Str} (hn : N.length = n) (h : SR K (mkG H vs as P L0) (vs.map some) [] H as []) : SR K ⟨H, tgOf vs, foot (vs.map some) as, P, L⟩ (L2.start N vs) [] H (startD n as) [] := by
  have h1 : SR K ⟨H, tgOf vs, foot (vs.map some) as, P, L⟩ (vs.map some) [] H as [] := h.setL rfl rfl rfl rfl fun i q => by simp at q
  have hl : vs.length = as.length := by have := h.len; simpa using this
  have e1 : ∀ n, foot (List.replicate n none) (List.replicate n C.no) = [] := fun n => by
    induction n with
    | zero => rfl
    | succ n ih => rw [List.replicate_succ, List.replicate_succ]; show footC none .no ++ foot _ _ = []; rw [ih]; rfl
  have en : N.length - vs.length = n - as.length := by omega
  have ft : foot (L2.start N vs) (startD n as) = foot (vs.map some) as := by
    unfold L2.start startD
    rw [foot_app (by simpa using hl), en, e1, List.append_nil]
  have ft2 : tot (L2.start N vs) [] (startD n as) [] = tot (vs.map some) [] as [] := by
    show foot _ _ ++ foot (L2.start N vs) (startD n as) = foot _ _ ++ _
    rw [ft]
  refine h1.gen (fun _ _ _ q => q) (fun _ o q => ⟨o, q⟩) (fun a q => .inl (by rw [ft2] at q; exact q)) (by rw [ft2]; exact h1.nd) (fun hB => ?_) (fun hB => trivial) (fun i q => by simp at q)
  unfold L2.start startD at hB ⊢
  rw [en] at hB ⊢
  refine RCs.app (h1.sl.mono hB fun _ _ _ q => q) ?_
  have go : ∀ (B : Hp) (m : Nat), RCs K ⟨H, tgOf vs, foot (vs.map some) as, P, L⟩ [] B H (List.replicate m none) (List.replicate m C.no) := fun B m => by
    induction m with
    | zero => trivial
    | succ m ih => exact ⟨trivial, ih⟩
  exact go _ _
/-- the ends of a def's body -/
abbrev bodyEnds (as : List C) (QD : C → List C → Prop) (ED : XD → List C → Prop) : EndsD := ⟨fun ρ => QD (.v .none) (backs as ρ), fun c ρ => c.ok = true ∧ QD c (backs as ρ), fun _ => False, fun _ => False, fun x ρ => ED x (backs as ρ)⟩
theorem body_ok {X : Cx} (hK : X.K = K) {N : List Str} {n : Nat} (hn : N.length = n) {Sd : SpD} {ww : WS} {L : Nat → Bool} {W : WX} {E : XK} (hE : ∀ cls d σ H, E cls d H → W cls d σ H)
    (hb : ∀ g : G, g.L = L → EB X g W body ww) (hw : ∀ as QD ED, Sd as QD ED → ww (bodyEnds as QD ED) (startD n as)) {vs : List V} {H : Hp} {Q : VK} (h : spOf K Sd vs H Q E) :
    ∃ t, PSs X body t ∧ t { nx := fun _ H' => Q .non H', rt := Q } (L2.start N vs) H := by
  subst hK
  obtain ⟨as, P, QD, ED, entry, sd, ret, exc⟩ := h
  obtain ⟨t, p, s⟩ := (hb ⟨H, tgOf vs, foot (vs.map some) as, P, L⟩ rfl).ex
  have e1 : SR X.K ⟨H, tgOf vs, foot (vs.map some) as, P, L⟩ (vs.map some) [] H as [] := entry.setL rfl rfl rfl rfl fun i q => by simp at q
  refine ⟨t, p, s (L2.start N vs) [] H (startD n as) [] _ _ (start_SR hn entry) (fun c q => by simp at q) (hw as QD ED sd) ⟨fun σ' H' ρ' S' q => ?_, fun _ _ _ _ q => q, fun _ _ _ _ q => q, fun v σ' H' c ρ' S' q => ?_, fun σ' y ρ' cls d H' S' xr ed => ?_⟩⟩
  · obtain ⟨S2, _⟩ := SR.leave e1 rfl rfl (SR.resV S' (Same.refl H') .non) (fun q hq => by first | (rw [List.mem_singleton.mp hq]; done) | (rw [List.mem_singleton.mp hq]; rfl))
    exact ret _ _ rfl q _ H' (S2.setL rfl rfl rfl rfl fun i z => by simp at z)
  · obtain ⟨S2, _⟩ := SR.leave e1 rfl rfl S' (fun z hz => by rw [List.mem_singleton.mp hz]; exact q.1)
    refine ret _ _ q.1 q.2 _ H' (S2.setL rfl rfl rfl rfl fun i z => ?_)
    have := q.1
    rcases z with z | z <;> (rw [← List.mem_singleton.mp z] at this; cases this)
  · obtain ⟨S2, o1⟩ := SR.leave e1 rfl rfl S' (fun q hq => by simp at hq)
    refine hE cls d σ' H' (exc y _ ed cls d H' (S2.setL rfl rfl rfl rfl fun i z => by simp at z) (XRep.mono (.inr fun a o e => ?_) xr))
    obtain ⟨h1, h2⟩ := hide_some.mp e
    refine hide_some.mpr ⟨fun z => h1 ?_, h2⟩
    rcases List.mem_append.mp z with z | z
    · refine List.mem_append_left _ ?_
      exact List.mem_append_right _ (o1 a z)
    · exact List.mem_append_right _ z
end
end DL

set_option Elab.async false
set_option linter.all false
set_option maxRecDepth 100000
set_option maxHeartbeats 4000000
/-! DL: what is walked; comprehensions; subscripts, slices, built-ins. -/
namespace DL
open PySem PySem.Spec PyProof.Rows L2

/-! ### a def -/
section
variable {P : Program} {w : World} {K : PySem.W.Frag} {mg : Str → Option Value} {base : Heap} {x qual : Str} {params : Arguments} {body : List Stmt} {scope : Scope} {dvs : List V} {kws : List (Str × V)} {f : Addr} {fd : FuncData}
/-- a def that lets no exception out -/
theorem fn0 {CX : CXT} {N ps : List Str} {n k : Nat} {Sd : SpD} {L : Nat → Bool} {ww : WS} (F : FunD K x qual params body scope dvs kws f fd) (S : FnScope N ps scope) (hn : N.length = n) (len : ∀ as QD ED, Sd as QD ED → as.length = ps.length)
    (hb : ∀ (cdv : Value) (A : Around) (outer : List Env) (s : Shared) (H : Hp) (E : XK), Room k (A.deeper (envOfC qual scope s.heap.objs.size f cdv)) → ∀ g : G, g.L = L → EB (cxOf CX P w K mg base N qual scope f cdv A outer s H E).nox g (fun _ _ _ _ => False) body ww)
    (hw : ∀ as QD ED, Sd as QD ED → ww (bodyEnds as QD fun _ _ => False) (startD n as)) : FnOk P w K mg base CX (k + 1) f fd ps (spOf K Sd) := by
  refine F.ok S (fun vs H Q E h => ?_) fun cdv A outer s H vs Q E hr h => ?_
  · obtain ⟨as, P, QD, ED, entry, sd, _⟩ := h
    have e := entry.len
    rw [List.length_map] at e
    rw [e, len as QD ED sd]
  · obtain ⟨as, P, QD, ED, entry, sd, ret, exc⟩ := h
    have h2 : spOf K (fun as QD ED' => ED' = (fun _ _ => False) ∧ ∃ ED, Sd as QD ED) vs H Q (fun _ _ _ => False) := ⟨as, P, QD, fun _ _ => False, entry, ⟨rfl, ED, sd⟩, ret, fun x rs z => z.elim⟩
    obtain ⟨t, p, q⟩ := body_ok (N := N) (X := (cxOf CX _ w K mg base N qual scope f cdv A outer s H E).nox) (K := K) rfl hn (W := fun _ _ _ _ => False) (E := fun _ _ _ => False) (fun _ _ _ _ z => z)
      (fun g hg => hb cdv A outer s H E hr g hg) (fun as' QD' ED' ⟨z1, ED2, z2⟩ => by rw [z1]; exact hw as' QD' ED2 z2) h2
    exact ⟨t, p.nox, q⟩
/-- a def that may let exceptions out -/
theorem fnX {N ps : List Str} {n k : Nat} {Sd : SpD} {L : Nat → Bool} {ww : WS} (F : FunD K x qual params body scope dvs kws f fd) (S : FnScope N ps scope) (hn : N.length = n) (len : ∀ as QD ED, Sd as QD ED → as.length = ps.length)
    (hb : ∀ (cdv : Value) (A : Around) (outer : List Env) (s : Shared) (H : Hp) (E : XK), Room k (A.deeper (envOfC qual scope s.heap.objs.size f cdv)) → ∀ g : G, g.L = L → EB (cxOf (L2.CX P w) P w K mg base N qual scope f cdv A outer s H E) g (fun cls d _ H => E cls d H) body ww)
    (hw : ∀ as QD ED, Sd as QD ED → ww (bodyEnds as QD ED) (startD n as)) : FnOk P w K mg base (L2.CX P w) (k + 1) f fd ps (spOf K Sd) := by
  refine F.ok S (fun vs H Q E h => ?_) fun cdv A outer s H vs Q E hr h => ?_
  · obtain ⟨as, P, QD, ED, entry, sd, _⟩ := h
    have e := entry.len
    rw [List.length_map] at e
    rw [e, len as QD ED sd]
  · exact body_ok (N := N) (X := cxOf (L2.CX P w) P w K mg base N qual scope f cdv A outer s H E) (K := K) rfl hn (W := fun cls d _ H => E cls d H) (E := E) (fun _ _ _ _ z => z) (fun g hg => hb cdv A outer s H E hr g hg) hw h
end

/-! ### what is walked -/
section
variable {K : PySem.W.Frag} {hs : List V} {hd ds : List D}
theorem walks_list {a : Addr} {ds : List D} : Walks K (Itl K a) [.ref a] [.list ds] ds := by
  have rd : ∀ {H : Hp} {O : List Addr}, DpAll K (hide H O) [V.ref a] [PyData.list ds] → ∃ xs, SqL K H a xs ∧ DpAll K (hide H O) xs ds := fun {H O} q => by
    cases q with
    | cons q _ =>
      cases q with
      | lst h1 h2 => exact ⟨_, Same.seq (fun b o e => (hide_some.mp e).2) h1, h2⟩
  refine ⟨fun H O i _ q hi => ?_, fun H O i y H' d _ q hy hd => ?_, fun H O i _ q hi => ?_⟩
  · obtain ⟨xs, h1, h2⟩ := rd q
    have hl : i < xs.length := by rw [DL.DpAll.len h2]; exact hi
    exact ⟨xs, xs[i], h1, List.getElem?_eq_getElem hl⟩
  · obtain ⟨xs, h1, h2⟩ := rd q
    obtain ⟨rfl, h3⟩ := hy
    obtain ⟨v, e1, e2⟩ := DL.DpAll.get h2 hd
    have e3 := h3 xs h1
    rw [e1] at e3
    cases e3
    exact ⟨Same.refl _, e2⟩
  · obtain ⟨xs, h1, h2⟩ := rd q
    exact ⟨xs, h1, by rw [DL.DpAll.len h2]; exact hi⟩
theorem walks_tup {a : Addr} {ds : List D} : Walks K (Itt K a) [.ref a] [.tuple ds] ds := by
  have rd : ∀ {H : Hp} {O : List Addr}, DpAll K (hide H O) [V.ref a] [PyData.tuple ds] → ∃ xs, SqT K H a xs ∧ DpAll K (hide H O) xs ds := fun {H O} q => by
    cases q with
    | cons q _ =>
      cases q with
      | tup h1 h2 => exact ⟨_, seqT_same (fun b o e => (hide_some.mp e).2) h1, h2⟩
  refine ⟨fun H O i _ q hi => ?_, fun H O i y H' d _ q hy hd => ?_, fun H O i _ q hi => ?_⟩
  · obtain ⟨xs, h1, h2⟩ := rd q
    have hl : i < xs.length := by rw [DL.DpAll.len h2]; exact hi
    exact ⟨xs, xs[i], h1, List.getElem?_eq_getElem hl⟩
  · obtain ⟨xs, h1, h2⟩ := rd q
    obtain ⟨rfl, h3⟩ := hy
    obtain ⟨v, e1, e2⟩ := DL.DpAll.get h2 hd
    have e3 := h3 xs h1
    rw [e1] at e3
    cases e3
    exact ⟨Same.refl _, e2⟩
  · obtain ⟨xs, h1, h2⟩ := rd q
    exact ⟨xs, h1, by rw [DL.DpAll.len h2]; exact hi⟩
def rangeD (lo : Int) (n : Nat) : List D := (List.range n).map fun (k : Nat) => PyData.int (lo + k)
theorem walks_range {lo : Int} {n : Nat} : Walks K (Itr lo n) [] [] (rangeD lo n) := by
  refine ⟨fun H O i _ q hi => ?_, fun H O i y H' d _ q hy hd => ?_, fun H O i _ q hi => ?_⟩
  · show i < n
    simpa [rangeD] using hi
  · obtain ⟨rfl, rfl⟩ := hy
    have hi : i < n := by
      have := (List.getElem?_eq_some_iff.mp hd).1
      simpa [rangeD] using this
    have e : (rangeD lo n)[i]? = some (.int (lo + i)) := by
      unfold rangeD
      rw [List.getElem?_map, List.getElem?_range hi]
      rfl
    rw [e] at hd
    cases hd
    exact ⟨Same.refl _, .int _⟩
  · show n ≤ i
    simpa [rangeD] using hi
def strD (x : Str) : List D := x.cps.toList.map fun c => PyData.str ⟨#[c]⟩
theorem walks_str {x : Str} : Walks K (Its x) [] [] (strD x) := by
  refine ⟨fun H O i _ q hi => ?_, fun H O i y H' d _ q hy hd => ?_, fun H O i _ q hi => ?_⟩
  · show i < x.cps.size
    simpa [strD] using hi
  · obtain ⟨rfl, c, e, rfl⟩ := hy
    have e2 : (strD x)[i]? = some (.str ⟨#[c]⟩) := by
      unfold strD
      rw [List.getElem?_map, Array.getElem?_toList, e]
      rfl
    rw [e2] at hd
    cases hd
    exact ⟨Same.refl _, .str _⟩
  · show x.cps.size ≤ i
    simpa [strD] using hi
end
/-- the items of a walked thing -/
@[reducible] def wIL (we : WE) : WI := fun ρ Q E => we ρ (fun c ρ1 => match frzC c with
  | .v (.list ds) => Q ds ρ1
  | _ => False) E
@[reducible] def wIT (we : WE) : WI := fun ρ Q E => we ρ (fun c ρ1 => match c with
  | .v (.tuple ds) => Q ds ρ1
  | _ => False) E
@[reducible] def wIS (we : WE) : WI := fun ρ Q E => we ρ (fun c ρ1 => match c with
  | .v (.str x) => Q (strD x) ρ1
  | _ => False) E
/-- range(j), range(i, j) -/
@[reducible] def wIR1 (wa : WA) : WI := fun ρ Q E => wa ρ (fun cs ρ1 => match cs with
  | [.v (.int j)] => (-(2 ^ 62) ≤ j ∧ j < 2 ^ 62) ∧ Q (rangeD 0 j.toNat) ρ1
  | _ => False) E
@[reducible] def wIR2 (wa : WA) : WI := fun ρ Q E => wa ρ (fun cs ρ1 => match cs with
  | [.v (.int i), .v (.int j)] => (-(2 ^ 62) ≤ i ∧ i < 2 ^ 62 ∧ -(2 ^ 62) ≤ j ∧ j < 2 ^ 62) ∧ Q (rangeD i (j - i).toNat) ρ1
  | _ => False) E
section
variable {X : Cx} {g : G} {W : WX} {tg e : Expr} {we : WE} {pos : Pos}
theorem ei_lst (h : EE X g W e we) : EI X g W tg e (wIL we) := by
  obtain ⟨t, p, s⟩ := h.ex
  refine ⟨_, pi_list p, fun σ vs H ρ cs QD ED R hS hw hX hQ => ?_⟩
  refine s σ vs H ρ cs _ ED _ hS hw hX fun x H1 c ρ1 S1 q1 => ?_
  split at q1
  · rename_i ds ec
    have S2 := S1.frzTop
    rw [ec] at S2
    have q := S2.top
    cases q with
    | lst h1 h2 =>
      rename_i a xs
      exact ⟨a, rfl, ⟨xs, Same.seq (fun b o e => (hide_some.mp e).2) h1⟩, hQ _ [.ref a] [.list ds] ds H1 ρ1 rfl S2 walks_list q1⟩
  · exact q1.elim
theorem ei_tup (h : EE X g W e we) : EI X g W tg e (wIT we) := by
  obtain ⟨t, p, s⟩ := h.ex
  refine ⟨_, pi_tup p, fun σ vs H ρ cs QD ED R hS hw hX hQ => ?_⟩
  refine s σ vs H ρ cs _ ED _ hS hw hX fun x H1 c ρ1 S1 q1 => ?_
  split at q1
  · rename_i ds
    have q := S1.top
    cases q with
    | tup h1 h2 =>
      rename_i a xs
      exact ⟨a, rfl, ⟨xs, seqT_same (fun b o e => (hide_some.mp e).2) h1⟩, hQ _ [.ref a] [.tuple ds] ds H1 ρ1 rfl S1 walks_tup q1⟩
  · exact q1.elim
theorem ei_str (h : EE X g W e we) : EI X g W tg e (wIS we) := by
  obtain ⟨t, p, s⟩ := h.ex
  refine ⟨_, pi_str p, fun σ vs H ρ cs QD ED R hS hw hX hQ => ?_⟩
  refine s σ vs H ρ cs _ ED _ hS hw hX fun x H1 c ρ1 S1 q1 => ?_
  split at q1
  · rename_i z
    have q := S1.top
    cases q
    exact ⟨z, rfl, hQ _ [] [] (strD z) H1 ρ1 rfl S1.pop walks_str q1⟩
  · exact q1.elim
theorem ei_range1 {a : Expr} {wa : WA} {p : Pos} (hg : Gl X "range") (hm : X.mg "range" = none) (ha : EA X g W [a] wa) (hs : starEach [a] X.env = [(false, eval a X.env)] := by rfl) : EI X g W tg (.Call (.Name "range" p) [a] [] pos) (wIR1 wa) := by
  obtain ⟨t, q, s⟩ := ha.ex
  refine ⟨_, pi_range1 hg hm q hs, fun σ vs H ρ cs QD ED R hS hw hX hQ => ?_⟩
  refine s σ vs H ρ cs _ ED _ hS hw hX fun xs H1 ccs ρ1 hl S1 q1 => ?_
  split at q1
  · rename_i j
    match xs, hl with
    | [x], _ =>
      have q := S1.top
      cases q
      exact ⟨j, rfl, q1.1.1, q1.1.2, hQ _ [] [] _ H1 ρ1 rfl S1.pop walks_range q1.2⟩
  · exact q1.elim
theorem ei_range2 {a b : Expr} {wa : WA} {p : Pos} (hg : Gl X "range") (hm : X.mg "range" = none) (ha : EA X g W [a, b] wa) (hs : starEach [a, b] X.env = [(false, eval a X.env), (false, eval b X.env)] := by rfl) (hs2 : starEach [b] X.env = [(false, eval b X.env)] := by rfl) : EI X g W tg (.Call (.Name "range" p) [a, b] [] pos) (wIR2 wa) := by
  obtain ⟨t, q, s⟩ := ha.ex
  refine ⟨_, pi_range2 hg hm q hs hs2, fun σ vs H ρ cs QD ED R hS hw hX hQ => ?_⟩
  refine s σ vs H ρ cs _ ED _ hS hw hX fun xs H1 ccs ρ1 hl S1 q1 => ?_
  split at q1
  · rename_i i j
    match xs, hl with
    | [x, y], _ =>
      have q := S1.top
      cases q
      have q2 := S1.pop.top
      cases q2
      exact ⟨i, j, rfl, q1.1, hQ _ [] [] _ H1 ρ1 rfl S1.pop.pop walks_range q1.2⟩
  · exact q1.elim
end

/-! ### comprehensions -/
@[reducible] def clr (T : List Nat) (ρ : Rho) : Rho := match T with
  | [] => ρ
  | i :: T => rset (clr T ρ) i .no
/-- [elt for target in items if test]: acc so far; what holds for the list -/
@[reducible] def lcK (T : List Nat) (wg : WG) (wt : WT) (we : WE) : List D → List D → Rho → (List D → Rho → Prop) → Prop
  | [], acc, ρ, k => k acc ρ
  | d :: ds, acc, ρ, k => wg d ρ fun ρ1 => wt ρ1 (fun b ρ2 => if b = true then we ρ2 (fun c ρ3 => match frzC c with
      | .v d' => lcK T wg wt we ds (acc ++ [d']) (clr T ρ3) k
      | _ => False) (fun _ _ => False) else lcK T wg wt we ds acc (clr T ρ2) k) (fun _ _ => False)
/-- what stood in the names of a comprehension comes back -/
def bring (ρ : Rho) : List Nat → Rho → Rho
  | [], ρ' => ρ'
  | i :: T, ρ' => rset (bring ρ T ρ') i (match rget ρ i with
    | .v d => .v d
    | _ => .no)
@[reducible] def wLc (T : List Nat) (wi : WI) (wg : WG) (wt : WT) (we : WE) : WE := fun ρ Q E => wi ρ (fun ds ρ1 => ds.length ≤ sizeLine ∧ lcK T wg wt we ds [] (clr T ρ1) fun acc ρ2 => Q (.own 0 (.lst acc)) (bring ρ1 T ρ2)) E
@[reducible] def wYes : WT := fun ρ Q _ => Q true ρ
structure ETs (X : Cx) (g : G) (W : WX) (ifs : List Expr) (w : WT) : Prop where
  ex : ∃ t, PTs X ifs t ∧ SemT X.K g W t w
theorem ets_nil {X : Cx} {g : G} {W : WX} : ETs X g W [] wYes := ⟨_, pts_nil, fun σ vs H ρ cs QD ED Q hS hw hX hQ => hQ true H ρ hS hw⟩
theorem ets_one {X : Cx} {g : G} {W : WX} {c : Expr} {wt : WT} (h : ET X g W c wt) : ETs X g W [c] wt := by
  obtain ⟨t, p, s⟩ := h.ex
  exact ⟨_, pts_one p, s⟩
/-- slots may change where nothing is held -/
theorem foot_agree : ∀ {σ σ' : List (Option V)} {ρ : Rho}, σ'.length = σ.length → (∀ j, rget ρ j ≠ .no → σ'[j]? = σ[j]?) → foot σ' ρ = foot σ ρ
  | [], [], _, _, _ => rfl
  | _ :: _, _ :: _, [], _, _ => rfl
  | v :: σ, v' :: σ', c :: ρ, hl, h => by
    have ih := foot_agree (σ := σ) (σ' := σ') (ρ := ρ) (by simpa using hl) fun j hj => by have := h (j + 1) hj; simpa using this
    have e : footC v' c = footC v c := by
      cases c with
      | no => rw [footC_no, footC_no]
      | _ =>
        have e1 := h 0 (fun z => by cases z)
        have e2 : v' = v := by simpa using e1
        rw [e2]
    show footC v' c ++ foot σ' ρ = footC v c ++ foot σ ρ
    rw [e, ih]
  | [], _ :: _, _, h, _ => by simp at h
  | _ :: _, [], _, h, _ => by simp at h
theorem RCs.agree {K : PySem.W.Frag} {g : G} {s : L2.St} {B H : Hp} : ∀ {σ σ' : List (Option V)} {ρ : Rho}, σ'.length = σ.length → (∀ j, rget ρ j ≠ .no → σ'[j]? = σ[j]?) → RCs K g s B H σ ρ → RCs K g s B H σ' ρ
  | [], [], _, _, _, h => h
  | _ :: _, _ :: _, [], _, _, h => h.elim
  | v :: σ, v' :: σ', c :: ρ, hl, h, r => by
    refine ⟨?_, RCs.agree (σ := σ) (σ' := σ') (ρ := ρ) (by simpa using hl) (fun j hj => by have := h (j + 1) hj; simpa using this) r.2⟩
    cases c with
    | no => trivial
    | _ =>
      have e1 := h 0 (fun z => by cases z)
      have e2 : v' = v := by simpa using e1
      rw [e2]
      exact r.1
  | [], _ :: _, _, h, _, _ => by simp at h
  | _ :: _, [], _, h, _, _ => by simp at h
section
variable {K : PySem.W.Frag} {g : G} {σ σ' : L2.St} {vs : List V} {H : Hp} {ρ : Rho} {cs : List C}
theorem SR.agree (h : SR K g σ vs H ρ cs) (hl : σ'.length = σ.length) (hj : ∀ j, rget ρ j ≠ .no → σ'[j]? = σ[j]?) (hp : ∀ j, (C.pk j ∈ cs ∨ C.ln j ∈ cs) → σ'[j]? = σ[j]?) : SR K g σ' vs H ρ cs := by
  have ft : tot σ' vs ρ cs = tot σ vs ρ cs := by
    show foot (vs.map some) cs ++ foot σ' ρ = _
    rw [foot_agree hl hj]
  exact h.gen (fun _ _ _ q => q) (fun _ o q => ⟨o, q⟩) (fun a q => .inl (by rw [ft] at q; exact q)) (by rw [ft]; exact h.nd) (fun hB => (h.sl.mono hB fun _ _ _ q => q).agree hl hj) (fun hB => (h.tp.mono hB fun _ _ _ q => q).slots hp) h.pk
theorem rget_rset_ne : ∀ {ρ : Rho} {i j : Nat} {c : C}, i ≠ j → rget (rset ρ i c) j = rget ρ j
  | [], _, _, _, _ => rfl
  | _ :: _, 0, 0, _, h => absurd rfl h
  | _ :: _, 0, _ + 1, _, _ => rfl
  | _ :: _, _ + 1, 0, _, _ => rfl
  | _ :: ρ, i + 1, j + 1, c, h => rget_rset_ne (ρ := ρ) (i := i) (j := j) (c := c) (fun e => h (by rw [e]))
theorem rget_over : ∀ {ρ : Rho} {i : Nat}, ρ.length ≤ i → rget ρ i = .no
  | [], _, _ => rfl
  | _ :: _, 0, h => by simp at h
  | _ :: ρ, i + 1, h => rget_over (ρ := ρ) (i := i) (by simpa using h)
theorem clr_len : ∀ {T : List Nat}, (clr T ρ).length = ρ.length
  | [] => rfl
  | i :: T => by show (rset (clr T ρ) i .no).length = _; rw [rset_len, clr_len]
theorem clr_in : ∀ {T : List Nat} {j : Nat}, j ∈ T → rget (clr T ρ) j = .no
  | i :: T, j, h => by
    show rget (rset (clr T ρ) i .no) j = .no
    by_cases e : i = j
    · subst e
      by_cases hl : i < ρ.length
      · exact rget_rset (by rw [clr_len]; exact hl)
      · exact rget_over (by rw [rset_len, clr_len]; omega)
    · rw [rget_rset_ne e]
      exact clr_in ((List.mem_cons.mp h).resolve_left fun z => e z.symm)
theorem SR.clrs (h : SR K g σ vs H ρ cs) : ∀ (T : List Nat), SR K g σ vs H (clr T ρ) cs
  | [] => h
  | i :: T => (SR.clrs h T).clear i
theorem wipe_get {T : List Nat} {j : Nat} (h : j ∉ T) : (wipe σ T)[j]? = σ[j]? := wipe_out h
/-- into the block, out of it -/
theorem SR.wiped {T : List Nat} (h : SR K g σ vs H ρ cs) (hT : ∀ j ∈ T, rget ρ j = .no) (hL : ∀ j ∈ T, g.L j = false) : SR K g (wipe σ T) vs H ρ cs :=
  h.agree (wipe_length σ T) (fun j hj => wipe_get fun z => hj (hT j z)) fun j hj => wipe_get fun z => by
    have := h.pk j hj
    rw [hL j z] at this; cases this
theorem wipe_in : ∀ {T : List Nat} {j : Nat}, j ∈ T → j < σ.length → (wipe σ T)[j]? = some none
  | i :: T, j, h, hl => by
    show ((wipe σ T).set i none)[j]? = some none
    by_cases e : i = j
    · subst e
      rw [List.getElem?_set_self (by rw [wipe_length]; exact hl)]
    · rw [List.getElem?_set_ne e]
      exact wipe_in ((List.mem_cons.mp h).resolve_left fun z => e z.symm) hl
theorem only_wipe {T : List Nat} (h : DL.Only T σ σ') : wipe σ' T = wipe σ T := by
  apply List.ext_getElem?
  intro j
  by_cases hj : j ∈ T
  · by_cases hl : j < σ.length
    · rw [wipe_in hj hl, wipe_in hj (by rw [h.1]; exact hl)]
    · rw [List.getElem?_eq_none (by rw [wipe_length, h.1]; omega), List.getElem?_eq_none (by rw [wipe_length]; omega)]
  · rw [wipe_get hj, wipe_get hj, h.2 j hj]
theorem wipe_wipe {T : List Nat} : wipe (wipe σ T) T = wipe σ T := only_wipe ⟨wipe_length σ T, fun j hj => wipe_get hj⟩
end
/-- data kept aside -/
def keptD (ρ : Rho) : List Nat → List D
  | [] => []
  | i :: T => (match rget ρ i with
    | .v d => d
    | _ => .none) :: keptD ρ T
section
variable {K : PySem.W.Frag} {g : G} {σ : L2.St} {vs : List V} {H : Hp} {ρ : Rho} {cs : List C}
theorem keptD_at (h : SR K g σ vs H ρ cs) : ∀ (T : List Nat), ∃ xs : List V, xs.length = (keptD ρ T).length ∧ DpAll K (hide H (tot σ vs ρ cs ++ g.P0)) xs (keptD ρ T) ∧ ∀ (k i : Nat) (d : D), T[k]? = some i → rget ρ i = .v d → ∃ x, xs[k]? = some x ∧ σ[i]? = some (some x)
  | [] => ⟨[], rfl, .nil, fun k i d e => by simp at e⟩
  | i :: T => by
    obtain ⟨xs, h1, h2, h3⟩ := keptD_at h T
    cases e : rget ρ i with
    | v d =>
      obtain ⟨x, e1, q⟩ := h.slot e
      have ek : keptD ρ (i :: T) = d :: keptD ρ T := by show (match rget ρ i with | .v d => d | _ => .none) :: _ = _; rw [e]
      rw [ek]
      refine ⟨x :: xs, by simp [h1], .cons q h2, fun k i' d' e2 e3 => ?_⟩
      cases k with
      | zero =>
        have e4 : i = i' := by simpa using e2
        subst e4
        exact ⟨x, rfl, e1⟩
      | succ k => obtain ⟨y, y1, y2⟩ := h3 k i' d' (by simpa using e2) e3; exact ⟨y, by simpa using y1, y2⟩
    | _ =>
      have ek : keptD ρ (i :: T) = .none :: keptD ρ T := by show (match rget ρ i with | .v d => d | _ => .none) :: _ = _; rw [e]
      rw [ek]
      refine ⟨.non :: xs, by simp [h1], .cons .non h2, fun k i' d' e2 e3 => ?_⟩
      cases k with
      | zero =>
        have e4 : i = i' := by simpa using e2
        subst e4
        rw [e] at e3; cases e3
      | succ k => obtain ⟨y, y1, y2⟩ := h3 k i' d' (by simpa using e2) e3; exact ⟨y, by simpa using y1, y2⟩
end
end DL

set_option Elab.async false
set_option linter.all false
set_option maxRecDepth 100000
set_option maxHeartbeats 4000000
/-! DL: comprehensions, own lists changed. -/
namespace DL
open PySem PySem.Spec PyProof.Rows L2

/-! ### one reading for a piece of syntax, whatever the context -/
def tOfE (K : PySem.W.Frag) (g : G) (W : WX) (w : WE) : TE := fun σ H Q => ∃ vs ρ cs QD ED, SR K g σ vs H ρ cs ∧ w ρ QD ED ∧ XEnds K g W σ ED ∧ ∀ v H' c ρ', SR K g σ (v :: vs) H' ρ' (c :: cs) → QD c ρ' → Q v H'
def tOfT (K : PySem.W.Frag) (g : G) (W : WX) (w : WT) : TT := fun σ H Q => ∃ vs ρ cs QD ED, SR K g σ vs H ρ cs ∧ w ρ QD ED ∧ XEnds K g W σ ED ∧ ∀ b H' ρ', SR K g σ vs H' ρ' cs → QD b ρ' → Q b H'
def tOfG (K : PySem.W.Frag) (g : G) (T : List Nat) (w : WG) : TG := fun x σ H Q => ∃ vs ρ cs d QD, SR K g σ (x :: vs) H ρ (.v d :: cs) ∧ (∀ j ∈ T, ∀ i, (C.pk i ∈ cs ∨ C.ln i ∈ cs) → i ≠ j) ∧ w d ρ QD ∧ ∀ σ' H' ρ', SR K g σ' vs H' ρ' cs → DL.Only T σ σ' → QD ρ' → Q σ' H'
section
variable {X : Cx} {g : G} {W : WX} {e : Expr} {ifs : List Expr} {T : List Nat}
theorem EE.can {w : WE} (h : EE X g W e w) : PE X e (tOfE X.K g W w) := by
  obtain ⟨t, p, s⟩ := h.ex
  exact ⟨fun pins sh σ H Q I ⟨vs, ρ, cs, QD, ED, hS, hw, hX, hQ⟩ => p.run pins sh σ H Q I (s σ vs H ρ cs QD ED Q hS hw hX hQ)⟩
theorem ETs.can {w : WT} (h : ETs X g W ifs w) : PTs X ifs (tOfT X.K g W w) := by
  obtain ⟨t, p, s⟩ := h.ex
  exact ⟨fun pins sh σ H Q I ⟨vs, ρ, cs, QD, ED, hS, hw, hX, hQ⟩ => p.run pins sh σ H Q I (s σ vs H ρ cs QD ED Q hS hw hX hQ)⟩
theorem EG.can {w : WG} (h : EG X g e T w) : PG X e (tOfG X.K g T w) := by
  obtain ⟨t, p, s⟩ := h.ex
  exact ⟨fun pins sh σ H x u Q I r ⟨vs, ρ, cs, d, QD, hS, hp, hw, hQ⟩ => p.run pins sh σ H x u Q I r (s σ vs H ρ cs x d QD Q hS hp hw hQ)⟩
end

section
variable {K : PySem.W.Frag} {g : G} {σ : L2.St} {vs : List V} {H H' : Hp} {ρ : Rho} {cs : List C}
/-- the own object at the top is changed -/
theorem SR.mutTop {a : Addr} {t : Nat} {o o' : OD} (h : SR K g σ (.ref a :: vs) H ρ (.own t o :: cs)) (keep : ∀ b u, b ≠ a → H b = some u → H' b = some u) (new : OwnAt K (hide H (tot σ (.ref a :: vs) ρ (.own t o :: cs) ++ g.P0)) H' a o') : SR K g σ (.ref a :: vs) H' ρ (.own t o' :: cs) := by
  obtain ⟨b, e, q1, q2, q3⟩ := h.tp.1
  cases e
  have nd := h.nd
  rw [foot_cons_own] at nd
  have na := (List.nodup_cons.mp nd).1
  refine h.gen (fun b u n q => keep b u (fun z => n (by rw [z]; exact List.mem_cons_self)) q) (fun b u q => ?_) (fun b q => .inl q) h.nd (fun hB => h.sl.mono hB fun b z u q => keep b u (fun e => na (by rw [← e]; exact List.mem_append_right _ z)) q) (fun hB => ?_) (fun j q => h.pk j ?_)
  · by_cases e : b = a
    · rw [e]; exact new.there
    · exact ⟨u, keep b u e q⟩
  · refine ⟨⟨a, rfl, new.mono hB fun _ q => q, q2, q3⟩, h.tp.2.mono hB fun b z u q => keep b u (fun e => na (by rw [← e]; exact List.mem_append_left _ z)) q⟩
  · simp only [List.mem_cons] at q ⊢
    rcases q with (z | z) | (z | z)
    · cases z
    · exact .inl (.inr z)
    · cases z
    · exact .inr (.inr z)
/-- a value below an own list is appended to it -/
theorem SR.appTop {a : Addr} {y : V} {d : D} {t : Nat} {ds : List D} (h : SR K g σ (y :: .ref a :: vs) H ρ (.v d :: .own t (.lst ds) :: cs)) : ∃ xs, H a = some (.lst xs) ∧ xs.length = ds.length ∧ SR K g σ (.ref a :: vs) (upd H a (.lst (xs ++ [y]))) ρ (.own t (.lst (ds ++ [d])) :: cs) := by
  have hy := h.top
  have h1 := h.pop
  obtain ⟨b, e, ⟨xs, q1, q2⟩, _⟩ := id h1.tp.1
  cases e
  refine ⟨xs, q1, DL.DpAll.len q2, h1.mutTop (fun b u n q => by rw [upd_ne n]; exact q) ⟨xs ++ [y], upd_same, ?_⟩⟩
  exact DL.DpAll.app q2 (.cons hy .nil)
theorem clr_none : ∀ {T : List Nat}, (∀ j ∈ T, rget ρ j = .no) → clr T ρ = ρ
  | [], _ => rfl
  | i :: T, h => by
    show rset (clr T ρ) i .no = ρ
    rw [clr_none fun j hj => h j (List.mem_cons_of_mem _ hj)]
    have go : ∀ (ρ : Rho) (i : Nat), rget ρ i = .no → rset ρ i .no = ρ := by
      intro ρ
      induction ρ with
      | nil => intro i _; rfl
      | cons c ρ ih =>
        intro i e
        cases i with
        | zero => have e' : c = .no := e; subst e'; rfl
        | succ i => show c :: rset ρ i .no = c :: ρ; rw [ih i e]
    exact go ρ i (h i List.mem_cons_self)
end
/-- what stood in a comprehension's names comes back -/
@[reducible] def back (ρ : Rho) : List Nat → Rho → Rho
  | [], ρ' => ρ'
  | i :: T, ρ' => back ρ T (rset ρ' i (match rget ρ i with
    | .v d => .v d
    | _ => .no))
section
variable {K : PySem.W.Frag} {g : G} {σ : L2.St} {vs : List V} {H H' : Hp} {ρ ρ0 : Rho} {cs : List C}
theorem SR.backs_ : ∀ {T : List Nat} {ks : List V} {ρ : Rho}, ks.length = (keptD ρ0 T).length → (∀ (k i : Nat) (d : D), T[k]? = some i → rget ρ0 i = .v d → ∃ x, ks[k]? = some x ∧ σ[i]? = some (some x)) → SR K g σ (ks ++ vs) H ρ ((keptD ρ0 T).map C.v ++ cs) → SR K g σ vs H (back ρ0 T ρ) cs
  | [], ks, ρ, hl, _, h => by
    cases ks with
    | nil => exact h
    | cons _ _ => simp [keptD] at hl
  | i :: T, ks, ρ, hl, hk, h => by
    cases ks with
    | nil => simp [keptD] at hl
    | cons x ks =>
      have hk' : ∀ (k j : Nat) (d : D), T[k]? = some j → rget ρ0 j = .v d → ∃ y, ks[k]? = some y ∧ σ[j]? = some (some y) := fun k j d e1 e2 => by
        obtain ⟨y, y1, y2⟩ := hk (k + 1) j d (by simpa using e1) e2
        exact ⟨y, by simpa using y1, y2⟩
      cases e : rget ρ0 i with
      | v d =>
        have ek : keptD ρ0 (i :: T) = d :: keptD ρ0 T := by show (match rget ρ0 i with | .v d => d | _ => .none) :: _ = _; rw [e]
        rw [ek] at h hl
        obtain ⟨y, y1, y2⟩ := hk 0 i d rfl e
        have e3 : x = y := by simpa using y1
        subst e3
        have hlt : i < ρ.length := by rw [← h.len]; exact (List.getElem?_eq_some_iff.mp y2).1
        have h1 : SR K g σ (x :: (ks ++ vs)) H (rset ρ i .no) (.v d :: ((keptD ρ0 T).map C.v ++ cs)) := h.clear i
        have h2 := h1.moveIn rfl y2 (rget_rset hlt)
        rw [rset_rset] at h2
        show SR K g σ vs H (back ρ0 T (rset ρ i (match rget ρ0 i with | .v d => .v d | _ => .no))) cs
        rw [e]
        exact SR.backs_ (by simpa using hl) hk' h2
      | _ =>
        have ek : keptD ρ0 (i :: T) = .none :: keptD ρ0 T := by show (match rget ρ0 i with | .v d => d | _ => .none) :: _ = _; rw [e]
        rw [ek] at h hl
        have h1 : SR K g σ (ks ++ vs) H (rset ρ i .no) ((keptD ρ0 T).map C.v ++ cs) := (SR.pop (x := x) (c := .v .none) h).clear i
        show SR K g σ vs H (back ρ0 T (rset ρ i (match rget ρ0 i with | .v d => .v d | _ => .no))) cs
        rw [e]
        exact SR.backs_ (by simpa using hl) hk' h1
end
theorem SR.midV {K : PySem.W.Frag} {g : G} {σ : L2.St} {vs xs hs : List V} {H : Hp} {ρ : Rho} {cs ccs : List C} {hd : List D} (hl : xs.length = ccs.length) (hh : hs.length = hd.length) (h : SR K g σ (xs ++ (hs ++ vs)) H ρ (ccs ++ (hd.map C.v ++ cs))) :
    DpAll K (hide H (tot σ (xs ++ (hs ++ vs)) ρ (ccs ++ (hd.map C.v ++ cs)) ++ g.P0)) hs hd := by
  have tp := h.tp
  rw [List.map_append, List.map_append] at tp
  have q := (RCs.split (by simpa using hh) (RCs.split (by simpa using hl) tp).2).1
  revert q
  generalize hide H _ = B
  intro q
  clear tp h
  induction hs generalizing hd with
  | nil => cases hd with
    | nil => exact .nil
    | cons _ _ => simp at hh
  | cons x hs ih => cases hd with
    | nil => simp at hh
    | cons d hd =>
      obtain ⟨⟨y, e, q1⟩, q2⟩ := q
      cases e
      exact .cons q1 (ih (by simpa using hh) q2)
@[reducible] def wLcB (T : List Nat) (wi : WI) (wg : WG) (wt : WT) (we : WE) : WE := fun ρ Q E => wi ρ (fun ds ρ1 => ds.length ≤ sizeLine ∧ lcK T wg wt we ds [] (clr T ρ1) fun acc ρ2 => Q (.own 0 (.lst acc)) (back ρ1 T ρ2)) E
abbrev W0 : WX := fun _ _ _ _ => False
section
variable {K : PySem.W.Frag} {g : G} {W : WX} {T : List Nat} {ti : TI} {wi : WI} {wg : WG} {wt : WT} {we : WE}
theorem sem_lc (hL : ∀ j ∈ T, g.L j = false) (hi : SemI K g W ti wi) : Sem K g W (tLc ti (tOfG K g T wg) (tOfT K g W0 wt) (tOfE K g W0 we) T) (wLcB T wi wg wt we) := by
  intro σ vs H ρ cs QD ED Q hS hw hX hQ
  refine hi σ vs H ρ cs _ ED _ hS hw hX fun J hs hd ds H1 ρ1 hl S1 wk ⟨hlen, q1⟩ D nD => ?_
  obtain ⟨ks, k1, k2, k3⟩ := keptD_at S1 T
  have S2 : SR K g σ (ks ++ (hs ++ vs)) H1 ρ1 ((keptD ρ1 T).map C.v ++ (hd.map C.v ++ cs)) := S1.pushAll k2
  have S3 := S2.clrs T
  have S4 := S3.wiped (T := T) (fun j hj => clr_in hj) hL
  have S5 : SR K g (wipe σ T) (.ref D :: (ks ++ (hs ++ vs))) (upd H1 D (.lst [])) (clr T ρ1) (.own 0 (.lst []) :: ((keptD ρ1 T).map C.v ++ (hd.map C.v ++ cs))) := SR.res S4 (same_new nD) (new_lst nD .nil)
  refine ⟨fun i m H => m = ds.length - i ∧ ∃ acc ρ', SR K g (wipe σ T) (.ref D :: (ks ++ (hs ++ vs))) H ρ' (.own 0 (.lst acc) :: ((keptD ρ1 T).map C.v ++ (hd.map C.v ++ cs))) ∧ (∀ j ∈ T, rget ρ' j = .no) ∧ acc.length ≤ i ∧ lcK T wg wt we (ds.drop i) acc ρ' fun acc ρ2 => QD (.own 0 (.lst acc)) (back ρ1 T ρ2),
    ⟨ds.length, by simp, [], clr T ρ1, S5, fun j hj => clr_in hj, Nat.zero_le _, by simpa using q1⟩, ?_⟩
  rintro i m H2 ⟨rfl, acc, ρ2, S6, hno, hacc, q6⟩
  have hlk : ks.length = ((keptD ρ1 T).map C.v).length := by simpa using k1
  have hlh : hs.length = (hd.map C.v).length := by simpa using hl
  have S7 : SR K g (wipe σ T) (hs ++ vs) H2 ρ2 (hd.map C.v ++ cs) := SR.pops hlk S6.pop
  have dd := SR.tops hl S7
  have dom := (SR.pops hlh S7).domO
  by_cases hlt : i < ds.length
  · refine .inr ⟨wk.go H2 _ i dom dd hlt, fun H' => ∃ acc ρ', SR K g (wipe σ T) (.ref D :: (ks ++ (hs ++ vs))) H' ρ' (.own 0 (.lst acc) :: ((keptD ρ1 T).map C.v ++ (hd.map C.v ++ cs))) ∧ (∀ j ∈ T, rget ρ' j = .no) ∧ acc.length ≤ i + 1 ∧ lcK T wg wt we (ds.drop (i + 1)) acc ρ' fun acc ρ2 => QD (.own 0 (.lst acc)) (back ρ1 T ρ2),
      fun H' q => ⟨ds.length - (i + 1), by omega, rfl, q⟩, fun x H3 y => ?_⟩
    have ed : ds.drop i = ds[i] :: ds.drop (i + 1) := List.drop_eq_getElem_cons hlt
    rw [ed] at q6
    obtain ⟨sm, dx⟩ := wk.yld H2 _ i x H3 ds[i] dom dd y (List.getElem?_eq_getElem hlt)
    have dd2 := SR.midV (xs := .ref D :: ks) (ccs := .own 0 (.lst acc) :: (keptD ρ1 T).map C.v) (by simp [k1]) hl S6
    have dx2 := (wk.yld H2 _ i x H3 ds[i] S6.domO dd2 y (List.getElem?_eq_getElem hlt)).2
    have S9 : SR K g (wipe σ T) (x :: .ref D :: (ks ++ (hs ++ vs))) H3 ρ2 (.v ds[i] :: .own 0 (.lst acc) :: ((keptD ρ1 T).map C.v ++ (hd.map C.v ++ cs))) := SR.resV S6 sm dx2
    have noX : ∀ σ', XEnds K g W0 σ' (fun _ _ => False) := fun σ' _ _ _ _ _ _ _ z => z
    -- a turn's end
    have turn : ∀ {σ2 : L2.St} {H' : Hp} {ρ' : Rho} {acc' : List PyData}, DL.Only T (wipe σ T) σ2 → SR K g σ2 (.ref D :: (ks ++ (hs ++ vs))) H' ρ' (.own 0 (.lst acc') :: ((keptD ρ1 T).map C.v ++ (hd.map C.v ++ cs))) → acc'.length ≤ i + 1 → lcK T wg wt we (ds.drop (i + 1)) acc' (clr T ρ') (fun acc ρ2 => QD (.own 0 (.lst acc)) (back ρ1 T ρ2)) →
        ∃ acc ρ', SR K g (wipe σ T) (.ref D :: (ks ++ (hs ++ vs))) H' ρ' (.own 0 (.lst acc) :: ((keptD ρ1 T).map C.v ++ (hd.map C.v ++ cs))) ∧ (∀ j ∈ T, rget ρ' j = .no) ∧ acc.length ≤ i + 1 ∧ lcK T wg wt we (ds.drop (i + 1)) acc ρ' fun acc ρ2 => QD (.own 0 (.lst acc)) (back ρ1 T ρ2) := by
      intro σ2 H' ρ' acc' on S hle q
      have S' := (S.clrs T).wiped (T := T) (fun j hj => clr_in hj) hL
      rw [only_wipe on, wipe_wipe] at S'
      exact ⟨acc', clr T ρ', S', fun j hj => clr_in hj, hle, q⟩
    refine ⟨_, ρ2, _, ds[i], _, S9, fun j hj k q e => ?_, q6, fun σ2 H4 ρ4 S10 on q10 => ⟨by rw [only_wipe on, wipe_wipe], _, ρ4, _, _, fun _ _ => False, S10, q10, noX σ2, fun b H5 ρ5 S11 q11 => ?_⟩⟩
    · have q' := S6.pk k q
      rw [e, hL j hj] at q'; cases q'
    · cases b with
      | false =>
        rw [if_neg Bool.false_ne_true] at q11 ⊢
        exact turn on S11 (by omega) q11
      | true =>
        rw [if_pos rfl] at q11 ⊢
        refine ⟨_, ρ5, _, _, fun _ _ => False, S11, q11, noX σ2, fun z H6 c ρ6 S12 q12 => ?_⟩
        split at q12
        · rename_i d' ec
          have S13 := S12.frzTop
          rw [ec] at S13
          obtain ⟨zs, e1, e2, S14⟩ := S13.appTop
          exact ⟨zs, e1, by omega, turn on S14 (by simp; omega) q12⟩
        · exact q12.elim
  · refine .inl ⟨wk.stop H2 _ i dom dd (by omega), ?_⟩
    have ed : ds.drop i = [] := List.drop_eq_nil_of_le (by omega)
    rw [ed] at q6
    have S8 : SR K g σ (.ref D :: (ks ++ (hs ++ vs))) H2 ρ2 (.own 0 (.lst acc) :: ((keptD ρ1 T).map C.v ++ (hd.map C.v ++ cs))) := by
      refine S6.agree (wipe_length σ T).symm (fun j hj => (wipe_get fun z => hj (hno j z)).symm) fun j hj => (wipe_get fun z => ?_).symm
      have q' := S6.pk j hj
      rw [hL j z] at q'; cases q'
    have S9 : SR K g σ (ks ++ .ref D :: (hs ++ vs)) H2 ρ2 ((keptD ρ1 T).map C.v ++ .own 0 (.lst acc) :: (hd.map C.v ++ cs)) := SR.unrot hlk S8
    have S10 := SR.backs_ k1 k3 S9
    exact hQ (.ref D) H2 _ _ (SR.unCall hlh S10) q6
end
section
variable {X : Cx} {g : G} {W : WX} {elt tg iter : Expr} {ifs : List Expr} {scope : Scope} {own : List (Str × Nat)} {pos : Pos} {wi : WI} {wg : WG} {wt : WT} {we : WE}
theorem ee_lc (hc : X.calm = true) (hN : X.N.Nodup) (hL : ∀ j ∈ own.map (·.2), g.L j = false) (hi : EI X g W tg iter wi) (ok : BlkOk X.N X.env.scope scope own)
    (hg : ∀ (s : Shared) (H : Hp) (C : Addr) (cl : List (Str × Addr)) (fp : List Addr), EG (X.blk s H scope (compEnvC scope cl C X.env) fp) g tg (own.map (·.2)) wg)
    (ht : ∀ (s : Shared) (H : Hp) (C : Addr) (cl : List (Str × Addr)) (fp : List Addr), ETs (X.blk s H scope (compEnvC scope cl C X.env) fp) g W0 ifs wt)
    (he : ∀ (s : Shared) (H : Hp) (C : Addr) (cl : List (Str × Addr)) (fp : List Addr), EE (X.blk s H scope (compEnvC scope cl C X.env) fp) g W0 elt we) (hs : ∀ x, foldedSetIterable iter X.env x = pure x := by intro _; rfl) :
    EE X g W (.ListComp elt [⟨tg, iter, ifs, 0⟩] scope pos) (wLcB (own.map (·.2)) wi wg wt we) := by
  obtain ⟨t, p, s⟩ := hi.ex
  exact ⟨_, pe_lc hc hN p ok (fun s H C cl fp => (hg s H C cl fp).can) (fun s H C cl fp => (ht s H C cl fp).can) (fun s H C cl fp => (he s H C cl fp).can) hs, sem_lc hL s⟩
/-- name = [..] on one line -/
theorem es_setLc {i : Nat} {y : Str} {py spos : Pos} (hc : X.calm = true) (hN : X.N.Nodup) (hy : X.N[i]? = some y) (hyl : X.env.scope.names.lookup y = some .local) (hsw : swapsWith (.ListComp elt [⟨tg, iter, ifs, 0⟩] scope pos) (some (.Name y py)) spos.line X.env = pure true)
    (hL : ∀ j ∈ own.map (·.2), g.L j = false) (hi : EI X g W tg iter wi) (ok : BlkOk X.N X.env.scope scope own)
    (hg : ∀ (s : Shared) (H : Hp) (C : Addr) (cl : List (Str × Addr)) (fp : List Addr), EG (X.blk s H scope (compEnvC scope cl C X.env) fp) g tg (own.map (·.2)) wg)
    (ht : ∀ (s : Shared) (H : Hp) (C : Addr) (cl : List (Str × Addr)) (fp : List Addr), ETs (X.blk s H scope (compEnvC scope cl C X.env) fp) g W0 ifs wt)
    (he : ∀ (s : Shared) (H : Hp) (C : Addr) (cl : List (Str × Addr)) (fp : List Addr), EE (X.blk s H scope (compEnvC scope cl C X.env) fp) g W0 elt we) (hs : ∀ x, foldedSetIterable iter X.env x = pure x := by intro _; rfl) :
    ES X g W (.Assign [.Name y py] (.ListComp elt [⟨tg, iter, ifs, 0⟩] scope pos) spos) (wSet i (wLcB (own.map (·.2)) wi wg wt we)) := by
  obtain ⟨t, p, s⟩ := hi.ex
  exact ⟨_, ps_setLc hc hN hy hyl hsw p ok (fun s H C cl fp => (hg s H C cl fp).can) (fun s H C cl fp => (ht s H C cl fp).can) (fun s H C cl fp => (he s H C cl fp).can) hs, sem_set (sem_lc hL s)⟩
theorem es_setLcF {i : Nat} {y : Str} {py spos : Pos} (hc : X.calm = true) (hN : X.N.Nodup) (hy : X.N[i]? = some y) (hyl : X.env.scope.names.lookup y = some .local) (hsw : swapsWith (.ListComp elt [⟨tg, iter, ifs, 0⟩] scope pos) (some (.Name y py)) spos.line X.env = pure true)
    (hL : ∀ j ∈ own.map (·.2), g.L j = false) (hi : EI X g W tg iter wi) (ok : BlkOk X.N X.env.scope scope own)
    (hg : ∀ (s : Shared) (H : Hp) (C : Addr) (cl : List (Str × Addr)) (fp : List Addr), EG (X.blk s H scope (compEnvC scope cl C X.env) fp) g tg (own.map (·.2)) wg)
    (ht : ∀ (s : Shared) (H : Hp) (C : Addr) (cl : List (Str × Addr)) (fp : List Addr), ETs (X.blk s H scope (compEnvC scope cl C X.env) fp) g W0 ifs wt)
    (he : ∀ (s : Shared) (H : Hp) (C : Addr) (cl : List (Str × Addr)) (fp : List Addr), EE (X.blk s H scope (compEnvC scope cl C X.env) fp) g W0 elt we) (hs : ∀ x, foldedSetIterable iter X.env x = pure x := by intro _; rfl) :
    ES X g W (.Assign [.Name y py] (.ListComp elt [⟨tg, iter, ifs, 0⟩] scope pos) spos) (wSetF i (wLcB (own.map (·.2)) wi wg wt we)) := by
  obtain ⟨t, p, s⟩ := hi.ex
  exact ⟨_, ps_setLc hc hN hy hyl hsw p ok (fun s H C cl fp => (hg s H C cl fp).can) (fun s H C cl fp => (ht s H C cl fp).can) (fun s H C cl fp => (he s H C cl fp).can) hs, sem_setF (sem_lc hL s)⟩
end
end DL

set_option Elab.async false
set_option linter.all false
set_option maxRecDepth 100000
set_option maxHeartbeats 4000000
/-! DL: subscripts, slices, built-ins, own lists changed by statements. -/
namespace DL
open PySem PySem.Spec PyProof.Rows L2

/-! ### places -/
def optK {α : Type} (o : Option α) (k : α → Prop) : Prop := match o with
  | some a => k a
  | none => False
theorem optK_of {α : Type} {o : Option α} {k : α → Prop} {a : α} (e : o = some a) (h : k a) : optK o k := by subst e; exact h
theorem ifd {p A B : Prop} [Decidable p] (h : p → A) (h' : ¬ p → B) : if decide p = true then A else B := by
  by_cases q : p
  · rw [if_pos (decide_eq_true q)]; exact h q
  · rw [if_neg (by simp [q])]; exact h' q
theorem atI_0 {α : Type} {x : α} {xs : List α} : atI (x :: xs) 0 = some x := L2.atI_nat (j := 0) rfl
theorem atI_1 {α : Type} {x y : α} {xs : List α} : atI (x :: y :: xs) 1 = some y := L2.atI_nat (j := 1) rfl
theorem atI_2 {α : Type} {x y z : α} {xs : List α} : atI (x :: y :: z :: xs) 2 = some z := L2.atI_nat (j := 2) rfl
theorem atI_3 {α : Type} {x y z u : α} {xs : List α} : atI (x :: y :: z :: u :: xs) 3 = some u := L2.atI_nat (j := 3) rfl
theorem atI_4 {α : Type} {x y z u v : α} {xs : List α} : atI (x :: y :: z :: u :: v :: xs) 4 = some v := L2.atI_nat (j := 4) rfl
theorem atI_5 {α : Type} {x y z u v w : α} {xs : List α} : atI (x :: y :: z :: u :: v :: w :: xs) 5 = some w := L2.atI_nat (j := 5) rfl
@[simp] theorem optK_some {α : Type} {a : α} {k : α → Prop} : optK (some a) k = k a := rfl
@[reducible] def oIx : O2 := fun d1 d2 k => match d1, d2 with
  | .list ds, .int i => optK (atI ds i) fun d => k (.v d)
  | .tuple ds, .int i => optK (atI ds i) fun d => k (.v d)
  | .str z, .int i => z.length ≤ sizeLine ∧ optK (atI z.cps.toList i) fun c => k (.v (.str ⟨#[c]⟩))
  | _, _ => False
theorem atI_dp {K : PySem.W.Frag} {B : Hp} {xs : List V} {ds : List D} {i : Int} {d : D} (h : DpAll K B xs ds) (e : atI ds i = some d) : ∃ v, atI xs i = some v ∧ Dp K B v d := by
  unfold atI at e ⊢
  rw [DL.DpAll.len h]
  cases q : ixN ds.length i with
  | none => rw [q] at e; cases e
  | some j =>
    rw [q] at e
    exact DL.DpAll.get h e
theorem same_hide {H : Hp} {O : List Addr} : Same (hide H O) H := fun _ _ e => (hide_some.mp e).2
theorem lift_ix {K : PySem.W.Frag} : Lift2 K (rIx K) oIx := by
  intro O H x y dx dy QD Q _ hx hy q fin
  cases hx with
  | lst h1 h2 =>
    cases hy <;> try exact q.elim
    rename_i i
    revert q
    show optK _ _ → _
    intro q
    rename_i ds
    cases e : atI ds i with
    | none => rw [e] at q; exact q.elim
    | some d =>
      rw [e] at q
      obtain ⟨v, e1, e2⟩ := atI_dp h2 e
      exact .inl ⟨_, _, i, v, rfl, rfl, Same.seq same_hide h1, e1, fin v H (.v d) (Same.refl H) e2 q⟩
  | tup h1 h2 =>
    cases hy <;> try exact q.elim
    rename_i i
    rename_i ds
    cases e : atI ds i with
    | none =>
      have q' : optK (atI ds i) _ := q
      rw [e] at q'; exact q'.elim
    | some d =>
      have q' : optK (atI ds i) _ := q
      rw [e] at q'
      obtain ⟨v, e1, e2⟩ := atI_dp h2 e
      exact .inr (.inl ⟨_, _, i, v, rfl, rfl, seqT_same same_hide h1, e1, fin v H (.v d) (Same.refl H) e2 q'⟩)
  | str z =>
    cases hy <;> try exact q.elim
    rename_i i
    obtain ⟨hz, q⟩ := q
    cases e : atI z.cps.toList i with
    | none => rw [e] at q; exact q.elim
    | some c =>
      rw [e] at q
      exact .inr (.inr ⟨z, i, c, rfl, rfl, hz, e, fin _ H (.v _) (Same.refl H) (.str _) q⟩)
  | _ => exact q.elim
section
variable {X : Cx} {g : G} {W : WX} {a b : Expr} {wa wb : WE} {pos : Pos}
theorem ee_ix (ha : EE X g W a wa) (hb : EE X g W b wb) (hp : PlainIx b := by intro _ _; rfl) : EE X g W (.Subscript a b pos) (wB oIx wa wb) := by
  obtain ⟨ta, p1, s1⟩ := ha.ex
  obtain ⟨tb, p2, s2⟩ := hb.ex
  exact ⟨_, pe_ix ix_seq p1 p2 hp, sem_op lift_ix s1 s2⟩
end

/-! ### slices -/
@[reducible] def cutD (ds : List D) (lo hi : Option Int) : List D := (ds.drop (HT.sIx ds.length 0 lo)).take (HT.sIx ds.length ds.length hi - HT.sIx ds.length 0 lo)
theorem DpAll.cut {K : PySem.W.Frag} {B : Hp} {xs : List V} {ds : List D} (lo hi : Option Int) (h : DpAll K B xs ds) : DpAll K B (cutV xs lo hi) (cutD ds lo hi) := by
  unfold cutV cutD
  rw [DL.DpAll.len h]
  exact DL.DpAll.takeN _ (DL.DpAll.dropN _ h)
/-- a slice's parts: written ints or names, at most -/
abbrev WO := Rho → (Option Int → Rho → Prop) → KX → Prop
def SemO (K : PySem.W.Frag) (g : G) (W : WX) (t : TO) (w : WO) : Prop :=
  ∀ (σ : L2.St) (vs : List V) (H : Hp) (ρ : Rho) (cs : List C) (QD : Option Int → Rho → Prop) (ED : KX) (Q : Option Int → Hp → Prop), SR K g σ vs H ρ cs → w ρ QD ED → XEnds K g W σ ED →
    (∀ o H' ρ', SR K g σ vs H' ρ' cs → QD o ρ' → Q o H') → t σ H Q
structure EO (X : Cx) (g : G) (W : WX) (e : Option Expr) (w : WO) : Prop where
  ex : ∃ t, PO X e t ∧ SemO X.K g W t w
@[reducible] def wNoPart : WO := fun ρ Q _ => Q none ρ
@[reducible] def wPart (we : WE) : WO := fun ρ Q E => we ρ (fun c ρ1 => match c with
  | .v (.int i) => Q (some i) ρ1
  | _ => False) E
@[reducible] def oSl (lo hi : Option Int) : O1 := fun d k => match d with
  | .list ds => k (.own 0 (.lst (cutD ds lo hi)))
  | .tuple ds => k (.v (.tuple (cutD ds lo hi)))
  | .str z => z.length ≤ sizeLine ∧ k (.v (.str (cutS z lo hi)))
  | _ => False
@[reducible] def wSl (we : WE) (wl wh : WO) : WE := fun ρ Q E => we ρ (fun c ρ1 => wl ρ1 (fun lo ρ2 => wh ρ2 (fun hi ρ3 => use1 ρ3 c (oSl lo hi) Q) E) E) E
theorem cut_whole {xs : List V} {lo hi : Option Int} (h : HT.sIx xs.length 0 lo = 0 ∧ HT.sIx xs.length xs.length hi = xs.length) : cutV xs lo hi = xs := by
  unfold cutV
  rw [h.1, h.2]
  simp
theorem cutD_whole {xs : List D} {lo hi : Option Int} (h : HT.sIx xs.length 0 lo = 0 ∧ HT.sIx xs.length xs.length hi = xs.length) : cutD xs lo hi = xs := by
  unfold cutD
  rw [h.1, h.2]
  simp
theorem lift_sl {K : PySem.W.Frag} (lo hi : Option Int) : Lift1 K (fun x H Q => rSlL K x lo hi H Q ∨ (rSlA K x lo hi H Q ∨ rSlS x lo hi H Q)) (oSl lo hi) := by
  intro O H x dx QD Q hO hx q fin
  cases hx with
  | lst h1 h2 => exact .inl ⟨_, _, rfl, Same.seq same_hide h1, fun p n => fin _ _ (.own 0 (.lst _)) (same_new n) (new_lst n (DL.DpAll.cut lo hi h2)) q⟩
  | tup h1 h2 =>
    refine .inr (.inl ⟨_, _, rfl, seqT_same same_hide h1, fun z => ?_, fun z p n => ?_⟩)
    · refine fin _ H (.v _) (Same.refl H) ?_ q
      rw [DL.DpAll.len h2] at z
      rw [cutD_whole z]
      exact .tup h1 h2
    · exact fin _ _ (.v _) (same_new n) (new_tup n (fun z => by obtain ⟨u, e⟩ := hO p z; rw [n] at e; cases e) (DL.DpAll.cut lo hi h2)) q
  | str z => exact .inr (.inr ⟨z, rfl, q.1, fin _ H (.v _) (Same.refl H) (.str _) q.2⟩)
  | _ => exact q.elim
section
variable {X : Cx} {g : G} {W : WX} {e : Expr} {lo hi : Option Expr} {we : WE} {wl wh : WO} {pos p2 : Pos}
theorem eo_none : EO X g W none wNoPart := ⟨_, po_none, fun σ vs H ρ cs QD ED Q hS hw hX hQ => hQ none H ρ hS hw⟩
theorem eo_some (h : EE X g W e we) : EO X g W (some e) (wPart we) := by
  obtain ⟨t, p, s⟩ := h.ex
  refine ⟨_, po_some p, fun σ vs H ρ cs QD ED Q hS hw hX hQ => ?_⟩
  refine s σ vs H ρ cs _ ED _ hS hw hX fun x H1 c ρ1 S1 q1 => ?_
  split at q1
  · rename_i i
    have q := S1.top
    cases q
    exact ⟨i, rfl, hQ _ H1 ρ1 S1.pop q1⟩
  · exact q1.elim
theorem ee_sl (he : EE X g W e we) (hl : EO X g W lo wl) (hh : EO X g W hi wh) : EE X g W (.Subscript e (.Slice lo hi none p2) pos) (wSl we wl wh) := by
  obtain ⟨t, p, s⟩ := he.ex
  obtain ⟨t1, q1, s1⟩ := hl.ex
  obtain ⟨t2, q2, s2⟩ := hh.ex
  refine ⟨_, pe_slice (SlR.or sl_list (SlR.or sl_tupA sl_str)) p q1 q2, fun σ vs H ρ cs QD ED Q hS hw hX hQ => ?_⟩
  refine s σ vs H ρ cs _ ED _ hS hw hX fun x H1 c ρ1 S1 z1 => ?_
  refine s1 σ (x :: vs) H1 ρ1 (c :: cs) _ ED _ S1 z1 hX fun l H2 ρ2 S2 z2 => ?_
  refine s2 σ (x :: vs) H2 ρ2 (c :: cs) _ ED _ S2 z2 hX fun h H3 ρ3 S3 z3 => ?_
  exact S3.use1 (lift_sl l h) z3 fun v H' c S4 q4 => hQ v H' c ρ3 S4 q4
end

/-! ### built-ins over data -/
section
variable {K : PySem.W.Frag}
@[reducible] def oLen : OL := fun ds k => match ds with
  | [.str x] => x.length ≤ sizeLine ∧ k (.v (.int x.length))
  | [.list es] => k (.v (.int es.length))
  | [.tuple es] => k (.v (.int es.length))
  | _ => False
theorem lift_len : LiftL K (fun xs H Q => ∃ x n, xs = [x] ∧ LenV K x H n ∧ Q (.int n) H) oLen := by
  intro O H xs ds QD Q _ hx q fin
  unfold oLen at q
  split at q
  · rename_i z
    cases hx with
    | cons h1 h2 => cases h2; cases h1; exact ⟨_, _, rfl, ⟨q.1, rfl⟩, fin _ H (.v _) (Same.refl H) (.int _) q.2⟩
  · rename_i es
    cases hx with
    | cons h1 h2 =>
      cases h2
      cases h1 with
      | lst a1 a2 => exact ⟨_, _, rfl, .inl ⟨_, Same.seq same_hide a1, rfl⟩, fin _ H (.v _) (Same.refl H) (by rw [DL.DpAll.len a2]; exact .int _) q⟩
  · rename_i es
    cases hx with
    | cons h1 h2 =>
      cases h2
      cases h1 with
      | tup a1 a2 => exact ⟨_, _, rfl, .inr ⟨_, seqT_same same_hide a1, rfl⟩, fin _ H (.v _) (Same.refl H) (by rw [DL.DpAll.len a2]; exact .int _) q⟩
  · exact q.elim
@[reducible] def oMin2 : OL := fun ds k => match ds with
  | [.int i, .int j] => k (.v (.int (if j < i then j else i)))
  | _ => False
@[reducible] def oMax2 : OL := fun ds k => match ds with
  | [.int i, .int j] => k (.v (.int (if j > i then j else i)))
  | _ => False
@[reducible] def oAbs : OL := fun ds k => match ds with
  | [.int i] => k (.v (.int (if i < 0 then -i else i)))
  | _ => False
@[reducible] def oInt1 : OL := fun ds k => match ds with
  | [.int i] => k (.v (.int i))
  | [.bool b] => k (.v (.int (if b then 1 else 0)))
  | _ => False
theorem lift_min2 : LiftL K (fun xs H Q => ∃ i j, xs = [.int i, .int j] ∧ Q (.int (if j < i then j else i)) H) oMin2 := by
  intro O H xs ds QD Q _ hx q fin
  unfold oMin2 at q
  split at q
  · rename_i i j
    cases hx with
    | cons h1 h2 => cases h2 with
      | cons h2 h3 => cases h3; cases h1; cases h2; exact ⟨_, _, rfl, fin _ H (.v _) (Same.refl H) (.int _) q⟩
  · exact q.elim
theorem lift_max2 : LiftL K (fun xs H Q => ∃ i j, xs = [.int i, .int j] ∧ Q (.int (if j > i then j else i)) H) oMax2 := by
  intro O H xs ds QD Q _ hx q fin
  unfold oMax2 at q
  split at q
  · rename_i i j
    cases hx with
    | cons h1 h2 => cases h2 with
      | cons h2 h3 => cases h3; cases h1; cases h2; exact ⟨_, _, rfl, fin _ H (.v _) (Same.refl H) (.int _) q⟩
  · exact q.elim
theorem lift_abs : LiftL K (fun xs H Q => ∃ i, xs = [.int i] ∧ Q (.int (if i < 0 then -i else i)) H) oAbs := by
  intro O H xs ds QD Q _ hx q fin
  unfold oAbs at q
  split at q
  · rename_i i
    cases hx with
    | cons h1 h2 => cases h2; cases h1; exact ⟨_, rfl, fin _ H (.v _) (Same.refl H) (.int _) q⟩
  · exact q.elim
theorem lift_int1 : LiftL K (fun xs H Q => (∃ i, xs = [.int i] ∧ Q (.int i) H) ∨ ∃ k, xs = [.bl k] ∧ Q (.int (if k then 1 else 0)) H) oInt1 := by
  intro O H xs ds QD Q _ hx q fin
  unfold oInt1 at q
  split at q
  · rename_i i
    cases hx with
    | cons h1 h2 => cases h2; cases h1; exact .inl ⟨_, rfl, fin _ H (.v _) (Same.refl H) (.int _) q⟩
  · rename_i b
    cases hx with
    | cons h1 h2 => cases h2; cases h1; exact .inr ⟨_, rfl, fin _ H (.v _) (Same.refl H) (.int _) q⟩
  · exact q.elim
/-- a list of whole numbers, of truths, of texts -/
@[reducible] def intsOf : List D → Option (List Int)
  | [] => some []
  | .int i :: ds => (intsOf ds).map (i :: ·)
  | _ => none
@[reducible] def boolsOf : List D → Option (List Bool)
  | [] => some []
  | .bool i :: ds => (boolsOf ds).map (i :: ·)
  | _ => none
@[reducible] def strsOf : List D → Option (List Str)
  | [] => some []
  | .str i :: ds => (strsOf ds).map (i :: ·)
  | _ => none
@[simp] theorem intsOf_map : ∀ (ns : List Int), intsOf (ns.map PyData.int) = some ns
  | [] => rfl
  | n :: ns => by rw [List.map_cons, intsOf, intsOf_map]; rfl
@[simp] theorem boolsOf_map : ∀ (ns : List Bool), boolsOf (ns.map PyData.bool) = some ns
  | [] => rfl
  | n :: ns => by rw [List.map_cons, boolsOf, boolsOf_map]; rfl
@[simp] theorem strsOf_map : ∀ (ns : List Str), strsOf (ns.map PyData.str) = some ns
  | [] => rfl
  | n :: ns => by rw [List.map_cons, strsOf, strsOf_map]; rfl
theorem intsOf_dp {B : Hp} : ∀ {ds : List D} {xs : List V} {ns : List Int}, DpAll K B xs ds → intsOf ds = some ns → xs = ns.map V.int
  | [], _, _, h, e => by cases h; cases e; rfl
  | d :: ds, _, ns, h, e => by
    cases h with
    | cons h1 h2 =>
      cases d <;> try cases e
      rename_i i
      rw [intsOf] at e
      cases q : intsOf ds with
      | none => rw [q] at e; cases e
      | some ms => rw [q] at e; cases e; cases h1; rw [intsOf_dp h2 q]; rfl
theorem boolsOf_dp {B : Hp} : ∀ {ds : List D} {xs : List V} {ns : List Bool}, DpAll K B xs ds → boolsOf ds = some ns → xs = ns.map V.bl
  | [], _, _, h, e => by cases h; cases e; rfl
  | d :: ds, _, ns, h, e => by
    cases h with
    | cons h1 h2 =>
      cases d <;> try cases e
      rename_i i
      rw [boolsOf] at e
      cases q : boolsOf ds with
      | none => rw [q] at e; cases e
      | some ms => rw [q] at e; cases e; cases h1; rw [boolsOf_dp h2 q]; rfl
theorem strsOf_dp {B : Hp} : ∀ {ds : List D} {xs : List V} {ns : List Str}, DpAll K B xs ds → strsOf ds = some ns → xs = ns.map V.str
  | [], _, _, h, e => by cases h; cases e; rfl
  | d :: ds, _, ns, h, e => by
    cases h with
    | cons h1 h2 =>
      cases d <;> try cases e
      rename_i i
      rw [strsOf] at e
      cases q : strsOf ds with
      | none => rw [q] at e; cases e
      | some ms => rw [q] at e; cases e; cases h1; rw [strsOf_dp h2 q]; rfl
@[reducible] def oSum : OL := fun ds k => match ds with
  | [.list es] => optK (intsOf es) fun ns => k (.v (.int ns.sum))
  | _ => False
@[reducible] def oAll : OL := fun ds k => match ds with
  | [.list es] => optK (boolsOf es) fun bs => k (.v (.bool (bs.all id)))
  | _ => False
@[reducible] def oAny : OL := fun ds k => match ds with
  | [.list es] => optK (boolsOf es) fun bs => k (.v (.bool (bs.any id)))
  | _ => False
theorem lift_sum : LiftL K (rSum K) oSum := by
  intro O H xs ds QD Q _ hx q fin
  unfold oSum at q
  split at q
  · rename_i es
    cases hx with
    | cons h1 h2 =>
      cases h2
      cases h1 with
      | lst a1 a2 =>
        cases e : intsOf es with
        | none => rw [e] at q; exact q.elim
        | some ns =>
          rw [e] at q
          have e2 := intsOf_dp a2 e
          subst e2
          exact ⟨_, ns, rfl, Same.seq same_hide a1, fin _ H (.v _) (Same.refl H) (.int _) q⟩
  · exact q.elim
theorem lift_all : LiftL K (rAll K) oAll := by
  intro O H xs ds QD Q _ hx q fin
  unfold oAll at q
  split at q
  · rename_i es
    cases hx with
    | cons h1 h2 =>
      cases h2
      cases h1 with
      | lst a1 a2 =>
        cases e : boolsOf es with
        | none => rw [e] at q; exact q.elim
        | some ns =>
          rw [e] at q
          have e2 := boolsOf_dp a2 e
          subst e2
          exact ⟨_, ns, rfl, Same.seq same_hide a1, fin _ H (.v _) (Same.refl H) (.bl _) q⟩
  · exact q.elim
theorem lift_any : LiftL K (rAny K) oAny := by
  intro O H xs ds QD Q _ hx q fin
  unfold oAny at q
  split at q
  · rename_i es
    cases hx with
    | cons h1 h2 =>
      cases h2
      cases h1 with
      | lst a1 a2 =>
        cases e : boolsOf es with
        | none => rw [e] at q; exact q.elim
        | some ns =>
          rw [e] at q
          have e2 := boolsOf_dp a2 e
          subst e2
          exact ⟨_, ns, rfl, Same.seq same_hide a1, fin _ H (.v _) (Same.refl H) (.bl _) q⟩
  · exact q.elim
@[reducible] def oSortI : OL := fun ds k => match ds with
  | [.list es] => optK (intsOf es) fun ns => ∀ ns' : List Int, ns'.Perm ns → ns'.Pairwise (· ≤ ·) → k (.own 0 (.lst (ns'.map PyData.int)))
  | _ => False
theorem lift_sortI : LiftL K (rSortedI K) oSortI := by
  intro O H xs ds QD Q _ hx q fin
  unfold oSortI at q
  split at q
  · rename_i es
    cases hx with
    | cons h1 h2 =>
      cases h2
      cases h1 with
      | lst a1 a2 =>
        cases e : intsOf es with
        | none => rw [e] at q; exact q.elim
        | some ns =>
          rw [e] at q
          have e2 := intsOf_dp a2 e
          subst e2
          refine ⟨_, ns, rfl, Same.seq same_hide a1, fun ns' p pm pw n => fin _ _ (.own 0 (.lst _)) (same_new n) (new_lst n (DL.DpAll.ints ns')) (q ns' pm pw)⟩
  · exact q.elim
@[reducible] def oTuple : OL := fun ds k => match ds with
  | [.list es] => k (.v (.tuple es))
  | [.tuple es] => k (.v (.tuple es))
  | _ => False
theorem lift_tuple : LiftL K (fun xs H Q => ∃ p ys, xs = [.ref p] ∧ ((SqL K H p ys ∧ ∀ l, H l = none → Q (.ref l) (upd H l (.tup ys))) ∨ (SqT K H p ys ∧ Q (.ref p) H))) oTuple := by
  intro O H xs ds QD Q hO hx q fin
  unfold oTuple at q
  split at q
  · rename_i es
    cases hx with
    | cons h1 h2 =>
      cases h2
      cases h1 with
      | lst a1 a2 => exact ⟨_, _, rfl, .inl ⟨Same.seq same_hide a1, fun p n => fin _ _ (.v _) (same_new n) (new_tup n (fun z => by obtain ⟨u, e⟩ := hO p z; rw [n] at e; cases e) a2) q⟩⟩
  · rename_i es
    cases hx with
    | cons h1 h2 =>
      cases h2
      cases h1 with
      | tup a1 a2 => exact ⟨_, _, rfl, .inr ⟨seqT_same same_hide a1, fin _ H (.v _) (Same.refl H) (.tup a1 a2) q⟩⟩
  · exact q.elim
@[reducible] def oList : OL := fun ds k => match ds with
  | [.list es] => k (.own 0 (.lst es))
  | [.tuple es] => k (.own 0 (.lst es))
  | _ => False
theorem lift_list : LiftL K (fun xs H Q => ∃ p ys, xs = [.ref p] ∧ (SqL K H p ys ∨ SqT K H p ys) ∧ ∀ l, H l = none → Q (.ref l) (upd H l (.lst ys))) oList := by
  intro O H xs ds QD Q hO hx q fin
  unfold oList at q
  split at q
  · rename_i es
    cases hx with
    | cons h1 h2 =>
      cases h2
      cases h1 with
      | lst a1 a2 => exact ⟨_, _, rfl, .inl (Same.seq same_hide a1), fun p n => fin _ _ (.own 0 (.lst _)) (same_new n) (new_lst n a2) q⟩
  · rename_i es
    cases hx with
    | cons h1 h2 =>
      cases h2
      cases h1 with
      | tup a1 a2 => exact ⟨_, _, rfl, .inr (seqT_same same_hide a1), fun p n => fin _ _ (.own 0 (.lst _)) (same_new n) (new_lst n a2) q⟩
  · exact q.elim
@[reducible] def oDivmod : OL := fun ds k => match ds with
  | [.int i, .int j] => CDiv i j ∧ k (.v (.tuple [.int (i / j), .int (i % j)]))
  | _ => False
theorem lift_divmod : LiftL K (fun xs H Q => ∃ i j, xs = [.int i, .int j] ∧ CDiv i j ∧ ∀ p, H p = none → Q (.ref p) (upd H p (.tup [.int (i / j), .int (i % j)]))) oDivmod := by
  intro O H xs ds QD Q hO hx q fin
  unfold oDivmod at q
  split at q
  · rename_i i j
    cases hx with
    | cons h1 h2 => cases h2 with
      | cons h2 h3 =>
        cases h3; cases h1; cases h2
        exact ⟨_, _, rfl, q.1, fun p n => fin _ _ (.v _) (same_new n) (new_tup n (fun z => by obtain ⟨u, e⟩ := hO p z; rw [n] at e; cases e) (.cons (.int _) (.cons (.int _) .nil))) q.2⟩
  · exact q.elim
@[reducible] def oStrI : OL := fun ds k => match ds with
  | [.int i] => i.natAbs.log2 < 1920 ∧ k (.v (.str (toString i)))
  | _ => False
theorem lift_strI : LiftL K (fun xs H Q => ∃ i, xs = [.int i] ∧ i.natAbs.log2 < 1920 ∧ Q (.str (toString i)) H) oStrI := by
  intro O H xs ds QD Q _ hx q fin
  unfold oStrI at q
  split at q
  · rename_i i
    cases hx with
    | cons h1 h2 => cases h2; cases h1; exact ⟨_, rfl, q.1, fin _ H (.v _) (Same.refl H) (.str _) q.2⟩
  · exact q.elim
end
section
variable {X : Cx} {g : G} {W : WX} {e : Expr} {es : List Expr} {wa : WA} {pos p : Pos}
theorem ee_len (hg : Gl X "len") (hm : X.mg "len" = none) (ha : EA X g W (e :: es) wa) (he : starEach (e :: es) X.env = (false, eval e X.env) :: starEach es X.env := by rfl) (hpl : (backTo pos (starEach es X.env)).any (·.1) = false := by rfl) : EE X g W (.Call (.Name "len" p) (e :: es) [] pos) (wL oLen wa) :=
  ee_cb call_len lift_len hg hm PySem.boot_len ha (he := he) (hpl := hpl)
theorem ee_min2 (hc : X.calm = true) (hg : Gl X "min") (hm : X.mg "min" = none) (ha : EA X g W (e :: es) wa) (he : starEach (e :: es) X.env = (false, eval e X.env) :: starEach es X.env := by rfl) (hpl : (backTo pos (starEach es X.env)).any (·.1) = false := by rfl) : EE X g W (.Call (.Name "min" p) (e :: es) [] pos) (wL oMin2 wa) :=
  ee_cb (call_min2 hc) lift_min2 hg hm (by decide +kernel) ha (he := he) (hpl := hpl)
theorem ee_max2 (hc : X.calm = true) (hg : Gl X "max") (hm : X.mg "max" = none) (ha : EA X g W (e :: es) wa) (he : starEach (e :: es) X.env = (false, eval e X.env) :: starEach es X.env := by rfl) (hpl : (backTo pos (starEach es X.env)).any (·.1) = false := by rfl) : EE X g W (.Call (.Name "max" p) (e :: es) [] pos) (wL oMax2 wa) :=
  ee_cb (call_max2 hc) lift_max2 hg hm (by decide +kernel) ha (he := he) (hpl := hpl)
theorem ee_abs (hg : Gl X "abs") (hm : X.mg "abs" = none) (ha : EA X g W (e :: es) wa) (he : starEach (e :: es) X.env = (false, eval e X.env) :: starEach es X.env := by rfl) (hpl : (backTo pos (starEach es X.env)).any (·.1) = false := by rfl) : EE X g W (.Call (.Name "abs" p) (e :: es) [] pos) (wL oAbs wa) :=
  ee_cb call_abs lift_abs hg hm (by decide +kernel) ha (he := he) (hpl := hpl)
theorem ee_int1 (hg : Gl X "int") (hm : X.mg "int" = none) (ha : EA X g W (e :: es) wa) (he : starEach (e :: es) X.env = (false, eval e X.env) :: starEach es X.env := by rfl) (hpl : (backTo pos (starEach es X.env)).any (·.1) = false := by rfl) : EE X g W (.Call (.Name "int" p) (e :: es) [] pos) (wL oInt1 wa) :=
  ee_ct call_int1 lift_int1 hg hm (by decide +kernel) ha (he := he) (hpl := hpl)
theorem ee_sum (hc : X.calm = true) (hg : Gl X "sum") (hm : X.mg "sum" = none) (ha : EA X g W (e :: es) wa) (he : starEach (e :: es) X.env = (false, eval e X.env) :: starEach es X.env := by rfl) (hpl : (backTo pos (starEach es X.env)).any (·.1) = false := by rfl) : EE X g W (.Call (.Name "sum" p) (e :: es) [] pos) (wL oSum wa) :=
  ee_cb (cr_sum hc) lift_sum hg hm (by decide +kernel) ha (he := he) (hpl := hpl)
theorem ee_all (hc : X.calm = true) (hg : Gl X "all") (hm : X.mg "all" = none) (ha : EA X g W (e :: es) wa) (he : starEach (e :: es) X.env = (false, eval e X.env) :: starEach es X.env := by rfl) (hpl : (backTo pos (starEach es X.env)).any (·.1) = false := by rfl) : EE X g W (.Call (.Name "all" p) (e :: es) [] pos) (wL oAll wa) :=
  ee_cb (cr_all hc) lift_all hg hm (by decide +kernel) ha (he := he) (hpl := hpl)
theorem ee_any (hc : X.calm = true) (hg : Gl X "any") (hm : X.mg "any" = none) (ha : EA X g W (e :: es) wa) (he : starEach (e :: es) X.env = (false, eval e X.env) :: starEach es X.env := by rfl) (hpl : (backTo pos (starEach es X.env)).any (·.1) = false := by rfl) : EE X g W (.Call (.Name "any" p) (e :: es) [] pos) (wL oAny wa) :=
  ee_cb (cr_any hc) lift_any hg hm (by decide +kernel) ha (he := he) (hpl := hpl)
theorem ee_sortI (hg : Gl X "sorted") (hm : X.mg "sorted" = none) (ha : EA X g W (e :: es) wa) (he : starEach (e :: es) X.env = (false, eval e X.env) :: starEach es X.env := by rfl) (hpl : (backTo pos (starEach es X.env)).any (·.1) = false := by rfl) : EE X g W (.Call (.Name "sorted" p) (e :: es) [] pos) (wL oSortI wa) :=
  ee_cb cr_sortedI lift_sortI hg hm (by decide +kernel) ha (he := he) (hpl := hpl)
theorem ee_tuple (hg : Gl X "tuple") (hm : X.mg "tuple" = none) (ha : EA X g W (e :: es) wa) (he : starEach (e :: es) X.env = (false, eval e X.env) :: starEach es X.env := by rfl) (hpl : (backTo pos (starEach es X.env)).any (·.1) = false := by rfl) : EE X g W (.Call (.Name "tuple" p) (e :: es) [] pos) (wL oTuple wa) :=
  ee_ct call_tuple_of lift_tuple hg hm (by decide +kernel) ha (he := he) (hpl := hpl)
theorem ee_list (hg : Gl X "list") (hm : X.mg "list" = none) (ha : EA X g W (e :: es) wa) (he : starEach (e :: es) X.env = (false, eval e X.env) :: starEach es X.env := by rfl) (hpl : (backTo pos (starEach es X.env)).any (·.1) = false := by rfl) : EE X g W (.Call (.Name "list" p) (e :: es) [] pos) (wL oList wa) :=
  ee_ct call_list_of lift_list hg hm (by decide +kernel) ha (he := he) (hpl := hpl)
theorem ee_divmod (hg : Gl X "divmod") (hm : X.mg "divmod" = none) (ha : EA X g W (e :: es) wa) (he : starEach (e :: es) X.env = (false, eval e X.env) :: starEach es X.env := by rfl) (hpl : (backTo pos (starEach es X.env)).any (·.1) = false := by rfl) : EE X g W (.Call (.Name "divmod" p) (e :: es) [] pos) (wL oDivmod wa) :=
  ee_cb call_divmod lift_divmod hg hm (by decide +kernel) ha (he := he) (hpl := hpl)
theorem ee_strI (hg : Gl X "str") (hm : X.mg "str" = none) (ha : EA X g W (e :: es) wa) (he : starEach (e :: es) X.env = (false, eval e X.env) :: starEach es X.env := by rfl) (hpl : (backTo pos (starEach es X.env)).any (·.1) = false := by rfl) : EE X g W (.Call (.Name "str" p) (e :: es) [] pos) (wL oStrI wa) :=
  ee_ct call_str_int lift_strI hg hm (by decide +kernel) ha (he := he) (hpl := hpl)
/-- isinstance(e, T), T a built-in class -/
@[reducible] def isT (T : String) : D → Bool
  | .none => T == "NoneType" || T == "object"
  | .bool _ => T == "bool" || T == "int" || T == "object"
  | .int _ => T == "int" || T == "object"
  | .str _ => T == "str" || T == "object"
  | .list _ => T == "list" || T == "object"
  | .tuple _ => T == "tuple" || T == "object"
  | .dict _ => T == "dict" || T == "object"
@[reducible] def oIsi (T : String) : O1 := fun d k => k (.v (.bool (isT T d)))
theorem ee_isi {we : WE} {T : Str} {n : String} {p3 : Pos} (hg : Gl X "isinstance") (hm : X.mg "isinstance" = none) (hgT : Gl X T) (hmT : X.mg T = none) (hT : bootBuiltins T = some (.type n)) (hne : T ≠ "__name__" := by decide) (hdb : (T == ("__debug__" : Str)) = false := by decide)
    (hk : (["NoneType", "bool", "int", "str", "list", "tuple"].zip [.none, .bool true, .int 0, .str ⟨#[]⟩, .list [], .tuple []]).all (fun q => decide (kitB q.1 n = some (isT n q.2))) = true) (h : EE X g W e we)
    (he : starEach [e, .Name T p3] X.env = (false, eval e X.env) :: starEach [.Name T p3] X.env := by rfl) (he2 : starEach [.Name T p3] X.env = (false, eval (.Name T p3) X.env) :: starEach [] X.env := by rfl) (hpl : (backTo pos (starEach [.Name T p3] X.env)).any (·.1) = false := by rfl) :
    EE X g W (.Call (.Name "isinstance" p) [e, .Name T p3] [] pos) (wU (oIsi n) we) := by
  obtain ⟨t, q, s⟩ := h.ex
  refine ⟨_, pe_callB call_isi hg hm (by decide +kernel) (pa_cons q (pa_cons (pe_bltn (v := .ty n) hgT hmT hT rfl hne hdb) pa_nil he2) he) (he := he) (hpl := hpl), fun σ vs H ρ cs QD ED Q hS hw hX hQ => ?_⟩
  refine s σ vs H ρ cs _ ED _ hS hw hX fun x H1 c ρ1 S1 q1 => ?_
  refine S1.use1 (r := fun x H Q => rIsi X.K [x, .ty n] H Q) (fun O H x dx QD Q _ hx q fin => ?_) q1 fun v H' c S3 q3 => hQ v H' c ρ1 S3 q3
  have fin' := fin (.bl (isT n dx)) H (.v (.bool (isT n dx))) (Same.refl H) (.bl _) q
  have kk : ∀ a d, (a, d) ∈ (["NoneType", "bool", "int", "str", "list", "tuple"].zip [PyData.none, .bool true, .int 0, .str ⟨#[]⟩, .list [], .tuple []]) → kitB a n = some (isT n d) := fun a d m => of_decide_eq_true (List.all_eq_true.mp hk _ m)
  have mk : ∀ (a : String) (b : Bool), kitB a n = some b → TyX X.K H x (.type a) → b = isT n dx → rIsi X.K [x, .ty n] H Q := fun a b e ty eb => by
    subst eb
    exact ⟨x, .ty n, .type a, .type n, _, rfl, .ty n, ty, kit_ty e, fin'⟩
  cases hx with
  | non => exact mk "NoneType" _ (kk "NoneType" .none (by simp)) (.base .non) rfl
  | bl b => exact mk "bool" _ (kk "bool" (.bool true) (by simp)) (.base (.bl _)) rfl
  | int i => exact mk "int" _ (kk "int" (.int 0) (by simp)) (.base (.int _)) rfl
  | str z => exact mk "str" _ (kk "str" (.str ⟨#[]⟩) (by simp)) (.base (.str _)) rfl
  | lst h1 h2 =>
    refine mk "list" _ (kk "list" (.list []) (by simp)) ?_ rfl
    rcases h1 with (h1 | ⟨o, h1⟩) | ⟨o, its, m, h1, h3, _⟩
    · exact .base (.lst (hide_some.mp h1).2)
    · exact .base (.frz (hide_some.mp h1).2)
    · exact .kList h1 h3
  | tup h1 h2 =>
    refine mk "tuple" _ (kk "tuple" (.tuple []) (by simp)) ?_ rfl
    rcases h1 with (h1 | ⟨o, h1⟩) | ⟨o, its, m, h1, h3, _⟩
    · exact .base (.tup (hide_some.mp h1).2)
    · exact .fTuple (hide_some.mp h1).2
    · exact .kTuple h1 h3
theorem ee_isi2 {we : WE} {T : Str} {n : String} {p3 : Pos} (hg : Gl X "isinstance") (hm : X.mg "isinstance" = none) (hgT : Gl X T) (hmT : X.mg T = none) (h : EE X g W e we)
    (hT : bootBuiltins T = some (.type n) := by decide +kernel) (hk : (["NoneType", "bool", "int", "str", "list", "tuple"].zip [.none, .bool true, .int 0, .str ⟨#[]⟩, .list [], .tuple []]).all (fun q => decide (kitB q.1 n = some (isT n q.2))) = true := by decide +kernel)
    (hne : T ≠ "__name__" := by decide) (hdb : (T == ("__debug__" : Str)) = false := by decide)
    (he : starEach [e, .Name T p3] X.env = (false, eval e X.env) :: starEach [.Name T p3] X.env := by rfl) (he2 : starEach [.Name T p3] X.env = (false, eval (.Name T p3) X.env) :: starEach [] X.env := by rfl) (hpl : (backTo pos (starEach [.Name T p3] X.env)).any (·.1) = false := by rfl) :
    EE X g W (.Call (.Name "isinstance" p) [e, .Name T p3] [] pos) (wU (oIsi n) we) := ee_isi hg hm hgT hmT hT hne hdb hk h he he2 hpl
end
end DL

set_option Elab.async false
set_option linter.all false
set_option maxRecDepth 100000
set_option maxHeartbeats 4000000
/-! DL: own lists changed by statements; += ; lists joined. -/
namespace DL
open PySem PySem.Spec PyProof.Rows L2

/-- the items of an own list that passes -/
@[reducible] def lstOf (ρ : Rho) : C → Option (List D)
  | .own _ (.lst ds) => some ds
  | .ln i => match rget ρ i with
    | .own _ (.lst ds) => some ds
    | _ => none
  | _ => none
section
variable {K : PySem.W.Frag} {g : G} {σ : L2.St} {vs : List V} {H H' : Hp} {ρ : Rho} {cs : List C} {i : Nat}
theorem SR.lst {x : V} {c : C} {ds : List D} (h : SR K g σ (x :: vs) H ρ (c :: cs)) (e : lstOf ρ c = some ds) : ∃ a xs, x = .ref a ∧ H a = some (.lst xs) ∧ DpAll K (hide H (tot σ (x :: vs) ρ (c :: cs) ++ g.P0)) xs ds := by
  cases c with
  | own t o =>
    cases o with
    | lst es =>
      cases e
      obtain ⟨a, e1, ⟨xs, q1, q2⟩, _⟩ := h.tp.1
      cases e1
      exact ⟨a, xs, rfl, q1, q2⟩
    | dct _ => cases e
  | ln i =>
    obtain ⟨y, e1, e2⟩ := h.tp.1
    cases e1
    revert e
    show (match rget ρ i with
      | .own _ (.lst ds) => some ds
      | _ => none) = some ds → _
    split
    · rename_i t es eo
      intro e
      cases e
      obtain ⟨a, e3, _, ⟨xs, q1, q2⟩, _⟩ := h.own eo
      rw [e2] at e3
      cases e3
      exact ⟨a, xs, rfl, q1, q2⟩
    · intro e; cases e
  | _ => cases e
/-- the own object of a slot is changed -/
theorem SR.mutSlot {a : Addr} {t : Nat} {o o' : OD} (h : SR K g σ vs H ρ cs) (e : rget ρ i = .own t o) (e1 : σ[i]? = some (some (.ref a))) (hL : g.L i = true) (keep : ∀ b u, b ≠ a → H b = some u → H' b = some u) (new : OwnAt K (hide H (tot σ vs ρ cs ++ g.P0)) H' a o') : SR K g σ vs H' (rset ρ i (.own t o')) cs := by
  have hlt : i < ρ.length := by rw [← h.len]; exact (List.getElem?_eq_some_iff.mp e1).1
  obtain ⟨_, h2⟩ := (h.pushPk e1 hL).moveOut e
  have pm : ∀ b, b ∈ tot σ (.ref a :: vs) (rset ρ i .no) (.own t o :: cs) ↔ b ∈ tot σ vs ρ cs := fun b => by
    have p := foot_out e1 e
    show b ∈ (a :: foot (vs.map some) cs) ++ foot σ (rset ρ i .no) ↔ b ∈ foot (vs.map some) cs ++ foot σ ρ
    simp only [List.mem_append, List.mem_cons, p.mem_iff]
    constructor
    · rintro ((z | z) | z) <;> simp [z]
    · rintro (z | z | z) <;> simp [z]
  have h3 := h2.mutTop (o' := o') keep (by
    rw [hide_congr (O' := tot σ vs ρ cs ++ g.P0) fun b => by simp only [List.mem_append (t := g.P0), pm b]]
    exact new)
  have h4 := h3.moveIn (i := i) rfl e1 (rget_rset hlt)
  rw [rset_rset] at h4
  exact h4
end

/-! ### x.append(e), x.extend(e), x.pop() of an own list in slot i -/
@[reducible] def wApp (i : Nat) (we : WE) : WE := fun ρ Q E => match rget ρ i with
  | .own _ (.lst _) => we ρ (fun c ρ1 => match frzC c, rget ρ1 i with
    | .v d, .own t (.lst ds) => ds.length < sizeLine ∧ Q (.v .none) (rset ρ1 i (.own t (.lst (ds ++ [d]))))
    | _, _ => False) E
  | _ => False
@[reducible] def wExt (i : Nat) (we : WE) : WE := fun ρ Q E => match rget ρ i with
  | .own _ (.lst _) => we ρ (fun c ρ1 => optK (lstOf ρ1 c) fun es => match rget ρ1 i with
    | .own t (.lst ds) => ds.length + es.length ≤ sizeLine ∧ Q (.v .none) (rset ρ1 i (.own t (.lst (ds ++ es))))
    | _ => False) E
  | _ => False
@[reducible] def wPop (i : Nat) : WE := fun ρ Q E => match rget ρ i with
  | .own t (.lst ds) => optK (ds[ds.length - 1]?) fun d => Q (.v d) (rset ρ i (.own t (.lst ds.dropLast)))
  | _ => False
section
variable {X : Cx} {g : G} {W : WX} {e : Expr} {we : WE} {i : Nat} {x : Str} {p apos pos : Pos}
theorem own_list {K : PySem.W.Frag} {g : G} {σ : L2.St} {vs : List V} {H : Hp} {ρ : Rho} {cs : List C} {i t : Nat} {ds : List D} (h : SR K g σ vs H ρ cs) (e : rget ρ i = .own t (.lst ds)) : ∃ a xs, σ[i]? = some (some (.ref a)) ∧ H a = some (.lst xs) ∧ DpAll K (hide H (tot σ vs ρ cs ++ g.P0)) xs ds := by
  obtain ⟨a, e1, _, ⟨xs, q1, q2⟩, _⟩ := h.own e
  exact ⟨a, xs, e1, q1, q2⟩
theorem dpAll_up {K : PySem.W.Frag} {g : G} {σ : L2.St} {vs : List V} {H : Hp} {ρ : Rho} {cs : List C} {x : V} {c : C} {xs : List V} {ds : List D} (h : DpAll K (hide H (tot σ (x :: vs) ρ (c :: cs) ++ g.P0)) xs ds) : DpAll K (hide H (tot σ vs ρ cs ++ g.P0)) xs ds := by
  refine dpAll_mono (fun a o q => ?_) _ _ h
  obtain ⟨h1, h2⟩ := hide_some.mp q
  refine hide_some.mpr ⟨fun z => h1 ?_, h2⟩
  rw [tot_cons]
  rcases List.mem_append.mp z with z | z
  · exact List.mem_append_left _ (List.mem_append_right _ z)
  · exact List.mem_append_right _ z
theorem ee_app (hL : g.L i = true) (hx : PE X (.Name x p) (tVar i)) (h : EE X g W e we)
    (hbase : attributeBase (.Name x p) "append" X.env (eval (.Name x p) X.env) = eval (.Name x p) X.env := by rfl)
    (hfew : ((backTo pos (starEach [e] X.env)).all (fun x => !x.1) && (backToKw pos (keywordEach [] X.env)).all (fun x => x.1.isSome) && decide (([e] : List Expr).length + ([] : List Keyword).length + (if ([] : List Keyword).isEmpty then 0 else 1) < 30)) = true := by rfl)
    (hline : (apos.endLine == pos.line) = true := by rfl) (hs : starEach [e] X.env = (false, eval e X.env) :: starEach [] X.env := by rfl) (hplain : (backTo pos (starEach [] X.env)).any (·.1) = false := by rfl) :
    EE X g W (.Call (.Attribute (.Name x p) "append" apos) [e] [] pos) (wApp i we) := by
  obtain ⟨t, q, s⟩ := h.ex
  refine ⟨_, pe_bm PySem.F.plainAttrs_list PySem.F.slot_list_append PySem.F.type_list_append mt_append hx (pa_cons q pa_nil hs) hbase hfew hline hs hplain, fun σ vs H ρ cs QD ED Q hS hw hX hQ => ?_⟩
  unfold wApp at hw
  split at hw
  · rename_i t0 ds0 e0
    obtain ⟨a, xs, e1, e2, _⟩ := own_list hS e0
    refine ⟨.ref a, e1, .inl ⟨rfl, xs, .inl (.inl e2)⟩, ?_⟩
    refine s σ vs H ρ cs _ ED _ hS hw hX fun y H1 c ρ1 S1 q1 => ?_
    split at q1
    · rename_i d t1 ds1 ec eo
      have S2 := S1.frzTop
      rw [ec] at S2
      obtain ⟨a', xs', e3, e4, e5⟩ := own_list S2.pop eo
      rw [e1] at e3
      cases e3
      refine ⟨a, xs', y, rfl, rfl, e4, by rw [DL.DpAll.len e5]; exact q1.1, ?_⟩
      have S3 := S2.pop.mutSlot (H' := upd H1 a (.lst (xs' ++ [y]))) eo e1 hL (fun b u n z => by rw [upd_ne n]; exact z) (o' := .lst (ds1 ++ [d])) ⟨xs' ++ [y], upd_same, DL.DpAll.app e5 (.cons S2.top .nil)⟩
      exact hQ _ _ _ _ (SR.resV S3 (Same.refl _) .non) q1.2
    · exact q1.elim
  · exact hw.elim
theorem ee_ext (hL : g.L i = true) (hx : PE X (.Name x p) (tVar i)) (h : EE X g W e we)
    (hbase : attributeBase (.Name x p) "extend" X.env (eval (.Name x p) X.env) = eval (.Name x p) X.env := by rfl)
    (hfew : ((backTo pos (starEach [e] X.env)).all (fun x => !x.1) && (backToKw pos (keywordEach [] X.env)).all (fun x => x.1.isSome) && decide (([e] : List Expr).length + ([] : List Keyword).length + (if ([] : List Keyword).isEmpty then 0 else 1) < 30)) = true := by rfl)
    (hline : (apos.endLine == pos.line) = true := by rfl) (hs : starEach [e] X.env = (false, eval e X.env) :: starEach [] X.env := by rfl) (hplain : (backTo pos (starEach [] X.env)).any (·.1) = false := by rfl) :
    EE X g W (.Call (.Attribute (.Name x p) "extend" apos) [e] [] pos) (wExt i we) := by
  obtain ⟨t, q, s⟩ := h.ex
  refine ⟨_, pe_bm PySem.F.plainAttrs_list PySem.F.slot_list_extend PySem.F.type_list_extend mt_extend hx (pa_cons q pa_nil hs) hbase hfew hline hs hplain, fun σ vs H ρ cs QD ED Q hS hw hX hQ => ?_⟩
  unfold wExt at hw
  split at hw
  · rename_i t0 ds0 e0
    obtain ⟨a, xs, e1, e2, _⟩ := own_list hS e0
    refine ⟨.ref a, e1, .inl ⟨rfl, xs, .inl (.inl e2)⟩, ?_⟩
    refine s σ vs H ρ cs _ ED _ hS hw hX fun y H1 c ρ1 S1 q1 => ?_
    cases el : lstOf ρ1 c with
    | none => rw [el] at q1; exact q1.elim
    | some es =>
      rw [el] at q1
      have q1' : (match rget ρ1 i with
        | .own t (.lst ds) => ds.length + es.length ≤ sizeLine ∧ QD (.v .none) (rset ρ1 i (.own t (.lst (ds ++ es))))
        | _ => False) := q1
      split at q1'
      · rename_i t1 ds1 eo
        obtain ⟨b, ys, f1, f2, f3⟩ := S1.lst el
        subst f1
        obtain ⟨a', xs', e3, e4, e5⟩ := own_list S1.pop eo
        rw [e1] at e3
        cases e3
        refine ⟨a, b, xs', ys, rfl, rfl, e4, f2, by rw [DL.DpAll.len e5, DL.DpAll.len f3]; exact q1'.1, ?_⟩
        have S3 := S1.pop.mutSlot (H' := upd H1 a (.lst (xs' ++ ys))) eo e1 hL (fun b u n z => by rw [upd_ne n]; exact z) (o' := .lst (ds1 ++ es)) ⟨xs' ++ ys, upd_same, DL.DpAll.app e5 (dpAll_up f3)⟩
        exact hQ _ _ _ _ (SR.resV S3 (Same.refl _) .non) q1'.2
      · exact q1'.elim
  · exact hw.elim
theorem DpAll.dropLast {K : PySem.W.Frag} {B : Hp} {vs : List V} {ds : List D} (h : DpAll K B vs ds) : DpAll K B vs.dropLast ds.dropLast := by
  rw [List.dropLast_eq_take, List.dropLast_eq_take, DL.DpAll.len h]
  exact DL.DpAll.takeN _ h
theorem ee_pop (hL : g.L i = true) (hx : PE X (.Name x p) (tVar i))
    (hbase : attributeBase (.Name x p) "pop" X.env (eval (.Name x p) X.env) = eval (.Name x p) X.env := by rfl) (hline : (apos.endLine == pos.line) = true := by rfl) :
    EE X g W (.Call (.Attribute (.Name x p) "pop" apos) [] [] pos) (wPop i) := by
  refine ⟨_, pe_bm0 PySem.F.plainAttrs_list PySem.F.slot_list_pop PySem.F.type_list_pop mt_pop hx hbase hline, fun σ vs H ρ cs QD ED Q hS hw hX hQ => ?_⟩
  unfold wPop at hw
  split at hw
  · rename_i t0 ds0 e0
    obtain ⟨a, xs, e1, e2, e3⟩ := own_list hS e0
    refine ⟨.ref a, e1, .inl ⟨rfl, xs, .inl (.inl e2)⟩, ?_⟩
    cases el : ds0[ds0.length - 1]? with
    | none => rw [el] at hw; exact hw.elim
    | some d =>
      rw [el] at hw
      obtain ⟨y, f1, f2⟩ := DL.DpAll.get e3 el
      refine ⟨a, xs, y, rfl, rfl, e2, by rw [DL.DpAll.len e3]; exact f1, ?_⟩
      have S3 := hS.mutSlot (H' := upd H a (.lst xs.dropLast)) e0 e1 hL (fun b u n z => by rw [upd_ne n]; exact z) (o' := .lst ds0.dropLast) ⟨xs.dropLast, upd_same, DL.DpAll.dropLast e3⟩
      -- the item reads on
      have hlt : i < ρ.length := by rw [← hS.len]; exact (List.getElem?_eq_some_iff.mp e1).1
      have ef : ∀ b, b ∈ tot σ vs (rset ρ i (.own t0 (.lst ds0.dropLast))) cs → b ∈ tot σ vs ρ cs := fun b z => by
        rcases List.mem_append.mp z with z | z
        · exact List.mem_append_left _ z
        · refine List.mem_append_right _ ?_
          have pm := foot_in (σ := σ) (ρ := rset ρ i .no) (c := .own t0 (.lst ds0.dropLast)) e1 (by rw [rset_len]; exact hlt) (rget_rset hlt)
          rw [rset_rset] at pm
          exact (foot_out e1 e0).mem_iff.mpr (pm.mem_iff.mp z)
      refine hQ y _ _ _ (SR.resV S3 (Same.refl _) ?_) hw
      refine dp_mono (fun b u z => ?_) _ _ f2
      obtain ⟨z1, z2⟩ := hide_some.mp z
      refine hide_some.mpr ⟨fun w => z1 ?_, ?_⟩
      · rcases List.mem_append.mp w with w | w
        · exact List.mem_append_left _ (ef b w)
        · exact List.mem_append_right _ w
      · rw [upd_ne (fun ee => z1 ?_)]
        · exact z2
        · subst ee
          exact List.mem_append_left _ (List.mem_append_right _ (foot_at e1 e0))
  · exact hw.elim
/-- x[k] = e, x an own list -/
def setI {α : Type} (xs : List α) (k : Int) (d : α) : Option (List α) := (ixN xs.length k).map fun j => xs.set j d
theorem setI_0 {α : Type} {x d : α} {xs : List α} : setI (x :: xs) 0 d = some (d :: xs) := by unfold setI ixN; simp <;> omega
theorem setI_1 {α : Type} {x y d : α} {xs : List α} : setI (x :: y :: xs) 1 d = some (x :: d :: xs) := by unfold setI ixN; simp <;> omega
theorem setI_2 {α : Type} {x y z d : α} {xs : List α} : setI (x :: y :: z :: xs) 2 d = some (x :: y :: d :: xs) := by unfold setI ixN; simp <;> omega
theorem setI_3 {α : Type} {x y z u d : α} {xs : List α} : setI (x :: y :: z :: u :: xs) 3 d = some (x :: y :: z :: d :: xs) := by unfold setI ixN; simp <;> omega
theorem setI_nat {α : Type} {xs : List α} {k : Nat} {d : α} (h : k < xs.length) : setI xs (k : Int) d = some (xs.set k d) := by
  unfold setI ixN
  simp
  omega
theorem setI_some {α : Type} {xs : List α} {k : Int} {d : α} {j : Nat} (h : ixN xs.length k = some j) : setI xs k d = some (xs.set j d) := by unfold setI; rw [h]; rfl
theorem setI_none {α : Type} {xs : List α} {k : Int} {d : α} (h : ixN xs.length k = none) : setI xs k d = none := by unfold setI; rw [h]; rfl
@[reducible] def wSetIx (i : Nat) (we wk : WE) : WS := fun DD ρ => we ρ (fun c ρ1 => match rget ρ1 i with
  | .own _ (.lst _) => wk ρ1 (fun c2 ρ2 => match frzC c, c2, rget ρ2 i with
    | .v d, .v (.int k), .own t (.lst ds) => optK (setI ds k d) fun es => DD.nx (rset ρ2 i (.own t (.lst es)))
    | _, _, _ => False) DD.ex
  | _ => False) DD.ex
theorem es_setIx {k : Expr} {wk : WE} {p2 : Pos} (hL : g.L i = true) (hx : PE X (.Name x p) (tVar i)) (h : EE X g W e we) (hk : EE X g W k wk)
    (ha : ∀ v, assign (.Subscript (.Name x p) k p2) X.env v = (do
      let ov ← holding [v] (eval (.Name x p) X.env)
      let iv ← holding [v, ov] (eval k X.env)
      standAt p2
      holding [v, ov, iv] (setItem ov iv v)
      release [v, ov, iv] []) := by intro _; rfl)
    (hs : swapsWithSole [.Subscript (.Name x p) k p2] e pos.line X.env = pure false := by rfl) (hw : swappedStores [.Subscript (.Name x p) k p2] e X.env = pure none := by rfl)
    (h1 : (assignEach [.Subscript (.Name x p) k p2] X.env).map (·.2) = [assign (.Subscript (.Name x p) k p2) X.env] := by rfl) : ES X g W (.Assign [.Subscript (.Name x p) k p2] e pos) (wSetIx i we wk) := by
  obtain ⟨t, q, s⟩ := h.ex
  obtain ⟨t2, q2, s2⟩ := hk.ex
  refine ⟨_, ps_asg q (pg_sub hx q2 set_list ha) hs hw h1, fun σ vs H ρ cs DD D hS hp hw hE => ?_⟩
  refine s σ vs H ρ cs _ _ _ hS hw (hE.ex σ) fun y H1 c ρ1 S1 z1 => ?_
  split at z1
  · rename_i t0 ds0 e0
    obtain ⟨a, xs, e1, _, _⟩ := own_list S1 e0
    refine ⟨.ref a, e1, ?_⟩
    refine s2 σ (y :: vs) H1 ρ1 (c :: cs) _ _ _ S1 z1 (hE.ex σ) fun z H2 c2 ρ2 S2 z2 => ?_
    split at z2
    · rename_i _ _ d k' t' ds ec eo
      have e5 := S2.top
      cases e5
      have S3 : SR X.K g σ (y :: vs) H2 ρ2 (.v d :: cs) := by
        have := S2.pop.frzTop
        rw [ec] at this
        exact this
      obtain ⟨a', xs', e3, e4, e6⟩ := own_list S3.pop eo
      rw [e1] at e3
      cases e3
      cases ej : ixN ds.length k' with
      | none => rw [setI_none ej] at z2; exact z2.elim
      | some j =>
        rw [setI_some ej] at z2
        refine ⟨a, xs', k', j, rfl, rfl, e4, by rw [DL.DpAll.len e6]; exact ej, ?_⟩
        have S4 := S3.pop.mutSlot (H' := upd H2 a (.lst (xs'.set j y))) eo e1 hL (fun b u n z => by rw [upd_ne n]; exact z) (o' := .lst (ds.set j d)) ⟨xs'.set j y, upd_same, DL.DpAll.setAt S3.top j e6⟩
        exact hE.nx σ _ _ S4 z2
    · exact z2.elim
  · exact z1.elim
/-- x op= e of data in slot i -/
@[reducible] def wAug (i : Nat) (o : O2) (we : WE) : WS := fun DD ρ => match rget ρ i with
  | .v d0 => we ρ (fun c ρ1 => match c with
    | .v d1 => o d0 d1 fun c' => c'.plain = true ∧ DD.nx (rset ρ1 i c')
    | _ => False) DD.ex
  | _ => False
theorem es_aug {op : Operator} {ti : TIp} {o : O2} {pos' : Pos} (hN : X.N.Nodup) (hi : X.N[i]? = some x) (hx : Loc X.env.scope x) (h : EE X g W e we) (ho : PIp X op ti) (l : Lift2 X.K (fun x y H Q => ti x y H Q) o)
    (hf : X.fn x = true ∨ X.env.scope.names.lookup x = some .local := by first | exact .inl rfl | exact .inr rfl | assumption) : ES X g W (.AugAssign (.Name x pos') op e pos) (wAug i o we) := by
  obtain ⟨t, q, s⟩ := h.ex
  refine ⟨_, ps_aug hN hi hx q ho hf, fun σ vs H ρ cs DD D hS hp hw hE => ?_⟩
  unfold wAug at hw
  split at hw
  · rename_i d0 e0
    obtain ⟨y, e1, dy⟩ := hS.slot e0
    refine ⟨y, e1, ?_⟩
    have S0 : SR X.K g σ (y :: vs) H ρ (.v d0 :: cs) := SR.resV hS (Same.refl H) dy
    refine s σ (y :: vs) H ρ (.v d0 :: cs) _ _ _ S0 hw (hE.ex σ) fun z H1 c ρ1 S1 q1 => ?_
    split at q1
    · rename_i d1
      refine S1.use2 (c1 := .v d0) (c2 := .v d1) (o := o) (QD := fun c' ρ' => c'.plain = true ∧ DD.nx (rset ρ' i c')) l ?_ fun v H' c' S3 q3 => hE.nx _ H' _ (S3.store q3.1 fun j => hp.nopk) q3.2
      show o d0 d1 fun c => okR [C.v d1, C.v d0] c ∧ c.plain = true ∧ DD.nx (rset ρ1 i c)
      have e2 : (fun c : C => okR [C.v d1, C.v d0] c ∧ c.plain = true ∧ DD.nx (rset ρ1 i c)) = fun c' => c'.plain = true ∧ DD.nx (rset ρ1 i c') := by
        funext c
        apply propext
        exact ⟨fun z => z.2, fun z => ⟨fun w => (by cases w), z⟩⟩
      rw [e2]
      exact q1
    · exact q1.elim
  · exact hw.elim
theorem lift_ip {K : PySem.W.Frag} {f : Int → Int → Int} : Lift2 K (fun x y H Q => ipI f x y H Q) (oI fun i j => .int (f i j)) := by
  intro O H x y dx dy QD Q _ hx hy q fin
  cases hx <;> try exact q.elim
  cases hy <;> try exact q.elim
  exact ⟨_, _, rfl, rfl, fin _ H (.v _) (Same.refl H) (.int _) q⟩
theorem es_augAdd {pos' : Pos} (hN : X.N.Nodup) (hi : X.N[i]? = some x) (hx : Loc X.env.scope x) (h : EE X g W e we) (hf : X.fn x = true ∨ X.env.scope.names.lookup x = some .local := by first | exact .inl rfl | exact .inr rfl | assumption) :
    ES X g W (.AugAssign (.Name x pos') .Add e pos) (wAug i oAdd we) := es_aug hN hi hx h ip_add lift_ip hf
theorem es_augSub {pos' : Pos} (hN : X.N.Nodup) (hi : X.N[i]? = some x) (hx : Loc X.env.scope x) (h : EE X g W e we) (hf : X.fn x = true ∨ X.env.scope.names.lookup x = some .local := by first | exact .inl rfl | exact .inr rfl | assumption) :
    ES X g W (.AugAssign (.Name x pos') .Sub e pos) (wAug i oSub we) := es_aug hN hi hx h ip_sub lift_ip hf
/-- lists joined: each one an own list (fresh, or of a slot) -/
@[reducible] def wCat (wa wb : WE) : WE := fun ρ Q E => wa ρ (fun c1 ρ1 => wb ρ1 (fun c2 ρ2 => optK (lstOf ρ2 c1) fun as => optK (lstOf ρ2 c2) fun bs => as.length + bs.length ≤ sizeLine ∧ Q (.own 0 (.lst (as ++ bs))) ρ2) E) E
theorem ee_cat {a b : Expr} {wa wb : WE} (ha : EE X g W a wa) (hb : EE X g W b wb) : EE X g W (.BinOp a .Add b pos) (wCat wa wb) := by
  obtain ⟨ta, p1, s1⟩ := ha.ex
  obtain ⟨tb, p2, s2⟩ := hb.ex
  refine ⟨_, pe_op op_cat p1 p2, fun σ vs H ρ cs QD ED Q hS hw hX hQ => ?_⟩
  refine s1 σ vs H ρ cs _ ED _ hS hw hX fun x H1 c1 ρ1 S1 q1 => ?_
  refine s2 σ (x :: vs) H1 ρ1 (c1 :: cs) _ ED _ S1 q1 hX fun y H2 c2 ρ2 S2 q2 => ?_
  cases e1 : lstOf ρ2 c1 with
  | none => rw [e1] at q2; exact q2.elim
  | some as =>
    cases e2 : lstOf ρ2 c2 with
    | none => rw [e1, e2] at q2; exact q2.elim
    | some bs =>
      rw [e1, e2] at q2
      obtain ⟨b, ys, f1, f2, f3⟩ := S2.lst e2
      obtain ⟨a, xs, g1, g2, g3⟩ := (SR.rot (xs := [y]) (ccs := [c2]) rfl S2).lst e1
      subst f1; subst g1
      refine ⟨a, b, xs, ys, rfl, rfl, g2, f2, by rw [DL.DpAll.len g3, DL.DpAll.len f3]; exact q2.1, fun p n => ?_⟩
      have S3 := S2.pop.pop
      exact hQ _ _ _ ρ2 (SR.res S3 (same_new n) (new_lst n (DL.DpAll.app (dpAll_up (dpAll_up g3)) (dpAll_up (dpAll_up f3))))) q2.2
/-- a name's own list becomes data, in the slot too -/
@[reducible] def wFrz (i : Nat) : WE := fun ρ Q _ => match rget ρ i with
  | .v d => Q (.v d) ρ
  | .own _ (.lst ds) => Q (.v (.list ds)) (rset ρ i (.v (.list ds)))
  | _ => False
theorem ee_frz (hL : g.L i = true) (hx : PE X (.Name x p) (tVar i)) : EE X g W (.Name x p) (wFrz i) := by
  refine ⟨_, hx, fun σ vs H ρ cs QD ED Q hS hw hX hQ => ?_⟩
  unfold wFrz at hw
  split at hw
  · rename_i d e
    obtain ⟨x, e1, q1⟩ := hS.slot e
    exact ⟨x, e1, hQ x H _ ρ (SR.resV hS (Same.refl H) q1) hw⟩
  · rename_i t ds e
    obtain ⟨a, e1, _⟩ := hS.own e
    have hlt : i < ρ.length := by rw [← hS.len]; exact (List.getElem?_eq_some_iff.mp e1).1
    obtain ⟨_, S2⟩ := (hS.pushPk e1 hL).moveOut e
    have S3 := S2.frzTop
    have dx := S3.top
    have S4 := S3.moveIn (i := i) rfl e1 (rget_rset hlt)
    rw [rset_rset] at S4
    have dx2 : Dp X.K (hide H (tot σ vs (rset ρ i (.v (.list ds))) cs ++ g.P0)) (.ref a) (.list ds) := by
      have ef : tot σ vs (rset ρ i (.v (.list ds))) cs = tot σ vs (rset ρ i .no) cs := by
        have go : ∀ (σ : List (Option V)) (ρ : Rho) (i : Nat), foot σ (rset ρ i (.v (.list ds))) = foot σ (rset ρ i .no) := by
          intro σ
          induction σ with
          | nil => intro ρ i; have e : ∀ r : Rho, foot [] r = [] := fun r => by cases r <;> rfl
                   rw [e, e]
          | cons v σ ih =>
            intro ρ i
            cases ρ with
            | nil => rfl
            | cons c ρ =>
              cases i with
              | zero => show footC v (.v _) ++ _ = footC v .no ++ _; rw [footC_v, footC_no]
              | succ i => show footC v c ++ foot σ (rset ρ i _) = footC v c ++ foot σ (rset ρ i _); rw [ih]
        show foot _ _ ++ foot σ _ = foot _ _ ++ foot σ _
        rw [go]
      rw [ef]
      exact dx
    exact ⟨_, e1, hQ _ H _ _ (SR.resV S4 (Same.refl H) dx2) hw⟩
  · exact hw.elim
end
/-! ### a, b = a list -/
section
variable {X : Cx} {g : G} {W : WX} {es : List Expr} {ws : WGs} {T : List Nat} {pos : Pos}
theorem semG_unl {K : PySem.W.Frag} {g : G} {n : Nat} {T : List Nat} {t : TGs} {w : WGs} (h : SemGs K g T t w) : SemG K g T (gUnl K n t) (wgLst n w) := fun σ vs H ρ cs x d QD Q hS hp hw hQ => by
  cases d with
  | list ds =>
    have q := hS.top
    cases q with
    | lst hs ha =>
      rename_i a xs
      refine ⟨a, xs, rfl, Same.seq same_hide hs, by rw [DL.DpAll.len ha]; exact hw.1, ?_⟩
      exact h σ vs H ρ cs xs ds QD Q (DL.DpAll.len ha) (hS.pop.pushAll ha) hp hw.2 hQ
  | _ => exact hw.elim
theorem eg_unl {k : Nat} {n : Nat} (hc : X.calm = true) (h : EGs X g es T ws) (hn : (assignEach es X.env).length = n := by rfl) (hst : (assignEach es X.env).findIdx? (·.1) = none := by rfl) : EG X g (.Tuple es k pos) T (wgLst n ws) := by
  obtain ⟨t, p, s⟩ := h.ex
  exact ⟨_, pg_unl hc p hn hst, semG_unl s⟩
/-- a, b = x, y (plain names) -/
@[reducible] def wPar (i j : Nat) (wa : WA) : WS := fun DD ρ => wa ρ (fun cs ρ1 => match frzs cs with
  | [.v d1, .v d2] => DD.nx (rset (rset ρ1 j (.v d2)) i (.v d1))
  | _ => False) DD.ex
theorem es_par {i j : Nat} {x y : Str} {a b : Expr} {wa : WA} {px py pt spos : Pos} {kt k2 pt2} (hc : X.calm = true) (hN : X.N.Nodup) (hi : X.N[i]? = some x) (hj : X.N[j]? = some y) (hij : i ≠ j) (hx : X.env.scope.names.lookup x = some .local) (hy : X.env.scope.names.lookup y = some .local) (ha : EA X g W [a, b] wa)
    (hw : swappedStores [.Tuple [.Name x px, .Name y py] kt pt] (.Tuple [a, b] k2 pt2) X.env = pure (some [x, y]))
    (hs : swapsWithSole [.Tuple [.Name x px, .Name y py] kt pt] (.Tuple [a, b] k2 pt2) spos.line X.env = pure false := by rfl) :
    ES X g W (.Assign [.Tuple [.Name x px, .Name y py] kt pt] (.Tuple [a, b] k2 pt2) spos) (wPar i j wa) := by
  obtain ⟨t, q, s⟩ := ha.ex
  refine ⟨_, ps_par hc hN hi hj hij hx hy q hw hs, fun σ vs H ρ cs DD D hS hp hw hE => ?_⟩
  refine s σ vs H ρ cs _ _ _ hS hw (hE.ex σ) fun xs H1 ccs ρ1 hl S1 q1 => ?_
  split at q1
  · rename_i d1 d2 ec
    rw [frzs_eq] at ec
    have S2 := S1.frzArgs hl
    rw [ec] at S2
    have hlen : ccs.length = 2 := by have := congrArg List.length ec; simpa using this
    match xs, hl with
    | [v, w], _ =>
      refine ⟨v, w, rfl, ?_⟩
      have S3 : SR X.K g σ (w :: (v :: vs)) H1 ρ1 (.v d2 :: (.v d1 :: cs)) := SR.rot (xs := [v]) (ccs := [.v d1]) rfl S2
      have S4 := S3.store (i := j) rfl (fun k z => (hp.cons (c := .v d1) rfl).nopk z)
      have S5 := S4.store (i := i) rfl (fun k z => hp.nopk z)
      rw [List.set_comm _ _ (Ne.symm hij)] at S5
      exact hE.nx _ H1 _ S5 q1
    | [], h => simp at h; omega
    | [_], h => simp at h; omega
    | _ :: _ :: _ :: _, h => simp at h; omega
  · exact q1.elim
end
end DL

set_option Elab.async false
set_option linter.all false
set_option maxRecDepth 100000
set_option maxHeartbeats 4000000
/-! DL: the program's defs by their names; walks over any sequence; unary minus; + and in of any data. -/
namespace DL
open PySem PySem.Spec PyProof.Rows L2

theorem lt_ {g : G} {L : Nat → Bool} (h : g.L = L) {i : Nat} (e : L i = true) : g.L i = true := by rw [h]; exact e
theorem lf_ {g : G} {L : Nat → Bool} (h : g.L = L) {T : List Nat} (e : (T.all fun j => !L j) = true) : ∀ j ∈ T, g.L j = false := fun j hj => by
  rw [h]
  have := List.all_eq_true.mp e j hj
  simpa using this
/-- a def of the program by its name, with its promise over data -/
structure Has (P : Program) (w : World) (K : PySem.W.Frag) (mg : Str → Option Value) (base : Heap) (k : Nat) (x : Str) (S : SpD) : Prop where
  ex : ∃ (f : Addr) (fd : FuncData) (ps : List Str), FnOk P w K mg base (L2.CX P w) k f fd ps (spOf K S) ∧ mg x = some (.ref f) ∧ PySem.W.keepIn K (.ref f) = true ∧ Binds K fd ps []
section
variable {X : Cx} {g : G} {k : Nat} {S : SpD} {x : Str} {p pos : Pos} {e : Expr} {es : List Expr} {wa : WA}
theorem ee_has (h : Has X.prog X.w X.K X.mg X.base k x S) (hr : Room k X.A) (hg : Gl X x) (ha : EA X g W0 (e :: es) wa) (hdb : (x == ("__debug__" : Str)) = false := by decide)
    (he : starEach (e :: es) X.env = (false, eval e X.env) :: starEach es X.env := by rfl) (hpl : (backTo pos (starEach es X.env)).any (·.1) = false := by rfl) : EE X g W0 (.Call (.Name x p) (e :: es) [] pos) (wCall S wa) := by
  obtain ⟨f, fd, ps, F, hm, hk, hb⟩ := h.ex
  exact ee_call F hr hg hm hk hb passL (fun _ _ _ _ z => z) ha hdb he hpl
theorem ee_hasO (h : Has X.prog X.w X.K X.mg X.base k x S) (hr : Room k X.A) (hg : Gl X x) (ha : EA X g W0 (e :: es) wa) (hdb : (x == ("__debug__" : Str)) = false := by decide)
    (he : starEach (e :: es) X.env = (false, eval e X.env) :: starEach es X.env := by rfl) (hpl : (backTo pos (starEach es X.env)).any (·.1) = false := by rfl) : EE X g W0 (.Call (.Name x p) (e :: es) [] pos) (wCallO S wa) := by
  obtain ⟨f, fd, ps, F, hm, hk, hb⟩ := h.ex
  exact ee_callO F hr hg hm hk hb passL (fun _ _ _ _ z => z) ha hdb he hpl
theorem ee_has0 (h : Has X.prog X.w X.K X.mg X.base k x S) (hr : Room k X.A) (hg : Gl X x) (hdb : (x == ("__debug__" : Str)) = false := by decide) : EE X g W0 (.Call (.Name x p) [] [] pos) (wCall S wNil) := by
  obtain ⟨f, fd, ps, F, hm, hk, hb⟩ := h.ex
  exact ee_call0 F hr hg hm hk hb passL (fun _ _ _ _ z => z) hdb
/-- within a def that may let an exception out -/
theorem ee_hasX {E : XK} (h : Has X.prog X.w X.K X.mg X.base k x S) (hr : Room k X.A) (hg : Gl X x) (tk : Takes X fun cls d _ H => E cls d H) (ha : EA X g (fun cls d _ H => E cls d H) (e :: es) wa) (hdb : (x == ("__debug__" : Str)) = false := by decide)
    (he : starEach (e :: es) X.env = (false, eval e X.env) :: starEach es X.env := by rfl) (hpl : (backTo pos (starEach es X.env)).any (·.1) = false := by rfl) : EE X g (fun cls d _ H => E cls d H) (.Call (.Name x p) (e :: es) [] pos) (wCall S wa) := by
  obtain ⟨f, fd, ps, F, hm, hk, hb⟩ := h.ex
  exact ee_call F hr hg hm hk hb (passes_call tk fun _ _ _ _ z => z) (fun _ _ _ _ z => z) ha hdb he hpl
end
@[reducible] def oNeg : O1 := fun d k => match d with
  | .int i => k (.v (.int (-i)))
  | _ => False
theorem lift_neg {K : PySem.W.Frag} : Lift1 K (rU fun i => V.int (-i)) oNeg := by
  intro O H x dx QD Q _ hx q fin
  cases hx <;> try exact q.elim
  exact ⟨_, rfl, fin _ H (.v _) (Same.refl H) (.int _) q⟩
section
variable {X : Cx} {g : G} {W : WX} {a : Expr} {wa : WE} {pos : Pos}
theorem ee_neg (ha : EE X g W a wa) : EE X g W (.UnaryOp .USub a pos) (wU oNeg wa) := by
  obtain ⟨t, p, s⟩ := ha.ex
  exact ⟨_, pe_un un_neg p, sem_un lift_neg s⟩
end
/-- a list, a tuple or a text, walked -/
def iSeq (K : PySem.W.Frag) (tl : TE) : TI := fun σ H R => tl σ H fun x H1 => (∃ a, x = .ref a ∧ (∃ xs, SqL K H1 a xs) ∧ R (Itl K a) H1) ∨ (∃ a, x = .ref a ∧ (∃ xs, SqT K H1 a xs) ∧ R (Itt K a) H1) ∨ ∃ z, x = .str z ∧ R (Its z) H1
/-- an expression that is done: its value stands there -/
theorem pi_seq {X : Cx} {tg l : Expr} {tl : TE} (hl : PE X l tl) : PI X tg l (iSeq X.K tl) := by
  refine ⟨fun pins s σ H R I h => ?_⟩
  refine thn (hl.run pins s σ H _ I h) fun v s1 ⟨x, H1, I1, r1, q1⟩ => ?_
  rcases q1 with ⟨a, e, ⟨xs, hq⟩, q⟩ | ⟨a, e, ⟨xs, hq⟩, q⟩ | ⟨z, e, q⟩
  · subst e
    cases r1
    obtain ⟨its, rv, p, hz⟩ := I1.list hq
    refine wpAny_pyIter_list p.isList ?_
    refine ⟨s1.heap.objs.size, [s1.heap.objs.size], _, _, H1, rfl, I1.kept (t' := s1.toks) fun b o e => Heap.get?_push_of_some _ e, turn_list a _, ⟨_, Heap.get?_push_size _ rfl, rfl, rfl⟩, fun b hb => ?_, q⟩
    have e : b = s1.heap.objs.size := by simpa using hb
    subst e
    exact I1.fpOk (Nat.le_refl _) (I1.hok.fresh (Nat.le_refl _))
  · subst e
    cases r1
    obtain ⟨its, rv, p, hz⟩ := I1.tuple hq
    refine wpAny_pyIter_tuple (show s1.heap.IsTuple a its.toArray from p) ?_
    refine ⟨s1.heap.objs.size, [s1.heap.objs.size], _, _, H1, rfl, I1.kept (t' := s1.toks) fun b o e => Heap.get?_push_of_some _ e, turn_tuple a _, ⟨_, Heap.get?_push_size _ rfl, rfl, rfl⟩, fun b hb => ?_, q⟩
    have e : b = s1.heap.objs.size := by simpa using hb
    subst e
    exact I1.fpOk (Nat.le_refl _) (I1.hok.fresh (Nat.le_refl _))
  · subst e
    obtain ⟨t, rfl⟩ := r1
    cases ha : z.cps.all (· < 128)
    · exact wpAny_pyIter_wide ha (pi_one (tk := s1.toks) I1 _ (turn_str _ z t "str_iterator" (.inr rfl)) ⟨_, Heap.get?_push_size _ rfl, rfl, rfl⟩ q)
    · exact wpAny_pyIter_ascii ha (pi_one (tk := s1.toks) I1 _ (turn_str _ z t "str_ascii_iterator" (.inl rfl)) ⟨_, Heap.get?_push_size _ rfl, rfl, rfl⟩ q)
@[reducible] def itemsD : D → Option (List D)
  | .list ds => some ds
  | .tuple ds => some ds
  | .str x => some (strD x)
  | _ => none
@[reducible] def wISeq (we : WE) : WI := fun ρ Q E => we ρ (fun c ρ1 => match frzC c with
  | .v d => optK (itemsD d) fun ds => Q ds ρ1
  | _ => False) E
theorem ei_seq {X : Cx} {g : G} {W : WX} {tg e : Expr} {we : WE} (h : EE X g W e we) : EI X g W tg e (wISeq we) := by
  obtain ⟨t, p, s⟩ := h.ex
  refine ⟨_, pi_seq p, fun σ vs H ρ cs QD ED R hS hw hX hQ => ?_⟩
  refine s σ vs H ρ cs _ ED _ hS hw hX fun x H1 c ρ1 S1 q1 => ?_
  split at q1
  · rename_i d ec
    have S2 := S1.frzTop
    rw [ec] at S2
    have q := S2.top
    cases q with
    | lst h1 h2 => exact .inl ⟨_, rfl, ⟨_, Same.seq same_hide h1⟩, hQ _ [_] [.list _] _ H1 ρ1 rfl S2 walks_list q1⟩
    | tup h1 h2 => exact .inr (.inl ⟨_, rfl, ⟨_, seqT_same same_hide h1⟩, hQ _ [_] [.tuple _] _ H1 ρ1 rfl S2 walks_tup q1⟩)
    | str z => exact .inr (.inr ⟨z, rfl, hQ _ [] [] _ H1 ρ1 rfl S2.pop walks_str q1⟩)
    | _ => exact q1.elim
  · exact q1.elim
end DL

set_option Elab.async false
set_option linter.all false
/-! for the proofs of readings: steps, loops -/
namespace DL
open PySem PySem.Spec PyProof.Rows L2
theorem ifb {A B : Prop} {b : Bool} (h : b = true → A) (h' : b = false → B) : if b = true then A else B := by
  cases b
  · exact h' rfl
  · exact h rfl
theorem eqv_int {a b : Int} : PyData.eqv (.int a) (.int b) = decide (a = b) := by first | rfl | simp [PyData.eqv]
theorem atI_mem {ds : List D} {x : Int} (h0 : 0 ≤ x) (h1 : x < ds.length) : ∃ d, atI ds x = some d ∧ d ∈ ds := by
  obtain ⟨j, rfl⟩ := Int.eq_ofNat_of_zero_le h0
  have hj : j < ds.length := by omega
  exact ⟨ds[j], L2.atI_nat (List.getElem?_eq_getElem hj), List.getElem_mem hj⟩
theorem log2_lt {m : Int} {k : Nat} (h : m.natAbs < 2 ^ k) (h0 : 0 < k) (h9 : k ≤ 9000) : m.natAbs.log2 < 9000 := Nat.lt_of_lt_of_le (PySem.Flt.log2_lt_of h0 h) h9
theorem log2_sm {m : Int} (h : m.natAbs < 18446744073709551616) : m.natAbs.log2 < 9000 := log2_lt (k := 64) h (by decide) (by decide)

theorem forK_ind {wg : WG} {body : WS} {DD : EndsD} (I : List D → Rho → Prop) (h0 : ∀ ρ, I [] ρ → DD.nx ρ)
    (h1 : ∀ d ds ρ (next : Rho → Prop), (∀ ρ', I ds ρ' → next ρ') → I (d :: ds) ρ → wg d ρ fun ρ1 => body ⟨next, DD.rt, DD.nx, next, DD.ex⟩ ρ1) : ∀ ds ρ, I ds ρ → forK wg body ds DD ρ
  | [], ρ, h => h0 ρ h
  | d :: ds, ρ, h => h1 d ds ρ _ (fun ρ' h' => forK_ind I h0 h1 ds ρ' h') h
theorem mem_range {lo : Int} {n : Nat} {d : D} (h : d ∈ rangeD lo n) : ∃ k : Int, d = .int k ∧ lo ≤ k ∧ k < lo + n := by
  obtain ⟨k, h1, rfl⟩ := List.mem_map.mp h
  have := List.mem_range.mp h1
  exact ⟨lo + k, rfl, by omega, by omega⟩
theorem eqv_intV {a b : Int} (h : a = b) : PyData.eqv (.int a) (.int b) = true := by rw [eqv_int]; exact decide_eq_true h
/-! states written out -/
theorem wSeq_i {w u : WS} {nx : Rho → Prop} {rt : KC} {bk ct : Rho → Prop} {ex : KX} {ρ ρ' : Rho} (e : ρ = ρ') (h : w ⟨u ⟨nx, rt, bk, ct, ex⟩, rt, bk, ct, ex⟩ ρ') : wSeq w u ⟨nx, rt, bk, ct, ex⟩ ρ := by
  subst e
  exact h
theorem rs0 {a0 c : C} {l : Rho} : rset (a0 :: l) 0 c = c :: l := rfl
theorem rg0 {a0 : C} {l : Rho} : rget (a0 :: l) 0 = a0 := rfl
theorem rs1 {a0 a1 c : C} {l : Rho} : rset (a0 :: a1 :: l) 1 c = a0 :: c :: l := rfl
theorem rg1 {a0 a1 : C} {l : Rho} : rget (a0 :: a1 :: l) 1 = a1 := rfl
theorem rs2 {a0 a1 a2 c : C} {l : Rho} : rset (a0 :: a1 :: a2 :: l) 2 c = a0 :: a1 :: c :: l := rfl
theorem rg2 {a0 a1 a2 : C} {l : Rho} : rget (a0 :: a1 :: a2 :: l) 2 = a2 := rfl
theorem rs3 {a0 a1 a2 a3 c : C} {l : Rho} : rset (a0 :: a1 :: a2 :: a3 :: l) 3 c = a0 :: a1 :: a2 :: c :: l := rfl
theorem rg3 {a0 a1 a2 a3 : C} {l : Rho} : rget (a0 :: a1 :: a2 :: a3 :: l) 3 = a3 := rfl
theorem rs4 {a0 a1 a2 a3 a4 c : C} {l : Rho} : rset (a0 :: a1 :: a2 :: a3 :: a4 :: l) 4 c = a0 :: a1 :: a2 :: a3 :: c :: l := rfl
theorem rg4 {a0 a1 a2 a3 a4 : C} {l : Rho} : rget (a0 :: a1 :: a2 :: a3 :: a4 :: l) 4 = a4 := rfl
theorem rs5 {a0 a1 a2 a3 a4 a5 c : C} {l : Rho} : rset (a0 :: a1 :: a2 :: a3 :: a4 :: a5 :: l) 5 c = a0 :: a1 :: a2 :: a3 :: a4 :: c :: l := rfl
theorem rg5 {a0 a1 a2 a3 a4 a5 : C} {l : Rho} : rget (a0 :: a1 :: a2 :: a3 :: a4 :: a5 :: l) 5 = a5 := rfl
theorem rs6 {a0 a1 a2 a3 a4 a5 a6 c : C} {l : Rho} : rset (a0 :: a1 :: a2 :: a3 :: a4 :: a5 :: a6 :: l) 6 c = a0 :: a1 :: a2 :: a3 :: a4 :: a5 :: c :: l := rfl
theorem rg6 {a0 a1 a2 a3 a4 a5 a6 : C} {l : Rho} : rget (a0 :: a1 :: a2 :: a3 :: a4 :: a5 :: a6 :: l) 6 = a6 := rfl
theorem rs7 {a0 a1 a2 a3 a4 a5 a6 a7 c : C} {l : Rho} : rset (a0 :: a1 :: a2 :: a3 :: a4 :: a5 :: a6 :: a7 :: l) 7 c = a0 :: a1 :: a2 :: a3 :: a4 :: a5 :: a6 :: c :: l := rfl
theorem rg7 {a0 a1 a2 a3 a4 a5 a6 a7 : C} {l : Rho} : rget (a0 :: a1 :: a2 :: a3 :: a4 :: a5 :: a6 :: a7 :: l) 7 = a7 := rfl
theorem rs8 {a0 a1 a2 a3 a4 a5 a6 a7 a8 c : C} {l : Rho} : rset (a0 :: a1 :: a2 :: a3 :: a4 :: a5 :: a6 :: a7 :: a8 :: l) 8 c = a0 :: a1 :: a2 :: a3 :: a4 :: a5 :: a6 :: a7 :: c :: l := rfl
theorem rg8 {a0 a1 a2 a3 a4 a5 a6 a7 a8 : C} {l : Rho} : rget (a0 :: a1 :: a2 :: a3 :: a4 :: a5 :: a6 :: a7 :: a8 :: l) 8 = a8 := rfl
theorem rs9 {a0 a1 a2 a3 a4 a5 a6 a7 a8 a9 c : C} {l : Rho} : rset (a0 :: a1 :: a2 :: a3 :: a4 :: a5 :: a6 :: a7 :: a8 :: a9 :: l) 9 c = a0 :: a1 :: a2 :: a3 :: a4 :: a5 :: a6 :: a7 :: a8 :: c :: l := rfl
theorem rg9 {a0 a1 a2 a3 a4 a5 a6 a7 a8 a9 : C} {l : Rho} : rget (a0 :: a1 :: a2 :: a3 :: a4 :: a5 :: a6 :: a7 :: a8 :: a9 :: l) 9 = a9 := rfl
theorem rs10 {a0 a1 a2 a3 a4 a5 a6 a7 a8 a9 a10 c : C} {l : Rho} : rset (a0 :: a1 :: a2 :: a3 :: a4 :: a5 :: a6 :: a7 :: a8 :: a9 :: a10 :: l) 10 c = a0 :: a1 :: a2 :: a3 :: a4 :: a5 :: a6 :: a7 :: a8 :: a9 :: c :: l := rfl
theorem rg10 {a0 a1 a2 a3 a4 a5 a6 a7 a8 a9 a10 : C} {l : Rho} : rget (a0 :: a1 :: a2 :: a3 :: a4 :: a5 :: a6 :: a7 :: a8 :: a9 :: a10 :: l) 10 = a10 := rfl
theorem rs11 {a0 a1 a2 a3 a4 a5 a6 a7 a8 a9 a10 a11 c : C} {l : Rho} : rset (a0 :: a1 :: a2 :: a3 :: a4 :: a5 :: a6 :: a7 :: a8 :: a9 :: a10 :: a11 :: l) 11 c = a0 :: a1 :: a2 :: a3 :: a4 :: a5 :: a6 :: a7 :: a8 :: a9 :: a10 :: c :: l := rfl
theorem rg11 {a0 a1 a2 a3 a4 a5 a6 a7 a8 a9 a10 a11 : C} {l : Rho} : rget (a0 :: a1 :: a2 :: a3 :: a4 :: a5 :: a6 :: a7 :: a8 :: a9 :: a10 :: a11 :: l) 11 = a11 := rfl
theorem rs12 {a0 a1 a2 a3 a4 a5 a6 a7 a8 a9 a10 a11 a12 c : C} {l : Rho} : rset (a0 :: a1 :: a2 :: a3 :: a4 :: a5 :: a6 :: a7 :: a8 :: a9 :: a10 :: a11 :: a12 :: l) 12 c = a0 :: a1 :: a2 :: a3 :: a4 :: a5 :: a6 :: a7 :: a8 :: a9 :: a10 :: a11 :: c :: l := rfl
theorem rg12 {a0 a1 a2 a3 a4 a5 a6 a7 a8 a9 a10 a11 a12 : C} {l : Rho} : rget (a0 :: a1 :: a2 :: a3 :: a4 :: a5 :: a6 :: a7 :: a8 :: a9 :: a10 :: a11 :: a12 :: l) 12 = a12 := rfl
theorem rs13 {a0 a1 a2 a3 a4 a5 a6 a7 a8 a9 a10 a11 a12 a13 c : C} {l : Rho} : rset (a0 :: a1 :: a2 :: a3 :: a4 :: a5 :: a6 :: a7 :: a8 :: a9 :: a10 :: a11 :: a12 :: a13 :: l) 13 c = a0 :: a1 :: a2 :: a3 :: a4 :: a5 :: a6 :: a7 :: a8 :: a9 :: a10 :: a11 :: a12 :: c :: l := rfl
theorem rg13 {a0 a1 a2 a3 a4 a5 a6 a7 a8 a9 a10 a11 a12 a13 : C} {l : Rho} : rget (a0 :: a1 :: a2 :: a3 :: a4 :: a5 :: a6 :: a7 :: a8 :: a9 :: a10 :: a11 :: a12 :: a13 :: l) 13 = a13 := rfl
theorem rs14 {a0 a1 a2 a3 a4 a5 a6 a7 a8 a9 a10 a11 a12 a13 a14 c : C} {l : Rho} : rset (a0 :: a1 :: a2 :: a3 :: a4 :: a5 :: a6 :: a7 :: a8 :: a9 :: a10 :: a11 :: a12 :: a13 :: a14 :: l) 14 c = a0 :: a1 :: a2 :: a3 :: a4 :: a5 :: a6 :: a7 :: a8 :: a9 :: a10 :: a11 :: a12 :: a13 :: c :: l := rfl
theorem rg14 {a0 a1 a2 a3 a4 a5 a6 a7 a8 a9 a10 a11 a12 a13 a14 : C} {l : Rho} : rget (a0 :: a1 :: a2 :: a3 :: a4 :: a5 :: a6 :: a7 :: a8 :: a9 :: a10 :: a11 :: a12 :: a13 :: a14 :: l) 14 = a14 := rfl
theorem rs15 {a0 a1 a2 a3 a4 a5 a6 a7 a8 a9 a10 a11 a12 a13 a14 a15 c : C} {l : Rho} : rset (a0 :: a1 :: a2 :: a3 :: a4 :: a5 :: a6 :: a7 :: a8 :: a9 :: a10 :: a11 :: a12 :: a13 :: a14 :: a15 :: l) 15 c = a0 :: a1 :: a2 :: a3 :: a4 :: a5 :: a6 :: a7 :: a8 :: a9 :: a10 :: a11 :: a12 :: a13 :: a14 :: c :: l := rfl
theorem rg15 {a0 a1 a2 a3 a4 a5 a6 a7 a8 a9 a10 a11 a12 a13 a14 a15 : C} {l : Rho} : rget (a0 :: a1 :: a2 :: a3 :: a4 :: a5 :: a6 :: a7 :: a8 :: a9 :: a10 :: a11 :: a12 :: a13 :: a14 :: a15 :: l) 15 = a15 := rfl
theorem rs16 {a0 a1 a2 a3 a4 a5 a6 a7 a8 a9 a10 a11 a12 a13 a14 a15 a16 c : C} {l : Rho} : rset (a0 :: a1 :: a2 :: a3 :: a4 :: a5 :: a6 :: a7 :: a8 :: a9 :: a10 :: a11 :: a12 :: a13 :: a14 :: a15 :: a16 :: l) 16 c = a0 :: a1 :: a2 :: a3 :: a4 :: a5 :: a6 :: a7 :: a8 :: a9 :: a10 :: a11 :: a12 :: a13 :: a14 :: a15 :: c :: l := rfl
theorem rg16 {a0 a1 a2 a3 a4 a5 a6 a7 a8 a9 a10 a11 a12 a13 a14 a15 a16 : C} {l : Rho} : rget (a0 :: a1 :: a2 :: a3 :: a4 :: a5 :: a6 :: a7 :: a8 :: a9 :: a10 :: a11 :: a12 :: a13 :: a14 :: a15 :: a16 :: l) 16 = a16 := rfl
theorem rs17 {a0 a1 a2 a3 a4 a5 a6 a7 a8 a9 a10 a11 a12 a13 a14 a15 a16 a17 c : C} {l : Rho} : rset (a0 :: a1 :: a2 :: a3 :: a4 :: a5 :: a6 :: a7 :: a8 :: a9 :: a10 :: a11 :: a12 :: a13 :: a14 :: a15 :: a16 :: a17 :: l) 17 c = a0 :: a1 :: a2 :: a3 :: a4 :: a5 :: a6 :: a7 :: a8 :: a9 :: a10 :: a11 :: a12 :: a13 :: a14 :: a15 :: a16 :: c :: l := rfl
theorem rg17 {a0 a1 a2 a3 a4 a5 a6 a7 a8 a9 a10 a11 a12 a13 a14 a15 a16 a17 : C} {l : Rho} : rget (a0 :: a1 :: a2 :: a3 :: a4 :: a5 :: a6 :: a7 :: a8 :: a9 :: a10 :: a11 :: a12 :: a13 :: a14 :: a15 :: a16 :: a17 :: l) 17 = a17 := rfl
theorem rs18 {a0 a1 a2 a3 a4 a5 a6 a7 a8 a9 a10 a11 a12 a13 a14 a15 a16 a17 a18 c : C} {l : Rho} : rset (a0 :: a1 :: a2 :: a3 :: a4 :: a5 :: a6 :: a7 :: a8 :: a9 :: a10 :: a11 :: a12 :: a13 :: a14 :: a15 :: a16 :: a17 :: a18 :: l) 18 c = a0 :: a1 :: a2 :: a3 :: a4 :: a5 :: a6 :: a7 :: a8 :: a9 :: a10 :: a11 :: a12 :: a13 :: a14 :: a15 :: a16 :: a17 :: c :: l := rfl
theorem rg18 {a0 a1 a2 a3 a4 a5 a6 a7 a8 a9 a10 a11 a12 a13 a14 a15 a16 a17 a18 : C} {l : Rho} : rget (a0 :: a1 :: a2 :: a3 :: a4 :: a5 :: a6 :: a7 :: a8 :: a9 :: a10 :: a11 :: a12 :: a13 :: a14 :: a15 :: a16 :: a17 :: a18 :: l) 18 = a18 := rfl
theorem rs19 {a0 a1 a2 a3 a4 a5 a6 a7 a8 a9 a10 a11 a12 a13 a14 a15 a16 a17 a18 a19 c : C} {l : Rho} : rset (a0 :: a1 :: a2 :: a3 :: a4 :: a5 :: a6 :: a7 :: a8 :: a9 :: a10 :: a11 :: a12 :: a13 :: a14 :: a15 :: a16 :: a17 :: a18 :: a19 :: l) 19 c = a0 :: a1 :: a2 :: a3 :: a4 :: a5 :: a6 :: a7 :: a8 :: a9 :: a10 :: a11 :: a12 :: a13 :: a14 :: a15 :: a16 :: a17 :: a18 :: c :: l := rfl
theorem rg19 {a0 a1 a2 a3 a4 a5 a6 a7 a8 a9 a10 a11 a12 a13 a14 a15 a16 a17 a18 a19 : C} {l : Rho} : rget (a0 :: a1 :: a2 :: a3 :: a4 :: a5 :: a6 :: a7 :: a8 :: a9 :: a10 :: a11 :: a12 :: a13 :: a14 :: a15 :: a16 :: a17 :: a18 :: a19 :: l) 19 = a19 := rfl
theorem rs20 {a0 a1 a2 a3 a4 a5 a6 a7 a8 a9 a10 a11 a12 a13 a14 a15 a16 a17 a18 a19 a20 c : C} {l : Rho} : rset (a0 :: a1 :: a2 :: a3 :: a4 :: a5 :: a6 :: a7 :: a8 :: a9 :: a10 :: a11 :: a12 :: a13 :: a14 :: a15 :: a16 :: a17 :: a18 :: a19 :: a20 :: l) 20 c = a0 :: a1 :: a2 :: a3 :: a4 :: a5 :: a6 :: a7 :: a8 :: a9 :: a10 :: a11 :: a12 :: a13 :: a14 :: a15 :: a16 :: a17 :: a18 :: a19 :: c :: l := rfl
theorem rg20 {a0 a1 a2 a3 a4 a5 a6 a7 a8 a9 a10 a11 a12 a13 a14 a15 a16 a17 a18 a19 a20 : C} {l : Rho} : rget (a0 :: a1 :: a2 :: a3 :: a4 :: a5 :: a6 :: a7 :: a8 :: a9 :: a10 :: a11 :: a12 :: a13 :: a14 :: a15 :: a16 :: a17 :: a18 :: a19 :: a20 :: l) 20 = a20 := rfl
theorem rs21 {a0 a1 a2 a3 a4 a5 a6 a7 a8 a9 a10 a11 a12 a13 a14 a15 a16 a17 a18 a19 a20 a21 c : C} {l : Rho} : rset (a0 :: a1 :: a2 :: a3 :: a4 :: a5 :: a6 :: a7 :: a8 :: a9 :: a10 :: a11 :: a12 :: a13 :: a14 :: a15 :: a16 :: a17 :: a18 :: a19 :: a20 :: a21 :: l) 21 c = a0 :: a1 :: a2 :: a3 :: a4 :: a5 :: a6 :: a7 :: a8 :: a9 :: a10 :: a11 :: a12 :: a13 :: a14 :: a15 :: a16 :: a17 :: a18 :: a19 :: a20 :: c :: l := rfl
theorem rg21 {a0 a1 a2 a3 a4 a5 a6 a7 a8 a9 a10 a11 a12 a13 a14 a15 a16 a17 a18 a19 a20 a21 : C} {l : Rho} : rget (a0 :: a1 :: a2 :: a3 :: a4 :: a5 :: a6 :: a7 :: a8 :: a9 :: a10 :: a11 :: a12 :: a13 :: a14 :: a15 :: a16 :: a17 :: a18 :: a19 :: a20 :: a21 :: l) 21 = a21 := rfl
theorem rs22 {a0 a1 a2 a3 a4 a5 a6 a7 a8 a9 a10 a11 a12 a13 a14 a15 a16 a17 a18 a19 a20 a21 a22 c : C} {l : Rho} : rset (a0 :: a1 :: a2 :: a3 :: a4 :: a5 :: a6 :: a7 :: a8 :: a9 :: a10 :: a11 :: a12 :: a13 :: a14 :: a15 :: a16 :: a17 :: a18 :: a19 :: a20 :: a21 :: a22 :: l) 22 c = a0 :: a1 :: a2 :: a3 :: a4 :: a5 :: a6 :: a7 :: a8 :: a9 :: a10 :: a11 :: a12 :: a13 :: a14 :: a15 :: a16 :: a17 :: a18 :: a19 :: a20 :: a21 :: c :: l := rfl
theorem rg22 {a0 a1 a2 a3 a4 a5 a6 a7 a8 a9 a10 a11 a12 a13 a14 a15 a16 a17 a18 a19 a20 a21 a22 : C} {l : Rho} : rget (a0 :: a1 :: a2 :: a3 :: a4 :: a5 :: a6 :: a7 :: a8 :: a9 :: a10 :: a11 :: a12 :: a13 :: a14 :: a15 :: a16 :: a17 :: a18 :: a19 :: a20 :: a21 :: a22 :: l) 22 = a22 := rfl
theorem rs23 {a0 a1 a2 a3 a4 a5 a6 a7 a8 a9 a10 a11 a12 a13 a14 a15 a16 a17 a18 a19 a20 a21 a22 a23 c : C} {l : Rho} : rset (a0 :: a1 :: a2 :: a3 :: a4 :: a5 :: a6 :: a7 :: a8 :: a9 :: a10 :: a11 :: a12 :: a13 :: a14 :: a15 :: a16 :: a17 :: a18 :: a19 :: a20 :: a21 :: a22 :: a23 :: l) 23 c = a0 :: a1 :: a2 :: a3 :: a4 :: a5 :: a6 :: a7 :: a8 :: a9 :: a10 :: a11 :: a12 :: a13 :: a14 :: a15 :: a16 :: a17 :: a18 :: a19 :: a20 :: a21 :: a22 :: c :: l := rfl
theorem rg23 {a0 a1 a2 a3 a4 a5 a6 a7 a8 a9 a10 a11 a12 a13 a14 a15 a16 a17 a18 a19 a20 a21 a22 a23 : C} {l : Rho} : rget (a0 :: a1 :: a2 :: a3 :: a4 :: a5 :: a6 :: a7 :: a8 :: a9 :: a10 :: a11 :: a12 :: a13 :: a14 :: a15 :: a16 :: a17 :: a18 :: a19 :: a20 :: a21 :: a22 :: a23 :: l) 23 = a23 := rfl
theorem rs24 {a0 a1 a2 a3 a4 a5 a6 a7 a8 a9 a10 a11 a12 a13 a14 a15 a16 a17 a18 a19 a20 a21 a22 a23 a24 c : C} {l : Rho} : rset (a0 :: a1 :: a2 :: a3 :: a4 :: a5 :: a6 :: a7 :: a8 :: a9 :: a10 :: a11 :: a12 :: a13 :: a14 :: a15 :: a16 :: a17 :: a18 :: a19 :: a20 :: a21 :: a22 :: a23 :: a24 :: l) 24 c = a0 :: a1 :: a2 :: a3 :: a4 :: a5 :: a6 :: a7 :: a8 :: a9 :: a10 :: a11 :: a12 :: a13 :: a14 :: a15 :: a16 :: a17 :: a18 :: a19 :: a20 :: a21 :: a22 :: a23 :: c :: l := rfl
theorem rg24 {a0 a1 a2 a3 a4 a5 a6 a7 a8 a9 a10 a11 a12 a13 a14 a15 a16 a17 a18 a19 a20 a21 a22 a23 a24 : C} {l : Rho} : rget (a0 :: a1 :: a2 :: a3 :: a4 :: a5 :: a6 :: a7 :: a8 :: a9 :: a10 :: a11 :: a12 :: a13 :: a14 :: a15 :: a16 :: a17 :: a18 :: a19 :: a20 :: a21 :: a22 :: a23 :: a24 :: l) 24 = a24 := rfl
theorem rs25 {a0 a1 a2 a3 a4 a5 a6 a7 a8 a9 a10 a11 a12 a13 a14 a15 a16 a17 a18 a19 a20 a21 a22 a23 a24 a25 c : C} {l : Rho} : rset (a0 :: a1 :: a2 :: a3 :: a4 :: a5 :: a6 :: a7 :: a8 :: a9 :: a10 :: a11 :: a12 :: a13 :: a14 :: a15 :: a16 :: a17 :: a18 :: a19 :: a20 :: a21 :: a22 :: a23 :: a24 :: a25 :: l) 25 c = a0 :: a1 :: a2 :: a3 :: a4 :: a5 :: a6 :: a7 :: a8 :: a9 :: a10 :: a11 :: a12 :: a13 :: a14 :: a15 :: a16 :: a17 :: a18 :: a19 :: a20 :: a21 :: a22 :: a23 :: a24 :: c :: l := rfl
theorem rg25 {a0 a1 a2 a3 a4 a5 a6 a7 a8 a9 a10 a11 a12 a13 a14 a15 a16 a17 a18 a19 a20 a21 a22 a23 a24 a25 : C} {l : Rho} : rget (a0 :: a1 :: a2 :: a3 :: a4 :: a5 :: a6 :: a7 :: a8 :: a9 :: a10 :: a11 :: a12 :: a13 :: a14 :: a15 :: a16 :: a17 :: a18 :: a19 :: a20 :: a21 :: a22 :: a23 :: a24 :: a25 :: l) 25 = a25 := rfl
theorem rs26 {a0 a1 a2 a3 a4 a5 a6 a7 a8 a9 a10 a11 a12 a13 a14 a15 a16 a17 a18 a19 a20 a21 a22 a23 a24 a25 a26 c : C} {l : Rho} : rset (a0 :: a1 :: a2 :: a3 :: a4 :: a5 :: a6 :: a7 :: a8 :: a9 :: a10 :: a11 :: a12 :: a13 :: a14 :: a15 :: a16 :: a17 :: a18 :: a19 :: a20 :: a21 :: a22 :: a23 :: a24 :: a25 :: a26 :: l) 26 c = a0 :: a1 :: a2 :: a3 :: a4 :: a5 :: a6 :: a7 :: a8 :: a9 :: a10 :: a11 :: a12 :: a13 :: a14 :: a15 :: a16 :: a17 :: a18 :: a19 :: a20 :: a21 :: a22 :: a23 :: a24 :: a25 :: c :: l := rfl
theorem rg26 {a0 a1 a2 a3 a4 a5 a6 a7 a8 a9 a10 a11 a12 a13 a14 a15 a16 a17 a18 a19 a20 a21 a22 a23 a24 a25 a26 : C} {l : Rho} : rget (a0 :: a1 :: a2 :: a3 :: a4 :: a5 :: a6 :: a7 :: a8 :: a9 :: a10 :: a11 :: a12 :: a13 :: a14 :: a15 :: a16 :: a17 :: a18 :: a19 :: a20 :: a21 :: a22 :: a23 :: a24 :: a25 :: a26 :: l) 26 = a26 := rfl
theorem rs27 {a0 a1 a2 a3 a4 a5 a6 a7 a8 a9 a10 a11 a12 a13 a14 a15 a16 a17 a18 a19 a20 a21 a22 a23 a24 a25 a26 a27 c : C} {l : Rho} : rset (a0 :: a1 :: a2 :: a3 :: a4 :: a5 :: a6 :: a7 :: a8 :: a9 :: a10 :: a11 :: a12 :: a13 :: a14 :: a15 :: a16 :: a17 :: a18 :: a19 :: a20 :: a21 :: a22 :: a23 :: a24 :: a25 :: a26 :: a27 :: l) 27 c = a0 :: a1 :: a2 :: a3 :: a4 :: a5 :: a6 :: a7 :: a8 :: a9 :: a10 :: a11 :: a12 :: a13 :: a14 :: a15 :: a16 :: a17 :: a18 :: a19 :: a20 :: a21 :: a22 :: a23 :: a24 :: a25 :: a26 :: c :: l := rfl
theorem rg27 {a0 a1 a2 a3 a4 a5 a6 a7 a8 a9 a10 a11 a12 a13 a14 a15 a16 a17 a18 a19 a20 a21 a22 a23 a24 a25 a26 a27 : C} {l : Rho} : rget (a0 :: a1 :: a2 :: a3 :: a4 :: a5 :: a6 :: a7 :: a8 :: a9 :: a10 :: a11 :: a12 :: a13 :: a14 :: a15 :: a16 :: a17 :: a18 :: a19 :: a20 :: a21 :: a22 :: a23 :: a24 :: a25 :: a26 :: a27 :: l) 27 = a27 := rfl
theorem rs28 {a0 a1 a2 a3 a4 a5 a6 a7 a8 a9 a10 a11 a12 a13 a14 a15 a16 a17 a18 a19 a20 a21 a22 a23 a24 a25 a26 a27 a28 c : C} {l : Rho} : rset (a0 :: a1 :: a2 :: a3 :: a4 :: a5 :: a6 :: a7 :: a8 :: a9 :: a10 :: a11 :: a12 :: a13 :: a14 :: a15 :: a16 :: a17 :: a18 :: a19 :: a20 :: a21 :: a22 :: a23 :: a24 :: a25 :: a26 :: a27 :: a28 :: l) 28 c = a0 :: a1 :: a2 :: a3 :: a4 :: a5 :: a6 :: a7 :: a8 :: a9 :: a10 :: a11 :: a12 :: a13 :: a14 :: a15 :: a16 :: a17 :: a18 :: a19 :: a20 :: a21 :: a22 :: a23 :: a24 :: a25 :: a26 :: a27 :: c :: l := rfl
theorem rg28 {a0 a1 a2 a3 a4 a5 a6 a7 a8 a9 a10 a11 a12 a13 a14 a15 a16 a17 a18 a19 a20 a21 a22 a23 a24 a25 a26 a27 a28 : C} {l : Rho} : rget (a0 :: a1 :: a2 :: a3 :: a4 :: a5 :: a6 :: a7 :: a8 :: a9 :: a10 :: a11 :: a12 :: a13 :: a14 :: a15 :: a16 :: a17 :: a18 :: a19 :: a20 :: a21 :: a22 :: a23 :: a24 :: a25 :: a26 :: a27 :: a28 :: l) 28 = a28 := rfl
theorem rs29 {a0 a1 a2 a3 a4 a5 a6 a7 a8 a9 a10 a11 a12 a13 a14 a15 a16 a17 a18 a19 a20 a21 a22 a23 a24 a25 a26 a27 a28 a29 c : C} {l : Rho} : rset (a0 :: a1 :: a2 :: a3 :: a4 :: a5 :: a6 :: a7 :: a8 :: a9 :: a10 :: a11 :: a12 :: a13 :: a14 :: a15 :: a16 :: a17 :: a18 :: a19 :: a20 :: a21 :: a22 :: a23 :: a24 :: a25 :: a26 :: a27 :: a28 :: a29 :: l) 29 c = a0 :: a1 :: a2 :: a3 :: a4 :: a5 :: a6 :: a7 :: a8 :: a9 :: a10 :: a11 :: a12 :: a13 :: a14 :: a15 :: a16 :: a17 :: a18 :: a19 :: a20 :: a21 :: a22 :: a23 :: a24 :: a25 :: a26 :: a27 :: a28 :: c :: l := rfl
theorem rg29 {a0 a1 a2 a3 a4 a5 a6 a7 a8 a9 a10 a11 a12 a13 a14 a15 a16 a17 a18 a19 a20 a21 a22 a23 a24 a25 a26 a27 a28 a29 : C} {l : Rho} : rget (a0 :: a1 :: a2 :: a3 :: a4 :: a5 :: a6 :: a7 :: a8 :: a9 :: a10 :: a11 :: a12 :: a13 :: a14 :: a15 :: a16 :: a17 :: a18 :: a19 :: a20 :: a21 :: a22 :: a23 :: a24 :: a25 :: a26 :: a27 :: a28 :: a29 :: l) 29 = a29 := rfl
theorem rs30 {a0 a1 a2 a3 a4 a5 a6 a7 a8 a9 a10 a11 a12 a13 a14 a15 a16 a17 a18 a19 a20 a21 a22 a23 a24 a25 a26 a27 a28 a29 a30 c : C} {l : Rho} : rset (a0 :: a1 :: a2 :: a3 :: a4 :: a5 :: a6 :: a7 :: a8 :: a9 :: a10 :: a11 :: a12 :: a13 :: a14 :: a15 :: a16 :: a17 :: a18 :: a19 :: a20 :: a21 :: a22 :: a23 :: a24 :: a25 :: a26 :: a27 :: a28 :: a29 :: a30 :: l) 30 c = a0 :: a1 :: a2 :: a3 :: a4 :: a5 :: a6 :: a7 :: a8 :: a9 :: a10 :: a11 :: a12 :: a13 :: a14 :: a15 :: a16 :: a17 :: a18 :: a19 :: a20 :: a21 :: a22 :: a23 :: a24 :: a25 :: a26 :: a27 :: a28 :: a29 :: c :: l := rfl
theorem rg30 {a0 a1 a2 a3 a4 a5 a6 a7 a8 a9 a10 a11 a12 a13 a14 a15 a16 a17 a18 a19 a20 a21 a22 a23 a24 a25 a26 a27 a28 a29 a30 : C} {l : Rho} : rget (a0 :: a1 :: a2 :: a3 :: a4 :: a5 :: a6 :: a7 :: a8 :: a9 :: a10 :: a11 :: a12 :: a13 :: a14 :: a15 :: a16 :: a17 :: a18 :: a19 :: a20 :: a21 :: a22 :: a23 :: a24 :: a25 :: a26 :: a27 :: a28 :: a29 :: a30 :: l) 30 = a30 := rfl
theorem rs31 {a0 a1 a2 a3 a4 a5 a6 a7 a8 a9 a10 a11 a12 a13 a14 a15 a16 a17 a18 a19 a20 a21 a22 a23 a24 a25 a26 a27 a28 a29 a30 a31 c : C} {l : Rho} : rset (a0 :: a1 :: a2 :: a3 :: a4 :: a5 :: a6 :: a7 :: a8 :: a9 :: a10 :: a11 :: a12 :: a13 :: a14 :: a15 :: a16 :: a17 :: a18 :: a19 :: a20 :: a21 :: a22 :: a23 :: a24 :: a25 :: a26 :: a27 :: a28 :: a29 :: a30 :: a31 :: l) 31 c = a0 :: a1 :: a2 :: a3 :: a4 :: a5 :: a6 :: a7 :: a8 :: a9 :: a10 :: a11 :: a12 :: a13 :: a14 :: a15 :: a16 :: a17 :: a18 :: a19 :: a20 :: a21 :: a22 :: a23 :: a24 :: a25 :: a26 :: a27 :: a28 :: a29 :: a30 :: c :: l := rfl
theorem rg31 {a0 a1 a2 a3 a4 a5 a6 a7 a8 a9 a10 a11 a12 a13 a14 a15 a16 a17 a18 a19 a20 a21 a22 a23 a24 a25 a26 a27 a28 a29 a30 a31 : C} {l : Rho} : rget (a0 :: a1 :: a2 :: a3 :: a4 :: a5 :: a6 :: a7 :: a8 :: a9 :: a10 :: a11 :: a12 :: a13 :: a14 :: a15 :: a16 :: a17 :: a18 :: a19 :: a20 :: a21 :: a22 :: a23 :: a24 :: a25 :: a26 :: a27 :: a28 :: a29 :: a30 :: a31 :: l) 31 = a31 := rfl
theorem rs32 {a0 a1 a2 a3 a4 a5 a6 a7 a8 a9 a10 a11 a12 a13 a14 a15 a16 a17 a18 a19 a20 a21 a22 a23 a24 a25 a26 a27 a28 a29 a30 a31 a32 c : C} {l : Rho} : rset (a0 :: a1 :: a2 :: a3 :: a4 :: a5 :: a6 :: a7 :: a8 :: a9 :: a10 :: a11 :: a12 :: a13 :: a14 :: a15 :: a16 :: a17 :: a18 :: a19 :: a20 :: a21 :: a22 :: a23 :: a24 :: a25 :: a26 :: a27 :: a28 :: a29 :: a30 :: a31 :: a32 :: l) 32 c = a0 :: a1 :: a2 :: a3 :: a4 :: a5 :: a6 :: a7 :: a8 :: a9 :: a10 :: a11 :: a12 :: a13 :: a14 :: a15 :: a16 :: a17 :: a18 :: a19 :: a20 :: a21 :: a22 :: a23 :: a24 :: a25 :: a26 :: a27 :: a28 :: a29 :: a30 :: a31 :: c :: l := rfl
theorem rg32 {a0 a1 a2 a3 a4 a5 a6 a7 a8 a9 a10 a11 a12 a13 a14 a15 a16 a17 a18 a19 a20 a21 a22 a23 a24 a25 a26 a27 a28 a29 a30 a31 a32 : C} {l : Rho} : rget (a0 :: a1 :: a2 :: a3 :: a4 :: a5 :: a6 :: a7 :: a8 :: a9 :: a10 :: a11 :: a12 :: a13 :: a14 :: a15 :: a16 :: a17 :: a18 :: a19 :: a20 :: a21 :: a22 :: a23 :: a24 :: a25 :: a26 :: a27 :: a28 :: a29 :: a30 :: a31 :: a32 :: l) 32 = a32 := rfl
theorem rs33 {a0 a1 a2 a3 a4 a5 a6 a7 a8 a9 a10 a11 a12 a13 a14 a15 a16 a17 a18 a19 a20 a21 a22 a23 a24 a25 a26 a27 a28 a29 a30 a31 a32 a33 c : C} {l : Rho} : rset (a0 :: a1 :: a2 :: a3 :: a4 :: a5 :: a6 :: a7 :: a8 :: a9 :: a10 :: a11 :: a12 :: a13 :: a14 :: a15 :: a16 :: a17 :: a18 :: a19 :: a20 :: a21 :: a22 :: a23 :: a24 :: a25 :: a26 :: a27 :: a28 :: a29 :: a30 :: a31 :: a32 :: a33 :: l) 33 c = a0 :: a1 :: a2 :: a3 :: a4 :: a5 :: a6 :: a7 :: a8 :: a9 :: a10 :: a11 :: a12 :: a13 :: a14 :: a15 :: a16 :: a17 :: a18 :: a19 :: a20 :: a21 :: a22 :: a23 :: a24 :: a25 :: a26 :: a27 :: a28 :: a29 :: a30 :: a31 :: a32 :: c :: l := rfl
theorem rg33 {a0 a1 a2 a3 a4 a5 a6 a7 a8 a9 a10 a11 a12 a13 a14 a15 a16 a17 a18 a19 a20 a21 a22 a23 a24 a25 a26 a27 a28 a29 a30 a31 a32 a33 : C} {l : Rho} : rget (a0 :: a1 :: a2 :: a3 :: a4 :: a5 :: a6 :: a7 :: a8 :: a9 :: a10 :: a11 :: a12 :: a13 :: a14 :: a15 :: a16 :: a17 :: a18 :: a19 :: a20 :: a21 :: a22 :: a23 :: a24 :: a25 :: a26 :: a27 :: a28 :: a29 :: a30 :: a31 :: a32 :: a33 :: l) 33 = a33 := rfl
theorem rs34 {a0 a1 a2 a3 a4 a5 a6 a7 a8 a9 a10 a11 a12 a13 a14 a15 a16 a17 a18 a19 a20 a21 a22 a23 a24 a25 a26 a27 a28 a29 a30 a31 a32 a33 a34 c : C} {l : Rho} : rset (a0 :: a1 :: a2 :: a3 :: a4 :: a5 :: a6 :: a7 :: a8 :: a9 :: a10 :: a11 :: a12 :: a13 :: a14 :: a15 :: a16 :: a17 :: a18 :: a19 :: a20 :: a21 :: a22 :: a23 :: a24 :: a25 :: a26 :: a27 :: a28 :: a29 :: a30 :: a31 :: a32 :: a33 :: a34 :: l) 34 c = a0 :: a1 :: a2 :: a3 :: a4 :: a5 :: a6 :: a7 :: a8 :: a9 :: a10 :: a11 :: a12 :: a13 :: a14 :: a15 :: a16 :: a17 :: a18 :: a19 :: a20 :: a21 :: a22 :: a23 :: a24 :: a25 :: a26 :: a27 :: a28 :: a29 :: a30 :: a31 :: a32 :: a33 :: c :: l := rfl
theorem rg34 {a0 a1 a2 a3 a4 a5 a6 a7 a8 a9 a10 a11 a12 a13 a14 a15 a16 a17 a18 a19 a20 a21 a22 a23 a24 a25 a26 a27 a28 a29 a30 a31 a32 a33 a34 : C} {l : Rho} : rget (a0 :: a1 :: a2 :: a3 :: a4 :: a5 :: a6 :: a7 :: a8 :: a9 :: a10 :: a11 :: a12 :: a13 :: a14 :: a15 :: a16 :: a17 :: a18 :: a19 :: a20 :: a21 :: a22 :: a23 :: a24 :: a25 :: a26 :: a27 :: a28 :: a29 :: a30 :: a31 :: a32 :: a33 :: a34 :: l) 34 = a34 := rfl
theorem rs35 {a0 a1 a2 a3 a4 a5 a6 a7 a8 a9 a10 a11 a12 a13 a14 a15 a16 a17 a18 a19 a20 a21 a22 a23 a24 a25 a26 a27 a28 a29 a30 a31 a32 a33 a34 a35 c : C} {l : Rho} : rset (a0 :: a1 :: a2 :: a3 :: a4 :: a5 :: a6 :: a7 :: a8 :: a9 :: a10 :: a11 :: a12 :: a13 :: a14 :: a15 :: a16 :: a17 :: a18 :: a19 :: a20 :: a21 :: a22 :: a23 :: a24 :: a25 :: a26 :: a27 :: a28 :: a29 :: a30 :: a31 :: a32 :: a33 :: a34 :: a35 :: l) 35 c = a0 :: a1 :: a2 :: a3 :: a4 :: a5 :: a6 :: a7 :: a8 :: a9 :: a10 :: a11 :: a12 :: a13 :: a14 :: a15 :: a16 :: a17 :: a18 :: a19 :: a20 :: a21 :: a22 :: a23 :: a24 :: a25 :: a26 :: a27 :: a28 :: a29 :: a30 :: a31 :: a32 :: a33 :: a34 :: c :: l := rfl
theorem rg35 {a0 a1 a2 a3 a4 a5 a6 a7 a8 a9 a10 a11 a12 a13 a14 a15 a16 a17 a18 a19 a20 a21 a22 a23 a24 a25 a26 a27 a28 a29 a30 a31 a32 a33 a34 a35 : C} {l : Rho} : rget (a0 :: a1 :: a2 :: a3 :: a4 :: a5 :: a6 :: a7 :: a8 :: a9 :: a10 :: a11 :: a12 :: a13 :: a14 :: a15 :: a16 :: a17 :: a18 :: a19 :: a20 :: a21 :: a22 :: a23 :: a24 :: a25 :: a26 :: a27 :: a28 :: a29 :: a30 :: a31 :: a32 :: a33 :: a34 :: a35 :: l) 35 = a35 := rfl
theorem rs36 {a0 a1 a2 a3 a4 a5 a6 a7 a8 a9 a10 a11 a12 a13 a14 a15 a16 a17 a18 a19 a20 a21 a22 a23 a24 a25 a26 a27 a28 a29 a30 a31 a32 a33 a34 a35 a36 c : C} {l : Rho} : rset (a0 :: a1 :: a2 :: a3 :: a4 :: a5 :: a6 :: a7 :: a8 :: a9 :: a10 :: a11 :: a12 :: a13 :: a14 :: a15 :: a16 :: a17 :: a18 :: a19 :: a20 :: a21 :: a22 :: a23 :: a24 :: a25 :: a26 :: a27 :: a28 :: a29 :: a30 :: a31 :: a32 :: a33 :: a34 :: a35 :: a36 :: l) 36 c = a0 :: a1 :: a2 :: a3 :: a4 :: a5 :: a6 :: a7 :: a8 :: a9 :: a10 :: a11 :: a12 :: a13 :: a14 :: a15 :: a16 :: a17 :: a18 :: a19 :: a20 :: a21 :: a22 :: a23 :: a24 :: a25 :: a26 :: a27 :: a28 :: a29 :: a30 :: a31 :: a32 :: a33 :: a34 :: a35 :: c :: l := rfl
theorem rg36 {a0 a1 a2 a3 a4 a5 a6 a7 a8 a9 a10 a11 a12 a13 a14 a15 a16 a17 a18 a19 a20 a21 a22 a23 a24 a25 a26 a27 a28 a29 a30 a31 a32 a33 a34 a35 a36 : C} {l : Rho} : rget (a0 :: a1 :: a2 :: a3 :: a4 :: a5 :: a6 :: a7 :: a8 :: a9 :: a10 :: a11 :: a12 :: a13 :: a14 :: a15 :: a16 :: a17 :: a18 :: a19 :: a20 :: a21 :: a22 :: a23 :: a24 :: a25 :: a26 :: a27 :: a28 :: a29 :: a30 :: a31 :: a32 :: a33 :: a34 :: a35 :: a36 :: l) 36 = a36 := rfl
theorem rs37 {a0 a1 a2 a3 a4 a5 a6 a7 a8 a9 a10 a11 a12 a13 a14 a15 a16 a17 a18 a19 a20 a21 a22 a23 a24 a25 a26 a27 a28 a29 a30 a31 a32 a33 a34 a35 a36 a37 c : C} {l : Rho} : rset (a0 :: a1 :: a2 :: a3 :: a4 :: a5 :: a6 :: a7 :: a8 :: a9 :: a10 :: a11 :: a12 :: a13 :: a14 :: a15 :: a16 :: a17 :: a18 :: a19 :: a20 :: a21 :: a22 :: a23 :: a24 :: a25 :: a26 :: a27 :: a28 :: a29 :: a30 :: a31 :: a32 :: a33 :: a34 :: a35 :: a36 :: a37 :: l) 37 c = a0 :: a1 :: a2 :: a3 :: a4 :: a5 :: a6 :: a7 :: a8 :: a9 :: a10 :: a11 :: a12 :: a13 :: a14 :: a15 :: a16 :: a17 :: a18 :: a19 :: a20 :: a21 :: a22 :: a23 :: a24 :: a25 :: a26 :: a27 :: a28 :: a29 :: a30 :: a31 :: a32 :: a33 :: a34 :: a35 :: a36 :: c :: l := rfl
theorem rg37 {a0 a1 a2 a3 a4 a5 a6 a7 a8 a9 a10 a11 a12 a13 a14 a15 a16 a17 a18 a19 a20 a21 a22 a23 a24 a25 a26 a27 a28 a29 a30 a31 a32 a33 a34 a35 a36 a37 : C} {l : Rho} : rget (a0 :: a1 :: a2 :: a3 :: a4 :: a5 :: a6 :: a7 :: a8 :: a9 :: a10 :: a11 :: a12 :: a13 :: a14 :: a15 :: a16 :: a17 :: a18 :: a19 :: a20 :: a21 :: a22 :: a23 :: a24 :: a25 :: a26 :: a27 :: a28 :: a29 :: a30 :: a31 :: a32 :: a33 :: a34 :: a35 :: a36 :: a37 :: l) 37 = a37 := rfl
theorem rs38 {a0 a1 a2 a3 a4 a5 a6 a7 a8 a9 a10 a11 a12 a13 a14 a15 a16 a17 a18 a19 a20 a21 a22 a23 a24 a25 a26 a27 a28 a29 a30 a31 a32 a33 a34 a35 a36 a37 a38 c : C} {l : Rho} : rset (a0 :: a1 :: a2 :: a3 :: a4 :: a5 :: a6 :: a7 :: a8 :: a9 :: a10 :: a11 :: a12 :: a13 :: a14 :: a15 :: a16 :: a17 :: a18 :: a19 :: a20 :: a21 :: a22 :: a23 :: a24 :: a25 :: a26 :: a27 :: a28 :: a29 :: a30 :: a31 :: a32 :: a33 :: a34 :: a35 :: a36 :: a37 :: a38 :: l) 38 c = a0 :: a1 :: a2 :: a3 :: a4 :: a5 :: a6 :: a7 :: a8 :: a9 :: a10 :: a11 :: a12 :: a13 :: a14 :: a15 :: a16 :: a17 :: a18 :: a19 :: a20 :: a21 :: a22 :: a23 :: a24 :: a25 :: a26 :: a27 :: a28 :: a29 :: a30 :: a31 :: a32 :: a33 :: a34 :: a35 :: a36 :: a37 :: c :: l := rfl
theorem rg38 {a0 a1 a2 a3 a4 a5 a6 a7 a8 a9 a10 a11 a12 a13 a14 a15 a16 a17 a18 a19 a20 a21 a22 a23 a24 a25 a26 a27 a28 a29 a30 a31 a32 a33 a34 a35 a36 a37 a38 : C} {l : Rho} : rget (a0 :: a1 :: a2 :: a3 :: a4 :: a5 :: a6 :: a7 :: a8 :: a9 :: a10 :: a11 :: a12 :: a13 :: a14 :: a15 :: a16 :: a17 :: a18 :: a19 :: a20 :: a21 :: a22 :: a23 :: a24 :: a25 :: a26 :: a27 :: a28 :: a29 :: a30 :: a31 :: a32 :: a33 :: a34 :: a35 :: a36 :: a37 :: a38 :: l) 38 = a38 := rfl
theorem rs39 {a0 a1 a2 a3 a4 a5 a6 a7 a8 a9 a10 a11 a12 a13 a14 a15 a16 a17 a18 a19 a20 a21 a22 a23 a24 a25 a26 a27 a28 a29 a30 a31 a32 a33 a34 a35 a36 a37 a38 a39 c : C} {l : Rho} : rset (a0 :: a1 :: a2 :: a3 :: a4 :: a5 :: a6 :: a7 :: a8 :: a9 :: a10 :: a11 :: a12 :: a13 :: a14 :: a15 :: a16 :: a17 :: a18 :: a19 :: a20 :: a21 :: a22 :: a23 :: a24 :: a25 :: a26 :: a27 :: a28 :: a29 :: a30 :: a31 :: a32 :: a33 :: a34 :: a35 :: a36 :: a37 :: a38 :: a39 :: l) 39 c = a0 :: a1 :: a2 :: a3 :: a4 :: a5 :: a6 :: a7 :: a8 :: a9 :: a10 :: a11 :: a12 :: a13 :: a14 :: a15 :: a16 :: a17 :: a18 :: a19 :: a20 :: a21 :: a22 :: a23 :: a24 :: a25 :: a26 :: a27 :: a28 :: a29 :: a30 :: a31 :: a32 :: a33 :: a34 :: a35 :: a36 :: a37 :: a38 :: c :: l := rfl
theorem rg39 {a0 a1 a2 a3 a4 a5 a6 a7 a8 a9 a10 a11 a12 a13 a14 a15 a16 a17 a18 a19 a20 a21 a22 a23 a24 a25 a26 a27 a28 a29 a30 a31 a32 a33 a34 a35 a36 a37 a38 a39 : C} {l : Rho} : rget (a0 :: a1 :: a2 :: a3 :: a4 :: a5 :: a6 :: a7 :: a8 :: a9 :: a10 :: a11 :: a12 :: a13 :: a14 :: a15 :: a16 :: a17 :: a18 :: a19 :: a20 :: a21 :: a22 :: a23 :: a24 :: a25 :: a26 :: a27 :: a28 :: a29 :: a30 :: a31 :: a32 :: a33 :: a34 :: a35 :: a36 :: a37 :: a38 :: a39 :: l) 39 = a39 := rfl
theorem rs40 {a0 a1 a2 a3 a4 a5 a6 a7 a8 a9 a10 a11 a12 a13 a14 a15 a16 a17 a18 a19 a20 a21 a22 a23 a24 a25 a26 a27 a28 a29 a30 a31 a32 a33 a34 a35 a36 a37 a38 a39 a40 c : C} {l : Rho} : rset (a0 :: a1 :: a2 :: a3 :: a4 :: a5 :: a6 :: a7 :: a8 :: a9 :: a10 :: a11 :: a12 :: a13 :: a14 :: a15 :: a16 :: a17 :: a18 :: a19 :: a20 :: a21 :: a22 :: a23 :: a24 :: a25 :: a26 :: a27 :: a28 :: a29 :: a30 :: a31 :: a32 :: a33 :: a34 :: a35 :: a36 :: a37 :: a38 :: a39 :: a40 :: l) 40 c = a0 :: a1 :: a2 :: a3 :: a4 :: a5 :: a6 :: a7 :: a8 :: a9 :: a10 :: a11 :: a12 :: a13 :: a14 :: a15 :: a16 :: a17 :: a18 :: a19 :: a20 :: a21 :: a22 :: a23 :: a24 :: a25 :: a26 :: a27 :: a28 :: a29 :: a30 :: a31 :: a32 :: a33 :: a34 :: a35 :: a36 :: a37 :: a38 :: a39 :: c :: l := rfl
theorem rg40 {a0 a1 a2 a3 a4 a5 a6 a7 a8 a9 a10 a11 a12 a13 a14 a15 a16 a17 a18 a19 a20 a21 a22 a23 a24 a25 a26 a27 a28 a29 a30 a31 a32 a33 a34 a35 a36 a37 a38 a39 a40 : C} {l : Rho} : rget (a0 :: a1 :: a2 :: a3 :: a4 :: a5 :: a6 :: a7 :: a8 :: a9 :: a10 :: a11 :: a12 :: a13 :: a14 :: a15 :: a16 :: a17 :: a18 :: a19 :: a20 :: a21 :: a22 :: a23 :: a24 :: a25 :: a26 :: a27 :: a28 :: a29 :: a30 :: a31 :: a32 :: a33 :: a34 :: a35 :: a36 :: a37 :: a38 :: a39 :: a40 :: l) 40 = a40 := rfl
theorem rs41 {a0 a1 a2 a3 a4 a5 a6 a7 a8 a9 a10 a11 a12 a13 a14 a15 a16 a17 a18 a19 a20 a21 a22 a23 a24 a25 a26 a27 a28 a29 a30 a31 a32 a33 a34 a35 a36 a37 a38 a39 a40 a41 c : C} {l : Rho} : rset (a0 :: a1 :: a2 :: a3 :: a4 :: a5 :: a6 :: a7 :: a8 :: a9 :: a10 :: a11 :: a12 :: a13 :: a14 :: a15 :: a16 :: a17 :: a18 :: a19 :: a20 :: a21 :: a22 :: a23 :: a24 :: a25 :: a26 :: a27 :: a28 :: a29 :: a30 :: a31 :: a32 :: a33 :: a34 :: a35 :: a36 :: a37 :: a38 :: a39 :: a40 :: a41 :: l) 41 c = a0 :: a1 :: a2 :: a3 :: a4 :: a5 :: a6 :: a7 :: a8 :: a9 :: a10 :: a11 :: a12 :: a13 :: a14 :: a15 :: a16 :: a17 :: a18 :: a19 :: a20 :: a21 :: a22 :: a23 :: a24 :: a25 :: a26 :: a27 :: a28 :: a29 :: a30 :: a31 :: a32 :: a33 :: a34 :: a35 :: a36 :: a37 :: a38 :: a39 :: a40 :: c :: l := rfl
theorem rg41 {a0 a1 a2 a3 a4 a5 a6 a7 a8 a9 a10 a11 a12 a13 a14 a15 a16 a17 a18 a19 a20 a21 a22 a23 a24 a25 a26 a27 a28 a29 a30 a31 a32 a33 a34 a35 a36 a37 a38 a39 a40 a41 : C} {l : Rho} : rget (a0 :: a1 :: a2 :: a3 :: a4 :: a5 :: a6 :: a7 :: a8 :: a9 :: a10 :: a11 :: a12 :: a13 :: a14 :: a15 :: a16 :: a17 :: a18 :: a19 :: a20 :: a21 :: a22 :: a23 :: a24 :: a25 :: a26 :: a27 :: a28 :: a29 :: a30 :: a31 :: a32 :: a33 :: a34 :: a35 :: a36 :: a37 :: a38 :: a39 :: a40 :: a41 :: l) 41 = a41 := rfl
theorem rs42 {a0 a1 a2 a3 a4 a5 a6 a7 a8 a9 a10 a11 a12 a13 a14 a15 a16 a17 a18 a19 a20 a21 a22 a23 a24 a25 a26 a27 a28 a29 a30 a31 a32 a33 a34 a35 a36 a37 a38 a39 a40 a41 a42 c : C} {l : Rho} : rset (a0 :: a1 :: a2 :: a3 :: a4 :: a5 :: a6 :: a7 :: a8 :: a9 :: a10 :: a11 :: a12 :: a13 :: a14 :: a15 :: a16 :: a17 :: a18 :: a19 :: a20 :: a21 :: a22 :: a23 :: a24 :: a25 :: a26 :: a27 :: a28 :: a29 :: a30 :: a31 :: a32 :: a33 :: a34 :: a35 :: a36 :: a37 :: a38 :: a39 :: a40 :: a41 :: a42 :: l) 42 c = a0 :: a1 :: a2 :: a3 :: a4 :: a5 :: a6 :: a7 :: a8 :: a9 :: a10 :: a11 :: a12 :: a13 :: a14 :: a15 :: a16 :: a17 :: a18 :: a19 :: a20 :: a21 :: a22 :: a23 :: a24 :: a25 :: a26 :: a27 :: a28 :: a29 :: a30 :: a31 :: a32 :: a33 :: a34 :: a35 :: a36 :: a37 :: a38 :: a39 :: a40 :: a41 :: c :: l := rfl
theorem rg42 {a0 a1 a2 a3 a4 a5 a6 a7 a8 a9 a10 a11 a12 a13 a14 a15 a16 a17 a18 a19 a20 a21 a22 a23 a24 a25 a26 a27 a28 a29 a30 a31 a32 a33 a34 a35 a36 a37 a38 a39 a40 a41 a42 : C} {l : Rho} : rget (a0 :: a1 :: a2 :: a3 :: a4 :: a5 :: a6 :: a7 :: a8 :: a9 :: a10 :: a11 :: a12 :: a13 :: a14 :: a15 :: a16 :: a17 :: a18 :: a19 :: a20 :: a21 :: a22 :: a23 :: a24 :: a25 :: a26 :: a27 :: a28 :: a29 :: a30 :: a31 :: a32 :: a33 :: a34 :: a35 :: a36 :: a37 :: a38 :: a39 :: a40 :: a41 :: a42 :: l) 42 = a42 := rfl
theorem rs43 {a0 a1 a2 a3 a4 a5 a6 a7 a8 a9 a10 a11 a12 a13 a14 a15 a16 a17 a18 a19 a20 a21 a22 a23 a24 a25 a26 a27 a28 a29 a30 a31 a32 a33 a34 a35 a36 a37 a38 a39 a40 a41 a42 a43 c : C} {l : Rho} : rset (a0 :: a1 :: a2 :: a3 :: a4 :: a5 :: a6 :: a7 :: a8 :: a9 :: a10 :: a11 :: a12 :: a13 :: a14 :: a15 :: a16 :: a17 :: a18 :: a19 :: a20 :: a21 :: a22 :: a23 :: a24 :: a25 :: a26 :: a27 :: a28 :: a29 :: a30 :: a31 :: a32 :: a33 :: a34 :: a35 :: a36 :: a37 :: a38 :: a39 :: a40 :: a41 :: a42 :: a43 :: l) 43 c = a0 :: a1 :: a2 :: a3 :: a4 :: a5 :: a6 :: a7 :: a8 :: a9 :: a10 :: a11 :: a12 :: a13 :: a14 :: a15 :: a16 :: a17 :: a18 :: a19 :: a20 :: a21 :: a22 :: a23 :: a24 :: a25 :: a26 :: a27 :: a28 :: a29 :: a30 :: a31 :: a32 :: a33 :: a34 :: a35 :: a36 :: a37 :: a38 :: a39 :: a40 :: a41 :: a42 :: c :: l := rfl
theorem rg43 {a0 a1 a2 a3 a4 a5 a6 a7 a8 a9 a10 a11 a12 a13 a14 a15 a16 a17 a18 a19 a20 a21 a22 a23 a24 a25 a26 a27 a28 a29 a30 a31 a32 a33 a34 a35 a36 a37 a38 a39 a40 a41 a42 a43 : C} {l : Rho} : rget (a0 :: a1 :: a2 :: a3 :: a4 :: a5 :: a6 :: a7 :: a8 :: a9 :: a10 :: a11 :: a12 :: a13 :: a14 :: a15 :: a16 :: a17 :: a18 :: a19 :: a20 :: a21 :: a22 :: a23 :: a24 :: a25 :: a26 :: a27 :: a28 :: a29 :: a30 :: a31 :: a32 :: a33 :: a34 :: a35 :: a36 :: a37 :: a38 :: a39 :: a40 :: a41 :: a42 :: a43 :: l) 43 = a43 := rfl
theorem rs44 {a0 a1 a2 a3 a4 a5 a6 a7 a8 a9 a10 a11 a12 a13 a14 a15 a16 a17 a18 a19 a20 a21 a22 a23 a24 a25 a26 a27 a28 a29 a30 a31 a32 a33 a34 a35 a36 a37 a38 a39 a40 a41 a42 a43 a44 c : C} {l : Rho} : rset (a0 :: a1 :: a2 :: a3 :: a4 :: a5 :: a6 :: a7 :: a8 :: a9 :: a10 :: a11 :: a12 :: a13 :: a14 :: a15 :: a16 :: a17 :: a18 :: a19 :: a20 :: a21 :: a22 :: a23 :: a24 :: a25 :: a26 :: a27 :: a28 :: a29 :: a30 :: a31 :: a32 :: a33 :: a34 :: a35 :: a36 :: a37 :: a38 :: a39 :: a40 :: a41 :: a42 :: a43 :: a44 :: l) 44 c = a0 :: a1 :: a2 :: a3 :: a4 :: a5 :: a6 :: a7 :: a8 :: a9 :: a10 :: a11 :: a12 :: a13 :: a14 :: a15 :: a16 :: a17 :: a18 :: a19 :: a20 :: a21 :: a22 :: a23 :: a24 :: a25 :: a26 :: a27 :: a28 :: a29 :: a30 :: a31 :: a32 :: a33 :: a34 :: a35 :: a36 :: a37 :: a38 :: a39 :: a40 :: a41 :: a42 :: a43 :: c :: l := rfl
theorem rg44 {a0 a1 a2 a3 a4 a5 a6 a7 a8 a9 a10 a11 a12 a13 a14 a15 a16 a17 a18 a19 a20 a21 a22 a23 a24 a25 a26 a27 a28 a29 a30 a31 a32 a33 a34 a35 a36 a37 a38 a39 a40 a41 a42 a43 a44 : C} {l : Rho} : rget (a0 :: a1 :: a2 :: a3 :: a4 :: a5 :: a6 :: a7 :: a8 :: a9 :: a10 :: a11 :: a12 :: a13 :: a14 :: a15 :: a16 :: a17 :: a18 :: a19 :: a20 :: a21 :: a22 :: a23 :: a24 :: a25 :: a26 :: a27 :: a28 :: a29 :: a30 :: a31 :: a32 :: a33 :: a34 :: a35 :: a36 :: a37 :: a38 :: a39 :: a40 :: a41 :: a42 :: a43 :: a44 :: l) 44 = a44 := rfl
theorem rs45 {a0 a1 a2 a3 a4 a5 a6 a7 a8 a9 a10 a11 a12 a13 a14 a15 a16 a17 a18 a19 a20 a21 a22 a23 a24 a25 a26 a27 a28 a29 a30 a31 a32 a33 a34 a35 a36 a37 a38 a39 a40 a41 a42 a43 a44 a45 c : C} {l : Rho} : rset (a0 :: a1 :: a2 :: a3 :: a4 :: a5 :: a6 :: a7 :: a8 :: a9 :: a10 :: a11 :: a12 :: a13 :: a14 :: a15 :: a16 :: a17 :: a18 :: a19 :: a20 :: a21 :: a22 :: a23 :: a24 :: a25 :: a26 :: a27 :: a28 :: a29 :: a30 :: a31 :: a32 :: a33 :: a34 :: a35 :: a36 :: a37 :: a38 :: a39 :: a40 :: a41 :: a42 :: a43 :: a44 :: a45 :: l) 45 c = a0 :: a1 :: a2 :: a3 :: a4 :: a5 :: a6 :: a7 :: a8 :: a9 :: a10 :: a11 :: a12 :: a13 :: a14 :: a15 :: a16 :: a17 :: a18 :: a19 :: a20 :: a21 :: a22 :: a23 :: a24 :: a25 :: a26 :: a27 :: a28 :: a29 :: a30 :: a31 :: a32 :: a33 :: a34 :: a35 :: a36 :: a37 :: a38 :: a39 :: a40 :: a41 :: a42 :: a43 :: a44 :: c :: l := rfl
theorem rg45 {a0 a1 a2 a3 a4 a5 a6 a7 a8 a9 a10 a11 a12 a13 a14 a15 a16 a17 a18 a19 a20 a21 a22 a23 a24 a25 a26 a27 a28 a29 a30 a31 a32 a33 a34 a35 a36 a37 a38 a39 a40 a41 a42 a43 a44 a45 : C} {l : Rho} : rget (a0 :: a1 :: a2 :: a3 :: a4 :: a5 :: a6 :: a7 :: a8 :: a9 :: a10 :: a11 :: a12 :: a13 :: a14 :: a15 :: a16 :: a17 :: a18 :: a19 :: a20 :: a21 :: a22 :: a23 :: a24 :: a25 :: a26 :: a27 :: a28 :: a29 :: a30 :: a31 :: a32 :: a33 :: a34 :: a35 :: a36 :: a37 :: a38 :: a39 :: a40 :: a41 :: a42 :: a43 :: a44 :: a45 :: l) 45 = a45 := rfl
theorem rs46 {a0 a1 a2 a3 a4 a5 a6 a7 a8 a9 a10 a11 a12 a13 a14 a15 a16 a17 a18 a19 a20 a21 a22 a23 a24 a25 a26 a27 a28 a29 a30 a31 a32 a33 a34 a35 a36 a37 a38 a39 a40 a41 a42 a43 a44 a45 a46 c : C} {l : Rho} : rset (a0 :: a1 :: a2 :: a3 :: a4 :: a5 :: a6 :: a7 :: a8 :: a9 :: a10 :: a11 :: a12 :: a13 :: a14 :: a15 :: a16 :: a17 :: a18 :: a19 :: a20 :: a21 :: a22 :: a23 :: a24 :: a25 :: a26 :: a27 :: a28 :: a29 :: a30 :: a31 :: a32 :: a33 :: a34 :: a35 :: a36 :: a37 :: a38 :: a39 :: a40 :: a41 :: a42 :: a43 :: a44 :: a45 :: a46 :: l) 46 c = a0 :: a1 :: a2 :: a3 :: a4 :: a5 :: a6 :: a7 :: a8 :: a9 :: a10 :: a11 :: a12 :: a13 :: a14 :: a15 :: a16 :: a17 :: a18 :: a19 :: a20 :: a21 :: a22 :: a23 :: a24 :: a25 :: a26 :: a27 :: a28 :: a29 :: a30 :: a31 :: a32 :: a33 :: a34 :: a35 :: a36 :: a37 :: a38 :: a39 :: a40 :: a41 :: a42 :: a43 :: a44 :: a45 :: c :: l := rfl
theorem rg46 {a0 a1 a2 a3 a4 a5 a6 a7 a8 a9 a10 a11 a12 a13 a14 a15 a16 a17 a18 a19 a20 a21 a22 a23 a24 a25 a26 a27 a28 a29 a30 a31 a32 a33 a34 a35 a36 a37 a38 a39 a40 a41 a42 a43 a44 a45 a46 : C} {l : Rho} : rget (a0 :: a1 :: a2 :: a3 :: a4 :: a5 :: a6 :: a7 :: a8 :: a9 :: a10 :: a11 :: a12 :: a13 :: a14 :: a15 :: a16 :: a17 :: a18 :: a19 :: a20 :: a21 :: a22 :: a23 :: a24 :: a25 :: a26 :: a27 :: a28 :: a29 :: a30 :: a31 :: a32 :: a33 :: a34 :: a35 :: a36 :: a37 :: a38 :: a39 :: a40 :: a41 :: a42 :: a43 :: a44 :: a45 :: a46 :: l) 46 = a46 := rfl
theorem rs47 {a0 a1 a2 a3 a4 a5 a6 a7 a8 a9 a10 a11 a12 a13 a14 a15 a16 a17 a18 a19 a20 a21 a22 a23 a24 a25 a26 a27 a28 a29 a30 a31 a32 a33 a34 a35 a36 a37 a38 a39 a40 a41 a42 a43 a44 a45 a46 a47 c : C} {l : Rho} : rset (a0 :: a1 :: a2 :: a3 :: a4 :: a5 :: a6 :: a7 :: a8 :: a9 :: a10 :: a11 :: a12 :: a13 :: a14 :: a15 :: a16 :: a17 :: a18 :: a19 :: a20 :: a21 :: a22 :: a23 :: a24 :: a25 :: a26 :: a27 :: a28 :: a29 :: a30 :: a31 :: a32 :: a33 :: a34 :: a35 :: a36 :: a37 :: a38 :: a39 :: a40 :: a41 :: a42 :: a43 :: a44 :: a45 :: a46 :: a47 :: l) 47 c = a0 :: a1 :: a2 :: a3 :: a4 :: a5 :: a6 :: a7 :: a8 :: a9 :: a10 :: a11 :: a12 :: a13 :: a14 :: a15 :: a16 :: a17 :: a18 :: a19 :: a20 :: a21 :: a22 :: a23 :: a24 :: a25 :: a26 :: a27 :: a28 :: a29 :: a30 :: a31 :: a32 :: a33 :: a34 :: a35 :: a36 :: a37 :: a38 :: a39 :: a40 :: a41 :: a42 :: a43 :: a44 :: a45 :: a46 :: c :: l := rfl
theorem rg47 {a0 a1 a2 a3 a4 a5 a6 a7 a8 a9 a10 a11 a12 a13 a14 a15 a16 a17 a18 a19 a20 a21 a22 a23 a24 a25 a26 a27 a28 a29 a30 a31 a32 a33 a34 a35 a36 a37 a38 a39 a40 a41 a42 a43 a44 a45 a46 a47 : C} {l : Rho} : rget (a0 :: a1 :: a2 :: a3 :: a4 :: a5 :: a6 :: a7 :: a8 :: a9 :: a10 :: a11 :: a12 :: a13 :: a14 :: a15 :: a16 :: a17 :: a18 :: a19 :: a20 :: a21 :: a22 :: a23 :: a24 :: a25 :: a26 :: a27 :: a28 :: a29 :: a30 :: a31 :: a32 :: a33 :: a34 :: a35 :: a36 :: a37 :: a38 :: a39 :: a40 :: a41 :: a42 :: a43 :: a44 :: a45 :: a46 :: a47 :: l) 47 = a47 := rfl
theorem frz_v {d : D} : frzC (.v d) = .v d := rfl
theorem frz_l {t : Nat} {ds : List D} : frzC (.own t (.lst ds)) = .v (.list ds) := rfl
theorem frz_d {t : Nat} {ks : List (Key × D)} : frzC (.own t (.dct ks)) = .own t (.dct ks) := rfl
theorem retag_o {t t2 : Nat} {o o2 : OD} : retag (.own t o) (.own t2 o2) = .own t o2 := rfl
theorem clr_nil {ρ : Rho} : clr [] ρ = ρ := rfl
theorem clr_cons {i : Nat} {T : List Nat} {ρ : Rho} : clr (i :: T) ρ = rset (clr T ρ) i .no := rfl
theorem back_nil {ρ ρ' : Rho} : back ρ [] ρ' = ρ' := rfl
@[reducible] def keepv : C → C
  | .v d => .v d
  | _ => .no
theorem keepv_v {d : D} : keepv (.v d) = .v d := rfl
theorem keepv_no : keepv .no = .no := rfl
theorem keepv_own {t : Nat} {o : OD} : keepv (.own t o) = .no := rfl
theorem back_cons {i : Nat} {T : List Nat} {ρ ρ' : Rho} : back ρ (i :: T) ρ' = back ρ T (rset ρ' i (keepv (rget ρ i))) := rfl
end DL

set_option Elab.async false
set_option linter.all false
set_option maxRecDepth 100000
set_option maxHeartbeats 4000000
/-! DL: enumerate, zip, reversed, range with a step -/
namespace DL
open PySem PySem.Spec PyProof.Rows L2

/-! ### enumerate of a tuple -/
section
variable {prog : Program} {w : World} {A : Around} {E : Value → Shared → Prop} {s : Shared}
theorem meets_enum1 {v : Value} {o : Obj} {H : Heap → Prop} (B : Begins v o H) :
    Meets (Builtin.«enumerate.__new__» ⟨[.type "enumerate", v], []⟩) (fun _ R s => H s.heap ∧ R (.ok (.ret (.ref (s.heap.push o).objs.size))) { s with heap := (s.heap.push o).push { cls := .type "enumerate", data := .fields #[.none, .bool false, .ref s.heap.objs.size, rawInt 0, .none, .none] } }) :=
  .of_wp fun prog w A R s hh => by
    obtain ⟨hp, g, d, tk, os⟩ := s
    obtain ⟨hb, hr⟩ := hh
    have hsub := sub_enumerate
    have start : ∀ {A' : Around} {E' Q' : Value → Shared → Prop}, Q' (.ref hp.objs.size) ⟨hp.push o, g, d, tk, os⟩ → wpAny (model prog w) A' (pyIter v) Q' E' ⟨hp, g, d, tk, os⟩ := fun q => B.iter prog w _ _ ⟨hp, g, d, tk, os⟩ _ hb q
    wp_walk using start
    refine wpAny_stack_any fun _ => wpAny_pure ?_
    split
    · rename_i c _ _ _ _ _
      cases (c == Value.type "enumerate") <;> (wp_walk using start; exact ⟨_, rfl, hr⟩)
    · wp_walk using start
      exact ⟨_, rfl, hr⟩
theorem call_enum1 {v : Value} {o : Obj} {H : Heap → Prop} {Q : Value → Shared → Prop} (B : Begins v o H) (hb : H s.heap)
    (fin : ∀ h', IsEnum h' (s.heap.objs.size + 1) s.heap.objs.size 0 .none → h'.get? s.heap.objs.size = some o → (∀ b u, s.heap.get? b = some u → h'.get? b = some u) → Q (.ref (s.heap.objs.size + 1)) { s with heap := h' }) :
    wpAny (model prog w) A (call (.type "enumerate") [v]) Q E s := by
  refine callType_new F.called_enumerate (by decide) (F.typeCall_enumerate_1 _) (F.newCall_enumerate_1 _) (fun obj => F.args_object_init_2 obj _) F.entry_enumerate_new (meets_enum1 B) ⟨hb, ?_⟩
  have sz : (s.heap.push o).objs.size = s.heap.objs.size + 1 := Heap.size_push ..
  show _ ∧ _
  rw [sz]
  have en : IsEnum ((s.heap.push o).push { cls := .type "enumerate", data := .fields #[.none, .bool false, .ref s.heap.objs.size, rawInt 0, .none, .none] }) (s.heap.objs.size + 1) s.heap.objs.size 0 .none := by
    have q := Heap.get?_push_size (s.heap.push o) (o := { cls := .type "enumerate", data := .fields #[.none, .bool false, .ref s.heap.objs.size, rawInt 0, .none, .none] }) rfl
    rw [sz] at q
    exact q
  exact ⟨⟨_, en, rfl⟩, fin _ en (Heap.get?_push_of_some _ (Heap.get?_push_size _ B.free)) fun b u q => Heap.get?_push_of_some _ (Heap.get?_push_of_some _ q)⟩
end
/-- the tuple at a, each item in a new pair with its number -/
def IteT (K : PySem.W.Frag) (a : Addr) : It :=
  ⟨fun i H => ∃ (xs : List V) (x : V), SqT K H a xs ∧ xs[i]? = some x, fun i H v H' => ∃ T x, v = .ref T ∧ H T = none ∧ H' = upd H T (.tup [.int (i : Nat), x]) ∧ ∀ xs, SqT K H a xs → xs[i]? = some x, fun i H => ∃ xs : List V, SqT K H a xs ∧ xs.length ≤ i⟩
theorem turn_enumT {P : Program} {w : World} {K : PySem.W.Frag} {elts : List Expr} {kk : Nat} {tpos : Pos} {a e it : Addr} (h1 : e ≠ it) (h2 : e ≠ a) (h3 : a ≠ it) :
    Turn P w K (.Tuple elts kk tpos) (IteT K a) [e, it] e (fun i h => (∃ old, IsEnum h e it ((i : Nat) : Int) old) ∧ h.IsTupleIter it a i) where
  mem := by simp
  obj := fun i h st b hb => by
    obtain ⟨⟨old, he⟩, o, ho, _, hd⟩ := st
    rcases List.mem_cons.mp hb with z | z
    · rw [z]; exact ⟨_, he, fun v q => nomatch q⟩
    · rw [List.mem_singleton.mp z]; exact ⟨o, ho, fun v q => by rw [hd] at q; cases q⟩
  keep := fun i h h' st k => by
    obtain ⟨⟨old, he⟩, hi⟩ := st
    exact ⟨⟨old, k e (by simp) _ he⟩, hi.at fun o q => k it (by simp) o q⟩
  item := by
    intro X eP ew eK hc i pins s σ H E I hf st hg
    subst eP ew eK
    obtain ⟨⟨old, he⟩, hit⟩ := st
    obtain ⟨xs, x, hq, hx⟩ := hg
    obtain ⟨its, rv, pt, _⟩ := I.tuple hq
    obtain ⟨u, hu, ru⟩ := rv.get hx
    have le : e < s.heap.objs.size := Heap.lt_size he
    have li : it < s.heap.objs.size := by obtain ⟨_, q, _⟩ := hit; exact Heap.lt_size q
    have hin : i < its.toArray.size := by
      have := (List.getElem?_eq_some_iff.mp hu).1
      simpa using this
    have D := Draws.tuple (prog := X.prog) (w := X.w) (A := X.A.in1) (I.ok.hd hc) it a h3 its.toArray
    refine wpAny_pyNext_enum_itemC D he ⟨hit, pt⟩ hin h1 (by simp [h1, h2]) fun y h' tk py out st' new _ kp => ?_
    have ey : y = u := by
      have q : its.toArray[i]? = some u := by simpa using hu
      rw [q] at py
      exact (Option.some.inj py).symm
    subst ey
    refine ⟨_, rfl, wpAny_letOwnedTupleGo_enum (s := { s with heap := h', toks := tk + 1 }) out fun h'' he' sb => ?_⟩
    have new2 : h''.get? s.heap.objs.size = some { cls := .type "tuple", data := .seq #[.int i tk, y] } := (sb.2 _ (Nat.ne_of_gt le)).trans new
    have ok : ObjOk X.prog X.w (upd H s.heap.objs.size (.tup [.int (i : Nat), x])) h'' s.heap.objs.size (.tup [.int (i : Nat), x]) :=
      ⟨by show 2 ≤ sizeLine; decide, [.int i tk, y], .cons ⟨_, rfl⟩ (.cons ru .nil), ⟨_, new2, rfl, _, rfl⟩⟩
    have I1 := I.turnedNew (t' := tk + 1) (ch := [e, it]) (h' := h'') (fun b ob hb q => (sb.2 b (fun z => hb (by simp [z]))).trans (kp b ob (fun z => hb (by simp [z])) (fun z => hb (by simp [z])) q)) hf (Nat.le_refl _) ok
    refine ⟨.ref s.heap.objs.size, _, I1, rfl, ⟨_, x, rfl, I.hok.fresh (Nat.le_refl _), rfl, fun ys hy => by rw [I.tuple_inj hy hq]; exact hx⟩, ⟨⟨y, ?_⟩, st'.1.at fun o q => (sb.2 it (Ne.symm h1)).trans q⟩, fun b hb => ?_⟩
    · rw [show ((i + 1 : Nat) : Int) = (i : Int) + 1 by omega]
      exact he'
    · have lb : b < s.heap.objs.size := by
        rcases List.mem_cons.mp hb with z | z
        · rw [z]; exact le
        · rw [List.mem_singleton.mp z]; exact li
      rw [upd_ne (Nat.ne_of_lt lb)]
      exact (hf b hb).1
  done := by
    intro X eP ew eK hc i pins s σ H E I hf st hg
    subst eP ew eK
    obtain ⟨⟨old, he⟩, hit⟩ := st
    obtain ⟨xs, hq, hx⟩ := hg
    obtain ⟨its, rv, pt, _⟩ := I.tuple hq
    obtain ⟨f0, f1, f2, f3, f4, f5⟩ := hf it (by simp)
    have hl := rv.length
    have D : Draws X.prog X.w X.A.in1 it [it, a] i (fun _ _ => True) (fun j h => j = i ∧ h.IsTupleIter it a i ∧ h.IsTuple a its.toArray) :=
      ⟨fun _ _ st => let ⟨o, ho, _⟩ := st.2.1; ⟨o, ho⟩, fun _ _ _ st hk => ⟨st.1, st.2.1.at fun o q => hk it (by simp) o q, st.2.2.at fun o q => hk a (by simp) o q⟩,
        fun j s Q E hj st hQ => absurd st.1 (Nat.ne_of_lt hj), fun s Q E st hE => wpAny_nextOf_tuple_end (I.ok.hd hc) st.2.1 st.2.2 (by simp; omega) hE⟩
    exact wpAny_pyNext_enum_endD D he ⟨rfl, hit, pt⟩ fun h' eb => ⟨rfl, I.turned (t' := s.toks) (fun b o hb q => eb b o hb q) f0 f1 f3 f4 f5⟩
  self := fun A i s Q E st h => let ⟨⟨_, he⟩, _⟩ := st; wpAny_pyIter_enum he h
/-- enumerate(x), x a list or a tuple -/
def iEnumA (K : PySem.W.Frag) (ta : TA) : TI := fun σ H R => ta σ H fun vs H1 => ∃ a xs, vs = [.ref a] ∧ ((SqL K H1 a xs ∧ R (Ite K a) H1) ∨ (SqT K H1 a xs ∧ R (IteT K a) H1))
theorem pi_enumA {X : Cx} {e : Expr} {ta : TA} {p pos tpos : Pos} {elts : List Expr} {kk : Nat} (hg : Gl X "enumerate") (hm : X.mg "enumerate" = none) (ha : PA X [e] ta) (hs : starEach [e] X.env = [(false, eval e X.env)] := by rfl) :
    PI X (.Tuple elts kk tpos) (.Call (.Name "enumerate" p) [e] [] pos) (iEnumA X.K ta) := by
  refine ⟨fun pins s σ H R I h => ?_⟩
  refine Call_ (ld_blt I hg hm boot_enumerate (PyProof.Rows.callWith_type1 (thn (ha.run pos pins s σ H _ I h) fun us s1 ⟨vs, H1, I1, r1, q1⟩ => ?_) hs rfl))
  obtain ⟨a, xs, ex, q⟩ := q1
  subst ex
  cases r1 with
  | cons r rr =>
    cases rr
    cases r
    have near : ∀ b ∈ [s1.heap.objs.size + 1, s1.heap.objs.size], s1.heap.objs.size ≤ b := fun b hb => by
      rcases List.mem_cons.mp hb with z | z
      · rw [z]; exact Nat.le_add_right _ _
      · rw [List.mem_singleton.mp z]; exact Nat.le_refl _
    rcases q with ⟨hq, q⟩ | ⟨hq, q⟩
    · obtain ⟨its, rv, pl, _⟩ := I1.list hq
      refine call_enumerate_list pl.isList fun h' he hit hsz hk => wpAny_pyIter_enum he ?_
      exact ⟨s1.heap.objs.size + 1, [s1.heap.objs.size + 1, s1.heap.objs.size], _, _, H1, rfl, I1.kept (t' := s1.toks) hk, turn_enum a (s1.heap.objs.size + 1) s1.heap.objs.size, ⟨⟨.none, he⟩, hit, Nat.succ_ne_self _⟩, fun b hb => I1.fpOk (near b hb) (I1.hok.fresh (near b hb)), q⟩
    · obtain ⟨its, rv, pt, _⟩ := I1.tuple hq
      have la : a < s1.heap.objs.size := by obtain ⟨_, z, _⟩ := pt; exact Heap.lt_size z
      refine call_enum1 (begins_tuple a its.toArray) pt fun h' he hit hk => wpAny_pyIter_enum he ?_
      exact ⟨s1.heap.objs.size + 1, [s1.heap.objs.size + 1, s1.heap.objs.size], _, _, H1, rfl, I1.kept (t' := s1.toks) hk, turn_enumT (Nat.succ_ne_self _) (Nat.ne_of_gt (Nat.lt_succ_of_lt la)) (Nat.ne_of_lt la), ⟨⟨.none, he⟩, _, hit, rfl, rfl⟩, fun b hb => I1.fpOk (near b hb) (I1.hok.fresh (near b hb)), q⟩

/-! ### by data -/
def enumF : Nat → List D → List D
  | _, [] => []
  | k, d :: ds => .tuple [.int (k : Nat), d] :: enumF (k + 1) ds
theorem enumF_len : ∀ {k : Nat} {ds : List D}, (enumF k ds).length = ds.length
  | _, [] => rfl
  | k, d :: ds => by show (enumF (k + 1) ds).length + 1 = _; rw [enumF_len]; rfl
theorem enumF_get : ∀ {k i : Nat} {ds : List D} {d : D}, (enumF k ds)[i]? = some d → ∃ d', ds[i]? = some d' ∧ d = .tuple [.int ((k + i : Nat) : Int), d']
  | k, 0, d' :: ds, d, h => ⟨d', rfl, by
    have e : PyData.tuple [.int (k : Nat), d'] = d := by simpa [enumF] using h
    rw [← e]; rfl⟩
  | k, i + 1, d' :: ds, d, h => by
    obtain ⟨x, h1, h2⟩ := enumF_get (k := k + 1) (i := i) (ds := ds) (d := d) (by simpa [enumF] using h)
    exact ⟨x, by simpa using h1, by rw [h2, show k + 1 + i = k + (i + 1) by omega]⟩
  | k, 0, [], d, h => by simp [enumF] at h
  | k, i + 1, [], d, h => by simp [enumF] at h
def zipF : List D → List D → List D
  | d :: ds, e :: es => .tuple [d, e] :: zipF ds es
  | _, _ => []
theorem zipF_len : ∀ {ds es : List D}, (zipF ds es).length = min ds.length es.length
  | [], _ => by simp [zipF]
  | _ :: _, [] => by simp [zipF]
  | d :: ds, e :: es => by show (zipF ds es).length + 1 = _; rw [zipF_len]; simp
theorem zipF_get : ∀ {i : Nat} {ds es : List D} {d : D}, (zipF ds es)[i]? = some d → ∃ x y, ds[i]? = some x ∧ es[i]? = some y ∧ d = .tuple [x, y]
  | 0, x :: ds, y :: es, d, h => ⟨x, y, rfl, rfl, by
    have e : PyData.tuple [x, y] = d := by simpa [zipF] using h
    exact e.symm⟩
  | i + 1, x :: ds, y :: es, d, h => by
    obtain ⟨a, b, h1, h2, h3⟩ := zipF_get (i := i) (ds := ds) (es := es) (d := d) (by simpa [zipF] using h)
    exact ⟨a, b, by simpa using h1, by simpa using h2, h3⟩
  | _, [], _, d, h => by simp [zipF] at h
  | _, _ :: _, [], d, h => by simp [zipF] at h
section
variable {K : PySem.W.Frag} {H : Hp} {O : List Addr} {a b : Addr} {ds es : List D}
theorem rd_lst {vs : List V} {rest : List D} (q : DpAll K (hide H O) (V.ref a :: vs) (PyData.list ds :: rest)) : ∃ xs, SqL K H a xs ∧ DpAll K (hide H O) xs ds := by
  cases q with
  | cons q _ =>
    cases q with
    | lst h1 h2 => exact ⟨_, Same.seq same_hide h1, h2⟩
theorem rd_tup {vs : List V} {rest : List D} (q : DpAll K (hide H O) (V.ref a :: vs) (PyData.tuple ds :: rest)) : ∃ xs, SqT K H a xs ∧ DpAll K (hide H O) xs ds := by
  cases q with
  | cons q _ =>
    cases q with
    | tup h1 h2 => exact ⟨_, seqT_same same_hide h1, h2⟩
theorem fresh_out {T : Addr} (dom : ∀ c ∈ O, ∃ u, H c = some u) (n : H T = none) : T ∉ O := fun z => by
  obtain ⟨u, e⟩ := dom T z
  rw [n] at e; cases e
theorem walks_enumL : Walks K (Ite K a) [.ref a] [.list ds] (enumF 0 ds) := by
  refine ⟨fun H O i _ q hi => ?_, fun H O i y H' d dom q hy hd => ?_, fun H O i _ q hi => ?_⟩
  · obtain ⟨xs, h1, h2⟩ := rd_lst q
    rw [enumF_len] at hi
    have hl : i < xs.length := by rw [DL.DpAll.len h2]; exact hi
    exact ⟨xs, xs[i], h1, List.getElem?_eq_getElem hl⟩
  · obtain ⟨xs, h1, h2⟩ := rd_lst q
    obtain ⟨T, x, rfl, hT, rfl, hx⟩ := hy
    obtain ⟨d', e1, rfl⟩ := enumF_get hd
    obtain ⟨v, e2, e3⟩ := DL.DpAll.get h2 e1
    have e4 := hx xs h1
    rw [e2] at e4
    cases e4
    rw [Nat.zero_add]
    exact ⟨same_new hT, new_tup hT (fresh_out dom hT) (.cons (.int _) (.cons e3 .nil))⟩
  · obtain ⟨xs, h1, h2⟩ := rd_lst q
    exact ⟨xs, h1, by rw [DL.DpAll.len h2, ← enumF_len (k := 0)]; exact hi⟩
theorem walks_enumT : Walks K (IteT K a) [.ref a] [.tuple ds] (enumF 0 ds) := by
  refine ⟨fun H O i _ q hi => ?_, fun H O i y H' d dom q hy hd => ?_, fun H O i _ q hi => ?_⟩
  · obtain ⟨xs, h1, h2⟩ := rd_tup q
    rw [enumF_len] at hi
    have hl : i < xs.length := by rw [DL.DpAll.len h2]; exact hi
    exact ⟨xs, xs[i], h1, List.getElem?_eq_getElem hl⟩
  · obtain ⟨xs, h1, h2⟩ := rd_tup q
    obtain ⟨T, x, rfl, hT, rfl, hx⟩ := hy
    obtain ⟨d', e1, rfl⟩ := enumF_get hd
    obtain ⟨v, e2, e3⟩ := DL.DpAll.get h2 e1
    have e4 := hx xs h1
    rw [e2] at e4
    cases e4
    rw [Nat.zero_add]
    exact ⟨same_new hT, new_tup hT (fresh_out dom hT) (.cons (.int _) (.cons e3 .nil))⟩
  · obtain ⟨xs, h1, h2⟩ := rd_tup q
    exact ⟨xs, h1, by rw [DL.DpAll.len h2, ← enumF_len (k := 0)]; exact hi⟩
theorem two {x y : D} {v u : V} (q : DpAll K (hide H O) [v, u] [x, y]) : DpAll K (hide H O) [v] [x] ∧ DpAll K (hide H O) [u] [y] := by
  cases q with
  | cons h1 h2 => exact ⟨.cons h1 .nil, h2⟩
theorem walks_zipL : Walks K (Itz K a b) [.ref a, .ref b] [.list ds, .list es] (zipF ds es) := by
  refine ⟨fun H O i _ q hi => ?_, fun H O i y H' d dom q hy hd => ?_, fun H O i _ q hi => ?_⟩
  · obtain ⟨xs, h1, h2⟩ := rd_lst (two q).1
    obtain ⟨ys, g1, g2⟩ := rd_lst (two q).2
    rw [zipF_len] at hi
    have l1 : i < xs.length := by rw [DL.DpAll.len h2]; omega
    have l2 : i < ys.length := by rw [DL.DpAll.len g2]; omega
    exact ⟨xs, ys, xs[i], ys[i], h1, g1, List.getElem?_eq_getElem l1, List.getElem?_eq_getElem l2⟩
  · obtain ⟨xs, h1, h2⟩ := rd_lst (two q).1
    obtain ⟨ys, g1, g2⟩ := rd_lst (two q).2
    obtain ⟨T, x, z, rfl, hT, rfl, hx, hz⟩ := hy
    obtain ⟨d1, d2, e1, e2, rfl⟩ := zipF_get hd
    obtain ⟨v, f1, f2⟩ := DL.DpAll.get h2 e1
    obtain ⟨u, f3, f4⟩ := DL.DpAll.get g2 e2
    have k1 := hx xs h1
    have k2 := hz ys g1
    rw [f1] at k1; cases k1
    rw [f3] at k2; cases k2
    exact ⟨same_new hT, new_tup hT (fresh_out dom hT) (.cons f2 (.cons f4 .nil))⟩
  · obtain ⟨xs, h1, h2⟩ := rd_lst (two q).1
    obtain ⟨ys, g1, g2⟩ := rd_lst (two q).2
    rw [zipF_len] at hi
    refine ⟨xs, ys, h1, g1, ?_⟩
    rw [DL.DpAll.len h2, DL.DpAll.len g2]
    omega
theorem walks_zipT : Walks K (RZ.ItzT K a b) [.ref a, .ref b] [.tuple ds, .tuple es] (zipF ds es) := by
  refine ⟨fun H O i _ q hi => ?_, fun H O i y H' d dom q hy hd => ?_, fun H O i _ q hi => ?_⟩
  · obtain ⟨xs, h1, h2⟩ := rd_tup (two q).1
    obtain ⟨ys, g1, g2⟩ := rd_tup (two q).2
    rw [zipF_len] at hi
    have l1 : i < xs.length := by rw [DL.DpAll.len h2]; omega
    have l2 : i < ys.length := by rw [DL.DpAll.len g2]; omega
    exact ⟨xs, ys, xs[i], ys[i], h1, g1, List.getElem?_eq_getElem l1, List.getElem?_eq_getElem l2⟩
  · obtain ⟨xs, h1, h2⟩ := rd_tup (two q).1
    obtain ⟨ys, g1, g2⟩ := rd_tup (two q).2
    obtain ⟨T, x, z, rfl, hT, rfl, hx, hz⟩ := hy
    obtain ⟨d1, d2, e1, e2, rfl⟩ := zipF_get hd
    obtain ⟨v, f1, f2⟩ := DL.DpAll.get h2 e1
    obtain ⟨u, f3, f4⟩ := DL.DpAll.get g2 e2
    have k1 := hx xs h1
    have k2 := hz ys g1
    rw [f1] at k1; cases k1
    rw [f3] at k2; cases k2
    exact ⟨same_new hT, new_tup hT (fresh_out dom hT) (.cons f2 (.cons f4 .nil))⟩
  · obtain ⟨xs, h1, h2⟩ := rd_tup (two q).1
    obtain ⟨ys, g1, g2⟩ := rd_tup (two q).2
    rw [zipF_len] at hi
    refine ⟨xs, ys, h1, g1, ?_⟩
    rw [DL.DpAll.len h2, DL.DpAll.len g2]
    omega
theorem rev_get {α : Type} {xs : List α} {i : Nat} (h : i < xs.length) : xs.reverse[i]? = xs[xs.length - 1 - i]? := List.getElem?_reverse h
theorem walks_revL {n : Nat} (hn : n = ds.length) : Walks K (Itv K a n) [.ref a] [.list ds] ds.reverse := by
  subst hn
  refine ⟨fun H O i _ q hi => ?_, fun H O i y H' d dom q hy hd => ?_, fun H O i _ q hi => ?_⟩
  · obtain ⟨xs, h1, h2⟩ := rd_lst q
    rw [List.length_reverse] at hi
    have hl : ds.length - 1 - i < xs.length := by rw [DL.DpAll.len h2]; omega
    exact ⟨hi, xs, xs[ds.length - 1 - i], h1, List.getElem?_eq_getElem hl⟩
  · obtain ⟨xs, h1, h2⟩ := rd_lst q
    obtain ⟨rfl, hx⟩ := hy
    have hi := (List.getElem?_eq_some_iff.mp hd).1
    rw [List.length_reverse] at hi
    rw [rev_get hi] at hd
    obtain ⟨v, e2, e3⟩ := DL.DpAll.get h2 hd
    have e4 := hx xs h1
    rw [e2] at e4
    cases e4
    exact ⟨Same.refl _, e3⟩
  · show ds.length ≤ i
    rw [List.length_reverse] at hi
    exact hi
theorem walks_revT {n : Nat} (hn : n = ds.length) : Walks K (RT.ItvT K a n) [.ref a] [.tuple ds] ds.reverse := by
  subst hn
  refine ⟨fun H O i _ q hi => ?_, fun H O i y H' d dom q hy hd => ?_, fun H O i _ q hi => ?_⟩
  · obtain ⟨xs, h1, h2⟩ := rd_tup q
    rw [List.length_reverse] at hi
    have hl : ds.length - 1 - i < xs.length := by rw [DL.DpAll.len h2]; omega
    exact ⟨hi, xs, xs[ds.length - 1 - i], h1, List.getElem?_eq_getElem hl⟩
  · obtain ⟨xs, h1, h2⟩ := rd_tup q
    obtain ⟨rfl, hx⟩ := hy
    have hi := (List.getElem?_eq_some_iff.mp hd).1
    rw [List.length_reverse] at hi
    rw [rev_get hi] at hd
    obtain ⟨v, e2, e3⟩ := DL.DpAll.get h2 hd
    have e4 := hx xs h1
    rw [e2] at e4
    cases e4
    exact ⟨Same.refl _, e3⟩
  · show ds.length ≤ i
    rw [List.length_reverse] at hi
    exact hi
end
/-- n numbers from lo on by c -/
def stepD (lo c : Int) (n : Nat) : List D := (List.range n).map fun (k : Nat) => PyData.int (lo + k * c)
theorem walks_step {K : PySem.W.Frag} {lo c : Int} {n : Nat} : Walks K (Itc lo c n) [] [] (stepD lo c n) := by
  refine ⟨fun H O i _ q hi => ?_, fun H O i y H' d _ q hy hd => ?_, fun H O i _ q hi => ?_⟩
  · show i < n
    simpa [stepD] using hi
  · obtain ⟨e1, e2⟩ := hy
    have hi : i < n := by
      have := (List.getElem?_eq_some_iff.mp hd).1
      simpa [stepD] using this
    have e : (stepD lo c n)[i]? = some (.int (lo + (i : Nat) * c)) := by
      unfold stepD
      rw [List.getElem?_map, List.getElem?_range hi]
      rfl
    rw [e] at hd
    cases hd
    subst e1 e2
    exact ⟨Same.refl _, .int _⟩
  · show n ≤ i
    simpa [stepD] using hi
@[reducible] def itemsLT : D → Option (List D)
  | .list ds => some ds
  | .tuple ds => some ds
  | _ => none
@[reducible] def wIEnum (wa : WA) : WI := fun ρ Q E => wa ρ (fun cs ρ1 => match frzs cs with
  | [.v d] => optK (itemsLT d) fun ds => Q (enumF 0 ds) ρ1
  | _ => False) E
@[reducible] def wIZip (wa : WA) : WI := fun ρ Q E => wa ρ (fun cs ρ1 => match frzs cs with
  | [.v (.list ds), .v (.list es)] => Q (zipF ds es) ρ1
  | [.v (.tuple ds), .v (.tuple es)] => Q (zipF ds es) ρ1
  | _ => False) E
@[reducible] def wIR3 (wa : WA) : WI := fun ρ Q E => wa ρ (fun cs ρ1 => match frzs cs with
  | [.v (.int i), .v (.int j), .v (.int c)] => ∃ n : Nat, RgC i j c n ∧ Q (stepD i c n) ρ1
  | _ => False) E
section
variable {X : Cx} {g : G} {W : WX} {tg a b c : Expr} {wa : WA} {p pos : Pos}
theorem args1 {σ : L2.St} {vs xs : List V} {H : Hp} {ρ : Rho} {ccs cs : List C} {K : PySem.W.Frag} {d : D} (hl : xs.length = ccs.length) (h : SR K g σ (xs ++ vs) H ρ (ccs ++ cs)) (e : ccs.map frzC = [.v d]) : ∃ x, xs = [x] ∧ SR K g σ (x :: vs) H ρ (.v d :: cs) := by
  have S := h.frzArgs hl
  rw [e] at S
  have l : xs.length = 1 := by rw [hl]; simpa using congrArg List.length e
  match xs, l with
  | [x], _ => exact ⟨x, rfl, S⟩
theorem args2 {σ : L2.St} {vs xs : List V} {H : Hp} {ρ : Rho} {ccs cs : List C} {K : PySem.W.Frag} {d d2 : D} (hl : xs.length = ccs.length) (h : SR K g σ (xs ++ vs) H ρ (ccs ++ cs)) (e : ccs.map frzC = [.v d, .v d2]) : ∃ x y, xs = [x, y] ∧ SR K g σ (x :: y :: vs) H ρ (.v d :: .v d2 :: cs) := by
  have S := h.frzArgs hl
  rw [e] at S
  have l : xs.length = 2 := by rw [hl]; simpa using congrArg List.length e
  match xs, l with
  | [x, y], _ => exact ⟨x, y, rfl, S⟩
theorem args3 {σ : L2.St} {vs xs : List V} {H : Hp} {ρ : Rho} {ccs cs : List C} {K : PySem.W.Frag} {d d2 d3 : D} (hl : xs.length = ccs.length) (h : SR K g σ (xs ++ vs) H ρ (ccs ++ cs)) (e : ccs.map frzC = [.v d, .v d2, .v d3]) : ∃ x y z, xs = [x, y, z] ∧ SR K g σ (x :: y :: z :: vs) H ρ (.v d :: .v d2 :: .v d3 :: cs) := by
  have S := h.frzArgs hl
  rw [e] at S
  have l : xs.length = 3 := by rw [hl]; simpa using congrArg List.length e
  match xs, l with
  | [x, y, z], _ => exact ⟨x, y, z, rfl, S⟩
theorem ei_enumerate {elts : List Expr} {kk : Nat} {tpos : Pos} (hg : Gl X "enumerate") (hm : X.mg "enumerate" = none) (ha : EA X g W [a] wa) (hs : starEach [a] X.env = [(false, eval a X.env)] := by rfl) : EI X g W (.Tuple elts kk tpos) (.Call (.Name "enumerate" p) [a] [] pos) (wIEnum wa) := by
  obtain ⟨t, q, s⟩ := ha.ex
  refine ⟨_, pi_enumA hg hm q hs, fun σ vs H ρ cs QD ED R hS hw hX hQ => ?_⟩
  refine s σ vs H ρ cs _ ED _ hS hw hX fun xs H1 ccs ρ1 hl S1 q1 => ?_
  split at q1
  · rename_i d ec
    obtain ⟨x, rfl, S2⟩ := args1 hl S1 (frzs_eq.symm.trans ec)
    have q := S2.top
    cases q with
    | lst h1 h2 => exact ⟨_, _, rfl, .inl ⟨Same.seq same_hide h1, hQ _ [_] [.list _] _ H1 ρ1 rfl S2 walks_enumL q1⟩⟩
    | tup h1 h2 => exact ⟨_, _, rfl, .inr ⟨seqT_same same_hide h1, hQ _ [_] [.tuple _] _ H1 ρ1 rfl S2 walks_enumT q1⟩⟩
    | _ => exact q1.elim
  · exact q1.elim
@[reducible] def wIRevE (we : WE) : WI := fun ρ Q E => we ρ (fun c ρ1 => match frzC c with
  | .v d => optK (itemsLT d) fun ds => Q ds.reverse ρ1
  | _ => False) E
theorem ei_reversed {we : WE} (hg : Gl X "reversed") (hm : X.mg "reversed" = none) (ha : EE X g W a we) (hs : starEach [a] X.env = (false, eval a X.env) :: starEach [] X.env := by rfl) : EI X g W tg (.Call (.Name "reversed" p) [a] [] pos) (wIRevE we) := by
  obtain ⟨t, q, s⟩ := ha.ex
  refine ⟨_, RT.pi_revA hg hm q hs, fun σ vs H ρ cs QD ED R hS hw hX hQ => ?_⟩
  refine s σ vs H ρ cs _ ED _ hS hw hX fun x H1 c ρ1 S1 q1 => ?_
  split at q1
  · rename_i d ec
    have S2 := S1.frzTop
    rw [ec] at S2
    have q := S2.top
    cases q with
    | lst h1 h2 => exact ⟨_, _, rfl, .inl ⟨Same.seq same_hide h1, hQ _ [_] [.list _] _ H1 ρ1 rfl S2 (walks_revL (DL.DpAll.len h2)) q1⟩⟩
    | tup h1 h2 => exact ⟨_, _, rfl, .inr ⟨seqT_same same_hide h1, hQ _ [_] [.tuple _] _ H1 ρ1 rfl S2 (walks_revT (DL.DpAll.len h2)) q1⟩⟩
    | _ => exact q1.elim
  · exact q1.elim
/-- reversed(range(n)) -/
@[reducible] def wIRevRE (we : WE) : WI := fun ρ Q E => we ρ (fun c ρ1 => match c with
  | .v (.int n) => (-(2 ^ 62) ≤ n ∧ n < 2 ^ 62) ∧ Q (stepD (((n.toNat : Nat) : Int) - 1) (-1) n.toNat) ρ1
  | _ => False) E
theorem ei_revrange {we : WE} {p2 pos2 : Pos} (hg : Gl X "reversed") (hm : X.mg "reversed" = none) (hg2 : Gl X "range") (hm2 : X.mg "range" = none) (ha : EE X g W a we) (hs2 : starEach [a] X.env = (false, eval a X.env) :: starEach [] X.env := by rfl)
    (hs : starEach [.Call (.Name "range" p2) [a] [] pos2] X.env = (false, eval (.Call (.Name "range" p2) [a] [] pos2) X.env) :: starEach [] X.env := by rfl) : EI X g W tg (.Call (.Name "reversed" p) [.Call (.Name "range" p2) [a] [] pos2] [] pos) (wIRevRE we) := by
  obtain ⟨t, q, s⟩ := ha.ex
  refine ⟨_, pi_revR hg hm (prg_1 hg2 hm2 q hs2) hs, fun σ vs H ρ cs QD ED R hS hw hX hQ => ?_⟩
  refine s σ vs H ρ cs _ ED _ hS hw hX fun x H1 c ρ1 S1 q1 => ?_
  split at q1
  · rename_i n
    have z := S1.top
    cases z
    have e1 : (n - 0).toNat = n.toNat := by rw [Int.sub_zero]
    refine ⟨n, rfl, by decide, by decide, q1.1.1, q1.1.2, ?_⟩
    rw [e1, show (0 : Int) + ((n.toNat : Nat) : Int) - 1 = ((n.toNat : Nat) : Int) - 1 by omega]
    exact hQ _ [] [] _ H1 ρ1 rfl S1.pop walks_step q1.2
  · exact q1.elim
theorem ei_zip {elts : List Expr} {kk : Nat} {tpos : Pos} (hg : Gl X "zip") (hm : X.mg "zip" = none) (ha : EA X g W [a, b] wa) (hs : starEach [a, b] X.env = (false, eval a X.env) :: starEach [b] X.env := by rfl) (hpl : (backTo pos (starEach [b] X.env)).any (·.1) = false := by rfl) : EI X g W (.Tuple elts kk tpos) (.Call (.Name "zip" p) [a, b] [] pos) (wIZip wa) := by
  obtain ⟨t, q, s⟩ := ha.ex
  refine ⟨_, RZ.pi_zipA hg hm q hs hpl, fun σ vs H ρ cs QD ED R hS hw hX hQ => ?_⟩
  refine s σ vs H ρ cs _ ED _ hS hw hX fun xs H1 ccs ρ1 hl S1 q1 => ?_
  split at q1
  · rename_i ds es ec
    obtain ⟨x, y, rfl, S2⟩ := args2 hl S1 (frzs_eq.symm.trans ec)
    have z1 := S2.top
    have z2 := S2.pop.top
    cases z1 with
    | lst h1 h2 =>
      cases z2 with
      | lst g1 g2 => exact ⟨_, _, _, _, rfl, .inl ⟨Same.seq same_hide h1, Same.seq same_hide g1, hQ _ [_, _] [.list _, .list _] _ H1 ρ1 rfl S2 walks_zipL q1⟩⟩
  · rename_i ds es ec
    obtain ⟨x, y, rfl, S2⟩ := args2 hl S1 (frzs_eq.symm.trans ec)
    have z1 := S2.top
    have z2 := S2.pop.top
    cases z1 with
    | tup h1 h2 =>
      cases z2 with
      | tup g1 g2 => exact ⟨_, _, _, _, rfl, .inr ⟨seqT_same same_hide h1, seqT_same same_hide g1, hQ _ [_, _] [.tuple _, .tuple _] _ H1 ρ1 rfl S2 walks_zipT q1⟩⟩
  · exact q1.elim
theorem ei_range3 (hg : Gl X "range") (hm : X.mg "range" = none) (ha : EA X g W [a, b, c] wa) (hs : starEach [a, b, c] X.env = (false, eval a X.env) :: starEach [b, c] X.env := by rfl) (hpl : (backTo pos (starEach [b, c] X.env)).any (·.1) = false := by rfl) : EI X g W tg (.Call (.Name "range" p) [a, b, c] [] pos) (wIR3 wa) := by
  obtain ⟨t, q, s⟩ := ha.ex
  refine ⟨_, pi_range3 hg hm q hs hpl, fun σ vs H ρ cs QD ED R hS hw hX hQ => ?_⟩
  refine s σ vs H ρ cs _ ED _ hS hw hX fun xs H1 ccs ρ1 hl S1 q1 => ?_
  split at q1
  · rename_i i j k ec
    obtain ⟨x, y, z, rfl, S2⟩ := args3 hl S1 (frzs_eq.symm.trans ec)
    obtain ⟨n, hn, q1⟩ := q1
    have z1 := S2.top
    have z2 := S2.pop.top
    have z3 := S2.pop.pop.top
    cases z1; cases z2; cases z3
    exact ⟨i, j, k, n, rfl, hn, hQ _ [] [] _ H1 ρ1 rfl S2.pop.pop.pop walks_step q1⟩
  · exact q1.elim
end
end DL

set_option Elab.async false
set_option linter.all false
set_option maxRecDepth 100000
set_option maxHeartbeats 4000000
/-! DL: more of Python: t[::-1], x in t, + of any kind, max and min of a list, int of a text -/
namespace DL
open PySem PySem.Spec PyProof.Rows L2
/-! ### t[::-1] of a tuple -/
section
variable {prog : Program} {w : World} {A : Around} {E : Value → Shared → Prop} {s : Shared}
theorem fm_congr {α : Type} {f g : Nat → Option α} : ∀ {l : List Nat}, (∀ m ∈ l, f m = g m) → l.filterMap f = l.filterMap g
  | [], _ => rfl
  | m :: l, h => by
    have e := fm_congr (l := l) (f := f) (g := g) fun k hk => h k (.tail _ hk)
    rw [List.filterMap_cons, List.filterMap_cons, h m (.head _), e]
theorem rev_pick (xs : Array Value) : ((List.range xs.size).filterMap fun (m : Nat) => xs[((xs.size : Int) - 1 + (m : Int) * (-1)).toNat]?).toArray = xs.toList.reverse.toArray := by
  have e : ((List.range xs.size).filterMap fun (m : Nat) => xs[((xs.size : Int) - 1 + (m : Int) * (-1)).toNat]?) = ((List.range xs.size).map fun m => xs.size - 1 - m).filterMap (xs[·]?) := by
    rw [List.filterMap_map]
    apply fm_congr
    intro m hm
    have := List.mem_range.mp hm
    show xs[_]? = xs[_]?
    rw [show ((xs.size : Int) - 1 + (m : Int) * (-1)).toNat = xs.size - 1 - m by omega]
  rw [e, PySem.W.krv_range, List.filterMap_reverse, PySem.W.krv_all]
theorem rev_places (n : Nat) : Builtin.Slice.slicePlaces ((n : Int) - 1) (-1) (-1) = n := by
  unfold Builtin.Slice.slicePlaces
  have h1 : ¬ ((-1 : Int) > 0) := by omega
  simp only [h1, if_false]
  split
  · rw [show (- -1 : Int) = 1 by decide, Int.ediv_one]; omega
  · omega
theorem rev_applied {sl : Addr} {u : Tok} {n : Nat} {Q : Int × Int × Nat → Shared → Prop} (hs : s.heap.IsSliceOf sl .none .none (.int (-1) u)) (h : Q ((n : Int) - 1, -1, n) s) : wpAny (model prog w) A (Builtin.Slice.sliceApplied (.ref sl) (pure (n : Int))) Q E s := by
  obtain ⟨os, hos, hcs, hds⟩ := id hs
  unfold Builtin.Slice.sliceApplied Builtin.Slice.sliceFields
  refine wpAny_bind (wpAny_bind (wpAny_field hos hds (x := .none) rfl (wpAny_bind (wpAny_field hos hds (x := .none) rfl (wpAny_bind (wpAny_field hos hds (x := .int (-1) u) rfl (wpAny_pure ?_)))))))
  refine wpAny_bind (slicePart_int ?_)
  show wpAny _ _ (if ((-1 : Int) == 0) = true then _ else _) _ _ s
  rw [if_neg (by decide)]
  refine wpAny_bind (slicePart_none (wpAny_bind (slicePart_none (wpAny_bind (wpAny_pure ?_)))))
  show wpAny _ _ (pure ((n : Int) - 1, (-1 : Int), Builtin.Slice.slicePlaces ((n : Int) - 1) (-1) (-1))) _ _ s
  rw [rev_places]
  exact wpAny_pure h
theorem getItem_tuple_rev {t sl : Addr} {items : Array Value} {u : Tok} {Q : Value → Shared → Prop} (ht : IsTup s.heap t items) (hs : s.heap.IsSliceOf sl .none .none (.int (-1) u))
    (h : Q (.ref s.heap.objs.size) { s with heap := s.heap.push { cls := .type "tuple", data := .seq items.toList.reverse.toArray } }) (hsz : items.size ≤ sizeLine) : wpAny (model prog w) A (getItem (.ref t) (.ref sl)) Q E s := by
  have small : sizeOk (.seq items.toList.reverse.toArray) := by
    show items.toList.reverse.toArray.size ≤ sizeLine
    simpa using hsz
  obtain ⟨os, hos, hcs, hds⟩ := id hs
  have hTs : s.TypeIs (.ref sl) "slice" := ⟨os, hos, hcs⟩
  unfold getItem
  try with_reducible refine wpAny_holding ?_
  first | refine wpAny_bind (wpAny_pure ?_) | skip
  refine wpAny_bind (wpAny_sequenceKey ht.typeIs (by decide) ?_)
  refine wpAny_bind (wpAny_callSpecial?_slot (name := Str.ofString "__getitem__") ht.typeIs PyProof.Rows.slot_tuple_getitem (wpAny_call_entry PyProof.Rows.slot_tuple_getitem ht.typeIs PyProof.Rows.entry_tuple_getitem ?_ (PyProof.Rows.args_tuple_getitem _ _)))
  show wpAny _ _ (Builtin.Tuple.tupleItemsOf (.ref t) >>= _) _ _ s
  refine wpAny_bind (tupleItemsOf_ ht ?_)
  refine wpAny_bind (wpAny_typeOf hTs ?_)
  rw [if_pos (by decide)]
  refine wpAny_bind (rev_applied hs ?_)
  have hno : ¬ ((((items.size : Int) - 1) == 0 && (-1 : Int) == 1 && items.size == items.size) = true) := by
    intro q
    rw [Bool.and_eq_true, Bool.and_eq_true] at q
    exact absurd (eq_of_beq q.1.2) (by decide)
  show wpAny _ _ (if (((items.size : Int) - 1) == 0 && (-1 : Int) == 1 && items.size == items.size) = true then _ else _) _ _ s
  rw [if_neg hno, rev_pick]
  first
    | exact wpAny_bind (m := Builtin.Tuple.tupleExact _) (wpAny_newObj_type (wpAny_pure ⟨_, rfl, wpAny_pure h⟩) small)
    | exact wpAny_bind (m := Builtin.Tuple.tupleExact _) (wpAny_newObj_type (wpAny_bind (wpAny_pure (wpAny_pure ⟨_, rfl, wpAny_pure h⟩))) small)
    | exact wpAny_bind (wpAny_bind (m := Builtin.Tuple.tupleExact _) (wpAny_newObj_type (wpAny_pure (wpAny_pure ⟨_, rfl, wpAny_pure h⟩)) small))
    | exact wpAny_bind (wpAny_bind (m := Builtin.Tuple.tupleExact _) (wpAny_newObj_type (wpAny_pure ⟨_, rfl, wpAny_pure h⟩) small))
end
/-- x[::-1], x a list or a tuple -/
def tRevA (K : PySem.W.Frag) (te : TE) : TE := fun σ H Q => te σ H fun x H1 => ∃ a xs, x = .ref a ∧ ((SqL K H1 a xs ∧ ∀ p, H1 p = none → Q (.ref p) (upd H1 p (.lst xs.reverse))) ∨ (SqT K H1 a xs ∧ ∀ p, H1 p = none → Q (.ref p) (upd H1 p (.tup xs.reverse))))
theorem pe_revAll {X : Cx} {e : Expr} {te : TE} {k : Nat} {p1 p2 p3 pos : Pos} (he : PE X e te) : PE X (.Subscript e (.Slice none none (some (.UnaryOp .USub (.Constant (.int 1) k p1) p2)) p3) pos) (tRevA X.K te) := by
  refine ⟨fun pins s σ H Q I h => ?_⟩
  refine Subscript_ (thn (he.run pins s σ H _ I h) fun v s1 ⟨x, H1, I1, r1, q1⟩ => ?_)
  obtain ⟨a, xs, ex, q⟩ := q1
  subst ex
  cases r1
  have hst : PO X (some (.UnaryOp .USub (.Constant (.int 1) k p1) p2)) (tPart (tUn (rU fun i => .int (-i)) (tC (.int 1)))) := po_some (pe_un un_neg pe_int)
  refine wpAny_Slice (thn (po_none.run pins s1 σ H1 (fun o H2 => o = none ∧ H2 = H1) I1 ⟨rfl, rfl⟩) fun vl s2 ⟨l, H2, I2, pl, el, e2⟩ => ?_)
  subst el e2
  refine thn (po_none.run pins s2 σ H2 (fun o H3 => o = none ∧ H3 = H2) I2 ⟨rfl, rfl⟩) fun vu s3 ⟨u, H3, I3, pu, eu, e3⟩ => ?_
  subst eu e3
  refine thn (hst.run pins s3 σ H3 (fun o H4 => o = some (-1) ∧ H4 = H3) I3 ⟨1, rfl, -1, rfl, rfl, rfl⟩) fun vs s4 ⟨o, H4, I4, ps, eo, e4⟩ => ?_
  subst eo e4
  have I5 : Inv X pins σ H4 { s4 with heap := s4.heap.push { cls := .type "slice", data := .fields #[vl, vu, vs] } } := I4.kept (t' := s4.toks) fun b ob q => Heap.get?_push_of_some _ q
  show wpAny (model X.prog X.w) X.A (subscriptTail e (.Slice none none (some (.UnaryOp .USub (.Constant (.int 1) k p1) p2)) p3) (.ref a) (.ref s4.heap.objs.size)) (EP X pins σ Q) X.xe { s4 with heap := s4.heap.push { cls := .type "slice", data := .fields #[vl, vu, vs] } }
  rcases q with ⟨hx, q⟩ | ⟨hx, q⟩
  · obtain ⟨its, r, ht, hz⟩ := I5.list hx
    have hlen := r.length
    refine tail_any (ops := [.ref a, .ref s4.heap.objs.size]) ht.isList.typeIs (PySem.slot_list_getitem.lookup) ?_ (by with_unfolding_all rfl)
    refine wpAny_getItem_list_slice ht.isList (Heap.IsSliceOf.new _ vl vu vs) pl pu ps (by decide) ?_ (by rw [List.size_toArray]; omega)
    rw [PySem.W.krv_pick]
    refine ⟨.ref _, _, I5.laid (t' := s4.toks) (o := .lst xs.reverse) (fun b ob q => Heap.get?_push_of_some _ q) (Nat.le_refl _) ?_, rfl, q _ (I5.hok.fresh (Nat.le_refl _))⟩
    exact ⟨by rw [List.length_reverse]; exact hz, _, 0, r.reverse, Heap.get?_push_size _ rfl⟩
  · obtain ⟨its, r, ht, hz⟩ := I5.tuple hx
    have hlen := r.length
    refine tail_any (ops := [.ref a, .ref s4.heap.objs.size]) ht.typeIs (PyProof.Rows.slot_tuple_getitem.lookup) ?_ (by with_unfolding_all rfl)
    have hsl := Heap.IsSliceOf.new s4.heap vl vu vs
    cases pl
    cases pu
    cases ps
    refine getItem_tuple_rev ht hsl ?_ (by rw [List.size_toArray]; omega)
    refine ⟨.ref _, _, I5.laid (t' := s4.toks) (o := .tup xs.reverse) (fun b ob q => Heap.get?_push_of_some _ q) (Nat.le_refl _) ?_, rfl, q _ (I5.hok.fresh (Nat.le_refl _))⟩
    exact ⟨by rw [List.length_reverse]; exact hz, _, r.reverse, IsTup.new _ _⟩
theorem DpAll.rev {K : PySem.W.Frag} {B : Hp} : ∀ {xs : List V} {ds : List D}, DpAll K B xs ds → DpAll K B xs.reverse ds.reverse
  | _, [], h => by cases h; exact .nil
  | _, d :: ds, h => by
    cases h with
    | cons h1 h2 => rw [List.reverse_cons, List.reverse_cons]; exact DL.DpAll.app (DpAll.rev h2) (.cons h1 .nil)
@[reducible] def oRevS : O1 := fun d k => match d with
  | .list ds => k (.own 0 (.lst ds.reverse))
  | .tuple ds => k (.v (.tuple ds.reverse))
  | _ => False
theorem lift_rev {K : PySem.W.Frag} : Lift1 K (fun x H Q => ∃ a xs, x = .ref a ∧ ((SqL K H a xs ∧ ∀ p, H p = none → Q (.ref p) (upd H p (.lst xs.reverse))) ∨ (SqT K H a xs ∧ ∀ p, H p = none → Q (.ref p) (upd H p (.tup xs.reverse))))) oRevS := by
  intro O H x dx QD Q hO hx q fin
  cases hx with
  | lst h1 h2 => exact ⟨_, _, rfl, .inl ⟨Same.seq same_hide h1, fun p n => fin _ _ (.own 0 (.lst _)) (same_new n) (new_lst n (DpAll.rev h2)) q⟩⟩
  | tup h1 h2 => exact ⟨_, _, rfl, .inr ⟨seqT_same same_hide h1, fun p n => fin _ _ (.v _) (same_new n) (new_tup n (fun z => by obtain ⟨u, e⟩ := hO p z; rw [n] at e; cases e) (DpAll.rev h2)) q⟩⟩
  | _ => exact q.elim
@[reducible] def wRevS (we : WE) : WE := wU oRevS we
theorem ee_revS {X : Cx} {g : G} {W : WX} {e : Expr} {we : WE} {k : Nat} {p1 p2 p3 pos : Pos} (h : EE X g W e we) : EE X g W (.Subscript e (.Slice none none (some (.UnaryOp .USub (.Constant (.int 1) k p1) p2)) p3) pos) (wRevS we) := by
  obtain ⟨t, p, s⟩ := h.ex
  exact ⟨_, pe_revAll p, sem_un lift_rev s⟩

/-! ### x in t -/
def rInA (K : PySem.W.Frag) (neg : Bool) : R2 := fun x y H Q => (∃ d ds, Dp K H x d ∧ (Dp K H y (.list ds) ∨ Dp K H y (.tuple ds)) ∧ SeqAt.shaped d = true ∧ SeqAt.shaped (.list ds) = true ∧ Q (.bl (if neg then !(ds.any fun z => PyData.eqv z d) else ds.any fun z => PyData.eqv z d)) H) ∨
  ∃ i j, x = .str i ∧ y = .str j ∧ Q (.bl (if neg then (Builtin.Str.occurrences j i 0 j.length 1).isEmpty else !(Builtin.Str.occurrences j i 0 j.length 1).isEmpty)) H
section
variable {X : Cx}
theorem op_inA (hu : X.A.units + 65 < cLine) : OpR X (compareOp .In) (rInA X.K false) := by
  intro pins s σ H x y v u Q I rx ry h
  rcases h with ⟨d, ds, hd, he, sd, se, q⟩ | ⟨i, j, rfl, rfl, q⟩
  · obtain ⟨as, r1⟩ := Dp.reads I d x v hd rx
    rcases he with he | he
    · obtain ⟨bs, r2⟩ := Dp.reads I (.list ds) y u he ry
      exact SeqAt.in_list_reads r2 r1 (SeqAt.canLay_of_shaped se) (SeqAt.canLay_of_shaped sd) (room_in_shaped sd hu) ⟨.bl _, H, I, rfl, q⟩
    · obtain ⟨bs, r2⟩ := Dp.reads I (.tuple ds) y u he ry
      exact SeqAt.in_tuple_reads r2 r1 (SeqAt.canLay_of_shaped se) (SeqAt.canLay_of_shaped sd) (room_in_shaped sd hu) ⟨.bl _, H, I, rfl, q⟩
  · exact op_in_str pins s σ H _ _ v u Q I rx ry ⟨i, j, rfl, rfl, q⟩
theorem op_notinA (hu : X.A.units + 65 < cLine) : OpR X (compareOp .NotIn) (rInA X.K true) := by
  intro pins s σ H x y v u Q I rx ry h
  rcases h with ⟨d, ds, hd, he, sd, se, q⟩ | ⟨i, j, rfl, rfl, q⟩
  · obtain ⟨as, r1⟩ := Dp.reads I d x v hd rx
    rcases he with he | he
    · obtain ⟨bs, r2⟩ := Dp.reads I (.list ds) y u he ry
      exact SeqAt.notIn_list_reads r2 r1 (SeqAt.canLay_of_shaped se) (SeqAt.canLay_of_shaped sd) (room_in_shaped sd hu) ⟨.bl _, H, I, rfl, q⟩
    · obtain ⟨bs, r2⟩ := Dp.reads I (.tuple ds) y u he ry
      exact SeqAt.notIn_tuple_reads r2 r1 (SeqAt.canLay_of_shaped se) (SeqAt.canLay_of_shaped sd) (room_in_shaped sd hu) ⟨.bl _, H, I, rfl, q⟩
  · exact op_notin_str pins s σ H _ _ v u Q I rx ry ⟨i, j, rfl, rfl, by rw [Bool.not_not]; exact q⟩
end
/-- whether a text stands in another one -/
def inS (i j : Str) : Bool := !(Builtin.Str.occurrences j i 0 j.length 1).isEmpty
/-- whether data stands among data -/
def memD (d : D) (ds : List D) : Bool := ds.any fun z => PyData.eqv z d
@[reducible] def oIn : O2 := fun d1 d2 k => match d2 with
  | .list ds => SeqAt.shaped d1 = true ∧ SeqAt.shaped (.list ds) = true ∧ k (.v (.bool (memD d1 ds)))
  | .tuple ds => SeqAt.shaped d1 = true ∧ SeqAt.shaped (.list ds) = true ∧ k (.v (.bool (memD d1 ds)))
  | .str j => match d1 with
    | .str i => k (.v (.bool (inS i j)))
    | _ => False
  | _ => False
@[reducible] def oNotIn : O2 := fun d1 d2 k => match d2 with
  | .list ds => SeqAt.shaped d1 = true ∧ SeqAt.shaped (.list ds) = true ∧ k (.v (.bool (!memD d1 ds)))
  | .tuple ds => SeqAt.shaped d1 = true ∧ SeqAt.shaped (.list ds) = true ∧ k (.v (.bool (!memD d1 ds)))
  | .str j => match d1 with
    | .str i => k (.v (.bool (!inS i j)))
    | _ => False
  | _ => False
theorem lift_in {K : PySem.W.Frag} : Lift2 K (rInA K false) oIn := by
  intro O H x y dx dy QD Q _ hx hy q fin
  have hx' := dp_hide hx
  have hy' := dp_hide hy
  cases dy with
  | list ds => exact .inl ⟨dx, ds, hx', .inl hy', q.1, q.2.1, fin _ H (.v _) (Same.refl H) (.bl _) q.2.2⟩
  | tuple ds => exact .inl ⟨dx, ds, hx', .inr hy', q.1, q.2.1, fin _ H (.v _) (Same.refl H) (.bl _) q.2.2⟩
  | str j =>
    cases dx with
    | str i => cases hx'; cases hy'; exact .inr ⟨i, j, rfl, rfl, fin _ H (.v _) (Same.refl H) (.bl _) q⟩
    | _ => exact q.elim
  | _ => exact q.elim
theorem lift_notin {K : PySem.W.Frag} : Lift2 K (rInA K true) oNotIn := by
  intro O H x y dx dy QD Q _ hx hy q fin
  have hx' := dp_hide hx
  have hy' := dp_hide hy
  cases dy with
  | list ds => exact .inl ⟨dx, ds, hx', .inl hy', q.1, q.2.1, fin _ H (.v _) (Same.refl H) (.bl _) q.2.2⟩
  | tuple ds => exact .inl ⟨dx, ds, hx', .inr hy', q.1, q.2.1, fin _ H (.v _) (Same.refl H) (.bl _) q.2.2⟩
  | str j =>
    cases dx with
    | str i =>
      cases hx'; cases hy'
      have e : (!inS i j) = (Builtin.Str.occurrences j i 0 j.length 1).isEmpty := Bool.not_not _
      have q2 : QD (.v (.bool (!inS i j))) := q
      rw [e] at q2
      exact .inr ⟨i, j, rfl, rfl, fin _ H (.v _) (Same.refl H) (.bl _) q2⟩
    | _ => exact q.elim
  | _ => exact q.elim
section
variable {X : Cx} {g : G} {W : WX} {a b : Expr} {wa wb : WE} {pos : Pos}
theorem units65 {k : Nat} {A : Around} (hr : Room k A) : A.units + 65 < cLine := by
  have := hr.un
  omega
theorem ee_in (hu : X.A.units + 65 < cLine) (ha : EE X g W a wa) (hb : EE X g W b wb) (hm : behindInMarks .In b = false := by rfl) : EE X g W (.Compare a [.In] [b] pos) (wB oIn wa wb) := ee_cmp (op_inA hu) lift_in ha hb hm
theorem ee_notin (hu : X.A.units + 65 < cLine) (ha : EE X g W a wa) (hb : EE X g W b wb) (hm : behindInMarks .NotIn b = false := by rfl) : EE X g W (.Compare a [.NotIn] [b] pos) (wB oNotIn wa wb) := ee_cmp (op_notinA hu) lift_notin ha hb hm
theorem et_in (hu : X.A.units + 65 < cLine) (ha : EE X g W a wa) (hb : EE X g W b wb) (hm : behindInMarks .In b = false := by rfl) : ET X g W (.Compare a [.In] [b] pos) (wTst (wB oIn wa wb)) := et_cmp (op_inA hu) lift_in ha hb hm
theorem et_notin (hu : X.A.units + 65 < cLine) (ha : EE X g W a wa) (hb : EE X g W b wb) (hm : behindInMarks .NotIn b = false := by rfl) : ET X g W (.Compare a [.NotIn] [b] pos) (wTst (wB oNotIn wa wb)) := et_cmp (op_notinA hu) lift_notin ha hb hm
end

/-! ### max and min of a list of numbers -/
@[reducible] def oMax1 : OL := fun ds k => match ds with
  | [.list es] => optK (intsOf es) fun ns => 0 < ns.length ∧ ∀ m : Int, m ∈ ns → (∀ y ∈ ns, y ≤ m) → k (.v (.int m))
  | _ => False
@[reducible] def oMin1 : OL := fun ds k => match ds with
  | [.list es] => optK (intsOf es) fun ns => 0 < ns.length ∧ ∀ m : Int, m ∈ ns → (∀ y ∈ ns, m ≤ y) → k (.v (.int m))
  | _ => False
theorem lift_max1 {K : PySem.W.Frag} : LiftL K (rMax K) oMax1 := by
  intro O H xs ds QD Q _ hx q fin
  unfold oMax1 at q
  split at q
  · cases hx with
    | cons h1 h2 =>
      cases h2
      cases h1 with
      | lst a1 a2 =>
        rename_i es _ _
        cases e : intsOf es with
        | none => rw [e] at q; exact q.elim
        | some ns =>
          rw [e] at q
          have e2 := intsOf_dp a2 e
          subst e2
          exact ⟨_, ns, rfl, Same.seq same_hide a1, q.1, fun m hm hy => fin _ H (.v _) (Same.refl H) (.int _) (q.2 m hm hy)⟩
  · exact q.elim
theorem lift_min1 {K : PySem.W.Frag} : LiftL K (rMin K) oMin1 := by
  intro O H xs ds QD Q _ hx q fin
  unfold oMin1 at q
  split at q
  · cases hx with
    | cons h1 h2 =>
      cases h2
      cases h1 with
      | lst a1 a2 =>
        rename_i es _ _
        cases e : intsOf es with
        | none => rw [e] at q; exact q.elim
        | some ns =>
          rw [e] at q
          have e2 := intsOf_dp a2 e
          subst e2
          exact ⟨_, ns, rfl, Same.seq same_hide a1, q.1, fun m hm hy => fin _ H (.v _) (Same.refl H) (.int _) (q.2 m hm hy)⟩
  · exact q.elim
section
variable {X : Cx} {g : G} {W : WX} {e : Expr} {es : List Expr} {wa : WA} {p pos : Pos}
theorem ee_max1 (hc : X.calm = true) (hg : Gl X "max") (hm : X.mg "max" = none) (ha : EA X g W (e :: es) wa) (he : starEach (e :: es) X.env = (false, eval e X.env) :: starEach es X.env := by rfl) (hpl : (backTo pos (starEach es X.env)).any (·.1) = false := by rfl) : EE X g W (.Call (.Name "max" p) (e :: es) [] pos) (wL oMax1 wa) :=
  ee_cb (cr_max hc) lift_max1 hg hm rfl ha (he := he) (hpl := hpl)
theorem ee_min1 (hc : X.calm = true) (hg : Gl X "min") (hm : X.mg "min" = none) (ha : EA X g W (e :: es) wa) (he : starEach (e :: es) X.env = (false, eval e X.env) :: starEach es X.env := by rfl) (hpl : (backTo pos (starEach es X.env)).any (·.1) = false := by rfl) : EE X g W (.Call (.Name "min" p) (e :: es) [] pos) (wL oMin1 wa) :=
  ee_cb (cr_min hc) lift_min1 hg hm rfl ha (he := he) (hpl := hpl)
end

/-! ### + of numbers, texts, tuples -/
def rPlus (K : PySem.W.Frag) : R2 := fun x y H Q => (∃ i j, x = .int i ∧ y = .int j ∧ Q (.int (i + j)) H) ∨ (∃ i j, x = .str i ∧ y = .str j ∧ i.length + j.length ≤ sizeLine ∧ Q (.str (i ++ j)) H) ∨ rCatA K x y H Q
section
variable {X : Cx}
theorem op_plus : OpR X (binaryOp .Add) (rPlus X.K) := by
  intro pins s σ H x y v u Q I rx ry h
  rcases h with h | h | h
  · exact op_add pins s σ H x y v u Q I rx ry h
  · exact op_add_str pins s σ H x y v u Q I rx ry h
  · exact op_catA pins s σ H x y v u Q I rx ry h
end
@[reducible] def oPlus : O2 := fun d1 d2 k => match d1, d2 with
  | .int i, .int j => k (.v (.int (i + j)))
  | .str i, .str j => i.length + j.length ≤ sizeLine ∧ k (.v (.str (i ++ j)))
  | .tuple ds, .tuple es => ds.length + es.length ≤ sizeLine ∧ k (.v (.tuple (ds ++ es)))
  | _, _ => False
theorem DpAll.nil_iff {K : PySem.W.Frag} {B : Hp} {xs : List V} {ds : List D} (h : DpAll K B xs ds) : xs = [] ↔ ds = [] := by
  cases h <;> simp
theorem lift_plus {K : PySem.W.Frag} : Lift2 K (rPlus K) oPlus := by
  intro O H x y dx dy QD Q hO hx hy q fin
  cases hx with
  | int i =>
    cases hy <;> try exact q.elim
    exact .inl ⟨_, _, rfl, rfl, fin _ H (.v _) (Same.refl H) (.int _) q⟩
  | str i =>
    cases hy <;> try exact q.elim
    exact .inr (.inl ⟨_, _, rfl, rfl, q.1, fin _ H (.v _) (Same.refl H) (.str _) q.2⟩)
  | tup h1 h2 =>
    cases hy with
    | tup g1 g2 =>
      rename_i a xs ds b ys es
      refine .inr (.inr ⟨_, _, _, _, rfl, rfl, seqT_same same_hide h1, seqT_same same_hide g1, by rw [DL.DpAll.len h2, DL.DpAll.len g2]; exact q.1, fun z => ?_, fun z1 z2 => ?_, fun z1 z2 p n => ?_⟩)
      · have e := (DpAll.nil_iff h2).mp z
        have q2 := q.2
        rw [e, List.nil_append] at q2
        exact fin _ H (.v _) (Same.refl H) (.tup g1 g2) q2
      · have e := (DpAll.nil_iff g2).mp z2
        have q2 := q.2
        rw [e, List.append_nil] at q2
        exact fin _ H (.v _) (Same.refl H) (.tup h1 h2) q2
      · exact fin _ _ (.v _) (same_new n) (new_tup n (fun z => by obtain ⟨u, e⟩ := hO p z; rw [n] at e; cases e) (DL.DpAll.app h2 g2)) q.2
    | _ => exact q.elim
  | _ => exact q.elim
theorem ee_plus {X : Cx} {g : G} {W : WX} {a b : Expr} {wa wb : WE} {pos : Pos} {P : Prop} (_ : P) (ha : EE X g W a wa) (hb : EE X g W b wb) : EE X g W (.BinOp a .Add b pos) (wB oPlus wa wb) := by
  obtain ⟨ta, p1, s1⟩ := ha.ex
  obtain ⟨tb, p2, s2⟩ := hb.ex
  exact ⟨_, pe_op op_plus p1 p2, sem_op lift_plus s1 s2⟩
/-! ### int of a text -/
@[reducible] def oIntS : OL := fun ds k => match ds with
  | [.str a] => optK (PySem.intText? a) fun n => a.length ≤ 640 ∧ k (.v (.int n))
  | _ => False
theorem lift_intS {K : PySem.W.Frag} : LiftL K (fun xs H Q => ∃ a n, xs = [.str a] ∧ PySem.intText? a = some n ∧ a.length ≤ 640 ∧ Q (.int n) H) oIntS := by
  intro O H xs ds QD Q _ hx q fin
  unfold oIntS at q
  split at q
  · rename_i a
    cases hx with
    | cons h1 h2 =>
      cases h2
      cases h1
      cases e : PySem.intText? a with
      | none => rw [e] at q; exact q.elim
      | some n =>
        rw [e] at q
        exact ⟨a, n, rfl, e, q.1, fin _ H (.v _) (Same.refl H) (.int _) q.2⟩
  · exact q.elim
theorem ee_intS {X : Cx} {g : G} {W : WX} {e : Expr} {es : List Expr} {wa : WA} {p pos : Pos} (hg : Gl X "int") (hm : X.mg "int" = none) (ha : EA X g W (e :: es) wa) (he : starEach (e :: es) X.env = (false, eval e X.env) :: starEach es X.env := by rfl) (hpl : (backTo pos (starEach es X.env)).any (·.1) = false := by rfl) : EE X g W (.Call (.Name "int" p) (e :: es) [] pos) (wL oIntS wa) :=
  ee_ct call_int_str lift_intS hg hm rfl ha (he := he) (hpl := hpl)
end DL

set_option Elab.async false
set_option linter.all false
set_option maxRecDepth 100000
set_option maxHeartbeats 4000000
/-! DL: facts of data: how deep, equal or not -/
namespace DL
open PySem PySem.Spec PyProof.Rows L2
/-- data that can be compared, at most k deep -/
structure Lay (k : Nat) (d : D) : Prop where
  ok : d.canLay0 = true
  dp : d.depth ≤ k
theorem Lay.up {k m : Nat} {d : D} (h : Lay k d) (l : k ≤ m) : Lay m d := ⟨h.ok, Nat.le_trans h.dp l⟩
theorem Lay.int {k : Nat} (i : Int) : Lay k (.int i) := ⟨rfl, by simp [PyData.depth]⟩
theorem Lay.bool {k : Nat} (b : Bool) : Lay k (.bool b) := ⟨rfl, by simp [PyData.depth]⟩
theorem Lay.none {k : Nat} : Lay k .none := ⟨rfl, by simp [PyData.depth]⟩
theorem Lay.str {k : Nat} {x : Str} (h : PyData.canLay0 (.str x) = true) : Lay k (.str x) := ⟨h, by simp [PyData.depth]⟩
theorem lay_all {k : Nat} : ∀ {ds : List D}, (∀ d ∈ ds, Lay k d) → PyData.canLayAll0 ds = true ∧ PyData.depthAll ds ≤ k
  | [], _ => ⟨rfl, by simp [PyData.depthAll]⟩
  | d :: ds, h => by
    obtain ⟨h1, h2⟩ := lay_all (ds := ds) fun e he => h e (.tail _ he)
    obtain ⟨g1, g2⟩ := h d (.head _)
    refine ⟨by rw [PyData.canLayAll0, g1, h1]; rfl, ?_⟩
    simp only [PyData.depthAll]
    omega
theorem Lay.tuple {k : Nat} {ds : List D} (h : ∀ d ∈ ds, Lay k d) : Lay (k + 1) (.tuple ds) := by
  obtain ⟨h1, h2⟩ := lay_all h
  exact ⟨by rw [PyData.canLay0]; exact h1, by simp only [PyData.depth]; omega⟩
theorem Lay.list {k : Nat} {ds : List D} (h : ∀ d ∈ ds, Lay k d) : Lay (k + 1) (.list ds) := by
  obtain ⟨h1, h2⟩ := lay_all h
  exact ⟨by rw [PyData.canLay0]; exact h1, by simp only [PyData.depth]; omega⟩
theorem Lay.shaped {k : Nat} {d : D} (h : Lay k d) (l : k ≤ 64 := by decide) : SeqAt.shaped d = true := by
  show (d.canLay0 && decide (d.depth ≤ 64)) = true
  rw [Bool.and_eq_true]
  exact ⟨h.ok, decide_eq_true (Nat.le_trans h.dp l)⟩
theorem Lay.refl {k : Nat} {d : D} (h : Lay k d) : PyData.eqv d d = true := SeqAt.eqv_refl d h.ok
theorem memD_of {k : Nat} {d : D} {ds : List D} (h : Lay k d) (m : d ∈ ds) : memD d ds = true := List.any_eq_true.mpr ⟨d, m, h.refl⟩
theorem lay_ints {ns : List Int} : Lay 1 (.list (ns.map PyData.int)) := Lay.list fun d hd => by
  obtain ⟨i, _, rfl⟩ := List.mem_map.mp hd
  exact Lay.int i
theorem lay_intsT {ns : List Int} : Lay 1 (.tuple (ns.map PyData.int)) := Lay.tuple fun d hd => by
  obtain ⟨i, _, rfl⟩ := List.mem_map.mp hd
  exact Lay.int i
mutual
/-- no truths within -/
def nob : D → Bool
  | .bool _ => false
  | .dict _ => false
  | .list xs => nobAll xs
  | .tuple xs => nobAll xs
  | .none => true
  | .int _ => true
  | .str _ => true
def nobAll : List D → Bool
  | [] => true
  | x :: xs => nob x && nobAll xs
end
mutual
theorem eqv_iff : ∀ (d e : D), nob d = true → nob e = true → (PyData.eqv d e = true ↔ d = e)
  | .none, e, _, h => by cases e <;> simp_all [PyData.eqv, nob]
  | .int i, e, _, h => by cases e <;> simp_all [PyData.eqv, nob]
  | .str x, e, _, h => by cases e <;> simp_all [PyData.eqv, nob]
  | .list xs, e, h1, h => by
    cases e with
    | list ys => rw [PyData.eqv, eqvAll_iff xs ys (by simpa [nob] using h1) (by simpa [nob] using h)]; simp
    | _ => simp_all [PyData.eqv, nob]
  | .tuple xs, e, h1, h => by
    cases e with
    | tuple ys => rw [PyData.eqv, eqvAll_iff xs ys (by simpa [nob] using h1) (by simpa [nob] using h)]; simp
    | _ => simp_all [PyData.eqv, nob]
  | .bool _, _, h, _ => by simp [nob] at h
  | .dict _, _, h, _ => by simp [nob] at h
theorem eqvAll_iff : ∀ (xs ys : List D), nobAll xs = true → nobAll ys = true → (PyData.eqvAll xs ys = true ↔ xs = ys)
  | [], [], _, _ => by simp [PyData.eqvAll]
  | [], _ :: _, _, _ => by simp [PyData.eqvAll]
  | _ :: _, [], _, _ => by simp [PyData.eqvAll]
  | x :: xs, y :: ys, h1, h2 => by
    have a : nob x = true ∧ nobAll xs = true := by simpa [nobAll] using h1
    have b : nob y = true ∧ nobAll ys = true := by simpa [nobAll] using h2
    rw [PyData.eqvAll, Bool.and_eq_true, eqv_iff x y a.1 b.1, eqvAll_iff xs ys a.2 b.2]
    simp
end
theorem eqv_no {d e : D} (h : nob d = true) (h' : nob e = true) (n : d ≠ e) : PyData.eqv d e = false := by
  cases q : PyData.eqv d e with
  | true => exact absurd ((eqv_iff d e h h').mp q) n
  | false => rfl
theorem eqv_self {d : D} (h : nob d = true) : PyData.eqv d d = true := (eqv_iff d d h h).mpr rfl
theorem nobAll_of {ds : List D} (h : ∀ d ∈ ds, nob d = true) : nobAll ds = true := by
  induction ds with
  | nil => rfl
  | cons d ds ih => rw [nobAll, h d (.head _), ih fun e he => h e (.tail _ he)]; rfl
theorem nob_tup {ds : List D} (h : ∀ d ∈ ds, nob d = true) : nob (.tuple ds) = true := by rw [nob]; exact nobAll_of h
theorem nob_lst {ds : List D} (h : ∀ d ∈ ds, nob d = true) : nob (.list ds) = true := by rw [nob]; exact nobAll_of h

/-! ### comprehensions -/
theorem lcK_ind {T : List Nat} {wg : WG} {wt : WT} {we : WE} {k : List D → Rho → Prop} (I : List D → List D → Rho → Prop) (h0 : ∀ acc ρ, I [] acc ρ → k acc ρ)
    (h1 : ∀ d ds acc ρ (next : List D → Rho → Prop), (∀ acc' ρ', I ds acc' ρ' → next acc' ρ') → I (d :: ds) acc ρ → wg d ρ fun ρ1 => wt ρ1 (fun b ρ2 => if b = true then we ρ2 (fun c ρ3 => match frzC c with
      | .v d' => next (acc ++ [d']) (clr T ρ3)
      | _ => False) (fun _ _ => False) else next acc (clr T ρ2)) (fun _ _ => False)) : ∀ ds acc ρ, I ds acc ρ → lcK T wg wt we ds acc ρ k
  | [], acc, ρ, h => h0 acc ρ h
  | d :: ds, acc, ρ, h => h1 d ds acc ρ _ (fun acc' ρ' h' => lcK_ind I h0 h1 ds acc' ρ' h') h
/-- a comprehension whose items are told by functions, the state at rest -/
theorem lcK_fm {T : List Nat} {wg : WG} {wt : WT} {we : WE} {k : List D → Rho → Prop} {ρ0 : Rho} (f : D → Option D) :
    ∀ (ds acc : List D), (∀ d ∈ ds, ∀ next : Option D → Rho → Prop, next (f d) ρ0 → wg d ρ0 fun ρ1 => wt ρ1 (fun b ρ2 => if b = true then we ρ2 (fun c ρ3 => match frzC c with
      | .v d' => next (some d') (clr T ρ3)
      | _ => False) (fun _ _ => False) else next none (clr T ρ2)) (fun _ _ => False)) → k (acc ++ ds.filterMap f) ρ0 → lcK T wg wt we ds acc ρ0 k
  | [], acc, _, h => by
    rw [List.filterMap_nil, List.append_nil] at h
    exact h
  | d :: ds, acc, h1, h => by
    refine h1 d (.head _) (fun o ρ => match o with
      | some d' => lcK T wg wt we ds (acc ++ [d']) ρ k
      | none => lcK T wg wt we ds acc ρ k) ?_
    have rest : ∀ acc', k (acc' ++ ds.filterMap f) ρ0 → lcK T wg wt we ds acc' ρ0 k := fun acc' => lcK_fm f ds acc' fun e he => h1 e (.tail _ he)
    cases e : f d with
    | none =>
      show lcK T wg wt we ds acc ρ0 k
      refine rest acc ?_
      rw [List.filterMap_cons, e] at h
      exact h
    | some d' =>
      show lcK T wg wt we ds (acc ++ [d']) ρ0 k
      refine rest _ ?_
      rw [List.filterMap_cons, e] at h
      rw [List.append_assoc]
      exact h
theorem eqv_lnil {ds : List D} : PyData.eqv (.list ds) (.list []) = ds.isEmpty := by cases ds <;> simp [PyData.eqv, PyData.eqvAll]
theorem eqv_tnil {ds : List D} : PyData.eqv (.tuple ds) (.tuple []) = ds.isEmpty := by cases ds <;> simp [PyData.eqv, PyData.eqvAll]
theorem ixN_of {n : Nat} {k : Int} (h0 : 0 ≤ k) (h1 : k < n) : ixN n k = some k.toNat := by
  unfold ixN
  rw [if_pos h0, if_pos h1]
theorem atI_of {α : Type} {ds : List α} {k : Int} {d : α} (h0 : 0 ≤ k) (h : ds[k.toNat]? = some d) : atI ds k = some d := by
  have e : ((k.toNat : Nat) : Int) = k := by omega
  rw [← e]
  exact L2.atI_nat h
theorem setI_of {α : Type} {ds : List α} {k : Int} {d : α} (h0 : 0 ≤ k) (h1 : k < ds.length) : setI ds k d = some (ds.set k.toNat d) := by
  unfold setI
  rw [ixN_of h0 h1]
  rfl
theorem rangeD_cons {lo : Int} {n : Nat} : rangeD lo (n + 1) = .int lo :: rangeD (lo + 1) n := by
  unfold rangeD
  rw [List.range_succ_eq_map, List.map_cons, List.map_map]
  have e : lo + ((0 : Nat) : Int) = lo := by omega
  rw [e]
  congr 1
  apply List.map_congr_left
  intro k _
  show PyData.int (lo + ((k + 1 : Nat) : Int)) = .int (lo + 1 + (k : Int))
  congr 1
  omega
theorem rangeD_zero {lo : Int} : rangeD lo 0 = [] := rfl
theorem rangeD_len {lo : Int} {n : Nat} : (rangeD lo n).length = n := by simp [rangeD]
theorem lcK_eq {T : List Nat} {wg : WG} {wt : WT} {we : WE} {ds acc : List D} {ρ ρ' : Rho} {k : List D → Rho → Prop} (e : ρ = ρ') (h : lcK T wg wt we ds acc ρ' k) : lcK T wg wt we ds acc ρ k := by
  subst e
  exact h
theorem forK_eq {wg : WG} {wb : WS} {ds : List D} {DD : EndsD} {ρ ρ' : Rho} (e : ρ = ρ') (h : forK wg wb ds DD ρ') : forK wg wb ds DD ρ := by
  subst e
  exact h
/-- a comprehension over things told by xs -/
theorem lcK_xs {α : Type} {T : List Nat} {wg : WG} {wt : WT} {we : WE} {k : List D → Rho → Prop} {ρ0 : Rho} {inj : α → D} (g : α → Option D) :
    ∀ (xs : List α) (acc : List D), (∀ x ∈ xs, ∀ next : Option D → Rho → Prop, next (g x) ρ0 → wg (inj x) ρ0 fun ρ1 => wt ρ1 (fun b ρ2 => if b = true then we ρ2 (fun c ρ3 => match frzC c with
      | .v d' => next (some d') (clr T ρ3)
      | _ => False) (fun _ _ => False) else next none (clr T ρ2)) (fun _ _ => False)) → k (acc ++ xs.filterMap g) ρ0 → lcK T wg wt we (xs.map inj) acc ρ0 k
  | [], acc, _, h => by
    rw [List.filterMap_nil, List.append_nil] at h
    exact h
  | x :: xs, acc, h1, h => by
    refine h1 x (.head _) (fun o ρ => match o with
      | some d' => lcK T wg wt we (xs.map inj) (acc ++ [d']) ρ k
      | none => lcK T wg wt we (xs.map inj) acc ρ k) ?_
    have rest : ∀ acc', k (acc' ++ xs.filterMap g) ρ0 → lcK T wg wt we (xs.map inj) acc' ρ0 k := fun acc' => lcK_xs g xs acc' fun e he => h1 e (.tail _ he)
    cases e : g x with
    | none =>
      show lcK T wg wt we (xs.map inj) acc ρ0 k
      refine rest acc ?_
      rw [List.filterMap_cons, e] at h
      exact h
    | some d' =>
      show lcK T wg wt we (xs.map inj) (acc ++ [d']) ρ0 k
      refine rest _ ?_
      rw [List.filterMap_cons, e] at h
      rw [List.append_assoc]
      exact h
/-- one that leaves nothing out -/
theorem lcK_ys {α : Type} {T : List Nat} {wg : WG} {wt : WT} {we : WE} {k : List D → Rho → Prop} {ρ0 : Rho} {inj : α → D} (g : α → D) (xs : List α)
    (h : ∀ x ∈ xs, ∀ next : Option D → Rho → Prop, next (some (g x)) ρ0 → wg (inj x) ρ0 fun ρ1 => wt ρ1 (fun b ρ2 => if b = true then we ρ2 (fun c ρ3 => match frzC c with
      | .v d' => next (some d') (clr T ρ3)
      | _ => False) (fun _ _ => False) else next none (clr T ρ2)) (fun _ _ => False)) (fin : k (xs.map g) ρ0) : lcK T wg wt we (xs.map inj) [] ρ0 k := by
  refine lcK_xs (fun x => some (g x)) xs [] h ?_
  rw [List.nil_append]
  have e : xs.filterMap (fun x => some (g x)) = xs.map g := by
    clear h fin
    induction xs with
    | nil => rfl
    | cons x xs ih => rw [List.filterMap_cons, List.map_cons, ih]
  rw [e]
  exact fin
/-- one over numbers in a row -/
theorem lcK_rg {T : List Nat} {wg : WG} {wt : WT} {we : WE} {k : List D → Rho → Prop} {ρ0 : Rho} {lo : Int} (g : Nat → Option D) (n : Nat)
    (h : ∀ x, x < n → ∀ next : Option D → Rho → Prop, next (g x) ρ0 → wg (.int (lo + (x : Nat))) ρ0 fun ρ1 => wt ρ1 (fun b ρ2 => if b = true then we ρ2 (fun c ρ3 => match frzC c with
      | .v d' => next (some d') (clr T ρ3)
      | _ => False) (fun _ _ => False) else next none (clr T ρ2)) (fun _ _ => False)) (fin : k ((List.range n).filterMap g) ρ0) : lcK T wg wt we (rangeD lo n) [] ρ0 k := by
  refine lcK_xs (inj := fun (x : Nat) => PyData.int (lo + x)) g (List.range n) [] (fun x hx => h x (List.mem_range.mp hx)) ?_
  rw [List.nil_append]
  exact fin
theorem lfreeAll_of : ∀ {ds : List D}, (∀ d ∈ ds, lfree d = true) → lfree.lfreeAll ds = true
  | [], _ => rfl
  | d :: ds, h => by
    rw [lfree.lfreeAll, h d (.head _), lfreeAll_of fun e he => h e (.tail _ he)]
    rfl
theorem lfree_tup {ds : List D} (h : ∀ d ∈ ds, lfree d = true) : lfree (.tuple ds) = true := by
  show lfree.lfreeAll ds = true
  exact lfreeAll_of h
theorem lf_ints {k : Nat} {ns : List Int} : C.lf (.own k (.lst (ns.map PyData.int))) = true := by
  show lfree.lfreeAll _ = true
  refine lfreeAll_of fun d hd => ?_
  obtain ⟨x, _, rfl⟩ := List.mem_map.mp hd
  rfl
theorem lf_strs {k : Nat} {ns : List Str} : C.lf (.own k (.lst (ns.map PyData.str))) = true := by
  show lfree.lfreeAll _ = true
  refine lfreeAll_of fun d hd => ?_
  obtain ⟨x, _, rfl⟩ := List.mem_map.mp hd
  rfl
theorem isT_tuple_none {b : Bool} {i : Int} {x : Str} {ds : List D} : isT "tuple" PyData.none = false := by simp [isT]
theorem isT_tuple_bool {b : Bool} {i : Int} {x : Str} {ds : List D} : isT "tuple" (.bool b) = false := by simp [isT]
theorem isT_tuple_int {b : Bool} {i : Int} {x : Str} {ds : List D} : isT "tuple" (.int i) = false := by simp [isT]
theorem isT_tuple_str {b : Bool} {i : Int} {x : Str} {ds : List D} : isT "tuple" (.str x) = false := by simp [isT]
theorem isT_tuple_list {b : Bool} {i : Int} {x : Str} {ds : List D} : isT "tuple" (.list ds) = false := by simp [isT]
theorem isT_tuple_tuple {b : Bool} {i : Int} {x : Str} {ds : List D} : isT "tuple" (.tuple ds) = true := by simp [isT]
theorem isT_int_none {b : Bool} {i : Int} {x : Str} {ds : List D} : isT "int" PyData.none = false := by simp [isT]
theorem isT_int_bool {b : Bool} {i : Int} {x : Str} {ds : List D} : isT "int" (.bool b) = true := by simp [isT]
theorem isT_int_int {b : Bool} {i : Int} {x : Str} {ds : List D} : isT "int" (.int i) = true := by simp [isT]
theorem isT_int_str {b : Bool} {i : Int} {x : Str} {ds : List D} : isT "int" (.str x) = false := by simp [isT]
theorem isT_int_list {b : Bool} {i : Int} {x : Str} {ds : List D} : isT "int" (.list ds) = false := by simp [isT]
theorem isT_int_tuple {b : Bool} {i : Int} {x : Str} {ds : List D} : isT "int" (.tuple ds) = false := by simp [isT]
theorem isT_bool_none {b : Bool} {i : Int} {x : Str} {ds : List D} : isT "bool" PyData.none = false := by simp [isT]
theorem isT_bool_bool {b : Bool} {i : Int} {x : Str} {ds : List D} : isT "bool" (.bool b) = true := by simp [isT]
theorem isT_bool_int {b : Bool} {i : Int} {x : Str} {ds : List D} : isT "bool" (.int i) = false := by simp [isT]
theorem isT_bool_str {b : Bool} {i : Int} {x : Str} {ds : List D} : isT "bool" (.str x) = false := by simp [isT]
theorem isT_bool_list {b : Bool} {i : Int} {x : Str} {ds : List D} : isT "bool" (.list ds) = false := by simp [isT]
theorem isT_bool_tuple {b : Bool} {i : Int} {x : Str} {ds : List D} : isT "bool" (.tuple ds) = false := by simp [isT]
theorem isT_str_none {b : Bool} {i : Int} {x : Str} {ds : List D} : isT "str" PyData.none = false := by simp [isT]
theorem isT_str_bool {b : Bool} {i : Int} {x : Str} {ds : List D} : isT "str" (.bool b) = false := by simp [isT]
theorem isT_str_int {b : Bool} {i : Int} {x : Str} {ds : List D} : isT "str" (.int i) = false := by simp [isT]
theorem isT_str_str {b : Bool} {i : Int} {x : Str} {ds : List D} : isT "str" (.str x) = true := by simp [isT]
theorem isT_str_list {b : Bool} {i : Int} {x : Str} {ds : List D} : isT "str" (.list ds) = false := by simp [isT]
theorem isT_str_tuple {b : Bool} {i : Int} {x : Str} {ds : List D} : isT "str" (.tuple ds) = false := by simp [isT]
theorem isT_list_none {b : Bool} {i : Int} {x : Str} {ds : List D} : isT "list" PyData.none = false := by simp [isT]
theorem isT_list_bool {b : Bool} {i : Int} {x : Str} {ds : List D} : isT "list" (.bool b) = false := by simp [isT]
theorem isT_list_int {b : Bool} {i : Int} {x : Str} {ds : List D} : isT "list" (.int i) = false := by simp [isT]
theorem isT_list_str {b : Bool} {i : Int} {x : Str} {ds : List D} : isT "list" (.str x) = false := by simp [isT]
theorem isT_list_list {b : Bool} {i : Int} {x : Str} {ds : List D} : isT "list" (.list ds) = true := by simp [isT]
theorem isT_list_tuple {b : Bool} {i : Int} {x : Str} {ds : List D} : isT "list" (.tuple ds) = false := by simp [isT]
theorem lcK_ds {T : List Nat} {wg : WG} {wt : WT} {we : WE} {ds ds' acc : List D} {ρ : Rho} {k : List D → Rho → Prop} (e : ds = ds') (h : lcK T wg wt we ds' acc ρ k) : lcK T wg wt we ds acc ρ k := by
  subst e
  exact h
theorem forK_ds {wg : WG} {wb : WS} {ds ds' : List D} {DD : EndsD} {ρ : Rho} (e : ds = ds') (h : forK wg wb ds' DD ρ) : forK wg wb ds DD ρ := by
  subst e
  exact h
end DL

set_option Elab.async false
set_option linter.all false
/-! the head: a law's promise over data -/
namespace DL
open PySem PySem.Spec PyProof.Rows L2
theorem mkG_start {K : PySem.W.Frag} {H : Hp} {x : V} {d : D} (h : Dp K H x d) : SR K (mkG H [x] [.v d] [] L0) [some x] [] H [.v d] [] := by
  have e : tot [some x] [] [C.v d] [] = [] := by
    show foot [] [] ++ (footC (some x) (.v d) ++ foot [] []) = []
    cases x <;> rfl
  refine ⟨fun a o q _ => q, fun a o q => ⟨o, q⟩, fun a z => (by cases z), fun a z => ?_, ?_, ?_, ?_, fun i z => ?_⟩
  · rw [e] at z; cases z
  · rw [e]; exact .nil
  · rw [e]
    refine ⟨⟨x, rfl, dp_mono (fun a o q => hide_some.mpr ⟨fun z => (by cases z), q⟩) _ _ h⟩, trivial⟩
  · trivial
  · rcases z with z | z <;> cases z
theorem sp_law {K : PySem.W.Frag} {S : SpD} {n : Nat} (hn : n ≤ sizeLine) (law_in : ∀ ns : List Int, ns.length ≤ n → S [.v (.list (ns.map PyData.int))] (fun c _ => c = .v (.bool true)) (fun _ _ => False))
    (H : Hp) (a : Addr) (ns : List Int) (hl : ns.length ≤ n) (hO : L2.Only H) (hS : SqL K H a (ns.map V.int)) : spOf K S [.ref a] H (fun v _ => v = .bl true) fun _ _ _ => False := by
  have hd : Dp K H (.ref a) (.list (ns.map PyData.int)) := by
    refine .lst hS ?_
    clear hS hl
    induction ns with
    | nil => exact .nil
    | cons i ns ih => exact .cons (.int i) ih
  refine ⟨[.v (.list (ns.map PyData.int))], [], _, _, mkG_start hd, law_in ns hl, fun c rs _ e v H' S1 => ?_, fun x rs z => z.elim⟩
  subst e
  obtain ⟨y, e1, e2⟩ := S1.tp.1
  cases e1
  cases e2
  rfl
theorem walk_dl {l : PySem.W.OpenLaw} {n k : Nat} {q : Program} {loose : List Str} {XP : (Str → Option Value) → Heap → Prop} {YP : World → Heap → Prop} {d : DefRec} {x : Str}
    (hn : l.most = some n) (hn2 : n ≤ sizeLine) (hdf : d.params.defaults = []) (hr : Room k callerA) {S : SpD}
    (F : ∀ (w : World) (mg : Str → Option Value) (fa : Addr) (h : Heap), YP w h → h.Ns mainGlobals mg → mg d.name = some (.ref fa) →
      ∃ (K : PySem.W.Frag) (fd : FuncData), K.In h ∧ (∀ (s : Shared) (u : Value), BindsTo s fd ⟨[u], []⟩ [(x, u)]) ∧
        ∀ base : Heap, K.In base → base.Ns mainGlobals mg → FnOk l.prog w K mg base (L2.CX l.prog w) k fa fd [x] (spOf K S))
    (law_in : ∀ ns : List Int, ns.length ≤ n → S [.v (.list (ns.map PyData.int))] (fun c _ => c = .v (.bool true)) (fun _ _ => False)) :
    PySem.W.WalkO q loose XP YP l.row.toRowW d [] (fun f vs => PySem.call f vs) := by
  refine Att.attach_call hn hdf fun w s₀ s₁ mg mb fa o pm cd doc a vs ns G Y ho hd hcd hmg hobj hints hlen hg => ?_
  obtain ⟨K, fd, KX, hb, hF⟩ := F w mg fa _ Y G.T.g hmg
  exact law_call KX G.T.g G.T.b G.T.builtins G.T.nolimit hg hobj hints (Nat.le_trans hlen hn2) hr hF hb (fun H hO hS => sp_law hn2 law_in H a ns hlen hO hS) fun H e s' h => by
    obtain ⟨_, _, _, _, _, _, _, _, _, _, _, _, z⟩ := h
    exact z.elim
end DL

set_option Elab.async false
set_option linter.all false
set_option maxRecDepth 100000
set_option maxHeartbeats 4000000
/-! DL, at the machine's level: set(list of ints), sorted(set) of any size, min with a default -/
namespace DLS
open PySem PySem.Spec PyProof.Rows L2
section
variable {P : Program} {w : World} {A : Around} {E : Value → Shared → Prop} {s : Shared}
abbrev set0 (w : World) : Obj := { cls := .type "set", dict := none, data := .set #[] 0 (.fresh 0 0 (!w.params.followText "set-order")) }
abbrev GoalS (P : Program) (w : World) (s : Shared) (ns : List Int) (s₂ : Shared) : Prop := ∃ h' tk c, s₂ = { s with heap := h', toks := tk } ∧ SetR w h' s.heap.objs.size (fun j => decide (j ∈ ns)) c ∧ c ≤ ns.length ∧ ∀ b o, s.heap.get? b = some o → h'.get? b = some o
/-- the filling of a new set from a list of whole numbers -/
theorem init_listI {l : Addr} {items : Array Value} {ns : List Int} (hh : A.handled = none) (hl : s.heap.IsList l items) (hit : IntsAre items.toList ns) (hb : ns.length + 1 < scanBound) :
    codeAny (model P w) A (.call (.builtin "set.__init__") ⟨[.ref s.heap.objs.size, .ref l], []⟩) (wants (fun r s₂ => r = .none ∧ GoalS P w s ns s₂) E) { s with heap := s.heap.push (set0 w) } := by
  have hisz : items.size = ns.length := (Array.length_toList (xs := items)).symm.trans (IntsAre.length hit)
  have hS : (s.heap.push (set0 w)).get? s.heap.objs.size = some (set0 w) := Heap.get?_push_size _ rfl
  refine codeAny_call_builtin F.called_set.init.plain F.entry_set_init (check_set_init_1 ⟨_, hS, rfl⟩ ?_)
  obtain ⟨ol, hol, hcl, nl, hdl⟩ := id hl
  obtain ⟨ocls, odict, odata, oslots⟩ := ol
  simp only at hcl hdl; subst hcl hdl
  have hl1 : (s.heap.push (set0 w)).IsList l items := hl.push _
  have hol' : (s.heap.push (set0 w)).get? l = some { cls := .type "list", dict := odict, data := .seq items nl, slots := oslots } := Heap.get?_push_of_some _ hol
  have k1 := F.sub_list_set; have k2 := F.sub_list_frozenset
  have k3 : (Value.type "list" == Value.type "dict") = false := by decide
  unfold Builtin.«set.__init__» noKeywords Builtin.Frozenset.updateFrom
  generalize hPI : pyIter = PI
  wp_walk
  subst hPI
  refine wpAny_pyIter_list hl1 (wpAny_bind (wpAny_runValue ?_))
  have lt : l < s.heap.objs.size := Heap.lt_size hol
  have z1 : (s.heap.push (set0 w)).objs.size = s.heap.objs.size + 1 := Heap.size_push ..
  have hh3 : A.in1.in1.handled = none := by simp [hh]
  have n1 : l ≠ (s.heap.push (set0 w)).objs.size := by rw [z1]; exact Nat.ne_of_lt (Nat.lt_succ_of_lt lt)
  have n2 : s.heap.objs.size ∉ [(s.heap.push (set0 w)).objs.size, l] := by
    rw [z1]; simp only [List.mem_cons, List.not_mem_nil, or_false]
    exact fun z => z.elim (fun z => absurd z (Nat.ne_of_lt (Nat.lt_succ_self _))) fun z => absurd z (Nat.ne_of_gt lt)
  have hv : ∀ (i : Nat) (v : Value), items[i]? = some v → ∃ k t, ns[i]? = some k ∧ v = .int k t := by
    intro i v e
    have hi : i < ns.length := by rw [← hisz]; exact (Array.getElem?_eq_some_iff.mp e).1
    obtain ⟨t, q⟩ := IntsAre.int_at hit i v (by rw [Array.getElem?_toList]; exact e)
    rw [List.getD_eq_getElem?_getD, List.getElem?_eq_getElem hi] at q
    exact ⟨ns[i], t, List.getElem?_eq_getElem hi, q⟩
  refine set_update_ints (Walks.list hh3 _ l n1 items).toS s.heap.objs.size n2 ns hisz hb hv (items.size - 0) 0 { s with heap := (s.heap.push (set0 w)).push { cls := .type "list_iterator", data := .fields #[.ref l, .int 0 0] } } (by omega) (Nat.zero_le _)
    ⟨⟨_, Heap.get?_push_size _ rfl, rfl, rfl⟩, hl1.push _⟩ ?_ fun s' c' hm hc' hS' => ?_
  · exact ⟨0, Nat.le_refl 0, setR_new_at (h := (s.heap.push (set0 w)).push { cls := .type "list_iterator", data := .fields #[.ref l, .int 0 0] }) (Heap.get?_push_of_some _ hS)⟩
  obtain ⟨h', g2, d', tk', os'⟩ := s'
  obtain rfl : g2 = s.gens := hm.gens
  obtain rfl : d' = s.drawn := hm.drawn
  obtain rfl : os' = s.os := hm.os
  rw [hisz] at hc'
  refine wpAny_pure ?_
  show wpAny _ _ (ret Value.none) _ _ _
  refine wpAny_pure ⟨rfl, h', tk', c', rfl, hS', hc', fun b o e => ?_⟩
  have b0 : b < s.heap.objs.size := Heap.lt_size e
  refine hm.heap b o ?_ (Heap.get?_push_of_some _ (Heap.get?_push_of_some _ e))
  rw [z1]; simp only [List.mem_cons, List.not_mem_nil, or_false]
  exact fun z => z.elim (fun z => absurd z (Nat.ne_of_lt b0)) fun z => absurd z (Nat.ne_of_lt (Nat.lt_succ_of_lt b0))
/-- set(l), l a list of whole numbers -/
theorem call_set_listI {l : Addr} {items : Array Value} {ns : List Int} {Q : Value → Shared → Prop} (hh : A.handled = none) (hl : s.heap.IsList l items) (hit : IntsAre items.toList ns) (hb : ns.length + 1 < scanBound)
    (h : ∀ s₂, GoalS P w s ns s₂ → Q (.ref s.heap.objs.size) s₂) : wpAny (model P w) A (call (.type "set") [.ref l]) Q E s := by
  obtain ⟨c, tl, hmro⟩ := F.called_set.mro
  have a1 := F.called_set.made; have a2 := F.called_set.sub; have a3 := F.called_set.notType
  have a4 := F.called_set.canCreate; have a5 := F.typeCall_set_1 (.ref l); have a6 := F.called_set.init.lookup
  refine wpAny_call (codeAny_of_tree ?_)
  show wpAny _ _ (callAny (.type "set") _) _ _ _
  refine wpAny_pure ⟨Code.quiet_builtin _ (by decide +kernel), codeAny_builtin F.entry_type_call ?_⟩
  rw [Around.under_plain (weight_type_call_type "set" [.ref l] []) rfl]
  repeat (any_goals (first | assumption | wp_step))
  refine codeAny_mono (code_set_led1 (.ref l) (E := E) (Q₁ := fun obj s₁ => obj = .ref s.heap.objs.size ∧ s₁ = { s with heap := s.heap.push (set0 w) }) ⟨rfl, rfl⟩) fun r s₁ hr => ?_
  match r, hr with
  | .error e, hr => exact hr
  | .ok (.ret obj), hr =>
    obtain ⟨rfl, rfl⟩ := hr
    have hT : Shared.TypeIs { s with heap := s.heap.push (set0 w) } (.ref s.heap.objs.size) "set" := ⟨_, Heap.get?_push_size _ rfl, rfl⟩
    have a7 := F.called_set.init.bind (.ref s.heap.objs.size)
    repeat (any_goals (first | assumption | wp_step))
    refine codeAny_mono (init_listI (E := E) hh hl hit hb) fun r₂ s₂ hr₂ => ?_
    match r₂, hr₂ with
    | .error e, hr₂ => exact hr₂
    | .ok (.ret r), hr₂ =>
      obtain ⟨rfl, hr₂⟩ := hr₂
      repeat (any_goals (first | assumption | wp_step))
      exact h _ hr₂
    | .ok .next, hr₂ => exact hr₂.elim
    | .ok .brk, hr₂ => exact hr₂.elim
    | .ok .cont, hr₂ => exact hr₂.elim
  | .ok .next, hr => exact hr.elim
  | .ok .brk, hr => exact hr.elim
  | .ok .cont, hr => exact hr.elim
/-- sorted(s), s a set of whole numbers of any size -/
theorem sorted_setI {a : Addr} {S : Int → Bool} {n : Nat} {Q : Value → Shared → Prop} (R : SetR w s.heap a S n) (hh : A.handled = none)
    (hQ : ∀ s' p (out : List Value) (c : Nat) (ms : List Int), (∀ b o, s.heap.get? b = some o → s'.heap.get? b = some o) → s'.gens = s.gens → s'.os = s.os → s.heap.objs.size ≤ p →
      s'.heap.get? p = some (seqObj "list" out.toArray c) → IntsAre out ms → ms.Pairwise (· < ·) → (∀ k, k ∈ ms ↔ S k = true) → ms.length = n → Q (.ref p) s') :
    wpAny (model P w) A (call (.builtin "sorted") [.ref a]) Q E s := by
  obtain ⟨o, es, ep, t, ho, hex, hd, g, nd, hm, hb, hf, hn, hr, hl⟩ := R
  refine Calls.call_function_entry kind_sorted plain_sorted entry_sorted (args_sorted1 _) ?_
  unfold Builtin.«sorted»
  refine wpAny_bind (m := checkCount "sorted" 1 1 _) (wpAny_pure ?_)
  refine wpAny_bind (collect_set (A := A.in1) hh ⟨o, ho, hex.1, hd⟩ hf hb hr hl fun s1 vs k1 hz g1 o1 pm => ?_)
  have e1 : vs.length = n := pm.length_eq.trans (by rw [List.length_map, Array.length_toList]; exact hn)
  have e2 : vs.length ≤ sizeLine := by rw [e1, ← hn, sizeLine_eq]; unfold scanBound at hb; omega
  have hI : IntsAre vs (vs.map SrtO.iv) := SrtO.ints_iv fun v hv => by
    obtain ⟨e, he, q⟩ := List.mem_map.mp (pm.mem_iff.mp hv)
    obtain ⟨k, tk, z, _⟩ := g e he
    exact ⟨k, tk, q.symm.trans z⟩
  have pk : (vs.map SrtO.iv).Perm (es.toList.map keyOf) := by
    have q := pm.map SrtO.iv
    rw [List.map_map] at q
    have e3 : es.toList.map (SrtO.iv ∘ fun x => x.2) = es.toList.map keyOf := List.map_congr_left fun e he => by
      obtain ⟨k, tk, z, _⟩ := g e he
      show SrtO.iv e.2 = keyOf e
      unfold keyOf
      rw [z]; rfl
    rw [e3] at q; exact q
  refine wpAny_bind (wpAny_newList ?_ e2)
  have hoL : (s1.heap.push (seqObj "list" vs.toArray 0)).get? s1.heap.objs.size = some (seqObj "list" vs.toArray 0) := Heap.get?_push_size _ rfl
  refine wpAny_bind (wpAny_holding (wpAny_call_entry slot_list_sort ⟨_, hoL, rfl⟩ entry_list_sort (SrtO.list_sort_ord (s := { s1 with heap := s1.heap.push (seqObj "list" vs.toArray 0) }) SrtO.swo_int hoL e2 (fun h2 => SrtO.ints_sortable hI h2) fun out h1 h2 => ⟨_, rfl, ?_⟩) (args_list_sort _)))
  obtain ⟨k2, k3, k4⟩ := SrtO.ints_out hI h1 h2
  obtain ⟨c, hc⟩ := sortedHeap_at (vs := vs) (out := out.toArray) hoL
  have pn := k3.trans pk
  refine wpAny_pure ⟨_, rfl, hQ _ s1.heap.objs.size out c (out.map SrtO.iv) (fun b u e => ?_) g1 o1 hz hc k2 (lt_of_le_nodup _ k4 (pn.nodup_iff.mpr nd)) (fun k => by rw [pn.mem_iff, ← hm k]) (pn.length_eq.trans (by rw [List.length_map, Array.length_toList]; exact hn))⟩
  have q := k1 b u e
  have lt := Heap.lt_size q
  exact (sortedHeap_old (Nat.ne_of_lt lt) (by rw [size_push']; exact Nat.lt_succ_of_lt lt)).trans (Heap.get?_push_of_some _ q)
/-! min(xs, default=d) -/
abbrev lstO (xs : Array Value) (c : Nat) : Obj := { cls := .type "list", dict := none, data := .seq xs c, slots := #[] }
theorem nm_min : (toString "min" ++ toString ".loop" : String) = "min.loop" := by decide
section
variable {R : Result → Shared → Prop} {I : Addr} {fp wr : List Addr} {n : Nat} {Pv : Nat → Value → Prop} {St : Nat → Heap → Prop} {d : Value}
/-- what is held of the best so far -/
def held (bt : Nat → Nat → Bool) (Pv : Nat → Value → Prop) : Nat → Array Value → Prop
  | 0, xs => xs = #[]
  | j + 1, xs => ∃ v, xs = #[v, v] ∧ Pv (argBest bt j) v
theorem min_turns (W : Walks P w A.in1 I fp wr n Pv St) (bt : Nat → Nat → Bool) (hcmp : CmpOf P w A.in1 .Lt Pv bt) (S : Addr) (hSf : S ∉ fp) :
    ∀ (k j : Nat) (s : Shared) (xs : Array Value) (c : Nat), n - j = k → j ≤ n → St j s.heap → held bt Pv j xs → s.heap.get? S = some (lstO xs c) →
    (∀ v h' tk, (n = 0 → v = d) → (0 < n → Pv (argBest bt (n - 1)) v) → (∀ b o, b ∉ wr → b ≠ S → s.heap.get? b = some o → h'.get? b = some o) → R (.ok (.ret v)) { s with heap := h', toks := tk }) →
    codeAny (model P w) A (.builtin "min.loop" ⟨[.ref I, .none, .ref S], [("default", d)]⟩) R s := by
  have hSw : S ∉ wr := fun h => hSf (W.sub _ h)
  intro k
  induction k with
  | zero =>
    intro j s xs c hk hj hst hx hS hR
    obtain rfl : j = n := by omega
    refine codeAny_builtin F.entry_min_loop ?_
    rw [Around.under_plainId F.plain_min_loop _]
    show wpAny _ A.in1 (seqItems? (.ref S) >>= _) _ _ s
    refine wpAny_bind (wpAny_seqItems hS rfl ?_)
    show wpAny _ A.in1 (tryCatch (pyNext (.ref I)) _ >>= _) _ _ s
    refine wpAny_bind (wpAny_tryCatch (W.done s _ _ hst fun h' tk hk' => ?_))
    have hS' := hk' S _ hSw hS
    cases j with
    | zero =>
      subst hx
      show wpAny _ A.in1 (rule "min.default" >>= fun _ => ret d) _ _ _
      exact wpAny_bind (wpAny_rule (wpAny_pure (hR d h' tk (fun _ => rfl) (fun z => absurd z (Nat.lt_irrefl 0)) fun b o hb _ e => hk' b o hb e)))
    | succ j =>
      obtain ⟨v, rfl, hp⟩ := hx
      show wpAny _ A.in1 (updateSeq S (fun _ => #[]) >>= _) _ _ _
      exact wpAny_bind (wpAny_updateSeq hS' rfl (wpAny_bind (wpAny_letGo (wpAny_pure (hR v _ tk (fun z => nomatch z) (fun _ => hp) fun b o hb hbS e => (Heap.get?_update_other _ _ (Ne.symm hbS)).trans (hk' b o hb e))))))
  | succ k ih =>
    intro j s xs c hk hj hst hx hS hR
    have lt : j < n := by omega
    refine codeAny_builtin F.entry_min_loop ?_
    rw [Around.under_plainId F.plain_min_loop _]
    show wpAny _ A.in1 (seqItems? (.ref S) >>= _) _ _ s
    refine wpAny_bind (wpAny_seqItems hS rfl ?_)
    show wpAny _ A.in1 (tryCatch (pyNext (.ref I)) _ >>= _) _ _ s
    refine wpAny_bind (wpAny_tryCatch (W.item j s _ _ lt hst fun v h' tk hP hst' hk' => ?_))
    have hS' := hk' S _ hSw hS
    have go : ∀ (xs' : Array Value), held bt Pv (j + 1) xs' → ∀ (h2 : Heap), (∀ b o, b ≠ S → h'.get? b = some o → h2.get? b = some o) → (∃ c', h2.get? S = some (lstO xs' c')) → wpAny (model P w) A.in1 (again (.builtin (toString "min" ++ toString ".loop") ⟨[.ref I, .none, .ref S], [("default", d)]⟩)) (fun fin s' => match fin with
        | .done f => R (.ok f) s'
        | .again c' => c'.quiet = true ∧ codeAny (model P w) A c' R s') (fun e s' => R (.error e) s') { s with heap := h2, toks := tk } := fun xs' hx' h2 hk2 ⟨c', hS2⟩ => by
      rw [nm_min]
      exact wpAny_pure ⟨plainId_quiet F.plain_min_loop _, ih (j + 1) _ xs' c' (by omega) lt (W.frame _ _ _ hst' fun b hb o e => hk2 b o (fun z => hSf (z ▸ hb)) e) hx' hS2 fun v' h3 tk3 q1 q2 hk3 => hR v' h3 tk3 q1 q2 fun b o hb hbS e => hk3 b o hb hbS (hk2 b o hbS (hk' b o hb e))⟩
    have oth : ∀ (f : Array Value → Array Value) b o, b ≠ S → h'.get? b = some o → (h'.update S (Obj.mapSeq f)).get? b = some o := fun f b o hb e => (Heap.get?_update_other _ _ (Ne.symm hb)).trans e
    cases j with
    | zero =>
      subst hx
      show wpAny _ A.in1 (updateSeq S (fun _ => #[v, v]) >>= _) _ _ _
      exact wpAny_bind (wpAny_updateSeq hS' rfl (go #[v, v] ⟨v, rfl, hP⟩ _ (oth _) ⟨_, Heap.get?_update_self _ hS' rfl⟩))
    | succ j =>
      obtain ⟨vb, rfl, hp⟩ := hx
      show wpAny _ A.in1 (tryCatch (holding [v, v] (richCompare .Lt v vb >>= _)) _ >>= _) _ _ _
      refine wpAny_bind (wpAny_tryCatch (wpAny_holding (wpAny_bind (hcmp (j + 1) (argBest bt j) v vb _ _ _ hP hp (wpAny_bind (wpAny_holding (wpAny_truthy_bool (wpAny_bind (wpAny_letGo (wpAny_pure ?_))))))))))
      cases hb : bt (j + 1) (argBest bt j) with
      | true =>
        simp only [if_true]
        exact wpAny_bind (wpAny_updateSeq hS' rfl (wpAny_bind (wpAny_letGo (go #[v, v] ⟨v, rfl, by simp only [argBest, hb, if_true]; exact hP⟩ _ (oth _) ⟨_, Heap.get?_update_self _ hS' rfl⟩))))
      | false =>
        simp only [Bool.false_eq_true, if_false]
        exact wpAny_bind (wpAny_letGo (go #[vb, vb] ⟨vb, rfl, by simp only [argBest, hb, Bool.false_eq_true, if_false]; exact hp⟩ h' (fun _ _ _ e => e) ⟨_, hS'⟩))
end
end
end DLS

set_option Elab.async false
set_option linter.all false
set_option maxRecDepth 100000
set_option maxHeartbeats 4000000
/-! DL: sorted(set(xs)), min(xs, default=d), comparisons of four, a raise that is never reached -/
namespace DLS
open PySem PySem.Spec PyProof.Rows L2
theorem args_mind (a d : Value) : argsOk "min" ⟨[a], [("default", d)]⟩ := by unfold argsOk; kernel_rfl
section
variable {P : Program} {w : World} {A : Around} {E : Value → Shared → Prop} {s : Shared}
theorem call_mind {l : Addr} {xs : Array (Int × Tok)} {d : Value} {Q : Value → Shared → Prop} (hh : A.handled = none) (hl : s.heap.IsList l (intItems xs))
    (h : ∀ v h' tk, (xs.size = 0 → v = d) → (0 < xs.size → (intItems xs)[argBest (fun i j => decide (numAt xs i < numAt xs j)) (xs.size - 1)]? = some v) → (∀ b o, s.heap.get? b = some o → h'.get? b = some o) → Q v { s with heap := h', toks := tk }) :
    wpAny (model P w) A (call (.builtin "min") [.ref l] [("default", d)]) Q E s := by
  have zz : (intItems xs).size = xs.size := by simp [intItems]
  refine wpAny_call (codeAny_call_builtin F.plain_min F.entry_min ?_)
  simp only [checkBuiltinCall, F.kind_min]
  have body : wpAny (model P w) A.in1 (Builtin.«min» ⟨[.ref l], [("default", d)]⟩) (fun fin s' => match fin with
      | .done f => (match (Except.ok f : Result) with | .ok (.ret v) => Q v s' | .ok _ => False | .error e => E e s')
      | .again c' => c'.quiet = true ∧ codeAny (model P w) A c' (fun r s' => match r with | .ok (.ret v) => Q v s' | .ok _ => False | .error e => E e s') s') E s := by
    show wpAny _ A.in1 (Builtin.Builtins.bindParams "min" ["key", "default"] 0 ⟨[], [("default", d)]⟩ >>= _) _ _ s
    refine wpAny_bind (wpAny_of_eq (show Builtin.Builtins.bindParams "min" ["key", "default"] 0 ⟨[], [("default", d)]⟩ = pure [none, some d] by first | rfl | kernel_rfl) ?_)
    refine wpAny_bind (wpAny_pure ?_)
    refine wpAny_bind (iter_intList hl fun s₂ e st hfp hlI => ?_)
    subst e
    refine wpAny_bind (wpAny_newObj_type ?_)
    rw [nm_min]
    have W := Walks.list (prog := P) (w := w) (A := A.in1) (by simp [hh]) _ l hlI (intItems xs)
    refine wpAny_pure ⟨plainId_quiet F.plain_min_loop _, min_turns W _ (CmpOf.ints_lt (numAt xs) (fun _ _ => intItems_at)) (s.heap.push { cls := .type "list_iterator", data := .fields #[.ref l, .int 0 0] }).objs.size (fun hm => Nat.lt_irrefl _ (hfp _ hm)) _ 0 _ #[] 0 rfl (Nat.zero_le _) (W.frame _ _ _ st fun b _ o e => Heap.get?_push_of_some _ e) rfl (Heap.get?_push_size _ rfl) fun v h' tk q1 q2 hk => ?_⟩
    refine h v h' tk (fun z => q1 (zz.trans z)) (fun z => ?_) (old_kept (l := l) fun b o hb e => ?_)
    · have := q2 (by rw [zz]; exact z)
      rwa [zz] at this
    · exact hk b o hb (Nat.ne_of_lt (Heap.lt_size e)) (Heap.get?_push_of_some _ e)
  cases hsig : Manifest.signature? "min" with
  | none => exact wpAny_pure body
  | some sig =>
    have ha' : Bind.checkArgs "min" sig ⟨[.ref l], [("default", d)]⟩ = pure () := by simpa only [argsOk, hsig] using args_mind (.ref l) d
    show wpAny _ A.in1 (Bind.checkArgs "min" sig ⟨[.ref l], [("default", d)]⟩) _ _ s
    rw [ha']
    exact wpAny_pure body
theorem call_mindI {l : Addr} {its : List Value} {ns : List Int} {d : Value} {Q : Value → Shared → Prop} (hh : A.handled = none) (hl : s.heap.IsList l its.toArray) (hi : IntsAre its ns)
    (h : ∀ v h' tk, (ns = [] → v = d) → (∀ z : 0 < ns.length, ∃ m t, v = .int m t ∧ m ∈ ns ∧ ∀ y ∈ ns, m ≤ y) → (∀ b o, s.heap.get? b = some o → h'.get? b = some o) → Q v { s with heap := h', toks := tk }) :
    wpAny (model P w) A (call (.builtin "min") [.ref l] [("default", d)]) Q E s := by
  obtain ⟨xs, e⟩ := hi.allInts.items
  have hn : numsOf (intItems xs).toList = ns := by rw [← e]; exact hi.numsOf
  rw [nums_intItems] at hn
  subst hn
  rw [e] at hl
  refine call_mind hh hl fun v h' tk q1 q2 hk => h v h' tk (fun z => q1 ?_) (fun z => ?_) hk
  · have := congrArg List.length z
    simpa using this
  · have z' : 0 < xs.size := by simpa using z
    obtain ⟨t, rfl⟩ := intItems_at (q2 z')
    obtain ⟨h1, h2⟩ := argBest_lt (numAt xs) (xs.size - 1)
    refine ⟨_, t, rfl, ?_, fun a ha => ?_⟩
    · rw [numAt_eq]; exact PySem.getD_mem (by rw [List.length_map, Array.length_toList]; omega)
    · obtain ⟨j, hj, rfl⟩ := mem_getD ha
      rw [List.length_map, Array.length_toList] at hj
      rw [← numAt_eq]; exact h2 j (by omega)
end
end DLS
namespace DL
open PySem PySem.Spec PyProof.Rows L2
/-! ### min(xs, default=d) -/
def rMinD (K : PySem.W.Frag) : R2 := fun x y H Q => ∃ (a : Addr) (ns : List Int), x = V.ref a ∧ SqL K H a (ns.map V.int) ∧ (ns = [] → Q y H) ∧ ∀ m, m ∈ ns → (∀ y, y ∈ ns → m ≤ y) → Q (.int m) H
def rMinK (K : PySem.W.Frag) : List V → List V → Hp → VK → Prop := fun vs zs H Q => match vs, zs with
  | [x], [y] => rMinD K x y H Q
  | _, _ => False
section
variable {X : Cx}
theorem cr_mind (hc : X.calm = true) : CallRK X (.builtin "min") ["default"] (rMinK X.K) := by
  intro pins s σ H vs zs us ws Q I r rz h
  unfold rMinK at h
  split at h
  rotate_left
  · exact h.elim
  rename_i x y
  obtain ⟨a, ns, rfl, hs, q1, q2⟩ := h
  obtain ⟨its, rv, hl, _⟩ := I.list hs
  obtain ⟨w1, rfl, e1⟩ := vals1 rz
  rw [Vals.ref1 r]
  refine DLS.call_mindI (I.ok.hd hc) hl.isList rv.ints fun v h' tk z1 z2 hk => ?_
  by_cases z : ns = []
  · rw [z1 z]
    exact ⟨y, H, I.kept hk, e1, q1 z⟩
  · obtain ⟨m, t, rfl, z3, z4⟩ := z2 (List.length_pos_iff.mpr z)
    exact ⟨.int m, H, I.kept hk, ⟨_, rfl⟩, q2 m z3 z4⟩
end
@[reducible] def oMinD : O2 := fun d1 d2 k => match d1 with
  | .list es => optK (intsOf es) fun ns => (ns = [] → k (.v d2)) ∧ ∀ m : Int, m ∈ ns → (∀ y ∈ ns, m ≤ y) → k (.v (.int m))
  | _ => False
theorem lift_mind {K : PySem.W.Frag} : Lift2 K (rMinD K) oMinD := by
  intro O H x y dx dy QD Q _ hx hy q fin
  cases hx with
  | lst a1 a2 =>
    rename_i a xs es
    have q : optK (intsOf es) _ := q
    cases e : intsOf es with
    | none => rw [e] at q; exact q.elim
    | some ns =>
      rw [e] at q
      have e2 := intsOf_dp a2 e
      subst e2
      exact ⟨_, ns, rfl, Same.seq same_hide a1, fun z => fin _ H (.v _) (Same.refl H) hy (q.1 z), fun m hm hy => fin _ H (.v _) (Same.refl H) (.int _) (q.2 m hm hy)⟩
  | _ => exact q.elim
section
variable {X : Cx} {g : G} {W : WX} {e d : Expr} {we wd : WE} {p kp pos : Pos}
theorem ee_minD (hc : X.calm = true) (hg : Gl X "min") (hm : X.mg "min" = none) (he : EE X g W e we) (hd : EE X g W d wd)
    (h0 : starEach [e] X.env = (false, eval e X.env) :: starEach [] X.env := by rfl) (h2 : (backTo pos (starEach [e] X.env)).any (·.1) = false := by rfl)
    (h3 : (backToKw pos (keywordEach [⟨some "default", d, kp⟩] X.env)).all (·.1.isSome) = true := by rfl) (h4 : (backToKw pos (keywordEach [⟨some "default", d, kp⟩] X.env)).any (·.1.isNone) = false := by rfl) (h5 : (backToKw pos (keywordEach [⟨some "default", d, kp⟩] X.env)).filterMap (·.1) = (["default"] : List Str) := by rfl) :
    EE X g W (.Call (.Name "min" p) [e] [⟨some "default", d, kp⟩] pos) (wB oMinD we wd) := by
  obtain ⟨te, p1, s1⟩ := he.ex
  obtain ⟨td, p2, s2⟩ := hd.ex
  refine ⟨tOp (rMinD X.K) te td, ⟨fun pins s σ H Q I h => ?_⟩, sem_op lift_mind s1 s2⟩
  refine (pe_callBK (cr_mind hc) hg hm (by rfl) (pa_cons p1 pa_nil h0) (pk_cons p2 pk_nil) (by decide) (by decide) (by rw [h0]; rfl) h2 h3 h4 h5).run pins s σ H Q I h
end
/-! ### sorted(set(xs)) -/
def rSortSet (K : PySem.W.Frag) : V → Hp → VK → Prop := fun x H Q => ∃ (l : Addr) (ns : List Int), x = V.ref l ∧ SqL K H l (ns.map V.int) ∧ ns.length ≤ 4000 ∧
  ∀ (ms : List Int) (p : Addr), ms.Pairwise (· < ·) → (∀ k, k ∈ ms ↔ k ∈ ns) → ms.length ≤ ns.length → H p = none → Q (.ref p) (upd H p (.lst (ms.map V.int)))
theorem nodup_len : ∀ {ms ns : List Int}, ms.Pairwise (· < ·) → (∀ k, k ∈ ms → k ∈ ns) → ms.length ≤ ns.length
  | [], _, _, _ => Nat.zero_le _
  | m :: ms, ns, h, h' => by
    obtain ⟨h1, h2⟩ := List.pairwise_cons.mp h
    have hm := h' m (.head _)
    have := nodup_len (ns := ns.erase m) h2 fun k hk => (List.mem_erase_of_ne (fun z => by have := h1 k hk; omega)).mpr (h' k (.tail _ hk))
    have l := List.length_erase_of_mem hm
    have := List.length_pos_of_mem hm
    rw [List.length_cons]
    omega
section
variable {X : Cx} {g : G} {W : WX} {e : Expr} {te : TE} {we : WE} {p p2 q pos : Pos}
theorem pe_sortSet (hc : X.calm = true) (hg : Gl X "sorted") (hm : X.mg "sorted" = none) (hg2 : Gl X "set") (hm2 : X.mg "set" = none) (ha : PE X e te) (na : starEach [e] X.env = (false, eval e X.env) :: starEach [] X.env := by rfl) :
    PE X (.Call (.Name "sorted" p) [.Call (.Name "set" p2) [e] [] q] [] pos) (tUn (rSortSet X.K) te) := by
  refine ⟨fun pins s σ H Q I h => ?_⟩
  refine Call_ (ld_blt I hg hm boot_sorted ?_)
  refine PyProof.Rows.callWith_builtin1 (PyProof.Rows.args_cons ?_ rfl) rfl rfl
  refine Call_ (ld_blt I hg2 hm2 boot_set ?_)
  refine PyProof.Rows.callWith_type1 (PyProof.Rows.args_cons (thn (ha.run pins s σ H _ I h) fun v s1 ⟨x, H1, I1, r1, q1⟩ => PyProof.Rows.args_nil ?_) na) na rfl
  obtain ⟨l, ns, rfl, hq, hl, q1⟩ := q1
  cases r1
  obtain ⟨its, rv, pl, hz⟩ := I1.list hq
  refine DLS.call_set_listI (ns := ns) (I1.ok.hd hc) pl.isList (by simpa using rv.ints) (by unfold scanBound; omega) fun s2 ⟨h', tk, c, e2, R, hcn, hk⟩ => ?_
  subst e2
  refine PyProof.Rows.args_nil ?_
  have I2 : Inv X pins σ H1 { s1 with heap := h', toks := tk } := I1.kept hk
  refine DLS.sorted_setI (s := { s1 with heap := h', toks := tk }) R (I2.ok.hd hc) fun s' pp out c2 ms k g o hp hgt hi hs hmem hlen => ?_
  have hle : ms.length ≤ ns.length := by omega
  have hlen : (ms.map V.int).length ≤ sizeLine := by rw [List.length_map, sizeLine_eq]; omega
  have hn : H1 pp = none := I2.hok.fresh hp
  have J : Inv X pins σ (upd H1 pp (.lst (ms.map V.int))) { { s1 with heap := h', toks := tk } with heap := s'.heap, gens := s'.gens, drawn := s'.drawn, toks := s'.toks } :=
    I2.call (ch := []) (Un.laid k hp hn) (I2.hok.laid k hp ⟨hlen, out, c2, vals_of_ints hi, hgt⟩) (by rw [g]; exact I2.bare) (fun _ z => nomatch z)
  have e : s' = { { s1 with heap := h', toks := tk } with heap := s'.heap, gens := s'.gens, drawn := s'.drawn, toks := s'.toks } := by
    cases s'
    cases o
    rfl
  rw [e]
  exact ⟨.ref pp, _, J, rfl, q1 ms pp hs (fun k => by rw [hmem k, decide_eq_true_eq]) hle hn⟩
@[reducible] def oSortSet : O1 := fun d k => match d with
  | .list es => optK (intsOf es) fun ns => ns.length ≤ 4000 ∧ ∀ ms : List Int, ms.Pairwise (· < ·) → (∀ k, k ∈ ms ↔ k ∈ ns) → ms.length ≤ ns.length → k (.own 0 (.lst (ms.map PyData.int)))
  | _ => False
theorem lift_sortSet {K : PySem.W.Frag} : Lift1 K (rSortSet K) oSortSet := by
  intro O H x dx QD Q _ hx q fin
  cases hx with
  | lst a1 a2 =>
    rename_i a xs es
    have q : optK (intsOf es) _ := q
    cases e : intsOf es with
    | none => rw [e] at q; exact q.elim
    | some ns =>
      rw [e] at q
      have e2 := intsOf_dp a2 e
      subst e2
      exact ⟨_, ns, rfl, Same.seq same_hide a1, q.1, fun ms p h1 h2 h3 n => fin _ _ (.own 0 (.lst _)) (same_new n) (new_lst n (DL.DpAll.ints ms)) (q.2 ms h1 h2 h3)⟩
  | _ => exact q.elim
theorem ee_sortSet (hc : X.calm = true) (hg : Gl X "sorted") (hm : X.mg "sorted" = none) (hg2 : Gl X "set") (hm2 : X.mg "set" = none) (ha : EE X g W e we) (na : starEach [e] X.env = (false, eval e X.env) :: starEach [] X.env := by rfl) :
    EE X g W (.Call (.Name "sorted" p) [.Call (.Name "set" p2) [e] [] q] [] pos) (wU oSortSet we) := by
  obtain ⟨te, p1, s1⟩ := ha.ex
  exact ⟨_, pe_sortSet hc hg hm hg2 hm2 p1 na, sem_un lift_sortSet s1⟩
end
/-! ### a op b op' c op'' d, whole numbers -/
def tChain3 (r r' r'' : R2) (ta tb tc td : TE) : TE := fun σ H Q => ta σ H fun x H1 => tb σ H1 fun y H2 => r x y H2 fun z H3 => ∃ k, z = .bl k ∧ if k = true then tc σ H3 fun u H4 => r' y u H4 fun z' H5 => ∃ k', z' = .bl k' ∧ (if k' = true then td σ H5 fun v H6 => r'' u v H6 Q else Q (.bl false) H5) else Q (.bl false) H3
section
variable {X : Cx} {a b c d : Expr} {ta tb tc td : TE} {pos : Pos}
theorem pe_chain3 {op op' op'' : CmpOp} {r r' r'' : R2} (ho : OpR X (compareOp op) r) (ho' : OpR X (compareOp op') r') (ho'' : OpR X (compareOp op'') r'') (ha : PE X a ta) (hb : PE X b tb) (hc : PE X c tc) (hd : PE X d td)
    (hm : lastMarks [op, op', op''] [b, c, d] = false := by with_unfolding_all rfl) : PE X (.Compare a [op, op', op''] [b, c, d] pos) (tChain3 r r' r'' ta tb tc td) := by
  refine ⟨fun pins s σ H Q I h => Compare_chain (thn (ha.run pins s σ H _ I h) fun v s1 ⟨x, H1, I1, r1, q1⟩ => chain_link (thn (hb.run pins s1 σ H1 _ I1 q1) fun u s2 ⟨y, H2, I2, r2, q2⟩ => thn (ho pins s2 σ H2 x y v u _ I2 r1 r2 q2) fun d s3 ⟨z, H3, I3, r3, k, e, q3⟩ => ?_)) hm⟩
  subst e
  cases r3
  refine wpAny_truthy_bool ?_
  cases k with
  | false => exact ite_ff ⟨.bl false, H3, I3, rfl, q3⟩
  | true =>
    refine ite_tt (chain_link (thn (hc.run pins s3 σ H3 _ I3 q3) fun u2 s4 ⟨y2, H4, I4, r4, q4⟩ => thn (ho' pins s4 σ H4 y y2 u u2 _ I4 r2 r4 q4) fun d2 s5 ⟨z2, H5, I5, r5, k2, e2, q5⟩ => ?_))
    subst e2
    cases r5
    refine wpAny_truthy_bool ?_
    cases k2 with
    | false => exact ite_ff ⟨.bl false, H5, I5, rfl, q5⟩
    | true => exact ite_tt (chain_last (thn (hd.run pins s5 σ H5 _ I5 q5) fun w' s6 ⟨z', H6, I6, r6, q6⟩ => ho'' pins s6 σ H6 y2 z' u2 w' Q I6 r4 r6 q6))
end
/-- a whole number's reading -/
@[reducible] def wInt (we : WE) (ρ : Rho) (k : Int → Rho → Prop) (E : KX) : Prop := we ρ (fun c ρ1 => match c with
  | .v (.int i) => k i ρ1
  | _ => False) E
@[reducible] def wCh3 (f f' f'' : Int → Int → Bool) (wa wb wc wd : WE) : WE := fun ρ Q E => wInt wa ρ (fun i ρ1 => wInt wb ρ1 (fun j ρ2 => if f i j = true then wInt wc ρ2 (fun k ρ3 => if f' j k = true then wInt wd ρ3 (fun l ρ4 => Q (.v (.bool (f'' k l))) ρ4) E else Q (.v (.bool false)) ρ3) E else Q (.v (.bool false)) ρ2) E) E
section
variable {K : PySem.W.Frag} {g : G} {W : WX} {t ta tb tc td : TE} {w wa wb wc wd : WE}
theorem sem_int (h : Sem K g W t w) {σ : L2.St} {vs : List V} {H : Hp} {ρ : Rho} {cs : List C} {k : Int → Rho → Prop} {ED : KX} {Q : VK} (hS : SR K g σ vs H ρ cs) (hw : wInt w ρ k ED) (hX : XEnds K g W σ ED)
    (hQ : ∀ i H' ρ', SR K g σ vs H' ρ' cs → k i ρ' → Q (.int i) H') : t σ H Q := by
  refine h σ vs H ρ cs _ ED _ hS hw hX fun x H1 c1 ρ1 S1 q1 => ?_
  split at q1
  · have := S1.top
    cases this
    exact hQ _ H1 ρ1 S1.pop q1
  · exact q1.elim
theorem sem_chain3 {f f' f'' : Int → Int → Bool} (ha : Sem K g W ta wa) (hb : Sem K g W tb wb) (hc : Sem K g W tc wc) (hd : Sem K g W td wd) :
    Sem K g W (tChain3 (rI0 fun i j => .bl (f i j)) (rI0 fun i j => .bl (f' i j)) (rI0 fun i j => .bl (f'' i j)) ta tb tc td) (wCh3 f f' f'' wa wb wc wd) := by
  intro σ vs H ρ cs QD ED Q hS hw hX hQ
  refine sem_int ha hS hw hX fun i H1 ρ1 S1 q1 => sem_int hb S1 q1 hX fun j H2 ρ2 S2 q2 => ⟨i, j, rfl, rfl, _, rfl, ?_⟩
  by_cases z : f i j = true
  · rw [if_pos z] at q2 ⊢
    refine sem_int hc S2 q2 hX fun k H3 ρ3 S3 q3 => ⟨j, k, rfl, rfl, _, rfl, ?_⟩
    by_cases z2 : f' j k = true
    · rw [if_pos z2] at q3 ⊢
      exact sem_int hd S3 q3 hX fun l H4 ρ4 S4 q4 => ⟨k, l, rfl, rfl, hQ _ H4 _ ρ4 (SR.resV S4 (Same.refl H4) (.bl _)) q4⟩
    · rw [if_neg z2] at q3 ⊢
      exact hQ _ H3 _ ρ3 (SR.resV S3 (Same.refl H3) (.bl _)) q3
  · rw [if_neg z] at q2 ⊢
    exact hQ _ H2 _ ρ2 (SR.resV S2 (Same.refl H2) (.bl _)) q2
end
section
variable {X : Cx} {g : G} {W : WX} {a b c d : Expr} {wa wb wc wd : WE} {pos : Pos}
theorem ee_chain3 {op op' op'' : CmpOp} {f f' f'' : Int → Int → Bool} (ho : OpR X (compareOp op) (rI0 fun i j => .bl (f i j))) (ho' : OpR X (compareOp op') (rI0 fun i j => .bl (f' i j))) (ho'' : OpR X (compareOp op'') (rI0 fun i j => .bl (f'' i j))) (ha : EE X g W a wa) (hb : EE X g W b wb) (hc : EE X g W c wc) (hd : EE X g W d wd)
    (hm : lastMarks [op, op', op''] [b, c, d] = false := by with_unfolding_all rfl) : EE X g W (.Compare a [op, op', op''] [b, c, d] pos) (wCh3 f f' f'' wa wb wc wd) := by
  obtain ⟨ta, p1, s1⟩ := ha.ex
  obtain ⟨tb, p2, s2⟩ := hb.ex
  obtain ⟨tc, p3, s3⟩ := hc.ex
  obtain ⟨td, p4, s4⟩ := hd.ex
  exact ⟨_, pe_chain3 ho ho' ho'' p1 p2 p3 p4 hm, sem_chain3 s1 s2 s3 s4⟩
/-- a statement that is never reached -/
@[reducible] def wNever : WS := fun _ _ => False
theorem es_never {st : Stmt} : ES X g W st wNever := ⟨fun _ _ _ => False, ⟨fun _ _ _ _ _ _ h => h.elim⟩, fun _ _ _ _ _ _ _ _ _ hw _ => hw⟩
end
end DL

set_option Elab.async false
set_option linter.all false
set_option maxRecDepth 100000
set_option maxHeartbeats 4000000
/-! DL: texts: s * k -/
namespace DL
open PySem PySem.Spec PyProof.Rows L2
def repS (x : Str) (k : Nat) : Str := ⟨(List.replicate k x.cps.toList).flatten.toArray⟩
theorem foldl_app : ∀ (l : List (Array Nat)) (a : Array Nat), (l.foldl (· ++ ·) a).toList = a.toList ++ (l.map Array.toList).flatten
  | [], a => by simp
  | b :: l, a => by
    rw [List.foldl_cons, foldl_app l]
    simp
theorem repS_fold (x : Str) (k : Nat) : (⟨(List.replicate k x.cps).foldl (· ++ ·) #[]⟩ : Str) = repS x k := by
  unfold repS
  congr 1
  apply Array.ext'
  rw [foldl_app]
  simp
def rMulS : R2 := fun x y H Q => ∃ (a : Str) (k : Int), x = .str a ∧ y = .int k ∧ a.length ≤ 1000 ∧ -1000 ≤ k ∧ k ≤ 1000 ∧ Q (.str (repS a k.toNat)) H
theorem toolong_no {n : Nat} (h : n ≤ 1000000) : Builtin.Str.tooLong n = false := by
  unfold Builtin.Str.tooLong
  have : n ≤ sizeLine := by rw [sizeLine_eq]; omega
  first | exact decide_eq_false (by omega) | (simp; omega)
section
variable {X : Cx}
theorem op_mulS : OpR X (binaryOp .Mult) rMulS := by
  intro pins s σ H x y v u Q I rx ry h
  obtain ⟨a, k, rfl, rfl, hl, k0, k1, q⟩ := h
  obtain ⟨t, rfl⟩ := rx
  obtain ⟨t', rfl⟩ := ry
  have hle : a.length * k.toNat ≤ 1000000 := Nat.le_trans (Nat.mul_le_mul hl (show k.toNat ≤ 1000 by omega)) (by decide)
  refine P.mul_str ?_ (fun h1 _ h2 => ?_) (fun _ _ => toolong_no hle) ?_
  · rw [decide_eq_false (by omega), decide_eq_false (by omega)]; rfl
  · have h3 : ((2 : Int) ^ 63 - 1) / k ≥ 1000 := (Int.le_ediv_iff_mul_le (by omega)).mpr (by omega)
    omega
  · by_cases c1 : k < 1
    · rw [if_pos c1]
      have e : repS a k.toNat = Str.empty := by
        have : k.toNat = 0 := by omega
        rw [this]
        first | rfl | decide
      rw [e] at q
      exact ⟨by decide, .str Str.empty, H, I.tok _, ⟨_, rfl⟩, q⟩
    · rw [if_neg c1]
      by_cases c2 : (k == 1 || a.length == 0) = true
      · rw [if_pos c2]
        have e : repS a k.toNat = a := by
          unfold repS
          rcases Bool.or_eq_true_iff.mp c2 with z | z
          · have : k = 1 := by simpa using z
            subst this
            simp
          · have z2 : a.cps.toList = [] := by
              have : a.cps.size = 0 := by simpa [Str.length] using z
              simpa using this
            obtain ⟨c⟩ := a
            have : c = #[] := by simpa using z2
            subst this
            simp
        rw [e] at q
        exact ⟨.str a, H, I, ⟨_, rfl⟩, q⟩
      · rw [if_neg c2, repS_fold]
        refine ⟨?_, .str _, H, I.tok _, ⟨_, rfl⟩, q⟩
        have e : (repS a k.toNat).length = a.length * k.toNat := by
          unfold repS Str.length
          simp [Nat.mul_comm]
        first
          | (rw [e]; exact Nat.le_trans hle (by rw [sizeLine_eq]; decide))
          | (show Builtin.Str.tooLong _ = false; rw [e]; exact toolong_no hle)
end
@[reducible] def oMulS : O2 := fun d1 d2 k => match d1, d2 with
  | .str a, .int i => a.length ≤ 1000 ∧ (-1000 ≤ i ∧ i ≤ 1000) ∧ k (.v (.str (repS a i.toNat)))
  | _, _ => False
theorem lift_mulS {K : PySem.W.Frag} : Lift2 K rMulS oMulS := by
  intro O H x y dx dy QD Q hO hx hy q fin
  cases hx <;> try exact q.elim
  cases hy <;> try exact q.elim
  exact ⟨_, _, rfl, rfl, q.1, q.2.1.1, q.2.1.2, fin _ H (.v _) (Same.refl H) (.str _) q.2.2⟩
theorem ee_mulS {X : Cx} {g : G} {W : WX} {a b : Expr} {wa wb : WE} {pos : Pos} (ha : EE X g W a wa) (hb : EE X g W b wb) : EE X g W (.BinOp a .Mult b pos) (wB oMulS wa wb) := by
  obtain ⟨ta, p1, s1⟩ := ha.ex
  obtain ⟨tb, p2, s2⟩ := hb.ex
  exact ⟨_, pe_op op_mulS p1 p2, sem_op lift_mulS s1 s2⟩
/-! texts as lists of signs -/
@[reducible] def T (l : List Nat) : Str := ⟨l.toArray⟩
theorem T_list {l : List Nat} : (T l).cps.toList = l := by simp [T]
theorem T_of (x : Str) : x = T x.cps.toList := by obtain ⟨c⟩ := x; simp [T]
theorem T_len {l : List Nat} : (T l).length = l.length := by simp [T, Str.length]
theorem T_app {a b : List Nat} : T a ++ T b = T (a ++ b) := by
  show Str.append _ _ = _
  simp [Str.append, T]
theorem T_inj {a b : List Nat} (h : T a = T b) : a = b := by
  have := congrArg (fun z => z.cps.toList) h
  simpa [T] using this
theorem T_rep {l : List Nat} {n : Nat} : repS (T l) n = T (List.replicate n l).flatten := by
  unfold repS
  rw [T_list]
theorem flat_rep {c n : Nat} : (List.replicate n [c]).flatten = List.replicate n c := by
  induction n with
  | zero => rfl
  | succ n ih => rw [List.replicate_succ, List.flatten_cons, ih]; rfl
theorem T_drop {l : List Nat} {k : Nat} (h : k ≤ l.length) : cutS (T l) (some (k : Int)) none = T (l.drop k) := by
  unfold cutS
  rw [T_list, T_len, HT.sIx_none, HT.sIx_nat, Nat.min_eq_left h]
  congr 2
  exact List.take_of_length_le (by rw [List.length_drop]; exact Nat.le_refl _)
theorem T_take {l : List Nat} {k : Nat} (h : k ≤ l.length) : cutS (T l) none (some (k : Int)) = T (l.take k) := by
  unfold cutS
  rw [T_list, T_len, HT.sIx_none, HT.sIx_nat, Nat.min_eq_left h, Nat.sub_zero, List.drop_zero]
end DL

set_option Elab.async false
set_option linter.all false
set_option maxRecDepth 100000
set_option maxHeartbeats 4000000
/-! DLOwn: a comprehension over an own list that stays own -/
namespace DL
open PySem PySem.Spec PyProof.Rows L2
/-- the slot holds the same list ahead of each turn and at the end -/
@[reducible] def wLcO (i : Nat) (T : List Nat) (wg : WG) (wt : WT) (we : WE) : WE := fun ρ Q _ => match rget ρ i with
  | .own t (.lst ds) => ds.length ≤ sizeLine ∧ lcK T (fun d ρ1 k => rget ρ1 i = .own t (.lst ds) ∧ wg d ρ1 k) wt we ds [] (clr T ρ) fun acc ρ2 => rget ρ2 i = .own t (.lst ds) ∧ Q (.own 0 (.lst acc)) (back ρ T ρ2)
  | _ => False
section
variable {K : PySem.W.Frag} {g : G} {W : WX} {T : List Nat} {wg : WG} {wt : WT} {we : WE} {i0 : Nat}
theorem sem_lcO (hL : ∀ j ∈ T, g.L j = false) (hi : g.L i0 = true) : Sem K g W (tLc (iList K (tVar i0)) (tOfG K g T wg) (tOfT K g W0 wt) (tOfE K g W0 we) T) (wLcO i0 T wg wt we) := by
  intro σ vs H ρ cs QD ED Q hS hw hX hQ
  have hiT : i0 ∉ T := fun z => by rw [hL i0 z] at hi; cases hi
  unfold wLcO at hw
  split at hw
  case h_2 => exact hw.elim
  rename_i t0 ds e0
  obtain ⟨hlen, q1⟩ := hw
  obtain ⟨a, xs0, ea, eh, _⟩ := own_list hS e0
  refine ⟨.ref a, ea, a, rfl, ⟨xs0, .inl (.inl eh)⟩, fun D nD => ?_⟩
  obtain ⟨ks, k1, k2, k3⟩ := keptD_at hS T
  have S2 : SR K g σ (ks ++ vs) H ρ ((keptD ρ T).map C.v ++ cs) := hS.pushAll k2
  have S3 := S2.clrs T
  have S4 := S3.wiped (T := T) (fun j hj => clr_in hj) hL
  have S5 : SR K g (wipe σ T) (.ref D :: (ks ++ vs)) (upd H D (.lst [])) (clr T ρ) (.own 0 (.lst []) :: ((keptD ρ T).map C.v ++ cs)) := SR.res S4 (same_new nD) (new_lst nD .nil)
  have at_ : ∀ {H2 : Hp} {ρ2 : Rho} {vs2 : List V} {cs2 : List C}, SR K g (wipe σ T) vs2 H2 ρ2 cs2 → rget ρ2 i0 = .own t0 (.lst ds) → ∃ xs, H2 a = some (.lst xs) ∧ DpAll K (hide H2 (tot (wipe σ T) vs2 ρ2 cs2 ++ g.P0)) xs ds := fun S e => by
    obtain ⟨a', xs, e1, e2, e3⟩ := own_list S e
    rw [wipe_get hiT, ea] at e1
    cases e1
    exact ⟨xs, e2, e3⟩
  refine ⟨fun i m H => m = ds.length - i ∧ ∃ acc ρ', SR K g (wipe σ T) (.ref D :: (ks ++ vs)) H ρ' (.own 0 (.lst acc) :: ((keptD ρ T).map C.v ++ cs)) ∧ (∀ j ∈ T, rget ρ' j = .no) ∧ acc.length ≤ i ∧ lcK T (fun d ρ1 k => rget ρ1 i0 = .own t0 (.lst ds) ∧ wg d ρ1 k) wt we (ds.drop i) acc ρ' fun acc ρ2 => rget ρ2 i0 = .own t0 (.lst ds) ∧ QD (.own 0 (.lst acc)) (back ρ T ρ2),
    ⟨ds.length, by simp, [], clr T ρ, S5, fun j hj => clr_in hj, Nat.zero_le _, by simpa using q1⟩, ?_⟩
  rintro i m H2 ⟨rfl, acc, ρ2, S6, hno, hacc, q6⟩
  have hlk : ks.length = ((keptD ρ T).map C.v).length := by simpa using k1
  by_cases hlt : i < ds.length
  · have ed : ds.drop i = ds[i] :: ds.drop (i + 1) := List.drop_eq_getElem_cons hlt
    rw [ed] at q6
    obtain ⟨e6, q6⟩ := q6
    obtain ⟨xs, ex, dx⟩ := at_ S6 e6
    have hx : i < xs.length := by rw [DL.DpAll.len dx]; exact hlt
    refine .inr ⟨⟨xs, xs[i], .inl (.inl ex), List.getElem?_eq_getElem hx⟩, fun H' => ∃ acc ρ', SR K g (wipe σ T) (.ref D :: (ks ++ vs)) H' ρ' (.own 0 (.lst acc) :: ((keptD ρ T).map C.v ++ cs)) ∧ (∀ j ∈ T, rget ρ' j = .no) ∧ acc.length ≤ i + 1 ∧ lcK T (fun d ρ1 k => rget ρ1 i0 = .own t0 (.lst ds) ∧ wg d ρ1 k) wt we (ds.drop (i + 1)) acc ρ' fun acc ρ2 => rget ρ2 i0 = .own t0 (.lst ds) ∧ QD (.own 0 (.lst acc)) (back ρ T ρ2),
      fun H' q => ⟨ds.length - (i + 1), by omega, rfl, q⟩, fun x H3 y => ?_⟩
    obtain ⟨rfl, hy⟩ := y
    have hx2 : x = xs[i] := by
      have z := hy xs (.inl (.inl ex))
      rw [List.getElem?_eq_getElem hx] at z
      exact (Option.some.inj z).symm
    have dx2 : Dp K (hide H3 (tot (wipe σ T) (.ref D :: (ks ++ vs)) ρ2 (.own 0 (.lst acc) :: ((keptD ρ T).map C.v ++ cs)) ++ g.P0)) x ds[i] := by
      obtain ⟨v, z1, z2⟩ := DL.DpAll.get dx (List.getElem?_eq_getElem hlt)
      rw [List.getElem?_eq_getElem hx] at z1
      rw [hx2, Option.some.inj z1]
      exact z2
    have S9 : SR K g (wipe σ T) (x :: .ref D :: (ks ++ vs)) H3 ρ2 (.v ds[i] :: .own 0 (.lst acc) :: ((keptD ρ T).map C.v ++ cs)) := SR.resV S6 (Same.refl _) dx2
    have noX : ∀ σ', XEnds K g W0 σ' (fun _ _ => False) := fun σ' _ _ _ _ _ _ _ z => z
    have turn : ∀ {σ2 : L2.St} {H' : Hp} {ρ' : Rho} {acc' : List PyData}, DL.Only T (wipe σ T) σ2 → SR K g σ2 (.ref D :: (ks ++ vs)) H' ρ' (.own 0 (.lst acc') :: ((keptD ρ T).map C.v ++ cs)) → acc'.length ≤ i + 1 → lcK T (fun d ρ1 k => rget ρ1 i0 = .own t0 (.lst ds) ∧ wg d ρ1 k) wt we (ds.drop (i + 1)) acc' (clr T ρ') (fun acc ρ2 => rget ρ2 i0 = .own t0 (.lst ds) ∧ QD (.own 0 (.lst acc)) (back ρ T ρ2)) →
        ∃ acc ρ', SR K g (wipe σ T) (.ref D :: (ks ++ vs)) H' ρ' (.own 0 (.lst acc) :: ((keptD ρ T).map C.v ++ cs)) ∧ (∀ j ∈ T, rget ρ' j = .no) ∧ acc.length ≤ i + 1 ∧ lcK T (fun d ρ1 k => rget ρ1 i0 = .own t0 (.lst ds) ∧ wg d ρ1 k) wt we (ds.drop (i + 1)) acc ρ' fun acc ρ2 => rget ρ2 i0 = .own t0 (.lst ds) ∧ QD (.own 0 (.lst acc)) (back ρ T ρ2) := by
      intro σ2 H' ρ' acc' on S hle q
      have S' := (S.clrs T).wiped (T := T) (fun j hj => clr_in hj) hL
      rw [only_wipe on, wipe_wipe] at S'
      exact ⟨acc', clr T ρ', S', fun j hj => clr_in hj, hle, q⟩
    refine ⟨_, ρ2, _, ds[i], _, S9, fun j hj k q e => ?_, q6, fun σ2 H4 ρ4 S10 on q10 => ⟨by rw [only_wipe on, wipe_wipe], _, ρ4, _, _, fun _ _ => False, S10, q10, noX σ2, fun b H5 ρ5 S11 q11 => ?_⟩⟩
    · have q' := S6.pk k q
      rw [e, hL j hj] at q'; cases q'
    · cases b with
      | false =>
        rw [if_neg Bool.false_ne_true] at q11 ⊢
        exact turn on S11 (by omega) q11
      | true =>
        rw [if_pos rfl] at q11 ⊢
        refine ⟨_, ρ5, _, _, fun _ _ => False, S11, q11, noX σ2, fun z H6 c ρ6 S12 q12 => ?_⟩
        split at q12
        · rename_i d' ec
          have S13 := S12.frzTop
          rw [ec] at S13
          obtain ⟨zs, e1, e2, S14⟩ := S13.appTop
          exact ⟨zs, e1, by omega, turn on S14 (by simp; omega) q12⟩
        · exact q12.elim
  · have ed : ds.drop i = [] := List.drop_eq_nil_of_le (by omega)
    rw [ed] at q6
    obtain ⟨e6, q6⟩ := q6
    obtain ⟨xs, ex, dx⟩ := at_ S6 e6
    refine .inl ⟨⟨xs, .inl (.inl ex), by rw [DL.DpAll.len dx]; omega⟩, ?_⟩
    have S8 : SR K g σ (.ref D :: (ks ++ vs)) H2 ρ2 (.own 0 (.lst acc) :: ((keptD ρ T).map C.v ++ cs)) := by
      refine S6.agree (wipe_length σ T).symm (fun j hj => (wipe_get fun z => hj (hno j z)).symm) fun j hj => (wipe_get fun z => ?_).symm
      have q' := S6.pk j hj
      rw [hL j z] at q'; cases q'
    have S9 : SR K g σ (ks ++ .ref D :: vs) H2 ρ2 ((keptD ρ T).map C.v ++ .own 0 (.lst acc) :: cs) := SR.unrot hlk S8
    have S10 := SR.backs_ k1 k3 S9
    exact hQ (.ref D) H2 _ _ S10 q6
end
section
variable {X : Cx} {g : G} {W : WX} {elt tg : Expr} {ifs : List Expr} {scope : Scope} {own : List (Str × Nat)} {pos p : Pos} {wg : WG} {wt : WT} {we : WE} {i : Nat} {x : Str}
theorem ee_lcO (hc : X.calm = true) (hN : X.N.Nodup) (hL : ∀ j ∈ own.map (·.2), g.L j = false) (hi : g.L i = true) (hx : PE X (.Name x p) (tVar i)) (ok : BlkOk X.N X.env.scope scope own)
    (hg : ∀ (s : Shared) (H : Hp) (C : Addr) (cl : List (Str × Addr)) (fp : List Addr), EG (X.blk s H scope (compEnvC scope cl C X.env) fp) g tg (own.map (·.2)) wg)
    (ht : ∀ (s : Shared) (H : Hp) (C : Addr) (cl : List (Str × Addr)) (fp : List Addr), ETs (X.blk s H scope (compEnvC scope cl C X.env) fp) g W0 ifs wt)
    (he : ∀ (s : Shared) (H : Hp) (C : Addr) (cl : List (Str × Addr)) (fp : List Addr), EE (X.blk s H scope (compEnvC scope cl C X.env) fp) g W0 elt we) (hs : ∀ z, foldedSetIterable (.Name x p) X.env z = pure z := by intro _; rfl) :
    EE X g W (.ListComp elt [⟨tg, .Name x p, ifs, 0⟩] scope pos) (wLcO i (own.map (·.2)) wg wt we) :=
  ⟨_, pe_lc hc hN (pi_list hx) ok (fun s H C cl fp => (hg s H C cl fp).can) (fun s H C cl fp => (ht s H C cl fp).can) (fun s H C cl fp => (he s H C cl fp).can) hs, sem_lcO hL hi⟩
end
end DL

set_option Elab.async false
set_option linter.all false
/-! loops over lists given as data, over ranges -/
namespace DL
open PySem PySem.Spec PyProof.Rows L2
theorem forK_xs {α : Type} {inj : α → D} {wg : WG} {body : WS} {DD : EndsD} {ρ : Rho} (xs : List α) (I : List α → Rho → Prop) (h : I [] ρ) (h0 : ∀ ρ, I xs ρ → DD.nx ρ)
    (h1 : ∀ (done : List α) (x : α) (rest : List α) (ρ : Rho) (next : Rho → Prop), xs = done ++ x :: rest → (∀ ρ', I (done ++ [x]) ρ' → next ρ') → I done ρ → wg (inj x) ρ fun ρ1 => body ⟨next, DD.rt, DD.nx, next, DD.ex⟩ ρ1) : forK wg body (xs.map inj) DD ρ := by
  refine forK_ind (fun ds ρ => ∃ done rest, xs = done ++ rest ∧ ds = rest.map inj ∧ I done ρ) ?_ ?_ _ _ ⟨[], xs, rfl, rfl, h⟩
  · rintro ρ ⟨done, rest, e, hd, hi⟩
    have e1 : rest = [] := by cases rest with
      | nil => rfl
      | cons _ _ => cases hd
    subst e1
    rw [List.append_nil] at e
    subst e
    exact h0 ρ hi
  · rintro d ds ρ next hn ⟨done, rest, e, hd, hi⟩
    cases rest with
    | nil => cases hd
    | cons x rest =>
      rw [List.map_cons] at hd
      obtain ⟨rfl, rfl⟩ := List.cons.inj hd
      exact h1 done x rest ρ next e (fun ρ' z => hn ρ' ⟨done ++ [x], rest, by rw [e, List.append_assoc]; rfl, rfl, z⟩) hi
theorem forK_rg {wg : WG} {body : WS} {DD : EndsD} {ρ : Rho} {lo : Int} (n : Nat) (I : Nat → Rho → Prop) (h : I 0 ρ) (h0 : ∀ ρ, I n ρ → DD.nx ρ)
    (h1 : ∀ (k : Nat) (ρ : Rho) (next : Rho → Prop), k < n → (∀ ρ', I (k + 1) ρ' → next ρ') → I k ρ → wg (.int (lo + (k : Nat))) ρ fun ρ1 => body ⟨next, DD.rt, DD.nx, next, DD.ex⟩ ρ1) : forK wg body (rangeD lo n) DD ρ := by
  refine forK_ind (fun ds ρ => ∃ k : Nat, k ≤ n ∧ ds = rangeD (lo + (k : Nat)) (n - k) ∧ I k ρ) ?_ ?_ _ _ ⟨0, Nat.zero_le n, by simp, h⟩
  · rintro ρ ⟨k, hk, hd, hi⟩
    have : k = n := by
      rcases Nat.lt_or_ge k n with z | z
      · rw [show n - k = (n - (k + 1)) + 1 by omega, rangeD_cons] at hd; cases hd
      · omega
    subst this
    exact h0 ρ hi
  · rintro d ds ρ next hn ⟨k, hk, hd, hi⟩
    have hkn : k < n := by
      rcases Nat.lt_or_ge k n with z | z
      · exact z
      · rw [show n - k = 0 by omega, rangeD_zero] at hd; cases hd
    rw [show n - k = (n - (k + 1)) + 1 by omega, rangeD_cons] at hd
    obtain ⟨rfl, rfl⟩ := List.cons.inj hd
    exact h1 k ρ next hkn (fun ρ' z => hn ρ' ⟨k + 1, hkn, by rw [show lo + (k : Int) + 1 = lo + ((k + 1 : Nat) : Int) by push_cast; omega], z⟩) hi
/-- a loop whose state is of one form only -/
theorem forK_st {wg : WG} {body : WS} {DD : EndsD} {ρ : Rho} (ds : List D) (I : Rho → Prop) (h : I ρ) (h0 : ∀ ρ, I ρ → DD.nx ρ)
    (h1 : ∀ d ∈ ds, ∀ (ρ : Rho) (next : Rho → Prop), (∀ ρ', I ρ' → next ρ') → I ρ → wg d ρ fun ρ1 => body ⟨next, DD.rt, DD.nx, next, DD.ex⟩ ρ1) : forK wg body ds DD ρ :=
  forK_ind (fun es ρ => (∀ d ∈ es, d ∈ ds) ∧ I ρ) (fun ρ z => h0 ρ z.2) (fun d es ρ next hn z => h1 d (z.1 d (.head _)) ρ next (fun ρ' y => hn ρ' ⟨fun d' hd => z.1 d' (.tail _ hd), y⟩) z.2) ds ρ ⟨fun _ h => h, h⟩
/-- a loop that draws: the state tells how many have gone -/
theorem forK_n {wg : WG} {body : WS} {DD : EndsD} {ρ : Rho} (ds : List D) (I : Nat → Rho → Prop) (h : I 0 ρ) (h0 : ∀ ρ, I ds.length ρ → DD.nx ρ)
    (h1 : ∀ (k : Nat) (d : D) (ρ : Rho) (next : Rho → Prop), k < ds.length → d ∈ ds → (∀ ρ', I (k + 1) ρ' → next ρ') → I k ρ → wg d ρ fun ρ1 => body ⟨next, DD.rt, DD.nx, next, DD.ex⟩ ρ1) : forK wg body ds DD ρ :=
  forK_ind (fun es ρ => (∀ d ∈ es, d ∈ ds) ∧ ∃ k, k + es.length = ds.length ∧ I k ρ) (fun ρ z => by
      obtain ⟨_, k, e, i⟩ := z
      rw [List.length_nil, Nat.add_zero] at e
      rw [e] at i
      exact h0 ρ i) (fun d es ρ next hn z => by
      obtain ⟨hm, k, e, i⟩ := z
      rw [List.length_cons] at e
      exact h1 k d ρ next (by omega) (hm d (.head _)) (fun ρ' y => hn ρ' ⟨fun d' hd => hm d' (.tail _ hd), k + 1, by omega, y⟩) i) ds ρ ⟨fun _ h => h, 0, by omega, h⟩
/-- a comprehension that draws -/
theorem lcK_dr {α : Type} {inj : α → D} {T : List Nat} {wg : WG} {wt : WT} {we : WE} {k : List D → Rho → Prop} {ρ : Rho} (ds : List D) (I : List α → Rho → Prop) (h : I [] ρ) (h0 : ∀ xs ρ, xs.length = ds.length → I xs ρ → k (xs.map inj) ρ)
    (h1 : ∀ d ∈ ds, ∀ (xs : List α) (ρ : Rho) (next : List D → Rho → Prop), xs.length < ds.length → (∀ x ρ', I (xs ++ [x]) ρ' → next (xs.map inj ++ [inj x]) ρ') → I xs ρ → wg d ρ fun ρ1 => wt ρ1 (fun b ρ2 => if b = true then we ρ2 (fun c ρ3 => match frzC c with
      | .v d' => next (xs.map inj ++ [d']) (clr T ρ3)
      | _ => False) (fun _ _ => False) else next (xs.map inj) (clr T ρ2)) (fun _ _ => False)) : lcK T wg wt we ds [] ρ k :=
  lcK_ind (fun es acc ρ => (∀ d ∈ es, d ∈ ds) ∧ ∃ xs, acc = xs.map inj ∧ xs.length + es.length = ds.length ∧ I xs ρ) (fun acc ρ z => by
      obtain ⟨_, xs, rfl, e, i⟩ := z
      exact h0 xs ρ (by simpa using e) i) (fun d es acc ρ next hn z => by
      obtain ⟨hm, xs, rfl, e, i⟩ := z
      rw [List.length_cons] at e
      exact h1 d (hm d (.head _)) xs ρ next (by omega) (fun x ρ' y => hn _ _ ⟨fun d' hd => hm d' (.tail _ hd), xs ++ [x], by rw [List.map_append]; rfl, by rw [List.length_append, List.length_singleton]; omega, y⟩) i) ds [] ρ ⟨fun _ h => h, [], rfl, by simp, h⟩
theorem forK_r0 {wg : WG} {body : WS} {DD : EndsD} {ρ : Rho} (n : Nat) (I : Nat → Rho → Prop) (h : I 0 ρ) (h0 : ∀ ρ, I n ρ → DD.nx ρ)
    (h1 : ∀ (k : Nat) (ρ : Rho) (next : Rho → Prop), k < n → (∀ ρ', I (k + 1) ρ' → next ρ') → I k ρ → wg (.int (k : Nat)) ρ fun ρ1 => body ⟨next, DD.rt, DD.nx, next, DD.ex⟩ ρ1) : forK wg body (rangeD 0 n) DD ρ :=
  forK_rg n I h h0 fun k ρ next hk hn hi => by
    rw [Int.zero_add]
    exact h1 k ρ next hk hn hi
theorem lcK_r0 {T : List Nat} {wg : WG} {wt : WT} {we : WE} {k : List D → Rho → Prop} {ρ0 : Rho} (g : Nat → Option D) (n : Nat)
    (h : ∀ x, x < n → ∀ next : Option D → Rho → Prop, next (g x) ρ0 → wg (.int (x : Nat)) ρ0 fun ρ1 => wt ρ1 (fun b ρ2 => if b = true then we ρ2 (fun c ρ3 => match frzC c with
      | .v d' => next (some d') (clr T ρ3)
      | _ => False) (fun _ _ => False) else next none (clr T ρ2)) (fun _ _ => False)) (fin : k ((List.range n).filterMap g) ρ0) : lcK T wg wt we (rangeD 0 n) [] ρ0 k :=
  lcK_rg g n (fun x hx next hn => by
    rw [Int.zero_add]
    exact h x hx next hn) fin
theorem filterMap_if {α β : Type} (p : α → Prop) [DecidablePred p] (f : α → β) : ∀ l : List α, l.filterMap (fun x => if p x then some (f x) else none) = (l.filter fun x => decide (p x)).map f
  | [] => rfl
  | x :: l => by
    rw [List.filterMap_cons]
    by_cases h : p x
    · rw [if_pos h, List.filter_cons_of_pos (by simpa using h), List.map_cons, filterMap_if p f l]
    · rw [if_neg h, List.filter_cons_of_neg (by simpa using h), filterMap_if p f l]
theorem filterMap_map' {α β γ : Type} (g : α → Option β) (f : β → γ) (l : List α) : l.filterMap (fun x => (g x).map f) = (l.filterMap g).map f := by
  rw [List.map_filterMap]
theorem filterMap_some' {α β : Type} (f : α → β) (l : List α) : l.filterMap (fun x => some (f x)) = l.map f := by
  induction l with
  | nil => rfl
  | cons x l ih => rw [List.filterMap_cons]; show f x :: _ = _; rw [ih]; rfl
/-- a loop over a list that is written out, at which the steps stop -/
def forN (wg : WG) (body : WS) (ds : List D) (DD : EndsD) (ρ : Rho) : Prop := forK wg body ds DD ρ
@[reducible] def wForN (wi : WI) (wg : WG) (body : WS) : WS := fun DD ρ => wi ρ (fun ds ρ1 => forN wg body ds DD ρ1) DD.ex
theorem forN_of {wg : WG} {body : WS} {ds : List D} {DD : EndsD} {ρ : Rho} (h : forK wg body ds DD ρ) : forN wg body ds DD ρ := h
section
variable {X : Cx} {g : G} {W : WX} {tg iter : Expr} {body : List Stmt} {wi : WI} {wg : WG} {wb : WS} {T : List Nat} {pos : Pos}
theorem es_forN (hp : PassesOwn (model X.prog X.w) X.A X.env X.xe) (hc : X.calm = true) (hi : EI X g W tg iter wi) (hg : EG X g tg T wg) (hb : EB X g W body wb) (hs : ∀ x, foldedSetIterable iter X.env x = pure x := by intro _; rfl) : ES X g W (.For tg iter body [] pos) (wForN wi wg wb) := es_for hp hc hi hg hb hs
end
end DL
namespace DL
open PySem PySem.Spec PyProof.Rows L2
theorem eb_never {X : Cx} {g : G} {W : WX} {sts : List Stmt} : EB X g W sts wNever := ⟨fun _ _ _ => False, ⟨fun _ _ _ _ _ _ h => h.elim⟩, fun _ _ _ _ _ _ _ _ _ hw _ => hw⟩
end DL
namespace DL
open PySem PySem.Spec PyProof.Rows L2
theorem ifb_t {A B : Prop} {b : Bool} (h : b = true) (a : A) : if b = true then A else B := by rw [if_pos h]; exact a
theorem ifb_f {A B : Prop} {b : Bool} (h : b = false) (a : B) : if b = true then A else B := by rw [if_neg (by rw [h]; exact Bool.false_ne_true)]; exact a
theorem cut_to {ds : List D} {a : Int} (h0 : 0 ≤ a) (h1 : a ≤ ds.length) : cutD ds none (some a) = ds.take a.toNat := by
  have e1 : HT.sIx ds.length ds.length (some a) = a.toNat := by
    show (if a < 0 then (a + (ds.length : Int)).toNat else min a.toNat ds.length) = a.toNat
    rw [if_neg (by omega)]
    omega
  have e2 : HT.sIx ds.length 0 none = 0 := rfl
  unfold cutD
  rw [e1, e2]
  rfl
theorem cut_from {ds : List D} {a : Int} (h0 : 0 ≤ a) (h1 : a ≤ ds.length) : cutD ds (some a) none = ds.drop a.toNat := by
  have e1 : HT.sIx ds.length 0 (some a) = a.toNat := by
    show (if a < 0 then (a + (ds.length : Int)).toNat else min a.toNat ds.length) = a.toNat
    rw [if_neg (by omega)]
    omega
  have e2 : HT.sIx ds.length ds.length none = ds.length := rfl
  unfold cutD
  rw [e1, e2]
  exact List.take_of_length_le (by rw [List.length_drop]; omega)
theorem cut_last {ds : List D} {d : D} : cutD (ds ++ [d]) none (some (-1)) = ds := by
  have l : (ds ++ [d]).length = ds.length + 1 := by simp
  have e1 : HT.sIx (ds ++ [d]).length (ds ++ [d]).length (some (-1)) = ds.length := by unfold HT.sIx; rw [l]; simp; omega
  have e2 : HT.sIx (ds ++ [d]).length 0 none = 0 := rfl
  unfold cutD
  rw [e1, e2]
  simp
theorem atI_lastD {α : Type} {ds : List α} {d : α} : atI (ds ++ [d]) (-1) = some d := by
  have l : ((ds ++ [d]).length : Int) = ds.length + 1 := by simp
  unfold atI ixN
  rw [if_neg (by omega), if_pos (by rw [l]; omega)]
  have z : (-1 + ((ds ++ [d]).length : Int)).toNat = ds.length := by rw [l]; omega
  show (ds ++ [d])[_]? = _
  rw [z]
  simp
end DL
namespace DL
open PySem PySem.Spec PyProof.Rows L2
theorem cut_take {ds : List D} {a : Nat} : cutD ds none (some (a : Int)) = ds.take a := by
  unfold cutD
  rw [HT.sIx_nat, HT.sIx_none, Nat.sub_zero, List.drop_zero]
  rcases Nat.le_total a ds.length with h | h
  · rw [Nat.min_eq_left h]
  · rw [Nat.min_eq_right h, List.take_of_length_le (Nat.le_refl _), List.take_of_length_le h]
end DL

set_option Elab.async false
set_option linter.all false
set_option maxRecDepth 100000
/-! range(i, j) of numbers of any size -/
namespace DL
open PySem PySem.Spec PyProof.Rows L2
theorem turn_long {P : Program} {w : World} {K : PySem.W.Frag} {tg : Expr} (it : Addr) (lo : Int) (n : Nat) : Turn P w K tg (Itr lo n) [it] it (fun i h => IsLongIter h it (lo + (i : Nat) * 1) ((n : Int) - (i : Nat)) 1) where
  mem := by simp
  obj := fun i h st b hb => by
    have e : b = it := by simpa using hb
    subst e
    exact ⟨_, st, fun v z => by
      have z' : Data.fields _ = Data.cell v := z
      cases z'⟩
  keep := fun i h h' st k => k it (by simp) _ st
  item := by
    intro X hP hw hK hc i pins s σ H E I hf st hg
    subst hP hw hK
    obtain ⟨f0, f1, f2, f3, f4, f5⟩ := hf it (by simp)
    have W := Walks.longrange (prog := X.prog) (w := X.w) (I.ok.hd hc) it lo 1 n
    refine W.item i s _ _ hg st fun v h' tk hv st' kk => ?_
    obtain ⟨t, rfl⟩ := hv
    have I1 : Inv X pins σ H { s with heap := h', toks := tk } := I.turned (fun b o hb e => kk b o (by simpa using hb) e) f0 f1 f3 f4 f5
    refine ⟨_, rfl, go_of (s := { s with heap := h', toks := tk }) (n := "longrange_iterator") st' rfl rfl (by decide) ⟨.int (lo + i), H, I1, ⟨t, ?_⟩, ⟨rfl, rfl⟩, st', fun b hb => (hf b hb).1⟩⟩
    rw [Int.mul_one]
  done := by
    intro X hP hw hK hc i pins s σ H E I hf st hg
    subst hP hw hK
    obtain ⟨f0, f1, f2, f3, f4, f5⟩ := hf it (by simp)
    exact wpAny_pyNext_long_end (I.ok.hd hc) st (by have : n ≤ i := hg; omega) fun h' eb => ⟨rfl, I.turned (t' := s.toks) (fun b o hb e => eb b o hb e) f0 f1 f3 f4 f5⟩
  self := fun _ _ _ _ _ st h => wpAny_pyIter_longiter st h
section
variable {X : Cx} {tg : Expr}
theorem range_any {pins : List (Addr × Obj)} {σ : L2.St} {H : Hp} {s : Shared} {R : It → Hp → Prop} {E : Value → Shared → Prop} {lo hi : Int} {t u v : Tok} {tk : Nat} (I : Inv X pins σ H s)
    (q : R (Itr lo (hi - lo).toNat) H) : wpAny (model X.prog X.w) X.A (pyIter (.ref s.heap.objs.size)) (PIE X pins σ tg R) E { s with heap := s.heap.push { cls := .type "range", data := .fields #[.int lo t, .int hi u, .int 1 v] }, toks := tk } := by
  have I1 : Inv X pins σ H { s with heap := s.heap.push { cls := .type "range", data := .fields #[.int lo t, .int hi u, .int 1 v] }, toks := tk } := I.kept fun b o e => Heap.get?_push_of_some _ e
  have e1 : lo + ((0 : Nat) : Int) * 1 = lo := by simp
  have e2 : (((hi - lo).toNat : Nat) : Int) - ((0 : Nat) : Int) = Builtin.Range.rangeSize lo hi 1 := by rw [rangeSize_one]; split <;> omega
  have fr : ∀ b ∈ [(s.heap.push { cls := .type "range", data := .fields #[.int lo t, .int hi u, .int 1 v] }).objs.size], FpOk X pins H b := fun b hb => by
    have e : b = (s.heap.push { cls := .type "range", data := .fields #[.int lo t, .int hi u, .int 1 v] }).objs.size := by simpa using hb
    subst e
    exact I1.fpOk (Nat.le_refl _) (I1.hok.fresh (Nat.le_refl _))
  cases hs : Builtin.Range.small lo hi 1 with
  | true =>
    refine wpAny_pyIter_range (IsRange.new ..) hs ?_
    refine ⟨(s.heap.push { cls := .type "range", data := .fields #[.int lo t, .int hi u, .int 1 v] }).objs.size, [(s.heap.push { cls := .type "range", data := .fields #[.int lo t, .int hi u, .int 1 v] }).objs.size], _, _, H, rfl,
      I1.kept (t' := tk) fun b o e => Heap.get?_push_of_some _ e, turn_range _ lo (hi - lo).toNat, ?_, fr, q⟩
    show IsRangeIter _ _ (lo + ((0 : Nat) : Int) * 1) ((((hi - lo).toNat : Nat) : Int) - ((0 : Nat) : Int)) 1
    rw [e1, e2]
    exact Heap.get?_push_size _ rfl
  | false =>
    refine wpAny_pyIter_longrange (IsRange.new ..) hs ?_
    refine ⟨(s.heap.push { cls := .type "range", data := .fields #[.int lo t, .int hi u, .int 1 v] }).objs.size, [(s.heap.push { cls := .type "range", data := .fields #[.int lo t, .int hi u, .int 1 v] }).objs.size], _, _, H, rfl,
      I1.kept (t' := tk) fun b o e => Heap.get?_push_of_some _ e, turn_long _ lo (hi - lo).toNat, ?_, fr, q⟩
    show IsLongIter _ _ (lo + ((0 : Nat) : Int) * 1) ((((hi - lo).toNat : Nat) : Int) - ((0 : Nat) : Int)) 1
    rw [e1, e2]
    exact Heap.get?_push_size _ rfl
def iRng2B (ta : TA) : TI := fun σ H R => ta σ H fun vs H1 => ∃ i j : Int, vs = [.int i, .int j] ∧ R (Itr i (j - i).toNat) H1
theorem pi_range2B {a b : Expr} {ta : TA} {p pos : Pos} (hg : Gl X "range") (hm : X.mg "range" = none) (ha : PA X [a, b] ta) (hs : starEach [a, b] X.env = [(false, eval a X.env), (false, eval b X.env)] := by rfl) (hs2 : starEach [b] X.env = [(false, eval b X.env)] := by rfl) :
    PI X tg (.Call (.Name "range" p) [a, b] [] pos) (iRng2B ta) := by
  refine ⟨fun pins s σ H R I h => ?_⟩
  refine Call_ (ld_blt I hg hm boot_range (PyProof.Rows.callWith_type1 (thn (ha.run pos pins s σ H _ I h) fun us s1 ⟨vs, H1, I1, r1, q1⟩ => ?_) (by rw [hs, hs2]) (by rw [hs2]; rfl)))
  obtain ⟨i, j, e, q⟩ := q1
  subst e
  cases r1 with
  | cons r rr =>
    cases rr with
    | cons r' rr =>
      cases rr
      obtain ⟨t, rfl⟩ := r
      obtain ⟨t', rfl⟩ := r'
      exact call_range_2 (range_any I1 q)
end
@[reducible] def wIR2B (wa : WA) : WI := fun ρ Q E => wa ρ (fun cs ρ1 => match cs with
  | [.v (.int i), .v (.int j)] => Q (rangeD i (j - i).toNat) ρ1
  | _ => False) E
section
variable {X : Cx} {g : G} {W : WX} {tg e : Expr} {we : WE} {pos : Pos}
theorem ei_range2B {a b : Expr} {wa : WA} {p : Pos} (hg : Gl X "range") (hm : X.mg "range" = none) (ha : EA X g W [a, b] wa) (hs : starEach [a, b] X.env = [(false, eval a X.env), (false, eval b X.env)] := by rfl) (hs2 : starEach [b] X.env = [(false, eval b X.env)] := by rfl) : EI X g W tg (.Call (.Name "range" p) [a, b] [] pos) (wIR2B wa) := by
  obtain ⟨t, q, s⟩ := ha.ex
  refine ⟨_, pi_range2B hg hm q hs hs2, fun σ vs H ρ cs QD ED R hS hw hX hQ => ?_⟩
  refine s σ vs H ρ cs _ ED _ hS hw hX fun xs H1 ccs ρ1 hl S1 q1 => ?_
  split at q1
  · rename_i i j
    match xs, hl with
    | [x, y], _ =>
      have q := S1.top
      cases q
      have q2 := S1.pop.top
      cases q2
      exact ⟨i, j, rfl, hQ _ [] [] _ H1 ρ1 rfl S1.pop.pop walks_range q1⟩
  · exact q1.elim
end
end DL

set_option Elab.async false
set_option linter.all false
set_option maxRecDepth 100000
/-! sorted(list of texts) -/
namespace DL
open PySem PySem.Spec PyProof.Rows L2
theorem DpAll.strs {K : PySem.W.Frag} {B : Hp} : ∀ (ns : List Str), DpAll K B (ns.map V.str) (ns.map PyData.str)
  | [] => .nil
  | x :: xs => .cons (.str x) (DpAll.strs xs)
@[reducible] def oSortS : OL := fun ds k => match ds with
  | [.list es] => optK (strsOf es) fun ns => ns.length < 64 ∧ ∀ ns' : List Str, ns'.Perm ns → sortedS ns' = true → k (.own 0 (.lst (ns'.map PyData.str)))
  | _ => False
theorem lift_sortS {K : PySem.W.Frag} : LiftL K (rSortedS K) oSortS := by
  intro O H xs ds QD Q _ hx q fin
  unfold oSortS at q
  split at q
  · rename_i es
    cases hx with
    | cons h1 h2 =>
      cases h2
      cases h1 with
      | lst a1 a2 =>
        cases e : strsOf es with
        | none => rw [e] at q; exact q.elim
        | some ns =>
          rw [e] at q
          have e2 := strsOf_dp a2 e
          subst e2
          refine ⟨_, ns, rfl, Same.seq same_hide a1, q.1, fun ns' p pm pw n => fin _ _ (.own 0 (.lst _)) (same_new n) (new_lst n (DL.DpAll.strs ns')) (q.2 ns' pm pw)⟩
  · exact q.elim
section
variable {X : Cx} {g : G} {W : WX} {e : Expr} {es : List Expr} {wa : WA} {p pos : Pos}
theorem ee_sortS (hg : Gl X "sorted") (hm : X.mg "sorted" = none) (ha : EA X g W (e :: es) wa) (he : starEach (e :: es) X.env = (false, eval e X.env) :: starEach es X.env := by rfl) (hpl : (backTo pos (starEach es X.env)).any (·.1) = false := by rfl) : EE X g W (.Call (.Name "sorted" p) (e :: es) [] pos) (wL oSortS wa) :=
  ee_cb cr_sortedS lift_sortS hg hm (by decide +kernel) ha (he := he) (hpl := hpl)
end
end DL

set_option Elab.async false
set_option linter.all false
set_option maxRecDepth 100000
set_option maxHeartbeats 4000000
/-! DL: x.insert(i, e) of an own list in a slot -/
namespace DL
open PySem PySem.Spec PyProof.Rows L2
@[reducible] def wIns (i : Nat) (wa : WA) : WE := fun ρ Q E => match rget ρ i with
  | .own _ (.lst _) => wa ρ (fun ccs ρ1 => match frzs ccs, rget ρ1 i with
    | [.v (.int j), .v d], .own t (.lst ds) => ds.length < sizeLine ∧ 0 ≤ j ∧ j < 2 ^ 63 ∧ Q (.v .none) (rset ρ1 i (.own t (.lst (ds.take j.toNat ++ [d] ++ ds.drop j.toNat))))
    | _, _ => False) E
  | _ => False
theorem dpAll_take {K : PySem.W.Frag} {B : Hp} : ∀ {n : Nat} {xs : List V} {ds : List D}, DpAll K B xs ds → DpAll K B (xs.take n) (ds.take n)
  | 0, _, _, _ => .nil
  | _ + 1, _, _, .nil => .nil
  | n + 1, _, _, .cons h t => .cons h (dpAll_take t)
theorem dpAll_drop {K : PySem.W.Frag} {B : Hp} : ∀ {n : Nat} {xs : List V} {ds : List D}, DpAll K B xs ds → DpAll K B (xs.drop n) (ds.drop n)
  | 0, _, _, h => h
  | _ + 1, _, _, .nil => .nil
  | n + 1, _, _, .cons h t => dpAll_drop (n := n) t
section
variable {X : Cx} {g : G} {W : WX} {a b : Expr} {wa : WA} {i : Nat} {x : Str} {p apos pos : Pos}
theorem ee_ins (hL : g.L i = true) (hx : PE X (.Name x p) (tVar i)) (h : EA X g W [a, b] wa)
    (hbase : attributeBase (.Name x p) "insert" X.env (eval (.Name x p) X.env) = eval (.Name x p) X.env := by rfl)
    (hfew : ((backTo pos (starEach [a, b] X.env)).all (fun x => !x.1) && (backToKw pos (keywordEach [] X.env)).all (fun x => x.1.isSome) && decide (([a, b] : List Expr).length + ([] : List Keyword).length + (if ([] : List Keyword).isEmpty then 0 else 1) < 30)) = true := by rfl)
    (hline : (apos.endLine == pos.line) = true := by rfl) (hs : starEach [a, b] X.env = (false, eval a X.env) :: starEach [b] X.env := by rfl) (hplain : (backTo pos (starEach [b] X.env)).any (·.1) = false := by rfl) :
    EE X g W (.Call (.Attribute (.Name x p) "insert" apos) [a, b] [] pos) (wIns i wa) := by
  obtain ⟨t, q, s⟩ := h.ex
  refine ⟨_, pe_bm PySem.F.plainAttrs_list PySem.F.slot_list_insert PySem.F.type_list_insert mt_insert hx q hbase hfew hline hs hplain, fun σ vs H ρ cs QD ED Q hS hw hX hQ => ?_⟩
  unfold wIns at hw
  split at hw
  · rename_i t0 ds0 e0
    obtain ⟨l, xs, e1, e2, _⟩ := own_list hS e0
    refine ⟨.ref l, e1, .inl ⟨rfl, xs, .inl (.inl e2)⟩, ?_⟩
    refine s σ vs H ρ cs _ ED _ hS hw hX fun ys H1 ccs ρ1 hl S1 q1 => ?_
    split at q1
    · rename_i j d t1 ds1 ec eo
      obtain ⟨u, v, rfl, S2⟩ := args2 hl S1 (frzs_eq.symm.trans ec)
      have z1 := S2.top
      have z2 := S2.pop.top
      cases z1 with
      | int j =>
        obtain ⟨l', xs', e3, e4, e5⟩ := own_list S2.pop.pop eo
        rw [e1] at e3
        cases e3
        refine ⟨l, xs', j, v, rfl, rfl, e4, by rw [DL.DpAll.len e5]; exact q1.1, q1.2.1, q1.2.2.1, ?_⟩
        have S3 := S2.pop.pop.mutSlot (H' := upd H1 l (.lst (xs'.take j.toNat ++ [v] ++ xs'.drop j.toNat))) eo e1 hL (fun b u n z => by rw [upd_ne n]; exact z) (o' := .lst (ds1.take j.toNat ++ [d] ++ ds1.drop j.toNat)) ⟨_, upd_same, DL.DpAll.app (DL.DpAll.app (dpAll_take e5) (.cons z2 .nil)) (dpAll_drop e5)⟩
        exact hQ _ _ _ _ (SR.resV S3 (Same.refl _) .non) q1.2.2.2
    · exact q1.elim
  · exact hw.elim
end
end DL

set_option Elab.async false
set_option linter.all false
set_option maxRecDepth 100000
set_option maxHeartbeats 4000000
/-! DL: the program's own exceptions are raised -/
namespace DL
open PySem PySem.Spec PyProof.Rows L2
/-- a class of exceptions of the program, over ValueError, without fields -/
structure ExcG (K : PySem.W.Frag) (mg : Str → Option Value) (x : Str) : Prop where
  g : mg x = some (.ref (He.ga K x))
  e : PySem.W.excIn K (He.ga K x) He.veBase "ValueError.__new__" = true
  k : PySem.W.keepIn K (.ref (He.ga K x)) = true
  s : PySem.W.subIn K (.ref (He.ga K x)) (.type "BaseException") = some true
  t : PySem.W.typeIn K (.ref (He.ga K x)) = some (.type "type")
theorem ExcG.of {K : PySem.W.Frag} {h : Heap} {mg : Str → Option Value} {x : Str} (X : K.In h) (G : h.Ns mainGlobals mg) (g : mg x = some (.ref (He.ga K x))) (c : (He.Fa.exc x).ok K = true) : ExcG K mg x :=
  have q := He.exc_ok c
  ⟨g, q.1, q.2.1, q.2.2.1, q.2.2.2⟩
section
variable {X : Cx} {x : Str} {p pos pos' : Pos}
/-- X() -/
theorem pmk_none (e : ExcG X.K X.mg x) (hg : Gl X x) (hdb : (x == ("__debug__" : Str)) = false := by decide) :
    PMk X (.Call (.Name x p) [] [] pos) (fun _ H Q => Q (.ref (He.ga X.K x)) none H) := by
  intro pins s σ H Q J h
  refine wpAny_Call_Name_kw (ld_glob J hg e.g ?_ hdb)
  have F := PySem.F.excBase_ValueError
  refine PySem.W.callWith_K0 J.kIn e.k ?_
  show wpAny _ _ (call _ []) _ _ _
  obtain ⟨bm, N, nm, qn, bs, hdct, sn, sub, ab, col, dd, k0, k1, k2, k3, k5, mN, hC, hN, hni, T⟩ := exc_obj J.kIn e.e
  exact wpAny_call_exc_subT F T hC hN hni (fun h' u hm => mk_of J hm (raises_own e.s e.t) h (J.hok.gone hm.new)) (Nat.zero_le _)
@[reducible] def wRaise (x : Str) : WS := fun DD ρ => DD.ex ⟨x, []⟩ ρ
theorem SR.dropAll {K : PySem.W.Frag} {g : G} {σ : L2.St} : ∀ {vs : List V} {cs : List C} {H : Hp} {ρ : Rho}, SR K g σ vs H ρ cs → SR K g σ [] H ρ []
  | [], [], _, _, h => h
  | v :: vs, c :: cs, _, _, h => SR.dropAll h.pop
  | [], _ :: _, _, _, h => (by have := h.tp.len; simp at this)
  | _ :: _, [], _, _, h => (by have := h.tp.len; simp at this)
theorem es_raise {g : G} {W : WX} (hc : X.calm = true) (tk : Takes X W) (e : ExcG X.K X.mg x) (hg : Gl X x) (hdb : (x == ("__debug__" : Str)) = false := by decide) :
    ES X g W (.Raise (some (.Call (.Name x p) [] [] pos)) none pos') (wRaise x) := by
  refine ⟨_, ps_raise hc tk (pmk_none e hg hdb), fun σ vs H ρ cs DD D hS hp hw hE => ?_⟩
  exact hE.ex σ ⟨x, []⟩ ρ _ none H hS.dropAll ⟨rfl, .inl ⟨rfl, rfl⟩⟩ hw
end
/-- what the def's callees may let out, is taken -/
theorem eb_tk {X : Cx} {g : G} {E : XK} {b : List Stmt} {w : WS} {E₁ : Value → Shared → Prop} (hs : X.stack = X.env :: X.outer) (hf : X.env.frame = some X.env.locals) (hex : X.ex = [])
    (hx : X.xe = fun e s' => wpAny (model X.prog X.w) X.A (leaving X.env e) (fun _ s'' => L2.CX X.prog X.w X.outer X.H_0 X.s_0 E e s'') E₁ s') (h : Takes X (fun cls d _ H => E cls d H) → EB X g (fun cls d _ H => E cls d H) b w) : EB X g (fun cls d _ H => E cls d H) b w := h (takes_of hs hf hex hx)
end DL

set_option Elab.async false
set_option linter.all false
set_option maxRecDepth 100000
set_option maxHeartbeats 4000000
/-! DL: defs that are promised only where no repr is under way (there repr of nested data has a meaning) -/
namespace DL
open PySem PySem.Spec PyProof.Rows L2
/-- a def's promise where nothing is being shown -/
structure FnG (P : Program) (w : World) (K : PySem.W.Frag) (mg : Str → Option Value) (base : Heap) (CX : CXT) (k : Nat) (f : Addr) (fd : FuncData) (ps : List Str) (sp : Sp) : Prop where
  len : ∀ xs H Q E, sp xs H Q E → xs.length = ps.length
  run : ∀ (A : Around) (outer : List Env) (s : Shared) (H : Hp) (args : Args) (us : List Value) (xs : List V) (Q : VK) (E : XK), A.guards = some [] → Room k A → Env0 P w K mg base A outer s H → BindsTo s fd args (ps.zip us) → Vals xs us → sp xs H Q E →
    codeAny (model P w) A (.call (.ref f) args) (CR CX outer P w H s Q E) s
section
variable {P : Program} {w : World} {K : PySem.W.Frag} {mg : Str → Option Value} {base : Heap} {x qual : Str} {params : Arguments} {body : List Stmt} {scope : Scope} {dvs : List V} {kws : List (Str × V)} {f : Addr} {fd : FuncData}
theorem fnG_body {CX : CXT} {N ps : List Str} {k : Nat} {sp : Sp} (F : FunD K x qual params body scope dvs kws f fd) (S : FnScope N ps scope) (len : ∀ xs H Q E, sp xs H Q E → xs.length = ps.length)
    (hb : ∀ (cdv : Value) (A : Around) (outer : List Env) (s : Shared) (H : Hp) (xs : List V) (Q : VK) (E : XK), A.guards = some [] → Room k (A.deeper (envOfC qual scope s.heap.objs.size f cdv)) → sp xs H Q E →
      ∃ t, PSs (cxOf CX P w K mg base N qual scope f cdv A outer s H E) body t ∧ t { nx := fun _ H1 => Q .non H1, rt := Q } (start N xs) H) : FnG P w K mg base CX (k + 1) f fd ps sp := by
  obtain ⟨oc, od, dV, kV, doc, pm, an, cdv, ct, osl, rfl, look, code, _, _⟩ := F.ex
  refine ⟨len, fun A outer s H args us xs Q E gd room en bd rv hs => ?_⟩
  have full : K.In s.heap := en.mod.kin.keeps fun b o g => (en.bs b o g).1
  have noLim : s.heap.NoLimit := en.mod.nolimit.keeps fun b o g => (en.bs b o g).1
  have kinds : ∀ y ∈ ps.zip us, scope.names.lookup y.1 = some .local ∨ (scope.names.lookup y.1 = some .cell ∧ ((cellsFrom (s.heap.objs.size + 1) scope.names []).lookup y.1).isSome = true) := by
    rintro ⟨n, u⟩ hy
    have q := S.par n (List.of_mem_zip hy).1
    exact q.elim .inl fun z => .inr ⟨z, PySem.W.cellsFrom_some _ _ _ (.inl z)⟩
  have room1 := fun env => room.deeper (k := k) (A := A) env
  refine codeAny_call_function room.depth (full _ _ look) rfl S.co S.gen rfl (PySem.W.codeRec_of full code) (bd _ _ _ _ (wpAny_newFunctionEnv_cells S.kind kinds fun env ee s1 made => ?_))
  cases ee
  refine ⟨noLim.keeps made.toInCall.keep, codeAny_func ?_⟩
  obtain ⟨t, pt, run⟩ := hb cdv A outer s H xs Q E gd (room1 _) hs
  have inv : Inv (cxOf CX P w K mg base N qual scope f cdv A outer s H E) [] (start N xs) H s1 := inv_start S room.hd en (len _ _ _ _ hs) rv made
  refine wpAny_mono (pt.run [] s1 (start N xs) H _ inv run) (fun fl s2 out => ?_) fun _ _ z => z
  cases fl with
  | next =>
    obtain ⟨σ2, H2, J, q⟩ := out
    exact ⟨V.non, H2, J.os, J.bare, J.base, J.hok, rfl, q⟩
  | ret u =>
    obtain ⟨y, σ2, H2, J, rel, q⟩ := out
    exact ⟨y, H2, J.os, J.bare, J.base, J.hok, rel, q⟩
  | brk =>
    obtain ⟨_, _, _, z⟩ := out
    exact z.elim
  | cont =>
    obtain ⟨_, _, _, z⟩ := out
    exact z.elim
/-- a def that lets no exception out, promised where nothing is being shown -/
theorem fnG0 {CX : CXT} {N ps : List Str} {n k : Nat} {Sd : SpD} {L : Nat → Bool} {ww : WS} (F : FunD K x qual params body scope dvs kws f fd) (S : FnScope N ps scope) (hn : N.length = n) (len : ∀ as QD ED, Sd as QD ED → as.length = ps.length)
    (hb : ∀ (cdv : Value) (A : Around) (outer : List Env) (s : Shared) (H : Hp) (E : XK), A.guards = some [] → Room k (A.deeper (envOfC qual scope s.heap.objs.size f cdv)) → ∀ g : G, g.L = L → EB (cxOf CX P w K mg base N qual scope f cdv A outer s H E).nox g (fun _ _ _ _ => False) body ww)
    (hw : ∀ as QD ED, Sd as QD ED → ww (bodyEnds as QD fun _ _ => False) (startD n as)) : FnG P w K mg base CX (k + 1) f fd ps (spOf K Sd) := by
  refine fnG_body F S (fun xs H Q E h => ?_) fun cdv A outer s H xs Q E gd hr h => ?_
  · obtain ⟨as, P, QD, ED, entry, sd, _⟩ := h
    have e := entry.len
    rw [List.length_map] at e
    rw [e, len as QD ED sd]
  · obtain ⟨as, P, QD, ED, entry, sd, ret, exc⟩ := h
    have h2 : spOf K (fun as QD ED' => ED' = (fun _ _ => False) ∧ ∃ ED, Sd as QD ED) xs H Q (fun _ _ _ => False) := ⟨as, P, QD, fun _ _ => False, entry, ⟨rfl, ED, sd⟩, ret, fun x rs z => z.elim⟩
    obtain ⟨t, p, q⟩ := body_ok (N := N) (X := (cxOf CX _ w K mg base N qual scope f cdv A outer s H E).nox) (K := K) rfl hn (W := fun _ _ _ _ => False) (E := fun _ _ _ => False) (fun _ _ _ _ z => z)
      (fun g hg => hb cdv A outer s H E gd hr g hg) (fun as' QD' ED' ⟨z1, ED2, z2⟩ => by rw [z1]; exact hw as' QD' ED2 z2) h2
    exact ⟨t, p.nox, q⟩
end
/-- such a def by its name -/
structure HasG (P : Program) (w : World) (K : PySem.W.Frag) (mg : Str → Option Value) (base : Heap) (k : Nat) (x : Str) (S : SpD) : Prop where
  ex : ∃ (f : Addr) (fd : FuncData) (ps : List Str), FnG P w K mg base (L2.CX P w) k f fd ps (spOf K S) ∧ mg x = some (.ref f) ∧ PySem.W.keepIn K (.ref f) = true ∧ Binds K fd ps []
section
variable {X : Cx} {g : G} {k : Nat} {S : SpD} {x : Str} {p pos : Pos} {e : Expr} {es : List Expr} {wa : WA}
theorem pe_callG {CX : CXT} {sp : Sp} {f : Addr} {fd : FuncData} {ps : List Str} {t : TA} {E : XK} (F : FnG X.prog X.w X.K X.mg X.base CX k f fd ps sp) (gd : X.A.guards = some []) (room : Room k X.A) (hg : Gl X x) (hm : X.mg x = some (.ref f)) (hk : PySem.W.keepIn X.K (.ref f) = true)
    (bd : Binds X.K fd ps []) (px : Passes CX X E) (ha : PA X (e :: es) t) (hdb : (x == ("__debug__" : Str)) = false := by decide) (he : starEach (e :: es) X.env = (false, eval e X.env) :: starEach es X.env := by rfl) (hpl : (backTo pos (starEach es X.env)).any (·.1) = false := by rfl) :
    PE X (.Call (.Name x p) (e :: es) [] pos) (tCall sp [] E t) := by
  refine ⟨fun pins s σ H Q J h => wpAny_Call_Name_kw (ld_glob J hg hm (PySem.W.callWith_K (h₀ := X.base) J.ok.mod.kin hk (thn (ha.run pos pins s σ H _ J h) fun us s1 ⟨xs, H1, J1, rv, q⟩ => ⟨J1.kIn, ?_⟩) he hpl) hdb)⟩
  have rv2 : Vals (xs ++ []) (us ++ []) := rv.append .nil
  have len2 : (us ++ []).length = ps.length := by rw [← rv2.length]; exact F.len _ _ _ _ q
  refine wpAny_call (codeAny_mono (F.run X.A X.stack s1 H1 ⟨us, []⟩ (us ++ []) (xs ++ []) Q E gd room J1.env0 (bd s1 us J1.kIn len2) rv2 q) fun r s2 out => ?_)
  match r, out with
  | .error err, out => exact px pins σ H1 s1 err s2 J1 out
  | .ok (.ret u), out => exact J1.after out
  | .ok .next, out => exact False.elim out
  | .ok .brk, out => exact False.elim out
  | .ok .cont, out => exact False.elim out
theorem ee_hasG (h : HasG X.prog X.w X.K X.mg X.base k x S) (gd : X.A.guards = some []) (hr : Room k X.A) (hg : Gl X x) (ha : EA X g W0 (e :: es) wa) (hdb : (x == ("__debug__" : Str)) = false := by decide)
    (he : starEach (e :: es) X.env = (false, eval e X.env) :: starEach es X.env := by rfl) (hpl : (backTo pos (starEach es X.env)).any (·.1) = false := by rfl) : EE X g W0 (.Call (.Name x p) (e :: es) [] pos) (wCall S wa) := by
  obtain ⟨f, fd, ps, F, hm, hk, hb⟩ := h.ex
  obtain ⟨t, q, s⟩ := ha.ex
  refine ⟨_, pe_callG F gd hr hg hm hk hb passL q hdb he hpl, fun σ vs H ρ cs QD ED Q hS hw hX hQ => ?_⟩
  refine s σ vs H ρ cs _ ED _ hS hw hX fun xs H1 ccs ρ1 hl S1 q1 => ?_
  rw [List.append_nil]
  unfold callA at q1
  split at q1
  · rename_i i rest
    cases xs with
    | nil => simp at hl
    | cons x xs => exact SR.callP (by simpa using hl) S1 q1 hX (fun _ _ _ _ z => z) hQ
  · exact SR.callD hl S1 q1 hX (fun _ _ _ _ z => z) fun v H' c S3 q3 => hQ v H' c ρ1 S3 q3
end
/-! ### the end of a law whose own def shows data -/
/-- the law's def is called by the claim's caller: there nothing is being shown -/
theorem law_callG {P : Program} {w : World} {K : PySem.W.Frag} {mg mb : Str → Option Value} {k : Nat} {fa a : Addr} {fd : FuncData} {x : Str} {sp : Sp} {s₁ : Shared} {ws : List Value} {ns : List Int}
    (KX : K.In s₁.heap) (nsM : s₁.heap.Ns mainGlobals mg) (nsB : s₁.heap.Ns builtinsNs mb) (boot : ∀ x : Str, x ≠ "__name__" → mb x = bootBuiltins x) (noLim : s₁.heap.NoLimit) (noGen : s₁.gens = #[])
    (here : s₁.heap.get? a = some { cls := .type "list", data := .seq ws.toArray }) (hI : IntsAre ws ns) (few : ns.length ≤ sizeLine) (room : Room k callerA)
    (F : ∀ base : Heap, K.In base → base.Ns mainGlobals mg → FnG P w K mg base (L2.CX P w) k fa fd [x] sp) (bd : ∀ (s : Shared) (u : Value), BindsTo s fd ⟨[u], []⟩ [(x, u)])
    (prom : ∀ H : Hp, L2.Only H → SqL K H a (ns.map V.int) → sp [.ref a] H (fun v _ => v = .bl true) fun _ _ _ => False)
    (noExc : ∀ H e s', (L2.CX P w) [] H s₁ (fun _ _ _ => False) e s' → False) :
    codeAny (model P w) callerA (.call (.ref fa) ⟨[.ref a], []⟩) (fun r s' => r = .ok (.ret (.bool true)) ∧ OldK s₁.heap s'.heap ∧ s'.os = s₁.os ∧ AllBare s'.gens) s₁ := by
  have vals := vals_ints hI
  have same := hI.length
  have main : ∀ H : Hp, L2.Only H → SqL K H a (ns.map V.int) → HOk P w H s₁.heap → (∀ b, H b ≠ none → b = a) → (H a ≠ none → K.lookup a = none) →
      codeAny (model P w) callerA (.call (.ref fa) ⟨[.ref a], []⟩) (fun r s' => r = .ok (.ret (.bool true)) ∧ OldK s₁.heap s'.heap ∧ s'.os = s₁.os ∧ AllBare s'.gens) s₁ := by
    intro H only sq okH just out
    have hid : ∀ {b : Addr} {o : Obj}, s₁.heap.get? b = some o → H b = none → (hidT s₁.heap H).get? b = some o := fun g n => hidT_get g n
    have dictOut : ∀ {b : Addr} {o : Obj} {es : Array DictEntry} {ep : Nat}, s₁.heap.get? b = some o → o.data = .dict es ep → H b = none := by
      intro b o es ep g d
      by_cases z : H b = none
      · exact z
      · have eb := just b z
        rw [eb, here] at g
        cases g
        have d2 : Data.seq ws.toArray _ = Data.dict es ep := d
        cases d2
    have keepNs : ∀ {b : Addr} {m : Str → Option Value}, s₁.heap.Ns b m → (hidT s₁.heap H).Ns b m := by
      rintro b m ⟨o, es, ep, g, d, rest⟩
      exact ⟨o, es, ep, hid g (dictOut g d), d, rest⟩
    have inBase : K.In (hidT s₁.heap H) := by
      intro b o g
      refine hid (KX b o g) ?_
      by_cases z : H b = none
      · exact z
      · have eb := just b z
        rw [eb] at g z
        rw [out z] at g
        cases g
    obtain ⟨mc, m1, m2⟩ := noLim
    have md : Mod K mg (hidT s₁.heap H) := ⟨inBase, keepNs nsM, ⟨mb, keepNs nsB, boot⟩, ⟨mc, keepNs m1, m2⟩⟩
    have en : Env0 P w K mg (hidT s₁.heap H) callerA [] s₁ H := ⟨rfl, md, fun b o g => of_hidT g, Nat.le_of_eq (hidT_size _ _), trivial, (fun b hb => nomatch hb), okH, .of_eq noGen⟩
    refine codeAny_mono ((F _ inBase (keepNs nsM)).run callerA [] s₁ H ⟨[.ref a], []⟩ [.ref a] [.ref a] _ _ rfl room en (bd s₁ (.ref a)) (.cons rfl .nil) (prom H only sq)) fun r s' res => ?_
    match r, res with
    | .error err, res => exact (noExc H err s' res).elim
    | .ok .next, res => exact False.elim res
    | .ok .brk, res => exact False.elim res
    | .ok .cont, res => exact False.elim res
    | .ok (.ret u), res =>
      obtain ⟨v, H', sameOs, bareG, un, okH', rel, qv⟩ := res
      have qv2 : v = .bl true := qv
      cases qv2
      have eu : u = Value.bool true := rel
      cases eu
      refine ⟨rfl, OldK.of_keep fun b o g => ?_, sameOs, bareG⟩
      cases z : H b with
      | none => exact un.keep b o g z (fun y => nomatch y) (by simp)
      | some u =>
        rcases only b with y | ⟨ob, xs, y⟩
        · rw [z] at y; cases y
        · obtain ⟨g1, _⟩ := okH b _ y
          obtain ⟨g2, _⟩ := okH' b _ (un.frzs b ob _ y)
          rw [g] at g1
          cases g1
          exact g2
  cases look : K.lookup a with
  | some o =>
    have g := KX a o look
    rw [here] at g
    cases g
    exact main (fun _ => none) (fun _ => .inl rfl) (.inr ⟨_, ws.toArray, _, look, rfl, rfl, rfl, by rw [List.size_toArray, same]; exact few, by simpa using vals⟩) (fun b u z => nomatch z) (fun b z => absurd rfl z) (fun z => absurd rfl z)
  | none =>
    let H0 : Hp := fun b => if b = a then some (.frz { cls := .type "list", data := .seq ws.toArray } (.lst (ns.map V.int))) else none
    have at_a : H0 a = some (.frz { cls := .type "list", data := .seq ws.toArray } (.lst (ns.map V.int))) := if_pos rfl
    have off : ∀ b, b ≠ a → H0 b = none := fun b z => if_neg z
    refine main H0 (fun b => ?_) (.inl (.inr ⟨_, at_a⟩)) (fun b u z => ?_) (fun b z => ?_) fun _ => look
    · by_cases eb : b = a
      · rw [eb]; exact .inr ⟨_, _, at_a⟩
      · exact .inl (off b eb)
    · by_cases eb : b = a
      · rw [eb, at_a] at z
        cases z
        rw [eb]
        exact ⟨here, by rw [List.length_map]; exact few, ws, _, vals, here⟩
      · rw [off b eb] at z; cases z
    · by_cases eb : b = a
      · exact eb
      · exact absurd (off b eb) z
theorem walk_dlG {l : PySem.W.OpenLaw} {n k : Nat} {q : Program} {loose : List Str} {XP : (Str → Option Value) → Heap → Prop} {YP : World → Heap → Prop} {d : DefRec} {x : Str}
    (hn : l.most = some n) (hn2 : n ≤ sizeLine) (hdf : d.params.defaults = []) (hr : Room k callerA) {S : SpD}
    (F : ∀ (w : World) (mg : Str → Option Value) (fa : Addr) (h : Heap), YP w h → h.Ns mainGlobals mg → mg d.name = some (.ref fa) →
      ∃ (K : PySem.W.Frag) (fd : FuncData), K.In h ∧ (∀ (s : Shared) (u : Value), BindsTo s fd ⟨[u], []⟩ [(x, u)]) ∧
        ∀ base : Heap, K.In base → base.Ns mainGlobals mg → FnG l.prog w K mg base (L2.CX l.prog w) k fa fd [x] (spOf K S))
    (law_in : ∀ ns : List Int, ns.length ≤ n → S [.v (.list (ns.map PyData.int))] (fun c _ => c = .v (.bool true)) (fun _ _ => False)) :
    PySem.W.WalkO q loose XP YP l.row.toRowW d [] (fun f vs => PySem.call f vs) := by
  refine Att.attach_call hn hdf fun w s₀ s₁ mg mb fa o pm cd doc a vs ns G Y ho hd hcd hmg hobj hints hlen hg => ?_
  obtain ⟨K, fd, KX, hb, hF⟩ := F w mg fa _ Y G.T.g hmg
  exact law_callG KX G.T.g G.T.b G.T.builtins G.T.nolimit hg hobj hints (Nat.le_trans hlen hn2) hr hF hb (fun H hO hS => sp_law hn2 law_in H a ns hlen hO hS) fun H e s' h => by
    obtain ⟨_, _, _, _, _, _, _, _, _, _, _, _, z⟩ := h
    exact z.elim
end DL

set_option Elab.async false
set_option linter.all false
set_option maxRecDepth 100000
set_option maxHeartbeats 4000000
/-! DL: repr of nested data -/
namespace DL
open PySem PySem.Spec PyProof.Rows L2
/-- what can be shown -/
structure Shw (d : D) : Prop where
  ok : d.showable = true
  nd : d.hasDict = false
  dp : d.depth ≤ 50
  sz : d.shown.length ≤ sizeLine
def rRepr (K : PySem.W.Frag) : List V → Hp → VK → Prop := fun xs H Q => ∃ (x : V) (d : D), xs = [x] ∧ Dp K H x d ∧ Shw d ∧ Q (.str d.shown) H
theorem cr_repr {X : Cx} (gd : X.A.guards = some []) (hu : X.A.units + 64 < cLine) : CallR X (.builtin "repr") (rRepr X.K) := by
  intro pins s σ H xs us Q I r h
  obtain ⟨x, d, rfl, hd, hs, q⟩ := h
  obtain ⟨u, rfl, rv⟩ := vals1 r
  obtain ⟨as, rd⟩ := Dp.reads I d x u hd rv
  have hsz := hs.sz
  have hdp := hs.dp
  cases rd with
  | none => exact PySem.P.repr_of_none ⟨.str _, H, I.tok _, ⟨_, rfl⟩, q⟩
  | bool b => exact PySem.P.repr_of_bool ⟨.str _, H, I.tok _, ⟨_, rfl⟩, q⟩
  | int i t => exact PySem.P.repr_of_int (by have := hs.ok; simpa [PyData.showable] using this) ⟨.str _, H, I.tok _, ⟨_, rfl⟩, q⟩
  | str z t => exact PySem.P.repr_of_str ⟨.str _, H, I.tok _, ⟨_, rfl⟩, q⟩ hsz
  | list h1 h2 h3 h4 => exact repr_of_reads' (Reads.list h1 h2 h3 h4) hs.ok (PyData.noDict_hsm hs.nd) gd (by omega) (fun _ _ e => e) (fun h' v tk keep => ⟨.str _, H, I.kept (t' := tk) (fun b o e => keep b o e), ⟨_, rfl⟩, q⟩) hsz
  | tuple h1 h2 h3 h4 => exact repr_of_reads' (Reads.tuple h1 h2 h3 h4) hs.ok (PyData.noDict_hsm hs.nd) gd (by omega) (fun _ _ e => e) (fun h' v tk keep => ⟨.str _, H, I.kept (t' := tk) (fun b o e => keep b o e), ⟨_, rfl⟩, q⟩) hsz
  | dict h1 h2 h3 h4 h5 => have := hs.nd; cases this
@[reducible] def oRepr : OL := fun ds k => match ds with
  | [d] => Shw d ∧ k (.v (.str d.shown))
  | _ => False
theorem lift_repr {K : PySem.W.Frag} : LiftL K (rRepr K) oRepr := by
  intro O H xs ds QD Q _ hx q fin
  unfold oRepr at q
  split at q
  · cases hx with
    | cons h1 h2 =>
      cases h2
      exact ⟨_, _, rfl, dp_hide h1, q.1, fin _ H (.v _) (Same.refl H) (.str _) q.2⟩
  · exact q.elim
theorem ee_repr {X : Cx} {g : G} {W : WX} {e : Expr} {es : List Expr} {wa : WA} {p pos : Pos} (gd : X.A.guards = some []) (hu : X.A.units + 64 < cLine) (hg : Gl X "repr") (hm : X.mg "repr" = none) (ha : EA X g W (e :: es) wa)
    (he : starEach (e :: es) X.env = (false, eval e X.env) :: starEach es X.env := by rfl) (hpl : (backTo pos (starEach es X.env)).any (·.1) = false := by rfl) :
    EE X g W (.Call (.Name "repr" p) (e :: es) [] pos) (wL oRepr wa) := ee_cb (cr_repr gd hu) lift_repr hg hm rfl ha (by decide) (by decide) he hpl
/-! ### == of texts, whatever their signs -/
def rEqS : R2 := fun x y H Q => ∃ i j : Str, x = .str i ∧ y = .str j ∧ Q (.bl (i == j)) H
def rNeS : R2 := fun x y H Q => ∃ i j : Str, x = .str i ∧ y = .str j ∧ Q (.bl (i != j)) H
theorem op_eqS {X : Cx} : OpR X (compareOp .Eq) rEqS := by
  intro pins s σ H x y v u Q I rx ry h
  obtain ⟨i, j, rfl, rfl, q⟩ := h
  obtain ⟨t, rfl⟩ := rx
  obtain ⟨t', rfl⟩ := ry
  exact PyProof.Rows.eq_str ⟨.bl _, H, I, rfl, q⟩
theorem op_neS {X : Cx} : OpR X (compareOp .NotEq) rNeS := by
  intro pins s σ H x y v u Q I rx ry h
  obtain ⟨i, j, rfl, rfl, q⟩ := h
  obtain ⟨t, rfl⟩ := rx
  obtain ⟨t', rfl⟩ := ry
  exact PyProof.Rows.ne_str ⟨.bl _, H, I, rfl, q⟩
@[reducible] def oEqS : O2 := fun d1 d2 k => match d1, d2 with
  | .str i, .str j => k (.v (.bool (i == j)))
  | _, _ => False
@[reducible] def oNeS : O2 := fun d1 d2 k => match d1, d2 with
  | .str i, .str j => k (.v (.bool (i != j)))
  | _, _ => False
theorem lift_eqS {K : PySem.W.Frag} : Lift2 K rEqS oEqS := by
  intro O H x y dx dy QD Q _ hx hy q fin
  cases hx <;> try exact q.elim
  cases hy <;> try exact q.elim
  exact ⟨_, _, rfl, rfl, fin _ H (.v _) (Same.refl H) (.bl _) q⟩
theorem lift_neS {K : PySem.W.Frag} : Lift2 K rNeS oNeS := by
  intro O H x y dx dy QD Q _ hx hy q fin
  cases hx <;> try exact q.elim
  cases hy <;> try exact q.elim
  exact ⟨_, _, rfl, rfl, fin _ H (.v _) (Same.refl H) (.bl _) q⟩
section
variable {X : Cx} {g : G} {W : WX} {a b : Expr} {wa wb : WE} {pos : Pos}
theorem ee_eqS (ha : EE X g W a wa) (hb : EE X g W b wb) : EE X g W (.Compare a [.Eq] [b] pos) (wB oEqS wa wb) := ee_cmp op_eqS lift_eqS ha hb (nomark _)
theorem ee_neS (ha : EE X g W a wa) (hb : EE X g W b wb) : EE X g W (.Compare a [.NotEq] [b] pos) (wB oNeS wa wb) := ee_cmp op_neS lift_neS ha hb (nomark _)
theorem et_eqS (ha : EE X g W a wa) (hb : EE X g W b wb) : ET X g W (.Compare a [.Eq] [b] pos) (wTst (wB oEqS wa wb)) := et_cmp op_eqS lift_eqS ha hb (nomark _)
theorem et_neS (ha : EE X g W a wa) (hb : EE X g W b wb) : ET X g W (.Compare a [.NotEq] [b] pos) (wTst (wB oNeS wa wb)) := et_cmp op_neS lift_neS ha hb (nomark _)
end
theorem str_ne_self {x : Str} : (x != x) = false := by simp
theorem str_eq_self {x : Str} : (x == x) = true := by simp
/-! ### how long what is shown may be -/
theorem join_le {m : Nat} : ∀ {ts : List Str}, (∀ t ∈ ts, t.length ≤ m) → (Str.join ", " ts).length ≤ ts.length * (m + 2)
  | [], _ => Nat.zero_le _
  | [x], h => by
    have := h x (.head _)
    show x.length ≤ 1 * (m + 2)
    omega
  | x :: y :: r, h => by
    have ih := join_le (ts := y :: r) fun t ht => h t (.tail _ ht)
    have hx := h x (.head _)
    have e : (Str.join ", " (x :: y :: r)).length = x.length + 2 + (Str.join ", " (y :: r)).length := by
      show (x ++ ", " ++ Str.join ", " (y :: r)).length = _
      rw [strLen_append, strLen_append]
      rfl
    rw [e]
    have e2 : (x :: y :: r).length * (m + 2) = (y :: r).length * (m + 2) + (m + 2) := by rw [List.length_cons, Nat.succ_mul]
    omega
theorem tuple_le {m : Nat} {ts : List Str} (h : ∀ t ∈ ts, t.length ≤ m) : (tupleText ts).length ≤ ts.length * (m + 2) + 3 := by
  have := join_le h
  unfold tupleText
  rw [strLen_append, strLen_append]
  have e1 : (("(" : String) : Str).length = 1 := rfl
  have e2 : ((if (ts.length == 1) = true then ",)" else ")" : String) : Str).length ≤ 2 := by split <;> decide
  omega
theorem textFrom_le {m : Nat} : ∀ {ts : List Str} {k : Nat} {acc : Str}, (∀ t ∈ ts, t.length ≤ m) → (textFrom k acc ts).length ≤ acc.length + ts.length * (m + 2)
  | [], _, _, _ => Nat.le_add_right _ _
  | t :: ts, k, acc, h => by
    have ih := textFrom_le (ts := ts) (k := k + 1) (acc := acc ++ (if k > 0 then ", " else "" : String) ++ t) fun t ht => h t (.tail _ ht)
    have ht := h t (.head _)
    have e : (acc ++ (if k > 0 then ", " else "" : String) ++ t).length ≤ acc.length + 2 + t.length := by
      rw [strLen_append, strLen_append]
      have : ((if k > 0 then ", " else "" : String) : Str).length ≤ 2 := by split <;> decide
      omega
    show (textFrom (k + 1) (acc ++ (if k > 0 then ", " else "" : String) ++ t) ts).length ≤ _
    rw [List.length_cons, Nat.succ_mul]
    omega
theorem list_le {m : Nat} {ts : List Str} (h : ∀ t ∈ ts, t.length ≤ m) : (listText ts).length ≤ ts.length * (m + 2) + 2 := by
  unfold listText
  have := textFrom_le (k := 0) (acc := ("[" : String)) h
  rw [strLen_append]
  have e1 : (("[" : String) : Str).length = 1 := rfl
  have e2 : (("]" : String) : Str).length = 1 := rfl
  omega
theorem shownAll_eq : ∀ {ds : List D}, PyData.shownAll ds = ds.map PyData.shown
  | [] => by unfold PyData.shownAll; rfl
  | d :: ds => by unfold PyData.shownAll; rw [shownAll_eq]; rfl
theorem showableAll_eq : ∀ {ds : List D}, PyData.showableAll ds = ds.all PyData.showable
  | [] => by unfold PyData.showableAll; rfl
  | d :: ds => by unfold PyData.showableAll; rw [showableAll_eq]; rfl
theorem hasDictAll_eq : ∀ {ds : List D}, PyData.hasDictAll ds = ds.any PyData.hasDict
  | [] => by unfold PyData.hasDictAll; rfl
  | d :: ds => by unfold PyData.hasDictAll; rw [hasDictAll_eq]; rfl
theorem depthAll_le {n : Nat} : ∀ {ds : List D}, (∀ d ∈ ds, d.depth ≤ n) → PyData.depthAll ds ≤ n
  | [], _ => Nat.zero_le _
  | d :: ds, h => Nat.max_le.mpr ⟨h d (.head _), depthAll_le fun e he => h e (.tail _ he)⟩
theorem depth_tuple {n : Nat} {ds : List D} (h : ∀ d ∈ ds, d.depth ≤ n) : (PyData.tuple ds).depth ≤ n + 1 := Nat.succ_le_succ (depthAll_le h)
theorem depth_list {n : Nat} {ds : List D} (h : ∀ d ∈ ds, d.depth ≤ n) : (PyData.list ds).depth ≤ n + 1 := Nat.succ_le_succ (depthAll_le h)
/-- shown in n levels and m signs at the most -/
structure Shn (n m : Nat) (d : D) : Prop where
  ok : d.showable = true
  nd : d.hasDict = false
  dp : d.depth ≤ n
  sz : d.shown.length ≤ m
theorem Shn.shw {n m : Nat} {d : D} (h : Shn n m d) (hn : n ≤ 50) (hm : m ≤ 16777216) : Shw d := ⟨h.ok, h.nd, Nat.le_trans h.dp hn, by rw [sizeLine_eq]; exact Nat.le_trans h.sz hm⟩
theorem Shn.up {n m n' m' : Nat} {d : D} (h : Shn n m d) (hn : n ≤ n') (hm : m ≤ m') : Shn n' m' d := ⟨h.ok, h.nd, Nat.le_trans h.dp hn, Nat.le_trans h.sz hm⟩
theorem Shn.none {n m : Nat} (h : 4 ≤ m) : Shn n m .none := ⟨rfl, rfl, Nat.zero_le _, by unfold PyData.shown; exact h⟩
theorem Shn.int {n k : Nat} {i : Int} (hk : 0 < k) (h : i.natAbs < 10 ^ k) (h9 : k ≤ 500) : Shn n (k + 1) (.int i) := ⟨by
    unfold PyData.showable
    refine decide_eq_true ?_
    have : i.natAbs < 2 ^ 1920 := Nat.lt_of_lt_of_le h (Nat.le_trans (Nat.pow_le_pow_right (by decide) h9) (by decide +kernel))
    exact PySem.Flt.log2_lt_of (by decide) this, rfl, Nat.zero_le _, by unfold PyData.shown; rw [PySem.ofString_length]; exact int_text_length_le10 hk h⟩
theorem Shn.str {n : Nat} {x : Str} (h : ∀ c ∈ x.cps.toList, c < 16 ^ 8) : Shn n (10 * x.length + 2) (.str x) := ⟨rfl, rfl, Nat.zero_le _, by unfold PyData.shown; exact StrLaws.reprText_len x h⟩
theorem Shn.tuple {n m : Nat} {ds : List D} (h : ∀ d ∈ ds, Shn n m d) : Shn (n + 1) (ds.length * (m + 2) + 3) (.tuple ds) := by
  refine ⟨?_, ?_, ?_, ?_⟩
  · unfold PyData.showable; rw [showableAll_eq]; exact List.all_eq_true.mpr fun d hd => (h d hd).ok
  · unfold PyData.hasDict; rw [hasDictAll_eq]; exact List.any_eq_false.mpr fun d hd => by rw [(h d hd).nd]; exact Bool.false_ne_true
  · exact depth_tuple fun d hd => (h d hd).dp
  · unfold PyData.shown
    rw [shownAll_eq]
    have := tuple_le (m := m) (ts := ds.map PyData.shown) fun t ht => by
      obtain ⟨d, hd, rfl⟩ := List.mem_map.mp ht
      exact (h d hd).sz
    rwa [List.length_map] at this
theorem Shn.list {n m : Nat} {ds : List D} (h : ∀ d ∈ ds, Shn n m d) : Shn (n + 1) (ds.length * (m + 2) + 2) (.list ds) := by
  refine ⟨?_, ?_, ?_, ?_⟩
  · unfold PyData.showable; rw [showableAll_eq]; exact List.all_eq_true.mpr fun d hd => (h d hd).ok
  · unfold PyData.hasDict; rw [hasDictAll_eq]; exact List.any_eq_false.mpr fun d hd => by rw [(h d hd).nd]; exact Bool.false_ne_true
  · exact depth_list fun d hd => (h d hd).dp
  · unfold PyData.shown
    rw [shownAll_eq]
    have := list_le (m := m) (ts := ds.map PyData.shown) fun t ht => by
      obtain ⟨d, hd, rfl⟩ := List.mem_map.mp ht
      exact (h d hd).sz
    rwa [List.length_map] at this
end DL

set_option Elab.async false
set_option linter.all false
set_option maxRecDepth 100000
set_option maxHeartbeats 4000000
/-! DL: sorted of tuples that begin with unlike tuples of whole numbers -/
namespace DL
open PySem PySem.Spec PyProof.Rows L2
/-- v is a tuple that begins with a tuple of these numbers -/
def FstAt (h : Heap) (v : Value) (ns : List Int) : Prop :=
  ∃ (t f : Addr) (xs its : Array Value), v = .ref t ∧ h.IsTuple t xs ∧ xs[0]? = some (.ref f) ∧ h.IsTuple f its ∧ IntsAre its.toList ns
theorem isTuple_keeps {h h' : Heap} {t : Addr} {xs : Array Value} (x : h.IsTuple t xs) (k : ∀ b o, h.get? b = some o → o.cls = .type "tuple" → h'.get? b = some o) : h'.IsTuple t xs := by
  obtain ⟨o, e, c, n, d⟩ := x
  exact ⟨o, k _ _ e c, c, n, d⟩
theorem FstAt.keeps {h h' : Heap} {v : Value} {ns : List Int} (x : FstAt h v ns) (k : ∀ b o, h.get? b = some o → o.cls = .type "tuple" → h'.get? b = some o) : FstAt h' v ns := by
  obtain ⟨t, f, xs, its, e, h1, h2, h3, h4⟩ := x
  exact ⟨t, f, xs, its, e, isTuple_keeps h1 k, h2, isTuple_keeps h3 k, h4⟩
section
variable {prog : Program} {w : World} {A : Around} {s : Shared}
theorem idx_zip {xs ys : Array Value} {f g : Value} (h1 : xs[0]? = some f) (h2 : ys[0]? = some g) : ∃ r, xs.toList.zip ys.toList = (f, g) :: r := by
  cases e1 : xs.toList with
  | nil =>
    have : xs = #[] := by cases xs; cases e1; rfl
    subst this
    cases h1
  | cons a l =>
    cases e2 : ys.toList with
    | nil =>
      have : ys = #[] := by cases ys; cases e2; rfl
      subst this
      cases h2
    | cons b m =>
      have ea : a = f := by
        have : xs.toList[0]? = some f := by rw [Array.getElem?_toList]; exact h1
        rw [e1] at this
        exact Option.some.inj this
      have eb : b = g := by
        have : ys.toList[0]? = some g := by rw [Array.getElem?_toList]; exact h2
        rw [e2] at this
        exact Option.some.inj this
      rw [ea, eb]
      exact ⟨_, rfl⟩
theorem ints_inj : ∀ {vs : List Value} {ns ms : List Int}, IntsAre vs ns → IntsAre vs ms → ns = ms
  | [], _, _, h, h' => by cases h; cases h'; rfl
  | _ :: _, _, _, h, h' => by
    cases h with
    | cons n t a => cases h' with
      | cons m u b => rw [ints_inj a b]
theorem ints_reads {h : Heap} : ∀ {vs : List Value} {ns : List Int}, IntsAre vs ns → ReadsAll h vs (ns.map PyData.int) []
  | [], _, i => by cases i; exact .nil
  | _ :: _, _, i => by
    cases i with
    | cons n t a => exact .cons (as := []) (.int n t) (ints_reads a)
theorem nob_ints {ns : List Int} : nob (.tuple (ns.map PyData.int)) = true := by
  show nobAll _ = true
  induction ns with
  | nil => rfl
  | cons n ns ih => exact ih
theorem ints_tup_inj {ns ms : List Int} (h : PyData.tuple (ns.map PyData.int) = .tuple (ms.map PyData.int)) : ns = ms := by
  have e := PyData.tuple.inj h
  exact List.map_inj_right (fun _ _ z => PyData.int.inj z) |>.mp e
theorem lay_tup {ns : List Int} : Lay 1 (.tuple (ns.map PyData.int)) := Lay.tuple (k := 0) fun d hd => by
  obtain ⟨x, _, rfl⟩ := List.mem_map.mp hd
  exact Lay.int _
theorem kat_self {fin : Bool} {Q : Bool → Shared → Prop} (h : Q fin s) : ∀ (l : List Value) (i : Nat), PySem.W.KatLex prog w A false fin Q (l.zip l) i s
  | [], _ => PySem.W.kat_nil h
  | v :: l, i => PySem.W.kat_cons (SeqAt.EqAt.same v prog w _ _ (PySem.W.kat_go (fun _ => PySem.W.kat_yes (kat_self h l (i + 1))) fun z => nomatch z))
theorem fst_cmp {vs : List Value} {k : Value → List Int} (hu : A.units + 64 < cLine) (hv : ∀ v ∈ vs, FstAt s.heap v (k v)) (un : ∀ v ∈ vs, ∀ u ∈ vs, v ≠ u → k v ≠ k u) :
    SrtO.Cmp prog w A s (tuples' false) (fun p => p.1 ∈ vs) (SrtO.lt2 fun v u => HT.lexLt (k v) (k u)) := by
  intro p q hm hm'
  show wpAny (model prog w) A (keyLt' (tuples' false) p.1 q.1) (fun r s' => s' = s ∧ r = HT.lexLt (k p.1) (k q.1)) (fun _ _ => False) s
  by_cases e : p.1 = q.1
  · rw [e]
    obtain ⟨t, f, xs, its, e1, ⟨o, g1, g2, n, g3⟩, h2, h3, h4⟩ := hv _ hm'
    rw [e1]
    refine PySem.W.kat_lt g1 g3 g1 g3 (kat_self ?_ _ _)
    have sf : HT.lexLt (k q.1) (k q.1) = false := SrtO.Swo.refl (NtL.swo_lexL (α := List Int) id) (k q.1)
    rw [← e1, sf]
    exact ⟨rfl, decide_eq_false (Nat.lt_irrefl _)⟩
  · have ne := un _ hm _ hm' e
    obtain ⟨t, f, xs, its, e1, ⟨o, g1, g2, n, g3⟩, h2, h3, h4⟩ := hv _ hm
    obtain ⟨t', f', xs', its', e1', ⟨o', g1', g2', n', g3'⟩, h2', h3', h4'⟩ := hv _ hm'
    generalize k p.1 = ns at *
    generalize k q.1 = ms at *
    rw [e1, e1']
    obtain ⟨r, er⟩ := idx_zip h2 h2'
    have nf : f ≠ f' := fun z => by
      subst z
      obtain ⟨o1, a1, a2, n1, a3⟩ := h3
      obtain ⟨o2, b1, b2, n2, b3⟩ := h3'
      rw [a1] at b1
      cases b1
      rw [a3] at b3
      cases b3
      exact ne (ints_inj h4 h4')
    refine PySem.W.kat_lt g1 g3 g1' g3' ?_
    rw [er]
    obtain ⟨o1, a1, a2, n1, a3⟩ := id h3
    obtain ⟨o2, b1, b2, n2, b3⟩ := id h3'
    have no : PyData.eqv (.tuple (ns.map PyData.int)) (.tuple (ms.map PyData.int)) = false := eqv_no nob_ints nob_ints fun z => ne (ints_tup_inj z)
    have rc : SeqAt.RcAt A s (.ref f) (.ref f') false := fun pr w E Q q => by
      have q' : Q (.bool (PyData.eqv (.tuple (ns.map PyData.int)) (.tuple (ms.map PyData.int)))) s := by rw [no]; exact q
      exact SeqAt.compareEq_shaped (prog := pr) (w := w) (Reads.tuple a1 a2 a3 (ints_reads h4)) (Reads.tuple b1 b2 b3 (ints_reads h4')) (lay_tup (ns := ns)).shaped (lay_tup (ns := ms)).shaped hu q'
    refine PySem.W.kat_cons (SeqAt.EqAt.of_refs nf rc prog w _ _ ?_)
    exact PySem.W.kat_no (PySem.W.kat_one _ _ (HT.lt_tupInts h3 h3' h4 h4' (by omega) ⟨rfl, rfl⟩))
theorem fst_tups {h : Heap} {k : Value → List Int} : ∀ {vs : List Value}, (∀ v ∈ vs, FstAt h v (k v)) → ∃ fs, PySem.W.KatTups h vs fs ∧ fs.length = vs.length ∧ ∀ f ∈ fs, ∃ a its, f = Value.ref a ∧ h.IsTuple a its
  | [], _ => ⟨[], trivial, rfl, fun f hf => nomatch hf⟩
  | v :: vs, hv => by
    obtain ⟨fs, a1, a2, a3⟩ := fst_tups (vs := vs) fun u hu => hv u (.tail _ hu)
    obtain ⟨t, f, xs, its, e1, ⟨o, g1, g2, n, g3⟩, h2, h3, h4⟩ := hv v (.head _)
    refine ⟨.ref f :: fs, ?_, by rw [List.length_cons, List.length_cons, a2], fun q hq => ?_⟩
    · rw [e1]; exact ⟨⟨t, o, xs, n, rfl, g1, g2, g3, h2⟩, a1⟩
    · rcases List.mem_cons.mp hq with e | hq
      · exact ⟨f, its, e, h3⟩
      · exact a3 q hq
theorem fst_sortable {a : Addr} {vs : List Value} {k : Value → List Int} (h2 : 2 ≤ vs.length) (hu : A.units + 64 < cLine) (hv : ∀ v ∈ vs, FstAt s.heap v (k v)) (un : ∀ v ∈ vs, ∀ u ∈ vs, v ≠ u → k v ≠ k u) (ha : ∀ o, s.heap.get? a = some o → o.cls ≠ .type "tuple") :
    SrtO.SortableO prog w A s a vs fun v u => HT.lexLt (k v) (k u) := by
  intro h' keep
  have kt : ∀ b o, s.heap.get? b = some o → o.cls = .type "tuple" → h'.get? b = some o := fun b o e c => keep b o (fun z => ha o (z ▸ e) c) e
  have hv' : ∀ v ∈ vs, FstAt h' v (k v) := fun v hm => (hv v hm).keeps kt
  obtain ⟨fs, t1, t2, t3⟩ := fst_tups hv'
  refine ⟨tuples' false, fun Q E hq => ?_, fst_cmp (s := { s with heap := h' }) hu hv' un⟩
  exact PySem.W.kat_kind (s := { s with heap := h' }) (T := .type "tuple") t1 (by omega) (fun v hm => by
    obtain ⟨b, its, e, o, g1, g2, _⟩ := t3 v hm
    rw [e, ← g2]
    exact (PySem.W.Looks.ld g1).andThen .now) (by rfl) hq
end
/-- sorted(xs), xs tuples that begin with unlike tuples of whole numbers -/
def rSortF (K : PySem.W.Frag) : List V → Hp → VK → Prop := fun vs H Q => ∃ (a : Addr) (zs : List (V × List Int)), vs = [V.ref a] ∧ SqL K H a (zs.map (·.1)) ∧ (∀ z ∈ zs, ∃ t f ys, z.1 = V.ref t ∧ SqT K H t (.ref f :: ys) ∧ SqT K H f (z.2.map V.int)) ∧
  (zs.map (·.2)).Nodup ∧ ∀ (zs' : List (V × List Int)) (p : Addr), zs'.Perm zs → zs'.Pairwise (fun x y => HT.lexLt x.2 y.2 = true) → H p = none → Q (.ref p) (upd H p (.lst (zs'.map (·.1))))
theorem lexLt_tri : ∀ {xs ys : List Int}, xs ≠ ys → HT.lexLt ys xs = false → HT.lexLt xs ys = true
  | [], [], h, _ => absurd rfl h
  | [], _ :: _, _, _ => rfl
  | _ :: _, [], _, h => by cases h
  | x :: xs, y :: ys, h, h' => by
    rw [HT.lexLt_cons] at h' ⊢
    split at h'
    · rename_i e
      subst e
      rw [if_pos rfl]
      exact lexLt_tri (fun z => h (by rw [z])) h'
    · rename_i e
      have := of_decide_eq_false h'
      rw [if_neg fun z => e z.symm]
      exact decide_eq_true (by omega)
theorem perm_lift {α β : Type} {f : α → β} {ys ms : List β} (p : ys.Perm ms) : ∀ zs : List α, zs.map f = ms → ∃ zs' : List α, zs'.Perm zs ∧ zs'.map f = ys := by
  induction p with
  | nil => exact fun zs e => ⟨zs, List.Perm.refl _, e⟩
  | cons x _ ih =>
    intro zs e
    cases zs with
    | nil => cases e
    | cons z zs =>
      obtain ⟨e1, e2⟩ := List.cons.inj e
      obtain ⟨zs', q1, q2⟩ := ih zs e2
      exact ⟨z :: zs', q1.cons z, by rw [List.map_cons, e1, q2]⟩
  | swap x y l =>
    intro zs e
    match zs, e with
    | z1 :: z2 :: zs, e =>
      obtain ⟨e1, e2⟩ := List.cons.inj e
      obtain ⟨e2, e3⟩ := List.cons.inj e2
      exact ⟨z2 :: z1 :: zs, List.Perm.swap _ _ _, by rw [List.map_cons, List.map_cons, e1, e2, e3]⟩
  | trans _ _ ih1 ih2 =>
    intro zs e
    obtain ⟨z1, p1, e1⟩ := ih2 zs e
    obtain ⟨z2, p2, e2⟩ := ih1 z1 e1
    exact ⟨z2, p2.trans p1, e2⟩
theorem nodup_inj {α β : Type} {f : α → β} : ∀ {l : List α}, (l.map f).Nodup → ∀ x ∈ l, ∀ y ∈ l, f x = f y → x = y
  | z :: l, h, x, hx, y, hy, e => by
    obtain ⟨h1, h2⟩ := List.nodup_cons.mp h
    rcases List.mem_cons.mp hx with a | a <;> rcases List.mem_cons.mp hy with b | b
    · rw [a, b]
    · subst a; exact absurd (List.mem_map.mpr ⟨y, b, e.symm⟩) h1
    · subst b; exact absurd (List.mem_map.mpr ⟨x, a, e⟩) h1
    · exact nodup_inj h2 x a y b e
theorem vals_int_are : ∀ {ns : List Int} {us : List Value}, Vals (ns.map V.int) us → IntsAre us ns
  | [], _, h => by cases h; exact .nil
  | n :: ns, _, h => by
    cases h with
    | cons r rr =>
      obtain ⟨t, rfl⟩ := r
      exact .cons n t (vals_int_are rr)
open Classical in
theorem cr_sortF {X : Cx} (hu : X.A.units + 70 < cLine) : CallR X (.builtin "sorted") (rSortF X.K) := by
  intro pins s σ H vs us Q I r h
  obtain ⟨a, zs, rfl, hs, hx, nd, q⟩ := h
  obtain ⟨its, rv, hl, hz⟩ := I.list hs
  obtain ⟨u, rfl, ru⟩ := vals1 r
  obtain rfl : u = Value.ref a := ru
  obtain ⟨e1, e2⟩ := refs_back rv fun x m => by
    obtain ⟨z, hzm, rfl⟩ := List.mem_map.mp m
    obtain ⟨t, f, ys, e, _⟩ := hx z hzm
    exact ⟨t, e⟩
  let k : V → List Int := fun x => if h : ∃ z ∈ zs, z.1 = x then h.choose.2 else []
  have hk : ∀ z ∈ zs, k z.1 = z.2 := fun z hzm => by
    have ex : ∃ y ∈ zs, y.1 = z.1 := ⟨z, hzm, rfl⟩
    show (if h : ∃ y ∈ zs, y.1 = z.1 then h.choose.2 else []) = z.2
    rw [dif_pos ex]
    obtain ⟨m, e⟩ := ex.choose_spec
    generalize ex.choose = y at m e ⊢
    obtain ⟨t, f, ys, a1, a2, a3⟩ := hx z hzm
    obtain ⟨t', f', ys', b1, b2, b3⟩ := hx y m
    rw [a1, b1] at e
    cases e
    cases I.tuple_inj a2 b2
    have e3 := I.tuple_inj a3 b3
    exact (List.map_inj_right (fun _ _ w => V.int.inj w)).mp e3.symm
  have mem : ∀ v ∈ its, ∃ z ∈ zs, backV v = z.1 := fun v hv => by
    have : backV v ∈ zs.map (·.1) := by rw [e1]; exact List.mem_map.mpr ⟨_, hv, rfl⟩
    obtain ⟨z, m, e⟩ := List.mem_map.mp this
    exact ⟨z, m, e.symm⟩
  have fst : ∀ v ∈ its, FstAt s.heap v (k (backV v)) := fun v hv => by
    obtain ⟨z, m, ez⟩ := mem v hv
    rw [ez, hk z m]
    obtain ⟨t, rfl⟩ := e2 v hv
    obtain ⟨t', f, ys, e, h1, h2⟩ := hx _ m
    rw [← ez] at e
    cases e
    obtain ⟨i1, r1, p1, _⟩ := I.tuple h1
    obtain ⟨i2, r2, p2, _⟩ := I.tuple h2
    cases r1 with
    | @cons x u xs us ra rb =>
      cases (show u = Value.ref f from ra)
      exact ⟨t, f, _, _, rfl, p1, rfl, p2, vals_int_are r2⟩
  have un' : ∀ v ∈ its, ∀ u ∈ its, v ≠ u → k (backV v) ≠ k (backV u) := fun v hv u hu' ne e => by
    obtain ⟨z, m, ez⟩ := mem v hv
    obtain ⟨y, m', ey⟩ := mem u hu'
    obtain ⟨t, rfl⟩ := e2 v hv
    obtain ⟨t', rfl⟩ := e2 u hu'
    rw [ez, ey, hk z m, hk y m'] at e
    have := nodup_inj nd z m y m' e
    subst this
    rw [← ez] at ey
    cases ey
    exact ne rfl
  refine SrtO.sorted_ord (NtL.swo_lexL fun v => k (backV v)) hl.isList (by rw [← rv.length]; exact hz) (fun h2 h₁ a' ha kk => ?_) fun out hs' hb => ?_
  · refine fst_sortable (s := { s with heap := h₁ }) h2 (by show X.A.units + 1 + 1 + 64 < cLine; omega) (fun v hm => (fst v hm).keeps fun b o e _ => (kk b o e).2) un' fun o e => ?_
    have e' : some o = some (seqObj "list" its.toArray 0) := e.symm.trans ha
    cases e'
    intro c
    exact absurd (Value.type.inj c) (by decide)
  · have h3 : ∀ u ∈ out, ∃ a, u = Value.ref a := fun u hu => e2 u (hb.perm.mem_iff.mp hu)
    have pm : (out.map backV).Perm (zs.map (·.1)) := by rw [e1]; exact hb.perm.map backV
    obtain ⟨zs', p1, p2⟩ := perm_lift pm zs rfl
    have pw : (zs'.map (·.1)).Pairwise fun x y => HT.lexLt (k y) (k x) = false := by
      rw [p2]
      exact List.pairwise_map.mpr hs'
    have pw2 : zs'.Pairwise fun x y => HT.lexLt x.2 y.2 = true := by
      have nd' : (zs'.map (·.2)).Nodup := (p1.map (·.2)).nodup_iff.mpr nd
      have c := List.pairwise_map.mp pw
      have d := List.pairwise_map.mp nd'
      have inz : ∀ z ∈ zs', z ∈ zs := fun z m => p1.mem_iff.mp m
      refine List.Pairwise.imp_of_mem (fun {x y} hx' hy' h => ?_) (c.and d)
      have h1 := h.1
      rw [hk x (inz x hx'), hk y (inz y hy')] at h1
      exact lexLt_tri h.2 h1
    obtain ⟨n, hn⟩ := PyProof.Rows.sortedAll_at s.heap its out.toArray
    have e9 : zs'.map (·.1) = out.map backV := p2
    refine ⟨.ref (s.heap.objs.size + 1), upd H (s.heap.objs.size + 1) (.lst (zs'.map (·.1))), I.laid (t' := s.toks) (fun b o e => PyProof.Rows.sortedAll_old e) (Nat.le_succ _) ⟨?_, out, n, by rw [e9]; exact vals_back h3, hn⟩, rfl, q _ _ p1 pw2 (I.hok.fresh (Nat.le_succ _))⟩
    have : (zs'.map (·.1)).length = (zs.map (·.1)).length := by rw [List.length_map, List.length_map, p1.length_eq]
    rw [this]
    exact hz
/-! ### over data -/
def intsT : D → Option (List Int)
  | .tuple ds => intsOf ds
  | _ => none
/-- the numbers of the tuple that a tuple begins with -/
def fstI : D → List Int
  | .tuple (d :: _) => (intsT d).getD []
  | _ => []
def FstOk : D → Prop
  | .tuple (d :: _) => (intsT d).isSome = true
  | _ => False
@[reducible] def oSortF : OL := fun ds k => match ds with
  | [.list es] => (∀ e ∈ es, FstOk e) ∧ (es.map fstI).Nodup ∧ ∀ es' : List D, es'.Perm es → es'.Pairwise (fun x y => HT.lexLt (fstI x) (fstI y) = true) → k (.own 0 (.lst es'))
  | _ => False
theorem dp_pairs {K : PySem.W.Frag} {B : Hp} : ∀ {xs : List V} {ds : List D}, DpAll K B xs ds → ∃ ws : List (V × D), ws.map (·.1) = xs ∧ ws.map (·.2) = ds ∧ ∀ w ∈ ws, Dp K B w.1 w.2
  | _, [], h => by cases h; exact ⟨[], rfl, rfl, fun w h => nomatch h⟩
  | _, d :: ds, h => by
    cases h with
    | @cons v vs _ _ h1 h2 =>
      obtain ⟨ws, a, b, c⟩ := dp_pairs h2
      refine ⟨(v, d) :: ws, by rw [List.map_cons, a], by rw [List.map_cons, b], fun w hw => ?_⟩
      rcases List.mem_cons.mp hw with e | hw
      · rw [e]; exact h1
      · exact c w hw
theorem dp_of_pairs {K : PySem.W.Frag} {B : Hp} : ∀ {ws : List (V × D)}, (∀ w ∈ ws, Dp K B w.1 w.2) → DpAll K B (ws.map (·.1)) (ws.map (·.2))
  | [], _ => .nil
  | w :: ws, h => .cons (h w (.head _)) (dp_of_pairs fun u hu => h u (.tail _ hu))
theorem fst_at {K : PySem.W.Frag} {B : Hp} {v : V} {d : D} (h : Dp K B v d) (f : FstOk d) : ∃ t f' ys, v = V.ref t ∧ SqT K B t (.ref f' :: ys) ∧ SqT K B f' ((fstI d).map V.int) := by
  cases h with
  | tup a1 a2 =>
    cases a2 with
    | nil => exact f.elim
    | cons b1 b2 =>
      cases b1 with
      | tup c1 c2 =>
        rename_i ds' _ _ _ us ds2
        have f' : (intsOf ds2).isSome = true := f
        cases e : intsOf ds2 with
        | none => rw [e] at f'; cases f'
        | some ns =>
          refine ⟨_, _, _, rfl, a1, ?_⟩
          show SqT K B _ (((intsOf ds2).getD []).map V.int)
          rw [e]
          have := intsOf_dp c2 e
          rw [this] at c1
          exact c1
      | _ => cases f
  | _ => exact f.elim
theorem lift_sortF {K : PySem.W.Frag} : LiftL K (rSortF K) oSortF := by
  intro O H xs ds QD Q _ hx q fin
  unfold oSortF at q
  split at q
  · rename_i es
    cases hx with
    | cons h1 h2 =>
      cases h2
      cases h1 with
      | lst a1 a2 =>
        obtain ⟨f, nd, q⟩ := q
        obtain ⟨ws, w1, w2, w3⟩ := dp_pairs a2
        subst w1
        subst w2
        refine ⟨_, ws.map fun w => (w.1, fstI w.2), rfl, ?_, fun z hz => ?_, ?_, fun zs' p pm pw n => ?_⟩
        · rw [List.map_map]; exact Same.seq same_hide a1
        · obtain ⟨w, hw, rfl⟩ := List.mem_map.mp hz
          obtain ⟨t, f', ys, e, b1, b2⟩ := fst_at (w3 w hw) (f w.2 (List.mem_map.mpr ⟨w, hw, rfl⟩))
          exact ⟨t, f', ys, e, seqT_same same_hide b1, seqT_same same_hide b2⟩
        · rw [List.map_map] at nd ⊢
          exact nd
        · obtain ⟨ws', p1, p2⟩ := perm_lift pm ws rfl
          have dp : DpAll K (hide H O) (ws'.map (·.1)) (ws'.map (·.2)) := dp_of_pairs fun w hw => w3 w (p1.mem_iff.mp hw)
          have e1 : zs'.map (·.1) = ws'.map (·.1) := by rw [← p2, List.map_map]; rfl
          rw [e1]
          refine fin _ _ (.own 0 (.lst (ws'.map (·.2)))) (same_new n) (new_lst n dp) (q _ (p1.map _) ?_)
          rw [← p2] at pw
          exact List.pairwise_map.mpr (List.pairwise_map.mp pw)
  · exact q.elim
section
variable {X : Cx} {g : G} {W : WX} {e : Expr} {es : List Expr} {wa : WA} {p pos : Pos}
theorem ee_sortF (hu : X.A.units + 70 < cLine) (hg : Gl X "sorted") (hm : X.mg "sorted" = none) (ha : EA X g W (e :: es) wa) (he : starEach (e :: es) X.env = (false, eval e X.env) :: starEach es X.env := by rfl) (hpl : (backTo pos (starEach es X.env)).any (·.1) = false := by rfl) :
    EE X g W (.Call (.Name "sorted" p) (e :: es) [] pos) (wL oSortF wa) := ee_cb (cr_sortF hu) lift_sortF hg hm (by decide +kernel) ha (he := he) (hpl := hpl)
theorem units70 {k : Nat} (hr : Room k X.A) : X.A.units + 70 < cLine := by have := hr.un; omega
end
end DL

set_option Elab.async false
set_option linter.all false
set_option maxRecDepth 100000
set_option maxHeartbeats 4000000
/-! DLDict: own dicts of slots: {}, d.get(k, x), d[k], k in d, d[k] = v, sorted(d). -/
namespace DL
open PySem PySem.Spec PyProof.Rows L2
@[reducible] def keyD : D → Option Key
  | .int i => some (.inl i)
  | .str s => some (.inr s)
  | _ => none
def dGet (kvs : List (Key × D)) (k : Key) : Option D := (kvs.find? fun kv => decide (kv.1 = k)).map (·.2)
def dPut (kvs : List (Key × D)) (k : Key) (d : D) : List (Key × D) :=
  if (kvs.any fun kv => decide (kv.1 = k)) = true then kvs.map (fun kv => if kv.1 = k then (kv.1, d) else kv) else kvs ++ [(k, d)]
section
variable {K : PySem.W.Frag} {B : Hp}
theorem dget_nil {k : Key} : dGet [] k = none := rfl
theorem dget_pos {p : Key × D} {r : List (Key × D)} {k : Key} (e : p.1 = k) : dGet (p :: r) k = some p.2 := by simp [dGet, List.find?_cons, e]
theorem dget_neg {p : Key × D} {r : List (Key × D)} {k : Key} (e : ¬ p.1 = k) : dGet (p :: r) k = dGet r k := by simp [dGet, List.find?_cons, e]
theorem dget_any (k : Key) : ∀ kvs : List (Key × D), (kvs.any fun kv => decide (kv.1 = k)) = (dGet kvs k).isSome
  | [] => rfl
  | p :: r => by
    rw [List.any_cons]
    by_cases e : p.1 = k
    · simp only [dget_pos e, decide_eq_true e, Bool.true_or, Option.isSome_some]
    · rw [dget_neg e, decide_eq_false e, Bool.false_or]; exact dget_any k r
theorem dget_map (k j : Key) (y : D) : ∀ kvs : List (Key × D), dGet (kvs.map fun kv => if kv.1 = k then (kv.1, y) else kv) j = (dGet kvs j).map fun x => if j = k then y else x
  | [] => rfl
  | p :: r => by
    have ih := dget_map k j y r
    rw [List.map_cons]
    by_cases h : p.1 = k
    · rw [if_pos h]
      by_cases e : p.1 = j
      · rw [dget_pos (p := (p.1, y)) e, dget_pos e, Option.map_some, if_pos (e.symm.trans h)]
      · rw [dget_neg (p := (p.1, y)) e, dget_neg e, ih]
    · rw [if_neg h]
      by_cases e : p.1 = j
      · rw [dget_pos (p := p) e, dget_pos e, Option.map_some, if_neg (fun z => h (e.trans z))]
      · rw [dget_neg (p := p) e, dget_neg e, ih]
theorem dget_snoc (k j : Key) (y : D) : ∀ kvs : List (Key × D), dGet kvs k = none → dGet (kvs ++ [(k, y)]) j = if j = k then some y else dGet kvs j
  | [], _ => by
    by_cases e : k = j
    · rw [if_pos e.symm]; exact dget_pos (p := (k, y)) e
    · rw [if_neg (fun z => e z.symm)]; exact dget_neg (p := (k, y)) e
  | p :: r, hn => by
    rw [List.cons_append]
    have hk : ¬ p.1 = k := fun z => by rw [dget_pos z] at hn; cases hn
    rw [dget_neg hk] at hn
    have ih := dget_snoc k j y r hn
    by_cases e : p.1 = j
    · rw [dget_pos e, dget_pos e, if_neg (fun z => hk (e.trans z))]
    · rw [dget_neg e, dget_neg e, ih]
theorem dget_put (kvs : List (Key × D)) (k j : Key) (y : D) : dGet (dPut kvs k y) j = if j = k then some y else dGet kvs j := by
  unfold dPut
  by_cases a : (kvs.any fun kv => decide (kv.1 = k)) = true
  · rw [if_pos a, dget_map]
    rw [dget_any] at a
    by_cases e : j = k
    · obtain ⟨x, hx⟩ := Option.isSome_iff_exists.mp a
      rw [if_pos e, e, hx, Option.map_some, if_pos rfl]
    · rw [if_neg e]
      cases dGet kvs j with
      | none => rfl
      | some x => rw [Option.map_some, if_neg e]
  · rw [if_neg a]
    refine dget_snoc k j y kvs ?_
    rw [dget_any] at a
    cases q : dGet kvs k with
    | none => rfl
    | some x => rw [q] at a; exact (a rfl).elim
theorem dput_len (kvs : List (Key × D)) (k : Key) (v : D) : (dPut kvs k v).length ≤ kvs.length + 1 := by
  unfold dPut
  split
  · rw [List.length_map]; omega
  · rw [List.length_append, List.length_cons, List.length_nil]; omega
theorem dput_keys {kvs : List (Key × D)} {k : Key} {v : D} : (dPut kvs k v).map (·.1) = if (dGet kvs k).isSome = true then kvs.map (·.1) else kvs.map (·.1) ++ [k] := by
  unfold dPut
  rw [dget_any]
  split
  · rw [List.map_map]
    refine List.map_congr_left fun p _ => ?_
    show (if p.1 = k then (p.1, v) else p).1 = p.1
    split <;> rfl
  · rw [List.map_append]; rfl
theorem dget_mem {k : Key} : ∀ {kvs : List (Key × D)}, (dGet kvs k).isSome = true ↔ k ∈ kvs.map (·.1)
  | [] => ⟨(fun h => nomatch h), (fun h => nomatch h)⟩
  | p :: r => by
    rw [List.map_cons, List.mem_cons]
    by_cases e : p.1 = k
    · rw [dget_pos e]
      exact ⟨fun _ => .inl e.symm, fun _ => rfl⟩
    · rw [dget_neg e, dget_mem (kvs := r)]
      exact ⟨.inr, fun h => h.elim (fun z => absurd z.symm e) id⟩
theorem dput_nodup {kvs : List (Key × D)} {k : Key} {v : D} (h : (kvs.map (·.1)).Nodup) : ((dPut kvs k v).map (·.1)).Nodup := by
  rw [dput_keys]
  split
  · exact h
  · rename_i z
    rw [dget_mem] at z
    refine List.nodup_append.mpr ⟨h, by simp, fun a ha b hb => ?_⟩
    rw [List.mem_singleton.mp hb]
    intro e
    exact z (e ▸ ha)
theorem dput_mem {kvs : List (Key × D)} {k j : Key} {v : D} : j ∈ (dPut kvs k v).map (·.1) ↔ j ∈ kvs.map (·.1) ∨ j = k := by
  rw [← dget_mem, dget_put, ← dget_mem]
  by_cases e : j = k
  · rw [if_pos e]; exact ⟨fun _ => .inr e, fun _ => rfl⟩
  · rw [if_neg e]; exact ⟨.inl, fun h => h.elim id fun z => absurd z e⟩
/-! what the heap holds -/
theorem dkv_len : ∀ {ks : List (Key × V)} {kvs : List (Key × D)}, DpKV K B ks kvs → ks.length = kvs.length
  | [], [], _ => rfl
  | _ :: _, _ :: _, h => by rw [List.length_cons, List.length_cons, dkv_len h.2.2]
  | [], _ :: _, h => h.elim
  | _ :: _, [], h => h.elim
theorem dkv_keys : ∀ {ks : List (Key × V)} {kvs : List (Key × D)}, DpKV K B ks kvs → ks.map (·.1) = kvs.map (·.1)
  | [], [], _ => rfl
  | _ :: _, _ :: _, h => by rw [List.map_cons, List.map_cons, dkv_keys h.2.2, h.1]
  | [], _ :: _, h => h.elim
  | _ :: _, [], h => h.elim
theorem dkv_get (k : Key) : ∀ {ks : List (Key × V)} {kvs : List (Key × D)}, DpKV K B ks kvs → (valV ks k = none ∧ dGet kvs k = none) ∨ ∃ x d, valV ks k = some x ∧ dGet kvs k = some d ∧ Dp K B x d
  | [], [], _ => .inl ⟨rfl, rfl⟩
  | p :: ps, q :: qs, h => by
    obtain ⟨h1, h2, h3⟩ := h
    by_cases e : p.1 = k
    · exact .inr ⟨p.2, q.2, valV_pos e, dget_pos (h1.symm.trans e), h2⟩
    · rw [valV_neg e, dget_neg fun z => e (h1.trans z)]
      exact dkv_get k h3
  | [], _ :: _, h => h.elim
  | _ :: _, [], h => h.elim
theorem dkv_some {k : Key} {ks : List (Key × V)} {kvs : List (Key × D)} {d : D} (h : DpKV K B ks kvs) (e : dGet kvs k = some d) : ∃ x, valV ks k = some x ∧ Dp K B x d := by
  rcases dkv_get k h with ⟨_, z⟩ | ⟨x, d', a, b, c⟩
  · rw [z] at e; cases e
  · rw [b] at e; cases e; exact ⟨x, a, c⟩
theorem dkv_is {k : Key} {ks : List (Key × V)} {kvs : List (Key × D)} (h : DpKV K B ks kvs) : (valV ks k).isSome = (dGet kvs k).isSome := by
  rcases dkv_get k h with ⟨a, b⟩ | ⟨x, d', a, b, c⟩
  · rw [a, b]; rfl
  · rw [a, b]; rfl
theorem dkv_map {k : Key} {x : V} {d : D} (hx : Dp K B x d) : ∀ {ks : List (Key × V)} {kvs : List (Key × D)}, DpKV K B ks kvs → DpKV K B (ks.map fun kv => if kv.1 = k then (kv.1, x) else kv) (kvs.map fun kv => if kv.1 = k then (kv.1, d) else kv)
  | [], [], h => h
  | p :: ps, q :: qs, h => by
    obtain ⟨h1, h2, h3⟩ := h
    rw [List.map_cons, List.map_cons]
    refine ⟨?_, ?_, dkv_map hx h3⟩
    · rw [h1]; split <;> first | exact h1 | rfl
    · rw [h1]; split <;> first | exact hx | exact h2
  | [], _ :: _, h => h.elim
  | _ :: _, [], h => h.elim
theorem dkv_snoc {k : Key} {x : V} {d : D} (hx : Dp K B x d) : ∀ {ks : List (Key × V)} {kvs : List (Key × D)}, DpKV K B ks kvs → DpKV K B (ks ++ [(k, x)]) (kvs ++ [(k, d)])
  | [], [], _ => ⟨rfl, hx, trivial⟩
  | p :: ps, q :: qs, h => ⟨h.1, h.2.1, dkv_snoc hx h.2.2⟩
  | [], _ :: _, h => h.elim
  | _ :: _, [], h => h.elim
theorem dkv_put {k : Key} {x : V} {d : D} {ks : List (Key × V)} {kvs : List (Key × D)} (hx : Dp K B x d) (h : DpKV K B ks kvs) : DpKV K B (putK ks k x) (dPut kvs k d) := by
  unfold putK dPut
  rw [valV_any, dget_any, dkv_is h]
  split
  · exact dkv_map hx h
  · exact dkv_snoc hx h
theorem key_dp {x : V} {d : D} {k : Key} (h : Dp K B x d) (e : keyD d = some k) : x = kV k := by
  cases h <;> cases e <;> rfl
end
section
variable {K : PySem.W.Frag} {g : G} {σ : L2.St} {vs : List V} {H H' : Hp} {ρ : Rho} {cs : List C} {i t : Nat}
theorem own_dict {kvs : List (Key × D)} (h : SR K g σ vs H ρ cs) (e : rget ρ i = .own t (.dct kvs)) : ∃ a ks, σ[i]? = some (some (.ref a)) ∧ H a = some (.dK ks) ∧ DpKV K (hide H (tot σ vs ρ cs ++ g.P0)) ks kvs := by
  obtain ⟨a, e1, _, ⟨ks, q1, q2⟩, _⟩ := h.own e
  exact ⟨a, ks, e1, q1, q2⟩
theorem dp_up {x y : V} {c : C} {d : D} (h : Dp K (hide H (tot σ (x :: vs) ρ (c :: cs) ++ g.P0)) y d) : Dp K (hide H (tot σ vs ρ cs ++ g.P0)) y d := by
  refine dp_mono (fun a o q => ?_) _ _ h
  obtain ⟨h1, h2⟩ := hide_some.mp q
  refine hide_some.mpr ⟨fun z => h1 ?_, h2⟩
  rw [tot_cons]
  rcases List.mem_append.mp z with z | z
  · exact List.mem_append_left _ (List.mem_append_right _ z)
  · exact List.mem_append_right _ z
theorem dkv_up {x : V} {c : C} {ks : List (Key × V)} {kvs : List (Key × D)} (h : DpKV K (hide H (tot σ (x :: vs) ρ (c :: cs) ++ g.P0)) ks kvs) : DpKV K (hide H (tot σ vs ρ cs ++ g.P0)) ks kvs := by
  refine DpKV.mono (fun a o q => ?_) h
  obtain ⟨h1, h2⟩ := hide_some.mp q
  refine hide_some.mpr ⟨fun z => h1 ?_, h2⟩
  rw [tot_cons]
  rcases List.mem_append.mp z with z | z
  · exact List.mem_append_left _ (List.mem_append_right _ z)
  · exact List.mem_append_right _ z
end
@[reducible] def wDNew : WE := fun ρ Q _ => Q (.own 0 (.dct [])) ρ
@[reducible] def wDGet (i : Nat) (wk wd : WE) : WE := fun ρ Q E => match rget ρ i with
  | .own _ (.dct _) => wk ρ (fun c1 ρ1 => wd ρ1 (fun c2 ρ2 => match c1, c2, rget ρ2 i with
    | .v k, .v d, .own _ (.dct kvs) => optK (keyD k) fun kk => Q (.v ((dGet kvs kk).getD d)) ρ2
    | _, _, _ => False) E) E
  | _ => False
@[reducible] def wDIx (i : Nat) (wk : WE) : WE := fun ρ Q E => match rget ρ i with
  | .own _ (.dct _) => wk ρ (fun c1 ρ1 => match c1, rget ρ1 i with
    | .v k, .own _ (.dct kvs) => optK (keyD k) fun kk => optK (dGet kvs kk) fun d => Q (.v d) ρ1
    | _, _ => False) E
  | _ => False
@[reducible] def wDIn (i : Nat) (wk : WE) : WE := fun ρ Q E => wk ρ (fun c1 ρ1 => match c1, rget ρ1 i with
    | .v k, .own _ (.dct kvs) => optK (keyD k) fun kk => Q (.v (.bool (dGet kvs kk).isSome)) ρ1
    | _, _ => False) E
@[reducible] def wDNi (i : Nat) (wk : WE) : WE := fun ρ Q E => wk ρ (fun c1 ρ1 => match c1, rget ρ1 i with
    | .v k, .own _ (.dct kvs) => optK (keyD k) fun kk => Q (.v (.bool (!(dGet kvs kk).isSome))) ρ1
    | _, _ => False) E
@[reducible] def wDPut (i : Nat) (we wk : WE) : WS := fun DD ρ => we ρ (fun c ρ1 => match rget ρ1 i with
  | .own _ (.dct _) => wk ρ1 (fun c2 ρ2 => match frzC c, c2, rget ρ2 i with
    | .v d, .v k, .own t (.dct kvs) => optK (keyD k) fun kk => kvs.length < sizeLine ∧ DD.nx (rset ρ2 i (.own t (.dct (dPut kvs kk d))))
    | _, _, _ => False) DD.ex
  | _ => False) DD.ex
/-- the keys, if all are texts -/
def strKs : List (Key × D) → Option (List Str)
  | [] => some []
  | (.inr s, _) :: r => (strKs r).map (s :: ·)
  | _ => none
theorem strKs_map : ∀ {kvs : List (Key × D)} {ks : List Str}, strKs kvs = some ks → kvs.map (·.1) = ks.map Sum.inr
  | [], _, e => by cases e; rfl
  | (.inr s, _) :: r, ks, e => by
    have e : (strKs r).map (s :: ·) = some ks := e
    obtain ⟨l, h1, h2⟩ := Option.map_eq_some_iff.mp e
    subst h2
    rw [List.map_cons, List.map_cons, strKs_map h1]
  | (.inl _, _) :: _, _, e => by cases e
theorem dp_strs {K : PySem.W.Frag} {B : Hp} : ∀ (ys : List Str), DpAll K B (ys.map V.str) (ys.map PyData.str)
  | [] => .nil
  | y :: ys => .cons (.str y) (dp_strs ys)
section
variable {X : Cx} {g : G} {W : WX} {e k d : Expr} {we wk wd : WE} {i : Nat} {x : Str} {p apos pos p2 : Pos}
theorem ee_dnew : EE X g W (.Dict [] [] pos) wDNew := ⟨_, pe_dnewK, fun σ vs H ρ cs QD ED Q hS hw hX hQ => fun a n =>
  hQ _ _ _ ρ (SR.res (c := .own 0 (.dct [])) hS (same_new n) ⟨rfl, a, rfl, n, [], upd_same, trivial⟩) hw⟩
theorem ee_dget (hu : X.A.units + 65 < cLine) (hx : PE X (.Name x p) (tVar i)) (hk : EE X g W k wk) (hd : EE X g W d wd) (m : M2 X (.Name x p) "get" apos k d pos := by exact ⟨rfl, rfl, rfl, rfl⟩) :
    EE X g W (.Call (.Attribute (.Name x p) "get" apos) [k, d] [] pos) (wDGet i wk wd) := by
  obtain ⟨t1, p1, s1⟩ := hk.ex
  obtain ⟨t2, p2, s2⟩ := hd.ex
  refine ⟨_, pe_dget2 (by omega) hx p1 p2 m, fun σ vs H ρ cs QD ED Q hS hw hX hQ => ?_⟩
  unfold wDGet at hw
  split at hw
  · rename_i t0 kvs0 e0
    obtain ⟨a, ks, e1, e2, _⟩ := own_dict hS e0
    refine ⟨.ref a, e1, a, rfl, .inl ⟨ks, .inl e2⟩, ?_⟩
    refine s1 σ vs H ρ cs _ ED _ hS hw hX fun y H1 c1 ρ1 S1 q1 => ?_
    refine s2 σ (y :: vs) H1 ρ1 (c1 :: cs) _ ED _ S1 q1 hX fun z H2 c2 ρ2 S2 q2 => ?_
    split at q2
    · rename_i kd dd t' kvs eo
      obtain ⟨a', ks', e3, e4, e5⟩ := own_dict S2 eo
      rw [e1] at e3
      cases e3
      cases ek : keyD kd with
      | none => rw [ek] at q2; exact q2.elim
      | some kk =>
        rw [ek] at q2
        have q2 : QD (.v ((dGet kvs kk).getD dd)) ρ2 := q2
        have dz := S2.top
        have dy := S2.pop.top
        obtain rfl := key_dp dy ek
        refine ⟨_, DGet.k e4, ?_⟩
        refine hQ _ _ (.v ((dGet kvs kk).getD dd)) ρ2 (SR.resV S2.pop.pop (Same.refl _) ?_) q2
        rcases dkv_get kk e5 with ⟨h1, h2⟩ | ⟨u, d', h1, h2, h3⟩
        · rw [h1, h2]; exact dp_up dz
        · rw [h1, h2]; exact dp_up (dp_up h3)
    · exact q2.elim
  · exact hw.elim
theorem ee_dix (hu : X.A.units + 65 < cLine) (hx : PE X (.Name x p) (tVar i)) (hk : EE X g W k wk) (hs : NoSl k := by exact fun _ _ => rfl) : EE X g W (.Subscript (.Name x p) k pos) (wDIx i wk) := by
  obtain ⟨t1, p1, s1⟩ := hk.ex
  refine ⟨_, L2.pe_dget (by omega) hx p1 hs, fun σ vs H ρ cs QD ED Q hS hw hX hQ => ?_⟩
  unfold wDIx at hw
  split at hw
  · rename_i t0 kvs0 e0
    obtain ⟨a, ks, e1, e2, _⟩ := own_dict hS e0
    refine ⟨.ref a, e1, ?_⟩
    refine s1 σ vs H ρ cs _ ED _ hS hw hX fun y H1 c1 ρ1 S1 q1 => ?_
    split at q1
    · rename_i kd t' kvs eo
      obtain ⟨a', ks', e3, e4, e5⟩ := own_dict S1 eo
      rw [e1] at e3
      cases e3
      cases ek : keyD kd with
      | none => rw [ek] at q1; exact q1.elim
      | some kk =>
        rw [ek] at q1
        cases eg : dGet kvs kk with
        | none =>
          have q1 : optK (dGet kvs kk) _ := q1
          rw [eg] at q1
          exact q1.elim
        | some dd =>
          have q1 : optK (dGet kvs kk) fun d => QD (.v d) ρ1 := q1
          rw [eg] at q1
          have q1 : QD (.v dd) ρ1 := q1
          obtain rfl := key_dp S1.top ek
          obtain ⟨u, h1, h2⟩ := dkv_some e5 eg
          refine ⟨a, u, rfl, ?_, hQ _ _ (.v dd) ρ1 (SR.resV S1.pop (Same.refl _) (dp_up h2)) q1⟩
          rw [← h1]
          exact DGet.k e4
    · exact q1.elim
  · exact hw.elim
theorem ee_din (hu : X.A.units + 65 < cLine) (hk : EE X g W k wk) (hx : PE X (.Name x p) (tVar i)) : EE X g W (.Compare k [.In] [.Name x p] pos) (wDIn i wk) := by
  obtain ⟨t1, p1, s1⟩ := hk.ex
  refine ⟨_, pe_cmp (pc_din (by omega) p1 hx) rfl, fun σ vs H ρ cs QD ED Q hS hw hX hQ => ?_⟩
  refine s1 σ vs H ρ cs _ ED _ hS hw hX fun y H1 c1 ρ1 S1 q1 => ?_
  split at q1
  · rename_i kd t' kvs eo
    obtain ⟨a, ks, e3, e4, e5⟩ := own_dict S1 eo
    cases ek : keyD kd with
    | none => rw [ek] at q1; exact q1.elim
    | some kk =>
      rw [ek] at q1
      have q1 : QD (.v (.bool (dGet kvs kk).isSome)) ρ1 := q1
      obtain rfl := key_dp S1.top ek
      refine ⟨.ref a, e3, a, _, rfl, DGet.k e4, ?_⟩
      rw [dkv_is e5]
      exact hQ _ _ _ ρ1 (SR.resV S1.pop (Same.refl _) (.bl _)) q1
  · exact q1.elim
theorem ee_dni (hu : X.A.units + 65 < cLine) (hk : EE X g W k wk) (hx : PE X (.Name x p) (tVar i)) : EE X g W (.Compare k [.NotIn] [.Name x p] pos) (wDNi i wk) := by
  obtain ⟨t1, p1, s1⟩ := hk.ex
  refine ⟨_, pe_cmp (pc_dnotin (by omega) p1 hx) rfl, fun σ vs H ρ cs QD ED Q hS hw hX hQ => ?_⟩
  refine s1 σ vs H ρ cs _ ED _ hS hw hX fun y H1 c1 ρ1 S1 q1 => ?_
  split at q1
  · rename_i kd t' kvs eo
    obtain ⟨a, ks, e3, e4, e5⟩ := own_dict S1 eo
    cases ek : keyD kd with
    | none => rw [ek] at q1; exact q1.elim
    | some kk =>
      rw [ek] at q1
      have q1 : QD (.v (.bool (!(dGet kvs kk).isSome))) ρ1 := q1
      obtain rfl := key_dp S1.top ek
      refine ⟨.ref a, e3, a, _, rfl, DGet.k e4, ?_⟩
      rw [dkv_is e5]
      exact hQ _ _ _ ρ1 (SR.resV S1.pop (Same.refl _) (.bl _)) q1
  · exact q1.elim
theorem es_dput (hu : X.A.units + 65 < cLine) (hL : g.L i = true) (hx : PE X (.Name x p) (tVar i)) (h : EE X g W e we) (hk : EE X g W k wk) (hs : swapsWith e (some (.Subscript (.Name x p) k p2)) pos.line X.env = pure false := by rfl) :
    ES X g W (.Assign [.Subscript (.Name x p) k p2] e pos) (wDPut i we wk) := by
  obtain ⟨t, q, s⟩ := h.ex
  obtain ⟨t2, q2, s2⟩ := hk.ex
  refine ⟨_, ps_dput (by omega) hx q2 q hs, fun σ vs H ρ cs DD D hS hp hw hE => ?_⟩
  refine s σ vs H ρ cs _ _ _ hS hw (hE.ex σ) fun y H1 c ρ1 S1 z1 => ?_
  split at z1
  · rename_i t0 ds0 e0
    obtain ⟨a, ks, e1, _, _⟩ := own_dict S1 e0
    refine ⟨.ref a, e1, ?_⟩
    refine s2 σ (y :: vs) H1 ρ1 (c :: cs) _ _ _ S1 z1 (hE.ex σ) fun z H2 c2 ρ2 S2 z2 => ?_
    split at z2
    · rename_i dd kd t' kvs ec eo
      have e5 := S2.top
      have S3 : SR X.K g σ (y :: vs) H2 ρ2 (.v dd :: cs) := by
        have := S2.pop.frzTop
        rw [ec] at this
        exact this
      obtain ⟨a', ks', e3, e4, e6⟩ := own_dict S3.pop eo
      rw [e1] at e3
      cases e3
      cases ek : keyD kd with
      | none => rw [ek] at z2; exact z2.elim
      | some kk =>
        rw [ek] at z2
        have z2 : kvs.length < sizeLine ∧ DD.nx (rset ρ2 i (.own t' (.dct (dPut kvs kk dd)))) := z2
        obtain rfl := key_dp e5 ek
        refine ⟨a, _, rfl, DPut.k e4 (by rw [dkv_len e6]; exact z2.1), ?_⟩
        have S4 := S3.pop.mutSlot (H' := upd H2 a (.dK (putK ks' kk y))) eo e1 hL (fun b u n z => by rw [upd_ne n]; exact z) (o' := .dct (dPut kvs kk dd)) ⟨_, upd_same, dkv_put S3.top e6⟩
        exact hE.nx σ _ _ S4 z2.2
    · exact z2.elim
  · exact z1.elim
end
end DL

set_option Elab.async false
set_option linter.all false
set_option maxRecDepth 100000
set_option maxHeartbeats 4000000
/-! DLSrtS: sorted of tuples that begin with unlike texts; sorted(d.items()) -/
namespace DL
open PySem PySem.Spec PyProof.Rows L2
/-! ### the order of texts -/
def cpI (x : Str) : List Int := x.cps.toList.map Int.ofNat
def sLt (x y : Str) : Bool := HT.lexLt (cpI x) (cpI y)
theorem lex_nat : ∀ (xs ys : List Nat), ltCps xs ys = HT.lexLt (xs.map Int.ofNat) (ys.map Int.ofNat)
  | [], [] => rfl
  | [], _ :: _ => rfl
  | _ :: _, [] => rfl
  | x :: xs, y :: ys => by
    rw [List.map_cons, List.map_cons, HT.lexLt_cons, ← lex_nat xs ys]
    show (decide (x < y) || (x == y && ltCps xs ys)) = _
    by_cases e : x = y
    · subst e
      rw [if_pos rfl]
      simp
    · rw [if_neg fun z => e (Int.ofNat.inj z)]
      have e1 : (x == y) = false := by simpa using e
      rw [e1]
      simp
theorem sLt_eq (x y : Str) : decide (x.cps.toList < y.cps.toList) = sLt x y := by
  rw [← ltCps_eq, lex_nat]; rfl
theorem cpI_inj {x y : Str} (h : cpI x = cpI y) : x = y := by
  have e : x.cps.toList = y.cps.toList := (List.map_inj_right fun _ _ z => Int.ofNat.inj z).mp h
  cases x; cases y
  congr
  exact Array.toList_inj.mp e
theorem swo_s {α : Type} (k : α → Str) : SrtO.Swo (fun v u : α => sLt (k v) (k u)) := NtL.swo_lexL fun v => cpI (k v)
theorem sLt_tri {x y : Str} (h : x ≠ y) (h' : sLt y x = false) : sLt x y = true := lexLt_tri (fun z => h (cpI_inj z)) h'
theorem sLt_irr (x : Str) : sLt x x = false := SrtO.Swo.refl (swo_s (α := Str) id) x
theorem sLt_asym {x y : Str} (h : sLt x y = true) : sLt y x = false := (swo_s (α := Str) id).asym x y h
/-- what is sorted by unlike texts is told by what is in it -/
theorem sorted_uniq {α : Type} {k : α → Str} : ∀ {l m : List α}, l.Pairwise (fun x y => sLt (k x) (k y) = true) → m.Pairwise (fun x y => sLt (k x) (k y) = true) → (∀ x, x ∈ l ↔ x ∈ m) → l = m
  | [], [], _, _, _ => rfl
  | [], y :: m, _, _, h => nomatch (h y).mpr (.head _)
  | x :: l, [], _, _, h => nomatch (h x).mp (.head _)
  | x :: l, y :: m, h1, h2, h => by
    obtain ⟨a1, a2⟩ := List.pairwise_cons.mp h1
    obtain ⟨b1, b2⟩ := List.pairwise_cons.mp h2
    have e : x = y := by
      rcases List.mem_cons.mp ((h x).mp (.head _)) with e | z
      · exact e
      · rcases List.mem_cons.mp ((h y).mpr (.head _)) with e | w
        · exact e.symm
        · have := sLt_asym (b1 x z)
          rw [a1 y w] at this
          cases this
    subst e
    refine congrArg (x :: ·) (sorted_uniq a2 b2 fun z => ⟨fun hz => ?_, fun hz => ?_⟩)
    · rcases List.mem_cons.mp ((h z).mp (.tail _ hz)) with e | w
      · subst e
        have := a1 z hz
        rw [sLt_irr] at this
        cases this
      · exact w
    · rcases List.mem_cons.mp ((h z).mpr (.tail _ hz)) with e | w
      · subst e
        have := b1 z hz
        rw [sLt_irr] at this
        cases this
      · exact w
theorem sortedS_pw : ∀ {ys : List Str}, sortedS ys = true → ys.Nodup → ys.Pairwise (fun x y => sLt x y = true)
  | [], _, _ => List.Pairwise.nil
  | y :: ys, h, n => by
    have go : ∀ (l : List Str) (p : Str), risingS p l = true → (p :: l).Nodup → (p :: l).Pairwise (fun x y => sLt x y = true) := by
      intro l
      induction l with
      | nil => exact fun p _ _ => List.pairwise_singleton _ _
      | cons x l ih =>
        intro p h n
        have h : (!ltCps x.cps.toList p.cps.toList && risingS x l) = true := h
        rw [Bool.and_eq_true, Bool.not_eq_true'] at h
        obtain ⟨n1, n2⟩ := List.nodup_cons.mp n
        have r := ih x h.2 n2
        have px : sLt p x = true := sLt_tri (fun e => n1 (e ▸ .head _)) (by rw [← sLt_eq, ← ltCps_eq]; exact h.1)
        refine List.pairwise_cons.mpr ⟨fun z hz => ?_, r⟩
        rcases List.mem_cons.mp hz with e | hz
        · rw [e]; exact px
        · have xz := (List.pairwise_cons.mp r).1 z hz
          exact (swo_s (α := Str) id).ltle px (sLt_asym xz)
    exact go ys y h n
/-! ### the sort -/
/-- v is a tuple that begins with this text -/
def FsS (h : Heap) (v : Value) (x : Str) : Prop := ∃ (t : Addr) (xs : Array Value) (k : Tok), v = .ref t ∧ h.IsTuple t xs ∧ xs[0]? = some (.str x k)
theorem FsS.keeps {h h' : Heap} {v : Value} {x : Str} (q : FsS h v x) (k : ∀ b o, h.get? b = some o → o.cls = .type "tuple" → h'.get? b = some o) : FsS h' v x := by
  obtain ⟨t, xs, u, e, h1, h2⟩ := q
  exact ⟨t, xs, u, e, isTuple_keeps h1 k, h2⟩
section
variable {prog : Program} {w : World} {A : Around} {s : Shared}
theorem fsS_cmp {vs : List Value} {k : Value → Str} (hv : ∀ v ∈ vs, FsS s.heap v (k v)) (un : ∀ v ∈ vs, ∀ u ∈ vs, v ≠ u → k v ≠ k u) :
    SrtO.Cmp prog w A s (tuples' true) (fun p => p.1 ∈ vs) (SrtO.lt2 fun v u => sLt (k v) (k u)) := by
  intro p q hm hm'
  show wpAny (model prog w) A (keyLt' (tuples' true) p.1 q.1) (fun r s' => s' = s ∧ r = sLt (k p.1) (k q.1)) (fun _ _ => False) s
  by_cases e : p.1 = q.1
  · rw [e]
    obtain ⟨t, xs, u, e1, ⟨o, g1, g2, n, g3⟩, h2⟩ := hv _ hm'
    rw [e1]
    have self : ∀ (l : List Value) (i : Nat), PySem.W.KatLex prog w A true (decide (xs.size < xs.size)) (fun r s' => s' = s ∧ r = sLt (k q.1) (k q.1)) (l.zip l) i s := by
      intro l
      induction l with
      | nil => exact fun _ => PySem.W.kat_nil ⟨rfl, by rw [sLt_irr]; exact decide_eq_false (Nat.lt_irrefl _)⟩
      | cons v l ih => exact fun i => PySem.W.kat_cons (SeqAt.EqAt.same v prog w _ _ (PySem.W.kat_go (fun _ => PySem.W.kat_yes (ih (i + 1))) fun z => nomatch z))
    have sl := PySem.W.kat_lt (E := fun _ _ => False) g1 g3 g1 g3 (self xs.toList 0)
    rw [e1] at sl
    exact sl
  · have ne := un _ hm _ hm' e
    obtain ⟨t, xs, u, e1, ⟨o, g1, g2, n, g3⟩, h2⟩ := hv _ hm
    obtain ⟨t', xs', u', e1', ⟨o', g1', g2', n', g3'⟩, h2'⟩ := hv _ hm'
    generalize k p.1 = x at *
    generalize k q.1 = y at *
    rw [e1, e1']
    obtain ⟨r, er⟩ := idx_zip h2 h2'
    refine PySem.W.kat_lt g1 g3 g1' g3' ?_
    rw [er]
    refine PySem.W.kat_cons (SeqAt.EqAt.str_str x u y u' prog w _ _ ?_)
    have nb : (x == y) = false := by simpa using ne
    rw [nb]
    exact PySem.W.kat_no (oneLt_str ⟨rfl, sLt_eq x y⟩)
theorem fsS_tups {h : Heap} {k : Value → Str} : ∀ {vs : List Value}, (∀ v ∈ vs, FsS h v (k v)) → ∃ fs, PySem.W.KatTups h vs fs ∧ fs.length = vs.length ∧ ∀ f ∈ fs, ∃ x u, f = Value.str x u
  | [], _ => ⟨[], trivial, rfl, fun f hf => nomatch hf⟩
  | v :: vs, hv => by
    obtain ⟨fs, a1, a2, a3⟩ := fsS_tups (vs := vs) fun u hu => hv u (.tail _ hu)
    obtain ⟨t, xs, u, e1, ⟨o, g1, g2, n, g3⟩, h2⟩ := hv v (.head _)
    refine ⟨.str (k v) u :: fs, ?_, by rw [List.length_cons, List.length_cons, a2], fun q hq => ?_⟩
    · rw [e1] at h2 ⊢; exact ⟨⟨t, o, xs, n, rfl, g1, g2, g3, h2⟩, a1⟩
    · rcases List.mem_cons.mp hq with e | hq
      · exact ⟨_, _, e⟩
      · exact a3 q hq
theorem fsS_sortable {a : Addr} {vs : List Value} {k : Value → Str} (h2 : 2 ≤ vs.length) (hv : ∀ v ∈ vs, FsS s.heap v (k v)) (un : ∀ v ∈ vs, ∀ u ∈ vs, v ≠ u → k v ≠ k u) (ha : ∀ o, s.heap.get? a = some o → o.cls ≠ .type "tuple") :
    SrtO.SortableO prog w A s a vs fun v u => sLt (k v) (k u) := by
  intro h' keep
  have kt : ∀ b o, s.heap.get? b = some o → o.cls = .type "tuple" → h'.get? b = some o := fun b o e c => keep b o (fun z => ha o (z ▸ e) c) e
  have hv' : ∀ v ∈ vs, FsS h' v (k v) := fun v hm => (hv v hm).keeps kt
  obtain ⟨fs, t1, t2, t3⟩ := fsS_tups hv'
  refine ⟨tuples' true, fun Q E hq => ?_, fsS_cmp (s := { s with heap := h' }) hv' un⟩
  refine PySem.W.kat_kind (s := { s with heap := h' }) (T := .type "str") t1 (by omega) (fun v hm => ?_) (by rfl) ?_
  · obtain ⟨x, u, rfl⟩ := t3 v hm
    exact PySem.W.Looks.now
  · have e : (Value.type "str" != Value.type "tuple") = true := by first | decide +kernel | rfl | decide
    rw [e]
    exact hq
end
/-- sorted(xs), xs tuples that begin with unlike texts -/
def rSortK (K : PySem.W.Frag) : List V → Hp → VK → Prop := fun vs H Q => ∃ (a : Addr) (zs : List (V × Str)), vs = [V.ref a] ∧ SqL K H a (zs.map (·.1)) ∧ (∀ z ∈ zs, ∃ t ys, z.1 = V.ref t ∧ SqT K H t (.str z.2 :: ys)) ∧
  (zs.map (·.2)).Nodup ∧ ∀ (zs' : List (V × Str)) (p : Addr), zs'.Perm zs → zs'.Pairwise (fun x y => sLt x.2 y.2 = true) → H p = none → Q (.ref p) (upd H p (.lst (zs'.map (·.1))))
open Classical in
theorem cr_sortK {X : Cx} : CallR X (.builtin "sorted") (rSortK X.K) := by
  intro pins s σ H vs us Q I r h
  obtain ⟨a, zs, rfl, hs, hx, nd, q⟩ := h
  obtain ⟨its, rv, hl, hz⟩ := I.list hs
  obtain ⟨u, rfl, ru⟩ := vals1 r
  obtain rfl : u = Value.ref a := ru
  obtain ⟨e1, e2⟩ := refs_back rv fun x m => by
    obtain ⟨z, hzm, rfl⟩ := List.mem_map.mp m
    obtain ⟨t, ys, e, _⟩ := hx z hzm
    exact ⟨t, e⟩
  let k : V → Str := fun x => if h : ∃ z ∈ zs, z.1 = x then h.choose.2 else ⟨#[]⟩
  have hk : ∀ z ∈ zs, k z.1 = z.2 := fun z hzm => by
    have ex : ∃ y ∈ zs, y.1 = z.1 := ⟨z, hzm, rfl⟩
    show (if h : ∃ y ∈ zs, y.1 = z.1 then h.choose.2 else ⟨#[]⟩) = z.2
    rw [dif_pos ex]
    obtain ⟨m, e⟩ := ex.choose_spec
    generalize ex.choose = y at m e ⊢
    obtain ⟨t, ys, a1, a2⟩ := hx z hzm
    obtain ⟨t', ys', b1, b2⟩ := hx y m
    rw [a1, b1] at e
    cases e
    have e3 := I.tuple_inj a2 b2
    exact (V.str.inj (List.cons.inj e3).1).symm
  have mem : ∀ v ∈ its, ∃ z ∈ zs, backV v = z.1 := fun v hv => by
    have : backV v ∈ zs.map (·.1) := by rw [e1]; exact List.mem_map.mpr ⟨_, hv, rfl⟩
    obtain ⟨z, m, e⟩ := List.mem_map.mp this
    exact ⟨z, m, e.symm⟩
  have fst : ∀ v ∈ its, FsS s.heap v (k (backV v)) := fun v hv => by
    obtain ⟨z, m, ez⟩ := mem v hv
    rw [ez, hk z m]
    obtain ⟨t, rfl⟩ := e2 v hv
    obtain ⟨t', ys, e, h1⟩ := hx _ m
    rw [← ez] at e
    cases e
    obtain ⟨i1, r1, p1, _⟩ := I.tuple h1
    cases r1 with
    | @cons x u xs us ra rb =>
      obtain ⟨tk, rfl⟩ := ra
      exact ⟨t, _, tk, rfl, p1, rfl⟩
  have un' : ∀ v ∈ its, ∀ u ∈ its, v ≠ u → k (backV v) ≠ k (backV u) := fun v hv u hu' ne e => by
    obtain ⟨z, m, ez⟩ := mem v hv
    obtain ⟨y, m', ey⟩ := mem u hu'
    obtain ⟨t, rfl⟩ := e2 v hv
    obtain ⟨t', rfl⟩ := e2 u hu'
    rw [ez, ey, hk z m, hk y m'] at e
    have := nodup_inj nd z m y m' e
    subst this
    rw [← ez] at ey
    cases ey
    exact ne rfl
  refine SrtO.sorted_ord (swo_s fun v => k (backV v)) hl.isList (by rw [← rv.length]; exact hz) (fun h2 h₁ a' ha kk => ?_) fun out hs' hb => ?_
  · refine fsS_sortable (s := { s with heap := h₁ }) h2 (fun v hm => (fst v hm).keeps fun b o e _ => (kk b o e).2) un' fun o e => ?_
    have e' : some o = some (seqObj "list" its.toArray 0) := e.symm.trans ha
    cases e'
    intro c
    exact absurd (Value.type.inj c) (by decide)
  · have h3 : ∀ u ∈ out, ∃ a, u = Value.ref a := fun u hu => e2 u (hb.perm.mem_iff.mp hu)
    have pm : (out.map backV).Perm (zs.map (·.1)) := by rw [e1]; exact hb.perm.map backV
    obtain ⟨zs', p1, p2⟩ := perm_lift pm zs rfl
    have pw : (zs'.map (·.1)).Pairwise fun x y => sLt (k y) (k x) = false := by
      rw [p2]
      exact List.pairwise_map.mpr hs'
    have pw2 : zs'.Pairwise fun x y => sLt x.2 y.2 = true := by
      have nd' : (zs'.map (·.2)).Nodup := (p1.map (·.2)).nodup_iff.mpr nd
      have c := List.pairwise_map.mp pw
      have d := List.pairwise_map.mp nd'
      have inz : ∀ z ∈ zs', z ∈ zs := fun z m => p1.mem_iff.mp m
      refine List.Pairwise.imp_of_mem (fun {x y} hx' hy' h => ?_) (c.and d)
      have h1 := h.1
      rw [hk x (inz x hx'), hk y (inz y hy')] at h1
      exact sLt_tri h.2 h1
    obtain ⟨n, hn⟩ := PyProof.Rows.sortedAll_at s.heap its out.toArray
    have e9 : zs'.map (·.1) = out.map backV := p2
    refine ⟨.ref (s.heap.objs.size + 1), upd H (s.heap.objs.size + 1) (.lst (zs'.map (·.1))), I.laid (t' := s.toks) (fun b o e => PyProof.Rows.sortedAll_old e) (Nat.le_succ _) ⟨?_, out, n, by rw [e9]; exact vals_back h3, hn⟩, rfl, q _ _ p1 pw2 (I.hok.fresh (Nat.le_succ _))⟩
    have : (zs'.map (·.1)).length = (zs.map (·.1)).length := by rw [List.length_map, List.length_map, p1.length_eq]
    rw [this]
    exact hz
/-! ### over data -/
/-- the text a tuple begins with -/
def fstS : D → Str
  | .tuple (.str x :: _) => x
  | _ => ⟨#[]⟩
def FsOk : D → Prop
  | .tuple (.str _ :: _) => True
  | _ => False
@[reducible] def oSortK : OL := fun ds k => match ds with
  | [.list es] => (∀ e ∈ es, FsOk e) ∧ (es.map fstS).Nodup ∧ ∀ es' : List D, es'.Perm es → es'.Pairwise (fun x y => sLt (fstS x) (fstS y) = true) → k (.own 0 (.lst es'))
  | _ => False
theorem fsS_at {K : PySem.W.Frag} {B : Hp} {v : V} {d : D} (h : Dp K B v d) (f : FsOk d) : ∃ t ys, v = V.ref t ∧ SqT K B t (.str (fstS d) :: ys) := by
  cases h with
  | tup a1 a2 =>
    cases a2 with
    | nil => exact f.elim
    | cons b1 b2 =>
      cases b1 with
      | str x => exact ⟨_, _, rfl, a1⟩
      | _ => exact f.elim
  | _ => exact f.elim
theorem lift_sortK {K : PySem.W.Frag} : LiftL K (rSortK K) oSortK := by
  intro O H xs ds QD Q _ hx q fin
  unfold oSortK at q
  split at q
  · rename_i es
    cases hx with
    | cons h1 h2 =>
      cases h2
      cases h1 with
      | lst a1 a2 =>
        obtain ⟨f, nd, q⟩ := q
        obtain ⟨ws, w1, w2, w3⟩ := dp_pairs a2
        subst w1
        subst w2
        refine ⟨_, ws.map fun w => (w.1, fstS w.2), rfl, ?_, fun z hz => ?_, ?_, fun zs' p pm pw n => ?_⟩
        · rw [List.map_map]; exact Same.seq same_hide a1
        · obtain ⟨w, hw, rfl⟩ := List.mem_map.mp hz
          obtain ⟨t, ys, e, b1⟩ := fsS_at (w3 w hw) (f w.2 (List.mem_map.mpr ⟨w, hw, rfl⟩))
          exact ⟨t, ys, e, seqT_same same_hide b1⟩
        · rw [List.map_map] at nd ⊢
          exact nd
        · obtain ⟨ws', p1, p2⟩ := perm_lift pm ws rfl
          have dp : DpAll K (hide H O) (ws'.map (·.1)) (ws'.map (·.2)) := dp_of_pairs fun w hw => w3 w (p1.mem_iff.mp hw)
          have e1 : zs'.map (·.1) = ws'.map (·.1) := by rw [← p2, List.map_map]; rfl
          rw [e1]
          refine fin _ _ (.own 0 (.lst (ws'.map (·.2)))) (same_new n) (new_lst n dp) (q _ (p1.map _) ?_)
          rw [← p2] at pw
          exact List.pairwise_map.mpr (List.pairwise_map.mp pw)
  · exact q.elim
section
variable {X : Cx} {g : G} {W : WX} {e : Expr} {es : List Expr} {wa : WA} {p pos : Pos}
theorem ee_sortK (hg : Gl X "sorted") (hm : X.mg "sorted" = none) (ha : EA X g W (e :: es) wa) (he : starEach (e :: es) X.env = (false, eval e X.env) :: starEach es X.env := by rfl) (hpl : (backTo pos (starEach es X.env)).any (·.1) = false := by rfl) :
    EE X g W (.Call (.Name "sorted" p) (e :: es) [] pos) (wL oSortK wa) := ee_cb cr_sortK lift_sortK hg hm (by decide +kernel) ha (he := he) (hpl := hpl)
end
end DL

set_option Elab.async false
set_option linter.all false
set_option maxRecDepth 100000
set_option maxHeartbeats 4000000
/-! DLItems: sorted(d.items()) of a dict with texts for keys -/
namespace DL
open PySem PySem.Spec PyProof.Rows L2
def rItemsK : V → List V → Hp → VK → Prop := fun x xs H Q => ∃ (a : Addr) (kvs : List (Key × V)), x = .ref a ∧ xs = [] ∧ H a = some (.dK kvs) ∧ ∀ p, H p = none → Q (.ref p) (upd H p (L2.DX.itemsO p a))
def entS (e : Str × V) : Key × V := (Sum.inr e.1, e.2)
def rSortIK : List V → Hp → VK → Prop := fun vs H Q => ∃ (p a : Addr) (kvs : List (Str × V)), vs = [.ref p] ∧ H p = some (L2.DX.itemsO p a) ∧ H a = some (.dK (kvs.map entS)) ∧
  ∀ (H' : Hp) (l : Addr) (ps : List (Addr × Str × V)), (kvs.map (·.1)).Nodup → (∀ b o, H b = some o → H' b = some o) → (ps.map (·.2)).Perm kvs → ps.Pairwise (fun e f => sLt e.2.1 f.2.1 = true) → H l = none → H' l = some (.lst (ps.map fun z => V.ref z.1)) →
    (∀ z ∈ ps, z.1 ≠ l ∧ H z.1 = none ∧ H' z.1 = some (.tup [.str z.2.1, z.2.2])) → Q (.ref l) H'
section
variable {X : Cx}
theorem mt_itemsK : MtR X "dict.items" rItemsK := by
  intro pins s σ H x xs v us Q I rx rxs h
  obtain ⟨a, kvs, rfl, rfl, ha, q⟩ := h
  cases rx
  cases rxs
  obtain ⟨z, hd, vs, rel, dd⟩ := dk_of I.hok ha
  obtain ⟨ep, o, es, ho, hx, hdat, _⟩ := dd.dictAt
  refine DT.callItems (es := es) (ep := ep) hd ⟨o, ho, hx, hdat⟩ ?_
  have hf : H s.heap.objs.size = none := I.hok.fresh (Nat.le_refl _)
  exact ⟨.ref s.heap.objs.size, upd H s.heap.objs.size (L2.DX.itemsO s.heap.objs.size a), I.laid (t' := s.toks) (fun b u e => Heap.get?_push_of_some _ e) (Nat.le_refl _) (L2.DX.itemsO_ok (Heap.get?_push_size _ rfl)), rfl, q _ hf⟩
theorem kv_at {kvs : List (Key × V)} {vs : List (Key × Value)} (r : KV kvs vs) : ∀ {j : Nat} {p : Key × V}, kvs[j]? = some p → ∃ v, vs[j]? = some (p.1, v) ∧ RelV p.2 v := by
  unfold KV at r
  induction r with
  | nil => intro j p e; simp at e
  | @cons p q ps qs h t ih =>
    intro j p' e
    cases j with
    | zero =>
      have e' : p = p' := by simpa using e
      subst e'
      exact ⟨q.2, by rw [h.1]; rfl, h.2⟩
    | succ j =>
      obtain ⟨v, h1, h2⟩ := ih (j := j) (p := p') (by simpa using e)
      exact ⟨v, by simpa using h1, h2⟩
open Classical in
theorem cr_sortIK (hc : X.calm = true) : CallR X (.builtin "sorted") rSortIK := by
  intro pins s σ H xs us Q I r h
  obtain ⟨p, a, kvs, rfl, hp, ha, q⟩ := h
  obtain rfl := Vals.ref1 r
  have view : s.heap.IsItemsView p a := (show ObjOk X.prog X.w H s.heap p (L2.DX.itemsO p a) from I.hok p _ hp).1
  obtain ⟨z, hd, vs, rel, dd⟩ := dk_of I.hok ha
  obtain ⟨ep, o, es, ho, hx, hdat, _, hpp, nd0⟩ := dd.dictAt
  have hr : DT.Raw s.heap a es ep := ⟨o, ho, hx, hdat⟩
  have hes : es.size = vs.length := by rw [← hpp.length, Array.length_toList]
  have l1 : kvs.length = vs.length := by rw [← rel.length, List.length_map]
  have nd : (kvs.map (·.1)).Nodup := by
    rw [← rel.keys, List.map_map] at nd0
    have e : (kvs.map (·.1)).map (Sum.inr (α := Int)) = kvs.map ((fun x : Key × V => x.1) ∘ entS) := by rw [List.map_map]; rfl
    rw [← e] at nd0
    exact List.Pairwise.imp (fun h z => h (by rw [z])) (List.pairwise_map.mp nd0)
  have hh : X.A.handled = none := I.ok.hd hc
  have zk : kvs.length ≤ sizeLine := by rwa [List.length_map] at z
  refine DT.sortedI (es := es) (ep := ep) hh view hr (by rw [hes, ← l1]; exact zk) fun h' tk as hk hlt hl hG => ?_
  have lak : as.length = kvs.length := by rw [hl, hes, l1]
  have ndA : as.Nodup := List.Pairwise.imp (fun h => Nat.ne_of_lt h) hG.rise
  -- the pairs that were made
  have pr : ∀ (j : Nat) (b : Addr), as[j]? = some b → ∃ (e : Str × V) (tk : Tok) (v : Value), kvs[j]? = some e ∧ RelV e.2 v ∧ h'.get? b = some { cls := .type "tuple", data := .seq #[Value.str e.1 tk, v] } := by
    intro j b hj
    obtain ⟨en, he, hg⟩ := hG.pairs j b hj
    have hjl : j < as.length := (List.getElem?_eq_some_iff.mp hj).1
    have hjk : j < kvs.length := by omega
    obtain ⟨v, h1, h2⟩ := kv_at rel (j := j) (p := entS kvs[j]) (by rw [List.getElem?_map, List.getElem?_eq_getElem hjk]; rfl)
    have hje : j < es.size := by rw [hes, ← l1]; exact hjk
    obtain ⟨g1, g2⟩ := hpp.get? (e := es[j]) (by rw [Array.getElem?_toList]; exact Array.getElem?_eq_getElem hje) h1
    rw [Array.getElem?_eq_getElem hje] at he
    have een := Option.some.inj he
    obtain ⟨tk, etk⟩ := Value.isStrOf_shape (x := kvs[j].1) (v := es[j].key) g1
    refine ⟨kvs[j], tk, v, List.getElem?_eq_getElem hjk, h2, ?_⟩
    rw [hg, ← een, etk, g2]
  have hob : (h'.push { cls := .type "list", data := .seq (as.map Value.ref).toArray }).get? h'.objs.size = some (seqObj "list" (as.map Value.ref).toArray 0) := Heap.get?_push_size _ rfl
  have kb : ∀ b o, s.heap.get? b = some o → (h'.push { cls := .type "list", data := .seq (as.map Value.ref).toArray }).get? b = some o := fun b o e => Heap.get?_push_of_some _ (hk b o e)
  have ne0 : ∀ b o, h'.get? b = some o → b ≠ h'.objs.size := fun b o e => Nat.ne_of_lt (Heap.lt_size e)
  generalize hh2 : h'.push { cls := .type "list", data := .seq (as.map Value.ref).toArray } = h2 at hob kb ⊢
  have ka : ∀ b o, h'.get? b = some o → h2.get? b = some o := fun b o e => by rw [← hh2]; exact Heap.get?_push_of_some _ e
  -- the text that each begins with
  let kx : Value → Str := fun v => if h : ∃ (j : Nat) (b : Addr) (e : Str × V), v = Value.ref b ∧ as[j]? = some b ∧ kvs[j]? = some e then h.choose_spec.choose_spec.choose.1 else ⟨#[]⟩
  have hkx : ∀ (j : Nat) (b : Addr) (e : Str × V), as[j]? = some b → kvs[j]? = some e → kx (.ref b) = e.1 := fun j b e h1 h2 => by
    have ex : ∃ (j' : Nat) (b' : Addr) (e' : Str × V), Value.ref b = Value.ref b' ∧ as[j']? = some b' ∧ kvs[j']? = some e' := ⟨j, b, e, rfl, h1, h2⟩
    show (if h : ∃ (j' : Nat) (b' : Addr) (e' : Str × V), Value.ref b = Value.ref b' ∧ as[j']? = some b' ∧ kvs[j']? = some e' then h.choose_spec.choose_spec.choose.1 else ⟨#[]⟩) = e.1
    rw [dif_pos ex]
    obtain ⟨q1, q2, q3⟩ := ex.choose_spec.choose_spec.choose_spec
    generalize ex.choose_spec.choose_spec.choose = e' at *
    generalize ex.choose_spec.choose = b' at *
    generalize ex.choose = j' at *
    cases q1
    have eij : j' = j := (List.getElem?_inj (List.getElem?_eq_some_iff.mp q2).1 ndA).mp (q2.trans h1.symm)
    subst eij
    rw [Option.some.inj (q3.symm.trans h2)]
  have at_ : ∀ v ∈ as.map Value.ref, ∃ (j : Nat) (b : Addr) (e : Str × V), v = .ref b ∧ as[j]? = some b ∧ kvs[j]? = some e := by
    intro v hv'
    obtain ⟨b, hb, rfl⟩ := List.mem_map.mp hv'
    obtain ⟨j, hj⟩ := List.mem_iff_getElem?.mp hb
    obtain ⟨e, _, _, he, _⟩ := pr j b hj
    exact ⟨j, b, e, rfl, hj, he⟩
  have fs : ∀ v ∈ as.map Value.ref, FsS h2 v (kx v) := fun v hv => by
    obtain ⟨j, b, e, rfl, hj, he⟩ := at_ v hv
    obtain ⟨e', tk', v', he', _, hg⟩ := pr j b hj
    have ee : e' = e := Option.some.inj (he'.symm.trans he)
    subst ee
    rw [hkx j b e' hj he]
    exact ⟨b, _, tk', rfl, ⟨_, ka _ _ hg, rfl, 0, rfl⟩, rfl⟩
  have un : ∀ v ∈ as.map Value.ref, ∀ u ∈ as.map Value.ref, v ≠ u → kx v ≠ kx u := fun v hv u hu ne e => by
    obtain ⟨j, b, e1, rfl, hj, he⟩ := at_ v hv
    obtain ⟨j', b', e2, rfl, hj', he'⟩ := at_ u hu
    rw [hkx j b e1 hj he, hkx j' b' e2 hj' he'] at e
    have ej : j = j' := by
      have m1 : (kvs.map (·.1))[j]? = some e1.1 := by rw [List.getElem?_map, he]; rfl
      have m2 : (kvs.map (·.1))[j']? = some e2.1 := by rw [List.getElem?_map, he']; rfl
      exact (List.getElem?_inj (List.getElem?_eq_some_iff.mp m1).1 nd).mp (m1.trans (by rw [m2, e]))
    subst ej
    rw [hj] at hj'
    cases hj'
    exact ne rfl
  have hzl : (as.map Value.ref).length ≤ sizeLine := by rw [List.length_map, lak]; exact zk
  refine wpAny_call_entry PyProof.Rows.slot_list_sort ⟨_, hob, rfl⟩ PyProof.Rows.entry_list_sort
    (SrtO.list_sort_ord (s := { s with heap := h2, toks := tk }) (swo_s kx) hob hzl (fun h2' => fsS_sortable (s := { s with heap := h2, toks := tk }) h2' fs un fun o e => ?_) fun out hs' hb => ⟨.none, rfl, ?_⟩) (PyProof.Rows.args_list_sort _)
  · have e' : some o = some (seqObj "list" (as.map Value.ref).toArray 0) := e.symm.trans hob
    cases e'
    intro c
    exact absurd (Value.type.inj c) (by decide)
  · show EP X pins σ Q (.ref h'.objs.size) { s with heap := sortedHeap h2 h'.objs.size (as.map Value.ref) out.toArray, toks := tk }
    have m1 : (as.zip kvs).map (fun z : Addr × Str × V => Value.ref z.1) = as.map Value.ref := by
      rw [show (fun z : Addr × Str × V => Value.ref z.1) = Value.ref ∘ Prod.fst from rfl, ← List.map_map, List.map_fst_zip (by omega)]
    have m2 : (as.zip kvs).map (·.2) = kvs := List.map_snd_zip (by rw [lak]; exact Nat.le_refl _)
    obtain ⟨zs, pz, ez⟩ := perm_lift hb.perm (as.zip kvs) m1
    have idx : ∀ z ∈ zs, ∃ j : Nat, as[j]? = some z.1 ∧ kvs[j]? = some z.2 := by
      intro z' hz'
      obtain ⟨j, hj⟩ := List.mem_iff_getElem?.mp (pz.mem_iff.mp hz')
      exact ⟨j, List.getElem?_zip_eq_some.mp hj⟩
    have hperm : (zs.map (·.2)).Perm kvs := by
      have e := pz.map (·.2)
      rwa [m2] at e
    have hsort : zs.Pairwise (fun e f => sLt e.2.1 f.2.1 = true) := by
      have c : (zs.map fun z : Addr × Str × V => Value.ref z.1).Pairwise fun x y => sLt (kx y) (kx x) = false := by rw [ez]; exact hs'
      have c2 := List.pairwise_map.mp c
      have d : ((zs.map (·.2)).map (·.1)).Nodup := (hperm.map (·.1)).nodup_iff.mpr nd
      rw [List.map_map] at d
      have d2 := List.pairwise_map.mp d
      refine List.Pairwise.imp_of_mem (fun {x y} hx hy h => ?_) (c2.and d2)
      obtain ⟨j, j1, j2⟩ := idx x hx
      obtain ⟨i, i1, i2⟩ := idx y hy
      obtain ⟨h1, h3⟩ := h
      rw [hkx j _ _ j1 j2, hkx i _ _ i1 i2] at h1
      exact sLt_tri h3 h1
    -- behind the sort
    have kF : ∀ b o, b ≠ h'.objs.size → h2.get? b = some o → (sortedHeap h2 h'.objs.size (as.map Value.ref) out.toArray).get? b = some o := fun b o hb e => (PyProof.Rows.sortedHeap_old hb (Heap.lt_size e)).trans e
    have kS : ∀ b o, s.heap.get? b = some o → (sortedHeap h2 h'.objs.size (as.map Value.ref) out.toArray).get? b = some o := fun b o e => kF b o (ne0 _ _ (hk b o e)) (kb b o e)
    obtain ⟨eF, heF⟩ := PyProof.Rows.sortedHeap_at (vs := as.map Value.ref) (out := out.toArray) hob
    have I1 : Inv X pins σ H { s with heap := sortedHeap h2 h'.objs.size (as.map Value.ref) out.toArray, toks := tk } := I.kept (t' := tk) kS
    have hn0 : H h'.objs.size = none := I.hok.fresh (Nat.le_of_lt hlt)
    have hlen : (zs.map fun z => V.ref z.1).length ≤ sizeLine := by
      have e := hperm.length_eq
      rw [List.length_map] at e
      rw [List.length_map, e]
      exact zk
    have rv : Vals (zs.map fun z => V.ref z.1) out := by
      rw [← ez]
      exact vals_maps (fun z : Addr × Str × V => V.ref z.1) (fun z => Value.ref z.1) zs fun _ _ => rfl
    have I2 : Inv X pins σ (upd H h'.objs.size (.lst (zs.map fun z => V.ref z.1))) { s with heap := sortedHeap h2 h'.objs.size (as.map Value.ref) out.toArray, toks := tk } :=
      I1.take (h' := sortedHeap h2 h'.objs.size (as.map Value.ref) out.toArray) (t' := tk) (fun b ob _ e => e) (I.fpOk (Nat.le_of_lt hlt) hn0) ⟨hlen, out, eF, rv, heF⟩
    have fr : ∀ b ∈ as, s.heap.objs.size ≤ b ∧ b ≠ h'.objs.size := fun b hb => by
      obtain ⟨j, hj⟩ := List.mem_iff_getElem?.mp hb
      obtain ⟨_, _, _, _, _, hg⟩ := pr j b hj
      exact ⟨Nat.le_of_lt (hG.above b hb), ne0 _ _ hg⟩
    obtain ⟨H2, I3, g, qt⟩ := L2.DX.takeT (P := fun b vs => ∃ (j : Nat) (e : Str × V), as[j]? = some b ∧ kvs[j]? = some e ∧ vs = [.str e.1, e.2]) I as _ I2 ndA fun b hb => by
      obtain ⟨j, hj⟩ := List.mem_iff_getElem?.mp hb
      obtain ⟨e, tk', v, he, hv, hg⟩ := pr j b hj
      obtain ⟨f1, f2⟩ := fr b hb
      refine ⟨f1, ?_, [.str e.1, e.2], ⟨j, e, hj, he, rfl⟩, fun H3 => ⟨(by rw [sizeLine_eq]; show 2 ≤ 16777216; omega), [Value.str e.1 tk', v], .cons ⟨tk', rfl⟩ (.cons hv .nil), ⟨_, kF _ _ (ne0 _ _ hg) (ka _ _ hg), rfl, 0, rfl⟩⟩⟩
      rw [upd_ne f2]
      exact I.hok.fresh f1
    have gr : ∀ b o, H b = some o → H2 b = some o := fun b o e => g b o (by rw [upd_ne (ne_of_none e hn0)]; exact e)
    refine ⟨.ref h'.objs.size, H2, I3, rfl, q H2 h'.objs.size zs nd gr hperm hsort hn0 (g _ _ upd_same) fun z' hz' => ?_⟩
    obtain ⟨i, i1, i2⟩ := idx z' hz'
    have hm := List.mem_of_getElem? i1
    obtain ⟨vs, ⟨j, e, j1, j2, ev⟩, hH⟩ := qt z'.1 hm
    have eij : i = j := (List.getElem?_inj (List.getElem?_eq_some_iff.mp i1).1 ndA).mp (i1.trans j1.symm)
    subst eij
    have ee : e = z'.2 := Option.some.inj (j2.symm.trans i2)
    rw [ev, ee] at hH
    obtain ⟨f1, f2⟩ := fr _ hm
    exact ⟨f2, I.hok.fresh f1, hH⟩
end
/-! ### over data -/
def strKV : List (Key × D) → Option (List (Str × D))
  | [] => some []
  | (.inr s, d) :: r => (strKV r).map ((s, d) :: ·)
  | _ => none
theorem strKV_map : ∀ {kvs : List (Key × D)} {ks : List (Str × D)}, strKV kvs = some ks → kvs = ks.map fun e => (Sum.inr e.1, e.2)
  | [], _, e => by cases e; rfl
  | (.inr s, d) :: r, ks, e => by
    have e : (strKV r).map ((s, d) :: ·) = some ks := e
    obtain ⟨l, h1, h2⟩ := Option.map_eq_some_iff.mp e
    subst h2
    rw [List.map_cons, ← strKV_map h1]
  | (.inl _, _) :: _, _, e => by cases e
@[reducible] def itmD (e : Str × D) : D := .tuple [.str e.1, e.2]
@[reducible] def wDItems (i : Nat) : WE := fun ρ Q _ => match rget ρ i with
  | .own _ (.dct kvs) => optK (strKV kvs) fun ks => ∀ ys : List (Str × D), (ks.map (·.1)).Nodup → ys.Perm ks → ys.Pairwise (fun e f => sLt e.1 f.1 = true) → Q (.own 0 (.lst (ys.map itmD))) ρ
  | _ => False
theorem dkv_str {K : PySem.W.Frag} {B : Hp} : ∀ {ks : List (Key × V)} {es : List (Str × D)}, DpKV K B ks (es.map fun e => (Sum.inr e.1, e.2)) → ∃ ws : List (Str × V × D), ks = ws.map (fun w => (Sum.inr w.1, w.2.1)) ∧ es = ws.map (fun w => (w.1, w.2.2)) ∧ ∀ w ∈ ws, Dp K B w.2.1 w.2.2
  | [], [], _ => ⟨[], rfl, rfl, fun w h => nomatch h⟩
  | k :: ks, e :: es, h => by
    obtain ⟨h1, h2, h3⟩ := h
    obtain ⟨ws, a, b, c⟩ := dkv_str h3
    obtain ⟨k1, k2⟩ := k
    have h1 : k1 = Sum.inr e.1 := h1
    refine ⟨(e.1, k2, e.2) :: ws, by rw [h1, a]; rfl, by rw [b]; rfl, fun w hw => ?_⟩
    rcases List.mem_cons.mp hw with z | hw
    · rw [z]; exact h2
    · exact c w hw
  | [], _ :: _, h => h.elim
  | _ :: _, [], h => h.elim
theorem dp_items {K : PySem.W.Frag} {B : Hp} : ∀ {ps : List (Addr × Str × V)} {ws : List (Str × V × D)}, ps.map (·.2) = ws.map (fun w => (w.1, w.2.1)) → (∀ z ∈ ps, B z.1 = some (.tup [.str z.2.1, z.2.2])) → (∀ w ∈ ws, Dp K B w.2.1 w.2.2) →
    DpAll K B (ps.map fun z => V.ref z.1) ((ws.map fun w => (w.1, w.2.2)).map itmD)
  | [], [], _, _, _ => .nil
  | z :: ps, w :: ws, e, h1, h2 => by
    obtain ⟨e1, e2⟩ := List.cons.inj e
    obtain ⟨z1, z2, z3⟩ := z
    obtain ⟨rfl, rfl⟩ := Prod.mk.inj e1
    exact .cons (.tup (.inl (.inl (h1 _ (.head _)))) (.cons (.str _) (.cons (h2 w (.head _)) .nil))) (dp_items e2 (fun y hy => h1 y (.tail _ hy)) fun y hy => h2 y (.tail _ hy))
  | [], _ :: _, e, _, _ => nomatch e
  | _ :: _, [], e, _, _ => nomatch e
section
variable {X : Cx} {g : G} {W : WX} {i : Nat} {x : Str} {p p2 apos cpos pos : Pos}
theorem ee_ditems (hc : X.calm = true) (hg : Gl X "sorted") (hm : X.mg "sorted" = none) (hx : PE X (.Name x p) (tVar i)) (hbase : attributeBase (.Name x p) "items" X.env (eval (.Name x p) X.env) = eval (.Name x p) X.env := by rfl) (hline : (apos.endLine == cpos.line) = true := by rfl)
    (he : starEach [.Call (.Attribute (.Name x p) "items" apos) [] [] cpos] X.env = (false, eval (.Call (.Attribute (.Name x p) "items" apos) [] [] cpos) X.env) :: starEach [] X.env := by rfl) (hpl : (backTo pos (starEach [] X.env)).any (·.1) = false := by rfl) :
    EE X g W (.Call (.Name "sorted" p2) [.Call (.Attribute (.Name x p) "items" apos) [] [] cpos] [] pos) (wDItems i) := by
  refine ⟨_, pe_callB (cr_sortIK hc) hg hm (by decide +kernel) (pa_cons (pe_bm0 PySem.F.plainAttrs_dict PySem.F.slot_dict_items PySem.F.type_dict_items mt_itemsK hx hbase hline) pa_nil he) (by decide) (by decide) he hpl, fun σ vs H ρ cs QD ED Q hS hw hX hQ => ?_⟩
  unfold wDItems at hw
  split at hw
  · rename_i t0 kvs e0
    obtain ⟨a, ks, e1, e2, e3⟩ := own_dict hS e0
    cases es : strKV kvs with
    | none => rw [es] at hw; exact hw.elim
    | some ss =>
      rw [es] at hw
      have hw : ∀ ys : List (Str × D), (ss.map (·.1)).Nodup → ys.Perm ss → ys.Pairwise (fun e f => sLt e.1 f.1 = true) → QD (.own 0 (.lst (ys.map itmD))) ρ := hw
      rw [strKV_map es] at e3
      obtain ⟨ws, w1, w2, w3⟩ := dkv_str e3
      refine ⟨.ref a, e1, .inr (.inr (.inl ⟨rfl, .inl ⟨_, e2⟩⟩)), a, ks, rfl, rfl, e2, fun pv pn => ⟨pv, a, ws.map (fun w => (w.1, w.2.1)), rfl, upd_same, ?_, fun H' l ps nd gr pm pw ln hl hz => ?_⟩⟩
      · rw [upd_ne (ne_of_none e2 pn), e2, w1, List.map_map]; rfl
      · obtain ⟨ws', p1, p2⟩ := perm_lift pm ws rfl
        have nd2 : (ss.map (·.1)).Nodup := by
          rw [List.map_map] at nd
          rw [w2, List.map_map]
          exact nd
        have old : ∀ {b : Addr}, upd H pv (L2.DX.itemsO pv a) b = none → H b = none := fun {b} q => by
          by_cases z : b = pv
          · subst z; rw [upd_same] at q; cases q
          · rwa [upd_ne z] at q
        have gr0 : Same H H' := fun b o q => gr b o (by rw [upd_ne (ne_of_none q pn)]; exact q)
        have pw2 : (ws'.map fun w => (w.1, w.2.2)).Pairwise (fun e f : Str × D => sLt e.1 f.1 = true) := by
          have c : (ps.map (·.2)).Pairwise (fun e f : Str × V => sLt e.1 f.1 = true) := List.pairwise_map.mpr pw
          rw [← p2] at c
          exact List.pairwise_map.mpr (List.pairwise_map.mp c)
        have out : ∀ b ∈ l :: (tot σ vs ρ cs ++ g.P0), b = l ∨ ∃ u, H b = some u := fun b hb => by
          rcases List.mem_cons.mp hb with z | z
          · exact .inl z
          · exact .inr (hS.domO b z)
        refine hQ (.ref l) H' (.own 0 (.lst ((ws'.map fun w => (w.1, w.2.2)).map itmD))) ρ (SR.res hS gr0 ⟨rfl, l, rfl, old ln, _, hl, dp_items p2.symm (fun z hz' => ?_) fun w hw' => ?_⟩) (hw _ nd2 (by rw [w2]; exact p1.map _) pw2)
        · obtain ⟨h1, h2, h3⟩ := hz z hz'
          refine hide_some.mpr ⟨fun m => ?_, h3⟩
          rcases out _ m with e | ⟨u, e⟩
          · exact h1 e
          · rw [old h2] at e; cases e
        · refine dp_mono (fun b o q => ?_) _ _ (w3 w (p1.mem_iff.mp hw'))
          obtain ⟨q1, q2⟩ := hide_some.mp q
          refine hide_some.mpr ⟨fun m => ?_, gr0 _ _ q2⟩
          rcases List.mem_cons.mp m with e | m
          · rw [e, old ln] at q2; cases q2
          · exact q1 m
  · exact hw.elim
end
/-! ### sorted(d), the keys texts -/
def txS : Value → Str
  | .str x _ => x
  | _ => ⟨#[]⟩
section
variable {prog : Program} {w : World} {A : Around} {s : Shared}
theorem strs_are : ∀ {vs : List Value} {ss : List Str}, StrsAre vs ss → ss = vs.map txS ∧ ∀ v ∈ vs, ∃ t, v = .str (txS v) t
  | _, _, .nil => ⟨rfl, fun v h => nomatch h⟩
  | _, _, .cons y t h => by
    obtain ⟨a, b⟩ := strs_are h
    refine ⟨by rw [List.map_cons, ← a]; rfl, fun v hv => ?_⟩
    rcases List.mem_cons.mp hv with e | hv
    · rw [e]; exact ⟨t, rfl⟩
    · exact b v hv
theorem str_sortable {a : Addr} {vs : List Value} {ss : List Str} (h2 : 2 ≤ vs.length) (hS : StrsAre vs ss) : SrtO.SortableO prog w A s a vs fun v u => sLt (txS v) (txS u) := by
  intro h' keep
  refine ⟨oneType', fun Q E hq => ?_, fun p q hm hm' => ?_⟩
  · obtain ⟨v1, v2, r, e⟩ : ∃ v1 v2 r, vs = v1 :: v2 :: r := by
      match vs, h2 with
      | v1 :: v2 :: r, _ => exact ⟨v1, v2, r, rfl⟩
    subst e
    rw [keyKind_strs hS]
    exact wpAny_pure hq
  · obtain ⟨t, e1⟩ := (strs_are hS).2 _ hm
    obtain ⟨u, e2⟩ := (strs_are hS).2 _ hm'
    show wpAny (model prog w) A (keyLt' oneType' p.1 q.1) (fun r s' => s' = { s with heap := h' } ∧ r = sLt (txS p.1) (txS q.1)) (fun _ _ => False) _
    rw [e1, e2]
    exact PySem.W.kas_lt_str ⟨rfl, sLt_eq _ _⟩
end
section
variable {X : Cx}
theorem cr_sortDS (hcalm : X.calm = true) : CallR X (.builtin "sorted") (fun xs H Q => ∃ (a : Addr) (kvs : List (Key × V)) (ks : List Str), xs = [.ref a] ∧ Rd H a (.dK kvs) ∧ kvs.map (·.1) = ks.map Sum.inr ∧
    ∀ (ys : List Str) (p : Addr), ks.Nodup → ys.Perm ks → ys.Pairwise (fun x y => sLt x y = true) → H p = none → Q (.ref p) (upd H p (.lst (ys.map V.str)))) := by
  intro pins s σ H xs us Q I r q
  obtain ⟨a, kvs, ks, ex, hd, hks, q⟩ := q
  subst ex
  obtain ⟨u, eu, rx⟩ := vals1 r
  subst eu
  cases rx
  obtain ⟨z, lo, vs, rel, dd⟩ := dk_rd I.hok hd
  obtain ⟨ep, hat⟩ := dd.dictAt
  have hkeys : vs.map (·.1) = ks.map Sum.inr := rel.keys.symm.trans hks
  have nd : ks.Nodup := by
    have n0 : (vs.map (·.1)).Nodup := hat.nodup
    rw [hkeys] at n0
    exact List.Pairwise.imp (fun h z => h (by rw [z])) (List.pairwise_map.mp n0)
  have hl : vs.length = ks.length := by
    have e := congrArg List.length hkeys
    rw [List.length_map, List.length_map] at e
    exact e
  have h16 : vs.length ≤ sizeLine := by rw [← rel.length]; exact z
  refine Calls.call_function_entry PyProof.Rows.kind_sorted PyProof.Rows.plain_sorted PyProof.Rows.entry_sorted (PyProof.Rows.args_sorted1 _) ?_
  unfold Builtin.«sorted»
  refine wpAny_bind (m := checkCount "sorted" 1 1 _) (wpAny_pure ?_)
  refine wpAny_bind (PySem.W.kdu_collect (A := X.A.in1) (PySem.W.kdl_dict (knd := mixKind X.prog X.w) (kvs := vs) (ep := ep) lo) (I.ok.hd hcalm) hat h16 fun h' tk acc hk hacc => ?_)
  have hal : acc.toList.length = ks.length := by rw [Array.length_toList, hacc.1, hl]
  have hS : StrsAre acc.toList ks := strs_at hal fun j v e => by
    obtain ⟨k, x, e1, e2⟩ := hacc.2 j v (by rw [← Array.getElem?_toList]; exact e)
    have e3 : (vs.map (·.1))[j]? = some k := by rw [List.getElem?_map, e1]; all_goals rfl
    rw [hkeys, List.getElem?_map] at e3
    cases e4 : ks[j]? with
    | none => rw [e4] at e3; cases e3
    | some y =>
      rw [e4] at e3
      have e5 : Sum.inr y = k := Option.some.inj e3
      subst e5
      obtain ⟨t, ev⟩ := Value.isStrOf_shape (x := y) (v := v) e2
      exact ⟨y, t, rfl, ev⟩
  have hzl : acc.toList.length ≤ sizeLine := by rw [hal, ← hl]; exact h16
  have I1 : Inv X pins σ H { s with heap := h', toks := tk } := I.kept hk
  refine wpAny_bind (wpAny_newList ?_ hzl)
  have hoL : (h'.push (seqObj "list" acc.toList.toArray 0)).get? h'.objs.size = some (seqObj "list" acc.toList.toArray 0) := Heap.get?_push_size _ rfl
  show wpAny _ _ _ _ _ { s with heap := h'.push (seqObj "list" acc.toList.toArray 0), toks := tk }
  refine wpAny_bind (wpAny_holding (wpAny_call_entry PyProof.Rows.slot_list_sort ⟨_, hoL, rfl⟩ PyProof.Rows.entry_list_sort
    (SrtO.list_sort_ord (s := { s with heap := h'.push (seqObj "list" acc.toList.toArray 0), toks := tk }) (swo_s txS) hoL hzl (fun h2 => str_sortable h2 hS) fun out hs hb => ⟨_, rfl, ?_⟩)
    (PyProof.Rows.args_list_sort _)))
  obtain ⟨e', he'⟩ := PyProof.Rows.sortedHeap_at (vs := acc.toList) (out := out.toArray) hoL
  obtain ⟨sa, sb⟩ := strs_are hS
  have so : ∀ v ∈ out, ∃ t, v = .str (txS v) t := fun v hv => sb v (hb.perm.mem_iff.mp hv)
  have pm : (out.map txS).Perm ks := by rw [sa]; exact hb.perm.map txS
  have pw : (out.map txS).Pairwise (fun x y => sLt x y = true) := by
    have nd' : (out.map txS).Nodup := pm.nodup_iff.mpr nd
    refine List.pairwise_map.mpr (List.Pairwise.imp (fun {x y} h => sLt_tri h.2 h.1) ((show out.Pairwise fun x y => sLt (txS y) (txS x) = false from hs).and (List.pairwise_map.mp nd')))
  have hlen : ((out.map txS).map V.str).length ≤ sizeLine := by
    rw [List.length_map, pm.length_eq, ← hl]
    exact h16
  have rv : Vals ((out.map txS).map V.str) out := by
    have go : ∀ l : List Value, (∀ v ∈ l, ∃ t, v = .str (txS v) t) → Vals ((l.map txS).map V.str) l := fun l => by
      induction l with
      | nil => exact fun _ => .nil
      | cons v l ih =>
        intro h
        exact .cons (h v (.head _)) (ih fun u hu => h u (.tail _ hu))
    exact go out so
  refine wpAny_pure ⟨_, rfl, .ref h'.objs.size, upd H h'.objs.size (.lst ((out.map txS).map V.str)), I1.laid (t' := tk) (fun b u e => ?_) (Nat.le_refl _)
    (show ObjOk X.prog X.w _ _ _ (.lst ((out.map txS).map V.str)) from ⟨hlen, out, e', rv, he'⟩), rfl, q (out.map txS) _ nd pm pw (I1.hok.fresh (Nat.le_refl _))⟩
  have hb' : b < h'.objs.size := Heap.lt_size e
  rw [PyProof.Rows.sortedHeap_old (Nat.ne_of_lt hb') (by rw [size_push']; exact Nat.lt_succ_of_lt hb')]
  exact Heap.get?_push_of_some _ e
end
@[reducible] def wDSort (i : Nat) : WE := fun ρ Q _ => match rget ρ i with
  | .own _ (.dct kvs) => optK (strKs kvs) fun ks => ∀ ys : List Str, ks.Nodup → ys.Perm ks → ys.Pairwise (fun x y => sLt x y = true) → Q (.own 0 (.lst (ys.map PyData.str))) ρ
  | _ => False
section
variable {X : Cx} {g : G} {W : WX} {i : Nat} {x : Str} {p p2 pos : Pos}
theorem ee_dsort (hc : X.calm = true) (hg : Gl X "sorted") (hm : X.mg "sorted" = none) (hx : PE X (.Name x p) (tVar i)) (he : starEach [.Name x p] X.env = (false, eval (.Name x p) X.env) :: starEach [] X.env := by rfl) (hpl : (backTo pos (starEach [] X.env)).any (·.1) = false := by rfl) :
    EE X g W (.Call (.Name "sorted" p2) [.Name x p] [] pos) (wDSort i) := by
  refine ⟨_, pe_callB (cr_sortDS hc) hg hm (by decide +kernel) (pa_cons hx pa_nil he) (by decide) (by decide) he hpl, fun σ vs H ρ cs QD ED Q hS hw hX hQ => ?_⟩
  unfold wDSort at hw
  split at hw
  · rename_i t0 kvs e0
    obtain ⟨a, ks, e1, e2, e3⟩ := own_dict hS e0
    cases es : strKs kvs with
    | none => rw [es] at hw; exact hw.elim
    | some ss =>
      rw [es] at hw
      have hw : ∀ ys : List Str, ss.Nodup → ys.Perm ss → ys.Pairwise (fun x y => sLt x y = true) → QD (.own 0 (.lst (ys.map PyData.str))) ρ := hw
      refine ⟨.ref a, e1, a, ks, ss, rfl, .inl e2, (dkv_keys e3).trans (strKs_map es), fun ys pp nd q1 q2 n => ?_⟩
      exact hQ _ _ _ ρ (SR.res hS (same_new n) (new_lst n (dp_strs ys))) (hw ys nd q1 q2)
  · exact hw.elim
end
/-! ### texts compared -/
@[reducible] def oLtS : O2 := fun d1 d2 k => match d1, d2 with
  | .str i, .str j => k (.v (.bool (sLt i j)))
  | _, _ => False
theorem lift_ltS {K : PySem.W.Frag} : Lift2 K (fun x y H Q => ∃ i j, x = V.str i ∧ y = V.str j ∧ Q (.bl (decide (i.cps.toList < j.cps.toList))) H) oLtS := by
  intro O H x y dx dy QD Q _ hx hy q fin
  unfold oLtS at q
  cases hx <;> try exact q.elim
  cases hy <;> try exact q.elim
  exact ⟨_, _, rfl, rfl, fin _ H (.v _) (Same.refl H) (.bl _) (by rw [sLt_eq]; exact q)⟩
section
variable {X : Cx} {g : G} {W : WX} {a b : Expr} {wa wb : WE} {pos : Pos}
theorem ee_ltS (ha : EE X g W a wa) (hb : EE X g W b wb) : EE X g W (.Compare a [.Lt] [b] pos) (wB oLtS wa wb) := ee_cmp op_lt_str lift_ltS ha hb (nomark _)
theorem et_ltS (ha : EE X g W a wa) (hb : EE X g W b wb) : ET X g W (.Compare a [.Lt] [b] pos) (wTst (wB oLtS wa wb)) := et_cmp op_lt_str lift_ltS ha hb (nomark _)
end
end DL

set_option Elab.async false
set_option linter.all false
set_option maxRecDepth 100000
set_option maxHeartbeats 4000000
/-! DLDflt: calls that leave out parameters whose defaults are whole numbers -/
namespace DL
open PySem PySem.Spec PyProof.Rows L2
@[reducible] def wCallD (S : SpD) (ns : List Int) (wa : WA) : WE := fun ρ Q E => wa ρ (fun ccs ρ1 => callK S ρ1 (ccs ++ ns.map fun i => C.v (.int i)) Q E) E
structure HasD (P : Program) (w : World) (K : PySem.W.Frag) (mg : Str → Option Value) (base : Heap) (k : Nat) (x : Str) (S : SpD) (dvs : List Int) : Prop where
  ex : ∃ (f : Addr) (fd : FuncData) (ps : List Str), FnOk P w K mg base (L2.CX P w) k f fd ps (spOf K S) ∧ mg x = some (.ref f) ∧ PySem.W.keepIn K (.ref f) = true ∧ ∀ j, j ≤ dvs.length → ∃ ds, Vals ((dvs.drop j).map V.int) ds ∧ Binds K fd ps ds
theorem SR.pushInts {K : PySem.W.Frag} {g : G} {σ : L2.St} {vs : List V} {H : Hp} {ρ : Rho} {cs : List C} : ∀ (ns : List Int) {xs : List V} {ccs : List C}, xs.length = ccs.length → SR K g σ (xs ++ vs) H ρ (ccs ++ cs) → SR K g σ ((xs ++ ns.map V.int) ++ vs) H ρ ((ccs ++ ns.map fun i => C.v (.int i)) ++ cs)
  | [], xs, ccs, _, h => by
    rw [List.map_nil, List.map_nil, List.append_nil, List.append_nil]
    exact h
  | n :: ns, xs, ccs, hl, h => by
    have h1 : SR K g σ (V.int n :: (xs ++ vs)) H ρ (C.v (.int n) :: (ccs ++ cs)) := SR.resV h (Same.refl H) (.int n)
    have h2 := SR.unrot hl h1
    have h3 : SR K g σ ((xs ++ [V.int n]) ++ vs) H ρ ((ccs ++ [C.v (.int n)]) ++ cs) := by
      rw [List.append_assoc, List.append_assoc]
      exact h2
    have h4 := SR.pushInts ns (xs := xs ++ [V.int n]) (ccs := ccs ++ [C.v (.int n)]) (by rw [List.length_append, List.length_append, hl]; rfl) h3
    rw [List.append_assoc xs, List.append_assoc ccs] at h4
    exact h4
section
variable {X : Cx} {g : G} {W : WX} {CX : CXT} {k : Nat} {f : Addr} {fd : FuncData} {ps : List Str} {S : SpD} {E : XK} {x : Str} {p pos : Pos} {e : Expr} {es : List Expr} {wa : WA}
theorem ee_callDf {ns : List Int} {ds : List Value} (F : FnOk X.prog X.w X.K X.mg X.base CX k f fd ps (spOf X.K S)) (hr : Room k X.A) (hg : Gl X x) (hm : X.mg x = some (.ref f)) (hk : PySem.W.keepIn X.K (.ref f) = true) (hb : Binds X.K fd ps ds) (hv : Vals (ns.map V.int) ds) (hx : Passes CX X E) (hE : ∀ cls d σ H, W cls d σ H → E cls d H)
    (ha : EA X g W (e :: es) wa) (hdb : (x == ("__debug__" : Str)) = false := by decide) (he : starEach (e :: es) X.env = (false, eval e X.env) :: starEach es X.env := by rfl) (hpl : (backTo pos (starEach es X.env)).any (·.1) = false := by rfl) :
    EE X g W (.Call (.Name x p) (e :: es) [] pos) (wCallD S ns wa) := by
  obtain ⟨t, q, s⟩ := ha.ex
  refine ⟨_, pe_call F hr hg hm hk hb hv hx q hdb he hpl, fun σ vs H ρ cs QD ED Q hS hw hX hQ => ?_⟩
  refine s σ vs H ρ cs _ ED _ hS hw hX fun xs H1 ccs ρ1 hl S1 q1 => ?_
  exact SR.callD (by rw [List.length_append, List.length_append, hl, List.length_map, List.length_map]) (SR.pushInts ns hl S1) q1 hX hE fun v H' c S3 q3 => hQ v H' c ρ1 S3 q3
variable {dvs : List Int}
theorem ee_hasD {j : Nat} (h : HasD X.prog X.w X.K X.mg X.base k x S dvs) (hj : j ≤ dvs.length) (hr : Room k X.A) (hg : Gl X x) (ha : EA X g W0 (e :: es) wa) (hdb : (x == ("__debug__" : Str)) = false := by decide)
    (he : starEach (e :: es) X.env = (false, eval e X.env) :: starEach es X.env := by rfl) (hpl : (backTo pos (starEach es X.env)).any (·.1) = false := by rfl) : EE X g W0 (.Call (.Name x p) (e :: es) [] pos) (wCallD S (dvs.drop j) wa) := by
  obtain ⟨f, fd, ps, F, hm, hk, hb⟩ := h.ex
  obtain ⟨ds, hv, hb⟩ := hb j hj
  exact ee_callDf F hr hg hm hk hb hv passL (fun _ _ _ _ z => z) ha hdb he hpl
theorem ee_hasDX {E : XK} {j : Nat} (h : HasD X.prog X.w X.K X.mg X.base k x S dvs) (hj : j ≤ dvs.length) (hr : Room k X.A) (hg : Gl X x) (tk : Takes X fun cls d _ H => E cls d H) (ha : EA X g (fun cls d _ H => E cls d H) (e :: es) wa) (hdb : (x == ("__debug__" : Str)) = false := by decide)
    (he : starEach (e :: es) X.env = (false, eval e X.env) :: starEach es X.env := by rfl) (hpl : (backTo pos (starEach es X.env)).any (·.1) = false := by rfl) : EE X g (fun cls d _ H => E cls d H) (.Call (.Name x p) (e :: es) [] pos) (wCallD S (dvs.drop j) wa) := by
  obtain ⟨f, fd, ps, F, hm, hk, hb⟩ := h.ex
  obtain ⟨ds, hv, hb⟩ := hb j hj
  exact ee_callDf F hr hg hm hk hb hv (passes_call tk fun _ _ _ _ z => z) (fun _ _ _ _ z => z) ha hdb he hpl
end
end DL

set_option Elab.async false
set_option linter.all false
set_option maxRecDepth 100000
set_option maxHeartbeats 4000000
/-! DL: try .. except in a def's own suite; isinstance of what is caught -/
namespace DL
open PySem PySem.Spec PyProof.Rows L2
/-! ### blocks that stand in no loop -/
def tOf (K : PySem.W.Frag) (g : G) (W : WX) (w : WS) : TS := fun D σ H => ∃ ρ DD, SR K g σ [] H ρ [] ∧ w DD ρ ∧ EndsOk K g W [] [] DD D
structure ES0 (X : Cx) (g : G) (W : WX) (st : Stmt) (w : WS) : Prop where
  ex : PS X st (tOf X.K g W w)
structure EB0 (X : Cx) (g : G) (W : WX) (sts : List Stmt) (w : WS) : Prop where
  ex : PSs X sts (tOf X.K g W w)
theorem plainAll_nil : plainAll [] := fun c h => nomatch h
section
variable {X : Cx} {g : G} {W : WX} {st : Stmt} {rest sts : List Stmt} {w u : WS}
theorem es0_of (h : ES X g W st w) : ES0 X g W st w := by
  obtain ⟨t, p, s⟩ := h.ex
  exact ⟨⟨fun pins s' σ H D I ⟨ρ, DD, a, b, c⟩ => p.run pins s' σ H D I (s σ [] H ρ [] DD D a plainAll_nil b c)⟩⟩
theorem eb0_of (h : EB X g W sts w) : EB0 X g W sts w := by
  obtain ⟨t, p, s⟩ := h.ex
  exact ⟨⟨fun pins s' σ H D I ⟨ρ, DD, a, b, c⟩ => p.run pins s' σ H D I (s σ [] H ρ [] DD D a plainAll_nil b c)⟩⟩
theorem eb0_cons (h : ES0 X g W st w) (h' : EB0 X g W rest u) : EB0 X g W (st :: rest) (wSeq w u) := by
  have p := pss_cons h.ex h'.ex
  refine ⟨⟨fun pins s' σ H D I ⟨ρ, DD, a, b, c⟩ => p.run pins s' σ H D I ?_⟩⟩
  exact ⟨ρ, _, a, b, ⟨fun σ' H' ρ' S' q => ⟨ρ', DD, S', q, c⟩, c.bk, c.ct, c.rt, c.ex⟩⟩
theorem eb0_one (h : ES0 X g W st w) : EB0 X g W [st] w := by
  have p := pss_one h.ex
  exact ⟨⟨fun pins s' σ H D I q => p.run pins s' σ H D I q⟩⟩
end
/-! ### the body of a def -/
section
variable {P : Program} {w : World} {K : PySem.W.Frag} {mg : Str → Option Value} {base : Heap} {x qual : Str} {params : Arguments} {body : List Stmt} {scope : Scope} {dvs : List V} {kws : List (Str × V)} {f : Addr} {fd : FuncData}
theorem body_ok0 {X : Cx} (hK : X.K = K) {N : List Str} {n : Nat} (hn : N.length = n) {Sd : SpD} {ww : WS} {L : Nat → Bool} {W : WX} {E : XK} (hE : ∀ cls d σ H, E cls d H → W cls d σ H)
    (hb : ∀ g : G, g.L = L → EB0 X g W body ww) (hw : ∀ as QD ED, Sd as QD ED → ww (bodyEnds as QD ED) (startD n as)) {vs : List V} {H : Hp} {Q : VK} (h : spOf K Sd vs H Q E) :
    ∃ t, PSs X body t ∧ t { nx := fun _ H' => Q .non H', rt := Q } (L2.start N vs) H := by
  subst hK
  obtain ⟨as, P, QD, ED, entry, sd, ret, exc⟩ := h
  have p := (hb ⟨H, tgOf vs, foot (vs.map some) as, P, L⟩ rfl).ex
  have e1 : SR X.K ⟨H, tgOf vs, foot (vs.map some) as, P, L⟩ (vs.map some) [] H as [] := entry.setL rfl rfl rfl rfl fun i q => by simp at q
  refine ⟨_, p, startD n as, _, start_SR hn entry, hw as QD ED sd, ⟨fun σ' H' ρ' S' q => ?_, fun _ _ _ _ q => q, fun _ _ _ _ q => q, fun v σ' H' c ρ' S' q => ?_, fun σ' y ρ' cls d H' S' xr ed => ?_⟩⟩
  · obtain ⟨S2, _⟩ := SR.leave e1 rfl rfl (SR.resV S' (Same.refl H') .non) (fun q hq => by first | (rw [List.mem_singleton.mp hq]; done) | (rw [List.mem_singleton.mp hq]; rfl))
    exact ret _ _ rfl q _ H' (S2.setL rfl rfl rfl rfl fun i z => by simp at z)
  · obtain ⟨S2, _⟩ := SR.leave e1 rfl rfl S' (fun z hz => by rw [List.mem_singleton.mp hz]; exact q.1)
    refine ret _ _ q.1 q.2 _ H' (S2.setL rfl rfl rfl rfl fun i z => ?_)
    have := q.1
    rcases z with z | z <;> (rw [← List.mem_singleton.mp z] at this; cases this)
  · obtain ⟨S2, o1⟩ := SR.leave e1 rfl rfl S' (fun q hq => by simp at hq)
    refine hE cls d σ' H' (exc y _ ed cls d H' (S2.setL rfl rfl rfl rfl fun i z => by simp at z) (XRep.mono (.inr fun a o e => ?_) xr))
    obtain ⟨h1, h2⟩ := hide_some.mp e
    refine hide_some.mpr ⟨fun z => h1 ?_, h2⟩
    rcases List.mem_append.mp z with z | z
    · refine List.mem_append_left _ ?_
      exact List.mem_append_right _ (o1 a z)
    · exact List.mem_append_right _ z
/-- a def that lets no exception out, with a try in its own suite -/
theorem fnT {CX : CXT} {N ps : List Str} {n k : Nat} {Sd : SpD} {L : Nat → Bool} {ww : WS} (F : FunD K x qual params body scope dvs kws f fd) (S : FnScope N ps scope) (hn : N.length = n) (len : ∀ as QD ED, Sd as QD ED → as.length = ps.length)
    (hb : ∀ (cdv : Value) (A : Around) (outer : List Env) (s : Shared) (H : Hp) (E : XK), Room k (A.deeper (envOfC qual scope s.heap.objs.size f cdv)) → ∀ g : G, g.L = L → EB0 (cxOf CX P w K mg base N qual scope f cdv A outer s H E).nox g (fun _ _ _ _ => False) body ww)
    (hw : ∀ as QD ED, Sd as QD ED → ww (bodyEnds as QD fun _ _ => False) (startD n as)) : FnOk P w K mg base CX (k + 1) f fd ps (spOf K Sd) := by
  refine F.ok S (fun vs H Q E h => ?_) fun cdv A outer s H vs Q E hr h => ?_
  · obtain ⟨as, P, QD, ED, entry, sd, _⟩ := h
    have e := entry.len
    rw [List.length_map] at e
    rw [e, len as QD ED sd]
  · obtain ⟨as, P, QD, ED, entry, sd, ret, exc⟩ := h
    have h2 : spOf K (fun as QD ED' => ED' = (fun _ _ => False) ∧ ∃ ED, Sd as QD ED) vs H Q (fun _ _ _ => False) := ⟨as, P, QD, fun _ _ => False, entry, ⟨rfl, ED, sd⟩, ret, fun x rs z => z.elim⟩
    obtain ⟨t, p, q⟩ := body_ok0 (N := N) (X := (cxOf CX _ w K mg base N qual scope f cdv A outer s H E).nox) (K := K) rfl hn (W := fun _ _ _ _ => False) (E := fun _ _ _ => False) (fun _ _ _ _ z => z)
      (fun g hg => hb cdv A outer s H E hr g hg) (fun as' QD' ED' ⟨z1, ED2, z2⟩ => by rw [z1]; exact hw as' QD' ED2 z2) h2
    exact ⟨t, p.nox, q⟩
end
/-! ### calls of defs that may let exceptions out, within the try -/
section
variable {X : Cx} {g : G} {W : WX} {k : Nat} {S : SpD} {x : Str} {p pos : Pos} {e : Expr} {es : List Expr} {wa : WA}
theorem ee_hasT (h : Has X.prog X.w X.K X.mg X.base k x S) (hr : Room k X.A) (hg : Gl X x) (tk : Takes X W) (ha : EA X g W (e :: es) wa) (hdb : (x == ("__debug__" : Str)) = false := by decide)
    (he : starEach (e :: es) X.env = (false, eval e X.env) :: starEach es X.env := by rfl) (hpl : (backTo pos (starEach es X.env)).any (·.1) = false := by rfl) : EE X g W (.Call (.Name x p) (e :: es) [] pos) (wCall S wa) := by
  obtain ⟨f, fd, ps, F, hm, hk, hb⟩ := h.ex
  obtain ⟨t, q, s⟩ := ha.ex
  refine ⟨_, pe_callS F hr hg hm hk hb (passAt tk) q hdb he hpl, fun σ vs H ρ cs QD ED Q hS hw hX hQ => ?_⟩
  refine s σ vs H ρ cs _ ED _ hS hw hX fun xs H1 ccs ρ1 hl S1 q1 => ?_
  have hX' : XEnds X.K g (fun cls d _ H => W cls d σ H) σ ED := hX
  unfold callA at q1
  split at q1
  · rename_i i rest
    cases xs with
    | nil => simp at hl
    | cons x xs => exact SR.callP (W := fun cls d _ H => W cls d σ H) (E := fun cls d H => W cls d σ H) (by simpa using hl) S1 q1 hX' (fun _ _ _ _ z => z) hQ
  · exact SR.callD (W := fun cls d _ H => W cls d σ H) (E := fun cls d H => W cls d σ H) hl S1 q1 hX' (fun _ _ _ _ z => z) fun v H' c S3 q3 => hQ v H' c ρ1 S3 q3
end
/-! ### the clause -/
/-- what must be known of the class D, that its instances are asked rightly -/
def excB (K : PySem.W.Frag) (x : Str) : Bool :=
  He.eqO (PySem.W.findIn K (.ref (He.ga K x)) "__getattribute__") (some (some (.builtin "BaseException.__getattribute__"))) && (He.eqO (PySem.W.findIn K (.ref (He.ga K x)) "__getattr__") (some none) && (decide (PySem.W.subIn K (.ref (He.ga K x)) (.type "BaseException") = some true) && (PySem.W.hasDictIn K (He.ga K x) && (
  He.eqO (PySem.W.findIn K (.ref (He.ga K x)) "__class__") (some (some (.builtin "object.__class__"))) && (He.eqO (PySem.W.specialIn K (.builtin "object.__class__") "__get__") (some (some (.builtin "getset_descriptor.__get__"))) && (decide (PySem.W.takesIn K (.builtin "object.__class__") = some true) &&
  decide (PySem.W.mroIn K (He.ga K x) (.type "object") = some true)))))))
theorem excB_ok {K : PySem.W.Frag} {x : Str} (h : excB K x = true) : ExcC K (He.ga K x) := by
  obtain ⟨h1, h⟩ := He.ba h
  obtain ⟨h2, h⟩ := He.ba h
  obtain ⟨h3, h⟩ := He.ba h
  obtain ⟨h4, h⟩ := He.ba h
  obtain ⟨h5, h⟩ := He.ba h
  obtain ⟨h6, h⟩ := He.ba h
  obtain ⟨h7, h8⟩ := He.ba h
  exact ⟨He.eqO_ok h1, He.eqO_ok h2, of_decide_eq_true h3, h4, He.eqO_ok h5, He.eqO_ok h6, of_decide_eq_true h7, of_decide_eq_true h8⟩
/-- isinstance(e, (c, ..)), e the exception that the suite holds -/
def rIsET (K : PySem.W.Frag) (D a : Addr) : List V → Hp → VK → Prop := fun xs H Q => ∃ (tp : Addr) (cs : List V) (us : List Value) (b : Bool), xs = [.ref a, .ref tp] ∧ H tp = some (.tup cs) ∧ Paired ClsV cs us ∧ PySem.W.kitAny K (.ref D) us = some b ∧ Q (.bl b) H
theorem call_isET {X : Cx} {a D : Addr} {oe : Obj} {pn : List (Addr × Obj)} (C : ExcC X.K D) (hz : Zc (.ref D) none oe) (hf : ∃ vs, oe.data = .fields vs) : CallR (X.suite a ((a, oe) :: pn)) (.builtin "isinstance") (rIsET X.K D a) := by
  intro pins s σ H xs us Q I r h
  obtain ⟨tp, cs, ws, b, rfl, hT, k, e, q⟩ := h
  obtain ⟨u1, u2, rfl, r1, r2⟩ := vals2 r
  cases (show u1 = Value.ref a from r1)
  cases (show u2 = Value.ref tp from r2)
  obtain ⟨hget, _⟩ := I.pin (a, oe) (List.mem_append.mpr (.inl List.mem_cons_self))
  obtain ⟨vs, hv⟩ := hf
  have J : PySem.W.InstAt s.heap a oe D none := by
    obtain ⟨oc, od, oda, osl⟩ := oe
    obtain ⟨h1, h2⟩ := hz
    dsimp only at h1 h2 hv
    subst h1 h2 hv
    exact ⟨hget, rfl, rfl, trivial⟩
  obtain ⟨_, its, rv, o, h1, h2, n, h3⟩ := (show ObjOk X.prog X.w H s.heap tp (.tup cs) from I.hok tp _ hT)
  have e3 := ClsV.all k rv
  subst e3
  obtain ⟨oc, od, dt, sl⟩ := o
  simp only at h2 h3
  subst h2 h3
  exact PySem.W.kia_tup (PySem.W.handS_kitx_exc C.hg C.hk C.hs C.hd C.ha C.hn C.ht C.hm) I.kIn J h1 e (fun z => nomatch z) fun tk => ⟨.bl b, H, I.tok tk, rfl, q⟩
/-! ### the suite: the slot of the exception's name holds it -/
abbrev Wx (i : Nat) (a : Addr) : WX := fun _ _ σ _ => σ[i]? = some (some (.ref a))
/-- isinstance of the exception: what it answers is known -/
@[reducible] def wIsE (b : Bool) : WE := fun ρ Q E => E ⟨"", []⟩ ρ ∧ Q (.v (.bool b)) ρ
theorem xends_at {K : PySem.W.Frag} {g : G} {i : Nat} {a : Addr} {σ : L2.St} {vs : List V} {H : Hp} {ρ : Rho} {cs : List C} {ED : KX} (hS : SR K g σ vs H ρ cs) (hX : XEnds K g (Wx i a) σ ED) (h : ED ⟨"", []⟩ ρ) : σ[i]? = some (some (.ref a)) :=
  hX ⟨"", []⟩ ρ _ none H hS.dropAll ⟨rfl, .inl ⟨rfl, rfl⟩⟩ h
def excNames : List Str := ["CallError", "NoBook", "NoChange", "Full", "TooMany", "NoLine", "NoText"]
/-- what the head must show -/
def tryB (K : PySem.W.Frag) : Bool := excB K "TooMany" && ((excNames.all fun x => decide (PySem.W.kitOne K (.ref (He.ga K "TooMany")) (.ref (He.ga K x)) = some (decide (x = "TooMany" ∨ x = "CallError")))) &&
  (decide (PySem.W.kitOne K (.ref (He.ga K "TooMany")) (.type "ValueError") = some true) && decide (PySem.W.exmOne K (.ref (He.ga K "TooMany")) (.ref (He.ga K "CallError")) = some true)))
structure TryG (K : PySem.W.Frag) (mg : Str → Option Value) : Prop where
  gl : ∀ x ∈ excNames, mg x = some (.ref (He.ga K x))
  c : ExcC K (He.ga K "TooMany")
  k : ∀ x ∈ excNames, PySem.W.kitOne K (.ref (He.ga K "TooMany")) (.ref (He.ga K x)) = some (decide (x = "TooMany" ∨ x = "CallError"))
  v : PySem.W.kitOne K (.ref (He.ga K "TooMany")) (.type "ValueError") = some true
  e : PySem.W.exmOne K (.ref (He.ga K "TooMany")) (.ref (He.ga K "CallError")) = some true
theorem TryG.of {K : PySem.W.Frag} {mg : Str → Option Value} (gl : ∀ x ∈ excNames, mg x = some (.ref (He.ga K x))) (h : tryB K = true) : TryG K mg := by
  obtain ⟨h1, h⟩ := He.ba h
  obtain ⟨h2, h⟩ := He.ba h
  obtain ⟨h3, h4⟩ := He.ba h
  exact ⟨gl, excB_ok h1, fun x hx => of_decide_eq_true (List.all_eq_true.mp h2 x hx), of_decide_eq_true h3, of_decide_eq_true h4⟩
section
variable {X : Cx} {g : G} {i : Nat} {a : Addr} {oe : Obj} {pn : List (Addr × Obj)} {p p1 p2 pos : Pos} {n y : Str}
theorem ee_isE (T : TryG X.K X.mg) (hz : Zc (.ref (He.ga X.K "TooMany")) none oe) (hf : ∃ vs, oe.data = .fields vs) (hy : y ∈ excNames) {b : Bool} (hb : decide (y = "TooMany" ∨ y = "CallError") = b) (hg : Gl X "isinstance") (hm : X.mg "isinstance" = none) (hy2 : Gl X y)
    (hv : PE (X.suite a ((a, oe) :: pn)) (.Name n p1) (tVar i)) (hdb : (y == ("__debug__" : Str)) = false := by decide)
    (he : starEach [.Name n p1, .Name y p2] X.env = (false, eval (.Name n p1) X.env) :: starEach [.Name y p2] X.env := by rfl) (hpl : (backTo pos (starEach [.Name y p2] X.env)).any (·.1) = false := by rfl) (he2 : starEach [.Name y p2] X.env = (false, eval (.Name y p2) X.env) :: starEach [] X.env := by rfl) :
    EE (X.suite a ((a, oe) :: pn)) g (Wx i a) (.Call (.Name "isinstance" p) [.Name n p1, .Name y p2] [] pos) (wIsE b) := by
  have pc : PE (X.suite a ((a, oe) :: pn)) (.Name y p2) (tC (.ref (He.ga X.K y))) := pe_glob (X := X.suite a ((a, oe) :: pn)) (v := .ref (He.ga X.K y)) hy2 (T.gl y hy) rfl hdb
  refine ⟨_, pe_callB (X := X.suite a ((a, oe) :: pn)) (call_isE T.c hz hf) hg hm (by decide +kernel) (pa_cons hv (pa_cons pc pa_nil he2) he) (by decide) (by decide) he hpl, fun σ vs H ρ cs QD ED Q hS hw hX hQ => ?_⟩
  have hi := xends_at hS hX hw.1
  exact ⟨_, hi, .ref (He.ga X.K y), .ref (He.ga X.K y), b, rfl, fun u r => r, by rw [← hb]; exact T.k y hy, hQ _ H _ ρ (SR.resV hS (Same.refl H) (.bl b)) hw.2⟩
theorem ee_isEV (T : TryG X.K X.mg) (hz : Zc (.ref (He.ga X.K "TooMany")) none oe) (hf : ∃ vs, oe.data = .fields vs) (hg : Gl X "isinstance") (hm : X.mg "isinstance" = none) (hy2 : Gl X "ValueError") (hmv : X.mg "ValueError" = none)
    (hv : PE (X.suite a ((a, oe) :: pn)) (.Name n p1) (tVar i))
    (he : starEach [.Name n p1, .Name "ValueError" p2] X.env = (false, eval (.Name n p1) X.env) :: starEach [.Name "ValueError" p2] X.env := by rfl) (hpl : (backTo pos (starEach [.Name "ValueError" p2] X.env)).any (·.1) = false := by rfl) (he2 : starEach [.Name "ValueError" p2] X.env = (false, eval (.Name "ValueError" p2) X.env) :: starEach [] X.env := by rfl) :
    EE (X.suite a ((a, oe) :: pn)) g (Wx i a) (.Call (.Name "isinstance" p) [.Name n p1, .Name "ValueError" p2] [] pos) (wIsE true) := by
  have pc : PE (X.suite a ((a, oe) :: pn)) (.Name "ValueError" p2) (tC (.ty "ValueError")) := pe_bltn (X := X.suite a ((a, oe) :: pn)) (u := .type "ValueError") hy2 hmv (by decide +kernel) rfl (by decide) (by decide)
  refine ⟨_, pe_callB (X := X.suite a ((a, oe) :: pn)) (call_isE T.c hz hf) hg hm (by decide +kernel) (pa_cons hv (pa_cons pc pa_nil he2) he) (by decide) (by decide) he hpl, fun σ vs H ρ cs QD ED Q hS hw hX hQ => ?_⟩
  have hi := xends_at hS hX hw.1
  exact ⟨_, hi, .ty "ValueError", .type "ValueError", true, rfl, fun u r => r, T.v, hQ _ H _ ρ (SR.resV hS (Same.refl H) (.bl true)) hw.2⟩
/-- a row of class names -/
def clsT (K : PySem.W.Frag) : List Str → TA
  | [] => tNil
  | y :: r => tCons (tC (.ref (He.ga K y))) (clsT K r)
structure PCs (X : Cx) (es : List Expr) (ys : List Str) : Prop where
  pa : PA X es (clsT X.K ys)
theorem pcs_nil {X : Cx} : PCs X [] [] := ⟨pa_nil⟩
theorem pcs_cons {X : Cx} {es : List Expr} {ys : List Str} {y : Str} {p : Pos} (hm : X.mg y = some (.ref (He.ga X.K y))) (hy : Gl X y) (h : PCs X es ys) (hdb : (y == ("__debug__" : Str)) = false := by decide) (he : starEach (.Name y p :: es) X.env = (false, eval (.Name y p) X.env) :: starEach es X.env := by rfl) : PCs X (.Name y p :: es) (y :: ys) :=
  ⟨pa_cons (pe_glob (v := .ref (He.ga X.K y)) hy hm rfl hdb) h.pa he⟩
theorem clsT_of {K : PySem.W.Frag} {σ : L2.St} {H : Hp} : ∀ {ys : List Str} {Q : List V → Hp → Prop}, Q (ys.map fun y => V.ref (He.ga K y)) H → clsT K ys σ H Q
  | [], _, h => h
  | y :: ys, _, h => clsT_of (ys := ys) h
theorem paired_cls {K : PySem.W.Frag} : ∀ {ys : List Str}, Paired ClsV (ys.map fun y => V.ref (He.ga K y)) (ys.map fun y => Value.ref (He.ga K y))
  | [] => .nil
  | y :: ys => .cons (.own _) paired_cls
theorem kit_none {K : PySem.W.Frag} {mg : Str → Option Value} (T : TryG K mg) : ∀ {ys : List Str}, (∀ y ∈ ys, y ∈ excNames ∧ y ≠ "TooMany" ∧ y ≠ "CallError") → PySem.W.kitAny K (.ref (He.ga K "TooMany")) (ys.map fun y => Value.ref (He.ga K y)) = some false
  | [], _ => rfl
  | y :: ys, h => by
    have h1 := h y (.head _)
    have e := T.k y h1.1
    rw [decide_eq_false (fun z => z.elim h1.2.1 h1.2.2)] at e
    exact kitAny_cons e (fun _ => kit_none T fun z hz => h z (.tail _ hz)) fun z => nomatch z
theorem ee_isET {es : List Expr} {ys : List Str} {kk : Nat} (T : TryG X.K X.mg) (hz : Zc (.ref (He.ga X.K "TooMany")) none oe) (hf : ∃ vs, oe.data = .fields vs) (hy : ∀ y ∈ ys, y ∈ excNames ∧ y ≠ "TooMany" ∧ y ≠ "CallError") (hl : ys.length ≤ 1000) (hg : Gl X "isinstance") (hm : X.mg "isinstance" = none)
    (hc : PCs (X.suite a ((a, oe) :: pn)) es ys) (hv : PE (X.suite a ((a, oe) :: pn)) (.Name n p1) (tVar i))
    (he : starEach [.Name n p1, .Tuple es kk p2] X.env = (false, eval (.Name n p1) X.env) :: starEach [.Tuple es kk p2] X.env := by rfl) (hpl : (backTo pos (starEach [.Tuple es kk p2] X.env)).any (·.1) = false := by rfl) (he2 : starEach [.Tuple es kk p2] X.env = (false, eval (.Tuple es kk p2) X.env) :: starEach [] X.env := by rfl) :
    EE (X.suite a ((a, oe) :: pn)) g (Wx i a) (.Call (.Name "isinstance" p) [.Name n p1, .Tuple es kk p2] [] pos) (wIsE false) := by
  refine ⟨_, pe_callB (X := X.suite a ((a, oe) :: pn)) (call_isET T.c hz hf) hg hm (by decide +kernel) (pa_cons hv (pa_cons (pe_tup hc.pa) pa_nil he2) he) (by decide) (by decide) he hpl, fun σ vs H ρ cs QD ED Q hS hw hX hQ => ?_⟩
  have hi := xends_at hS hX hw.1
  refine ⟨_, hi, clsT_of ⟨by rw [List.length_map]; exact le1000 hl, fun p' np => ?_⟩⟩
  exact ⟨p', _, _, false, rfl, upd_same, paired_cls, kit_none T hy, hQ _ _ _ ρ (SR.resV hS (same_new np) (.bl false)) hw.2⟩
end
/-! ### the suite's statements -/
structure EndsX (K : PySem.W.Frag) (g : G) (i : Nat) (a : Addr) (DD : EndsD) (D : Ends) : Prop where
  nx : ∀ σ' H' ρ', σ'[i]? = some (some (.ref a)) → SR K g σ' [] H' ρ' [] → DD.nx ρ' → D.nx σ' H'
structure EBX (X : Cx) (g : G) (i : Nat) (a : Addr) (sts : List Stmt) (w : WS) : Prop where
  ex : ∃ t, PSs X sts t ∧ ∀ σ H ρ DD D, σ[i]? = some (some (.ref a)) → SR X.K g σ [] H ρ [] → w DD ρ → EndsX X.K g i a DD D → t D σ H
structure ESX (X : Cx) (g : G) (i : Nat) (a : Addr) (st : Stmt) (w : WS) : Prop where
  ex : ∃ t, PS X st t ∧ ∀ σ H ρ DD D, σ[i]? = some (some (.ref a)) → SR X.K g σ [] H ρ [] → w DD ρ → EndsX X.K g i a DD D → t D σ H
@[reducible] def wSetX (j : Nat) (we : WE) : WS := fun DD ρ => we ρ (fun c ρ1 => (frzC c).plain = true ∧ DD.nx (rset ρ1 j (frzC c))) fun _ _ => True
section
variable {X : Cx} {g : G} {i : Nat} {a : Addr} {st : Stmt} {rest : List Stmt} {w u : WS} {pos : Pos}
theorem ebx_one (h : ESX X g i a st w) : EBX X g i a [st] w := by
  obtain ⟨t, p, s⟩ := h.ex
  exact ⟨_, pss_one p, s⟩
theorem ebx_cons (h : ESX X g i a st w) (h' : EBX X g i a rest u) : EBX X g i a (st :: rest) (wSeq w u) := by
  obtain ⟨t, p, s⟩ := h.ex
  obtain ⟨t', p', s'⟩ := h'.ex
  exact ⟨_, pss_cons p p', fun σ H ρ DD D hi hS hw hE => s σ H ρ _ _ hi hS hw ⟨fun σ' H' ρ' hi' S' q => s' σ' H' ρ' DD D hi' S' q hE⟩⟩
theorem esx_set {j : Nat} {x : Str} {e : Expr} {we : WE} {pos' : Pos} (hN : X.N.Nodup) (hi : X.N[j]? = some x) (hx : Loc X.env.scope x) (hj : j ≠ i) (h : EE X g (Wx i a) e we) (hs : swapsWith e (some (.Name x pos')) pos.line X.env = pure false := by rfl) (hf : X.fn x = true ∨ X.env.scope.names.lookup x = some .local := by first | exact .inl rfl | exact .inr rfl | assumption) :
    ESX X g i a (.Assign [.Name x pos'] e pos) (wSetX j we) := by
  obtain ⟨t, p, s⟩ := h.ex
  refine ⟨_, ps_set hN hi hx p hs hf, fun σ H ρ DD D hi' hS hw hE => ?_⟩
  refine s σ [] H ρ [] _ (fun _ _ => True) _ hS hw (fun _ _ _ _ _ _ _ _ => hi') fun v H' c ρ' S' q => ?_
  exact hE.nx _ H' _ (by rw [List.getElem?_set_ne hj]; exact hi') (S'.frzTop.store q.1 fun k z => by simp at z) q.2
end
/-! ### try: .. except X as n: .. -/
@[reducible] def wTryAs (i : Nat) (wb ws : WS) : WS := fun DD ρ => wb ⟨DD.nx, DD.rt, DD.bk, DD.ct, fun xd ρ1 => xd = ⟨"TooMany", []⟩ ∧ rget ρ1 i = .no ∧ i < ρ1.length ∧ ws ⟨fun ρ2 => rget ρ2 i = .no ∧ DD.nx ρ2, fun _ _ => False, fun _ => False, fun _ => False, fun _ _ => True⟩ ρ1⟩ ρ
section
variable {X : Cx} {g : G} {W : WX} {x n : Str} {i : Nat} {body suite : List Stmt} {b₀ : Stmt} {np pos pos' : Pos} {wb ws : WS}
theorem es0_try_as (hs : X.stack = X.env :: X.outer) (hf : X.env.frame = some X.env.locals) (hN : X.N.Nodup) (hi : X.N[i]? = some n) (hln : X.env.kindOf n = some .local) (hc : Names X x (.ref (He.ga X.K x))) (tk : Takes X W)
    (he : PySem.W.exmOne X.K (.ref (He.ga X.K "TooMany")) (.ref (He.ga X.K x)) = some true)
    (hb : ∀ (W' : WX) (pn : List (Addr × Obj)) (xe : Value → Shared → Prop), Takes (X.tr pn xe) W' → PassesOwn (model X.prog X.w) X.A X.env xe → EB (X.tr pn xe) g W' body wb)
    (hsu : ∀ (a : Addr) (oe : Obj) (pn : List (Addr × Obj)), Zc (.ref (He.ga X.K "TooMany")) none oe → (∃ vs, oe.data = .fields vs) → EBX (X.suite a ((a, oe) :: pn)) g i a (b₀ :: suite) ws) :
    ES0 X g W (.Try body [.ExceptHandler (some (.Name x np)) (some n) (b₀ :: suite) pos'] [] [] pos) (wTryAs i wb ws) := by
  have p := ps_try_as (X := X) (pos := pos) (pos' := pos') (np := np) (tb := fun W' => tOf X.K g W' wb) (Wout := W)
    (ts := fun a cls d D σ H => cls = .ref (He.ga X.K "TooMany") ∧ d = none ∧ ∃ ρ DD, σ[i]? = some (some (.ref a)) ∧ SR X.K g σ [] H ρ [] ∧ ws DD ρ ∧ EndsX X.K g i a DD D)
    hs hf hN hi hln hc tk (fun W' pn xe tk' po => (eb0_of (hb W' pn xe tk' po)).ex) (fun a oe cls d pn hz hv => ⟨fun pins s σ H D I ⟨e1, e2, ρ, DD, q1, q2, q3, q4⟩ => by
      subst e1 e2
      obtain ⟨t, p, s'⟩ := (hsu a oe pn hz hv).ex
      exact p.run pins s σ H D I (s' σ H ρ DD D q1 q2 q3 q4)⟩)
  refine ⟨⟨fun pins s σ H D I ⟨ρ, DD, S, w, E⟩ => p.run pins s σ H D I ⟨ρ, _, S, w, E.nx, E.bk, E.ct, E.rt, fun σ' xd ρ' cls d H' S' xr ed => ?_⟩⟩⟩
  obtain ⟨rfl, hno, hlt, hw⟩ := ed
  obtain ⟨e1, e2⟩ := xr
  subst e1
  have ed : d = none := by
    rcases e2 with e2 | e2
    · exact e2.1
    · exact absurd rfl e2.1
  subst ed
  refine ⟨true, he, fun _ a na => ⟨rfl, rfl, ρ', _, ?_, S'.setNo hno (fun j z => by simp at z) _, hw, ⟨fun σ2 H2 ρ2 _ S2 q => E.nx _ H2 ρ2 (S2.setNo q.1 (fun j z => by simp at z) none) q.2⟩⟩, fun z => nomatch z⟩
  exact List.getElem?_set_self (by rw [show σ'.length = ρ'.length from S'.len]; exact hlt)
end
/-! ### the head, with one more Bool -/
abbrev AlX : Type := He.AlD × Bool
def obsX (fa : List He.Fa) (fn : List He.DefD) (b : PySem.W.Frag → Bool) (K : PySem.W.Frag) : AlX := (He.obsD fa fn K, b K)
def obsXG (n : Nat) (fa : List He.Fa) (fn : List He.DefD) (b : PySem.W.Frag → Bool) (g : Addr → Option Obj) : AlX := obsX fa fn b (He.frG g (He.asD g n))
def hookX (n : Nat) (fa : List He.Fa) (fn : List He.DefD) (b : PySem.W.Frag → Bool) : PySem.W.Hook where
  α := AlX
  obs := fun s => obsXG n fa fn b s.heap.get?
  val := fun _ => (He.valD fn, true)
  says := fun _ h => ∃ K : PySem.W.Frag, K.In h ∧ He.SaysD fa fn K ∧ b K = true
  of := fun _ _ e => ⟨_, He.frG_in, congrArg (fun z : AlX => z.1) e, congrArg (fun z : AlX => z.2) e⟩
  keeps := fun _ _ _ ⟨K, hK, c⟩ k => ⟨K, PySem.W.Frag.In.keeps hK k, c⟩
theorem obsXG_eq {n : Nat} {fa : List He.Fa} {fn : List He.DefD} {b : PySem.W.Frag → Bool} {g : Addr → Option Obj} {s : Shared} (h : ∀ a, g a = s.heap.get? a) : obsXG n fa fn b g = (hookX n fa fn b).obs s := by
  have e : g = s.heap.get? := funext h
  rw [e] <;> rfl
/-! ### calls with defaults, within the try -/
section
variable {X : Cx} {g : G} {W : WX} {k : Nat} {S : SpD} {x : Str} {p pos : Pos} {e : Expr} {es : List Expr} {wa : WA} {dvs : List Int}
theorem ee_hasDn {ns : List Int} {j : Nat} (hn : dvs.drop j = ns) (h : HasD X.prog X.w X.K X.mg X.base k x S dvs) (hj : j ≤ dvs.length) (hr : Room k X.A) (hg : Gl X x) (ha : EA X g W0 (e :: es) wa) (hdb : (x == ("__debug__" : Str)) = false := by decide)
    (he : starEach (e :: es) X.env = (false, eval e X.env) :: starEach es X.env := by rfl) (hpl : (backTo pos (starEach es X.env)).any (·.1) = false := by rfl) : EE X g W0 (.Call (.Name x p) (e :: es) [] pos) (wCallD S ns wa) := by
  subst hn
  exact ee_hasD h hj hr hg ha hdb he hpl
theorem ee_hasDT {ns : List Int} {j : Nat} (hn : dvs.drop j = ns) (h : HasD X.prog X.w X.K X.mg X.base k x S dvs) (hj : j ≤ dvs.length) (hr : Room k X.A) (hg : Gl X x) (tk : Takes X W) (ha : EA X g W (e :: es) wa) (hdb : (x == ("__debug__" : Str)) = false := by decide)
    (he : starEach (e :: es) X.env = (false, eval e X.env) :: starEach es X.env := by rfl) (hpl : (backTo pos (starEach es X.env)).any (·.1) = false := by rfl) : EE X g W (.Call (.Name x p) (e :: es) [] pos) (wCallD S ns wa) := by
  subst hn
  obtain ⟨f, fd, ps, F, hm, hk, hb⟩ := h.ex
  obtain ⟨ds, hv, hb⟩ := hb j hj
  obtain ⟨t, q, s⟩ := ha.ex
  refine ⟨_, pe_callSD F hr hg hm hk hb hv (passAt tk) q hdb he hpl, fun σ vs H ρ cs QD ED Q hS hw hX hQ => ?_⟩
  refine s σ vs H ρ cs _ ED _ hS hw hX fun xs H1 ccs ρ1 hl S1 q1 => ?_
  have hX' : XEnds X.K g (fun cls d _ H => W cls d σ H) σ ED := hX
  exact SR.callD (W := fun cls d _ H => W cls d σ H) (E := fun cls d H => W cls d σ H) (by rw [List.length_append, List.length_append, hl, List.length_map, List.length_map]) (SR.pushInts (dvs.drop j) hl S1) q1 hX' (fun _ _ _ _ z => z) fun v H' c S3 q3 => hQ v H' c ρ1 S3 q3
end
end DL

set_option Elab.async false
set_option linter.all false
set_option maxRecDepth 100000
set_option maxHeartbeats 4000000
/-! DLCat: + of lists, data or own -/
namespace DL
open PySem PySem.Spec PyProof.Rows L2
def rCatL (K : PySem.W.Frag) : R2 := fun x y H Q => ∃ l b xs zs, x = .ref l ∧ y = .ref b ∧ SqL K H l xs ∧ SqL K H b zs ∧ xs.length + zs.length ≤ sizeLine ∧ ∀ p, H p = none → Q (.ref p) (upd H p (.lst (xs ++ zs)))
theorem op_catL {X : Cx} : OpR X (binaryOp .Add) (rCatL X.K) := by
  intro pins s σ H x y v u Q I rx ry h
  obtain ⟨l, b, xs, zs, rfl, rfl, hH, hB, hz, q⟩ := h
  cases rx
  cases ry
  obtain ⟨its, r, ⟨⟨c1, d1, t1, s1⟩, n, e, k1, k2, k3⟩, z⟩ := I.list hH
  obtain ⟨its2, r2, ⟨⟨c2, d2, t2, s2⟩, n2, e2, j1, j2, j3⟩, z2⟩ := I.list hB
  simp only at k1 k2 k3 j1 j2 j3
  subst k1 k2 k3 j1 j2 j3
  have hl := r.length
  have hl2 := r2.length
  refine concat_meets ⟨_, e, rfl⟩ ⟨_, e2, rfl⟩ noFill_list_add seq_list_add PySem.F.slot_list_add PySem.F.entry_list_add (PySem.F.args_list_add_2 _ _) (list_addW l b its.toArray its2.toArray n n2 none none s1 s2 (by rw [List.size_toArray, List.size_toArray]; omega)) ⟨e, e2, ?_⟩
  have ea : its.toArray ++ its2.toArray = (its ++ its2).toArray := by simp
  rw [ea]
  exact ⟨.ref _, _, I.lnew (t' := s.toks) (r.append r2) (by rw [List.length_append]; omega), rfl, q _ I.fresh⟩
@[reducible] def oCatL : O2 := fun d1 d2 k => match d1, d2 with
  | .list ds, .list es => ds.length + es.length ≤ sizeLine ∧ k (.own 0 (.lst (ds ++ es)))
  | _, _ => False
theorem lift_catL {K : PySem.W.Frag} : Lift2 K (rCatL K) oCatL := by
  intro O H x y dx dy QD Q hO hx hy q fin
  cases hx with
  | lst h1 h2 =>
    cases hy with
    | lst g1 g2 =>
      refine ⟨_, _, _, _, rfl, rfl, same_hide.seq h1, same_hide.seq g1, by rw [DL.DpAll.len h2, DL.DpAll.len g2]; exact q.1, fun p n => ?_⟩
      exact fin _ _ (.own 0 (.lst _)) (same_new n) (new_lst n (DL.DpAll.app h2 g2)) q.2
    | _ => exact q.elim
  | _ => exact q.elim
theorem ee_catL {X : Cx} {g : G} {W : WX} {a b : Expr} {wa wb : WE} {pos : Pos} (ha : EE X g W a wa) (hb : EE X g W b wb) : EE X g W (.BinOp a .Add b pos) (wB oCatL wa wb) := by
  obtain ⟨ta, p1, s1⟩ := ha.ex
  obtain ⟨tb, p2, s2⟩ := hb.ex
  exact ⟨_, pe_op op_catL p1 p2, sem_op lift_catL s1 s2⟩
/-- x is not None, as a value -/
theorem ee_notN {X : Cx} {g : G} {W : WX} {a : Expr} {wa : WE} {pos : Pos} {j pos'} (ha : EE X g W a wa) : EE X g W (.Compare a [.IsNot] [.Constant .none j pos'] pos) (wU oNotN wa) := by
  obtain ⟨ta, p1, s1⟩ := ha.ex
  refine ⟨_, pe_cmp (pc_notN p1), ?_⟩
  refine fun σ vs H ρ cs QD ED Q hS hw hX hQ => ?_
  refine s1 σ vs H ρ cs _ ED _ hS hw hX fun x H1 c1 ρ1 S1 q1 => ?_
  refine S1.use1 (r := fun x H Q => Q (.bl (!decide (x = .non))) H) (fun O H x dx QD Q _ hx q fin => ?_) q1 fun v H' c S3 q3 => hQ v H' c ρ1 S3 q3
  refine fin _ H (.v _) (Same.refl H) ?_ q
  cases hx <;> exact .bl _
end DL

set_option Elab.async false
set_option linter.all false
set_option maxRecDepth 100000
set_option maxHeartbeats 4000000
/-! DLDictL: dict(xs), xs a list of pairs with unlike keys -/
namespace DL
open PySem PySem.Spec PyProof.Rows L2
def dPairs : List D → Option (List (Key × D))
  | [] => some []
  | .tuple [k, v] :: r => match keyD k, dPairs r with
    | some kk, some l => some ((kk, v) :: l)
    | _, _ => none
  | _ => none
theorem dpairs_cons {d : D} {r : List D} {kvs : List (Key × D)} (e : dPairs (d :: r) = some kvs) : ∃ k v kk l, d = .tuple [k, v] ∧ keyD k = some kk ∧ dPairs r = some l ∧ kvs = (kk, v) :: l := by
  unfold dPairs at e
  split at e
  · rename_i h; cases h
  · rename_i k v r' h
    cases h
    split at e
    · rename_i kk l e1 e2
      cases e
      exact ⟨k, v, kk, l, rfl, e1, e2, rfl⟩
    · cases e
  · cases e
def rDictKV (K : PySem.W.Frag) : List V → Hp → VK → Prop := fun xs H Q => ∃ (a : Addr) (ps : List Addr) (kvs : List (Key × V)), xs = [.ref a] ∧ SqL K H a (ps.map V.ref) ∧ Paired (fun p kv => SqT K H p [kV kv.1, kv.2]) ps kvs ∧
    ∀ p, H p = none → Q (.ref p) (upd H p (.dK (mergeK [] kvs)))
theorem dp_kvs {K : PySem.W.Frag} {O : List Addr} {H : Hp} : ∀ {xs : List V} {ds : List D} {kvs : List (Key × D)}, DpAll K (hide H O) xs ds → dPairs ds = some kvs →
    ∃ (ps : List Addr) (ks : List (Key × V)), xs = ps.map V.ref ∧ Paired (fun p kv => SqT K H p [kV kv.1, kv.2]) ps ks ∧ DpKV K (hide H O) ks kvs
  | [], _, kvs, h, e => by
    cases h
    cases e
    exact ⟨[], [], rfl, .nil, trivial⟩
  | x :: xs, d :: ds, kvs, h, e => by
    obtain ⟨k, v, kk, l, rfl, e1, e2, rfl⟩ := dpairs_cons e
    cases h with
    | cons h1 h2 =>
      obtain ⟨ps, ks, rfl, p1, p2⟩ := dp_kvs h2 e2
      cases h1 with
      | @tup a xs' _ s1 s2 =>
        cases s2 with
        | cons g1 g2 =>
          cases g2 with
          | cons g2 g3 =>
            cases g3
            obtain rfl := key_dp g1 e1
            exact ⟨_ :: ps, (kk, _) :: ks, rfl, .cons (seqT_same same_hide s1) p1, rfl, g2, p2⟩
theorem merge_new : ∀ {ks acc : List (Key × V)}, ((acc ++ ks).map (·.1)).Nodup → mergeK acc ks = acc ++ ks
  | [], acc, _ => by rw [List.append_nil]; rfl
  | p :: ks, acc, h => by
    show mergeK (putK acc p.1 p.2) ks = _
    have nn : valV acc p.1 = none := by
      cases e : valV acc p.1 with
      | none => rfl
      | some x =>
        exfalso
        have m : p.1 ∈ acc.map (·.1) := by
          clear h
          induction acc with
          | nil => cases e
          | cons q r ih =>
            by_cases z : q.1 = p.1
            · rw [List.map_cons, z]; exact .head _
            · rw [valV_neg z] at e
              exact .tail _ (ih e)
        rw [List.map_append] at h
        exact (List.nodup_append.mp h).2.2 p.1 m p.1 (.head _) rfl
    rw [putK_new p.2 nn]
    have e : (acc ++ [(p.1, p.2)]) ++ ks = acc ++ p :: ks := by rw [List.append_assoc]; rfl
    rw [merge_new (ks := ks) (by rw [e]; exact h), e]
@[reducible] def oDict : OL := fun ds k => match ds with
  | [.list es] => optK (dPairs es) fun kvs => (kvs.map (·.1)).Nodup ∧ k (.own 0 (.dct kvs))
  | _ => False
theorem new_dct {K : PySem.W.Frag} {O : List Addr} {H : Hp} {p : Addr} {ks : List (Key × V)} {kvs : List (Key × D)} (n : H p = none) (h : DpKV K (hide H O) ks kvs) : NewRes K O H (upd H p (.dK ks)) (.ref p) (.own 0 (.dct kvs)) := by
  refine ⟨rfl, p, rfl, n, ks, upd_same, DpKV.mono (fun a o q => ?_) h⟩
  obtain ⟨h1, h2⟩ := hide_some.mp q
  refine hide_some.mpr ⟨fun z => ?_, same_new n a o h2⟩
  rcases List.mem_cons.mp z with z | z
  · rw [z, n] at h2; cases h2
  · exact h1 z
theorem lift_dict {K : PySem.W.Frag} : LiftL K (rDictKV K) oDict := by
  intro O H xs ds QD Q hO hx q fin
  unfold oDict at q
  split at q
  · rename_i es
    cases hx with
    | cons h1 h2 =>
      cases h2
      cases h1 with
      | lst a1 a2 =>
        cases e : dPairs es with
        | none => rw [e] at q; exact q.elim
        | some kvs =>
          rw [e] at q
          have q : (kvs.map fun kv : Key × D => kv.1).Nodup ∧ QD (.own 0 (.dct kvs)) := q
          obtain ⟨nd, q⟩ := q
          obtain ⟨ps, ks, rfl, p1, p2⟩ := dp_kvs a2 e
          refine ⟨_, ps, ks, rfl, Same.seq same_hide a1, p1, fun p n => ?_⟩
          rw [merge_new (acc := []) (by rw [List.nil_append, dkv_keys p2]; exact nd), List.nil_append]
          exact fin _ _ (.own 0 (.dct kvs)) (same_new n) (new_dct n p2) q
  · exact q.elim
section
variable {X : Cx} {g : G} {W : WX} {e : Expr} {es : List Expr} {wa : WA} {p pos : Pos}
theorem ee_dict (hc : X.calm = true) (hg : Gl X "dict") (hm : X.mg "dict" = none) (ha : EA X g W (e :: es) wa) (he : starEach (e :: es) X.env = (false, eval e X.env) :: starEach es X.env := by rfl) (hpl : (backTo pos (starEach es X.env)).any (·.1) = false := by rfl) : EE X g W (.Call (.Name "dict" p) (e :: es) [] pos) (wL oDict wa) :=
  ee_ct (r := rDictKV X.K) (call_dictP hc) lift_dict hg hm (by decide +kernel) ha (he := he) (hpl := hpl)
end
end DL

set_option Elab.async false
set_option linter.all false
set_option maxRecDepth 100000
set_option maxHeartbeats 4000000
/-! DLKw: calls with keywords whose values are whole numbers -/
namespace DL
open PySem PySem.Spec PyProof.Rows L2
/-- how a call with keywords is put in order: n positional values, the keywords' names; the defaults ahead, whether the keywords' values are turned round, the first default behind them -/
structure KwF where
  n : Nat
  ks : List Str
  a : Nat
  rev : Bool
  b : Nat
@[reducible] def revB {α : Type} : Bool → List α → List α
  | true, l => l.reverse
  | false, l => l
@[reducible] def kwG {α : Type} (q : KwF) (us ds ws : List α) : List α := us ++ (ds.take q.a ++ (revB q.rev ws ++ ds.drop q.b))
theorem vals_take : ∀ {vs : List V} {us : List Value} (n : Nat), Vals vs us → Vals (vs.take n) (us.take n)
  | _, _, 0, _ => .nil
  | _, _, _ + 1, .nil => .nil
  | _, _, n + 1, .cons h t => .cons h (vals_take n t)
theorem vals_rev : ∀ {vs : List V} {us : List Value}, Vals vs us → Vals vs.reverse us.reverse
  | _, _, .nil => .nil
  | _, _, .cons h t => by
    rw [List.reverse_cons, List.reverse_cons]
    exact (vals_rev t).snoc h
theorem kwg_rel {q : KwF} {vs ds zs : List V} {us its ws : List Value} (h1 : Vals vs us) (h2 : Vals ds its) (h3 : Vals zs ws) : Vals (kwG q vs ds zs) (kwG q us its ws) := by
  refine h1.append ((vals_take _ h2).append (.append ?_ (h2.drop _)))
  cases q.rev with
  | true => exact vals_rev h3
  | false => exact h3
section
variable {K : PySem.W.Frag} {x qual : Str} {params : Arguments} {body : List Stmt} {scope : Scope} {dvs : List V} {kws : List (Str × V)} {f : Addr} {fd : FuncData} {ps : List Str}
theorem kbinds1 (F : FunD K x qual params body scope dvs kws f fd) (q : KwF) (hd : dvs ≠ [])
    (h : ∀ (T : Addr) (kV doc pm : Value) (an : Option Addr) (cdv ct : Value) (us its ws : List Value), us.length = q.n → its.length = dvs.length → ws.length = q.ks.length →
      ∃ k, bindArgs (PySem.W.fnOf x qual params body scope (.ref T) kV doc pm an cdv ct) ⟨us, q.ks.zip ws⟩ = seqItems? (.ref T) >>= k ∧ k (some its.toArray) = pure (ps.zip (kwG q us its ws))) :
    ∃ its : List Value, KBn K fd ps q.n q.ks (fun us ws => kwG q us its ws) (fun vs zs => kwG q vs dvs zs) := by
  obtain ⟨oc, od, dV, kV, doc, pm, an, cdv, ct, osl, rfl, lk, hcd, hD, hK⟩ := F.ex
  rcases hD with ⟨e, _⟩ | ⟨_, T, o, its, m, rfl, lT, oT, rT⟩
  · exact absurd e hd
  · refine ⟨its, ⟨fun s us ws X l1 l2 => ?_, fun r1 r2 => kwg_rel r1 rT r2⟩⟩
    obtain ⟨k, e1, e2⟩ := h T kV doc pm an cdv ct us its ws l1 rT.length.symm l2
    refine BindsTo.of_looks fun M => ?_
    rw [e1]
    exact looks_items X lT oT (.of_pure e2)
end
structure HasDK (P : Program) (w : World) (K : PySem.W.Frag) (mg : Str → Option Value) (base : Heap) (k : Nat) (x : Str) (S : SpD) (dvs : List Int) (qs : List KwF) : Prop where
  ex : ∃ (f : Addr) (fd : FuncData) (ps : List Str), FnOk P w K mg base (L2.CX P w) k f fd ps (spOf K S) ∧ mg x = some (.ref f) ∧ PySem.W.keepIn K (.ref f) = true ∧ (∀ j, j ≤ dvs.length → ∃ ds, Vals ((dvs.drop j).map V.int) ds ∧ Binds K fd ps ds) ∧
    ∀ q ∈ qs, ∃ its : List Value, KBn K fd ps q.n q.ks (fun us ws => kwG q us its ws) (fun vs zs => kwG q vs (dvs.map V.int) zs)
theorem HasDK.hasD {P : Program} {w : World} {K : PySem.W.Frag} {mg : Str → Option Value} {base : Heap} {k : Nat} {x : Str} {S : SpD} {dvs : List Int} {qs : List KwF} (h : HasDK P w K mg base k x S dvs qs) : HasD P w K mg base k x S dvs := by
  obtain ⟨f, fd, ps, h1, h2, h3, h4, _⟩ := h.ex
  exact ⟨f, fd, ps, h1, h2, h3, h4⟩
@[reducible] def intsC : List C → Option (List Int)
  | [] => some []
  | .v (.int i) :: r => match intsC r with
    | some l => some (i :: l)
    | none => none
  | _ => none
@[reducible] def wCallW (S : SpD) (q : KwF) (dvs : List Int) (wa wk : WA) : WE := fun ρ Q E => wa ρ (fun ccs ρ1 => wk ρ1 (fun kcs ρ2 => match intsC kcs with
  | some is => ccs.length = q.n ∧ is.length = q.ks.length ∧ callK S ρ2 (ccs ++ (dvs.take q.a ++ (revB q.rev is ++ dvs.drop q.b)).map fun i => C.v (.int i)) Q E
  | none => False) E) E
theorem intsC_map : ∀ {cs : List C} {is : List Int}, intsC cs = some is → cs = is.map fun i => C.v (.int i)
  | [], is, e => by cases e; rfl
  | c :: cs, is, e => by
    unfold intsC at e
    split at e
    · rename_i h; cases h
    · rename_i i r h
      cases h
      split at e
      · rename_i l el
        cases e
        rw [List.map_cons, ← intsC_map el]
      · cases e
    · cases e
theorem SR.popInts {K : PySem.W.Frag} {g : G} {σ : L2.St} {vs : List V} {H : Hp} {ρ : Rho} {cs : List C} : ∀ {is : List Int} {zs : List V}, zs.length = is.length → SR K g σ (zs ++ vs) H ρ ((is.map fun i => C.v (.int i)) ++ cs) → zs = is.map V.int ∧ SR K g σ vs H ρ cs
  | [], [], _, h => ⟨rfl, h⟩
  | i :: is, z :: zs, hl, h => by
    have h : SR K g σ (z :: (zs ++ vs)) H ρ (C.v (.int i) :: ((is.map fun i => C.v (.int i)) ++ cs)) := h
    have t := h.top
    obtain ⟨e, S⟩ := SR.popInts (is := is) (zs := zs) (by simpa using hl) h.pop
    cases t
    exact ⟨by rw [e]; rfl, S⟩
structure EK (X : Cx) (g : G) (W : WX) (kws : List Keyword) (w : WA) : Prop where
  ex : ∃ t, PK X kws t ∧ SemA X.K g W t w
section
variable {X : Cx} {g : G} {W : WX} {k : Nat} {S : SpD} {x : Str} {p pos kpos : Pos} {e : Expr} {es : List Expr} {kws : List Keyword} {wa wk : WA} {we : WE} {dvs : List Int} {qs : List KwF} {nm : Option Str}
theorem ek_nil : EK X g W [] wNil := ⟨_, pk_nil, fun σ vs H ρ cs QD ED Q hS hw hX hQ => hQ [] H [] ρ rfl hS hw⟩
theorem ek_cons (h : EE X g W e we) (hr : EK X g W kws wk) : EK X g W (⟨nm, e, kpos⟩ :: kws) (wCons we wk) := by
  obtain ⟨t, p, s⟩ := h.ex
  obtain ⟨u, p', s'⟩ := hr.ex
  refine ⟨_, pk_cons p p', fun σ vs H ρ cs QD ED Q hS hw hX hQ => ?_⟩
  refine s σ vs H ρ cs _ ED _ hS hw hX fun x H1 c ρ1 S1 q1 => ?_
  refine s' σ (x :: vs) H1 ρ1 (c :: cs) _ ED _ S1 q1 hX fun xs H2 ccs ρ2 hl S2 q2 => ?_
  exact hQ (x :: xs) H2 (c :: ccs) ρ2 (by simp [hl]) (SR.rot hl S2) q2
theorem ee_hasK {q : KwF} (h : HasDK X.prog X.w X.K X.mg X.base k x S dvs qs) (hq : q ∈ qs) (hr : Room k X.A) (hg : Gl X x) (ha : EA X g W0 (e :: es) wa) (hkw : EK X g W0 kws wk)
    (hall : (backToKw pos (keywordEach kws X.env)).all (·.1.isSome) = true := by rfl) (hks : (backToKw pos (keywordEach kws X.env)).filterMap (·.1) = q.ks := by rfl)
    (hdb : (x == ("__debug__" : Str)) = false := by decide) (he : starEach (e :: es) X.env = (false, eval e X.env) :: starEach es X.env := by rfl)
    (hpl : ((backTo pos (starEach (e :: es) X.env)).any (·.1) || (backToKw pos (keywordEach kws X.env)).any (·.1.isNone)) = false := by rfl) :
    EE X g W0 (.Call (.Name x p) (e :: es) kws pos) (wCallW S q dvs wa wk) := by
  obtain ⟨t, p1, s⟩ := ha.ex
  obtain ⟨tk, p2, s2⟩ := hkw.ex
  obtain ⟨f, fd, ps, F, hm, hk, _, hb⟩ := h.ex
  obtain ⟨its, hb⟩ := hb q hq
  refine ⟨_, pe_callN F hr hg hm hk hb passL p1 p2 hall hks hdb he hpl, fun σ vs H ρ cs QD ED Q hS hw hX hQ => ?_⟩
  refine s σ vs H ρ cs _ ED _ hS hw hX fun xs H1 ccs ρ1 hl S1 q1 => ?_
  refine s2 σ (xs ++ vs) H1 ρ1 (ccs ++ cs) _ ED _ S1 q1 hX fun zs H2 kcs ρ2 hl2 S2 q2 => ?_
  split at q2
  · rename_i is ei
    obtain ⟨n1, n2, q3⟩ := q2
    have em := intsC_map ei
    subst em
    obtain ⟨rfl, S3⟩ := SR.popInts (by simpa using hl2) S2
    refine ⟨by rw [hl]; exact n1, by rw [List.length_map]; exact n2, ?_⟩
    have eg : kwG q xs (dvs.map V.int) (is.map V.int) = xs ++ (dvs.take q.a ++ (revB q.rev is ++ dvs.drop q.b)).map V.int := by
      unfold kwG
      rw [List.map_append, List.map_append, List.map_take, List.map_drop]
      cases q.rev with
      | true => rw [show revB true (is.map V.int) = (is.map V.int).reverse from rfl, show revB true is = is.reverse from rfl, List.map_reverse]
      | false => rfl
    show spOf X.K S (kwG q xs (dvs.map V.int) (is.map V.int)) H2 Q _
    rw [eg]
    exact SR.callD (by rw [List.length_append, List.length_append, hl, List.length_map, List.length_map]) (SR.pushInts _ hl S3) q3 hX (fun _ _ _ _ z => z) fun v H' c S4 q4 => hQ v H' c ρ2 S4 q4
  · exact q2.elim
end
end DL

set_option Elab.async false
set_option linter.all false
set_option maxRecDepth 100000
set_option maxHeartbeats 4000000
/-! DLZip3: zip of three lists -/
namespace DL
open PySem PySem.Spec PyProof.Rows L2
/-- an iterator of a list at i, for one more `next`: at its end or ahead of it -/
theorem draws_done {prog : Program} {w : World} {A : Around} (hh : A.handled = none) (it l : Addr) (hne : l ≠ it) (items : Array Value) (i : Nat) (he : items.size ≤ i) :
    Draws prog w A it [it, l] i (fun _ _ => True) (fun j h => j = i ∧ h.IsListIter it l j ∧ h.IsList l items) where
  live := fun _ _ st => let ⟨o, ho, _⟩ := st.2.1; ⟨o, ho⟩
  frame := fun _ _ _ st hk => ⟨st.1, st.2.1.at fun o e => hk it (by simp) o e, st.2.2.at fun o e => hk l (by simp) o e⟩
  item := fun j s Q E hi st hQ => absurd st.1 (by omega)
  done := fun s Q E st hE => wpAny_nextOf_list_end hh st.2.1 st.2.2 (by simp [he]) hE
theorem draws_at {prog : Program} {w : World} {A : Around} (hh : A.handled = none) {it l : Addr} (hne : l ≠ it) {items : Array Value} {i : Nat} {h : Heap} (h1 : h.IsListIter it l i) (h2 : h.IsList l items) :
    ∃ (n : Nat) (P : Nat → Value → Prop) (St : Nat → Heap → Prop), Draws prog w A it [it, l] n P St ∧ St i h ∧ i ≤ n ∧ (items.size ≤ i → i = n) := by
  by_cases z : items.size ≤ i
  · exact ⟨_, _, _, draws_done hh it l hne items i z, ⟨rfl, h1, h2⟩, Nat.le_refl _, fun _ => rfl⟩
  · exact ⟨_, _, _, Draws.list hh it l hne items, ⟨h1, h2⟩, by omega, fun y => absurd y z⟩
def Itz3 (K : PySem.W.Frag) (a b c : Addr) : It :=
  ⟨fun i H => ∃ (xs ys zs : List V) (x y z : V), SqL K H a xs ∧ SqL K H b ys ∧ SqL K H c zs ∧ xs[i]? = some x ∧ ys[i]? = some y ∧ zs[i]? = some z,
    fun i H v H' => ∃ T x y z, v = .ref T ∧ H T = none ∧ H' = upd H T (.tup [x, y, z]) ∧ (∀ xs, SqL K H a xs → xs[i]? = some x) ∧ (∀ ys, SqL K H b ys → ys[i]? = some y) ∧ ∀ zs, SqL K H c zs → zs[i]? = some z,
    fun i H => ∃ xs ys zs : List V, SqL K H a xs ∧ SqL K H b ys ∧ SqL K H c zs ∧ (xs.length ≤ i ∨ ys.length ≤ i ∨ zs.length ≤ i)⟩
structure Apart3 (z TI TO i1 i2 i3 a b c : Addr) : Prop where
  s : ZipSep3 z TI TO i1 i2 i3 [i1, a] [i2, b] [i3, c]
  a1 : a ≠ i1
  b2 : b ≠ i2
  c3 : c ≠ i3
theorem turn_zip3 {P : Program} {w : World} {K : PySem.W.Frag} {elts : List Expr} {kk : Nat} {tpos : Pos} {a b c z TI TO i1 i2 i3 : Addr} (D : Apart3 z TI TO i1 i2 i3 a b c) :
    Turn P w K (.Tuple elts kk tpos) (Itz3 K a b c) [z, TI, TO, i1, i2, i3] z (fun i h => IsZip h z TI TO .none ∧ IsTupOf3 h TI (.ref i1) (.ref i2) (.ref i3) ∧ (∃ x y u, IsTupOf3 h TO x y u) ∧ h.IsListIter i1 a i ∧ h.IsListIter i2 b i ∧ h.IsListIter i3 c i) where
  mem := by simp
  obj := fun i h st c hc => by
    obtain ⟨hz, hTI, ⟨x, y, u, hTO⟩, ⟨o1, e1, _, d1⟩, ⟨o2, e2, _, d2⟩, ⟨o3, e3, _, d3⟩⟩ := st
    have e' : c = z ∨ c = TI ∨ c = TO ∨ c = i1 ∨ c = i2 ∨ c = i3 := by simpa using hc
    rcases e' with q | q | q | q | q | q
    · rw [q]; exact ⟨_, hz, fun v q => nomatch q⟩
    · rw [q]; exact ⟨_, hTI, fun v q => nomatch q⟩
    · rw [q]; exact ⟨_, hTO, fun v q => nomatch q⟩
    · rw [q]; exact ⟨o1, e1, fun v q => by rw [d1] at q; cases q⟩
    · rw [q]; exact ⟨o2, e2, fun v q => by rw [d2] at q; cases q⟩
    · rw [q]; exact ⟨o3, e3, fun v q => by rw [d3] at q; cases q⟩
  keep := fun i h h' st k => by
    obtain ⟨hz, hTI, ⟨x, y, u, hTO⟩, h1, h2, h3⟩ := st
    exact ⟨k z (by simp) _ hz, k TI (by simp) _ hTI, ⟨x, y, u, k TO (by simp) _ hTO⟩, h1.at fun o q => k i1 (by simp) o q, h2.at fun o q => k i2 (by simp) o q, h3.at fun o q => k i3 (by simp) o q⟩
  item := by
    intro X hP hw hK hc i pins s σ H E I hf st hg
    subst hP hw hK
    obtain ⟨hz, hTI, ⟨x0, y0, u0, hTO⟩, h1, h2, h3⟩ := st
    obtain ⟨xs, ys, zs, x, y, u, hqx, hqy, hqz, hx, hy, hu⟩ := hg
    obtain ⟨its, rv, p, _⟩ := I.list hqx
    obtain ⟨its2, rv2, p2, _⟩ := I.list hqy
    obtain ⟨its3, rv3, p3, _⟩ := I.list hqz
    obtain ⟨v1, hv1, r1⟩ := rv.get hx
    obtain ⟨v2, hv2, r2⟩ := rv2.get hy
    obtain ⟨v3, hv3, r3⟩ := rv3.get hu
    have hzl : z < s.heap.objs.size := Heap.lt_size hz
    have hh : X.A.in1.handled = none := I.ok.hd hc
    have q1 : its.toArray[i]? = some v1 := by simpa using hv1
    have q2 : its2.toArray[i]? = some v2 := by simpa using hv2
    have q3 : its3.toArray[i]? = some v3 := by simpa using hv3
    have l1 : i < its.toArray.size := (Array.getElem?_eq_some_iff.mp q1).1
    have l2 : i < its2.toArray.size := (Array.getElem?_eq_some_iff.mp q2).1
    have l3 : i < its3.toArray.size := (Array.getElem?_eq_some_iff.mp q3).1
    refine wpAny_pyNext_zipD3_item D.s (Draws.list hh i1 a D.a1 its.toArray) (Draws.list hh i2 b D.b2 its2.toArray) (Draws.list hh i3 c D.c3 its3.toArray) hz hTI hTO ⟨h1, p.isList⟩ ⟨h2, p2.isList⟩ ⟨h3, p3.isList⟩ l1 l2 l3 fun w1 w2 w3 h' tk y1 y2 y3 z' TO' h1' h2' h3' hT hsz hk => ?_
    rw [q1] at y1; cases y1
    rw [q2] at y2; cases y2
    rw [q3] at y3; cases y3
    refine ⟨_, rfl, wpAny_letOwnedTupleGo_zip (s := { s with heap := h', toks := tk }) z' fun h'' z'' sb => ?_⟩
    have hT2 : h''.get? s.heap.objs.size = some { cls := .type "tuple", data := .seq #[v1, v2, v3] } := (sb.2 _ (Nat.ne_of_gt hzl)).trans hT
    have new : ObjOk X.prog X.w (upd H s.heap.objs.size (.tup [x, y, u])) h'' s.heap.objs.size (.tup [x, y, u]) :=
      ⟨by show 3 ≤ sizeLine; decide, [v1, v2, v3], .cons r1 (.cons r2 (.cons r3 .nil)), ⟨_, hT2, rfl, _, rfl⟩⟩
    have I1 : Inv X pins σ (upd H s.heap.objs.size (.tup [x, y, u])) { s with heap := h'', toks := tk } :=
      I.turnedNew (t' := tk) (ch := [z, TI, TO, i1, i2, i3]) (fun c o hb q => (sb.2 c (fun q' => hb (by simp [q']))).trans (hk c o (fun q' => hb (by simp [q'])) (fun q' => hb (by simp [q'])) (fun q' => hb (by simp [q'])) (fun q' => hb (by simp [q'])) (fun q' => hb (by simp [q'])) q)) hf (Nat.le_refl _) new
    refine ⟨.ref s.heap.objs.size, _, I1, rfl, ⟨_, x, y, u, rfl, I.hok.fresh (Nat.le_refl _), rfl, fun l hl => by rw [I.list_inj hl hqx]; exact hx, fun l hl => by rw [I.list_inj hl hqy]; exact hy, fun l hl => by rw [I.list_inj hl hqz]; exact hu⟩, ⟨z'', ?_, ⟨v1, v2, v3, ?_⟩, ?_, ?_, ?_⟩, fun c hcm => ?_⟩
    · exact (sb.2 _ D.s.TIz).trans (hk _ _ D.s.TIz D.s.TITO D.s.TIi1 D.s.TIi2 D.s.TIi3 hTI)
    · exact (sb.2 _ D.s.TOz).trans TO'
    · exact h1'.1.at fun o q => (sb.2 _ (fun e => D.s.zf1 (by simp [e]))).trans q
    · exact h2'.1.at fun o q => (sb.2 _ (fun e => D.s.zf2 (by simp [e]))).trans q
    · exact h3'.1.at fun o q => (sb.2 _ (fun e => D.s.zf3 (by simp [e]))).trans q
    · have hlt : c < s.heap.objs.size := by
        have e' : c = z ∨ c = TI ∨ c = TO ∨ c = i1 ∨ c = i2 ∨ c = i3 := by simpa using hcm
        rcases e' with q | q | q | q | q | q
        · rw [q]; exact hzl
        · rw [q]; exact Heap.lt_size hTI
        · rw [q]; exact Heap.lt_size hTO
        · rw [q]; obtain ⟨_, e1, _⟩ := h1; exact Heap.lt_size e1
        · rw [q]; obtain ⟨_, e2, _⟩ := h2; exact Heap.lt_size e2
        · rw [q]; obtain ⟨_, e3, _⟩ := h3; exact Heap.lt_size e3
      rw [upd_ne (Nat.ne_of_lt hlt)]
      exact (hf c hcm).1
  done := by
    intro X hP hw hK hc i pins s σ H E I hf st hg
    subst hP hw hK
    obtain ⟨hz, hTI, ⟨x0, y0, u0, hTO⟩, h1, h2, h3⟩ := st
    obtain ⟨xs, ys, zs, hqx, hqy, hqz, hend⟩ := hg
    obtain ⟨its, rv, p, _⟩ := I.list hqx
    obtain ⟨its2, rv2, p2, _⟩ := I.list hqy
    obtain ⟨its3, rv3, p3, _⟩ := I.list hqz
    have l1 := rv.length
    have l2 := rv2.length
    have l3 := rv3.length
    have hh : X.A.in1.handled = none := I.ok.hd hc
    obtain ⟨n1, P1, S1, D1, t1, g1, e1⟩ := draws_at (prog := X.prog) (w := X.w) hh D.a1 h1 p.isList
    obtain ⟨n2, P2, S2, D2, t2, g2, e2⟩ := draws_at (prog := X.prog) (w := X.w) hh D.b2 h2 p2.isList
    obtain ⟨n3, P3, S3, D3, t3, g3, e3⟩ := draws_at (prog := X.prog) (w := X.w) hh D.c3 h3 p3.isList
    have he : i = n1 ∨ i = n2 ∨ i = n3 := by
      rcases hend with q | q | q
      · exact .inl (e1 (by simp; omega))
      · exact .inr (.inl (e2 (by simp; omega)))
      · exact .inr (.inr (e3 (by simp; omega)))
    exact wpAny_pyNext_zipD3_end D.s D1 D2 D3 hz hTI hTO t1 t2 t3 g1 g2 g3 he fun h' tk hk => ⟨rfl, I.turnedL (t' := tk) (ch := [z, TI, TO, i1, i2, i3]) (fun c o hb q =>
      hk c o (fun q' => hb (by simp [q'])) (fun q' => hb (by simp [q'])) (fun q' => hb (by simp [q'])) (fun q' => hb (by simp [q'])) (fun q' => hb (by simp [q'])) q) hf⟩
  self := fun A i s Q E st h => wpAny_pyIter_zip st.1 h
def iZip3 (K : PySem.W.Frag) (ta : TA) : TI := fun σ H R => ta σ H fun vs H1 => ∃ a b c xs ys zs, vs = [.ref a, .ref b, .ref c] ∧ SqL K H1 a xs ∧ SqL K H1 b ys ∧ SqL K H1 c zs ∧ R (Itz3 K a b c) H1
theorem apart3 {n a b c : Nat} (ha : a < n) (hb : b < n) (hc : c < n) : Apart3 (n + 5) (n + 3) (n + 4) n (n + 1) (n + 2) a b c := by
  have mem2 : ∀ {x y z : Nat}, x ≠ y → x ≠ z → x ∉ [y, z] := fun h1 h2 h => by
    rcases List.mem_cons.mp h with e | h
    · exact h1 e
    · exact h2 (List.mem_singleton.mp h)
  have ne : ∀ {x y : Nat}, x < y ∨ y < x → x ≠ y := fun h e => by omega
  exact ⟨{ TIz := ne (by omega), TOz := ne (by omega), TITO := ne (by omega), TIi1 := ne (by omega), mem1 := .head _, zf1 := mem2 (ne (by omega)) (ne (by omega)), Tf1 := mem2 (ne (by omega)) (ne (by omega)), TIi2 := ne (by omega), mem2 := .head _, zf2 := mem2 (ne (by omega)) (ne (by omega)), Tf2 := mem2 (ne (by omega)) (ne (by omega)), TIi3 := ne (by omega), mem3 := .head _, zf3 := mem2 (ne (by omega)) (ne (by omega)), Tf3 := mem2 (ne (by omega)) (ne (by omega)), sep1_2 := mem2 (ne (by omega)) (ne (by omega)), sep1_3 := mem2 (ne (by omega)) (ne (by omega)), sep2_1 := mem2 (ne (by omega)) (ne (by omega)), sep2_3 := mem2 (ne (by omega)) (ne (by omega)), sep3_1 := mem2 (ne (by omega)) (ne (by omega)), sep3_2 := mem2 (ne (by omega)) (ne (by omega)) }, ne (by omega), ne (by omega), ne (by omega)⟩
theorem pi_zip3 {X : Cx} {e e2 e3 : Expr} {ta : TA} {p pos tpos : Pos} {elts : List Expr} {kk : Nat} (hg : Gl X "zip") (hm : X.mg "zip" = none) (ha : PA X [e, e2, e3] ta)
    (hs : starEach [e, e2, e3] X.env = (false, eval e X.env) :: starEach [e2, e3] X.env := by rfl) (hpl : (backTo pos (starEach [e2, e3] X.env)).any (·.1) = false := by rfl) :
    PI X (.Tuple elts kk tpos) (.Call (.Name "zip" p) [e, e2, e3] [] pos) (iZip3 X.K ta) := by
  refine ⟨fun pins s σ H R I h => ?_⟩
  refine Call_ (ld_blt I hg hm PyProof.Rows.boot_zip (PyProof.Rows.callWith_type1 (thn (ha.run pos pins s σ H _ I h) fun us s1 ⟨vs, H1, I1, r1, q1⟩ => ?_) hs hpl))
  obtain ⟨a, b, c, xs, ys, zs, ex, hqx, hqy, hqz, q⟩ := q1
  subst ex
  cases r1 with
  | cons r rr =>
    cases rr with
    | cons r' rr =>
      cases rr with
      | cons r'' rr =>
        cases rr
        cases r
        cases r'
        cases r''
        obtain ⟨its, rv, p1, _⟩ := I1.list hqx
        obtain ⟨its2, rv2, p2, _⟩ := I1.list hqy
        obtain ⟨its3, rv3, p3, _⟩ := I1.list hqz
        refine zip_begins3 (begins_list a its.toArray) (begins_list b its2.toArray) (begins_list c its3.toArray) p1.isList p2.isList p3.isList fun h' hz hTI hTO h1 h2 h3 hsz hk => wpAny_pyIter_zip hz ?_
        have I2 : Inv X pins σ H1 { s1 with heap := h' } := I1.kept (t' := s1.toks) hk
        refine ⟨s1.heap.objs.size + 5, [s1.heap.objs.size + 5, s1.heap.objs.size + 3, s1.heap.objs.size + 4, s1.heap.objs.size, s1.heap.objs.size + 1, s1.heap.objs.size + 2], _, _, H1, rfl, I2, turn_zip3 (apart3 p1.lt p2.lt p3.lt), ⟨hz, hTI, ⟨_, _, _, hTO⟩, ⟨_, h1, rfl, rfl⟩, ⟨_, h2, rfl, rfl⟩, ⟨_, h3, rfl, rfl⟩⟩, fun c hcm => ?_, q⟩
        have hle : s1.heap.objs.size ≤ c := by
          have e' : c = s1.heap.objs.size + 5 ∨ c = s1.heap.objs.size + 3 ∨ c = s1.heap.objs.size + 4 ∨ c = s1.heap.objs.size ∨ c = s1.heap.objs.size + 1 ∨ c = s1.heap.objs.size + 2 := by simpa using hcm
          rcases e' with z | z | z | z | z | z
          · rw [z]; exact Nat.le_add_right _ _
          · rw [z]; exact Nat.le_add_right _ _
          · rw [z]; exact Nat.le_add_right _ _
          · rw [z]; exact Nat.le_refl _
          · rw [z]; exact Nat.le_add_right _ _
          · rw [z]; exact Nat.le_add_right _ _
        exact I1.fpOk hle (I1.hok.fresh hle)
def zipF3 : List D → List D → List D → List D
  | d :: ds, e :: es, f :: fs => .tuple [d, e, f] :: zipF3 ds es fs
  | _, _, _ => []
theorem zipF3_len : ∀ {ds es fs : List D}, (zipF3 ds es fs).length = min ds.length (min es.length fs.length)
  | [], _, _ => by simp [zipF3]
  | _ :: _, [], _ => by simp [zipF3]
  | _ :: _, _ :: _, [] => by simp [zipF3]
  | d :: ds, e :: es, f :: fs => by show (zipF3 ds es fs).length + 1 = _; rw [zipF3_len]; simp only [List.length_cons]; omega
theorem zipF3_get : ∀ {i : Nat} {ds es fs : List D} {d : D}, (zipF3 ds es fs)[i]? = some d → ∃ x y z, ds[i]? = some x ∧ es[i]? = some y ∧ fs[i]? = some z ∧ d = .tuple [x, y, z]
  | 0, x :: ds, y :: es, z :: fs, d, h => ⟨x, y, z, rfl, rfl, rfl, by
    have e : PyData.tuple [x, y, z] = d := by simpa [zipF3] using h
    exact e.symm⟩
  | i + 1, x :: ds, y :: es, z :: fs, d, h => by
    obtain ⟨a, b, c, h1, h2, h3, h4⟩ := zipF3_get (i := i) (ds := ds) (es := es) (fs := fs) (d := d) (by simpa [zipF3] using h)
    exact ⟨a, b, c, h1, h2, h3, h4⟩
  | _, [], _, _, d, h => by simp [zipF3] at h
  | _, _ :: _, [], _, d, h => by simp [zipF3] at h
  | _, _ :: _, _ :: _, [], d, h => by simp [zipF3] at h
theorem zipF3_map {α β γ : Type} {f : α → D} {g : β → D} {k : γ → D} : ∀ {xs : List α} {ys : List β} {zs : List γ}, zipF3 (xs.map f) (ys.map g) (zs.map k) = (xs.zip (ys.zip zs)).map fun p => .tuple [f p.1, g p.2.1, k p.2.2]
  | [], _, _ => rfl
  | _ :: _, [], _ => rfl
  | _ :: _, _ :: _, [] => rfl
  | x :: xs, y :: ys, z :: zs => by
    show PyData.tuple [f x, g y, k z] :: zipF3 (xs.map f) (ys.map g) (zs.map k) = _
    rw [zipF3_map]
    rfl
section
variable {K : PySem.W.Frag} {a b c : Addr} {ds es fs : List D}
theorem walks_zip3 : Walks K (Itz3 K a b c) [.ref a, .ref b, .ref c] [.list ds, .list es, .list fs] (zipF3 ds es fs) := by
  have one : ∀ {H : Hp} {O : List Addr}, DpAll K (hide H O) [.ref a, .ref b, .ref c] [.list ds, .list es, .list fs] → DpAll K (hide H O) [.ref a] [.list ds] ∧ DpAll K (hide H O) [.ref b] [.list es] ∧ DpAll K (hide H O) [.ref c] [.list fs] := fun q => by
    cases q with
    | cons h1 h2 =>
      cases h2 with
      | cons h2 h3 => exact ⟨.cons h1 .nil, .cons h2 .nil, h3⟩
  refine ⟨fun H O i _ q hi => ?_, fun H O i y H' d dom q hy hd => ?_, fun H O i _ q hi => ?_⟩
  · obtain ⟨xs, h1, h2⟩ := rd_lst (one q).1
    obtain ⟨ys, g1, g2⟩ := rd_lst (one q).2.1
    obtain ⟨zs, k1, k2⟩ := rd_lst (one q).2.2
    rw [zipF3_len] at hi
    have l1 : i < xs.length := by rw [DL.DpAll.len h2]; omega
    have l2 : i < ys.length := by rw [DL.DpAll.len g2]; omega
    have l3 : i < zs.length := by rw [DL.DpAll.len k2]; omega
    exact ⟨xs, ys, zs, xs[i], ys[i], zs[i], h1, g1, k1, List.getElem?_eq_getElem l1, List.getElem?_eq_getElem l2, List.getElem?_eq_getElem l3⟩
  · obtain ⟨xs, h1, h2⟩ := rd_lst (one q).1
    obtain ⟨ys, g1, g2⟩ := rd_lst (one q).2.1
    obtain ⟨zs, k1, k2⟩ := rd_lst (one q).2.2
    obtain ⟨T, x, z, u, rfl, hT, rfl, hx, hz, hu⟩ := hy
    obtain ⟨d1, d2, d3, e1, e2, e3, rfl⟩ := zipF3_get hd
    obtain ⟨v1, f1, f2⟩ := DL.DpAll.get h2 e1
    obtain ⟨v2, f3, f4⟩ := DL.DpAll.get g2 e2
    obtain ⟨v3, f5, f6⟩ := DL.DpAll.get k2 e3
    have m1 := hx xs h1
    have m2 := hz ys g1
    have m3 := hu zs k1
    rw [f1] at m1; cases m1
    rw [f3] at m2; cases m2
    rw [f5] at m3; cases m3
    exact ⟨same_new hT, new_tup hT (fresh_out dom hT) (.cons f2 (.cons f4 (.cons f6 .nil)))⟩
  · obtain ⟨xs, h1, h2⟩ := rd_lst (one q).1
    obtain ⟨ys, g1, g2⟩ := rd_lst (one q).2.1
    obtain ⟨zs, k1, k2⟩ := rd_lst (one q).2.2
    rw [zipF3_len] at hi
    refine ⟨xs, ys, zs, h1, g1, k1, ?_⟩
    rw [DL.DpAll.len h2, DL.DpAll.len g2, DL.DpAll.len k2]
    omega
end
@[reducible] def wIZip3 (wa : WA) : WI := fun ρ Q E => wa ρ (fun cs ρ1 => match frzs cs with
  | [.v (.list ds), .v (.list es), .v (.list fs)] => Q (zipF3 ds es fs) ρ1
  | _ => False) E
section
variable {X : Cx} {g : G} {W : WX} {a b c : Expr} {wa : WA} {p pos : Pos}
theorem ei_zip3 {elts : List Expr} {kk : Nat} {tpos : Pos} (hg : Gl X "zip") (hm : X.mg "zip" = none) (ha : EA X g W [a, b, c] wa) (hs : starEach [a, b, c] X.env = (false, eval a X.env) :: starEach [b, c] X.env := by rfl) (hpl : (backTo pos (starEach [b, c] X.env)).any (·.1) = false := by rfl) : EI X g W (.Tuple elts kk tpos) (.Call (.Name "zip" p) [a, b, c] [] pos) (wIZip3 wa) := by
  obtain ⟨t, q, s⟩ := ha.ex
  refine ⟨_, pi_zip3 hg hm q hs hpl, fun σ vs H ρ cs QD ED R hS hw hX hQ => ?_⟩
  refine s σ vs H ρ cs _ ED _ hS hw hX fun xs H1 ccs ρ1 hl S1 q1 => ?_
  split at q1
  · rename_i ds es fs ec
    obtain ⟨x, y, z, rfl, S2⟩ := args3 hl S1 (frzs_eq.symm.trans ec)
    have z1 := S2.top
    have z2 := S2.pop.top
    have z3 := S2.pop.pop.top
    cases z1 with
    | lst h1 h2 =>
      cases z2 with
      | lst g1 g2 =>
        cases z3 with
        | lst k1 k2 => exact ⟨_, _, _, _, _, _, rfl, Same.seq same_hide h1, Same.seq same_hide g1, Same.seq same_hide k1, hQ _ [_, _, _] [.list _, .list _, .list _] _ H1 ρ1 rfl S2 walks_zip3 q1⟩
  · exact q1.elim
end
end DL

set_option Elab.async false
set_option linter.all false
set_option maxRecDepth 100000
set_option maxHeartbeats 4000000
/-! DLIdx: xs.index(x), xs.count(x), xs data -/
namespace DL
open PySem PySem.Spec PyProof.Rows L2
/-- the first place of an equal one -/
def idxD : List D → D → Option Nat
  | [], _ => none
  | z :: ds, d => if PyData.eqv z d = true then some 0 else (idxD ds d).map (· + 1)
theorem idxD_some : ∀ {ds : List D} {d : D} {j : Nat}, idxD ds d = some j → ∃ z, ds[j]? = some z ∧ PyData.eqv z d = true ∧ ∀ (m : Nat) (z' : D), m < j → ds[m]? = some z' → PyData.eqv z' d = false
  | z :: ds, d, j, e => by
    unfold idxD at e
    split at e
    · rename_i h
      cases e
      exact ⟨z, rfl, h, fun m z' hm => absurd hm (Nat.not_lt_zero m)⟩
    · rename_i h
      obtain ⟨i, e1, rfl⟩ := Option.map_eq_some_iff.mp e
      obtain ⟨w, h1, h2, h3⟩ := idxD_some e1
      refine ⟨w, h1, h2, fun m z' hm hz => ?_⟩
      cases m with
      | zero => cases hz; exact Bool.not_eq_true _ |>.mp h
      | succ m => exact h3 m z' (by omega) hz
@[reducible] def wIdx (wa wb : WE) : WE := fun ρ Q E => wa ρ (fun c1 ρ1 => match c1 with
  | .v (.list ds) => wb ρ1 (fun c2 ρ2 => match c2 with
    | .v d => (SeqAt.shaped (.list ds) = true ∧ SeqAt.shaped d = true) ∧ optK (idxD ds d) fun j => Q (.v (.int (j : Nat))) ρ2
    | _ => False) E
  | _ => False) E
@[reducible] def wCount (wa wb : WE) : WE := fun ρ Q E => wa ρ (fun c1 ρ1 => match c1 with
  | .v (.list ds) => wb ρ1 (fun c2 ρ2 => match c2 with
    | .v d => (SeqAt.shaped (.list ds) = true ∧ SeqAt.shaped d = true) ∧ Q (.v (.int (ds.countP fun z => PyData.eqv z d : Nat))) ρ2
    | _ => False) E
  | _ => False) E
def rCountD (K : PySem.W.Frag) : V → List V → Hp → VK → Prop := fun x xs H Q => ∃ (a : Addr) (y : V) (d : PyData) (ds : List PyData), x = V.ref a ∧ xs = [y] ∧ Dp K H (V.ref a) (.list ds) ∧ Dp K H y d ∧
  SeqAt.shaped (.list ds) = true ∧ SeqAt.shaped d = true ∧ Q (.int (ds.countP fun z => PyData.eqv z d : Nat)) H
section
variable {X : Cx} {g : G} {W : WX} {a b : Expr} {wa wb : WE} {apos pos : Pos}
theorem mt_countD (hu : X.A.units + 65 < cLine) : MtR X "list.count" (rCountD X.K) := by
  intro pins s σ H x xs v us Q I rx rxs h
  obtain ⟨a, y, d, ds, rfl, rfl, hl, hy, sl, sd, q⟩ := h
  cases rx
  cases rxs with
  | cons ry rt =>
    rename_i uy ut
    cases rt
    obtain ⟨bs, r1⟩ := Dp.reads I d y uy hy ry
    have hxs : PyData.canLayAll0 ds = true := SeqAt.canLay_of_shaped sl
    have hroom : X.A.units + 1 + min (PyData.depthAll ds) d.depth < cLine := room_in_shaped sd hu
    cases hl with
    | lst hs ha =>
      obtain ⟨its, rv, ⟨⟨cls, dd, data, sls⟩, n, ho, hc, hdn, hdt⟩, hlen⟩ := I.list hs
      simp only at hc hdt
      subst hc hdt
      obtain ⟨as, h4⟩ := Dp.readsAll I ds _ its ha rv
      have hmap : its.map (SeqAt.readOf s.heap) = ds := SeqAt.readsAll_map ds its as hxs h4
      refine call_meets PySem.F.slot_list_count ⟨_, ho, rfl⟩ PySem.F.entry_list_count (PySem.F.args_list_count_2 _ _)
        (SeqAt.list_countAt a its.toArray n dd sls uy (fun u => PyData.eqv (SeqAt.readOf s.heap u) d)) ⟨ho, SeqAt.items_eqAt (vs := its.toArray) (show ReadsAll s.heap its.toArray.toList ds as from h4) r1 hxs (SeqAt.canLay_of_shaped sd) hroom, ?_⟩
      have ec : its.toArray.toList.countP (fun u => PyData.eqv (SeqAt.readOf s.heap u) d) = ds.countP fun z => PyData.eqv z d := by
        rw [← hmap, List.countP_map]
        rfl
      refine ⟨.int (ds.countP fun z => PyData.eqv z d : Nat), H, I.tok _, ⟨s.toks, ?_⟩, q⟩
      show Value.int _ s.toks = Value.int _ s.toks
      rw [← ec]
theorem ee_index (hu : X.A.units + 65 < cLine) (ha : EE X g W a wa) (hb : EE X g W b wb) (hbase : attributeBase a "index" X.env (eval a X.env) = eval a X.env := by rfl)
    (hfew : ((backTo pos (starEach [b] X.env)).all (fun x => !x.1) && (backToKw pos (keywordEach [] X.env)).all (fun x => x.1.isSome)
      && decide (([b] : List Expr).length + ([] : List Keyword).length + (if ([] : List Keyword).isEmpty then 0 else 1) < 30)) = true := by rfl)
    (hline : (apos.endLine == pos.line) = true := by rfl) (hs : starEach [b] X.env = (false, eval b X.env) :: starEach [] X.env := by rfl) (hplain : (backTo pos (starEach [] X.env)).any (·.1) = false := by rfl) :
    EE X g W (.Call (.Attribute a "index" apos) [b] [] pos) (wIdx wa wb) := by
  obtain ⟨t1, p1, s1⟩ := ha.ex
  obtain ⟨t2, p2, s2⟩ := hb.ex
  refine ⟨_, pe_bm PySem.F.plainAttrs_list PySem.F.slot_list_index PySem.F.type_list_index (mt_indexD hu) p1 (pa_cons p2 pa_nil hs) hbase hfew hline hs hplain, fun σ vs H ρ cs QD ED Q hS hw hX hQ => ?_⟩
  refine s1 σ vs H ρ cs _ ED _ hS hw hX fun x H1 c1 ρ1 S1 q1 => ?_
  split at q1
  · rename_i ds
    have dx := dp_mono same_hide _ _ S1.top
    cases dx with
    | lst hs1 ha1 =>
      refine ⟨.inl ⟨rfl, _, hs1⟩, ?_⟩
      refine s2 σ (_ :: vs) H1 ρ1 (_ :: cs) _ ED _ S1 q1 hX fun y H2 c2 ρ2 S2 q2 => ?_
      split at q2
      · rename_i d
        obtain ⟨⟨sl, sd⟩, q2⟩ := q2
        cases e : idxD ds d with
        | none => rw [e] at q2; exact q2.elim
        | some j =>
          rw [e] at q2
          obtain ⟨z, h1, h2, h3⟩ := idxD_some e
          exact ⟨_, y, d, ds, j, z, rfl, rfl, dp_mono same_hide _ _ S2.pop.top, dp_mono same_hide _ _ S2.top, sl, sd, h1, h2, h3, hQ _ _ (.v (.int (j : Nat))) ρ2 (SR.resV S2.pop.pop (Same.refl _) (.int _)) q2⟩
      · exact q2.elim
  · exact q1.elim
theorem ee_count (hu : X.A.units + 65 < cLine) (ha : EE X g W a wa) (hb : EE X g W b wb) (hbase : attributeBase a "count" X.env (eval a X.env) = eval a X.env := by rfl)
    (hfew : ((backTo pos (starEach [b] X.env)).all (fun x => !x.1) && (backToKw pos (keywordEach [] X.env)).all (fun x => x.1.isSome)
      && decide (([b] : List Expr).length + ([] : List Keyword).length + (if ([] : List Keyword).isEmpty then 0 else 1) < 30)) = true := by rfl)
    (hline : (apos.endLine == pos.line) = true := by rfl) (hs : starEach [b] X.env = (false, eval b X.env) :: starEach [] X.env := by rfl) (hplain : (backTo pos (starEach [] X.env)).any (·.1) = false := by rfl) :
    EE X g W (.Call (.Attribute a "count" apos) [b] [] pos) (wCount wa wb) := by
  obtain ⟨t1, p1, s1⟩ := ha.ex
  obtain ⟨t2, p2, s2⟩ := hb.ex
  refine ⟨_, pe_bm PySem.F.plainAttrs_list PySem.F.slot_list_count PySem.F.type_list_count (mt_countD hu) p1 (pa_cons p2 pa_nil hs) hbase hfew hline hs hplain, fun σ vs H ρ cs QD ED Q hS hw hX hQ => ?_⟩
  refine s1 σ vs H ρ cs _ ED _ hS hw hX fun x H1 c1 ρ1 S1 q1 => ?_
  split at q1
  · rename_i ds
    have dx := dp_mono same_hide _ _ S1.top
    cases dx with
    | lst hs1 ha1 =>
      refine ⟨.inl ⟨rfl, _, hs1⟩, ?_⟩
      refine s2 σ (_ :: vs) H1 ρ1 (_ :: cs) _ ED _ S1 q1 hX fun y H2 c2 ρ2 S2 q2 => ?_
      split at q2
      · rename_i d
        obtain ⟨⟨sl, sd⟩, q2⟩ := q2
        exact ⟨_, y, d, ds, rfl, rfl, dp_mono same_hide _ _ S2.pop.top, dp_mono same_hide _ _ S2.top, sl, sd, hQ _ _ (.v (.int _)) ρ2 (SR.resV S2.pop.pop (Same.refl _) (.int _)) q2⟩
      · exact q2.elim
  · exact q1.elim
end
end DL

set_option Elab.async false
set_option linter.all false
set_option maxRecDepth 100000
set_option maxHeartbeats 4000000
/-! DLCallE: a call whose last argument is a lent slot. -/
namespace DL
open PySem PySem.Spec PyProof.Rows L2
@[reducible] def lstK : List C → (C → Prop) → Prop
  | [], _ => False
  | r :: rs, k => match rs with
    | [] => k r
    | _ :: _ => lstK rs k
theorem lstK_snoc : ∀ {rs : List C} {k : C → Prop}, lstK rs k → ∃ pre r, rs = pre ++ [r] ∧ k r
  | [], _, h => h.elim
  | [r], k, h => ⟨[], r, rfl, h⟩
  | r :: s :: rs, k, h => by
    obtain ⟨pre, r', e, h'⟩ := lstK_snoc (rs := s :: rs) (k := k) h
    exact ⟨r :: pre, r', by rw [e]; rfl, h'⟩
/-- the arguments ahead, and the lent slot behind them -/
@[reducible] def callPE (S : SpD) (i : Nat) (ρ : Rho) (pre : List C) (Q : KC) (E : KX) : Prop := match rget ρ i with
  | .own t o => useK (rset ρ i .no) pre fun ds => S (ds.map C.v ++ [.own (ds.length + 1) o])
      (fun c rs => lstK rs fun r => (pre.any C.isLn = true → c.lf = true ∧ (retag (.own t o) r).lfo = true) ∧ Q c (rset ρ i (retag (.own t o) r)))
      (fun x rs => lstK rs fun r => (pre.any C.isLn = true → x.fs = [] ∧ (retag (.own t o) r).lfo = true) ∧ E x (rset ρ i (retag (.own t o) r)))
  | _ => False
@[reducible] def snocC : List C → C → List C
  | [], c => [c]
  | x :: xs, c => x :: snocC xs c
theorem snocC_eq : ∀ {l : List C} {c : C}, snocC l c = l ++ [c]
  | [], _ => rfl
  | x :: xs, c => by
    show x :: snocC xs c = x :: (xs ++ [c])
    rw [snocC_eq]
@[reducible] def callE (S : SpD) (ρ : Rho) : List C → List C → KC → KX → Prop
  | _, [], _, _ => False
  | acc, c :: cs, Q, E => match cs with
    | [] => match c with
      | .pk i => callPE S i ρ acc Q E
      | _ => False
    | _ :: _ => callE S ρ (snocC acc c) cs Q E
theorem callE_snoc {S : SpD} {ρ : Rho} {Q : KC} {E : KX} : ∀ {cs acc : List C}, callE S ρ acc cs Q E → ∃ pre i, cs = pre ++ [.pk i] ∧ callPE S i ρ (acc ++ pre) Q E
  | [], _, h => h.elim
  | [c], acc, h => by
    cases c with
    | pk i => exact ⟨[], i, rfl, by rw [List.append_nil]; exact h⟩
    | _ => exact h.elim
  | c :: d :: cs, acc, h => by
    have h : callE S ρ (snocC acc c) (d :: cs) Q E := h
    rw [snocC_eq] at h
    obtain ⟨pre, i, e, h'⟩ := callE_snoc (cs := d :: cs) (acc := acc ++ [c]) h
    exact ⟨c :: pre, i, by rw [e]; rfl, by rw [List.append_assoc] at h'; exact h'⟩
@[reducible] def wCallE (S : SpD) (wa : WA) : WE := fun ρ Q E => wa ρ (fun ccs ρ1 => callE S ρ1 [] ccs Q E) E
theorem argM_snoc {ρ : Rho} {t : Nat} {o : OD} : ∀ {cs as : List C} {k : Nat}, argM ρ k cs = some as → argM ρ k (cs ++ [.own t o]) = some (as ++ [.own (k + cs.length + 1) o])
  | [], as, k, h => by
    cases h
    rfl
  | c :: cs, as, k, h => by
    have key : ∀ c' : C, (∀ t o, c' ≠ .own t o) → argM ρ k (c' :: cs) = some as → argM ρ k (c' :: (cs ++ [.own t o])) = some (as ++ [.own (k + (c' :: cs).length + 1) o]) := by
      intro c' hn he
      have e1 : ∀ l, argM ρ k (c' :: l) = match dat ρ c', argM ρ (k + 1) l with | some d, some as => some (.v d :: as) | _, _ => none := fun l => by
        cases c' with
        | own t o => exact absurd rfl (hn t o)
        | _ => rfl
      rw [e1] at he ⊢
      split at he
      · rename_i d as' h1 h2
        cases he
        rw [h1, argM_snoc h2]
        show some (C.v d :: (as' ++ _)) = some (C.v d :: as' ++ _)
        rw [List.length_cons, show k + 1 + cs.length + 1 = k + (cs.length + 1) + 1 by omega]
        rfl
      · cases he
    cases c with
    | own t' o' =>
      have h : (argM ρ (k + 1) cs).map (C.own (k + 1) o' :: ·) = some as := h
      obtain ⟨as', h2, rfl⟩ := Option.map_eq_some_iff.mp h
      show (argM ρ (k + 1) (cs ++ [.own t o])).map (C.own (k + 1) o' :: ·) = _
      rw [argM_snoc h2]
      show some (_ :: (as' ++ _)) = _
      rw [List.length_cons, show k + 1 + cs.length + 1 = k + (cs.length + 1) + 1 by omega]
      rfl
    | _ => exact key _ (fun t o z => nomatch z) h
theorem retags_app : ∀ {a b c d : List C}, a.length = b.length → retags (a ++ c) (b ++ d) = retags a b ++ retags c d
  | [], [], _, _, _ => rfl
  | x :: a, y :: b, c, d, h => by
    show retag x y :: retags (a ++ c) (b ++ d) = retag x y :: (retags a b ++ retags c d)
    rw [retags_app (by simpa using h)]
  | [], _ :: _, _, _, h => by simp at h
  | _ :: _, [], _, _, h => by simp at h
theorem dats_len {ρ : Rho} : ∀ {ccs : List C} {ds : List D}, dats ρ ccs = some ds → ds.length = ccs.length
  | [], ds, h => by cases h; rfl
  | c :: ccs, ds, h => by
    unfold dats at h
    split at h
    · rename_i d ds' e1 e2
      cases h
      rw [List.length_cons, List.length_cons, dats_len e2]
    · cases h
section
variable {K : PySem.W.Frag} {g : G} {W : WX} {σ : L2.St} {vs : List V} {H : Hp} {ρ : Rho} {cs : List C} {i : Nat}
theorem SR.callPE {S : SpD} {x : V} {xs : List V} {ccs : List C} {QD : KC} {ED : KX} {E : XK} {Q : VK} (hl : xs.length = ccs.length) (h : SR K g σ (xs ++ x :: vs) H ρ (ccs ++ .pk i :: cs)) (q : DL.callPE S i ρ ccs QD ED) (hX : XEnds K g W σ ED) (hE : ∀ cls d σ H, W cls d σ H → E cls d H)
    (hQ : ∀ v H' c ρ', SR K g σ (v :: vs) H' ρ' (c :: cs) → QD c ρ' → Q v H') : spOf K S (xs ++ [x]) H Q E := by
  unfold DL.callPE at q
  split at q
  · rename_i t o eo
    obtain ⟨ds, e, q⟩ := useK_dats q
    have dl := dats_len e
    obtain ⟨e, rt, lf⟩ := argM_dats (k := 0) e
    have hl' : xs.length = (ccs.map frzC).length := by simpa using hl
    have h1 : SR K g σ (x :: (xs ++ vs)) H ρ (.pk i :: (ccs.map frzC ++ cs)) := SR.rot hl' (SR.frzArgs hl h)
    obtain ⟨ex, h2⟩ := h1.moveOut eo
    have hlen : i < ρ.length := rget_lt (by rw [eo]; exact fun z => nomatch z)
    have en : rget (rset ρ i .no) i = .no := rget_rset hlen
    have h3 : SR K g σ ((xs ++ [x]) ++ vs) H (rset ρ i .no) ((ccs.map frzC ++ [.own t o]) ++ cs) := by
      rw [List.append_assoc, List.append_assoc]
      exact SR.unrot hl' h2
    have hl3 : (xs ++ [x]).length = (ccs.map frzC ++ [C.own t o]).length := by simp [hl]
    have ea : argM (rset ρ i .no) 0 (ccs.map frzC ++ [.own t o]) = some (ds.map C.v ++ [.own (ds.length + 1) o]) := by
      rw [argM_snoc e, List.length_map, Nat.zero_add, dl]
    obtain ⟨P, entry, ret, exc⟩ := SR.callM h3 hl3 ea
    have hb0 : (ccs.map frzC ++ [C.own t o]).any C.isLn = ccs.any C.isLn := by
      rw [List.any_append, isLn_frz]
      show (_ || false) = _
      rw [Bool.or_false]
    have erE : ∀ (pre : List C) (r : C), (pre ++ [r]).length = (xs ++ [x]).length → retags (ccs.map frzC ++ [.own t o]) (pre ++ [r]) = ccs.map frzC ++ [retag (.own t o) r] := fun pre r el => by
      have pl : pre.length = xs.length := by simpa using el
      rw [retags_app (by rw [pl, ← hl']), rt pre (by rw [pl, hl])]
    refine ⟨_, P, _, _, entry, q, fun c rs hk qd v H' S' => ?_, fun y rs ed cls d H' S' xr => ?_⟩
    · have el := entry_len S'
      obtain ⟨pre, r, rfl, ok, qd⟩ := lstK_snoc qd
      have e3 := erE pre r el
      have S1 := ret v H' c (pre ++ [r]) hk S' fun z => by
        have z' := ok (by rw [hb0] at z; exact z)
        refine ⟨z'.1, fun p hp => ?_⟩
        rw [e3] at hp
        rcases List.mem_append.mp hp with w | w
        · exact lf p w
        · rw [List.mem_singleton.mp w]; exact z'.2
      rw [e3, List.append_assoc, List.append_assoc] at S1
      -- v :: (xs ++ ([x] ++ vs)), c :: (ccs' ++ ([r] ++ cs))
      have S2 : SR K g σ (xs ++ v :: (x :: vs)) H' (rset ρ i .no) (ccs.map frzC ++ c :: (retag (.own t o) r :: cs)) := SR.unrot hl' S1
      have S3 : SR K g σ ((xs ++ [v]) ++ x :: vs) H' (rset ρ i .no) ((ccs.map frzC ++ [c]) ++ retag (.own t o) r :: cs) := by
        rw [List.append_assoc, List.append_assoc]
        exact S2
      have S4 : SR K g σ (x :: ((xs ++ [v]) ++ vs)) H' (rset ρ i .no) (retag (.own t o) r :: ((ccs.map frzC ++ [c]) ++ cs)) := SR.rot (by simp [hl]) S3
      have S5 := S4.putBack ex en (by
        rcases retag_own (t := t) (o := o) (r := r) with ⟨o', w⟩ | w
        · rw [w]; exact .inl rfl
        · exact .inr w)
      rw [rset_rset, List.append_assoc, List.append_assoc] at S5
      exact hQ v H' c _ (SR.pops hl' S5) qd
    · have el := entry_len S'
      obtain ⟨pre, r, rfl, ok, ed⟩ := lstK_snoc ed
      have e3 := erE pre r el
      obtain ⟨S1, hs⟩ := exc H' (pre ++ [r]) S' fun z p hp => by
        have z' := ok (by rw [hb0] at z; exact z)
        rw [e3] at hp
        rcases List.mem_append.mp hp with w | w
        · exact lf p w
        · rw [List.mem_singleton.mp w]; exact z'.2
      rw [e3] at S1 hs
      have S1' : SR K g σ (xs ++ x :: vs) H' (rset ρ i .no) (ccs.map frzC ++ retag (.own t o) r :: cs) := by
        rw [List.append_assoc, List.append_assoc] at S1
        exact S1
      have S2 := SR.rot hl' S1'
      have S3 := SR.putBack (i := i) S2 ex en (by
        rcases retag_own (t := t) (o := o) (r := r) with ⟨o', w⟩ | w
        · rw [w]; exact .inl rfl
        · exact .inr w)
      rw [rset_rset] at S3
      refine hE cls d σ H' (hX y _ cls d H' S3.popAll (XRep.mono ?_ xr) ed)
      cases hb : ccs.any C.isLn with
      | true => exact .inl (ok hb).1
      | false =>
        refine .inr ((hs (by rw [hb0]; exact hb)).trans fun a u z => ?_)
        obtain ⟨z1, z2⟩ := hide_some.mp z
        refine hide_some.mpr ⟨fun w => z1 ?_, z2⟩
        rcases List.mem_append.mp w with w | w
        · refine List.mem_append_left _ ?_
          have w' : a ∈ foot σ (rset ρ i (retag (.own t o) r)) := w
          have pm := foot_in (σ := σ) (ρ := rset ρ i .no) (c := retag (.own t o) r) ex (by rw [rset_len]; exact hlen) en
          rw [rset_rset] at pm
          have w2 := pm.mem_iff.mp w'
          rw [tot_app (by simp [hl])]
          rcases List.mem_append.mp w2 with w2 | w2
          · refine List.mem_append_left _ ?_
            rw [List.map_append, foot_app (by simpa using hl')]
            refine List.mem_append_right _ ?_
            show a ∈ footC (some x) (retag (.own t o) r) ++ []
            rw [List.append_nil]
            exact w2
          · exact List.mem_append_right _ (List.mem_append_right _ w2)
        · exact List.mem_append_right _ w
  · exact q.elim
end
section
variable {X : Cx} {g : G} {W : WX} {CX : CXT} {k : Nat} {f : Addr} {fd : FuncData} {ps : List Str} {S : SpD} {E : XK} {x : Str} {p pos : Pos} {e : Expr} {es : List Expr} {wa : WA}
theorem ee_callE (F : FnOk X.prog X.w X.K X.mg X.base CX k f fd ps (spOf X.K S)) (hr : Room k X.A) (hg : Gl X x) (hm : X.mg x = some (.ref f)) (hk : PySem.W.keepIn X.K (.ref f) = true) (hb : Binds X.K fd ps []) (hx : Passes CX X E) (hE : ∀ cls d σ H, W cls d σ H → E cls d H)
    (ha : EA X g W (e :: es) wa) (hdb : (x == ("__debug__" : Str)) = false := by decide) (he : starEach (e :: es) X.env = (false, eval e X.env) :: starEach es X.env := by rfl) (hpl : (backTo pos (starEach es X.env)).any (·.1) = false := by rfl) :
    EE X g W (.Call (.Name x p) (e :: es) [] pos) (wCallE S wa) := by
  obtain ⟨t, q, s⟩ := ha.ex
  refine ⟨_, pe_call F hr hg hm hk hb .nil hx q hdb he hpl, fun σ vs H ρ cs QD ED Q hS hw hX hQ => ?_⟩
  refine s σ vs H ρ cs _ ED _ hS hw hX fun xs H1 ccs ρ1 hl S1 q1 => ?_
  rw [List.append_nil]
  obtain ⟨pre, i, rfl, q2⟩ := callE_snoc q1
  obtain ⟨ys, y, rfl⟩ : ∃ ys y, xs = ys ++ [y] := by
    rcases List.eq_nil_or_concat xs with z | ⟨ys, y, z⟩
    · rw [z] at hl; simp at hl
    · exact ⟨ys, y, by rw [z]; simp⟩
  rw [List.append_assoc, List.append_assoc] at S1
  exact SR.callPE (by simpa using hl) S1 q2 hX hE hQ
theorem ee_hasE (h : Has X.prog X.w X.K X.mg X.base k x S) (hr : Room k X.A) (hg : Gl X x) (ha : EA X g W0 (e :: es) wa) (hdb : (x == ("__debug__" : Str)) = false := by decide)
    (he : starEach (e :: es) X.env = (false, eval e X.env) :: starEach es X.env := by rfl) (hpl : (backTo pos (starEach es X.env)).any (·.1) = false := by rfl) : EE X g W0 (.Call (.Name x p) (e :: es) [] pos) (wCallE S wa) := by
  obtain ⟨f, fd, ps, F, hm, hk, hb⟩ := h.ex
  exact ee_callE F hr hg hm hk hb passL (fun _ _ _ _ z => z) ha hdb he hpl
end
end DL

set_option Elab.async false
set_option linter.all false
set_option maxRecDepth 100000
set_option maxHeartbeats 4000000
/-! DL: a, b, c = x, y, z -/
namespace DL
open PySem PySem.Spec PyProof.Rows L2
section
variable {X : Cx} {g : G} {W : WX}
/-- a, b, c = x, y, z (plain names) -/
@[reducible] def wPar3 (i j l : Nat) (wa : WA) : WS := fun DD ρ => wa ρ (fun cs ρ1 => match frzs cs with
  | [.v d1, .v d2, .v d3] => DD.nx (rset (rset (rset ρ1 l (.v d3)) j (.v d2)) i (.v d1))
  | _ => False) DD.ex
theorem es_par3 {i j l : Nat} {x y z : Str} {a b c : Expr} {wa : WA} {px py pz pt spos : Pos} {kt k2 pt2} (hc : X.calm = true) (hN : X.N.Nodup) (hi : X.N[i]? = some x) (hj : X.N[j]? = some y) (hl : X.N[l]? = some z) (hij : i ≠ j) (hil : i ≠ l) (hjl : j ≠ l)
    (hx : X.env.scope.names.lookup x = some .local) (hy : X.env.scope.names.lookup y = some .local) (hz : X.env.scope.names.lookup z = some .local) (ha : EA X g W [a, b, c] wa)
    (hw : swappedStores [.Tuple [.Name x px, .Name y py, .Name z pz] kt pt] (.Tuple [a, b, c] k2 pt2) X.env = pure (some [x, y, z]))
    (hs : swapsWithSole [.Tuple [.Name x px, .Name y py, .Name z pz] kt pt] (.Tuple [a, b, c] k2 pt2) spos.line X.env = pure false := by rfl) :
    ES X g W (.Assign [.Tuple [.Name x px, .Name y py, .Name z pz] kt pt] (.Tuple [a, b, c] k2 pt2) spos) (wPar3 i j l wa) := by
  obtain ⟨t, q, s⟩ := ha.ex
  refine ⟨_, ps_par3 hc hN hi hj hl hij hil hjl hx hy hz q hw hs, fun σ vs H ρ cs DD D hS hp hw hE => ?_⟩
  refine s σ vs H ρ cs _ _ _ hS hw (hE.ex σ) fun xs H1 ccs ρ1 hl S1 q1 => ?_
  split at q1
  · rename_i d1 d2 d3 ec
    rw [frzs_eq] at ec
    have S2 := S1.frzArgs hl
    rw [ec] at S2
    have hlen : ccs.length = 3 := by have := congrArg List.length ec; simpa using this
    match xs, hl with
    | [u, v, w], _ =>
      refine ⟨u, v, w, rfl, ?_⟩
      have S3 : SR X.K g σ (w :: (u :: v :: vs)) H1 ρ1 (.v d3 :: (.v d1 :: .v d2 :: cs)) := SR.rot (xs := [u, v]) (ccs := [.v d1, .v d2]) rfl S2
      have S4 := S3.store (i := l) rfl (fun k z => ((hp.cons (c := .v d2) rfl).cons (c := .v d1) rfl).nopk z)
      have S5 := (SR.rot (xs := [u]) (ccs := [.v d1]) rfl S4).store (i := j) rfl (fun k z => (hp.cons (c := .v d1) rfl).nopk z)
      have S6 := S5.store (i := i) rfl (fun k z => hp.nopk z)
      rw [List.set_comm _ _ (Ne.symm hjl), List.set_comm _ _ (Ne.symm hil), List.set_comm _ _ (Ne.symm hij)] at S6
      exact hE.nx _ H1 _ S6 q1
    | [], h => simp at h; omega
    | [_], h => simp at h; omega
    | [_, _], h => simp at h; omega
    | _ :: _ :: _ :: _ :: _, h => simp at h; omega
  · exact q1.elim
@[reducible] def kc : Bool → C → C
  | true, c => c
  | false, c => frzC c
theorem SR.kcTop {K : PySem.W.Frag} {σ : L2.St} {vs : List V} {H : Hp} {ρ : Rho} {cs : List C} {x : V} {c : C} (o : Bool) (h : SR K g σ (x :: vs) H ρ (c :: cs)) : SR K g σ (x :: vs) H ρ (kc o c :: cs) := by
  cases o
  · exact h.frzTop
  · exact h
/-- a, b = x, y (plain names), what is made here stays an own object where it is wanted -/
@[reducible] def wParO (oi oj : Bool) (i j : Nat) (wa : WA) : WS := fun DD ρ => wa ρ (fun cs ρ1 => match cs with
  | [c1, c2] => (kc oi c1).plain = true ∧ (kc oj c2).plain = true ∧ DD.nx (rset (rset ρ1 j (kc oj c2)) i (kc oi c1))
  | _ => False) DD.ex
theorem es_parO {oi oj : Bool} {i j : Nat} {x y : Str} {a b : Expr} {wa : WA} {px py pt spos : Pos} {kt k2 pt2} (hc : X.calm = true) (hN : X.N.Nodup) (hi : X.N[i]? = some x) (hj : X.N[j]? = some y) (hij : i ≠ j)
    (hx : X.env.scope.names.lookup x = some .local) (hy : X.env.scope.names.lookup y = some .local) (ha : EA X g W [a, b] wa)
    (hw : swappedStores [.Tuple [.Name x px, .Name y py] kt pt] (.Tuple [a, b] k2 pt2) X.env = pure (some [x, y]))
    (hs : swapsWithSole [.Tuple [.Name x px, .Name y py] kt pt] (.Tuple [a, b] k2 pt2) spos.line X.env = pure false := by rfl) :
    ES X g W (.Assign [.Tuple [.Name x px, .Name y py] kt pt] (.Tuple [a, b] k2 pt2) spos) (wParO oi oj i j wa) := by
  obtain ⟨t, q, s⟩ := ha.ex
  refine ⟨_, ps_par hc hN hi hj hij hx hy q hw hs, fun σ vs H ρ cs DD D hS hp hw hE => ?_⟩
  refine s σ vs H ρ cs _ _ _ hS hw (hE.ex σ) fun xs H1 ccs ρ1 hl S1 q1 => ?_
  split at q1
  · rename_i c1 c2
    match xs, hl with
    | [u, v], _ =>
      refine ⟨u, v, rfl, ?_⟩
      obtain ⟨p1, p2, q1⟩ := q1
      have S2 := S1.kcTop oi
      have S3 : SR X.K g σ (v :: (u :: vs)) H1 ρ1 (c2 :: (kc oi c1 :: cs)) := SR.rot (xs := [u]) (ccs := [kc oi c1]) rfl S2
      have S4 := (S3.kcTop oj).store (i := j) p2 (fun k z => (hp.cons p1).nopk z)
      have S5 := S4.store (i := i) p1 (fun k z => hp.nopk z)
      rw [List.set_comm _ _ (Ne.symm hij)] at S5
      exact hE.nx _ H1 _ S5 q1
  · exact q1.elim
/-- the same of three -/
@[reducible] def wPar3O (oi oj ol : Bool) (i j l : Nat) (wa : WA) : WS := fun DD ρ => wa ρ (fun cs ρ1 => match cs with
  | [c1, c2, c3] => (kc oi c1).plain = true ∧ (kc oj c2).plain = true ∧ (kc ol c3).plain = true ∧ DD.nx (rset (rset (rset ρ1 l (kc ol c3)) j (kc oj c2)) i (kc oi c1))
  | _ => False) DD.ex
theorem es_par3O {oi oj ol : Bool} {i j l : Nat} {x y z : Str} {a b c : Expr} {wa : WA} {px py pz pt spos : Pos} {kt k2 pt2} (hc : X.calm = true) (hN : X.N.Nodup) (hi : X.N[i]? = some x) (hj : X.N[j]? = some y) (hl : X.N[l]? = some z) (hij : i ≠ j) (hil : i ≠ l) (hjl : j ≠ l)
    (hx : X.env.scope.names.lookup x = some .local) (hy : X.env.scope.names.lookup y = some .local) (hz : X.env.scope.names.lookup z = some .local) (ha : EA X g W [a, b, c] wa)
    (hw : swappedStores [.Tuple [.Name x px, .Name y py, .Name z pz] kt pt] (.Tuple [a, b, c] k2 pt2) X.env = pure (some [x, y, z]))
    (hs : swapsWithSole [.Tuple [.Name x px, .Name y py, .Name z pz] kt pt] (.Tuple [a, b, c] k2 pt2) spos.line X.env = pure false := by rfl) :
    ES X g W (.Assign [.Tuple [.Name x px, .Name y py, .Name z pz] kt pt] (.Tuple [a, b, c] k2 pt2) spos) (wPar3O oi oj ol i j l wa) := by
  obtain ⟨t, q, s⟩ := ha.ex
  refine ⟨_, ps_par3 hc hN hi hj hl hij hil hjl hx hy hz q hw hs, fun σ vs H ρ cs DD D hS hp hw hE => ?_⟩
  refine s σ vs H ρ cs _ _ _ hS hw (hE.ex σ) fun xs H1 ccs ρ1 hl S1 q1 => ?_
  split at q1
  · rename_i c1 c2 c3
    match xs, hl with
    | [u, v, w], _ =>
      refine ⟨u, v, w, rfl, ?_⟩
      obtain ⟨p1, p2, p3, q1⟩ := q1
      have S2 : SR X.K g σ (v :: (u :: w :: vs)) H1 ρ1 (c2 :: (kc oi c1 :: c3 :: cs)) := SR.rot (xs := [u]) (ccs := [kc oi c1]) rfl (S1.kcTop oi)
      have S3 : SR X.K g σ (w :: (v :: u :: vs)) H1 ρ1 (c3 :: (kc oj c2 :: kc oi c1 :: cs)) := SR.rot (xs := [v, u]) (ccs := [kc oj c2, kc oi c1]) rfl (S2.kcTop oj)
      have S4 := (S3.kcTop ol).store (i := l) p3 (fun k z => ((hp.cons p1).cons p2).nopk z)
      have S5 := S4.store (i := j) p2 (fun k z => (hp.cons p1).nopk z)
      have S6 := S5.store (i := i) p1 (fun k z => hp.nopk z)
      rw [List.set_comm _ _ (Ne.symm hjl), List.set_comm _ _ (Ne.symm hil), List.set_comm _ _ (Ne.symm hij)] at S6
      exact hE.nx _ H1 _ S6 q1
  · exact q1.elim
end
end DL

set_option Elab.async false
set_option linter.all false
set_option maxRecDepth 100000
set_option maxHeartbeats 4000000
/-! DL: a, b = x, y and a, b, c = x, y, z where a name is a cell (a pair is made and taken apart); own objects stay so -/
namespace DL
open PySem PySem.Spec PyProof.Rows L2
section
variable {X : Cx} {g : G} {W : WX}
theorem es_parC {oi oj : Bool} {i j : Nat} {x y : Str} {a b : Expr} {wa : WA} {px py pt spos : Pos} {kt k2 pt2} (hc : X.calm = true) (hN : X.N.Nodup) (hi : X.N[i]? = some x) (hj : X.N[j]? = some y) (hij : i ≠ j)
    (hx : Loc X.env.scope x) (hy : Loc X.env.scope y) (ha : EA X g W [a, b] wa)
    (hfx : X.fn x = true ∨ X.env.scope.names.lookup x = some .local := by first | exact .inl rfl | exact .inr rfl | assumption)
    (hfy : X.fn y = true ∨ X.env.scope.names.lookup y = some .local := by first | exact .inl rfl | exact .inr rfl | assumption)
    (hs : swapsWithSole [.Tuple [.Name x px, .Name y py] kt pt] (.Tuple [a, b] k2 pt2) spos.line X.env = pure false := by rfl)
    (hw : swappedStores [.Tuple [.Name x px, .Name y py] kt pt] (.Tuple [a, b] k2 pt2) X.env = pure none := by rfl)
    (h1 : (assignEach [.Tuple [.Name x px, .Name y py] kt pt] X.env).map (·.2) = [assign (.Tuple [.Name x px, .Name y py] kt pt) X.env] := by rfl)
    (hn : (assignEach [.Name x px, .Name y py] X.env).length = 2 := by rfl) (hst : (assignEach [.Name x px, .Name y py] X.env).findIdx? (·.1) = none := by rfl)
    (e1 : (assignEach (.Name x px :: [.Name y py]) X.env).map (·.2) = assign (.Name x px) X.env :: (assignEach [.Name y py] X.env).map (·.2) := by rfl)
    (e2 : (assignEach (.Name y py :: []) X.env).map (·.2) = assign (.Name y py) X.env :: (assignEach [] X.env).map (·.2) := by rfl) :
    ES X g W (.Assign [.Tuple [.Name x px, .Name y py] kt pt] (.Tuple [a, b] k2 pt2) spos) (wParO oi oj i j wa) := by
  obtain ⟨t, q, s⟩ := ha.ex
  refine ⟨_, ps_asg (pe_tup q) (pg_tup (n := 2) hc (pgs_cons (pg_name hN hi hx hfx) (pgs_cons (pg_name hN hj hy hfy) pgs_nil e2) e1) hn hst) hs hw h1, fun σ vs H ρ cs DD D hS hp hw hE => ?_⟩
  refine s σ vs H ρ cs _ _ _ hS hw (hE.ex σ) fun xs H1 ccs ρ1 hl S1 q1 => ?_
  split at q1
  · rename_i c1 c2
    match xs, hl with
    | [u, v], _ =>
      refine ⟨by show 2 ≤ sizeLine; decide, fun p hp0 => ⟨p, [u, v], rfl, SqT.of upd_same, rfl, u, [v], rfl, v, [], rfl, rfl, ?_⟩⟩
      obtain ⟨p1, p2, q1⟩ := q1
      have S2 := (S1.grow (same_new (o := .tup [u, v]) hp0)).kcTop oi
      have S3 : SR X.K g σ (v :: (u :: vs)) _ ρ1 (c2 :: (kc oi c1 :: cs)) := SR.rot (xs := [u]) (ccs := [kc oi c1]) rfl S2
      have S4 := (S3.kcTop oj).store (i := j) p2 (fun k z => (hp.cons p1).nopk z)
      have S5 := S4.store (i := i) p1 (fun k z => hp.nopk z)
      rw [List.set_comm _ _ (Ne.symm hij)] at S5
      exact hE.nx _ _ _ S5 q1
  · exact q1.elim
theorem es_par3C {oi oj ol : Bool} {i j l : Nat} {x y z : Str} {a b c : Expr} {wa : WA} {px py pz pt spos : Pos} {kt k2 pt2} (hc : X.calm = true) (hN : X.N.Nodup) (hi : X.N[i]? = some x) (hj : X.N[j]? = some y) (hl : X.N[l]? = some z) (hij : i ≠ j) (hil : i ≠ l) (hjl : j ≠ l)
    (hx : Loc X.env.scope x) (hy : Loc X.env.scope y) (hz : Loc X.env.scope z) (ha : EA X g W [a, b, c] wa)
    (hfx : X.fn x = true ∨ X.env.scope.names.lookup x = some .local := by first | exact .inl rfl | exact .inr rfl | assumption)
    (hfy : X.fn y = true ∨ X.env.scope.names.lookup y = some .local := by first | exact .inl rfl | exact .inr rfl | assumption)
    (hfz : X.fn z = true ∨ X.env.scope.names.lookup z = some .local := by first | exact .inl rfl | exact .inr rfl | assumption)
    (hs : swapsWithSole [.Tuple [.Name x px, .Name y py, .Name z pz] kt pt] (.Tuple [a, b, c] k2 pt2) spos.line X.env = pure false := by rfl)
    (hw : swappedStores [.Tuple [.Name x px, .Name y py, .Name z pz] kt pt] (.Tuple [a, b, c] k2 pt2) X.env = pure none := by rfl)
    (h1 : (assignEach [.Tuple [.Name x px, .Name y py, .Name z pz] kt pt] X.env).map (·.2) = [assign (.Tuple [.Name x px, .Name y py, .Name z pz] kt pt) X.env] := by rfl)
    (hn : (assignEach [.Name x px, .Name y py, .Name z pz] X.env).length = 3 := by rfl) (hst : (assignEach [.Name x px, .Name y py, .Name z pz] X.env).findIdx? (·.1) = none := by rfl)
    (e1 : (assignEach (.Name x px :: [.Name y py, .Name z pz]) X.env).map (·.2) = assign (.Name x px) X.env :: (assignEach [.Name y py, .Name z pz] X.env).map (·.2) := by rfl)
    (e2 : (assignEach (.Name y py :: [.Name z pz]) X.env).map (·.2) = assign (.Name y py) X.env :: (assignEach [.Name z pz] X.env).map (·.2) := by rfl)
    (e3 : (assignEach (.Name z pz :: []) X.env).map (·.2) = assign (.Name z pz) X.env :: (assignEach [] X.env).map (·.2) := by rfl) :
    ES X g W (.Assign [.Tuple [.Name x px, .Name y py, .Name z pz] kt pt] (.Tuple [a, b, c] k2 pt2) spos) (wPar3O oi oj ol i j l wa) := by
  obtain ⟨t, q, s⟩ := ha.ex
  refine ⟨_, ps_asg (pe_tup q) (pg_tup (n := 3) hc (pgs_cons (pg_name hN hi hx hfx) (pgs_cons (pg_name hN hj hy hfy) (pgs_cons (pg_name hN hl hz hfz) pgs_nil e3) e2) e1) hn hst) hs hw h1, fun σ vs H ρ cs DD D hS hp hw hE => ?_⟩
  refine s σ vs H ρ cs _ _ _ hS hw (hE.ex σ) fun xs H1 ccs ρ1 hl S1 q1 => ?_
  split at q1
  · rename_i c1 c2 c3
    match xs, hl with
    | [u, v, w], _ =>
      refine ⟨by show 3 ≤ sizeLine; decide, fun p hp0 => ⟨p, [u, v, w], rfl, SqT.of upd_same, rfl, u, [v, w], rfl, v, [w], rfl, w, [], rfl, rfl, ?_⟩⟩
      obtain ⟨p1, p2, p3, q1⟩ := q1
      have S2 : SR X.K g σ (v :: (u :: w :: vs)) _ ρ1 (c2 :: (kc oi c1 :: c3 :: cs)) := SR.rot (xs := [u]) (ccs := [kc oi c1]) rfl ((S1.grow (same_new (o := .tup [u, v, w]) hp0)).kcTop oi)
      have S3 : SR X.K g σ (w :: (v :: u :: vs)) _ ρ1 (c3 :: (kc oj c2 :: kc oi c1 :: cs)) := SR.rot (xs := [v, u]) (ccs := [kc oj c2, kc oi c1]) rfl (S2.kcTop oj)
      have S4 := (S3.kcTop ol).store (i := l) p3 (fun k z => ((hp.cons p1).cons p2).nopk z)
      have S5 := S4.store (i := j) p2 (fun k z => (hp.cons p1).nopk z)
      have S6 := S5.store (i := i) p1 (fun k z => hp.nopk z)
      rw [List.set_comm _ _ (Ne.symm hjl), List.set_comm _ _ (Ne.symm hil), List.set_comm _ _ (Ne.symm hij)] at S6
      exact hE.nx _ _ _ S6 q1
  · exact q1.elim
end
end DL

set_option Elab.async false
set_option linter.all false
set_option maxRecDepth 100000
set_option maxHeartbeats 4000000
/-! DL: sorted of pairs of whole numbers -/
namespace DL
open PySem PySem.Spec PyProof.Rows L2
def rSortP (K : PySem.W.Frag) : List V → Hp → VK → Prop := fun vs H Q => ∃ (a : Addr) (zs : List (V × (Int × Int))), vs = [V.ref a] ∧ SqL K H a (zs.map (·.1)) ∧ (∀ z ∈ zs, ∃ t, z.1 = V.ref t ∧ SqT K H t [.int z.2.1, .int z.2.2]) ∧
  ∀ (zs' : List (V × (Int × Int))) p, zs'.Perm zs → zs'.Pairwise (fun x y => SrtO.lexB y.2 x.2 = false) → H p = none → Q (.ref p) (upd H p (.lst (zs'.map (·.1))))
section
variable {X : Cx}
open Classical in
theorem cr_sortP : CallR X (.builtin "sorted") (rSortP X.K) := by
  intro pins s σ H vs us Q I r h
  obtain ⟨a, zs, rfl, hs, hx, q⟩ := h
  obtain ⟨its, rv, hl, hz⟩ := I.list hs
  obtain ⟨u, rfl, ru⟩ := vals1 r
  obtain rfl : u = Value.ref a := ru
  obtain ⟨e1, e2⟩ := refs_back rv fun x m => by
    obtain ⟨z, hzm, rfl⟩ := List.mem_map.mp m
    obtain ⟨t, e, _⟩ := hx z hzm
    exact ⟨t, e⟩
  let k : V → Int × Int := fun x => if h : ∃ z ∈ zs, z.1 = x then h.choose.2 else (0, 0)
  have hk : ∀ z ∈ zs, k z.1 = z.2 := fun z hzm => by
    have ex : ∃ y ∈ zs, y.1 = z.1 := ⟨z, hzm, rfl⟩
    show (if h : ∃ y ∈ zs, y.1 = z.1 then h.choose.2 else (0, 0)) = z.2
    rw [dif_pos ex]
    obtain ⟨m, e⟩ := ex.choose_spec
    generalize ex.choose = y at m e ⊢
    obtain ⟨t, a1, a2⟩ := hx z hzm
    obtain ⟨t', b1, b2⟩ := hx y m
    rw [a1, b1] at e
    cases e
    have e3 := I.tuple_inj a2 b2
    have i1 := V.int.inj (List.cons.inj e3).1
    have i2 := V.int.inj (List.cons.inj (List.cons.inj e3).2).1
    exact Prod.ext i1.symm i2.symm
  have mem : ∀ v ∈ its, ∃ z ∈ zs, backV v = z.1 := fun v hv => by
    have : backV v ∈ zs.map (·.1) := by rw [e1]; exact List.mem_map.mpr ⟨_, hv, rfl⟩
    obtain ⟨z, m, e⟩ := List.mem_map.mp this
    exact ⟨z, m, e.symm⟩
  refine SrtO.sorted_pairsO (k := fun v => k (backV v)) hl.isList (by rw [← rv.length]; exact hz) (fun v hv => ?_) fun h' d out h1 hb kp hd hn => ?_
  · obtain ⟨z, m, ez⟩ := mem v hv
    rw [ez, hk z m]
    obtain ⟨t, rfl⟩ := e2 v hv
    obtain ⟨t', e, ht⟩ := hx _ m
    rw [← ez] at e
    cases e
    obtain ⟨its2, r2, ⟨o, ho, hc, n, hd⟩, _⟩ := I.tuple ht
    obtain ⟨u1, u2, rfl, ri, rj⟩ := vals2 r2
    obtain ⟨t1, rfl⟩ := ri
    obtain ⟨t2, rfl⟩ := rj
    exact ⟨t, o, t1, t2, n, rfl, ho, hc, hd⟩
  · have h3 : ∀ u ∈ out, ∃ a, u = Value.ref a := fun u hu => e2 u (hb.perm.mem_iff.mp hu)
    have pm : (out.map backV).Perm (zs.map (·.1)) := by rw [e1]; exact hb.perm.map backV
    obtain ⟨zs', p1, p2⟩ := perm_lift pm zs rfl
    have pw : (zs'.map (·.1)).Pairwise fun x y => SrtO.lexB (k y) (k x) = false := by
      rw [p2]
      exact List.pairwise_map.mpr h1
    have pw2 : zs'.Pairwise fun x y => SrtO.lexB y.2 x.2 = false := by
      have c := List.pairwise_map.mp pw
      have inz : ∀ z ∈ zs', z ∈ zs := fun z m => p1.mem_iff.mp m
      refine List.Pairwise.imp_of_mem (fun {x y} hx' hy' h => ?_) c
      rw [hk x (inz x hx'), hk y (inz y hy')] at h
      exact h
    obtain ⟨n, hn⟩ := hn
    have e9 : zs'.map (·.1) = out.map backV := p2
    refine ⟨.ref d, upd H d (.lst (zs'.map (·.1))), I.laid (t' := s.toks) kp hd ⟨?_, out, n, by rw [e9]; exact vals_back h3, hn⟩, rfl, q _ _ p1 pw2 (I.hok.fresh hd)⟩
    have : (zs'.map (·.1)).length = (zs.map (·.1)).length := by rw [List.length_map, List.length_map, p1.length_eq]
    rw [this]
    exact hz
end
/-! ### over data -/
@[reducible] def pD (p : Int × Int) : D := .tuple [.int p.1, .int p.2]
def prOf : D → Option (Int × Int)
  | .tuple [.int i, .int j] => some (i, j)
  | _ => none
def prsOf : List D → Option (List (Int × Int))
  | [] => some []
  | d :: ds => match prOf d, prsOf ds with
    | some p, some ps => some (p :: ps)
    | _, _ => none
theorem prsOf_map : ∀ (ps : List (Int × Int)), prsOf (ps.map pD) = some ps
  | [] => rfl
  | p :: ps => by
    show (match prOf (pD p), prsOf (ps.map pD) with | some p, some ps => some (p :: ps) | _, _ => none) = _
    rw [prsOf_map ps]
    rfl
theorem prOf_some {d : D} {p : Int × Int} (h : prOf d = some p) : d = pD p := by
  unfold prOf at h
  split at h
  · cases h; rfl
  · cases h
theorem prsOf_some : ∀ {ds : List D} {ps : List (Int × Int)}, prsOf ds = some ps → ds = ps.map pD
  | [], _, h => by cases h; rfl
  | d :: ds, ps, h => by
    unfold prsOf at h
    split at h
    · rename_i p qs h1 h2
      cases h
      rw [List.map_cons, ← prOf_some h1, ← prsOf_some h2]
    · cases h
/-- the order of pairs -/
def leP (x y : Int × Int) : Prop := x.1 < y.1 ∨ (x.1 = y.1 ∧ x.2 ≤ y.2)
@[reducible] def oSortP : OL := fun ds k => match ds with
  | [.list es] => optK (prsOf es) fun ps => ∀ ps' : List (Int × Int), ps'.Perm ps → ps'.Pairwise leP → k (.own 0 (.lst (ps'.map pD)))
  | _ => False
theorem pr_at {K : PySem.W.Frag} {B : Hp} {v : V} {p : Int × Int} (h : Dp K B v (pD p)) : ∃ t, v = V.ref t ∧ SqT K B t [.int p.1, .int p.2] := by
  cases h with
  | tup a1 a2 =>
    cases a2 with
    | cons b1 b2 =>
      cases b1
      cases b2 with
      | cons c1 c2 =>
        cases c1
        cases c2
        exact ⟨_, rfl, a1⟩
theorem lift_sortP {K : PySem.W.Frag} : LiftL K (rSortP K) oSortP := by
  intro O H xs ds QD Q _ hx q fin
  unfold oSortP at q
  split at q
  · rename_i es
    cases hx with
    | cons h1 h2 =>
      cases h2
      cases h1 with
      | lst a1 a2 =>
        cases e : prsOf es with
        | none => rw [e] at q; exact q.elim
        | some ps =>
          rw [e] at q
          have e1 := prsOf_some e
          subst e1
          have q : ∀ ps' : List (Int × Int), ps'.Perm ps → ps'.Pairwise leP → QD (.own 0 (.lst (ps'.map pD))) := q
          obtain ⟨ws, w1, w2, w3⟩ := dp_pairs a2
          subst w1
          have pOf : ∀ w ∈ ws, ∃ p, w.2 = pD p := fun w hw => by
            have : w.2 ∈ ps.map pD := by rw [← w2]; exact List.mem_map.mpr ⟨w, hw, rfl⟩
            obtain ⟨p, _, e⟩ := List.mem_map.mp this
            exact ⟨p, e.symm⟩
          let kk : D → Int × Int := fun d => (prOf d).getD (0, 0)
          have hkk : ∀ w ∈ ws, w.2 = pD (kk w.2) := fun w hw => by
            obtain ⟨p, ep⟩ := pOf w hw
            rw [ep]
            rfl
          have eps : ps = ws.map fun w => kk w.2 := by
            have : (ps.map pD).map kk = ps := by
              rw [List.map_map]
              exact List.map_id'' (fun _ => rfl) ps
            rw [← this, ← w2, List.map_map]
            rfl
          refine ⟨_, ws.map fun w => (w.1, kk w.2), rfl, ?_, fun z hz => ?_, fun zs' p pm pw n => ?_⟩
          · rw [List.map_map]; exact Same.seq same_hide a1
          · obtain ⟨w, hw, rfl⟩ := List.mem_map.mp hz
            have dw := w3 w hw
            rw [hkk w hw] at dw
            obtain ⟨t, e, b⟩ := pr_at dw
            exact ⟨t, e, seqT_same same_hide b⟩
          · obtain ⟨ws', p1, p2⟩ := perm_lift pm ws rfl
            have dp : DpAll K (hide H O) (ws'.map (·.1)) (ws'.map (·.2)) := dp_of_pairs fun w hw => w3 w (p1.mem_iff.mp hw)
            have e1 : zs'.map (·.1) = ws'.map (·.1) := by rw [← p2, List.map_map]; rfl
            have e2 : ws'.map (·.2) = (ws'.map fun w => kk w.2).map pD := by
              rw [List.map_map]
              exact List.map_congr_left fun w hw => hkk w (p1.mem_iff.mp hw)
            rw [e1]
            rw [e2] at dp
            refine fin _ _ (.own 0 (.lst ((ws'.map fun w => kk w.2).map pD))) (same_new n) (new_lst n dp) (q _ (by rw [eps]; exact p1.map _) ?_)
            rw [← p2] at pw
            refine List.pairwise_map.mpr (List.Pairwise.imp (fun {x y} h => ?_) (List.pairwise_map.mp pw))
            have h := SrtO.lexB_no.mp h
            unfold leP
            show (kk x.2).1 < (kk y.2).1 ∨ _
            have h : ¬ ((kk y.2).1 < (kk x.2).1 ∨ ((kk y.2).1 = (kk x.2).1 ∧ (kk y.2).2 < (kk x.2).2)) := h
            omega
  · exact q.elim
section
variable {X : Cx} {g : G} {W : WX} {e : Expr} {es : List Expr} {wa : WA} {p pos : Pos}
theorem ee_sortP (hg : Gl X "sorted") (hm : X.mg "sorted" = none) (ha : EA X g W (e :: es) wa) (he : starEach (e :: es) X.env = (false, eval e X.env) :: starEach es X.env := by rfl) (hpl : (backTo pos (starEach es X.env)).any (·.1) = false := by rfl) :
    EE X g W (.Call (.Name "sorted" p) (e :: es) [] pos) (wL oSortP wa) := ee_cb cr_sortP lift_sortP hg hm (by decide +kernel) ha (he := he) (hpl := hpl)
end
end DL

set_option Elab.async false
set_option linter.all false
set_option maxRecDepth 100000
set_option maxHeartbeats 4000000
/-! DLOrd: <, >, <=, >= of data that are alike place by place; a list times a number -/
namespace DL
open PySem PySem.Spec PyProof.Rows L2
def rCmpD (K : PySem.W.Frag) (f : D → D → Bool) : R2 := fun x y H Q => ∃ d e, Dp K H x d ∧ Dp K H y e ∧ PySem.W.alike d e = true ∧ d ≠ .none ∧ d.depth ≤ 64 ∧ Q (.bl (f d e)) H
section
variable {X : Cx}
theorem op_ltD (hu : X.A.units + 64 < cLine) : OpR X (compareOp .Lt) (rCmpD X.K fun d e => PySem.W.dataLt d e) := by
  intro pins s σ H x y v u Q I rx ry h
  obtain ⟨d, e, hd, he, al, nn, dp, q⟩ := h
  obtain ⟨as, r1⟩ := Dp.reads I d x v hd rx
  obtain ⟨bs, r2⟩ := Dp.reads I e y u he ry
  exact PySem.W.rcLt_alike d e X.A s v u as bs r1 r2 al nn (by have := Nat.min_le_left d.depth e.depth; omega) X.prog X.w X.xe (EP X pins σ Q) ⟨.bl _, H, I, rfl, q⟩
theorem op_gtD (hu : X.A.units + 64 < cLine) : OpR X (compareOp .Gt) (rCmpD X.K fun d e => PySem.W.dataLt e d) := by
  intro pins s σ H x y v u Q I rx ry h
  obtain ⟨d, e, hd, he, al, nn, dp, q⟩ := h
  obtain ⟨as, r1⟩ := Dp.reads I d x v hd rx
  obtain ⟨bs, r2⟩ := Dp.reads I e y u he ry
  exact PySem.W.rcGt_alike d e X.A s v u as bs r1 r2 al nn (by have := Nat.min_le_left d.depth e.depth; omega) X.prog X.w X.xe (EP X pins σ Q) ⟨.bl _, H, I, rfl, q⟩
theorem op_leD (hu : X.A.units + 64 < cLine) : OpR X (compareOp .LtE) (rCmpD X.K fun d e => !PySem.W.dataLt e d) := by
  intro pins s σ H x y v u Q I rx ry h
  obtain ⟨d, e, hd, he, al, nn, dp, q⟩ := h
  obtain ⟨as, r1⟩ := Dp.reads I d x v hd rx
  obtain ⟨bs, r2⟩ := Dp.reads I e y u he ry
  exact PySem.W.rcLe_alike d e X.A s v u as bs r1 r2 al nn (by have := Nat.min_le_left d.depth e.depth; omega) X.prog X.w X.xe (EP X pins σ Q) ⟨.bl _, H, I, rfl, q⟩
theorem op_geD (hu : X.A.units + 64 < cLine) : OpR X (compareOp .GtE) (rCmpD X.K fun d e => !PySem.W.dataLt d e) := by
  intro pins s σ H x y v u Q I rx ry h
  obtain ⟨d, e, hd, he, al, nn, dp, q⟩ := h
  obtain ⟨as, r1⟩ := Dp.reads I d x v hd rx
  obtain ⟨bs, r2⟩ := Dp.reads I e y u he ry
  exact PySem.W.rcGe_alike d e X.A s v u as bs r1 r2 al nn (by have := Nat.min_le_left d.depth e.depth; omega) X.prog X.w X.xe (EP X pins σ Q) ⟨.bl _, H, I, rfl, q⟩
end
structure CmpOk (d e : D) : Prop where
  al : PySem.W.alike d e = true
  nn : d ≠ .none
  dp : d.depth ≤ 64
@[reducible] def oCmpD (f : D → D → Bool) : O2 := fun d e k => CmpOk d e ∧ k (.v (.bool (f d e)))
theorem lift_cmpD {K : PySem.W.Frag} {f : D → D → Bool} : Lift2 K (rCmpD K f) (oCmpD f) := by
  intro O H x y dx dy QD Q _ hx hy q fin
  exact ⟨dx, dy, dp_mono same_hide _ _ hx, dp_mono same_hide _ _ hy, q.1.al, q.1.nn, q.1.dp, fin _ H (.v _) (Same.refl H) (.bl _) q.2⟩
abbrev oLtD : O2 := oCmpD fun d e => PySem.W.dataLt d e
abbrev oGtD : O2 := oCmpD fun d e => PySem.W.dataLt e d
abbrev oLeD : O2 := oCmpD fun d e => !PySem.W.dataLt e d
abbrev oGeD : O2 := oCmpD fun d e => !PySem.W.dataLt d e
section
variable {X : Cx} {g : G} {W : WX} {a b : Expr} {wa wb : WE} {pos : Pos}
theorem ee_ltD (hu : X.A.units + 64 < cLine) (ha : EE X g W a wa) (hb : EE X g W b wb) : EE X g W (.Compare a [.Lt] [b] pos) (wB oLtD wa wb) := ee_cmp (op_ltD hu) lift_cmpD ha hb (nomark _)
theorem ee_gtD (hu : X.A.units + 64 < cLine) (ha : EE X g W a wa) (hb : EE X g W b wb) : EE X g W (.Compare a [.Gt] [b] pos) (wB oGtD wa wb) := ee_cmp (op_gtD hu) lift_cmpD ha hb (nomark _)
theorem ee_leD (hu : X.A.units + 64 < cLine) (ha : EE X g W a wa) (hb : EE X g W b wb) : EE X g W (.Compare a [.LtE] [b] pos) (wB oLeD wa wb) := ee_cmp (op_leD hu) lift_cmpD ha hb (nomark _)
theorem ee_geD (hu : X.A.units + 64 < cLine) (ha : EE X g W a wa) (hb : EE X g W b wb) : EE X g W (.Compare a [.GtE] [b] pos) (wB oGeD wa wb) := ee_cmp (op_geD hu) lift_cmpD ha hb (nomark _)
theorem et_ltD (hu : X.A.units + 64 < cLine) (ha : EE X g W a wa) (hb : EE X g W b wb) : ET X g W (.Compare a [.Lt] [b] pos) (wTst (wB oLtD wa wb)) := et_cmp (op_ltD hu) lift_cmpD ha hb (nomark _)
theorem et_gtD (hu : X.A.units + 64 < cLine) (ha : EE X g W a wa) (hb : EE X g W b wb) : ET X g W (.Compare a [.Gt] [b] pos) (wTst (wB oGtD wa wb)) := et_cmp (op_gtD hu) lift_cmpD ha hb (nomark _)
theorem et_leD (hu : X.A.units + 64 < cLine) (ha : EE X g W a wa) (hb : EE X g W b wb) : ET X g W (.Compare a [.LtE] [b] pos) (wTst (wB oLeD wa wb)) := et_cmp (op_leD hu) lift_cmpD ha hb (nomark _)
theorem et_geD (hu : X.A.units + 64 < cLine) (ha : EE X g W a wa) (hb : EE X g W b wb) : ET X g W (.Compare a [.GtE] [b] pos) (wTst (wB oGeD wa wb)) := et_cmp (op_geD hu) lift_cmpD ha hb (nomark _)
end
/-! ### a list times a number -/
theorem DpAll.rep {K : PySem.W.Frag} {B : Hp} {xs : List V} {ds : List D} (h : DpAll K B xs ds) : ∀ n : Nat, DpAll K B (List.replicate n xs).flatten (List.replicate n ds).flatten
  | 0 => .nil
  | n + 1 => by
    rw [List.replicate_succ, List.flatten_cons, List.replicate_succ, List.flatten_cons]
    exact DL.DpAll.app h (DpAll.rep h n)
@[reducible] def wRep (wa wb : WE) : WE := fun ρ Q E => wa ρ (fun c1 ρ1 => wb ρ1 (fun c2 ρ2 => match c2 with
  | .v (.int k) => optK (lstOf ρ2 c1) fun as => (-(2 ^ 63) ≤ k ∧ k < 2 ^ 63 ∧ as.length * k.toNat ≤ sizeLine) ∧ Q (.own 0 (.lst (List.replicate k.toNat as).flatten)) ρ2
  | _ => False) E) E
theorem ee_rep {X : Cx} {g : G} {W : WX} {a b : Expr} {wa wb : WE} {pos : Pos} (ha : EE X g W a wa) (hb : EE X g W b wb) : EE X g W (.BinOp a .Mult b pos) (wRep wa wb) := by
  obtain ⟨ta, p1, s1⟩ := ha.ex
  obtain ⟨tb, p2, s2⟩ := hb.ex
  refine ⟨_, pe_op op_rep p1 p2, fun σ vs H ρ cs QD ED Q hS hw hX hQ => ?_⟩
  refine s1 σ vs H ρ cs _ ED _ hS hw hX fun x H1 c1 ρ1 S1 q1 => ?_
  refine s2 σ (x :: vs) H1 ρ1 (c1 :: cs) _ ED _ S1 q1 hX fun y H2 c2 ρ2 S2 q2 => ?_
  split at q2
  · rename_i k
    have q := S2.top
    cases q
    cases e1 : lstOf ρ2 c1 with
    | none => rw [e1] at q2; exact q2.elim
    | some as =>
      rw [e1] at q2
      obtain ⟨a, xs, g1, g2, g3⟩ := (S2.pop).lst e1
      subst g1
      obtain ⟨⟨k1, k2, k3⟩, q2⟩ := q2
      refine ⟨a, k, xs, rfl, rfl, g2, k1, k2, by rw [DL.DpAll.len g3]; exact k3, fun p n => ?_⟩
      have S3 := S2.pop.pop
      exact hQ _ _ _ ρ2 (SR.res S3 (same_new n) (new_lst n (DpAll.rep (dpAll_up g3) _))) q2
  · exact q2.elim
end DL

set_option Elab.async false
set_option linter.all false
set_option maxRecDepth 100000
set_option maxHeartbeats 4000000
/-! DLLr: list(range(a, b, c)), numbers of any size -/
namespace PySem
open Sem (wp)
open AutoSeq1 (wpAny_loadPart')
section
variable {prog : Program} {w : World} {A : Around} {E : Value → Shared → Prop} {s : Shared}
theorem wpAny_extend_rangeL {R : Result → Shared → Prop} {r : Addr} {a b c : Int} {t u v : Tok} {n : Nat} (hh : A.handled = none) (hr : IsRange s.heap r a b c t u v) (hbig : Builtin.Range.small a b c = false)
    (hn : Builtin.Range.rangeSize a b c = n) (hlen : n ≤ 2 ^ 24) (S : Addr) (res : Value) (c₀ : Nat) (hS : s.heap.get? S = some { cls := .type "list", data := .seq #[] c₀ })
    (hR : ∀ h' tk acc' c', (∀ b o, b ≠ S → s.heap.get? b = some o → h'.get? b = some o) → h'.get? S = some { cls := .type "list", dict := none, data := .seq acc' c', slots := #[] } →
      ItemsOf (fun i v => ∃ t, v = .int (a + i * c) t) acc' n → R (.ok (.ret res)) { s with heap := h', toks := tk }) :
    wpAny (model prog w) A.in1 (Builtin.List.listExtendWith (.ref S) (.ref r) res)
      (fun fin s' => match fin with | .done f => R (.ok f) s' | .again c' => c'.quiet = true ∧ codeAny (model prog w) A c' R s') (fun e s' => R (.error e) s') s := by
  have hSr : S ≠ r := fun e => by rw [e, hr] at hS; simp at hS
  have hSlt : S < s.heap.objs.size := Heap.lt_size hS
  have hSI : S ≠ s.heap.objs.size := Nat.ne_of_lt hSlt
  have hSf : S ∉ [s.heap.objs.size] := fun hm => hSI (List.mem_singleton.mp hm)
  have W := (Walks.longrange (prog := prog) (w := w) (A := A.in1) hh s.heap.objs.size a c n).toS
  have key : ∀ (h : Heap) (c₁ tk : Nat), IsLongIter h s.heap.objs.size (a + ((0 : Nat) : Int) * c) ((n : Int) - ((0 : Nat) : Int)) c → (∀ b o, b ≠ S → s.heap.get? b = some o → h.get? b = some o) →
      h.get? S = some { cls := .type "list", data := .seq #[] c₁ } → codeAny (model prog w) A (.builtin "list.extend.loop" ⟨[.ref S, .ref s.heap.objs.size, res], []⟩) R { s with heap := h, toks := tk } := by
    intro h c₁ tk hit hk hS₁
    refine codeAny_extend_loopS W (by rw [sizeLine_eq]; omega) S hSf res n 0 _ #[] c₁ rfl (Nat.zero_le _) hit hS₁ (ItemsOf.nil _) fun s' acc' c' hm hS' hacc => ?_
    rw [Moved.eq_with hm]
    refine hR s'.heap s'.toks acc' c' (fun b o hb e => hm.heap b o (fun hmem => ?_) (hk b o hb e)) hS' hacc
    rcases List.mem_cons.mp hmem with e' | hmem
    · exact hb e'
    · exact absurd (Heap.lt_size e) (by rw [List.mem_singleton.mp hmem]; exact Nat.lt_irrefl _)
  unfold Builtin.List.listExtendWith
  refine wpAny_bind (wpAny_typeOf (T := "range") ⟨_, hr, rfl⟩ ?_)
  have h1 : Builtin.List.listSameRef (.ref S) (.ref r) = false := by simp [Builtin.List.listSameRef, hSr]
  have h2 : (Value.type "range" == Value.type "list") = false := by decide
  have h3 : (Value.type "range" == Value.type "tuple") = false := by decide
  simp only [h1, h2, h3, Bool.or_false, Bool.false_eq_true, if_false]
  refine wpAny_bind (wpAny_pyIter_longrange hr hbig ?_)
  refine wpAny_bind (wpAny_holding (wpAny_hint_range (n := n) (Heap.get?_push_of_some _ hr) hn hlen ?_))
  have hit₁ : IsLongIter (s.heap.push { cls := .type "longrange_iterator", data := .fields #[rawInt a, rawInt (Builtin.Range.rangeSize a b c), rawInt c] }) s.heap.objs.size (a + ((0 : Nat) : Int) * c) ((n : Int) - ((0 : Nat) : Int)) c := by
    show IsLongIter _ _ _ _ _; rw [hn]; simpa using Heap.get?_push_size _ rfl
  have hS₁ := Heap.get?_push_of_some { cls := .type "longrange_iterator", data := .fields #[rawInt a, rawInt (Builtin.Range.rangeSize a b c), rawInt c] } hS
  refine wpAny_ite_split (fun _ => ?_) (fun _ => wpAny_pure ⟨plainId_quiet F.plain_extend_loop _, key _ c₀ _ hit₁ (fun b o _ e => Heap.get?_push_of_some _ e) hS₁⟩)
  refine wpAny_bind (wpAny_rule ?_)
  refine wpAny_bind ?_
  show wpAny _ _ (updateSeq S (·.push .none) >>= fun _ => updateSeq S (·.pop)) _ _ _
  refine wpAny_bind (wpAny_updateSeq hS₁ rfl ?_)
  have hS₂ := Heap.get?_update_self (Obj.mapSeq (·.push Value.none)) hS₁ rfl
  refine wpAny_updateSeq (hz := by seq_fits) hS₂ rfl ?_
  have hS₃ := Heap.get?_update_self (Obj.mapSeq (·.pop)) hS₂ rfl
  refine wpAny_pure ⟨plainId_quiet F.plain_extend_loop _, key _ _ _ ?_ (fun b o hb e => ?_) hS₃⟩
  · exact (Heap.get?_update_other _ _ hSI).trans ((Heap.get?_update_other _ _ hSI).trans hit₁)
  · exact (Heap.get?_update_other _ _ (Ne.symm hb)).trans ((Heap.get?_update_other _ _ (Ne.symm hb)).trans (Heap.get?_push_of_some _ e))
theorem wpAny_list_init_rangeB {R : Result → Shared → Prop} {r : Addr} {a b c : Int} {t u v : Tok} {n : Nat} (hh : A.handled = none) (hr : IsRange s.heap r a b c t u v)
    (hn : Builtin.Range.rangeSize a b c = n) (hlen : n ≤ 2 ^ 24) (S : Addr) (hS : s.heap.get? S = some { cls := .type "list", data := .seq #[] })
    (hR : ∀ h' tk acc' c', (∀ b o, b ≠ S → s.heap.get? b = some o → h'.get? b = some o) → h'.get? S = some { cls := .type "list", dict := none, data := .seq acc' c', slots := #[] } →
      ItemsOf (fun i v => ∃ t, v = .int (a + i * c) t) acc' n → R (.ok (.ret .none)) { s with heap := h', toks := tk }) :
    wpAny (model prog w) A.in1 (Builtin.«list.__init__» ⟨[.ref S, .ref r], []⟩)
      (fun fin s' => match fin with | .done f => R (.ok f) s' | .again c' => c'.quiet = true ∧ codeAny (model prog w) A c' R s') (fun e s' => R (.error e) s') s := by
  have hSr : S ≠ r := fun e => by rw [e, hr] at hS; simp at hS
  show wpAny _ _ (do let old ← Builtin.List.listItems (.ref S); Builtin.List.listUpdate (.ref S) (fun _ => #[]); letGo old.toList.reverse; Builtin.List.listExtendWith (.ref S) (.ref r) .none) _ _ s
  refine wpAny_bind ?_
  unfold Builtin.List.listItems
  refine wpAny_bind (wpAny_seqItems hS rfl (wpAny_pure ?_))
  show wpAny _ _ (updateSeq S (fun _ => #[]) >>= fun _ => letGo (#[] : Array Value).toList.reverse >>= fun _ => Builtin.List.listExtendWith (.ref S) (.ref r) .none) _ _ s
  refine wpAny_bind (wpAny_updateSeq hS rfl ?_)
  have hS₂ := Heap.get?_update_self (Obj.mapSeq (fun _ => (#[] : Array Value))) hS rfl
  have oth : ∀ b o, b ≠ S → s.heap.get? b = some o → (s.heap.update S (Obj.mapSeq (fun _ => (#[] : Array Value)))).get? b = some o :=
    fun b o hb e => (Heap.get?_update_other _ _ (Ne.symm hb)).trans e
  refine wpAny_bind (wpAny_letGo ?_)
  cases hs : Builtin.Range.small a b c with
  | true =>
    refine wpAny_extend_range hh (oth r _ (Ne.symm hSr) hr) hs hn hlen S .none _ hS₂ fun h' tk acc' c' hk hS' hacc => ?_
    exact hR h' tk acc' c' (fun b o hb e => hk b o hb (oth b o hb e)) hS' hacc
  | false =>
    refine wpAny_extend_rangeL hh (oth r _ (Ne.symm hSr) hr) hs hn hlen S .none _ hS₂ fun h' tk acc' c' hk hS' hacc => ?_
    exact hR h' tk acc' c' (fun b o hb e => hk b o hb (oth b o hb e)) hS' hacc
theorem call_list_rangeB {Q : Value → Shared → Prop} {r : Addr} {a b c : Int} {t u v : Tok} {n : Nat} (hh : A.handled = none) (hr : IsRange s.heap r a b c t u v)
    (hn : Builtin.Range.rangeSize a b c = n) (hlen : n ≤ 2 ^ 24)
    (hQ : ∀ h' tk acc' c', (∀ b o, s.heap.get? b = some o → h'.get? b = some o) →
      h'.get? s.heap.objs.size = some { cls := .type "list", dict := none, data := .seq acc' c', slots := #[] } → ItemsOf (fun i v => ∃ t, v = .int (a + i * c) t) acc' n → Q (.ref s.heap.objs.size) { s with heap := h', toks := tk }) :
    wpAny (model prog w) A (call (.type "list") [.ref r]) Q E s := by
  refine callType_codes (Q₁ := fun obj s₁ => obj = .ref s.heap.objs.size ∧ s₁ = { s with heap := s.heap.push { cls := .type "list", data := .seq #[] } }) F.called_list (F.typeCall_list_1 _) F.entry_list_init
    (code_list_new _ ⟨rfl, rfl⟩) fun obj s₁ h₁ => ?_
  obtain ⟨rfl, rfl⟩ := h₁
  have hS : (s.heap.push { cls := .type "list", data := .seq #[] }).get? s.heap.objs.size = some { cls := .type "list", data := .seq #[] } := Heap.get?_push_size _ rfl
  refine ⟨⟨_, hS, rfl⟩, F.args_list_init_2 _ _, wpAny_list_init_rangeB (A := A.in1) hh (Heap.get?_push_of_some _ hr) hn hlen _ hS fun h' tk acc' c' hk hS' hacc => ?_⟩
  exact ⟨rfl, hQ h' tk acc' c' (fun b o e => hk b o (Nat.ne_of_lt (Heap.lt_size e)) (Heap.get?_push_of_some _ e)) hS' hacc⟩
end
end PySem
namespace DL
open PySem PySem.Spec PyProof.Rows L2
def rgN (i j c : Int) : Nat := (Builtin.Range.rangeSize i j c).toNat
def rgL (i j c : Int) : List Int := (List.range (rgN i j c)).map fun k : Nat => i + (k : Int) * c
theorem rgN_eq {i j c : Int} (hc : 0 < c) : Builtin.Range.rangeSize i j c = (rgN i j c : Int) := by
  unfold rgN Builtin.Range.rangeSize
  rw [if_pos hc]
  split
  · have := Int.ediv_nonneg (show 0 ≤ j - i - 1 by omega) (show 0 ≤ c by omega)
    omega
  · rfl
theorem rgL_mem {i j c x : Int} (hc : 0 < c) : x ∈ rgL i j c ↔ i ≤ x ∧ x < j ∧ c ∣ x - i := by
  unfold rgL
  rw [List.mem_map]
  have e := rgN_eq (i := i) (j := j) hc
  unfold Builtin.Range.rangeSize at e
  rw [if_pos hc] at e
  constructor
  · rintro ⟨k, hk, rfl⟩
    have hk := List.mem_range.mp hk
    split at e
    · have k0 : (k : Int) ≤ (j - i - 1) / c := by omega
      have h1 := Int.mul_le_mul_of_nonneg_right k0 (show 0 ≤ c by omega)
      have h2 := Int.ediv_mul_le (j - i - 1) (show c ≠ 0 by omega)
      have h3 := Int.mul_nonneg (show (0 : Int) ≤ k by omega) (show 0 ≤ c by omega)
      exact ⟨by omega, by omega, ⟨k, by rw [show i + (k : Int) * c - i = (k : Int) * c by omega, Int.mul_comm]⟩⟩
    · omega
  · rintro ⟨h1, h2, q, hq⟩
    have q0 : 0 ≤ q := by
      rcases Int.lt_or_le q 0 with z | z
      · have := Int.mul_lt_mul_of_pos_left z hc
        rw [Int.mul_zero] at this
        omega
      · exact z
    refine ⟨q.toNat, List.mem_range.mpr ?_, ?_⟩
    · rw [if_pos (by omega)] at e
      have : q ≤ (j - i - 1) / c := (Int.le_ediv_iff_mul_le hc).mpr (by rw [Int.mul_comm]; omega)
      omega
    · rw [show ((q.toNat : Nat) : Int) = q by omega, Int.mul_comm, ← hq]
      omega
theorem rgL_len {i j c : Int} : (rgL i j c).length = rgN i j c := by unfold rgL; rw [List.length_map, List.length_range]
/-- an expression that makes range(a, b, c) -/
def PRgC (X : Cx) (e : Expr) (t : L2.St → Hp → (Int → Int → Int → Hp → Prop) → Prop) : Prop :=
  ∀ (pins : List (Addr × Obj)) (s : Shared) (σ : L2.St) (H : Hp) (Q : Int → Int → Int → Hp → Prop), Inv X pins σ H s → t σ H Q →
    wpAny (model X.prog X.w) X.A (eval e X.env) (fun x s' => ∃ r a b c t u v H', x = .ref r ∧ IsRange s'.heap r a b c t u v ∧ Inv X pins σ H' s' ∧ Q a b c H') X.xe s
def tRg3 (ta : TA) : L2.St → Hp → (Int → Int → Int → Hp → Prop) → Prop := fun σ H Q => ta σ H fun vs H1 => ∃ i j c, vs = [.int i, .int j, .int c] ∧ c ≠ 0 ∧ c.natAbs < 1073741824 ∧ Q i j c H1
section
variable {X : Cx}
theorem prg_3 {a b c : Expr} {ta : TA} {p pos : Pos} (hg : Gl X "range") (hm : X.mg "range" = none) (ha : PA X [a, b, c] ta)
    (hs : starEach [a, b, c] X.env = (false, eval a X.env) :: starEach [b, c] X.env := by rfl) (hpl : (backTo pos (starEach [b, c] X.env)).any (·.1) = false := by rfl) :
    PRgC X (.Call (.Name "range" p) [a, b, c] [] pos) (tRg3 ta) := by
  intro pins s σ H Q I h
  refine Call_ (ld_blt I hg hm boot_range (PyProof.Rows.callWith_type1 (thn (ha.run pos pins s σ H _ I h) fun us s1 ⟨vs, H1, I1, r1, q1⟩ => ?_) hs hpl))
  obtain ⟨i, j, k, e, c0, c1, q⟩ := q1
  subst e
  cases r1 with
  | cons r rr =>
    cases rr with
    | cons r' rr =>
      cases rr with
      | cons r'' rr =>
        cases rr
        obtain ⟨t, rfl⟩ := r
        obtain ⟨t', rfl⟩ := r'
        obtain ⟨t'', rfl⟩ := r''
        refine call_range_3 c0 ?_ (.inl (PyProof.noPylong_small c1))
        exact ⟨_, i, j, k, _, _, _, H1, rfl, IsRange.new .., I1.kept (t' := s1.toks) fun b o e => Heap.get?_push_of_some _ e, q⟩
def rgV3 (a c : Int) (n : Nat) : List V := (List.range n).map fun i => V.int (a + (i : Nat) * c)
theorem vals_rg3 {a c : Int} {n : Nat} {acc : Array Value} (h : ItemsOf (fun i v => ∃ t, v = .int (a + i * c) t) acc n) : Vals (rgV3 a c n) acc.toList := by
  have e : acc.toList.length = n := by rw [Array.length_toList]; exact h.1
  unfold rgV3
  rw [← e]
  refine vals_of_get acc.toList _ fun j u hj => ?_
  obtain ⟨t, rfl⟩ := h.2 j u (by rw [← hj, Array.getElem?_toList])
  exact ⟨t, rfl⟩
def tLstRg3 (te : L2.St → Hp → (Int → Int → Int → Hp → Prop) → Prop) : TE := fun σ H Q => te σ H fun a b c H1 => 0 < c ∧ rgN a b c ≤ 16777215 ∧ ∀ q, H1 q = none → Q (.ref q) (upd H1 q (.lst (rgV3 a c (rgN a b c))))
theorem pe_listRg3 {e : Expr} {te : L2.St → Hp → (Int → Int → Int → Hp → Prop) → Prop} {p pos : Pos} (hc : X.calm = true) (hg : Gl X "list") (hm : X.mg "list" = none) (he : PRgC X e te) (na : starEach [e] X.env = (false, eval e X.env) :: starEach [] X.env := by rfl) : PE X (.Call (.Name "list" p) [e] [] pos) (tLstRg3 te) := by
  refine ⟨fun pins s σ H Q I h => ?_⟩
  refine Call_ (ld_blt I hg hm boot_list (PyProof.Rows.callWith_type1 (args_cons (thn (he pins s σ H _ I h) fun x s1 ⟨r, a, b, c, t, u, v, H1, ex, hr, I1, c0, hn, q⟩ => args_nil ?_) na) na))
  subst ex
  refine PySem.call_list_rangeB (n := rgN a b c) (I1.ok.hd hc) hr (rgN_eq c0) (by omega) fun h' tk acc c' hk e' hi => ?_
  refine ⟨.ref s1.heap.objs.size, upd H1 s1.heap.objs.size (.lst (rgV3 a c (rgN a b c))), I1.laid hk (Nat.le_refl _) (show ObjOk X.prog X.w _ _ _ (.lst (rgV3 a c (rgN a b c))) from ⟨?_, acc.toList, c', vals_rg3 hi, ?_⟩), rfl, q _ (I1.hok.fresh (Nat.le_refl _))⟩
  · unfold rgV3; rw [List.length_map, List.length_range, sizeLine_eq]; omega
  · rw [Array.toArray_toList]; exact e'
end
@[reducible] def wLR3 (wa : WA) : WE := fun ρ Q E => wa ρ (fun cs ρ1 => match cs with
  | [.v (.int i), .v (.int j), .v (.int c)] => (0 < c ∧ c < 1073741824 ∧ rgN i j c ≤ 16777215) ∧ Q (.own 0 (.lst ((rgL i j c).map PyData.int))) ρ1
  | _ => False) E
theorem ee_listR3 {X : Cx} {g : G} {W : WX} {a b c : Expr} {wa : WA} {p p2 pos2 pos : Pos} (hc : X.calm = true) (hg : Gl X "list") (hm : X.mg "list" = none) (hg2 : Gl X "range") (hm2 : X.mg "range" = none) (ha : EA X g W [a, b, c] wa)
    (hs : starEach [a, b, c] X.env = (false, eval a X.env) :: starEach [b, c] X.env := by rfl) (hpl : (backTo pos2 (starEach [b, c] X.env)).any (·.1) = false := by rfl)
    (na : starEach [.Call (.Name "range" p2) [a, b, c] [] pos2] X.env = (false, eval (.Call (.Name "range" p2) [a, b, c] [] pos2) X.env) :: starEach [] X.env := by rfl) :
    EE X g W (.Call (.Name "list" p) [.Call (.Name "range" p2) [a, b, c] [] pos2] [] pos) (wLR3 wa) := by
  obtain ⟨t, q, s⟩ := ha.ex
  refine ⟨_, pe_listRg3 hc hg hm (prg_3 hg2 hm2 q hs hpl) na, fun σ vs H ρ cs QD ED Q hS hw hX hQ => ?_⟩
  refine s σ vs H ρ cs _ ED _ hS hw hX fun xs H1 ccs ρ1 hl S1 q1 => ?_
  split at q1
  · rename_i i j c
    match xs, hl with
    | [x, y, z], _ =>
      have t1 := S1.top
      cases t1
      have t2 := S1.pop.top
      cases t2
      have t3 := S1.pop.pop.top
      cases t3
      obtain ⟨⟨c0, c1, c2⟩, q1⟩ := q1
      refine ⟨i, j, c, rfl, by omega, by omega, c0, c2, fun p n => ?_⟩
      have dp : DpAll X.K (hide H1 (tot σ vs ρ1 cs ++ g.P0)) (rgV3 i c (rgN i j c)) ((rgL i j c).map PyData.int) := by
        have e : rgV3 i c (rgN i j c) = (rgL i j c).map V.int := by
          unfold rgV3 rgL
          rw [List.map_map]
          rfl
        rw [e]
        exact DL.DpAll.ints _
      exact hQ _ _ _ ρ1 (SR.res S1.pop.pop.pop (same_new n) (new_lst n dp)) q1
  · exact q1.elim
end DL

set_option Elab.async false
set_option linter.all false
set_option maxRecDepth 100000
/-! DL: x not in range(n); except X: without a name -/
namespace DL
open PySem PySem.Spec PyProof.Rows L2
section
variable {X : Cx} {a b : Expr} {ta : TE} {pos p p2 : Pos}
theorem pe_notInRg {tb : L2.St → Hp → (Int → Int → Hp → Prop) → Prop} (ha : PE X a ta) (hb : PRg X b tb) (hm : behindInMarks .NotIn b = false) :
    PE X (.Compare a [.NotIn] [b] pos) (fun σ H Q => ta σ H fun x H1 => tb σ H1 fun lo hi H2 => ∃ i, x = .int i ∧ Q (.bl (!decide (lo ≤ i ∧ i < hi))) H2) := by
  refine ⟨fun pins s σ H Q I h => ?_⟩
  refine wpAny_Compare1 (thn (ha.run pins s σ H _ I h) fun v s1 ⟨x, H1, I1, r1, q1⟩ => thn (hb pins s1 σ H1 _ I1 q1) fun u s2 ⟨r, lo, hi, t1, t2, t3, H2, ex, ho, I2, q2⟩ => ?_) hm
  obtain ⟨i, rfl, q⟩ := q2
  obtain ⟨k, rfl⟩ := r1
  subst ex
  show wpAny _ _ (do return Value.bool (!(← contains (Value.ref r) (Value.int i k)))) _ _ s2
  refine wpAny_bind (wpAny_contains_slot (T := "range") ⟨_, ho, rfl⟩ F.slot_range_contains (call_meets F.slot_range_contains ⟨_, ho, rfl⟩ F.entry_range_contains (F.args_range_contains_2 _ _) (L2.q_contains r lo hi i t1 t2 t3 k)
    ⟨ho, wpAny_truthy_bool (wpAny_pure ⟨.bl _, H2, I2, rfl, ?_⟩)⟩))
  rw [L2.place1]
  exact q
theorem pt_notInRg {tb : L2.St → Hp → (Int → Int → Hp → Prop) → Prop} (ha : PE X a ta) (hb : PRg X b tb) (hm : behindInMarks .NotIn b = false) :
    PT X (.Compare a [.NotIn] [b] pos) (tTest (fun σ H Q => ta σ H fun x H1 => tb σ H1 fun lo hi H2 => ∃ i, x = .int i ∧ Q (.bl (!decide (lo ≤ i ∧ i < hi))) H2)) := by
  refine ⟨fun pins s σ H Q I h => ?_⟩
  refine wpAny_isTrue_Compare1 (thn (ha.run pins s σ H _ I h) fun v s1 ⟨x, H1, I1, r1, q1⟩ => thn (hb pins s1 σ H1 _ I1 q1) fun u s2 ⟨r, lo, hi, t1, t2, t3, H2, ex, ho, I2, q2⟩ => ?_) hm
  obtain ⟨i, rfl, c, ec, q⟩ := q2
  cases ec
  obtain ⟨k, rfl⟩ := r1
  subst ex
  show wpAny _ _ (do return Value.bool (!(← contains (Value.ref r) (Value.int i k)))) _ _ s2
  refine wpAny_bind (wpAny_contains_slot (T := "range") ⟨_, ho, rfl⟩ F.slot_range_contains (call_meets F.slot_range_contains ⟨_, ho, rfl⟩ F.entry_range_contains (F.args_range_contains_2 _ _) (L2.q_contains r lo hi i t1 t2 t3 k)
    ⟨ho, wpAny_truthy_bool (wpAny_pure (wpAny_truthy_bool ⟨H2, I2, ?_⟩))⟩))
  rw [L2.place1]
  exact q
@[reducible] def wNIR (wa wb : WE) : WE := fun ρ Q E => wa ρ (fun c1 ρ1 => wb ρ1 (fun c2 ρ2 => match c1, c2 with
  | .v (.int i), .v (.int n) => Q (.v (.bool (!decide (0 ≤ i ∧ i < n)))) ρ2
  | _, _ => False) E) E
theorem sem_nir {g : G} {W : WX} {wa wb : WE} {t1 t2 : TE} (s1 : Sem X.K g W t1 wa) (s2 : Sem X.K g W t2 wb) :
    Sem X.K g W (fun σ H Q => t1 σ H fun x H1 => tRg1 t2 σ H1 fun lo hi H2 => ∃ i, x = .int i ∧ Q (.bl (!decide (lo ≤ i ∧ i < hi))) H2) (wNIR wa wb) := by
  intro σ vs H ρ cs QD ED Q hS hw hX hQ
  refine s1 σ vs H ρ cs _ ED _ hS hw hX fun x H1 c1 ρ1 S1 q1 => ?_
  refine s2 σ (x :: vs) H1 ρ1 (c1 :: cs) _ ED _ S1 q1 hX fun y H2 c2 ρ2 S2 q2 => ?_
  split at q2
  · rename_i i n
    have z2 := S2.top
    cases z2
    have z1 := S2.pop.top
    cases z1
    exact ⟨n, rfl, i, rfl, hQ _ H2 _ ρ2 (SR.resV S2.pop.pop (Same.refl H2) (.bl _)) q2⟩
  · exact q2.elim
theorem ee_nir {g : G} {W : WX} {wa wb : WE} (hg : Gl X "range") (hm : X.mg "range" = none) (ha : EE X g W a wa) (hb : EE X g W b wb)
    (na : starEach [b] X.env = (false, eval b X.env) :: starEach [] X.env := by rfl) :
    EE X g W (.Compare a [.NotIn] [.Call (.Name "range" p) [b] [] p2] pos) (wNIR wa wb) := by
  obtain ⟨t1, e1, s1⟩ := ha.ex
  obtain ⟨t2, e2, s2⟩ := hb.ex
  exact ⟨_, pe_notInRg e1 (prg_1 hg hm e2 na) (by rfl), sem_nir s1 s2⟩
theorem et_nir {g : G} {W : WX} {wa wb : WE} (hg : Gl X "range") (hm : X.mg "range" = none) (ha : EE X g W a wa) (hb : EE X g W b wb)
    (na : starEach [b] X.env = (false, eval b X.env) :: starEach [] X.env := by rfl) :
    ET X g W (.Compare a [.NotIn] [.Call (.Name "range" p) [b] [] p2] pos) (wTst (wNIR wa wb)) := by
  obtain ⟨t1, e1, s1⟩ := ha.ex
  obtain ⟨t2, e2, s2⟩ := hb.ex
  exact ⟨_, pt_notInRg e1 (prg_1 hg hm e2 na) (by rfl), sem_tst (sem_nir s1 s2)⟩
end
/-! ### try: .. except X: .. -/
def tryB0 (K : PySem.W.Frag) : Bool := decide (PySem.W.exmOne K (.ref (He.ga K "TooMany")) (.ref (He.ga K "TooMany")) = some true)
structure TryG0 (K : PySem.W.Frag) (mg : Str → Option Value) : Prop where
  g : mg "TooMany" = some (.ref (He.ga K "TooMany"))
  e : PySem.W.exmOne K (.ref (He.ga K "TooMany")) (.ref (He.ga K "TooMany")) = some true
theorem TryG0.of {K : PySem.W.Frag} {mg : Str → Option Value} (g : mg "TooMany" = some (.ref (He.ga K "TooMany"))) (h : tryB0 K = true) : TryG0 K mg := ⟨g, of_decide_eq_true h⟩
@[reducible] def wTry0 (wb ws : WS) : WS := fun DD ρ => wb ⟨DD.nx, DD.rt, DD.bk, DD.ct, fun xd ρ1 => xd = ⟨"TooMany", []⟩ ∧ ws ⟨DD.nx, fun _ _ => False, fun _ => False, fun _ => False, fun _ _ => False⟩ ρ1⟩ ρ
section
variable {X : Cx} {g : G} {W : WX} {x : Str} {body suite : List Stmt} {b₀ : Stmt} {np pos pos' : Pos} {wb ws : WS}
theorem es0_try0 (hs : X.stack = X.env :: X.outer) (hf : X.env.frame = some X.env.locals) (hc : Names X x (.ref (He.ga X.K x))) (tk : Takes X W)
    (he : PySem.W.exmOne X.K (.ref (He.ga X.K "TooMany")) (.ref (He.ga X.K x)) = some true)
    (hb : ∀ (W' : WX) (pn : List (Addr × Obj)) (xe : Value → Shared → Prop), Takes (X.tr pn xe) W' → PassesOwn (model X.prog X.w) X.A X.env xe → EB (X.tr pn xe) g W' body wb)
    (hsu : ∀ (a : Addr) (oe : Obj) (pn : List (Addr × Obj)), EB (X.suite a ((a, oe) :: pn)) g (fun _ _ _ _ => False) (b₀ :: suite) ws) :
    ES0 X g W (.Try body [.ExceptHandler (some (.Name x np)) none (b₀ :: suite) pos'] [] [] pos) (wTry0 wb ws) := by
  have p := ps_try_only (X := X) (pos := pos) (pos' := pos') (np := np) (tb := fun W' => tOf X.K g W' wb) (Wout := W)
    (ts := fun a cls d D σ H => cls = .ref (He.ga X.K "TooMany") ∧ d = none ∧ ∃ ρ DD, SR X.K g σ [] H ρ [] ∧ ws DD ρ ∧ EndsOk X.K g (fun _ _ _ _ => False) [] [] DD D)
    hs hf hc tk (fun W' pn xe tk' po => (eb0_of (hb W' pn xe tk' po)).ex) (fun a oe cls d pn hz hv => ⟨fun pins s σ H D I ⟨e1, e2, ρ, DD, q2, q3, q4⟩ => by
      subst e1 e2
      obtain ⟨t, p, s'⟩ := (hsu a oe pn).ex
      exact p.run pins s σ H D I (s' σ [] H ρ [] DD D q2 (fun c h => nomatch h) q3 q4)⟩)
  refine ⟨⟨fun pins s σ H D I ⟨ρ, DD, S, w, E⟩ => p.run pins s σ H D I ⟨ρ, _, S, w, E.nx, E.bk, E.ct, E.rt, fun σ' xd ρ' cls d H' S' xr ed => ?_⟩⟩⟩
  obtain ⟨rfl, hw⟩ := ed
  obtain ⟨e1, e2⟩ := xr
  subst e1
  have ed : d = none := by
    rcases e2 with e2 | e2
    · exact e2.1
    · exact absurd rfl e2.1
  subst ed
  exact ⟨true, he, fun _ a na => ⟨rfl, rfl, ρ', _, S', hw, ⟨E.nx, fun _ _ _ _ q => q.elim, fun _ _ _ _ q => q.elim, fun _ _ _ _ _ _ q => q.elim, fun _ _ _ _ _ _ _ _ q => q.elim⟩⟩, fun z => nomatch z⟩
end
end DL

set_option Elab.async false
set_option linter.all false
set_option maxRecDepth 100000
set_option maxHeartbeats 4000000
/-! DLStr: methods of texts: upper, join, zfill, partition, strip -/
namespace DL
open PySem PySem.Spec PyProof.Rows L2
/-- a method of a text with one thing handed in -/
@[reducible] def wM1 (o : O2) (wa wb : WE) : WE := fun ρ Q E => wa ρ (fun c1 ρ1 => match c1 with
  | .v (.str z) => wb ρ1 (fun c2 ρ2 => use2 ρ2 (.v (.str z)) c2 o Q) E
  | _ => False) E
@[reducible] def oUpper : O1 := fun d k => match d with
  | .str a => a.length ≤ 5592405 ∧ k (.v (.str (Txt.upper a)))
  | _ => False
@[reducible] def oZfill : O2 := fun d1 d2 k => match d1, d2 with
  | .str a, .int i => PadOk i = true ∧ k (.v (.str (Txt.zfill a i)))
  | _, _ => False
@[reducible] def oPart : O2 := fun d1 d2 k => match d1, d2 with
  | .str a, .str b => ((b.length == 0) = false ∧ a.length ≤ sizeLine) ∧ k (.v (.tuple [.str (Txt.partition a b).1, .str (Txt.partition a b).2.1, .str (Txt.partition a b).2.2]))
  | _, _ => False
@[reducible] def oJoin : O2 := fun d1 d2 k => match d1, d2 with
  | .str a, .list ds => optK (strsOf ds) fun ys => (ys.map (·.length)).sum + ys.length * a.length ≤ 16777216 ∧ k (.v (.str (Txt.join a ys)))
  | .str a, .tuple ds => optK (strsOf ds) fun ys => (ys.map (·.length)).sum + ys.length * a.length ≤ 16777216 ∧ k (.v (.str (Txt.join a ys)))
  | _, _ => False
section
variable {K : PySem.W.Frag} {g : G} {W : WX} {ta tb : TE} {wa wb : WE} {r : V → List V → Hp → VK → Prop} {o : O2}
theorem sem_m1 (l : Lift2 K (fun x y H Q => r x [y] H Q) o) (ha : Sem K g W ta wa) (hb : Sem K g W tb wb) : Sem K g W (tM1 r ta tb) (wM1 o wa wb) := by
  intro σ vs H ρ cs QD ED Q hS hw hX hQ
  refine ha σ vs H ρ cs _ ED _ hS hw hX fun x H1 c1 ρ1 S1 q1 => ?_
  split at q1
  · rename_i z
    refine ⟨?_, ?_⟩
    · have dz := S1.top
      cases dz
      exact ⟨_, rfl⟩
    refine hb σ (x :: vs) H1 ρ1 (_ :: cs) _ ED _ S1 q1 hX fun y H2 c2 ρ2 S2 q2 => ?_
    exact S2.use2 (r := fun x y H Q => r x [y] H Q) l q2 fun v H' c S3 q3 => hQ v H' c ρ2 S3 q3
  · exact q1.elim
theorem sem_m0 {o : O1} (l : Lift1 K (fun x H Q => (∃ a, x = V.str a) ∧ r x [] H Q) o) (ha : Sem K g W ta wa) : Sem K g W (tM0 r ta) (wU o wa) := by
  intro σ vs H ρ cs QD ED Q hS hw hX hQ
  refine ha σ vs H ρ cs _ ED _ hS hw hX fun x H1 c1 ρ1 S1 q1 => ?_
  exact S1.use1 (r := fun x H Q => (∃ a, x = V.str a) ∧ r x [] H Q) l q1 fun v H' c S3 q3 => hQ v H' c ρ1 S3 q3
theorem lift_upper : Lift1 K (fun x H Q => (∃ a, x = V.str a) ∧ ∃ a, x = .str a ∧ ([] : List V) = [] ∧ a.length ≤ 5592405 ∧ Q (.str (Txt.upper a)) H) oUpper := by
  intro O H x dx QD Q _ hx q fin
  unfold oUpper at q
  split at q
  · cases hx
    exact ⟨⟨_, rfl⟩, _, rfl, rfl, q.1, fin _ H (.v _) (Same.refl H) (.str _) q.2⟩
  · exact q.elim
theorem lift_zfill : Lift2 K (fun x y H Q => ∃ (a : Str) (i : Int), x = .str a ∧ [y] = [.int i] ∧ PadOk i = true ∧ Q (.str (Txt.zfill a i)) H) oZfill := by
  intro O H x y dx dy QD Q _ hx hy q fin
  unfold oZfill at q
  split at q
  · cases hx
    cases hy
    exact ⟨_, _, rfl, rfl, q.1, fin _ H (.v _) (Same.refl H) (.str _) q.2⟩
  · exact q.elim
theorem lift_part : Lift2 K (fun x y H Q => ∃ a b, x = .str a ∧ [y] = [.str b] ∧ (b.length == 0) = false ∧ a.length ≤ sizeLine ∧
    ∀ p, H p = none → Q (.ref p) (upd H p (.tup [.str (Txt.partition a b).1, .str (Txt.partition a b).2.1, .str (Txt.partition a b).2.2]))) oPart := by
  intro O H x y dx dy QD Q hO hx hy q fin
  unfold oPart at q
  split at q
  · cases hx
    cases hy
    refine ⟨_, _, rfl, rfl, q.1.1, q.1.2, fun p n => fin _ _ (.v _) (same_new n) (new_tup n (fun z => by obtain ⟨u, e⟩ := hO p z; rw [n] at e; cases e) ?_) q.2⟩
    exact .cons (.str _) (.cons (.str _) (.cons (.str _) .nil))
  · exact q.elim
theorem strs_dp {B : Hp} : ∀ {ds : List D} {xs : List V} {ys : List Str}, DpAll K B xs ds → strsOf ds = some ys → xs = ys.map V.str
  | [], _, _, .nil, e => by cases e; rfl
  | d :: ds, _, ys, .cons (v := v) h hs, e => by
    cases h with
    | str z =>
      have e : (strsOf ds).map (z :: ·) = some ys := e
      obtain ⟨l, h1, rfl⟩ := Option.map_eq_some_iff.mp e
      rw [List.map_cons, ← strs_dp hs h1]
    | non => cases e
    | bl b => cases e
    | int i => cases e
    | lst _ _ => cases e
    | tup _ _ => cases e
theorem lift_join : Lift2 K (fun x y H Q => ∃ a p, ∃ ys : List Str, x = .str a ∧ [y] = [.ref p] ∧ (SqL K H p (ys.map V.str) ∨ SqT K H p (ys.map V.str)) ∧
    (ys.map (·.length)).sum + ys.length * a.length ≤ 16777216 ∧ Q (.str (Txt.join a ys)) H) oJoin := by
  intro O H x y dx dy QD Q _ hx hy q fin
  unfold oJoin at q
  split at q
  · rename_i a ds
    cases e : strsOf ds with
    | none => rw [e] at q; exact q.elim
    | some ys =>
      rw [e] at q
      have q : _ ∧ _ := q
      cases hx
      cases hy with
      | lst h1 h2 =>
        have := strs_dp h2 e
        subst this
        exact ⟨_, _, ys, rfl, rfl, .inl (Same.seq same_hide h1), q.1, fin _ H (.v _) (Same.refl H) (.str _) q.2⟩
  · rename_i a ds
    cases e : strsOf ds with
    | none => rw [e] at q; exact q.elim
    | some ys =>
      rw [e] at q
      have q : _ ∧ _ := q
      cases hx
      cases hy with
      | tup h1 h2 =>
        have := strs_dp h2 e
        subst this
        exact ⟨_, _, ys, rfl, rfl, .inr (seqT_same same_hide h1), q.1, fin _ H (.v _) (Same.refl H) (.str _) q.2⟩
  · exact q.elim
end
section
variable {X : Cx} {g : G} {W : WX} {a b : Expr} {wa wb : WE} {apos pos : Pos}
theorem ee_upper (ha : EE X g W a wa) (hbase : attributeBase a "upper" X.env (eval a X.env) = eval a X.env := by rfl) (hline : (apos.endLine == pos.line) = true := by rfl) : EE X g W (.Call (.Attribute a "upper" apos) [] [] pos) (wU oUpper wa) := by
  obtain ⟨t, p, s⟩ := ha.ex
  exact ⟨_, pe_upper p hbase hline, sem_m0 lift_upper s⟩
theorem ee_zfill (ha : EE X g W a wa) (hb : EE X g W b wb) (hs : starEach [b] X.env = [(false, eval b X.env)] := by rfl) (hbase : attributeBase a "zfill" X.env (eval a X.env) = eval a X.env := by rfl) (hline : (apos.endLine == pos.line) = true := by rfl) : EE X g W (.Call (.Attribute a "zfill" apos) [b] [] pos) (wM1 oZfill wa wb) := by
  obtain ⟨t, p, s⟩ := ha.ex
  obtain ⟨t2, p2, s2⟩ := hb.ex
  exact ⟨_, pe_m1 PySem.F.slot_str_zfill PySem.F.type_str_zfill mt_zfill p p2 hs hbase hline, sem_m1 lift_zfill s s2⟩
theorem ee_part (ha : EE X g W a wa) (hb : EE X g W b wb) (hs : starEach [b] X.env = [(false, eval b X.env)] := by rfl) (hbase : attributeBase a "partition" X.env (eval a X.env) = eval a X.env := by rfl) (hline : (apos.endLine == pos.line) = true := by rfl) : EE X g W (.Call (.Attribute a "partition" apos) [b] [] pos) (wM1 oPart wa wb) := by
  obtain ⟨t, p, s⟩ := ha.ex
  obtain ⟨t2, p2, s2⟩ := hb.ex
  exact ⟨_, pe_partition p p2 hs hbase hline, sem_m1 lift_part s s2⟩
theorem ee_join (ha : EE X g W a wa) (hb : EE X g W b wb) (hs : starEach [b] X.env = [(false, eval b X.env)] := by rfl) (hbase : attributeBase a "join" X.env (eval a X.env) = eval a X.env := by rfl) (hline : (apos.endLine == pos.line) = true := by rfl) : EE X g W (.Call (.Attribute a "join" apos) [b] [] pos) (wM1 oJoin wa wb) := by
  obtain ⟨t, p, s⟩ := ha.ex
  obtain ⟨t2, p2, s2⟩ := hb.ex
  exact ⟨_, pe_join p p2 hs hbase hline, sem_m1 lift_join s s2⟩
end
end DL

set_option Elab.async false
set_option linter.all false
set_option maxRecDepth 100000
set_option maxHeartbeats 4000000
/-! CFH: the promises of the laws' drawing helpers, alike in all laws -/
namespace CFH
open PySem PySem.Spec PyProof.Rows L2 DL
structure Hd where
  a : Int
  b : Int
  c : Int
@[reducible] def hd (h : Hd) : List D := [.int h.a, .int h.b, .int h.c]
structure Hd.ok (h : Hd) (n : Nat) : Prop where
  a0 : 0 ≤ h.a
  b0 : 0 ≤ h.b
  b1 : h.b < 4611686018427387904
  c0 : 0 ≤ h.c
  c1 : h.c ≤ n
@[reducible] def hc (h : Hd) : C := .own 1 (.lst (hd h))
def S_law_hand : SpD := fun as Q _ => ∃ (ns : List Int) (k : Int), as = [.v (.list (ns.map PyData.int)), .v (.int k)] ∧ 0 ≤ k ∧ k ≤ 1000 ∧ ∀ h : Hd, h.ok 0 → Q (.own 0 (.lst (hd h))) as
def S_law_take : SpD := fun as Q _ => ∃ (h : Hd) (n : Nat) (m : Int), as = [hc h, .v (.int m)] ∧ h.ok n ∧ n ≤ 1000000 ∧ 0 < m ∧ m.natAbs.log2 < 9000 ∧ ∀ (h' : Hd) (x : Int), h'.ok (n + 1) → 0 ≤ x → x < m → Q (.v (.int x)) [hc h', .v (.int m)]
/-- a list, a tuple -/
@[reducible] def boxD : Bool → List D → D
  | false, ds => .list ds
  | true, ds => .tuple ds
/-- a list, a tuple, a text: what stands in it -/
def Boxed (d : D) (ds : List D) : Prop := d = .list ds ∨ d = .tuple ds ∨ ∃ s : Str, d = .str s ∧ ds = strD s ∧ s.length ≤ sizeLine
def S_law_pick : SpD := fun as Q _ => ∃ (h : Hd) (n : Nat) (b : D) (ds : List D), as = [hc h, .v b] ∧ h.ok n ∧ n ≤ 1000000 ∧ 0 < ds.length ∧ ds.length ≤ 1000000 ∧ Boxed b ds ∧ ∀ (h' : Hd) (d : D), h'.ok (n + 1) → d ∈ ds → Q (.v d) [hc h', .v b]
/-- a whole number, no truth -/
@[reducible] def wholeD : D → Bool
  | .int _ => true
  | _ => false
def S_law_whole : SpD := fun as Q _ => ∃ d : D, as = [.v d] ∧ Q (.v (.bool (wholeD d))) as
def S_law_great : SpD := fun as Q _ => ∃ (h : Hd) (n : Nat), as = [hc h] ∧ h.ok n ∧ n ≤ 900000 ∧ ∀ (h' : Hd) (x : Int), h'.ok (n + 4) → 0 ≤ x → x < 1000000000000000000000000000000000000000000000000000000000000 → Q (.v (.int x)) [hc h']
theorem len_law_hand : ∀ as QD ED, S_law_hand as QD ED → as.length = 2 := by
  rintro as QD ED ⟨_, _, rfl, _⟩
  rfl
theorem len_law_take : ∀ as QD ED, S_law_take as QD ED → as.length = 2 := by
  rintro as QD ED ⟨_, _, _, rfl, _⟩
  rfl
theorem len_law_pick : ∀ as QD ED, S_law_pick as QD ED → as.length = 2 := by
  rintro as QD ED ⟨_, _, _, _, rfl, _⟩
  rfl
theorem len_law_whole : ∀ as QD ED, S_law_whole as QD ED → as.length = 1 := by
  rintro as QD ED ⟨_, rfl, _⟩
  rfl
theorem len_law_great : ∀ as QD ED, S_law_great as QD ED → as.length = 1 := by
  rintro as QD ED ⟨_, _, rfl, _⟩
  rfl

theorem Hd.ok.up {h : Hd} {n m : Nat} (o : h.ok n) (l : n ≤ m) : h.ok m := ⟨o.a0, o.b0, o.b1, o.c0, by have := o.c1; omega⟩
@[reducible] def big : Int := 1000000000000000000000000000000000000000000000000000000000000
theorem big_log {m : Int} (h0 : 0 < m) (h : m ≤ big) : m.natAbs.log2 < 9000 := log2_lt (k := 200) (by unfold big at h; omega) (by decide) (by decide)
theorem hand_i {ns : List Int} {k : Int} {Q E} (h0 : 0 ≤ k) (h1 : k ≤ 1000) (q : ∀ h : Hd, h.ok 0 → Q (.own 0 (.lst (hd h))) [.v (.list (ns.map PyData.int)), .v (.int k)]) : S_law_hand [.v (.list (ns.map PyData.int)), .v (.int k)] Q E := ⟨ns, k, rfl, h0, h1, q⟩
theorem take_i {h : Hd} {n : Nat} {m : Int} {Q E} (o : h.ok n) (hn : n ≤ 1000000) (hm : 0 < m) (hl : m.natAbs.log2 < 9000) (q : ∀ (h' : Hd) (x : Int), h'.ok (n + 1) → 0 ≤ x → x < m → Q (.v (.int x)) [hc h', .v (.int m)]) : S_law_take [hc h, .v (.int m)] Q E := ⟨h, n, m, rfl, o, hn, hm, hl, q⟩
theorem great_i {h : Hd} {n : Nat} {Q E} (o : h.ok n) (hn : n ≤ 900000) (q : ∀ (h' : Hd) (x : Int), h'.ok (n + 4) → 0 ≤ x → x < 1000000000000000000000000000000000000000000000000000000000000 → Q (.v (.int x)) [hc h']) : S_law_great [hc h] Q E := ⟨h, n, rfl, o, hn, q⟩
theorem pick_i {h : Hd} {n : Nat} {ds : List D} {Q E} (o : h.ok n) (hn : n ≤ 1000000) (h0 : 0 < ds.length) (h1 : ds.length ≤ 1000000) (q : ∀ (h' : Hd) (d : D), h'.ok (n + 1) → d ∈ ds → Q (.v d) [hc h', .v (.list ds)]) : S_law_pick [hc h, .v (.list ds)] Q E := ⟨h, n, .list ds, ds, rfl, o, hn, h0, h1, .inl rfl, q⟩
theorem pick_t {h : Hd} {n : Nat} {ds : List D} {Q E} (o : h.ok n) (hn : n ≤ 1000000) (h0 : 0 < ds.length) (h1 : ds.length ≤ 1000000) (q : ∀ (h' : Hd) (d : D), h'.ok (n + 1) → d ∈ ds → Q (.v d) [hc h', .v (.tuple ds)]) : S_law_pick [hc h, .v (.tuple ds)] Q E := ⟨h, n, .tuple ds, ds, rfl, o, hn, h0, h1, .inr (.inl rfl), q⟩
theorem strD_len {s : Str} : (strD s).length = s.length := by
  unfold strD
  rw [List.length_map]
  rfl
theorem pick_s {h : Hd} {n : Nat} {s : Str} {Q E} (o : h.ok n) (hn : n ≤ 1000000) (h0 : 0 < s.length) (h1 : s.length ≤ 1000000) (q : ∀ (h' : Hd) (c : Nat), h'.ok (n + 1) → c ∈ s.cps.toList → Q (.v (.str ⟨#[c]⟩)) [hc h', .v (.str s)]) : S_law_pick [hc h, .v (.str s)] Q E :=
  ⟨h, n, .str s, strD s, rfl, o, hn, by rw [strD_len]; exact h0, by rw [strD_len]; exact h1, .inr (.inr ⟨s, rfl, rfl, by rw [sizeLine_eq]; omega⟩), fun h' d o' hd => by
    obtain ⟨c, hc', rfl⟩ := List.mem_map.mp hd
    exact q h' c o' hc'⟩
/-- a pick among whole numbers -/
theorem pick_z {h : Hd} {n : Nat} (ns : List Int) {ds : List D} {Q E} (e : ds = ns.map PyData.int) (o : h.ok n) (hn : n ≤ 1000000) (h0 : 0 < ns.length) (h1 : ns.length ≤ 1000000) (q : ∀ (h' : Hd) (x : Int), h'.ok (n + 1) → x ∈ ns → Q (.v (.int x)) [hc h', .v (.list ds)]) : S_law_pick [hc h, .v (.list ds)] Q E := ⟨h, n, .list ds, ds, rfl, o, hn, by rw [e, List.length_map]; exact h0, by rw [e, List.length_map]; exact h1, .inl rfl, fun h' d o' hd => by
  rw [e] at hd
  obtain ⟨x, hx, rfl⟩ := List.mem_map.mp hd
  exact q h' x o' hx⟩
theorem whole_i {d : D} {Q E} (q : Q (.v (.bool (wholeD d))) [.v d]) : S_law_whole [.v d] Q E := ⟨d, rfl, q⟩
end CFH

set_option Elab.async false
set_option linter.all false
set_option maxRecDepth 100000
set_option maxHeartbeats 4000000
/-! CFWd: words of the laws: the promise -/
namespace CFWd
open PySem PySem.Spec PyProof.Rows L2 DL CFH
def signs : Str := "abcdefghijklmnopqrstuvwxyz0123456789"
theorem sg_len : signs.cps.toList.length = 36 := by decide +kernel
theorem sg_nodup : signs.cps.toList.Nodup := by decide +kernel
theorem sg_sz : signs.length ≤ sizeLine := by
  have : signs.length = 36 := by decide +kernel
  rw [this, sizeLine_eq]; decide
/-- a word of one to eight letters and figures -/
structure WordOk (x : Str) : Prop where
  l1 : 1 ≤ x.length
  l8 : x.length ≤ 8
  sg : ∀ c ∈ x.cps.toList, c ∈ signs.cps.toList
/-- unlike words -/
structure WsOk (ws : List Str) : Prop where
  nd : ws.Nodup
  ok : ∀ w ∈ ws, WordOk w
  /-- they differ at one place -/
  ap : ∃ a : Nat, (∀ w ∈ ws, (w.cps.toList[a]?).isSome = true) ∧ ws.Pairwise fun x y => x.cps.toList[a]? ≠ y.cps.toList[a]?
def sgAt (j : Nat) : Nat := signs.cps.toList.getD j 0
theorem sg_at {j : Nat} (h : j < 36) : signs.cps.toList[j]? = some (sgAt j) := by
  unfold sgAt
  rw [List.getD_eq_getElem?_getD, List.getElem?_eq_getElem (by rw [sg_len]; exact h)]
  rfl
theorem sg_mem {j : Nat} (h : j < 36) : sgAt j ∈ signs.cps.toList := List.mem_of_getElem? (sg_at h)
theorem sg_inj' : ∀ i < 36, ∀ j < 36, sgAt i = sgAt j → i = j := by decide +kernel
theorem sg_inj {i j : Nat} (hi : i < 36) (hj : j < 36) (h : sgAt i = sgAt j) : i = j := sg_inj' i hi j hj h
/-- the word of a number: a signs ahead, one that the number tells, b behind or none -/
def wordL (c a b : Nat) (short : Bool) (b0 st k : Nat) : List Nat := List.replicate a c ++ [sgAt ((b0 + st * k) % 36)] ++ (if short = true ∧ k % 2 = 1 then [] else List.replicate b c)
theorem word_ok {c a b : Nat} {short : Bool} {b0 st k : Nat} (hc : c ∈ signs.cps.toList) (hl : a + b ≤ 7) : WordOk (T (wordL c a b short b0 st k)) := by
  unfold wordL
  refine ⟨?_, ?_, ?_⟩
  · rw [T_len]; simp only [List.length_append, List.length_cons, List.length_nil]; omega
  · rw [T_len]; split <;> simp <;> omega
  · rw [T_list]
    intro z hz
    rcases List.mem_append.mp hz with hz | hz
    · rcases List.mem_append.mp hz with hz | hz
      · rw [List.eq_of_mem_replicate hz]; exact hc
      · rw [List.mem_singleton.mp hz]; exact sg_mem (Nat.mod_lt _ (by decide))
    · split at hz
      · cases hz
      · rw [List.eq_of_mem_replicate hz]; exact hc
theorem word_inj {c a b : Nat} {short : Bool} {b0 st k k' : Nat} (hs : st = 1 ∨ st = 5 ∨ st = 7 ∨ st = 11 ∨ st = 13 ∨ st = 17) (hk : k < 36) (hk' : k' < 36) (h : wordL c a b short b0 st k = wordL c a b short b0 st k') : k = k' := by
  have g : ∀ k, (wordL c a b short b0 st k)[a]? = some (sgAt ((b0 + st * k) % 36)) := fun k => by
    unfold wordL
    rw [List.append_assoc, List.getElem?_append_right (by simp)]
    simp
  have e := g k
  rw [h, g k'] at e
  have e2 := sg_inj (Nat.mod_lt _ (by decide)) (Nat.mod_lt _ (by decide)) (Option.some.inj e)
  rcases hs with rfl | rfl | rfl | rfl | rfl | rfl <;> omega
theorem words_ok {c a b : Nat} {short : Bool} {b0 st n : Nat} (hs : st = 1 ∨ st = 5 ∨ st = 7 ∨ st = 11 ∨ st = 13 ∨ st = 17) (hn : n ≤ 36) (hc : c ∈ signs.cps.toList) (hl : a + b ≤ 7) : WsOk ((List.range n).map fun k => T (wordL c a b short b0 st k)) := by
  have g : ∀ k, (T (wordL c a b short b0 st k)).cps.toList[a]? = some (sgAt ((b0 + st * k) % 36)) := fun k => by
    show (wordL c a b short b0 st k).toArray.toList[a]? = _
    unfold wordL
    rw [List.append_assoc, List.toList_toArray, List.getElem?_append_right (by simp)]
    simp
  refine ⟨?_, fun w hw => ?_, a, fun w hw => ?_, ?_⟩
  · refine List.pairwise_map.mpr ((show (List.range n).Pairwise (· ≠ ·) from List.nodup_range).imp_of_mem fun {x y} hx hy z e => z (word_inj hs ?_ ?_ (T_inj e)))
    · have := List.mem_range.mp hx; omega
    · have := List.mem_range.mp hy; omega
  · obtain ⟨k, _, rfl⟩ := List.mem_map.mp hw
    exact word_ok hc hl
  · obtain ⟨k, _, rfl⟩ := List.mem_map.mp hw
    rw [g]
    rfl
  · refine List.pairwise_map.mpr ((show (List.range n).Pairwise (· ≠ ·) from List.nodup_range).imp_of_mem fun {x y} hx hy z e => z ?_)
    have kx := List.mem_range.mp hx
    have ky := List.mem_range.mp hy
    rw [g, g] at e
    have e2 := sg_inj (Nat.mod_lt _ (by decide)) (Nat.mod_lt _ (by decide)) (Option.some.inj e)
    rcases hs with rfl | rfl | rfl | rfl | rfl | rfl <;> omega
theorem WsOk.take {ws : List Str} (h : WsOk ws) (k : Nat) : WsOk (ws.take k) := by
  obtain ⟨a, h1, h2⟩ := h.ap
  exact ⟨h.nd.sublist (List.take_sublist _ _), fun w hw => h.ok w (List.mem_of_mem_take hw), a, fun w hw => h1 w (List.mem_of_mem_take hw), h2.sublist (List.take_sublist _ _)⟩
def S_law_words : SpD := fun as Q _ => ∃ (h : Hd) (n : Nat) (m : Int), as = [hc h, .v (.int m)] ∧ h.ok n ∧ n ≤ 800000 ∧ 0 ≤ m ∧ m ≤ 36 ∧ ∀ (h' : Hd) (ws : List Str), h'.ok (n + 10) → (ws.length : Int) = m → WsOk ws → Q (.own 0 (.lst (ws.map PyData.str))) [hc h', .v (.int m)]
theorem len_law_words : ∀ as QD ED, S_law_words as QD ED → as.length = 2 := by
  rintro as QD ED ⟨_, _, _, rfl, _⟩
  rfl
end CFWd

set_option Elab.async false
set_option linter.all false
set_option maxRecDepth 100000
set_option maxHeartbeats 4000000
/-! CFIs: words, turns, layers of anything -/
namespace CFIs
open PySem PySem.Spec PyProof.Rows L2 DL CFH
mutual
/-- data whose texts are not long -/
def sml : D → Bool
  | .str s => decide (s.length ≤ 100000)
  | .list ds => smlAll ds
  | .tuple ds => smlAll ds
  | .dict _ => false
  | _ => true
def smlAll : List D → Bool
  | [] => true
  | d :: ds => sml d && smlAll ds
end
theorem sml_all : ∀ {ds : List D}, smlAll ds = true ↔ ∀ d ∈ ds, sml d = true
  | [] => ⟨fun _ _ h => (by cases h), fun _ => rfl⟩
  | d :: ds => by
    show (sml d && smlAll ds) = true ↔ _
    rw [Bool.and_eq_true, sml_all]
    constructor
    · rintro ⟨a, b⟩ x hx
      rcases List.mem_cons.mp hx with z | z
      · rw [z]; exact a
      · exact b x z
    · exact fun h => ⟨h d (.head _), fun x hx => h x (.tail _ hx)⟩
theorem sml_tup {ds : List D} : sml (.tuple ds) = true ↔ ∀ d ∈ ds, sml d = true := sml_all
theorem sml_lst {ds : List D} : sml (.list ds) = true ↔ ∀ d ∈ ds, sml d = true := sml_all
theorem sml_str {s : Str} (h : sml (.str s) = true) : s.length ≤ 100000 := of_decide_eq_true h
theorem sml_of {s : Str} (h : s.length ≤ 100000) : sml (.str s) = true := decide_eq_true h
@[reducible] def SIG : Str := "abcdefghijklmnopqrstuvwxyz0123456789"
def isWh : D → Bool
  | .int _ => true
  | _ => false
def sgOk : D → Bool
  | .str c => inS c SIG
  | _ => false
def isWd : D → Bool
  | .str s => decide (1 ≤ s.length ∧ s.length ≤ 8) && (strD s).all sgOk
  | _ => false
def isTu (low high : Int) : D → Bool
  | .tuple [.int b, .int e, h] => isWd h && decide (low ≤ b ∧ b < e ∧ e ≤ high)
  | _ => false
def enT : D → Int
  | .tuple [_, .int e, _] => e
  | _ => 0
def tuF (most : Int) : Int → List D → Bool
  | _, [] => true
  | low, t :: ts => isTu low most t && tuF most (enT t) ts
def areTu (most : Int) : D → Bool
  | .tuple ts => decide (ts.length ≤ 12) && tuF most 0 ts
  | _ => false
def isLy : D → Bool
  | .tuple [w, .int s, .int d, ts] => isWd w && decide (1 ≤ d ∧ d ≤ 60) && decide (0 ≤ s ∧ s < 1440 * d) && areTu (1440 * d) ts
  | _ => false
theorem isT_str {d : D} (h : isT "str" d = true) : ∃ s, d = .str s := by
  cases d <;> first | exact ⟨_, rfl⟩ | (simp [isT] at h)
theorem isT_tup {d : D} (h : isT "tuple" d = true) : ∃ s, d = .tuple s := by
  cases d <;> first | exact ⟨_, rfl⟩ | (simp [isT] at h)
theorem isT_lst {d : D} (h : isT "list" d = true) : ∃ s, d = .list s := by
  cases d <;> first | exact ⟨_, rfl⟩ | (simp [isT] at h)
theorem isWh_eq {d : D} : isWh d = (isT "int" d && !isT "bool" d) := by cases d <;> rfl
theorem isWh_int {d : D} (h : isWh d = true) : ∃ i, d = .int i := by
  cases d <;> first | exact ⟨_, rfl⟩ | cases h
theorem isWd_no {d : D} (h : isT "str" d = false) : isWd d = false := by
  cases d <;> first | rfl | (simp [isT] at h)
theorem isTu_no {low high : Int} {d : D} (h : isT "tuple" d = false) : isTu low high d = false := by
  cases d <;> first | rfl | (simp [isT] at h)
theorem areTu_no {most : Int} {d : D} (h : isT "tuple" d = false) : areTu most d = false := by
  cases d <;> first | rfl | (simp [isT] at h)
theorem isLy_no {d : D} (h : isT "tuple" d = false) : isLy d = false := by
  cases d <;> first | rfl | (simp [isT] at h)
theorem isTu_3 {low high : Int} {b e h : D} : isTu low high (.tuple [b, e, h]) = (isWh b && isWh e && isWd h && (match b, e with
    | .int b, .int e => decide (low ≤ b ∧ b < e ∧ e ≤ high)
    | _, _ => false)) := by
  cases b <;> cases e <;> first | rfl | (unfold isTu isWh; simp)
theorem isTu_len {low high : Int} {ds : List D} (h : ds.length ≠ 3) : isTu low high (.tuple ds) = false := by
  match ds, h with
  | [], _ => rfl
  | [_], _ => simp [isTu, isLy]
  | [_, _], _ => simp [isTu, isLy]
  | _ :: _ :: _ :: _ :: _, _ => simp [isTu]
theorem len3 {ds : List D} (h : ds.length = 3) : ∃ a b c, ds = [a, b, c] := by
  match ds, h with
  | [a, b, c], _ => exact ⟨a, b, c, rfl⟩
theorem len4 {ds : List D} (h : ds.length = 4) : ∃ a b c e, ds = [a, b, c, e] := by
  match ds, h with
  | [a, b, c, e], _ => exact ⟨a, b, c, e, rfl⟩
theorem isLy_len {ds : List D} (h : ds.length ≠ 4) : isLy (.tuple ds) = false := by
  match ds, h with
  | [], _ => rfl
  | [_], _ => simp [isTu, isLy]
  | [_, _], _ => simp [isTu, isLy]
  | [_, _, _], _ => simp [isTu, isLy]
  | _ :: _ :: _ :: _ :: _ :: _, _ => simp [isLy]
theorem isWd_bad {s : Str} (h : ¬ (1 ≤ s.length ∧ s.length ≤ 8)) : isWd (.str s) = false := by
  show (decide _ && _) = false
  rw [decide_eq_false h]
  rfl
theorem isWd_at {s : Str} (h : 1 ≤ s.length ∧ s.length ≤ 8) : isWd (.str s) = (strD s).all sgOk := by
  show (decide _ && _) = _
  rw [decide_eq_true h, Bool.true_and]
theorem areTu_bad {most : Int} {ds : List D} (h : ¬ ds.length ≤ 12) : areTu most (.tuple ds) = false := by
  show (decide _ && _) = false
  rw [decide_eq_false h]
  rfl
theorem areTu_at {most : Int} {ds : List D} (h : ds.length ≤ 12) : areTu most (.tuple ds) = tuF most 0 ds := by
  show (decide _ && _) = _
  rw [decide_eq_true h, Bool.true_and]
theorem isTu_get {low high : Int} {d : D} (h : isTu low high d = true) : ∃ b e hd, d = .tuple [.int b, .int e, hd] ∧ low ≤ b ∧ b < e ∧ e ≤ high := by
  unfold isTu at h
  split at h
  · rename_i b e hd
    rw [Bool.and_eq_true] at h
    exact ⟨b, e, hd, rfl, of_decide_eq_true h.2⟩
  · cases h
theorem isLy_4 {w s e ts : D} : isLy (.tuple [w, s, e, ts]) = (isWd w && isWh s && isWh e && (match s, e with
    | .int s, .int d => decide (1 ≤ d ∧ d ≤ 60) && decide (0 ≤ s ∧ s < 1440 * d) && areTu (1440 * d) ts
    | _, _ => false)) := by
  cases s <;> cases e <;> first | rfl | (unfold isLy isWh; simp [Bool.and_assoc])
def S_is_whole : SpD := fun as Q _ => ∃ d : D, as = [.v d] ∧ Q (.v (.bool (isWh d))) as
def S_is_word : SpD := fun as Q _ => ∃ d : D, as = [.v d] ∧ sml d = true ∧ Q (.v (.bool (isWd d))) as
def S_is_turn : SpD := fun as Q _ => ∃ (d : D) (low high : Int), as = [.v d, .v (.int low), .v (.int high)] ∧ sml d = true ∧ Q (.v (.bool (isTu low high d))) as
def S_are_turns : SpD := fun as Q _ => ∃ (d : D) (most : Int), as = [.v d, .v (.int most)] ∧ sml d = true ∧ Q (.v (.bool (areTu most d))) as
def S_is_layer : SpD := fun as Q _ => ∃ d : D, as = [.v d] ∧ sml d = true ∧ Q (.v (.bool (isLy d))) as
theorem len_is_whole : ∀ as QD ED, S_is_whole as QD ED → as.length = 1 := by
  rintro as QD ED ⟨_, rfl, _⟩
  rfl
theorem len_is_word : ∀ as QD ED, S_is_word as QD ED → as.length = 1 := by
  rintro as QD ED ⟨_, rfl, _⟩
  rfl
theorem len_is_turn : ∀ as QD ED, S_is_turn as QD ED → as.length = 3 := by
  rintro as QD ED ⟨_, _, _, rfl, _⟩
  rfl
theorem len_are_turns : ∀ as QD ED, S_are_turns as QD ED → as.length = 2 := by
  rintro as QD ED ⟨_, _, rfl, _⟩
  rfl
theorem len_is_layer : ∀ as QD ED, S_is_layer as QD ED → as.length = 1 := by
  rintro as QD ED ⟨_, rfl, _⟩
  rfl
end CFIs

set_option Elab.async false
set_option linter.all false
set_option maxRecDepth 100000
set_option maxHeartbeats 4000000
/-! CFCl: the clock: shown, reading, moment_of: promises and their mathematics -/
namespace CFCl
open PySem PySem.Spec PyProof.Rows L2 DL CFH
abbrev Pr := Int × Int
@[reducible] def cplD (p : Pr) : D := .tuple [.int p.1, .int p.2]
@[reducible] def psD (ps : List Pr) : D := .tuple (ps.map cplD)
/-- moments rise, from above lo -/
def Ris : Int → List Pr → Prop
  | _, [] => True
  | lo, p :: js => lo < p.1 ∧ Ris p.1 js
theorem Ris.mono : ∀ {lo lo' : Int} {js : List Pr}, lo' ≤ lo → Ris lo js → Ris lo' js
  | _, _, [], _, h => trivial
  | _, _, _ :: _, l, h => ⟨by have := h.1; omega, h.2⟩
theorem Ris.mem : ∀ {lo : Int} {js : List Pr}, Ris lo js → ∀ p ∈ js, lo < p.1
  | _, q :: js, h, p, hp => by
    rcases List.mem_cons.mp hp with e | hp
    · rw [e]; exact h.1
    · exact Ris.mem (lo := _) (Ris.mono (by have := h.1; omega) h.2) p hp
def sumLe (js : List Pr) (s : Int) : Int := ((js.filter fun p => decide (p.1 ≤ s)).map (·.2)).sum
def shownL (js : List Pr) (t : Int) : Int := t + sumLe js t
def rdL (t : Int) : Int → Int → List Pr → Int
  | best, over, [] => if t + over > best then t + over else best
  | best, over, p :: js => if p.1 ≤ t then rdL t (if p.1 - 1 + over > best then p.1 - 1 + over else best) (over + p.2) js else rdL t best over js
def readingL (js : List Pr) (t : Int) : Int := rdL t 0 0 js
def moL (r : Int) : Int → Int → List Pr → Int
  | low, over, [] => if r - over > low then r - over else low
  | low, over, p :: js => if (if r - over > low then r - over else low) < p.1 then (if r - over > low then r - over else low) else moL r p.1 (over + p.2) js
def momL (js : List Pr) (r : Int) : Int := moL r 0 0 js
theorem sumLe_nil {s : Int} : sumLe [] s = 0 := rfl
theorem sumLe_cons {p : Pr} {js : List Pr} {s : Int} : sumLe (p :: js) s = (if p.1 ≤ s then p.2 else 0) + sumLe js s := by
  unfold sumLe
  by_cases h : p.1 ≤ s
  · rw [List.filter_cons_of_pos (by simpa using h), List.map_cons, List.sum_cons, if_pos h]
  · rw [List.filter_cons_of_neg (by simpa using h), if_neg h, Int.zero_add]
theorem sumLe_ahead : ∀ {js : List Pr} {lo s : Int}, Ris lo js → s ≤ lo → sumLe js s = 0
  | [], _, _, _, _ => rfl
  | p :: js, lo, s, h, hs => by
    rw [sumLe_cons, if_neg (by have := h.1; omega), sumLe_ahead h.2 (by have := h.1; omega)]
    rfl
theorem rd_spec (t : Int) : ∀ (js : List Pr) (lo over best : Int), Ris lo js → lo ≤ t →
    (∀ s, lo ≤ s → s ≤ t → s + over + sumLe js s ≤ rdL t best over js) ∧ best ≤ rdL t best over js ∧
    (rdL t best over js = best ∨ ∃ s, lo ≤ s ∧ s ≤ t ∧ (s = t ∨ ∃ p ∈ js, p.1 ≤ t ∧ s = p.1 - 1) ∧ s + over + sumLe js s = rdL t best over js)
  | [], lo, over, best, _, hl => by
    unfold rdL
    refine ⟨fun s h1 h2 => ?_, ?_, ?_⟩
    · rw [sumLe_nil]; split <;> omega
    · split <;> omega
    · split
      · exact .inr ⟨t, hl, Int.le_refl t, .inl rfl, by rw [sumLe_nil]; omega⟩
      · exact .inl rfl
  | p :: js, lo, over, best, hr, hl => by
    unfold rdL
    by_cases h : p.1 ≤ t
    · rw [if_pos h]
      obtain ⟨i1, i2, i3⟩ := rd_spec t js p.1 (over + p.2) (if p.1 - 1 + over > best then p.1 - 1 + over else best) hr.2 h
      have hp := hr.1
      refine ⟨fun s h1 h2 => ?_, ?_, ?_⟩
      · by_cases hs : p.1 ≤ s
        · have := i1 s hs h2
          rw [sumLe_cons, if_pos hs]
          omega
        · rw [sumLe_cons, if_neg hs, sumLe_ahead hr.2 (by omega)]
          refine Int.le_trans ?_ i2
          split <;> omega
      · refine Int.le_trans ?_ i2
        split <;> omega
      · rcases i3 with i3 | ⟨s, h1, h2, h3, h4⟩
        · by_cases hb : p.1 - 1 + over > best
          · rw [if_pos hb] at i3 ⊢
            refine .inr ⟨p.1 - 1, by omega, by omega, .inr ⟨p, .head _, h, rfl⟩, ?_⟩
            rw [sumLe_cons, if_neg (by omega), sumLe_ahead hr.2 (by omega), i3]
            omega
          · rw [if_neg hb] at i3 ⊢
            exact .inl i3
        · refine .inr ⟨s, by omega, h2, ?_, ?_⟩
          · rcases h3 with h3 | ⟨q, hq, h3⟩
            · exact .inl h3
            · exact .inr ⟨q, .tail _ hq, h3⟩
          · rw [sumLe_cons, if_pos h1, ← h4]
            omega
    · rw [if_neg h]
      obtain ⟨i1, i2, i3⟩ := rd_spec t js lo over best (Ris.mono (by have := hr.1; omega) hr.2) hl
      have e : ∀ s, s ≤ t → sumLe (p :: js) s = sumLe js s := fun s hs => by rw [sumLe_cons, if_neg (by omega), Int.zero_add]
      refine ⟨fun s h1 h2 => by rw [e s h2]; exact i1 s h1 h2, i2, ?_⟩
      rcases i3 with i3 | ⟨s, h1, h2, h3, h4⟩
      · exact .inl i3
      · refine .inr ⟨s, h1, h2, ?_, by rw [e s h2]; exact h4⟩
        rcases h3 with h3 | ⟨q, hq, h3⟩
        · exact .inl h3
        · exact .inr ⟨q, .tail _ hq, h3⟩
theorem shown_zero {js : List Pr} (h : Ris 0 js) : shownL js 0 = 0 := by
  unfold shownL
  rw [sumLe_ahead h (Int.le_refl 0)]
  rfl
theorem shown_le_reading {js : List Pr} (h : Ris 0 js) {s t : Int} (h0 : 0 ≤ s) (h1 : s ≤ t) : shownL js s ≤ readingL js t := by
  have := (rd_spec t js 0 0 0 h (by omega)).1 s h0 h1
  unfold shownL readingL
  omega
/-- the reading is what the clock showed at one of these moments -/
theorem reading_at {js : List Pr} (h : Ris 0 js) {t : Int} (h0 : 0 ≤ t) : ∃ s, 0 ≤ s ∧ s ≤ t ∧ (s = t ∨ ∃ p ∈ js, p.1 ≤ t ∧ s = p.1 - 1) ∧ shownL js s = readingL js t := by
  obtain ⟨i1, i2, i3⟩ := rd_spec t js 0 0 0 h h0
  rcases i3 with i3 | ⟨s, h1, h2, h3, h4⟩
  · -- the reading is 0: at t if there is no jump, else ahead of the first one
    cases js with
    | nil =>
      have := i1 t h0 (Int.le_refl t)
      rw [sumLe_nil] at this
      refine ⟨t, h0, Int.le_refl t, .inl rfl, ?_⟩
      unfold shownL readingL
      rw [sumLe_nil]
      omega
    | cons p js =>
      by_cases hp : p.1 ≤ t
      · have this2 := i1 (p.1 - 1) (by have := h.1; omega) (by omega)
        refine ⟨p.1 - 1, by have := h.1; omega, by omega, .inr ⟨p, .head _, hp, rfl⟩, ?_⟩
        have z : sumLe (p :: js) (p.1 - 1) = 0 := by rw [sumLe_cons, if_neg (by omega), sumLe_ahead h.2 (by omega)]; rfl
        have := h.1
        rw [z] at this2
        show p.1 - 1 + sumLe (p :: js) (p.1 - 1) = rdL t 0 0 (p :: js)
        rw [z]
        omega
      · have := i1 t h0 (Int.le_refl t)
        refine ⟨t, h0, Int.le_refl t, .inl rfl, ?_⟩
        have z : sumLe (p :: js) t = 0 := by rw [sumLe_cons, if_neg hp, sumLe_ahead h.2 (by omega)]; rfl
        rw [z] at this
        show t + sumLe (p :: js) t = rdL t 0 0 (p :: js)
        rw [z]
        omega
  · refine ⟨s, h1, h2, h3, ?_⟩
    unfold shownL readingL
    omega
theorem reading_mono {js : List Pr} (h : Ris 0 js) {s t : Int} (h0 : 0 ≤ s) (h1 : s ≤ t) : readingL js s ≤ readingL js t := by
  obtain ⟨u, u0, u1, _, e⟩ := reading_at h h0
  rw [← e]
  exact shown_le_reading h u0 (by omega)
theorem reading_zero {js : List Pr} (h : Ris 0 js) : readingL js 0 = 0 := by
  obtain ⟨u, u0, u1, _, e⟩ := reading_at h (Int.le_refl 0)
  obtain rfl : u = 0 := by omega
  rw [← e, shown_zero h]
theorem reading_next {js : List Pr} (h : Ris 0 js) {t : Int} (h0 : 1 ≤ t) : readingL js t = if shownL js t > readingL js (t - 1) then shownL js t else readingL js (t - 1) := by
  have a := reading_mono h (show 0 ≤ t - 1 by omega) (show t - 1 ≤ t by omega)
  have b := shown_le_reading h (show 0 ≤ t by omega) (Int.le_refl t)
  obtain ⟨u, u0, u1, _, e⟩ := reading_at h (show 0 ≤ t by omega)
  rcases Int.lt_or_le u t with z | z
  · have c := shown_le_reading h u0 (show u ≤ t - 1 by omega)
    split <;> omega
  · obtain rfl : u = t := by omega
    split <;> omega
theorem mo_spec (r : Int) : ∀ (js : List Pr) (lo over : Int), Ris lo js →
    lo ≤ moL r lo over js ∧ r ≤ moL r lo over js + over + sumLe js (moL r lo over js) ∧ ∀ s, lo ≤ s → s < moL r lo over js → s + over + sumLe js s < r
  | [], lo, over, _ => by
    unfold moL
    refine ⟨by split <;> omega, by rw [sumLe_nil]; split <;> omega, fun s h1 h2 => ?_⟩
    rw [sumLe_nil]
    split at h2 <;> omega
  | p :: js, lo, over, hr => by
    unfold moL
    have hp := hr.1
    by_cases h : (if r - over > lo then r - over else lo) < p.1
    · rw [if_pos h]
      have z : ∀ s, s < p.1 → sumLe (p :: js) s = 0 := fun s hs => by rw [sumLe_cons, if_neg (by omega), sumLe_ahead hr.2 (by omega)]; rfl
      refine ⟨by split <;> omega, ?_, fun s h1 h2 => ?_⟩
      · rw [z _ h]; split <;> omega
      · rw [z s (by omega)]
        split at h2 <;> omega
    · rw [if_neg h]
      obtain ⟨i1, i2, i3⟩ := mo_spec r js p.1 (over + p.2) hr.2
      refine ⟨by omega, ?_, fun s h1 h2 => ?_⟩
      · rw [sumLe_cons, if_pos i1]; omega
      · by_cases hs : p.1 ≤ s
        · have := i3 s hs h2
          rw [sumLe_cons, if_pos hs]
          omega
        · rw [sumLe_cons, if_neg hs, sumLe_ahead hr.2 (by omega)]
          split at h <;> omega
theorem mom_ge {js : List Pr} (h : Ris 0 js) {r : Int} : 0 ≤ momL js r := (mo_spec r js 0 0 h).1
theorem mom_shown {js : List Pr} (h : Ris 0 js) {r : Int} : r ≤ shownL js (momL js r) := by
  have := (mo_spec r js 0 0 h).2.1
  unfold shownL momL
  omega
theorem mom_first {js : List Pr} (h : Ris 0 js) {r s : Int} (h0 : 0 ≤ s) (h1 : s < momL js r) : shownL js s < r := by
  have := (mo_spec r js 0 0 h).2.2 s h0 h1
  unfold shownL
  omega
theorem mom_reading {js : List Pr} (h : Ris 0 js) {r : Int} : r ≤ readingL js (momL js r) := Int.le_trans (mom_shown h) (shown_le_reading h (mom_ge h) (Int.le_refl _))
theorem mom_before {js : List Pr} (h : Ris 0 js) {r s : Int} (h0 : 0 ≤ s) (h1 : s < momL js r) : readingL js s < r := by
  obtain ⟨u, u0, u1, _, e⟩ := reading_at h h0
  rw [← e]
  exact mom_first h u0 (by omega)
/-- no later than any moment with that reading -/
theorem mom_le {js : List Pr} (h : Ris 0 js) {r t : Int} (h0 : 0 ≤ t) (hr : r ≤ readingL js t) : momL js r ≤ t := by
  rcases Int.lt_or_le t (momL js r) with z | z
  · have := mom_before h h0 z
    omega
  · exact z
def JOk (js : List Pr) : Prop := Ris 0 js ∧ js.length ≤ 8 ∧ ∀ p ∈ js, p.1 < big ∧ p.2 ≠ 0 ∧ -1440 ≤ p.2 ∧ p.2 ≤ 1440

/-! ### promises -/
def S_shown : SpD := fun as Q _ => ∃ (js : List Pr) (t : Int), as = [.v (psD js), .v (.int t)] ∧ js.length ≤ 100 ∧ Q (.v (.int (shownL js t))) as
def S_reading : SpD := fun as Q _ => ∃ (js : List Pr) (t : Int), as = [.v (psD js), .v (.int t)] ∧ js.length ≤ 100 ∧ Q (.v (.int (readingL js t))) as
def S_moment_of : SpD := fun as Q _ => ∃ (js : List Pr) (t : Int), as = [.v (psD js), .v (.int t)] ∧ js.length ≤ 100 ∧ Q (.v (.int (momL js t))) as
theorem len_shown : ∀ as QD ED, S_shown as QD ED → as.length = 2 := by
  rintro as QD ED ⟨_, _, rfl, _⟩
  rfl
theorem len_reading : ∀ as QD ED, S_reading as QD ED → as.length = 2 := by
  rintro as QD ED ⟨_, _, rfl, _⟩
  rfl
theorem len_moment_of : ∀ as QD ED, S_moment_of as QD ED → as.length = 2 := by
  rintro as QD ED ⟨_, _, rfl, _⟩
  rfl
end CFCl

set_option Elab.async false
set_option linter.all false
set_option maxRecDepth 100000
set_option maxHeartbeats 4000000
/-! CFRu: the runs of the clock: promises and their mathematics -/
namespace CFRu
open PySem PySem.Spec PyProof.Rows L2 DL CFH CFCl
abbrev Rn := Int × Int × Int
@[reducible] def rnD (r : Rn) : D := .tuple [.int r.1, .int r.2.1, .int r.2.2]
@[reducible] def optD : Option Int → D
  | none => .none
  | some z => .int z
/-- below an end, if there is one -/
def Below (t : Int) : Option Int → Prop
  | none => True
  | some z => t < z
instance {t : Int} : ∀ e, Decidable (Below t e)
  | none => isTrue trivial
  | some z => inferInstanceAs (Decidable (t < z))
theorem Below.mono {s t : Int} : ∀ {e : Option Int}, s ≤ t → Below t e → Below s e
  | none, _, _ => trivial
  | some z, h, h' => Int.lt_of_le_of_lt h h'
def behW (last : Rn) (a over before : Int) (e : Option Int) : List Rn :=
  if before + 1 - over ≤ a then (if last.2.2 = 1 ∧ before + 1 - over = a then [] else [(a, a + over, 1)])
  else (if last.2.2 = 1 then [(a, before, 0)] else []) ++ (if Below (before + 1 - over) e then [(before + 1 - over, before + 1, 1)] else [])
def behL (last : Rn) (a over : Int) (e : Option Int) : List Rn := behW last a over (last.2.1 + last.2.2 * (a - 1 - last.1)) e
def lastOf (r : Rn) : List Rn → Rn
  | [] => r
  | x :: l => lastOf x l
def hdO : List Pr → Option Int
  | [] => none
  | p :: _ => some p.1
def rnG (over : Int) (last : Rn) : List Pr → List Rn
  | [] => []
  | p :: js => behL last p.1 (over + p.2) (hdO js) ++ rnG (over + p.2) (lastOf last (behL last p.1 (over + p.2) (hdO js))) js
def runsL (js : List Pr) : List Rn := (0, 0, 1) :: rnG 0 (0, 0, 1) js
/-! what is true of them -/
def St (R : Int → Int) (t : Int) : Prop := 0 < t ∧ R t = R (t - 1)
def Beg (R : Int → Int) (t : Int) : Prop := t = 0 ∨ ¬ (St R t ↔ St R (t - 1)) ∨ R t > R (t - 1) + 1
structure Seg (R : Int → Int) (r : Rn) (e : Option Int) : Prop where
  lt : Below r.1 e
  ge : 0 ≤ r.1
  st : r.2.2 = 0 ∨ r.2.2 = 1
  bg : Beg R r.1
  at_ : ∀ t, r.1 ≤ t → Below t e → R t = r.2.1 + r.2.2 * (t - r.1) ∧ (St R t ↔ r.2.2 = 0)
def Chain (R : Int → Int) : Rn → List Rn → Prop
  | r, [] => Seg R r none
  | r, r' :: l => Seg R r (some r'.1) ∧ Chain R r' l
/-- from a on, to the end, the reading is the greater of what was read ahead and of what is shown -/
theorem region {R : Int → Int} {a over : Int} {e : Option Int} (h : ∀ t, a ≤ t → Below t e → R t = if t + over > R (t - 1) then t + over else R (t - 1)) :
    ∀ (n : Nat), Below (a + n) e → R (a + n) = if a + n + over > R (a - 1) then a + n + over else R (a - 1)
  | 0, b => by
    have := h a (Int.le_refl _) (by simpa using b)
    simpa using this
  | n + 1, b => by
    have ih := region h n (Below.mono (by omega) b)
    have := h (a + (n + 1 : Nat)) (by omega) b
    rw [show a + ((n + 1 : Nat) : Int) - 1 = a + n by omega, ih] at this
    rw [this]
    (repeat' split) <;> omega
theorem region' {R : Int → Int} {a over : Int} {e : Option Int} (h : ∀ t, a ≤ t → Below t e → R t = if t + over > R (t - 1) then t + over else R (t - 1)) (t : Int) (ht : a ≤ t) (b : Below t e) : R t = if t + over > R (a - 1) then t + over else R (a - 1) := by
  have := region h (t - a).toNat (by rw [show a + ((t - a).toNat : Int) = t by omega]; exact b)
  rw [show a + ((t - a).toNat : Int) = t by omega] at this
  exact this
/-- one jump: the runs behind it, to the next one -/
theorem step {R : Int → Int} {last : Rn} {a over : Int} {e : Option Int} {rest : Rn → List Rn} (hs : Seg R last (some a)) (he : Below a e)
    (h : ∀ t, a ≤ t → Below t e → R t = if t + over > R (t - 1) then t + over else R (t - 1))
    (k : ∀ r, Seg R r e → Chain R r (rest r)) : Chain R last (behL last a over e ++ rest (lastOf last (behL last a over e))) := by
  have hc := region' h
  obtain ⟨lt, ge, st, bg, at_⟩ := hs
  obtain ⟨b, v, s⟩ := last
  simp only at lt ge st bg at_
  have lt : b < a := lt
  obtain ⟨e1, e2⟩ := at_ (a - 1) (by omega) (by show a - 1 < a; omega)
  have at0 : ∀ t, b ≤ t → t < a → R t = v + s * (t - b) ∧ (St R t ↔ s = 0) := fun t h1 h2 => at_ t h1 h2
  have hs : Seg R (b, v, s) (some a) := ⟨lt, ge, st, bg, at_⟩
  clear at_
  unfold behL
  simp only
  rw [← e1]
  generalize hB : R (a - 1) = B at *
  unfold behW
  simp only
  by_cases c1 : B + 1 - over ≤ a
  · rw [if_pos c1]
    by_cases c2 : s = 1 ∧ B + 1 - over = a
    · rw [if_pos c2]
      refine k (b, v, s) ⟨Below.mono (by omega) he, ge, st, bg, fun t h1 h2 => ?_⟩
      obtain ⟨rfl, c2⟩ := c2
      by_cases z : t < a
      · exact at0 t h1 z
      · have r1 := hc t (by omega) h2
        rw [if_pos (by omega)] at r1
        refine ⟨by show R t = v + 1 * (t - b); omega, fun q => ?_, fun q => by simp only at q; omega⟩
        have q2 := q.2
        by_cases z2 : t = a
        · subst z2; omega
        · have r2 := hc (t - 1) (by omega) (Below.mono (by omega) h2)
          rw [if_pos (by omega)] at r2
          omega
    · rw [if_neg c2]
      refine ⟨hs, k (a, a + over, 1) ⟨he, by show 0 ≤ a; omega, .inr rfl, ?_, fun t h1 h2 => ?_⟩⟩
      · have r1 := hc a (Int.le_refl _) he
        rw [if_pos (by omega)] at r1
        show Beg R a
        rcases st with rfl | rfl
        · refine .inr (.inl fun q => ?_)
          have := (q.mpr (e2.mpr rfl)).2
          omega
        · refine .inr (.inr ?_)
          have : B + 1 - over ≠ a := fun z => c2 ⟨rfl, z⟩
          omega
      · have h1 : a ≤ t := h1
        have r1 := hc t h1 h2
        rw [if_pos (by omega)] at r1
        refine ⟨by show R t = a + over + 1 * (t - a); omega, fun q => ?_, fun q => by simp only at q; omega⟩
        have q2 := q.2
        by_cases z2 : t = a
        · subst z2; omega
        · have r2 := hc (t - 1) (by omega) (Below.mono (by omega) h2)
          rw [if_pos (by omega)] at r2
          omega
  · rw [if_neg c1]
    have low : ∀ t, a - 1 ≤ t → t < B + 1 - over → Below t e → R t = B := fun t h1 h2 h3 => by
      by_cases z : t = a - 1
      · rw [z, hB]
      · have := hc t (by omega) h3
        rw [if_neg (by omega)] at this
        exact this
    have std : ∀ t, a ≤ t → t < B + 1 - over → Below t e → St R t := fun t h1 h2 h3 => ⟨by omega, by rw [low t (by omega) h2 h3, low (t - 1) (by omega) (by omega) (Below.mono (by omega) h3)]⟩
    have up : Below (B + 1 - over) e → Seg R (B + 1 - over, B + 1, 1) e := fun hb => by
      have r0 := hc (B + 1 - over) (by omega) hb
      rw [if_pos (by omega)] at r0
      have r1 := low (B + 1 - over - 1) (by omega) (by omega) (Below.mono (by omega) hb)
      refine ⟨hb, by show 0 ≤ B + 1 - over; omega, .inr rfl, .inr (.inl fun q => ?_), fun t h1 h2 => ?_⟩
      · have := (q.mpr (std (B + 1 - over - 1) (by omega) (by omega) (Below.mono (by omega) hb))).2
        simp only at this
        omega
      · have h1 : B + 1 - over ≤ t := h1
        have r2 := hc t (by omega) h2
        rw [if_pos (by omega)] at r2
        refine ⟨by show R t = B + 1 + 1 * (t - (B + 1 - over)); omega, fun q => ?_, fun q => by simp only at q; omega⟩
        have q2 := q.2
        by_cases z2 : t = B + 1 - over
        · subst z2; omega
        · have r3 := hc (t - 1) (by omega) (Below.mono (by omega) h2)
          rw [if_pos (by omega)] at r3
          omega
    by_cases c2 : s = 1
    · subst c2
      rw [if_pos rfl]
      have mid : ∀ e' : Option Int, Below a e' → (∀ t, Below t e' → Below t e) → (∀ t, a ≤ t → Below t e' → t < B + 1 - over) → Seg R (a, B, 0) e' := fun e' h1 h2 h3 => by
        refine ⟨h1, by show 0 ≤ a; omega, .inl rfl, .inr (.inl fun q => ?_), fun t g1 g2 => ?_⟩
        · have := e2.mp (q.mp (std a (Int.le_refl _) (by omega) he))
          omega
        · have g1 : a ≤ t := g1
          refine ⟨?_, fun _ => rfl, fun _ => std t g1 (h3 t g1 g2) (h2 t g2)⟩
          rw [low t (by omega) (h3 t g1 g2) (h2 t g2)]
          show B = B + 0 * _
          omega
      by_cases c3 : Below (B + 1 - over) e
      · rw [if_pos c3]
        exact ⟨hs, mid (some (B + 1 - over)) (by show a < _; omega) (fun t g => Below.mono (Int.le_of_lt g) c3) (fun t _ g => g), k _ (up c3)⟩
      · rw [if_neg c3]
        refine ⟨hs, k _ (mid e he (fun _ g => g) fun t _ g => ?_)⟩
        rcases Int.lt_or_le t (B + 1 - over) with z | z
        · exact z
        · exact (c3 (Below.mono z g)).elim
    · rw [if_neg c2]
      have c0 : s = 0 := st.resolve_right c2
      subst c0
      have ext : ∀ e' : Option Int, Below b e' → (∀ t, Below t e' → Below t e) → (∀ t, a ≤ t → Below t e' → t < B + 1 - over) → Seg R (b, v, 0) e' := fun e' h1 h2 h3 => by
        refine ⟨h1, ge, .inl rfl, bg, fun t g1 g2 => ?_⟩
        by_cases z : t < a
        · exact at0 t g1 z
        · refine ⟨?_, fun _ => rfl, fun _ => std t (by omega) (h3 t (by omega) g2) (h2 t g2)⟩
          rw [low t (by omega) (h3 t (by omega) g2) (h2 t g2)]
          show B = v + 0 * _
          omega
      by_cases c3 : Below (B + 1 - over) e
      · rw [if_pos c3]
        exact ⟨ext (some (B + 1 - over)) (by show b < _; omega) (fun t g => Below.mono (Int.le_of_lt g) c3) (fun t _ g => g), k _ (up c3)⟩
      · rw [if_neg c3]
        refine k _ (ext e (Below.mono (by omega) he) (fun _ g => g) fun t _ g => ?_)
        rcases Int.lt_or_le t (B + 1 - over) with z | z
        · exact z
        · exact (c3 (Below.mono z g)).elim
/-- what each jump does to the readings behind it -/
def Sh (R : Int → Int) : Int → List Pr → Prop
  | _, [] => True
  | over, p :: js => (∀ t, p.1 ≤ t → Below t (hdO js) → R t = if t + (over + p.2) > R (t - 1) then t + (over + p.2) else R (t - 1)) ∧ Sh R (over + p.2) js
theorem chain {R : Int → Int} : ∀ (js : List Pr) (over : Int) (last : Rn) (lo : Int), Ris lo js → Seg R last (hdO js) → Sh R over js → Chain R last (rnG over last js)
  | [], _, _, _, _, hs, _ => hs
  | p :: js, over, last, lo, hr, hs, hh => by
    have he : Below p.1 (hdO js) := by
      cases js with
      | nil => trivial
      | cons q js => exact hr.2.1
    exact step (rest := fun r => rnG (over + p.2) r js) hs he hh.1 fun r hr' => chain js (over + p.2) r p.1 hr.2 hr' hh.2
theorem sumLe_app {xs ys : List Pr} {t : Int} : sumLe (xs ++ ys) t = sumLe xs t + sumLe ys t := by
  unfold sumLe
  rw [List.filter_append, List.map_append, List.sum_append]
theorem ris_split : ∀ {lo : Int} {pre js : List Pr} {p : Pr}, Ris lo (pre ++ p :: js) → (∀ q ∈ pre, q.1 < p.1) ∧ Ris p.1 js ∧ lo < p.1
  | _, [], _, _, h => ⟨fun _ hq => (List.not_mem_nil hq).elim, h.2, h.1⟩
  | lo, q :: pre, js, p, h => by
    have ih := ris_split (pre := pre) h.2
    refine ⟨fun r hr => ?_, ih.2.1, by have := h.1; have := ih.2.2; omega⟩
    rcases List.mem_cons.mp hr with e | hr
    · rw [e]; exact ih.2.2
    · exact ih.1 r hr
theorem sumLe_all {t : Int} : ∀ {xs : List Pr}, (∀ p ∈ xs, p.1 ≤ t) → sumLe xs t = (xs.map (·.2)).sum
  | [], _ => rfl
  | p :: xs, h => by
    rw [sumLe_cons, if_pos (h p (.head _)), sumLe_all fun q hq => h q (.tail _ hq), List.map_cons, List.sum_cons]
theorem sumLe_behind {t lo : Int} : ∀ {js : List Pr}, Ris lo js → Below t (hdO js) → sumLe js t = 0
  | [], _, _ => rfl
  | q :: js, h, b => by
    have b : t < q.1 := b
    exact sumLe_ahead (lo := q.1 - 1) ⟨by omega, h.2⟩ (by omega)
theorem sh_reading {J : List Pr} (h : Ris 0 J) : ∀ (js pre : List Pr), J = pre ++ js → Sh (readingL J) (pre.map (·.2)).sum js
  | [], _, _ => trivial
  | p :: js, pre, e => by
    obtain ⟨h1, h2, h3⟩ := ris_split (e ▸ h)
    refine ⟨fun t ht b => ?_, ?_⟩
    · have s : shownL J t = t + ((pre.map (·.2)).sum + p.2) := by
        unfold shownL
        rw [e, sumLe_app, sumLe_cons, if_pos ht, sumLe_behind h2 b, sumLe_all fun q hq => by have := h1 q hq; omega, Int.add_zero]
      rw [← s]
      exact reading_next h (by omega)
    · have := sh_reading h js (pre ++ [p]) (by rw [e, List.append_assoc]; rfl)
      rw [List.map_append, List.sum_append] at this
      simpa using this
theorem runs_ok {J : List Pr} (h : Ris 0 J) : Chain (readingL J) (0, 0, 1) (rnG 0 (0, 0, 1) J) := by
  have s1 : ∀ t, 1 ≤ t → Below t (hdO J) → readingL J t = if t + 0 > readingL J (t - 1) then t + 0 else readingL J (t - 1) := fun t ht b => by
    have s : shownL J t = t + 0 := by unfold shownL; rw [sumLe_behind h b]
    rw [← s]
    exact reading_next h ht
  have z0 := reading_zero h
  have s2 : ∀ t, 0 ≤ t → Below t (hdO J) → readingL J t = t := fun t ht b => by
    by_cases z : t = 0
    · rw [z, z0]
    · have := region' s1 t (by omega) b
      rw [show (1 : Int) - 1 = 0 by rfl, z0, if_pos (by omega)] at this
      omega
  refine chain J 0 (0, 0, 1) 0 h ⟨?_, Int.le_refl _, .inr rfl, .inl rfl, fun t h1 h2 => ?_⟩ ?_
  · cases J with
    | nil => trivial
    | cons p js => exact h.1
  · have h1 : 0 ≤ t := h1
    have r1 := s2 t h1 h2
    refine ⟨by show readingL J t = 0 + 1 * (t - 0); omega, fun q => ?_, fun q => by simp only at q; omega⟩
    have q1 := q.1
    have q2 := q.2
    rw [r1, s2 (t - 1) (by omega) (Below.mono (by omega) h2)] at q2
    omega
  · exact sh_reading h J [] rfl
theorem behL_len {last : Rn} {a over : Int} {e : Option Int} : (behL last a over e).length ≤ 2 := by
  unfold behL behW
  (repeat' split) <;> simp
theorem behL_st {last : Rn} {a over : Int} {e : Option Int} : ∀ r ∈ behL last a over e, r.2.2 = 0 ∨ r.2.2 = 1 := by
  unfold behL behW
  intro r hr
  split at hr
  · split at hr
    · cases hr
    · rw [List.mem_singleton.mp hr]; exact .inr rfl
  · rcases List.mem_append.mp hr with z | z
    · split at z
      · rw [List.mem_singleton.mp z]; exact .inl rfl
      · cases z
    · split at z
      · rw [List.mem_singleton.mp z]; exact .inr rfl
      · cases z
/-- all but the last one, and the last one -/
theorem lastOf_split : ∀ (r : Rn) (l : List Rn), ∃ pre, r :: l = pre ++ [lastOf r l] ∧ pre.length = l.length
  | r, [] => ⟨[], rfl, rfl⟩
  | r, x :: l => by
    obtain ⟨pre, e, h⟩ := lastOf_split x l
    exact ⟨r :: pre, by show r :: x :: l = r :: (pre ++ [lastOf x l]); rw [e], by rw [List.length_cons, List.length_cons, h]⟩
theorem lastOf_mem : ∀ (r : Rn) (l : List Rn), lastOf r l = r ∨ lastOf r l ∈ l
  | r, [] => .inl rfl
  | r, x :: l => by
    rcases lastOf_mem x l with h | h
    · exact .inr (by show lastOf x l ∈ _; rw [h]; exact .head _)
    · exact .inr (.tail _ h)
/-! ### promises -/
def S_runs_behind : SpD := fun as Q _ => ∃ (pre : List Rn) (last : Rn) (a over : Int) (e : Option Int), as = [.v (.list (pre.map rnD ++ [rnD last])), .v (.int a), .v (.int over), .v (optD e)] ∧ pre.length ≤ 300 ∧ (last.2.2 = 0 ∨ last.2.2 = 1) ∧ Q (.own 0 (.lst ((behL last a over e).map rnD))) as
def S_runs : SpD := fun as Q _ => ∃ (js : List Pr), as = [.v (psD js)] ∧ js.length ≤ 100 ∧ Q (.v (.tuple ((runsL js).map rnD))) as
theorem len_runs_behind : ∀ as QD ED, S_runs_behind as QD ED → as.length = 4 := by
  rintro as QD ED ⟨_, _, _, _, _, rfl, _⟩
  rfl
theorem len_runs : ∀ as QD ED, S_runs as QD ED → as.length = 1 := by
  rintro as QD ED ⟨_, rfl, _⟩
  rfl
end CFRu

set_option Elab.async false
set_option linter.all false
set_option maxRecDepth 100000
set_option maxHeartbeats 4000000
/-! CFCh: the laws' helpers about the clock -/
namespace CFCh
open PySem PySem.Spec PyProof.Rows L2 DL CFH CFCl
theorem Ris_snoc : ∀ {lo : Int} {js : List Pr} {p : Pr}, Ris lo js → (∀ q ∈ js, q.1 < p.1) → lo < p.1 → Ris lo (js ++ [p])
  | _, [], _, _, _, h => ⟨h, trivial⟩
  | _, q :: js, p, h, h', _ => ⟨h.1, Ris_snoc h.2 (fun r hr => h' r (.tail _ hr)) (h' q (.head _))⟩
theorem pow60 : (10 : Int) ^ Int.toNat 60 = big := by decide
theorem lf_js {js : List Pr} : lfree (.tuple (js.map cplD)) = true := lfree_tup fun d hd => by
  obtain ⟨p, _, rfl⟩ := List.mem_map.mp hd
  rfl
def S_law_moment : SpD := fun as Q _ => ∃ (h : Hd) (n : Nat), as = [hc h] ∧ h.ok n ∧ n ≤ 800000 ∧ ∀ (h' : Hd) (x : Int), h'.ok (n + 5) → 0 ≤ x → x < big → Q (.v (.int x)) [hc h']
def S_law_jumps : SpD := fun as Q _ => ∃ (h : Hd) (n : Nat), as = [hc h] ∧ h.ok n ∧ n ≤ 700000 ∧ ∀ (h' : Hd) (js : List Pr), h'.ok (n + 200) → JOk js → Q (.v (psD js)) [hc h']
abbrev S_law_shown : SpD := S_shown
def S_law_reading : SpD := fun as Q _ => ∃ (js : List Pr) (t : Int), as = [.v (psD js), .v (.int t)] ∧ Ris 0 js ∧ js.length ≤ 100 ∧ 0 ≤ t ∧ Q (.v (.int (readingL js t))) as
def S_law_near : SpD := fun as Q _ => ∃ js : List Pr, as = [.v (psD js)] ∧ Ris 0 js ∧ js.length ≤ 8 ∧ ∀ ns : List Int, 0 < ns.length ∧ ns.length ≤ 100 → (∀ x ∈ ns, 0 ≤ x) → 0 ∈ ns → Q (.own 0 (.lst (ns.map PyData.int))) as
theorem moment_i {h : Hd} {n : Nat} {Q E} (o : h.ok n) (hn : n ≤ 800000) (q : ∀ (h' : Hd) (x : Int), h'.ok (n + 5) → 0 ≤ x → x < big → Q (.v (.int x)) [hc h']) : S_law_moment [hc h] Q E := ⟨h, n, rfl, o, hn, q⟩
theorem len_law_moment : ∀ as QD ED, S_law_moment as QD ED → as.length = 1 := by
  rintro as QD ED ⟨_, _, rfl, _⟩
  rfl
theorem len_law_jumps : ∀ as QD ED, S_law_jumps as QD ED → as.length = 1 := by
  rintro as QD ED ⟨_, _, rfl, _⟩
  rfl
theorem len_law_shown : ∀ as QD ED, S_law_shown as QD ED → as.length = 2 := len_shown
theorem len_law_reading : ∀ as QD ED, S_law_reading as QD ED → as.length = 2 := by
  rintro as QD ED ⟨_, _, rfl, _⟩
  rfl
theorem len_law_near : ∀ as QD ED, S_law_near as QD ED → as.length = 1 := by
  rintro as QD ED ⟨_, rfl, _⟩
  rfl
end CFCh

set_option Elab.async false
set_option linter.all false
set_option maxRecDepth 100000
set_option maxHeartbeats 4000000
/-! CFBk: turns, layers, changes, books as data -/
namespace CFBk
open PySem PySem.Spec PyProof.Rows L2 DL CFH CFCl CFRu CFWd
abbrev Trn := Int × Int × Str
@[reducible] def trnD (t : Trn) : D := .tuple [.int t.1, .int t.2.1, .str t.2.2]
@[reducible] def trnsD (ts : List Trn) : D := .tuple (ts.map trnD)
structure Lyr where
  word : Str
  start : Int
  days : Int
  turns : List Trn
@[reducible] def lyrD (l : Lyr) : D := .tuple [.str l.word, .int l.start, .int l.days, trnsD l.turns]
@[reducible] def lyrsD (ls : List Lyr) : D := .tuple (ls.map lyrD)
/-- turns from lo on, to most -/
def TrnsOk (most : Int) : Int → List Trn → Prop
  | _, [] => True
  | lo, t :: ts => lo ≤ t.1 ∧ t.1 < t.2.1 ∧ t.2.1 ≤ most ∧ WordOk t.2.2 ∧ TrnsOk most t.2.1 ts
structure LyrOk (l : Lyr) : Prop where
  wd : WordOk l.word
  d1 : 1 ≤ l.days
  d60 : l.days ≤ 60
  s0 : 0 ≤ l.start
  s1 : l.start < 1440 * l.days
  n12 : l.turns.length ≤ 12
  ts : TrnsOk (1440 * l.days) 0 l.turns
theorem lf_trns {ts : List Trn} : lfree (trnsD ts) = true := lfree_tup fun d hd => by
  obtain ⟨x, _, rfl⟩ := List.mem_map.mp hd
  rfl
theorem lf_lyr0 {l : Lyr} : lfree (lyrD l) = true := lfree_tup fun d hd => by
  simp only [List.mem_cons, List.not_mem_nil, or_false] at hd
  rcases hd with rfl | rfl | rfl | rfl
  · rfl
  · rfl
  · rfl
  · exact lf_trns
theorem lf_lyr {l : Lyr} : C.lf (.v (lyrD l)) = true := lf_lyr0
theorem lf_lyrs {ls : List Lyr} : lfree (lyrsD ls) = true := lfree_tup fun d hd => by
  obtain ⟨x, _, rfl⟩ := List.mem_map.mp hd
  exact lf_lyr0
inductive Chg where
  | away (h : Str) (b : Int) (e : Option Int)
  | on (h : Str) (b : Int) (e : Option Int)
  | stand (h o : Str) (b : Int) (e : Option Int)
def Chg.b : Chg → Int
  | away _ b _ => b
  | on _ b _ => b
  | stand _ _ b _ => b
def Chg.e : Chg → Option Int
  | away _ _ e => e
  | on _ _ e => e
  | stand _ _ _ e => e
def Chg.h : Chg → Str
  | away h _ _ => h
  | on h _ _ => h
  | stand h _ _ _ => h
def Chg.kind : Chg → Str
  | away _ _ _ => "away"
  | on _ _ _ => "on"
  | stand _ _ _ _ => "for"
def chgL : Chg → List D
  | .away h b e => [.str "away", .str h, .int b, optD e]
  | .on h b e => [.str "on", .str h, .int b, optD e]
  | .stand h o b e => [.str "for", .str h, .str o, .int b, optD e]
@[reducible] def chgD (c : Chg) : D := .tuple (chgL c)
@[reducible] def chgsD (cs : List Chg) : D := .tuple (cs.map chgD)
theorem lf_chg0 {c : Chg} : lfree (chgD c) = true := by
  cases c <;> (rename_i e; cases e <;> rfl)
theorem lf_chg {c : Chg} : C.lf (.v (chgD c)) = true := lf_chg0
theorem lf_chgs {cs : List Chg} : lfree (chgsD cs) = true := lfree_tup fun d hd => by
  obtain ⟨x, _, rfl⟩ := List.mem_map.mp hd
  exact lf_chg0
theorem chg_m1 {c : Chg} : atI (chgL c) (-1) = some (optD c.e) := by cases c <;> rfl
theorem chg_m2 {c : Chg} : atI (chgL c) (-2) = some (.int c.b) := by cases c <;> rfl
theorem chg_0 {c : Chg} : atI (chgL c) 0 = some (.str c.kind) := by cases c <;> rfl
theorem chg_1 {c : Chg} : atI (chgL c) 1 = some (.str c.h) := by cases c <;> rfl
def Chg.Hands (c : Chg) (p : Str → Prop) : Prop := match c with
  | away h _ _ => p h
  | on h _ _ => p h
  | stand h o _ _ => p h ∧ p o ∧ h ≠ o
structure ChgOk (c : Chg) : Prop where
  hs : c.Hands WordOk
  b0 : 0 ≤ c.b
  b1 : c.b < big
  e1 : ∀ e, c.e = some e → c.b < e ∧ e < big
structure Bk where
  js : List Pr
  ls : List Lyr
  cs : List Chg
@[reducible] def bkD (b : Bk) : D := .tuple [psD b.js, lyrsD b.ls, chgsD b.cs]
structure BkOk (b : Bk) : Prop where
  js : JOk b.js
  l4 : b.ls.length ≤ 4
  ls : ∀ l ∈ b.ls, LyrOk l
  wd : (b.ls.map (·.word)).Nodup
  c24 : b.cs.length ≤ 24
  cs : ∀ c ∈ b.cs, ChgOk c
end CFBk

set_option Elab.async false
set_option linter.all false
set_option maxRecDepth 100000
set_option maxHeartbeats 4000000
/-! CFCg: a drawn change -/
namespace CFCg
open PySem PySem.Spec PyProof.Rows L2 DL CFH CFCl CFRu CFWd CFBk
abbrev wsD (ws : List Str) : D := .list (ws.map PyData.str)
def S_law_change : SpD := fun as Q _ => ∃ (h : Hd) (n : Nat) (ws : List Str) (low : Int), as = [hc h, .v (wsD ws), .v (.int low)] ∧ h.ok n ∧ n ≤ 700000 ∧ WsOk ws ∧ 0 < ws.length ∧ ws.length ≤ 1000 ∧ 0 ≤ low ∧
  ∀ (h' : Hd) (c : Chg), h'.ok (n + 30) → ChgOk c → c.Hands (· ∈ ws) → Q (.v (chgD c)) [hc h', .v (wsD ws), .v (.int low)]
theorem len_law_change : ∀ as QD ED, S_law_change as QD ED → as.length = 3 := by
  rintro as QD ED ⟨_, _, _, _, rfl, _⟩
  rfl
end CFCg

set_option Elab.async false
set_option linter.all false
set_option maxRecDepth 100000
set_option maxHeartbeats 4000000
/-! CFLy: a drawn layer -/
namespace CFLy
open PySem PySem.Spec PyProof.Rows L2 DL CFH CFCl CFRu CFWd CFBk CFCg
def S_law_minute : SpD := fun as Q _ => ∃ (h : Hd) (n : Nat) (m : Int), as = [hc h, .v (.int m)] ∧ h.ok n ∧ n ≤ 800000 ∧ 1 ≤ m ∧ m ≤ 1000 ∧ ∀ (h' : Hd) (x : Int), h'.ok (n + 4) → 0 ≤ x → x ≤ 1440 * m → Q (.v (.int x)) [hc h', .v (.int m)]
/-- a layer of any number of turns -/
structure LyrW (l : Lyr) : Prop where
  wd : WordOk l.word
  d1 : 1 ≤ l.days
  d60 : l.days ≤ 60
  s0 : 0 ≤ l.start
  s1 : l.start < 1440 * l.days
  ts : TrnsOk (1440 * l.days) 0 l.turns
def S_law_layer : SpD := fun as Q _ => ∃ (h : Hd) (n : Nat) (wd : Str) (ws : List Str) (days most : Int), as = [hc h, .v (.str wd), .v (wsD ws), .v (.int days), .v (.int most)] ∧ h.ok n ∧ n ≤ 600000 ∧ WordOk wd ∧ 0 < ws.length ∧ ws.length ≤ 1000 ∧ (∀ w ∈ ws, WordOk w) ∧ 1 ≤ days ∧ days ≤ 60 ∧ 0 ≤ most ∧ most ≤ 15 ∧
  ∀ (h' : Hd) (l : Lyr), h'.ok (n + 200) → LyrW l → l.word = wd → l.days = days → (∀ t ∈ l.turns, t.2.2 ∈ ws) → ((l.turns.length : Int) ≤ most ∨ l.turns.length ≤ 1) → Q (.v (lyrD l)) [hc h', .v (.str wd), .v (wsD ws), .v (.int days), .v (.int most)]
theorem minute_i {h : Hd} {n : Nat} {m : Int} {Q E} (o : h.ok n) (hn : n ≤ 800000) (m1 : 1 ≤ m) (m2 : m ≤ 1000) (q : ∀ (h' : Hd) (x : Int), h'.ok (n + 4) → 0 ≤ x → x ≤ 1440 * m → Q (.v (.int x)) [hc h', .v (.int m)]) : S_law_minute [hc h, .v (.int m)] Q E := ⟨h, n, m, rfl, o, hn, m1, m2, q⟩
theorem layer_i {h : Hd} {n : Nat} {wd : Str} {ws : List Str} {days most : Int} {Q E} (o : h.ok n) (hn : n ≤ 600000) (hw : WordOk wd) (w0 : 0 < ws.length) (w1 : ws.length ≤ 1000) (hws : ∀ w ∈ ws, WordOk w) (d1 : 1 ≤ days) (d2 : days ≤ 60) (m0 : 0 ≤ most) (m1 : most ≤ 12)
  (q : ∀ (h' : Hd) (l : Lyr), h'.ok (n + 200) → LyrOk l → l.word = wd → l.days = days → (∀ t ∈ l.turns, t.2.2 ∈ ws) → ((l.turns.length : Int) ≤ most ∨ l.turns.length ≤ 1) → Q (.v (lyrD l)) [hc h', .v (.str wd), .v (wsD ws), .v (.int days), .v (.int most)]) : S_law_layer [hc h, .v (.str wd), .v (wsD ws), .v (.int days), .v (.int most)] Q E := ⟨h, n, wd, ws, days, most, rfl, o, hn, hw, w0, w1, hws, d1, d2, m0, by omega, fun h' l o' w e1 e2 hm hl => q h' l o' ⟨w.wd, w.d1, w.d60, w.s0, w.s1, by omega, w.ts⟩ e1 e2 hm hl⟩
theorem len_law_minute : ∀ as QD ED, S_law_minute as QD ED → as.length = 2 := by
  rintro as QD ED ⟨_, _, _, rfl, _⟩
  rfl
theorem len_law_layer : ∀ as QD ED, S_law_layer as QD ED → as.length = 5 := by
  rintro as QD ED ⟨_, _, _, _, _, _, rfl, _⟩
  rfl
theorem trns_app {most : Int} : ∀ {lo : Int} {ts : List Trn} {t : Trn}, TrnsOk most lo ts → (∀ u ∈ ts, u.2.1 ≤ t.1) → lo ≤ t.1 → t.1 < t.2.1 → t.2.1 ≤ most → WordOk t.2.2 → TrnsOk most lo (ts ++ [t])
  | _, [], _, _, _, h1, h2, h3, h4 => ⟨h1, h2, h3, h4, trivial⟩
  | _, u :: ts, t, h, hu, h1, h2, h3, h4 => ⟨h.1, h.2.1, h.2.2.1, h.2.2.2.1, trns_app h.2.2.2.2 (fun v hv => hu v (.tail _ hv)) (hu u (.head _)) h2 h3 h4⟩
end CFLy

set_option Elab.async false
set_option linter.all false
set_option maxRecDepth 100000
set_option maxHeartbeats 4000000
/-! k10: layers of anything -/
namespace K10
open PySem PySem.Spec PyProof.Rows L2 DL CFH CFCl CFRu CFWd CFBk CFIs
def AllS (ds : List D) : Prop := ∀ d ∈ ds, sml d = true
theorem AllS.nil : AllS [] := fun _ h => nomatch h
theorem AllS.cons {d : D} {ds : List D} (h : sml d = true) (hs : AllS ds) : AllS (d :: ds) := fun x hx => by
  rcases List.mem_cons.mp hx with z | z
  · rw [z]; exact h
  · exact hs x z
theorem AllS.app {a b : List D} (ha : AllS a) (hb : AllS b) : AllS (a ++ b) := fun x hx => (List.mem_append.mp hx).elim (ha x) (hb x)
theorem AllS.cut {a : List D} {lo hi : Option Int} (h : AllS a) : AllS (DL.cutD a lo hi) := fun x hx => h x (List.mem_of_mem_drop (List.mem_of_mem_take hx))
theorem AllS.tup {a : List D} (h : AllS a) : sml (.tuple a) = true := sml_tup.mpr h
theorem AllS.lst {a : List D} (h : AllS a) : sml (.list a) = true := sml_lst.mpr h
theorem sml_tupD {a : List D} (h : sml (.tuple a) = true) : AllS a := sml_tup.mp h
theorem cut_len {a : List D} {lo hi : Option Int} : (DL.cutD a lo hi).length ≤ a.length := by
  unfold DL.cutD
  rw [List.length_take, List.length_drop]
  omega
theorem cutS_len {z : Str} {lo hi : Option Int} : (cutS z lo hi).length ≤ z.length := by
  show (List.toArray _).size ≤ z.cps.size
  rw [List.size_toArray, List.length_take, List.length_drop, Array.length_toList]
  omega
theorem str_app {a b : Str} : (a ++ b).length = a.length + b.length := by
  show (a.cps ++ b.cps).size = _
  rw [Array.size_append]
  rfl
theorem rep_len {a : Str} {k : Nat} : (repS a k).length = a.length * k := by
  unfold repS Str.length
  simp [Nat.mul_comm]
theorem trn_bd {m : Int} : ∀ {lo : Int} {ts : List Trn}, TrnsOk m lo ts → ∀ t ∈ ts, lo ≤ t.1 ∧ t.1 < t.2.1 ∧ t.2.1 ≤ m
  | _, [], _, _, h => nomatch h
  | lo, u :: ts, h, t, ht => by
    rcases List.mem_cons.mp ht with z | z
    · rw [z]; exact ⟨h.1, h.2.1, h.2.2.1⟩
    · have a := trn_bd h.2.2.2.2 t z
      have := h.1
      have := h.2.1
      exact ⟨by omega, a.2⟩
theorem trn_wd {m : Int} : ∀ {lo : Int} {ts : List Trn}, TrnsOk m lo ts → ∀ t ∈ ts, WordOk t.2.2
  | _, [], _, _, h => nomatch h
  | lo, u :: ts, h, t, ht => by
    rcases List.mem_cons.mp ht with z | z
    · rw [z]; exact h.2.2.2.1
    · exact trn_wd h.2.2.2.2 t z
/-- a part of a layer or of a turn -/
def Part (d : D) : Prop := (∃ w, d = .str w ∧ WordOk w) ∨ (∃ i : Int, d = .int i ∧ i.natAbs < 10 ^ 60) ∨ ∃ ts, d = .tuple ts ∧ AllS ts ∧ ts.length ≤ 40
theorem Part.sml {d : D} (h : Part d) : sml d = true := by
  rcases h with ⟨w, rfl, h⟩ | ⟨i, rfl, _⟩ | ⟨ts, rfl, h, _⟩
  · have := h.l8
    exact sml_of (by omega)
  · rfl
  · exact h.tup
def S_law_is_whole : SpD := fun as Q _ => ∃ d : D, as = [.v d] ∧ Q (.v (.bool (isWh d))) as
def S_law_is_word : SpD := fun as Q _ => ∃ d : D, as = [.v d] ∧ sml d = true ∧ Q (.v (.bool (isWd d))) as
def S_law_are_turns : SpD := fun as Q _ => ∃ (d : D) (most : Int), as = [.v d, .v (.int most)] ∧ sml d = true ∧ Q (.v (.bool (areTu most d))) as
def S_law_due : SpD := fun as Q _ => ∃ d : D, as = [.v d] ∧ sml d = true ∧ Q (.v (.bool (isLy d))) as
def S_law_bent_word : SpD := fun as Q _ => ∃ (h : Hd) (n : Nat) (w : Str), as = [hc h, .v (.str w)] ∧ h.ok n ∧ n ≤ 600000 ∧ WordOk w ∧ ∀ (h' : Hd) (ds : List D), h'.ok (n + 2) → AllS ds → ds.length ≤ 20 → Q (.own 0 (.lst ds)) [hc h', .v (.str w)]
def S_law_others : SpD := fun as Q _ => ∃ (h : Hd) (n : Nat) (d : D) (days : Int), as = [hc h, .v d, .v (.int days)] ∧ h.ok n ∧ n ≤ 500000 ∧ Part d ∧ 1 ≤ days ∧ days ≤ 60 ∧ ∀ (h' : Hd) (ds : List D), h'.ok (n + 2) → AllS ds → ds.length ≤ 20 → Q (.own 0 (.lst ds)) [hc h', .v d, .v (.int days)]
def S_law_bent : SpD := fun as Q _ => ∃ (h : Hd) (n : Nat) (row : List D) (days : Int), as = [hc h, .v (.tuple row), .v (.int days)] ∧ h.ok n ∧ n ≤ 450000 ∧ (∀ d ∈ row, Part d) ∧ row.length ≤ 4 ∧ 1 ≤ days ∧ days ≤ 60 ∧ ∀ (h' : Hd) (ds : List D), h'.ok (n + 20) → AllS ds → ds.length ≤ 200 → Q (.own 0 (.lst ds)) [hc h', .v (.tuple row), .v (.int days)]
def S_law_things : SpD := fun as Q _ => ∃ (h : Hd) (n : Nat), as = [hc h] ∧ h.ok n ∧ n ≤ 400000 ∧ ∀ (h' : Hd) (ds : List D), h'.ok (n + 400) → AllS ds → 0 < ds.length → ds.length ≤ 1000 → Q (.own 0 (.lst ds)) [hc h']
def S_law : SpD := fun as Q _ => ∃ ns : List Int, as = [.v (.list (ns.map PyData.int))] ∧ ns.length ≤ 63 ∧ ∀ rs, Q (.v (.bool true)) rs
theorem law_in : ∀ ns : List Int, ns.length ≤ 63 → S_law [.v (.list (ns.map PyData.int))] (fun c _ => c = .v (.bool true)) (fun _ _ => False) := fun ns h => ⟨ns, rfl, h, fun _ => rfl⟩
theorem len_law_is_whole : ∀ as QD ED, S_law_is_whole as QD ED → as.length = 1 := by
  rintro as QD ED ⟨_, rfl, _⟩
  rfl
theorem len_law_is_word : ∀ as QD ED, S_law_is_word as QD ED → as.length = 1 := by
  rintro as QD ED ⟨_, rfl, _⟩
  rfl
theorem len_law_are_turns : ∀ as QD ED, S_law_are_turns as QD ED → as.length = 2 := by
  rintro as QD ED ⟨_, _, rfl, _⟩
  rfl
theorem len_law_due : ∀ as QD ED, S_law_due as QD ED → as.length = 1 := by
  rintro as QD ED ⟨_, rfl, _⟩
  rfl
theorem len_law_bent_word : ∀ as QD ED, S_law_bent_word as QD ED → as.length = 2 := by
  rintro as QD ED ⟨_, _, _, rfl, _⟩
  rfl
theorem len_law_others : ∀ as QD ED, S_law_others as QD ED → as.length = 3 := by
  rintro as QD ED ⟨_, _, _, _, rfl, _⟩
  rfl
theorem len_law_bent : ∀ as QD ED, S_law_bent as QD ED → as.length = 3 := by
  rintro as QD ED ⟨_, _, _, _, rfl, _⟩
  rfl
theorem len_law_things : ∀ as QD ED, S_law_things as QD ED → as.length = 1 := by
  rintro as QD ED ⟨_, _, rfl, _⟩
  rfl
theorem len_law : ∀ as QD ED, S_law as QD ED → as.length = 1 := by
  rintro as QD ED ⟨_, rfl, _⟩
  rfl
end K10

set_option Elab.async false
set_option linter.all false
set_option maxRecDepth 100000
set_option maxHeartbeats 4000000

/-! generated: the readings of the defs of k10 -/
namespace K10
open PySem PySem.Spec PyProof.Rows L2 DL CFIs CFH CFWd CFLy
def L_law_is_whole : Nat → Bool := fun j => ([] : List Nat).contains j
/-- _law_is_whole: 0 _law_thing -/
def w_law_is_whole : WS := wRet (wAndV (wU (oIsi "int") (wVar 0)) (wNotV (wU (oIsi "bool") (wVar 0))))
def n_law_is_whole : Nat := 1
def L_law_is_word : Nat → Bool := fun j => ([] : List Nat).contains j
/-- _law_is_word: 0 _law_thing, 1 #0, 2 _law_sign -/
def w_law_is_word : WS := wSeq (wIf (wOr (wNot (wTst (wU (oIsi "str") (wVar 0)))) (wOr (wTst (wB oLt (wL oLen (wCons (wVar 0) wNil)) (wC (.int 1)))) (wTst (wB oGt (wL oLen (wCons (wVar 0) wNil)) (wC (.int 8))))))
    (wRet (wC (.bool false)))
    wNext)
    (wRet (wL oAll (wCons (wLcB [2] (wISeq (wVar 0)) (wgName 2) wYes (wB oIn (wVar 2) (wC (.str "abcdefghijklmnopqrstuvwxyz0123456789")))) wNil)))
def n_law_is_word : Nat := 3
def L_law_are_turns : Nat → Bool := fun j => ([] : List Nat).contains j
/-- _law_are_turns: 0 _law_thing, 1 _law_high, 2 _law_low, 3 _law_turn -/
def w_law_are_turns : WS := wSeq (wIf (wOr (wNot (wTst (wU (oIsi "tuple") (wVar 0)))) (wTst (wB oGt (wL oLen (wCons (wVar 0) wNil)) (wC (.int 12)))))
    (wRet (wC (.bool false)))
    wNext)
    (wSeq (wSetF 2 (wC (.int 0)))
    (wSeq (wFor (wISeq (wVar 0)) (wgName 3)
    (wSeq (wIf (wOr (wNot (wTst (wU (oIsi "tuple") (wVar 3)))) (wTst (wB oNe (wL oLen (wCons (wVar 3) wNil)) (wC (.int 3)))))
    (wRet (wC (.bool false)))
    wNext)
    (wSeq (wIf (wOr (wNot (wTst (wCall S_law_is_whole (wCons (wB oIx (wVar 3) (wC (.int 0))) wNil)))) (wOr (wNot (wTst (wCall S_law_is_whole (wCons (wB oIx (wVar 3) (wC (.int 1))) wNil)))) (wNot (wTst (wCall S_law_is_word (wCons (wB oIx (wVar 3) (wC (.int 2))) wNil))))))
    (wRet (wC (.bool false)))
    wNext)
    (wSeq (wIf (wOr (wTst (wB oLt (wB oIx (wVar 3) (wC (.int 0))) (wVar 2))) (wOr (wTst (wB oLe (wB oIx (wVar 3) (wC (.int 1))) (wB oIx (wVar 3) (wC (.int 0))))) (wTst (wB oGt (wB oIx (wVar 3) (wC (.int 1))) (wVar 1)))))
    (wRet (wC (.bool false)))
    wNext)
    (wSetF 2 (wB oIx (wVar 3) (wC (.int 1))))))))
    (wRet (wC (.bool true)))))
def n_law_are_turns : Nat := 4
def L_law_due : Nat → Bool := fun j => ([] : List Nat).contains j
/-- _law_due: 0 _law_thing -/
def w_law_due : WS := wSeq (wIf (wOr (wNot (wTst (wU (oIsi "tuple") (wVar 0)))) (wTst (wB oNe (wL oLen (wCons (wVar 0) wNil)) (wC (.int 4)))))
    (wRet (wC (.bool false)))
    wNext)
    (wSeq (wIf (wOr (wNot (wTst (wCall S_law_is_word (wCons (wB oIx (wVar 0) (wC (.int 0))) wNil)))) (wOr (wNot (wTst (wCall S_law_is_whole (wCons (wB oIx (wVar 0) (wC (.int 1))) wNil)))) (wNot (wTst (wCall S_law_is_whole (wCons (wB oIx (wVar 0) (wC (.int 2))) wNil))))))
    (wRet (wC (.bool false)))
    wNext)
    (wSeq (wIf (wOr (wTst (wB oLt (wB oIx (wVar 0) (wC (.int 2))) (wC (.int 1)))) (wOr (wTst (wB oGt (wB oIx (wVar 0) (wC (.int 2))) (wC (.int 60)))) (wOr (wTst (wB oLt (wB oIx (wVar 0) (wC (.int 1))) (wC (.int 0)))) (wTst (wB oGe (wB oIx (wVar 0) (wC (.int 1))) (wB oMul (wC (.int 1440)) (wB oIx (wVar 0) (wC (.int 2)))))))))
    (wRet (wC (.bool false)))
    wNext)
    (wRet (wCall S_law_are_turns (wCons (wB oIx (wVar 0) (wC (.int 3))) (wCons (wB oMul (wC (.int 1440)) (wB oIx (wVar 0) (wC (.int 2)))) wNil))))))
def n_law_due : Nat := 1
def L_law_bent_word : Nat → Bool := fun j => [0, 5].contains j
/-- _law_bent_word: 0 _law_hand_here, 1 _law_word, 2 _law_signs, 3 _law_at, 4 _law_sign, 5 _law_found -/
def w_law_bent_word : WS := wSeq (wSetF 2 (wC (.str " !\"#$&'()*+,-./:;<=>?@ABCDEFGHIJKLMNOPQRSTUVWXYZ[\\]^_`{|}~abcdefghijklmnopqrstuvwxyz0123456789")))
    (wSeq (wPar 3 4 (wCons (wCall CFH.S_law_take (wCons (wPk 0) (wCons (wL oLen (wCons (wVar 1) wNil)) wNil))) (wCons (wCall CFH.S_law_pick (wCons (wPk 0) (wCons (wVar 2) wNil))) wNil)))
    (wSeq (wSet 5 (wL oLst (wCons (wB oPlus (wB oPlus (wSl (wVar 1) wNoPart (wPart (wVar 3))) (wVar 4)) (wSl (wVar 1) (wPart (wVar 3)) wNoPart)) (wCons (wB oPlus (wSl (wVar 1) wNoPart (wPart (wVar 3))) (wSl (wVar 1) (wPart (wB oAdd (wVar 3) (wC (.int 1)))) wNoPart)) (wCons (wB oPlus (wB oPlus (wSl (wVar 1) wNoPart (wPart (wVar 3))) (wVar 4)) (wSl (wVar 1) (wPart (wB oAdd (wVar 3) (wC (.int 1)))) wNoPart)) wNil)))))
    (wRet (wCat (wLn 5) (wL oLst (wCons (wSl (wB oMulS (wVar 1) (wC (.int 9))) wNoPart (wPart (wC (.int 8)))) (wCons (wSl (wB oMulS (wVar 1) (wC (.int 9))) wNoPart (wPart (wC (.int 9)))) (wCons (wU oUpper (wVar 1)) (wCons (wC (.str "")) (wCons (wC .none) (wCons (wL oTup (wCons (wVar 1) wNil)) (wCons (wC (.int 7)) (wCons (wC (.bool true)) wNil)))))))))))))
def n_law_bent_word : Nat := 6
def L_law_others : Nat → Bool := fun j => [0, 3].contains j
/-- _law_others: 0 _law_hand_here, 1 _law_thing, 2 _law_days, 3 _law_found -/
def w_law_others : WS := wSeq (wIf (wTst (wU (oIsi "str") (wVar 1)))
    (wRet (wCall S_law_bent_word (wCons (wPk 0) (wCons (wVar 1) wNil))))
    wNext)
    (wSeq (wIf (wTst (wU (oIsi "int") (wVar 1)))
    (wSeq (wSet 3 (wL oLst (wCons (wB oSub (wVar 1) (wC (.int 1))) (wCons (wB oPlus (wVar 1) (wC (.int 1))) (wCons (wU oNeg (wC (.int 1))) (wCons (wC (.int 0)) (wCons (wC (.int 1)) (wCons (wC (.int 60)) (wCons (wC (.int 61)) (wCons (wB oSub (wB oMul (wC (.int 1440)) (wVar 2)) (wC (.int 1))) (wCons (wB oMul (wC (.int 1440)) (wVar 2)) (wCons (wB oAdd (wB oMul (wC (.int 1440)) (wVar 2)) (wC (.int 1))) wNil))))))))))))
    (wRet (wCat (wLn 3) (wL oLst (wCons (wB oAdd (wB oPow (wC (.int 10)) (wC (.int 59))) (wCall CFH.S_law_take (wCons (wPk 0) (wCons (wC (.int 1000)) wNil)))) (wCons (wC (.bool true)) (wCons (wC (.bool false)) (wCons (wC .none) (wCons (wL oStrI (wCons (wVar 1) wNil)) (wCons (wL oTup (wCons (wVar 1) wNil)) wNil))))))))))
    wNext)
    (wRet (wL oLst (wCons (wL oList (wCons (wVar 1) wNil)) (wCons (wSl (wVar 1) wNoPart (wPart (wU oNeg (wC (.int 1))))) (wCons (wB oPlus (wVar 1) (wSl (wVar 1) (wPart (wU oNeg (wC (.int 1)))) wNoPart)) (wCons (wL oTup wNil) (wCons (wC .none) (wCons (wC (.str "")) (wCons (wC (.int 0)) (wCons (wL oTup (wCons (wVar 1) wNil)) wNil)))))))))))
def n_law_others : Nat := 4
def L_law_bent : Nat → Bool := fun j => [0, 4].contains j
/-- _law_bent: 0 _law_hand_here, 1 _law_row, 2 _law_days, 3 _law_odd, 4 _law_found, 5 _law_at, 6 _law_one -/
def w_law_bent : WS := wSeq (wSetF 3 (wCall CFH.S_law_pick (wCons (wPk 0) (wCons (wL oLst (wCons (wC (.int 0)) (wCons (wC .none) (wCons (wC (.str "a")) (wCons (wL oTup wNil) (wCons (wC (.bool true)) wNil)))))) wNil))))
    (wSeq (wSet 4 (wL oLst (wCons (wL oList (wCons (wVar 1) wNil)) (wCons (wB oPlus (wVar 1) (wL oTup (wCons (wVar 3) wNil))) (wCons (wB oPlus (wL oTup (wCons (wVar 3) wNil)) (wVar 1)) wNil)))))
    (wSeq (wFor (wIR1 (wCons (wL oLen (wCons (wVar 1) wNil)) wNil)) (wgName 5)
    (wSeq (wDrop (wApp 4 (wB oPlus (wSl (wVar 1) wNoPart (wPart (wVar 5))) (wSl (wVar 1) (wPart (wB oAdd (wVar 5) (wC (.int 1)))) wNoPart))))
    (wSeq (wDrop (wApp 4 (wB oPlus (wSl (wVar 1) wNoPart (wPart (wB oAdd (wVar 5) (wC (.int 1))))) (wSl (wVar 1) (wPart (wVar 5)) wNoPart))))
    (wFor (wISeq (wCall S_law_others (wCons (wPk 0) (wCons (wB oIx (wVar 1) (wVar 5)) (wCons (wVar 2) wNil))))) (wgName 6)
    (wDrop (wApp 4 (wB oPlus (wB oPlus (wSl (wVar 1) wNoPart (wPart (wVar 5))) (wL oTup (wCons (wVar 6) wNil))) (wSl (wVar 1) (wPart (wB oAdd (wVar 5) (wC (.int 1)))) wNoPart))))))))
    (wRetO 4)))
def n_law_bent : Nat := 7
def L_law_things : Nat → Bool := fun j => [0, 9].contains j
/-- _law_things: 0 _law_hand_here, 1 _law_way, 2 _law_many, 3 _law_names, 4 _law_word, 5 _law_start, 6 _law_days, 7 _law_turns, 8 _law_thing, 9 _law_found, 10 _law_at, 11 _law_turn, 12 #0, 13 _law_k -/
def w_law_things : WS := wSeq (wPar 1 2 (wCons (wCall CFH.S_law_take (wCons (wPk 0) (wCons (wC (.int 4)) wNil))) (wCons (wCall CFH.S_law_pick (wCons (wPk 0) (wCons (wL oLst (wCons (wC (.int 1)) (wCons (wC (.int 2)) (wCons (wC (.int 7)) (wCons (wC (.int 59)) (wCons (wC (.int 60)) (wCons (wC (.int 3)) (wCons (wC (.int 30)) wNil)))))))) wNil))) wNil)))
    (wSeq (wSetF 3 (wCall CFWd.S_law_words (wCons (wPk 0) (wCons (wC (.int 4)) wNil))))
    (wSeq (wAsg (wCall CFLy.S_law_layer (wCons (wPk 0) (wCons (wB oIx (wVar 3) (wC (.int 3))) (wCons (wSl (wVar 3) wNoPart (wPart (wC (.int 3)))) (wCons (wVar 2) (wCons (wB oIx (wL oLst (wCons (wC (.int 3)) (wCons (wC (.int 6)) (wCons (wC (.int 12)) (wCons (wC (.int 15)) wNil))))) (wVar 1)) wNil)))))) (wgTup 4 (wgCons (wgName 4) (wgCons (wgName 5) (wgCons (wgName 6) (wgCons (wgName 7) wgNil))))))
    (wSeq (wIf (wTst (wB oEq (wVar 1) (wC (.int 3))))
    (wSetF 7 (wL oTuple (wCons (wLcB [13] (wIR1 (wCons (wB oAdd (wC (.int 11)) (wCall CFH.S_law_take (wCons (wPk 0) (wCons (wC (.int 3)) wNil)))) wNil)) (wgName 13) wYes (wL oTup (wCons (wB oMul (wC (.int 100)) (wVar 13)) (wCons (wB oAdd (wB oAdd (wB oMul (wC (.int 100)) (wVar 13)) (wC (.int 50))) (wB oMul (wC (.int 50)) (wB oMod (wVar 13) (wC (.int 2))))) (wCons (wB oIx (wVar 3) (wB oMod (wVar 13) (wC (.int 3)))) wNil))))) wNil)))
    wNext)
    (wSeq (wSetF 8 (wL oTup (wCons (wVar 4) (wCons (wVar 5) (wCons (wVar 6) (wCons (wVar 7) wNil))))))
    (wSeq (wSet 9 (wCat (wL oLst (wCons (wVar 8) wNil)) (wCall S_law_bent (wCons (wPk 0) (wCons (wVar 8) (wCons (wVar 6) wNil))))))
    (wSeq (wIf (wTst (wB oNe (wVar 7) (wL oTup wNil)))
    (wSeq (wSetF 10 (wCall CFH.S_law_take (wCons (wPk 0) (wCons (wL oLen (wCons (wVar 7) wNil)) wNil))))
    (wSeq (wFor (wISeq (wCall S_law_bent (wCons (wPk 0) (wCons (wB oIx (wVar 7) (wVar 10)) (wCons (wVar 6) wNil))))) (wgName 11)
    (wDrop (wApp 9 (wL oTup (wCons (wVar 4) (wCons (wVar 5) (wCons (wVar 6) (wCons (wB oPlus (wB oPlus (wSl (wVar 7) wNoPart (wPart (wVar 10))) (wL oTup (wCons (wVar 11) wNil))) (wSl (wVar 7) (wPart (wB oAdd (wVar 10) (wC (.int 1)))) wNoPart)) wNil))))))))
    (wSeq (wDrop (wApp 9 (wL oTup (wCons (wVar 4) (wCons (wVar 5) (wCons (wVar 6) (wCons (wB oPlus (wSl (wVar 7) wNoPart (wPart (wVar 10))) (wSl (wVar 7) (wPart (wB oAdd (wVar 10) (wC (.int 1)))) wNoPart)) wNil)))))))
    (wSeq (wDrop (wApp 9 (wL oTup (wCons (wVar 4) (wCons (wVar 5) (wCons (wVar 6) (wCons (wB oPlus (wSl (wVar 7) wNoPart (wPart (wB oAdd (wVar 10) (wC (.int 1))))) (wSl (wVar 7) (wPart (wVar 10)) wNoPart)) wNil)))))))
    (wSeq (wDrop (wApp 9 (wL oTup (wCons (wVar 4) (wCons (wVar 5) (wCons (wVar 6) (wCons (wB oPlus (wB oPlus (wSl (wVar 7) wNoPart (wPart (wVar 10))) (wL oTup (wCons (wC .none) wNil))) (wSl (wVar 7) (wPart (wVar 10)) wNoPart)) wNil)))))))
    (wDrop (wApp 9 (wL oTup (wCons (wVar 4) (wCons (wVar 5) (wCons (wVar 6) (wCons (wB oPlus (wSl (wVar 7) (wPart (wVar 10)) wNoPart) (wSl (wVar 7) wNoPart (wPart (wVar 10)))) wNil))))))))))))
    wNext)
    (wRetO 9)))))))
def n_law_things : Nat := 14
def L_law : Nat → Bool := fun j => [2].contains j
/-- law: 0 _law_script, 1 _law_k, 2 _law_hand_here, 3 _law_things_here, 4 _law_thing, 5 _law_found -/
def w_law : WS := wSeq (wFor (wIR1 (wCons (wL oMax2 (wCons (wC (.int 1)) (wCons (wL oMin2 (wCons (wC (.int 2)) (wCons (wL oLen (wCons (wVar 0) wNil)) wNil))) wNil))) wNil)) (wgName 1)
    (wSeq (wSet 2 (wCall CFH.S_law_hand (wCons (wVar 0) (wCons (wVar 1) wNil))))
    (wSeq (wSetF 3 (wCall S_law_things (wCons (wPk 2) wNil)))
    (wFor (wIL (wB oCatL (wVar 3) (wSl (wVar 3) wNoPart (wPart (wC (.int 1)))))) (wgName 4)
    (wSeq (wSetF 5 (wCall CFIs.S_is_layer (wCons (wVar 4) wNil)))
    (wIf (wOr (wNot (wTst (wU (oIsi "bool") (wVar 5)))) (wTst (wB oNe (wVar 5) (wCall S_law_due (wCons (wVar 4) wNil)))))
    (wRet (wC (.bool false)))
    wNext))))))
    (wRet (wC (.bool true)))
def n_law : Nat := 6
end K10

set_option Elab.async false
set_option linter.all false
set_option maxRecDepth 100000
set_option maxHeartbeats 4000000

/-! generated: readings shared by laws -/
namespace CFIs
open PySem PySem.Spec PyProof.Rows L2 DL CFWd
def L_is_whole : Nat → Bool := fun j => ([] : List Nat).contains j
/-- is_whole: 0 thing -/
def w_is_whole : WS := wRet (wAndV (wU (oIsi "int") (wVar 0)) (wNotV (wU (oIsi "bool") (wVar 0))))
def n_is_whole : Nat := 1
def L_is_word : Nat → Bool := fun j => ([] : List Nat).contains j
/-- is_word: 0 thing, 1 #0, 2 sign -/
def w_is_word : WS := wSeq (wIf (wOr (wNot (wTst (wU (oIsi "str") (wVar 0)))) (wNot (wTst (wCh (oI fun i j => .bool ((fun i j => decide (i ≤ j)) i j)) (oI fun i j => .bool ((fun i j => decide (i ≤ j)) i j)) (wC (.int 1)) (wL oLen (wCons (wVar 0) wNil)) (wC (.int 8))))))
    (wRet (wC (.bool false)))
    wNext)
    (wRet (wL oAll (wCons (wLcB [2] (wISeq (wVar 0)) (wgName 2) wYes (wB oIn (wVar 2) (wC (.str "abcdefghijklmnopqrstuvwxyz0123456789")))) wNil)))
def n_is_word : Nat := 3
def L_is_turn : Nat → Bool := fun j => ([] : List Nat).contains j
/-- is_turn: 0 thing, 1 low, 2 high, 3 begin, 4 end, 5 hand -/
def w_is_turn : WS := wSeq (wIf (wOr (wNot (wTst (wU (oIsi "tuple") (wVar 0)))) (wTst (wB oNe (wL oLen (wCons (wVar 0) wNil)) (wC (.int 3)))))
    (wRet (wC (.bool false)))
    wNext)
    (wSeq (wAsg (wVar 0) (wgTup 3 (wgCons (wgName 3) (wgCons (wgName 4) (wgCons (wgName 5) wgNil)))))
    (wSeq (wIf (wOr (wNot (wTst (wCall S_is_whole (wCons (wVar 3) wNil)))) (wOr (wNot (wTst (wCall S_is_whole (wCons (wVar 4) wNil)))) (wNot (wTst (wCall S_is_word (wCons (wVar 5) wNil))))))
    (wRet (wC (.bool false)))
    wNext)
    (wRet (wCh3 (fun i j => decide (i ≤ j)) (fun i j => decide (i < j)) (fun i j => decide (i ≤ j)) (wVar 1) (wVar 3) (wVar 4) (wVar 2)))))
def n_is_turn : Nat := 6
def L_are_turns : Nat → Bool := fun j => ([] : List Nat).contains j
/-- are_turns: 0 thing, 1 most, 2 low, 3 turn -/
def w_are_turns : WS := wSeq (wIf (wOr (wNot (wTst (wU (oIsi "tuple") (wVar 0)))) (wTst (wB oGt (wL oLen (wCons (wVar 0) wNil)) (wC (.int 12)))))
    (wRet (wC (.bool false)))
    wNext)
    (wSeq (wSetF 2 (wC (.int 0)))
    (wSeq (wFor (wISeq (wVar 0)) (wgName 3)
    (wSeq (wIf (wNot (wTst (wCall S_is_turn (wCons (wVar 3) (wCons (wVar 2) (wCons (wVar 1) wNil))))))
    (wRet (wC (.bool false)))
    wNext)
    (wSetF 2 (wB oIx (wVar 3) (wC (.int 1))))))
    (wRet (wC (.bool true)))))
def n_are_turns : Nat := 4
def L_is_layer : Nat → Bool := fun j => ([] : List Nat).contains j
/-- is_layer: 0 thing, 1 word, 2 start, 3 days, 4 turns -/
def w_is_layer : WS := wSeq (wIf (wOr (wNot (wTst (wU (oIsi "tuple") (wVar 0)))) (wTst (wB oNe (wL oLen (wCons (wVar 0) wNil)) (wC (.int 4)))))
    (wRet (wC (.bool false)))
    wNext)
    (wSeq (wAsg (wVar 0) (wgTup 4 (wgCons (wgName 1) (wgCons (wgName 2) (wgCons (wgName 3) (wgCons (wgName 4) wgNil))))))
    (wSeq (wIf (wOr (wNot (wTst (wCall S_is_word (wCons (wVar 1) wNil)))) (wOr (wNot (wTst (wCall S_is_whole (wCons (wVar 2) wNil)))) (wNot (wTst (wCall S_is_whole (wCons (wVar 3) wNil))))))
    (wRet (wC (.bool false)))
    wNext)
    (wSeq (wIf (wOr (wNot (wTst (wCh (oI fun i j => .bool ((fun i j => decide (i ≤ j)) i j)) (oI fun i j => .bool ((fun i j => decide (i ≤ j)) i j)) (wC (.int 1)) (wVar 3) (wC (.int 60))))) (wNot (wTst (wCh (oI fun i j => .bool ((fun i j => decide (i ≤ j)) i j)) (oI fun i j => .bool ((fun i j => decide (i < j)) i j)) (wC (.int 0)) (wVar 2) (wB oMul (wC (.int 1440)) (wVar 3))))))
    (wRet (wC (.bool false)))
    wNext)
    (wRet (wCall S_are_turns (wCons (wVar 4) (wCons (wB oMul (wC (.int 1440)) (wVar 3)) wNil)))))))
def n_is_layer : Nat := 5
end CFIs

section
set_option Elab.async false
set_option linter.all false
set_option maxRecDepth 100000
set_option maxHeartbeats 4000000
namespace CFIs
open PySem PySem.Spec PyProof.Rows L2 DL CFH CFWd
local macro_rules | `(tactic| tm_at "dw") => `(tactic| with_reducible (conv => whnf))
local macro_rules | `(tactic| tm_at "dside") => `(tactic| first | with_reducible assumption | ((with_reducible show CDivW _ _); exact ⟨by omega, log2_sm (by omega)⟩) | exact rfl | exact True.intro | exact Nat.le_of_ble_eq_true rfl | (intro z; first | exact rfl | exact (Bool.false_ne_true z).elim) | (intro _; (with_reducible refine And.intro ?_ ?_) <;> first | exact rfl | assumption) | (intro _; assumption) | (intro _; with_reducible exact lf_ints) | (intro _; with_reducible exact lf_strs) | ((with_reducible show SeqAt.shaped (PyData.str _) = true); exact (Lay.str (k := 0) (by first | assumption | decide +kernel)).shaped) | omega | (simp only [List.length_map, List.length_reverse, List.length_append, List.length_cons, List.length_nil]; omega) | exact And.intro (by omega) (by with_reducible assumption) | exact And.intro (by omega) (by decide +kernel) | exact And.intro (by omega) (And.intro (by omega) (by omega)) | exact MulOk.left ⟨by omega, by omega⟩ | exact MulOk.right ⟨by omega, by omega⟩ | exact le1000 (by first | omega | (simp only [List.length_map, List.length_reverse, List.length_append, List.length_cons, List.length_nil, rangeD_len, enumF_len]; omega)) | with_reducible exact lf_ints | with_reducible exact lf_strs | assumption | decide)
local macro_rules | `(tactic| tm_at "do") => `(tactic| first | with_reducible exact intsOf_map _ | with_reducible exact boolsOf_map _ | ((with_reducible show lstOf _ _ = _); with_unfolding_all exact rfl) | ((with_reducible show intsOf _ = _); with_unfolding_all exact rfl) | ((with_reducible show itemsD _ = _); with_unfolding_all exact rfl) | ((with_reducible show itemsLT _ = _); with_unfolding_all exact rfl) | ((with_reducible show boolsOf _ = _); with_unfolding_all exact rfl) | ((with_reducible show strsOf _ = _); with_unfolding_all exact rfl) | ((with_reducible show keyD _ = _); with_unfolding_all exact rfl) | with_reducible exact atI_0 | with_reducible exact atI_1 | with_reducible exact atI_2 | with_reducible exact atI_3 | with_reducible exact atI_4 | with_reducible exact setI_0 | with_reducible exact setI_1 | with_reducible exact setI_2 | with_reducible exact setI_3)
local macro_rules | `(tactic| tm_at "dz") => `(tactic| (intro z; (try simp only [decide_eq_true_eq, decide_eq_false_iff_not, eqv_int, Bool.not_eq_true', Bool.not_eq_false', Bool.not_not, Bool.false_eq_true, reduceCtorEq, Int.not_lt, Int.not_le, wholeD, List.length_cons, List.length_nil, List.length_map, isT_tuple_none, isT_tuple_bool, isT_tuple_int, isT_tuple_str, isT_tuple_list, isT_tuple_tuple, isT_int_none, isT_int_bool, isT_int_int, isT_int_str, isT_int_list, isT_int_tuple, isT_bool_none, isT_bool_bool, isT_bool_int, isT_bool_str, isT_bool_list, isT_bool_tuple, isT_str_none, isT_str_bool, isT_str_int, isT_str_str, isT_str_list, isT_str_tuple, isT_list_none, isT_list_bool, isT_list_int, isT_list_str, isT_list_list, isT_list_tuple] at z); try (first | (exfalso; omega) | exact (Bool.false_ne_true z).elim | (cases z; done))))
local macro_rules | `(tactic| tm_at "dnorm") => `(tactic| first | ((simp only [rset, rget, frzC, retag, clr, back]); done) | ((simp only [rset, rget, frzC, retag, clr, back]); exact rfl) | exact rfl)
local macro_rules | `(tactic| tm_at "dh") => `(tactic| first | ((with_reducible show wSeq _ _ _ _); with_reducible refine wSeq_i (by tm_at "dnorm") ?_) | ((with_reducible show optK _ _); with_reducible refine optK_of (by tm_at "do") ?_) | (with_reducible refine ifb ?_ ?_) <;> tm_at "dz" | ((with_reducible refine And.intro ?_ ?_); tm_at "dside") | fail "dh")
local macro_rules | `(tactic| tm_at "dc") => `(tactic| fail "dc")
local macro_rules | `(tactic| tm_at "dt") => `(tactic| first | (tm_at "dh" <;> (try tm_at "dw")) | (tm_at "dc" <;> (try tm_at "dw")))
local macro_rules | `(tactic| tm_at "dstart") => `(tactic| simp only [startD, List.length_cons, List.length_nil, Nat.reduceAdd, Nat.reduceSub, List.replicate, List.cons_append, List.nil_append])
local macro_rules | `(tactic| tm_at "dl") => `(tactic| ((try tm_at "dw"); repeat' tm_at "dt"))
local macro_rules | `(tactic| tm_at "dlc") => `(tactic| first | with_reducible refine lcK_eq (by tm_at "dnorm") ?_ | with_reducible refine forK_eq (by tm_at "dnorm") ?_)
local macro_rules | `(tactic| tm_at "dpos") => `(tactic| first | omega | decide)
local macro_rules | `(tactic| tm_at "dlog") => `(tactic| first | exact log2_sm (by omega) | exact CFH.big_log (by omega) (by omega) | assumption | exact log2_sm (by decide))
local macro_rules | `(tactic| tm_at "dc") => `(tactic| ((with_reducible show CFH.S_law_take _ _ _); refine CFH.take_i (by assumption) (by omega) (by tm_at "dpos") (by tm_at "dlog") (fun _ _ _ _ _ => ?_)))
local macro_rules | `(tactic| tm_at "dc") => `(tactic| ((with_reducible show CFH.S_law_great _ _ _); refine CFH.great_i (by assumption) (by omega) (fun _ _ _ _ _ => ?_)))
local macro_rules | `(tactic| tm_at "dc") => `(tactic| ((with_reducible show CFH.S_law_whole _ _ _); refine CFH.whole_i ?_))
local macro_rules | `(tactic| tm_at "dh") => `(tactic| first | ((with_reducible show ite _ _ _); first | (with_reducible refine DL.ifb_t (by with_reducible assumption) ?_) | (with_reducible refine DL.ifb_f (by with_reducible assumption) ?_)) | fail "dk")
local macro_rules | `(tactic| tm_at "do") => `(tactic| with_reducible assumption)
theorem ok_is_whole : ∀ as QD ED, S_is_whole as QD ED → w_is_whole (bodyEnds as QD fun _ _ => False) (startD n_is_whole as) := by
  rintro as QD ED ⟨d, rfl, q⟩
  rw [isWh_eq] at q
  unfold n_is_whole w_is_whole
  tm_at "dstart"
  tm_at "dl"
  · rw [‹isT "int" d = true›, Bool.true_and] at q
    exact q
  · rw [‹isT "int" d = false›, Bool.false_and] at q
    exact q
theorem ok_is_word : ∀ as QD ED, S_is_word as QD ED → w_is_word (bodyEnds as QD fun _ _ => False) (startD n_is_word as) := by
  rintro as QD ED ⟨d, rfl, hs, q⟩
  unfold n_is_word w_is_word
  tm_at "dstart"
  tm_at "dl"
  · rw [isWd_no ‹_›] at q
    exact q
  obtain ⟨s, rfl⟩ := isT_str ‹_›
  have sl := sml_str hs
  have sz : s.length ≤ sizeLine := Nat.le_trans sl (Nat.le_of_ble_eq_true rfl)
  tm_at "dl"
  · rw [isWd_bad (by omega)] at q
    exact q
  · rw [isWd_at (by omega)] at q
    rename_i g1 g8
    refine ⟨by rw [strD_len]; exact sz, ?_⟩
    rw [show strD s = (strD s).map id from (List.map_id _).symm]
    refine lcK_ys (fun x : D => PyData.bool (sgOk x)) (strD s) (fun x hx next hnx => ?_) ?_
    · obtain ⟨c, _, rfl⟩ := List.mem_map.mp hx
      simp only [id_eq]
      tm_at "dl"
      exact hnx
    · tm_at "dl"
      rw [show ((strD s).map fun x => PyData.bool (sgOk x)) = ((strD s).map sgOk).map PyData.bool by rw [List.map_map]; rfl]
      refine optK_of (boolsOf_map _) ?_
      rw [List.all_map]
      tm_at "dl"
      exact q
  · rw [isWd_bad (by omega)] at q
    exact q
theorem ok_is_turn : ∀ as QD ED, S_is_turn as QD ED → w_is_turn (bodyEnds as QD fun _ _ => False) (startD n_is_turn as) := by
  rintro as QD ED ⟨d, low, high, rfl, hs, q⟩
  unfold n_is_turn w_is_turn
  tm_at "dstart"
  tm_at "dl"
  · rw [isTu_no ‹_›] at q
    exact q
  obtain ⟨ds, rfl⟩ := isT_tup ‹_›
  have hs := sml_tup.mp hs
  tm_at "dl"
  · rw [isTu_len (fun e => ‹¬ (ds.length : Int) = 3› (by omega))] at q
    exact q
  obtain ⟨b, e, h, rfl⟩ := len3 (ds := ds) (by omega)
  have hh : sml h = true := hs h (by simp)
  rw [isTu_3] at q
  tm_at "dl"
  refine ⟨b, rfl, ?_⟩
  tm_at "dl"
  · rw [‹isWh b = false›, Bool.false_and, Bool.false_and, Bool.false_and] at q
    exact q
  refine ⟨e, rfl, ?_⟩
  tm_at "dl"
  · rw [‹isWh e = false›, Bool.and_false, Bool.false_and, Bool.false_and] at q
    exact q
  refine ⟨h, rfl, hh, ?_⟩
  tm_at "dl"
  · rw [‹isWd h = false›, Bool.and_false, Bool.false_and] at q
    exact q
  obtain ⟨i, rfl⟩ := isWh_int ‹isWh b = true›
  obtain ⟨j, rfl⟩ := isWh_int ‹isWh e = true›
  rw [‹isWd h = true›] at q
  tm_at "dl"
  all_goals have q : QD (.v (.bool (decide (low ≤ i ∧ i < j ∧ j ≤ high)))) _ := q
  · rw [show decide (low ≤ i ∧ i < j ∧ j ≤ high) = decide (j ≤ high) from decide_eq_decide.mpr ⟨fun h => h.2.2, fun h => ⟨‹_›, ‹_›, h⟩⟩] at q
    exact q
  · rw [decide_eq_false (by omega)] at q
    exact q
  · rw [decide_eq_false (by omega)] at q
    exact q
theorem ok_are_turns : ∀ as QD ED, S_are_turns as QD ED → w_are_turns (bodyEnds as QD fun _ _ => False) (startD n_are_turns as) := by
  rintro as QD ED ⟨d, most, rfl, hs, q⟩
  unfold n_are_turns w_are_turns
  tm_at "dstart"
  tm_at "dl"
  · rw [areTu_no ‹_›] at q
    exact q
  obtain ⟨ds, rfl⟩ := isT_tup ‹_›
  have hs := sml_tup.mp hs
  tm_at "dl"
  · rw [areTu_bad (by omega)] at q
    exact q
  rw [areTu_at (by omega)] at q
  refine forK_ind (fun es ρ => (∀ d ∈ es, sml d = true) ∧ ∃ (low : Int) (c3 : C), ρ = [.v (.tuple ds), .v (.int most), .v (.int low), c3] ∧ QD (.v (.bool (tuF most low es))) [.v (.tuple ds), .v (.int most)]) ?_ ?_ _ _ ⟨hs, 0, _, rfl, q⟩
  · rintro ρ ⟨_, low, c3, rfl, q⟩
    tm_at "dl"
    exact q
  rintro t es ρ next hn ⟨hs, low, c3, rfl, q⟩
  have ht := hs t (.head _)
  have q : QD (.v (.bool (isTu low most t && tuF most (enT t) es))) _ := q
  tm_at "dl"
  refine ⟨t, low, most, rfl, ht, ?_⟩
  tm_at "dl"
  · rw [‹isTu low most t = false›, Bool.false_and] at q
    exact q
  · rw [‹isTu low most t = true›, Bool.true_and] at q
    obtain ⟨b, e, hd, rfl, _⟩ := isTu_get ‹_›
    have a1 : atI [.int b, .int e, hd] 1 = some (.int e) := atI_1
    tm_at "dl"
    exact hn _ ⟨fun d h => hs d (.tail _ h), e, _, rfl, q⟩
theorem ok_is_layer : ∀ as QD ED, S_is_layer as QD ED → w_is_layer (bodyEnds as QD fun _ _ => False) (startD n_is_layer as) := by
  rintro as QD ED ⟨d, rfl, hs, q⟩
  unfold n_is_layer w_is_layer
  tm_at "dstart"
  tm_at "dl"
  · rw [isLy_no ‹_›] at q
    exact q
  obtain ⟨ds, rfl⟩ := isT_tup ‹_›
  have hs := sml_tup.mp hs
  tm_at "dl"
  · rw [isLy_len (fun e => ‹¬ (ds.length : Int) = 4› (by omega))] at q
    exact q
  obtain ⟨w, s, e, ts, rfl⟩ := len4 (ds := ds) (by omega)
  have hw : sml w = true := hs w (by simp)
  have ht : sml ts = true := hs ts (by simp)
  rw [isLy_4] at q
  tm_at "dl"
  refine ⟨w, rfl, hw, ?_⟩
  tm_at "dl"
  · rw [‹isWd w = false›, Bool.false_and, Bool.false_and, Bool.false_and] at q
    exact q
  refine ⟨s, rfl, ?_⟩
  tm_at "dl"
  · rw [‹isWh s = false›, Bool.and_false, Bool.false_and, Bool.false_and] at q
    exact q
  refine ⟨e, rfl, ?_⟩
  tm_at "dl"
  · rw [‹isWh e = false›, Bool.and_false, Bool.false_and] at q
    exact q
  obtain ⟨s, rfl⟩ := isWh_int ‹isWh s = true›
  obtain ⟨e, rfl⟩ := isWh_int ‹isWh e = true›
  rw [‹isWd w = true›] at q
  have q : QD (.v (.bool (decide (1 ≤ e ∧ e ≤ 60) && decide (0 ≤ s ∧ s < 1440 * e) && areTu (1440 * e) ts))) _ := q
  have mo : MulOk 1440 e := MulOk.left (by decide)
  tm_at "dl"
  all_goals first
    | (rw [decide_eq_false (show ¬ (1 ≤ e ∧ e ≤ 60) by omega), Bool.false_and, Bool.false_and] at q
       exact q)
    | (rw [decide_eq_false (show ¬ (0 ≤ s ∧ s < 1440 * e) by omega), Bool.and_false, Bool.false_and] at q
       exact q)
    | (rw [decide_eq_true (show 1 ≤ e ∧ e ≤ 60 by omega), decide_eq_true (show 0 ≤ s ∧ s < 1440 * e by omega)] at q
       refine ⟨ts, 1440 * e, rfl, ht, ?_⟩
       tm_at "dl"
       exact q)
end CFIs
end

set_option Elab.async false
set_option linter.all false
set_option maxRecDepth 100000
set_option maxHeartbeats 4000000

/-! generated: readings shared by laws -/
namespace CFLy
open PySem PySem.Spec PyProof.Rows L2 DL CFH CFWd CFCg
def L_law_minute : Nat → Bool := fun j => [0].contains j
/-- _law_minute: 0 _law_hand_here, 1 _law_days, 2 _law_way, 3 _law_day -/
def w_law_minute : WS := wSeq (wSetF 2 (wCall CFH.S_law_take (wCons (wPk 0) (wCons (wC (.int 3)) wNil))))
    (wSeq (wSetF 3 (wCall CFH.S_law_take (wCons (wPk 0) (wCons (wVar 1) wNil))))
    (wSeq (wIf (wTst (wB oEq (wVar 2) (wC (.int 0))))
    (wRet (wB oMul (wC (.int 1440)) (wB oAdd (wVar 3) (wCall CFH.S_law_take (wCons (wPk 0) (wCons (wC (.int 2)) wNil))))))
    wNext)
    (wSeq (wIf (wTst (wB oEq (wVar 2) (wC (.int 1))))
    (wRet (wB oAdd (wB oMul (wC (.int 1440)) (wVar 3)) (wCall CFH.S_law_pick (wCons (wPk 0) (wCons (wL oLst (wCons (wC (.int 480)) (wCons (wC (.int 540)) (wCons (wC (.int 1020)) (wCons (wC (.int 1080)) (wCons (wC (.int 1320)) (wCons (wC (.int 360)) wNil))))))) wNil)))))
    wNext)
    (wRet (wB oAdd (wB oMul (wC (.int 1440)) (wVar 3)) (wCall CFH.S_law_take (wCons (wPk 0) (wCons (wC (.int 1441)) wNil))))))))
def n_law_minute : Nat := 4
def L_law_layer : Nat → Bool := fun j => [0, 8].contains j
/-- _law_layer: 0 _law_hand_here, 1 _law_word, 2 _law_names, 3 _law_days, 4 _law_most, 5 _law_start, 6 _law_k, 7 _law_ends, 8 _law_turns, 9 #0 -/
def w_law_layer : WS := wSeq (wSetF 5 (wB oMul (wCall CFH.S_law_take (wCons (wPk 0) (wCons (wB oMul (wC (.int 1440)) (wVar 3)) wNil))) (wCall CFH.S_law_take (wCons (wPk 0) (wCons (wC (.int 2)) wNil)))))
    (wSeq (wIf (wTst (wB oEq (wCall CFH.S_law_take (wCons (wPk 0) (wCons (wC (.int 8)) wNil))) (wC (.int 0))))
    (wRet (wL oTup (wCons (wVar 1) (wCons (wVar 5) (wCons (wVar 3) (wCons (wL oTup (wCons (wL oTup (wCons (wC (.int 0)) (wCons (wB oMul (wC (.int 1440)) (wVar 3)) (wCons (wCall CFH.S_law_pick (wCons (wPk 0) (wCons (wVar 2) wNil))) wNil)))) wNil)) wNil))))))
    wNext)
    (wSeq (wSetF 7 (wU oSortSet (wLcB [6] (wIR1 (wCons (wB oAdd (wC (.int 1)) (wVar 4)) wNil)) (wgName 6) wYes (wCall S_law_minute (wCons (wPk 0) (wCons (wVar 3) wNil))))))
    (wSeq (wSet 8 (wL oLst wNil))
    (wSeq (wFor (wIR1 (wCons (wB oSub (wL oLen (wCons (wVar 7) wNil)) (wC (.int 1))) wNil)) (wgName 6)
    (wIf (wTst (wB oGt (wCall CFH.S_law_take (wCons (wPk 0) (wCons (wC (.int 4)) wNil))) (wC (.int 0))))
    (wDrop (wApp 8 (wL oTup (wCons (wB oIx (wVar 7) (wVar 6)) (wCons (wB oIx (wVar 7) (wB oAdd (wVar 6) (wC (.int 1)))) (wCons (wCall CFH.S_law_pick (wCons (wPk 0) (wCons (wVar 2) wNil))) wNil))))))
    wNext))
    (wRet (wL oTup (wCons (wVar 1) (wCons (wVar 5) (wCons (wVar 3) (wCons (wL oTuple (wCons (wLn 8) wNil)) wNil))))))))))
def n_law_layer : Nat := 10
end CFLy

section
set_option Elab.async false
set_option linter.all false
set_option maxRecDepth 100000
set_option maxHeartbeats 4000000
namespace CFLy
open PySem PySem.Spec PyProof.Rows L2 DL CFH CFCl CFRu CFWd CFBk CFCg
local macro_rules | `(tactic| tm_at "dw") => `(tactic| with_reducible (conv => whnf))
local macro_rules | `(tactic| tm_at "dside") => `(tactic| first | with_reducible assumption | ((with_reducible show CDivW _ _); exact ⟨by omega, log2_sm (by omega)⟩) | exact rfl | exact True.intro | exact Nat.le_of_ble_eq_true rfl | (intro z; first | exact rfl | exact (Bool.false_ne_true z).elim) | (intro _; (with_reducible refine And.intro ?_ ?_) <;> first | exact rfl | assumption) | (intro _; assumption) | (intro _; with_reducible exact lf_ints) | (intro _; with_reducible exact lf_strs) | ((with_reducible show SeqAt.shaped (PyData.str _) = true); exact (Lay.str (k := 0) (by first | assumption | decide +kernel)).shaped) | omega | (simp only [List.length_map, List.length_reverse, List.length_append, List.length_cons, List.length_nil]; omega) | exact And.intro (by omega) (by with_reducible assumption) | exact And.intro (by omega) (by decide +kernel) | exact And.intro (by omega) (And.intro (by omega) (by omega)) | exact MulOk.left ⟨by omega, by omega⟩ | exact MulOk.right ⟨by omega, by omega⟩ | exact le1000 (by first | omega | (simp only [List.length_map, List.length_reverse, List.length_append, List.length_cons, List.length_nil, rangeD_len, enumF_len]; omega)) | with_reducible exact lf_ints | with_reducible exact lf_strs | assumption | decide)
local macro_rules | `(tactic| tm_at "do") => `(tactic| first | with_reducible exact intsOf_map _ | with_reducible exact boolsOf_map _ | ((with_reducible show lstOf _ _ = _); with_unfolding_all exact rfl) | ((with_reducible show intsOf _ = _); with_unfolding_all exact rfl) | ((with_reducible show itemsD _ = _); with_unfolding_all exact rfl) | ((with_reducible show itemsLT _ = _); with_unfolding_all exact rfl) | ((with_reducible show boolsOf _ = _); with_unfolding_all exact rfl) | ((with_reducible show strsOf _ = _); with_unfolding_all exact rfl) | ((with_reducible show keyD _ = _); with_unfolding_all exact rfl) | with_reducible exact atI_0 | with_reducible exact atI_1 | with_reducible exact atI_2 | with_reducible exact atI_3 | with_reducible exact atI_4 | with_reducible exact setI_0 | with_reducible exact setI_1 | with_reducible exact setI_2 | with_reducible exact setI_3)
local macro_rules | `(tactic| tm_at "dz") => `(tactic| (intro z; (try simp only [decide_eq_true_eq, decide_eq_false_iff_not, eqv_int, Bool.not_eq_true', Bool.not_eq_false', Bool.not_not, Bool.false_eq_true, reduceCtorEq, Int.not_lt, Int.not_le, wholeD, List.length_cons, List.length_nil, List.length_map, isT_tuple_none, isT_tuple_bool, isT_tuple_int, isT_tuple_str, isT_tuple_list, isT_tuple_tuple, isT_int_none, isT_int_bool, isT_int_int, isT_int_str, isT_int_list, isT_int_tuple, isT_bool_none, isT_bool_bool, isT_bool_int, isT_bool_str, isT_bool_list, isT_bool_tuple, isT_str_none, isT_str_bool, isT_str_int, isT_str_str, isT_str_list, isT_str_tuple, isT_list_none, isT_list_bool, isT_list_int, isT_list_str, isT_list_list, isT_list_tuple] at z); try (first | (exfalso; omega) | exact (Bool.false_ne_true z).elim | (cases z; done))))
local macro_rules | `(tactic| tm_at "dnorm") => `(tactic| first | ((simp only [rset, rget, frzC, retag, clr, back]); done) | ((simp only [rset, rget, frzC, retag, clr, back]); exact rfl) | exact rfl)
local macro_rules | `(tactic| tm_at "dh") => `(tactic| first | ((with_reducible show wSeq _ _ _ _); with_reducible refine wSeq_i (by tm_at "dnorm") ?_) | ((with_reducible show optK _ _); with_reducible refine optK_of (by tm_at "do") ?_) | (with_reducible refine ifb ?_ ?_) <;> tm_at "dz" | ((with_reducible refine And.intro ?_ ?_); tm_at "dside") | fail "dh")
local macro_rules | `(tactic| tm_at "dc") => `(tactic| fail "dc")
local macro_rules | `(tactic| tm_at "dt") => `(tactic| first | (tm_at "dh" <;> (try tm_at "dw")) | (tm_at "dc" <;> (try tm_at "dw")))
local macro_rules | `(tactic| tm_at "dstart") => `(tactic| simp only [startD, List.length_cons, List.length_nil, Nat.reduceAdd, Nat.reduceSub, List.replicate, List.cons_append, List.nil_append])
local macro_rules | `(tactic| tm_at "dl") => `(tactic| ((try tm_at "dw"); repeat' tm_at "dt"))
local macro_rules | `(tactic| tm_at "dlc") => `(tactic| first | with_reducible refine lcK_eq (by tm_at "dnorm") ?_ | with_reducible refine forK_eq (by tm_at "dnorm") ?_)
local macro_rules | `(tactic| tm_at "dpos") => `(tactic| first | omega | decide)
local macro_rules | `(tactic| tm_at "dlog") => `(tactic| first | exact log2_sm (by omega) | exact CFH.big_log (by omega) (by omega) | assumption | exact log2_sm (by decide))
local macro_rules | `(tactic| tm_at "dc") => `(tactic| ((with_reducible show CFH.S_law_take _ _ _); refine CFH.take_i (by assumption) (by omega) (by tm_at "dpos") (by tm_at "dlog") (fun _ _ _ _ _ => ?_)))
local macro_rules | `(tactic| tm_at "dc") => `(tactic| ((with_reducible show CFH.S_law_great _ _ _); refine CFH.great_i (by assumption) (by omega) (fun _ _ _ _ _ => ?_)))
local macro_rules | `(tactic| tm_at "dc") => `(tactic| ((with_reducible show CFH.S_law_whole _ _ _); refine CFH.whole_i ?_))
theorem ok_law_minute : ∀ as QD ED, S_law_minute as QD ED → w_law_minute (bodyEnds as QD fun _ _ => False) (startD n_law_minute as) := by
  rintro as QD ED ⟨h, n, m, rfl, ho, hn, m1, m2, q⟩
  unfold n_law_minute w_law_minute
  have mo : ∀ x : Int, MulOk 1440 x := fun x => MulOk.left (by decide)
  tm_at "dstart"
  tm_at "dl"
  · exact q _ _ (Hd.ok.up (by assumption) (by omega)) (by omega) (by omega)
  · refine pick_z [480, 540, 1020, 1080, 1320, 360] rfl (by assumption) (by omega) (by decide) (by decide) fun h4 r o4 e4 => ?_
    obtain ⟨r0, r1⟩ : 0 ≤ r ∧ r ≤ 1440 := by
      simp only [List.mem_cons, List.not_mem_nil, or_false] at e4
      omega
    clear e4
    tm_at "dl"
    exact q _ _ (Hd.ok.up (by assumption) (by omega)) (by omega) (by omega)
  · exact q _ _ (Hd.ok.up (by assumption) (by omega)) (by omega) (by omega)
theorem ok_law_layer : ∀ as QD ED, S_law_layer as QD ED → w_law_layer (bodyEnds as QD fun _ _ => False) (startD n_law_layer as) := by
  rintro as QD ED ⟨h, n, wd, ws, days, most, rfl, ho, hn, hw, w0, w1, hws, d1, d2, m0, m1, q⟩
  unfold n_law_layer w_law_layer
  have mo : ∀ x : Int, MulOk 1440 x := fun x => MulOk.left (by decide)
  tm_at "dstart"
  tm_at "dl"
  · rename_i h1 x o1 x0 x1 h2 y o2 y0 y1 h3 w o3 w2 w3 z
    obtain ⟨s0, s1⟩ : 0 ≤ x * y ∧ x * y < 1440 * days := by
      rcases (show y = 0 ∨ y = 1 by omega) with rfl | rfl
      · rw [Int.mul_zero]; omega
      · rw [Int.mul_one]; omega
    generalize x * y = st at s0 s1 ⊢
    refine pick_i o3 (by omega) (by rw [List.length_map]; exact w0) (by rw [List.length_map]; omega) fun h4 nm o4 hnm => ?_
    obtain ⟨v, hv, rfl⟩ := List.mem_map.mp hnm
    tm_at "dl"
    exact q h4 ⟨wd, st, days, [(0, 1440 * days, v)]⟩ (o4.up (by omega)) ⟨hw, d1, d2, s0, s1, ⟨Int.le_refl _, by show (0 : Int) < 1440 * days; omega, Int.le_refl _, hws v hv, trivial⟩⟩ rfl rfl (fun t ht => by rw [List.mem_singleton.mp ht]; exact hv) (.inr (Nat.le_refl 1))
  · rename_i h1 x o1 x0 x1 h2 y o2 y0 y1 h3 w o3 w2 w3 z
    obtain ⟨s0, s1⟩ : 0 ≤ x * y ∧ x * y < 1440 * days := by
      rcases (show y = 0 ∨ y = 1 by omega) with rfl | rfl
      · rw [Int.mul_zero]; omega
      · rw [Int.mul_one]; omega
    generalize x * y = st at s0 s1 ⊢
    tm_at "dlc"
    have rl : (rangeD 0 (1 + most).toNat).length = (1 + most).toNat := rangeD_len
    refine lcK_ind (fun es acc ρ => ∃ (h : Hd) (kk : Nat) (ms : List Int), h.ok kk ∧ kk + 4 * es.length ≤ n + 100 ∧ acc = ms.map PyData.int ∧ ((ms.length + es.length : Nat) : Int) = 1 + most ∧ (∀ m ∈ ms, 0 ≤ m ∧ m ≤ 1440 * days) ∧ ρ = [.own 1 (.lst (CFH.hd h)), .v (.str wd), .v (wsD ws), .v (.int days), .v (.int most), .v (.int st), .no, .no, .no, .no]) ?_ ?_ _ _ _ ⟨h3, _, [], o3, by omega, rfl, by rw [List.length_nil]; omega, (fun m hm => by cases hm), rfl⟩
    · rintro acc ρ ⟨h4, kk, ms, o4, hk, rfl, hms, hb, rfl⟩
      rw [List.length_nil] at hms hk
      have lm : ms.length ≤ 4000 := by omega
      tm_at "dl"
      intro es p1 p2 p3
      have eb : ∀ m ∈ es, 0 ≤ m ∧ m ≤ 1440 * days := fun m hm => hb m ((p2 m).mp hm)
      have el : ((es.length : Nat) : Int) ≤ 1 + most := by omega
      have em : (es.map PyData.int).length = es.length := List.length_map ..
      have g : ∀ k, k + 1 < es.length → ∃ a b, (es.map PyData.int)[k]? = some (.int a) ∧ (es.map PyData.int)[k + 1]? = some (.int b) ∧ a < b ∧ 0 ≤ a ∧ b ≤ 1440 * days ∧ es[k]? = some a ∧ es[k + 1]? = some b := fun k hk => by
        refine ⟨es[k], es[k + 1], ?_, ?_, List.pairwise_iff_getElem.mp p1 k (k + 1) (by omega) hk (by omega), (eb _ (List.getElem_mem _)).1, (eb _ (List.getElem_mem _)).2, List.getElem?_eq_getElem (by omega), List.getElem?_eq_getElem hk⟩
        · rw [List.getElem?_map, List.getElem?_eq_getElem (by omega)]; rfl
        · rw [List.getElem?_map, List.getElem?_eq_getElem hk]; rfl
      clear p1 p2 p3 hb eb
      tm_at "dl"
      refine forK_ind (fun ds ρ => ∃ (h : Hd) (kk k : Nat) (ts : List Trn) (c6 : C), ds = rangeD (k : Int) (es.length - 1 - k) ∧ k ≤ es.length - 1 ∧ h.ok kk ∧ kk + 2 * (es.length - 1 - k) ≤ n + 190 ∧ TrnsOk (1440 * days) 0 ts ∧ (∀ a, es[k]? = some a → ∀ u ∈ ts, u.2.1 ≤ a) ∧ ts.length ≤ k ∧ (∀ t ∈ ts, t.2.2 ∈ ws) ∧ ρ = [.own 1 (.lst (CFH.hd h)), .v (.str wd), .v (wsD ws), .v (.int days), .v (.int most), .v (.int st), c6, .v (.list (es.map PyData.int)), .own 0 (.lst (ts.map trnD)), .no]) ?_ ?_ _ _ ⟨h4, kk, 0, [], _, ?_, Nat.zero_le _, o4, by omega, trivial, (fun a _ u hu => by cases hu), Nat.zero_le _, (fun u hu => by cases hu), rfl⟩
      · rintro ρ ⟨h5, kk5, k, ts, c6, hd, hk5, o5, hkk, ht, _, hl, hh, rfl⟩
        have lf : C.lf (.own 0 (.lst (ts.map trnD))) = true := lfreeAll_of fun d hd => by
          obtain ⟨x, _, rfl⟩ := List.mem_map.mp hd
          rfl
        clear g
        tm_at "dl"
        exact q h5 ⟨wd, st, days, ts⟩ (o5.up (by omega)) ⟨hw, d1, d2, s0, s1, ht⟩ rfl rfl hh (.inl (by show ((ts.length : Nat) : Int) ≤ most; omega))
      · rintro d ds ρ next hnx ⟨h5, kk5, k, ts, c6, hd, hk5, o5, hkk, ht, hu, hl, hh, rfl⟩
        have hkl : k + 1 < es.length := by
          rcases Nat.lt_or_ge (k + 1) es.length with z | z
          · exact z
          · rw [show es.length - 1 - k = 0 by omega, rangeD_zero] at hd; cases hd
        rw [show es.length - 1 - k = (es.length - 1 - (k + 1)) + 1 by omega, rangeD_cons] at hd
        obtain ⟨rfl, rfl⟩ : d = .int (k : Nat) ∧ ds = rangeD ((k : Int) + 1) (es.length - 1 - (k + 1)) := by
          cases hd
          exact ⟨rfl, rfl⟩
        clear hd q
        obtain ⟨a, b, g1, g2, ab, a0, b1, ea, eb⟩ := g k hkl
        have leaf : ∀ (h6 : Hd) (k6 : Nat) (v : Str) (c6 : C), h6.ok k6 → k6 ≤ kk5 + 2 → (v ∈ ws → next [.own 1 (.lst (CFH.hd h6)), .v (.str wd), .v (wsD ws), .v (.int days), .v (.int most), .v (.int st), c6, .v (.list (es.map PyData.int)), .own 0 (.lst (ts.map trnD ++ [.tuple [.int a, .int b, .str v]])), .no]) ∧ next [.own 1 (.lst (CFH.hd h6)), .v (.str wd), .v (wsD ws), .v (.int days), .v (.int most), .v (.int st), c6, .v (.list (es.map PyData.int)), .own 0 (.lst (ts.map trnD)), .no] := fun h6 k6 v c6 o6 hk6 => by
          refine ⟨fun hv => hnx _ ⟨h6, k6, k + 1, ts ++ [(a, b, v)], c6, by push_cast; rfl, by omega, o6, by omega, trns_app ht (hu a ea) a0 ab b1 (hws v hv), fun a' e' u hu' => ?_, by rw [List.length_append, List.length_singleton]; omega, fun t ht' => ?_, by rw [List.map_append]; rfl⟩, hnx _ ⟨h6, k6, k + 1, ts, c6, by push_cast; rfl, by omega, o6, by omega, ht, fun a' e' u hu' => ?_, by omega, hh, rfl⟩⟩
          · rw [eb] at e'
            cases e'
            rcases List.mem_append.mp hu' with z | z
            · have := hu a ea u z; omega
            · rw [List.mem_singleton.mp z]; exact Int.le_refl _
          · rcases List.mem_append.mp ht' with z | z
            · exact hh t z
            · rw [List.mem_singleton.mp z]; exact hv
          · rw [eb] at e'
            cases e'
            have := hu a ea u hu'
            omega
        have sz : (ts.map trnD).length < sizeLine := by rw [List.length_map, sizeLine_eq]; omega
        clear hnx g hu ht hh
        tm_at "dl"
        · refine optK_of (L2.atI_nat g1) ?_
          tm_at "dl"
          refine optK_of (show atI (es.map PyData.int) ((k : Int) + 1) = some (.int b) from L2.atI_nat g2) ?_
          tm_at "dl"
          refine pick_i (by assumption) (by omega) (by rw [List.length_map]; exact w0) (by rw [List.length_map]; omega) fun h7 nm o7 hnm => ?_
          obtain ⟨v, hv, rfl⟩ := List.mem_map.mp hnm
          tm_at "dl"
          exact (leaf h7 _ v _ o7 (by omega)).1 hv
        · exact (leaf _ _ wd _ (by assumption) (by omega)).2
      · rw [em]
        show rangeD 0 _ = _
        congr 1
        omega
    · rintro d es acc ρ nx hnx ⟨h4, kk, ms, o4, hk, rfl, hms, hb, rfl⟩
      rw [List.length_cons] at hms hk
      tm_at "dl"
      refine minute_i o4 (by omega) d1 (by omega) fun h5 x5 o5 x50 x51 => ?_
      tm_at "dl"
      refine hnx _ _ ⟨h5, _, ms ++ [x5], o5, by omega, by rw [List.map_append]; rfl, by rw [List.length_append, List.length_singleton]; omega, fun m hm => ?_, rfl⟩
      rcases List.mem_append.mp hm with z | z
      · exact hb m z
      · rw [List.mem_singleton.mp z]; exact ⟨x50, x51⟩
end CFLy
end

set_option Elab.async false
set_option linter.all false
set_option maxRecDepth 100000
set_option maxHeartbeats 4000000
/-! CFTu: turns of numbers -/
namespace CFTu
open PySem PySem.Spec PyProof.Rows L2 DL CFH CFCl CFRu CFWd CFBk
/-- the first turn that has a place, counted from j -/
def turnG (p : Int) : Nat → List Trn → Option Nat
  | _, [] => none
  | j, t :: ts => if t.1 ≤ p ∧ p < t.2.1 then some j else turnG p (j + 1) ts
@[reducible] def optN : Option Nat → D
  | none => .none
  | some j => .int (j : Nat)
def placeL (l : Lyr) (r : Int) : Int := (r - l.start) % (1440 * l.days)
def turnL (l : Lyr) (r : Int) : Option Nat := turnG (placeL l r) 0 l.turns
theorem place_ge {l : Lyr} (h : 1 ≤ l.days) (r : Int) : 0 ≤ placeL l r := Int.emod_nonneg _ (by omega)
theorem place_lt {l : Lyr} (h : 1 ≤ l.days) (r : Int) : placeL l r < 1440 * l.days := Int.emod_lt_of_pos _ (by omega)
theorem turnG_some {p : Int} : ∀ {ts : List Trn} {j k : Nat}, turnG p j ts = some k → ∃ i t, k = j + i ∧ ts[i]? = some t ∧ t.1 ≤ p ∧ p < t.2.1
  | t :: ts, j, k, h => by
    unfold turnG at h
    split at h
    · rename_i z
      cases h
      exact ⟨0, t, rfl, rfl, z⟩
    · obtain ⟨i, t', e, g, z⟩ := turnG_some h
      exact ⟨i + 1, t', by omega, by simpa using g, z⟩
theorem turnG_none {p : Int} : ∀ {ts : List Trn} {j : Nat}, turnG p j ts = none → ∀ t ∈ ts, ¬ (t.1 ≤ p ∧ p < t.2.1)
  | t :: ts, j, h, u, hu => by
    unfold turnG at h
    split at h
    · cases h
    · rename_i z
      rcases List.mem_cons.mp hu with e | hu
      · rw [e]; exact z
      · exact turnG_none h u hu
def S_place_of : SpD := fun as Q _ => ∃ (l : Lyr) (r : Int), as = [.v (lyrD l), .v (.int r)] ∧ 1 ≤ l.days ∧ Q (.v (.int (placeL l r))) as
def S_turn_at : SpD := fun as Q _ => ∃ (l : Lyr) (r : Int), as = [.v (lyrD l), .v (.int r)] ∧ 1 ≤ l.days ∧ l.turns.length ≤ 1000 ∧ Q (.v (optN (turnL l r))) as
theorem place_i {l : Lyr} {r : Int} {Q E} (h : 1 ≤ l.days) (q : Q (.v (.int (placeL l r))) [.v (lyrD l), .v (.int r)]) : S_place_of [.v (lyrD l), .v (.int r)] Q E := ⟨l, r, rfl, h, q⟩
theorem turn_i {l : Lyr} {r : Int} {Q E} (h : 1 ≤ l.days) (hl : l.turns.length ≤ 1000) (q : Q (.v (optN (turnL l r))) [.v (lyrD l), .v (.int r)]) : S_turn_at [.v (lyrD l), .v (.int r)] Q E := ⟨l, r, rfl, h, hl, q⟩
theorem len_place_of : ∀ as QD ED, S_place_of as QD ED → as.length = 2 := by
  rintro as QD ED ⟨_, _, rfl, _⟩
  rfl
theorem len_turn_at : ∀ as QD ED, S_turn_at as QD ED → as.length = 2 := by
  rintro as QD ED ⟨_, _, rfl, _⟩
  rfl
end CFTu

set_option Elab.async false
set_option linter.all false
set_option maxRecDepth 100000
set_option maxHeartbeats 4000000
/-! CFTd: who is called: told, stand, first -/
namespace CFTd
open PySem PySem.Spec PyProof.Rows L2 DL CFH CFCl CFRu CFWd CFBk CFTu
theorem sg_small : ∀ c ∈ signs.cps.toList, c < 0x110000 := by decide +kernel
theorem word_ok {x : Str} (h : WordOk x) : PyData.canLay0 (.str x) = true := by
  show x.cps.all (· < 0x110000) = true
  rw [Array.all_eq_true]
  intro i hi
  have := sg_small _ (h.sg x.cps[i] (by simp))
  simpa using this
theorem lay_w {k : Nat} {x : Str} (h : WordOk x) : Lay k (.str x) := Lay.str (word_ok h)
theorem sh_w {x : Str} (h : WordOk x) : SeqAt.shaped (.str x) = true := (lay_w (k := 0) h).shaped
theorem eqv_str {a b : Str} : PyData.eqv (.str a) (.str b) = decide (a = b) := by
  simp only [PyData.eqv]
  by_cases h : a = b
  · subst h; simp
  · simp [h]
inductive Rw where
  | non (w : Str)
  | turn (h w : Str) (j : Nat)
  | sub (h w : Str) (j k : Nat)
  | on (h : Str) (k : Nat)
  | away (m : Nat) (r : Rw)
def rwL : Rw → List D
  | .non w => [.str "none", .str w]
  | .turn h w j => [.str "turn", .str h, .str w, .int (j : Nat)]
  | .sub h w j k => [.str "for", .str h, .str w, .int (j : Nat), .int (k : Nat)]
  | .on h k => [.str "on", .str h, .int (k : Nat)]
  | .away m r => [.str "away", .int (m : Nat), .tuple (rwL r)]
@[reducible] def rwD (r : Rw) : D := .tuple (rwL r)
def Rw.hand : Rw → Option Str
  | .turn h _ _ => some h
  | .sub h _ _ _ => some h
  | .on h _ => some h
  | _ => none
def Rw.kind : Rw → Str
  | .non _ => "none"
  | .turn _ _ _ => "turn"
  | .sub _ _ _ _ => "for"
  | .on _ _ => "on"
  | .away _ _ => "away"
theorem rw_0 {r : Rw} : atI (rwL r) 0 = some (.str r.kind) := by cases r <;> rfl
theorem rw_1 {r : Rw} {h : Str} (e : r.hand = some h) : atI (rwL r) 1 = some (.str h) := by cases r <;> cases e <;> rfl
def Rw.Ok : Rw → Prop
  | .non w => WordOk w
  | .turn h w _ => WordOk h ∧ WordOk w
  | .sub h w _ _ => WordOk h ∧ WordOk w
  | .on h _ => WordOk h
  | .away _ r => r.Ok
theorem Rw.Ok.hand {r : Rw} {h : Str} (o : r.Ok) (e : r.hand = some h) : WordOk h := by
  cases r <;> cases e
  · exact o.1
  · exact o.1
  · exact o
def rwDep : Rw → Nat
  | .away _ r => rwDep r + 1
  | _ => 1
theorem lay_rw : ∀ {r : Rw}, r.Ok → Lay (rwDep r) (rwD r)
  | .non w, h => Lay.tuple (k := 0) fun d hd => by
    simp only [rwL, List.mem_cons, List.not_mem_nil, or_false] at hd
    rcases hd with rfl | rfl
    · exact Lay.str (by decide +kernel)
    · exact lay_w h
  | .turn a w j, h => Lay.tuple (k := 0) fun d hd => by
    simp only [rwL, List.mem_cons, List.not_mem_nil, or_false] at hd
    rcases hd with rfl | rfl | rfl | rfl
    · exact Lay.str (by decide +kernel)
    · exact lay_w h.1
    · exact lay_w h.2
    · exact Lay.int _
  | .sub a w j k, h => Lay.tuple (k := 0) fun d hd => by
    simp only [rwL, List.mem_cons, List.not_mem_nil, or_false] at hd
    rcases hd with rfl | rfl | rfl | rfl | rfl
    · exact Lay.str (by decide +kernel)
    · exact lay_w h.1
    · exact lay_w h.2
    · exact Lay.int _
    · exact Lay.int _
  | .on a k, h => Lay.tuple (k := 0) fun d hd => by
    simp only [rwL, List.mem_cons, List.not_mem_nil, or_false] at hd
    rcases hd with rfl | rfl | rfl
    · exact Lay.str (by decide +kernel)
    · exact lay_w h
    · exact Lay.int _
  | .away m r, h => Lay.tuple (k := rwDep r) fun d hd => by
    have ih := lay_rw (r := r) h
    simp only [rwL, List.mem_cons, List.not_mem_nil, or_false] at hd
    rcases hd with rfl | rfl | rfl
    · exact Lay.str (by decide +kernel)
    · exact Lay.int _
    · exact ih
theorem lf_rw : ∀ {r : Rw}, lfree (rwD r) = true
  | .non w => rfl
  | .turn _ _ _ => rfl
  | .sub _ _ _ _ => rfl
  | .on _ _ => rfl
  | .away m r => lfree_tup fun d hd => by
    have ih := lf_rw (r := r)
    simp only [rwL, List.mem_cons, List.not_mem_nil, or_false] at hd
    rcases hd with rfl | rfl | rfl
    · rfl
    · rfl
    · exact ih
/-! what is told -/
def coversL (c : Chg) (t : Int) : Bool := decide (c.b ≤ t) && (match c.e with
  | none => true
  | some e => decide (t < e))
def covAt (cs : List Chg) (t : Int) (k : Nat) : Bool := match cs[k]? with
  | some c => coversL c t
  | none => false
def coveringL (cs : List Chg) (t : Int) : List Nat := (List.range cs.length).reverse.filter (covAt cs t)
def isAway (cs : List Chg) (h : Str) (k : Nat) : Bool := match cs[k]? with
  | some (.away h' _ _) => decide (h' = h)
  | _ => false
def isStand (cs : List Chg) (h : Str) (k : Nat) : Bool := match cs[k]? with
  | some (.stand _ o _ _) => decide (o = h)
  | _ => false
def onHand (cs : List Chg) (k : Nat) : Option Str := match cs[k]? with
  | some (.on h _ _) => some h
  | _ => none
def handOf (cs : List Chg) (k : Nat) : Option Str := (cs[k]?).map Chg.h
def lookL (cs : List Chg) (ks : List Nat) (r : Rw) (h : Str) : Rw := match ks.find? (isAway cs h) with
  | none => r
  | some m => .away m r
def layerRowL (cs : List Chg) (ks : List Nat) (l : Lyr) (r : Int) : Rw := match turnL l r with
  | none => .non l.word
  | some j => match l.turns[j]? with
    | none => .non l.word
    | some t => match ks.find? (isStand cs t.2.2) with
      | none => lookL cs ks (.turn t.2.2 l.word j) t.2.2
      | some k => match handOf cs k with
        | none => .non l.word
        | some g => lookL cs ks (.sub g l.word j k) g
def onsL (cs : List Chg) (ks : List Nat) : List Rw := ks.filterMap fun k => (onHand cs k).map fun h => lookL cs ks (.on h k) h
def toldL (b : Bk) (t : Int) : List Rw := onsL b.cs (coveringL b.cs t) ++ b.ls.map fun l => layerRowL b.cs (coveringL b.cs t) l (readingL b.js t)
def standG : List Str → List Rw → List Rw
  | _, [] => []
  | hs, r :: rs => match r.hand with
    | none => standG hs rs
    | some h => if h ∈ hs then standG hs rs else r :: standG (hs ++ [h]) rs
def standL (b : Bk) (t : Int) : List Rw := standG [] (toldL b t)
def firstL (b : Bk) (t : Int) : Option Rw := (standL b t).head?
@[reducible] def optR : Option Rw → D
  | none => .none
  | some r => rwD r
@[reducible] def ksD (ks : List Nat) : List D := ks.map fun (k : Nat) => .int k
/-! facts -/
structure BkW (b : Bk) : Prop where
  js : b.js.length ≤ 100
  ls : ∀ l ∈ b.ls, LyrOk l
  l4 : b.ls.length ≤ 100
  cs : ∀ c ∈ b.cs, ChgOk c
  c24 : b.cs.length ≤ 200
theorem cov_lt {cs : List Chg} {t : Int} {k : Nat} (h : k ∈ coveringL cs t) : k < cs.length := by
  have := (List.mem_filter.mp h).1
  simpa using this
theorem cov_len {cs : List Chg} {t : Int} : (coveringL cs t).length ≤ cs.length := by
  have := List.length_filter_le (covAt cs t) (List.range cs.length).reverse
  rw [List.length_reverse, List.length_range] at this
  exact this
theorem look_ok {cs : List Chg} {ks : List Nat} {r : Rw} {h : Str} (o : r.Ok) : (lookL cs ks r h).Ok := by
  unfold lookL
  split
  · exact o
  · exact o
theorem look_dep {cs : List Chg} {ks : List Nat} {r : Rw} {h : Str} (d : rwDep r ≤ 1) : rwDep (lookL cs ks r h) ≤ 2 := by
  unfold lookL
  split
  · omega
  · show rwDep r + 1 ≤ 2; omega
theorem ch_h {c : Chg} (h : ChgOk c) : WordOk c.h := by
  have := h.hs
  cases c with
  | away h b e => exact this
  | on h b e => exact this
  | stand h o b e => exact this.1
theorem trns_hand {M : Int} : ∀ {lo : Int} {ts : List Trn}, TrnsOk M lo ts → ∀ t ∈ ts, WordOk t.2.2
  | _, u :: ts, h, t, ht => by
    rcases List.mem_cons.mp ht with z | z
    · rw [z]; exact h.2.2.2.1
    · exact trns_hand h.2.2.2.2 t z
theorem layerRow_ok {cs : List Chg} {ks : List Nat} {l : Lyr} {r : Int} (hl : LyrOk l) (hc : ∀ c ∈ cs, ChgOk c) : (layerRowL cs ks l r).Ok ∧ rwDep (layerRowL cs ks l r) ≤ 2 := by
  unfold layerRowL
  split
  · exact ⟨hl.wd, by show 1 ≤ 2; omega⟩
  · split
    · exact ⟨hl.wd, by show 1 ≤ 2; omega⟩
    · rename_i j _ t ht
      have w := trns_hand hl.ts t (List.mem_of_getElem? ht)
      split
      · exact ⟨look_ok ⟨w, hl.wd⟩, look_dep (Nat.le_refl 1)⟩
      · split
        · exact ⟨hl.wd, by show 1 ≤ 2; omega⟩
        · rename_i g hg
          have wg : WordOk g := by
            unfold handOf at hg
            obtain ⟨c, e, rfl⟩ := Option.map_eq_some_iff.mp hg
            exact ch_h (hc c (List.mem_of_getElem? e))
          exact ⟨look_ok ⟨wg, hl.wd⟩, look_dep (Nat.le_refl 1)⟩
theorem ons_ok {cs : List Chg} {ks ks' : List Nat} (hc : ∀ c ∈ cs, ChgOk c) : ∀ r ∈ ks'.filterMap (fun k => (onHand cs k).map fun h => lookL cs ks (.on h k) h), r.Ok ∧ rwDep r ≤ 2 := fun r hr => by
  obtain ⟨k, _, e⟩ := List.mem_filterMap.mp hr
  cases e1 : onHand cs k with
  | none => rw [e1] at e; cases e
  | some h =>
    rw [e1] at e
    cases e
    have w : WordOk h := by
      unfold onHand at e1
      cases e2 : cs[k]? with
      | none => rw [e2] at e1; cases e1
      | some c =>
        rw [e2] at e1
        cases c <;> cases e1
        exact ch_h (hc _ (List.mem_of_getElem? e2))
    exact ⟨look_ok w, look_dep (Nat.le_refl 1)⟩
theorem told_ok {b : Bk} (h : BkW b) {t : Int} : ∀ r ∈ toldL b t, r.Ok ∧ rwDep r ≤ 2 := fun r hr => by
  rcases List.mem_append.mp hr with z | z
  · exact ons_ok h.cs r z
  · obtain ⟨l, hl, rfl⟩ := List.mem_map.mp z
    exact layerRow_ok (h.ls l hl) h.cs
theorem told_len {b : Bk} {t : Int} : (toldL b t).length ≤ b.cs.length + b.ls.length := by
  unfold toldL onsL
  rw [List.length_append, List.length_map]
  have := List.length_filterMap_le (fun k => (onHand b.cs k).map fun h => lookL b.cs (coveringL b.cs t) (.on h k) h) (coveringL b.cs t)
  have := cov_len (cs := b.cs) (t := t)
  omega
theorem stand_sub : ∀ {rs : List Rw} {hs : List Str} {r : Rw}, r ∈ standG hs rs → r ∈ rs
  | x :: rs, hs, r, h => by
    unfold standG at h
    split at h
    · exact .tail _ (stand_sub h)
    · split at h
      · exact .tail _ (stand_sub h)
      · rcases List.mem_cons.mp h with z | z
        · rw [z]; exact .head _
        · exact .tail _ (stand_sub z)
/-! promises -/
def S_covers : SpD := fun as Q _ => ∃ (c : Chg) (t : Int), as = [.v (chgD c), .v (.int t)] ∧ Q (.v (.bool (coversL c t))) as
def S_covering : SpD := fun as Q _ => ∃ (J L : D) (cs : List Chg) (t : Int), as = [.v (.tuple [J, L, chgsD cs]), .v (.int t)] ∧ cs.length ≤ 1000 ∧ Q (.own 0 (.lst (ksD (coveringL cs t)))) as
def S_away_by : SpD := fun as Q _ => ∃ (J L : D) (cs : List Chg) (ks : List Nat) (h : Str), as = [.v (.tuple [J, L, chgsD cs]), .v (.list (ksD ks)), .v (.str h)] ∧ (∀ c ∈ cs, ChgOk c) ∧ (∀ k ∈ ks, k < cs.length) ∧ WordOk h ∧ Q (.v (optN (ks.find? (isAway cs h)))) as
def S_stood_for : SpD := fun as Q _ => ∃ (J L : D) (cs : List Chg) (ks : List Nat) (h : Str), as = [.v (.tuple [J, L, chgsD cs]), .v (.list (ksD ks)), .v (.str h)] ∧ (∀ c ∈ cs, ChgOk c) ∧ (∀ k ∈ ks, k < cs.length) ∧ WordOk h ∧ Q (.v (optN (ks.find? (isStand cs h)))) as
def S_looked_at : SpD := fun as Q _ => ∃ (J L : D) (cs : List Chg) (ks : List Nat) (r : Rw) (h : Str), as = [.v (.tuple [J, L, chgsD cs]), .v (.list (ksD ks)), .v (rwD r)] ∧ (∀ c ∈ cs, ChgOk c) ∧ (∀ k ∈ ks, k < cs.length) ∧ r.hand = some h ∧ WordOk h ∧ Q (.v (rwD (lookL cs ks r h))) as
def S_layer_row : SpD := fun as Q _ => ∃ (J L : D) (cs : List Chg) (ks : List Nat) (l : Lyr) (r : Int), as = [.v (.tuple [J, L, chgsD cs]), .v (.list (ksD ks)), .v (lyrD l), .v (.int r)] ∧ (∀ c ∈ cs, ChgOk c) ∧ (∀ k ∈ ks, k < cs.length) ∧ LyrOk l ∧ Q (.v (rwD (layerRowL cs ks l r))) as
def S_told : SpD := fun as Q _ => ∃ (b : Bk) (t : Int), as = [.v (bkD b), .v (.int t)] ∧ BkW b ∧ Q (.v (.tuple ((toldL b t).map rwD))) as
def S_stand : SpD := fun as Q _ => ∃ (b : Bk) (t : Int), as = [.v (bkD b), .v (.int t)] ∧ BkW b ∧ Q (.v (.tuple ((standL b t).map rwD))) as
def S_first : SpD := fun as Q _ => ∃ (b : Bk) (t : Int), as = [.v (bkD b), .v (.int t)] ∧ BkW b ∧ Q (.v (optR (firstL b t))) as
theorem told_i {b : Bk} {t : Int} {Q E} (h : BkW b) (q : Q (.v (.tuple ((toldL b t).map rwD))) [.v (bkD b), .v (.int t)]) : S_told [.v (bkD b), .v (.int t)] Q E := ⟨b, t, rfl, h, q⟩
theorem stand_i {b : Bk} {t : Int} {Q E} (h : BkW b) (q : Q (.v (.tuple ((standL b t).map rwD))) [.v (bkD b), .v (.int t)]) : S_stand [.v (bkD b), .v (.int t)] Q E := ⟨b, t, rfl, h, q⟩
theorem first_i {b : Bk} {t : Int} {Q E} (h : BkW b) (q : Q (.v (optR (firstL b t))) [.v (bkD b), .v (.int t)]) : S_first [.v (bkD b), .v (.int t)] Q E := ⟨b, t, rfl, h, q⟩
theorem len_covers : ∀ as QD ED, S_covers as QD ED → as.length = 2 := by
  rintro as QD ED ⟨_, _, rfl, _⟩
  rfl
theorem len_covering : ∀ as QD ED, S_covering as QD ED → as.length = 2 := by
  rintro as QD ED ⟨_, _, _, _, rfl, _⟩
  rfl
theorem len_away_by : ∀ as QD ED, S_away_by as QD ED → as.length = 3 := by
  rintro as QD ED ⟨_, _, _, _, _, rfl, _⟩
  rfl
theorem len_stood_for : ∀ as QD ED, S_stood_for as QD ED → as.length = 3 := by
  rintro as QD ED ⟨_, _, _, _, _, rfl, _⟩
  rfl
theorem len_looked_at : ∀ as QD ED, S_looked_at as QD ED → as.length = 3 := by
  rintro as QD ED ⟨_, _, _, _, _, _, rfl, _⟩
  rfl
theorem len_layer_row : ∀ as QD ED, S_layer_row as QD ED → as.length = 4 := by
  rintro as QD ED ⟨_, _, _, _, _, _, rfl, _⟩
  rfl
theorem len_told : ∀ as QD ED, S_told as QD ED → as.length = 2 := by
  rintro as QD ED ⟨_, _, rfl, _⟩
  rfl
theorem len_stand : ∀ as QD ED, S_stand as QD ED → as.length = 2 := by
  rintro as QD ED ⟨_, _, rfl, _⟩
  rfl
theorem len_first : ∀ as QD ED, S_first as QD ED → as.length = 2 := by
  rintro as QD ED ⟨_, _, rfl, _⟩
  rfl
end CFTd

section
set_option Elab.async false
set_option linter.all false
set_option maxRecDepth 100000
set_option maxHeartbeats 4000000
namespace K10
open PySem PySem.Spec PyProof.Rows L2 DL CFH CFCl CFRu CFWd CFBk CFIs
local macro_rules | `(tactic| tm_at "dw") => `(tactic| with_reducible (conv => whnf))
local macro_rules | `(tactic| tm_at "dside") => `(tactic| first | with_reducible assumption | ((with_reducible show CDivW _ _); exact ⟨by omega, log2_sm (by omega)⟩) | exact rfl | exact True.intro | exact Nat.le_of_ble_eq_true rfl | (intro z; first | exact rfl | exact (Bool.false_ne_true z).elim) | (intro _; (with_reducible refine And.intro ?_ ?_) <;> first | exact rfl | assumption) | (intro _; assumption) | (intro _; with_reducible exact lf_ints) | (intro _; with_reducible exact lf_strs) | ((with_reducible show SeqAt.shaped (PyData.str _) = true); exact (Lay.str (k := 0) (by first | assumption | decide +kernel)).shaped) | omega | (simp only [List.length_map, List.length_reverse, List.length_append, List.length_cons, List.length_nil]; omega) | exact And.intro (by omega) (by with_reducible assumption) | exact And.intro (by omega) (by decide +kernel) | exact And.intro (by omega) (And.intro (by omega) (by omega)) | exact MulOk.left ⟨by omega, by omega⟩ | exact MulOk.right ⟨by omega, by omega⟩ | exact le1000 (by first | omega | (simp only [List.length_map, List.length_reverse, List.length_append, List.length_cons, List.length_nil, rangeD_len, enumF_len]; omega)) | with_reducible exact lf_ints | with_reducible exact lf_strs | assumption | decide)
local macro_rules | `(tactic| tm_at "do") => `(tactic| first | with_reducible exact intsOf_map _ | with_reducible exact boolsOf_map _ | ((with_reducible show lstOf _ _ = _); with_unfolding_all exact rfl) | ((with_reducible show intsOf _ = _); with_unfolding_all exact rfl) | ((with_reducible show itemsD _ = _); with_unfolding_all exact rfl) | ((with_reducible show itemsLT _ = _); with_unfolding_all exact rfl) | ((with_reducible show boolsOf _ = _); with_unfolding_all exact rfl) | ((with_reducible show strsOf _ = _); with_unfolding_all exact rfl) | ((with_reducible show keyD _ = _); with_unfolding_all exact rfl) | with_reducible exact atI_0 | with_reducible exact atI_1 | with_reducible exact atI_2 | with_reducible exact atI_3 | with_reducible exact atI_4 | with_reducible exact setI_0 | with_reducible exact setI_1 | with_reducible exact setI_2 | with_reducible exact setI_3)
local macro_rules | `(tactic| tm_at "dz") => `(tactic| (intro z; (try simp only [decide_eq_true_eq, decide_eq_false_iff_not, eqv_int, Bool.not_eq_true', Bool.not_eq_false', Bool.not_not, Bool.false_eq_true, reduceCtorEq, Int.not_lt, Int.not_le, wholeD, List.length_cons, List.length_nil, List.length_map, isT_tuple_none, isT_tuple_bool, isT_tuple_int, isT_tuple_str, isT_tuple_list, isT_tuple_tuple, isT_int_none, isT_int_bool, isT_int_int, isT_int_str, isT_int_list, isT_int_tuple, isT_bool_none, isT_bool_bool, isT_bool_int, isT_bool_str, isT_bool_list, isT_bool_tuple, isT_str_none, isT_str_bool, isT_str_int, isT_str_str, isT_str_list, isT_str_tuple, isT_list_none, isT_list_bool, isT_list_int, isT_list_str, isT_list_list, isT_list_tuple] at z); try (first | (exfalso; omega) | exact (Bool.false_ne_true z).elim | (cases z; done))))
local macro_rules | `(tactic| tm_at "dnorm") => `(tactic| first | ((simp only [rset, rget, frzC, retag, clr, back]); done) | ((simp only [rset, rget, frzC, retag, clr, back]); exact rfl) | exact rfl)
local macro_rules | `(tactic| tm_at "dh") => `(tactic| first | ((with_reducible show wSeq _ _ _ _); with_reducible refine wSeq_i (by tm_at "dnorm") ?_) | ((with_reducible show optK _ _); with_reducible refine optK_of (by tm_at "do") ?_) | (with_reducible refine ifb ?_ ?_) <;> tm_at "dz" | ((with_reducible refine And.intro ?_ ?_); tm_at "dside") | fail "dh")
local macro_rules | `(tactic| tm_at "dc") => `(tactic| fail "dc")
local macro_rules | `(tactic| tm_at "dt") => `(tactic| first | (tm_at "dh" <;> (try tm_at "dw")) | (tm_at "dc" <;> (try tm_at "dw")))
local macro_rules | `(tactic| tm_at "dstart") => `(tactic| simp only [startD, List.length_cons, List.length_nil, Nat.reduceAdd, Nat.reduceSub, List.replicate, List.cons_append, List.nil_append])
local macro_rules | `(tactic| tm_at "dl") => `(tactic| ((try tm_at "dw"); repeat' tm_at "dt"))
local macro_rules | `(tactic| tm_at "dlc") => `(tactic| first | with_reducible refine lcK_eq (by tm_at "dnorm") ?_ | with_reducible refine forK_eq (by tm_at "dnorm") ?_)
local macro_rules | `(tactic| tm_at "dpos") => `(tactic| first | omega | decide)
local macro_rules | `(tactic| tm_at "dlog") => `(tactic| first | exact log2_sm (by omega) | exact CFH.big_log (by omega) (by omega) | assumption | exact log2_sm (by decide))
local macro_rules | `(tactic| tm_at "dc") => `(tactic| ((with_reducible show CFH.S_law_take _ _ _); refine CFH.take_i (by assumption) (by omega) (by tm_at "dpos") (by tm_at "dlog") (fun _ _ _ _ _ => ?_)))
local macro_rules | `(tactic| tm_at "dc") => `(tactic| ((with_reducible show CFH.S_law_great _ _ _); refine CFH.great_i (by assumption) (by omega) (fun _ _ _ _ _ => ?_)))
local macro_rules | `(tactic| tm_at "dc") => `(tactic| ((with_reducible show CFH.S_law_whole _ _ _); refine CFH.whole_i ?_))
local macro_rules | `(tactic| tm_at "dh") => `(tactic| first | ((with_reducible show ite _ _ _); first | (with_reducible refine DL.ifb_t (by with_reducible assumption) ?_) | (with_reducible refine DL.ifb_f (by with_reducible assumption) ?_)) | fail "dk")
local macro_rules | `(tactic| tm_at "do") => `(tactic| with_reducible assumption)
theorem ok_law_is_whole : ∀ as QD ED, S_law_is_whole as QD ED → w_law_is_whole (bodyEnds as QD fun _ _ => False) (startD n_law_is_whole as) := CFIs.ok_is_whole
theorem ok_law_is_word : ∀ as QD ED, S_law_is_word as QD ED → w_law_is_word (bodyEnds as QD fun _ _ => False) (startD n_law_is_word as) := by
  rintro as QD ED ⟨d, rfl, hs, q⟩
  unfold n_law_is_word w_law_is_word
  tm_at "dstart"
  tm_at "dl"
  · rw [isWd_no ‹_›] at q
    exact q
  obtain ⟨s, rfl⟩ := isT_str ‹_›
  have sl := sml_str hs
  have sz : s.length ≤ sizeLine := Nat.le_trans sl (Nat.le_of_ble_eq_true rfl)
  tm_at "dl"
  · rw [isWd_bad (by omega)] at q
    exact q
  · rw [isWd_bad (by omega)] at q
    exact q
  · rw [isWd_at (by omega)] at q
    refine ⟨by rw [strD_len]; exact sz, ?_⟩
    rw [show strD s = (strD s).map id from (List.map_id _).symm]
    refine lcK_ys (fun x : D => PyData.bool (sgOk x)) (strD s) (fun x hx next hnx => ?_) ?_
    · obtain ⟨c, _, rfl⟩ := List.mem_map.mp hx
      simp only [id_eq]
      tm_at "dl"
      exact hnx
    · tm_at "dl"
      rw [show ((strD s).map fun x => PyData.bool (sgOk x)) = ((strD s).map sgOk).map PyData.bool by rw [List.map_map]; rfl]
      refine optK_of (boolsOf_map _) ?_
      rw [List.all_map]
      tm_at "dl"
      exact q
theorem ok_law_are_turns : ∀ as QD ED, S_law_are_turns as QD ED → w_law_are_turns (bodyEnds as QD fun _ _ => False) (startD n_law_are_turns as) := by
  rintro as QD ED ⟨d, most, rfl, hs, q⟩
  unfold n_law_are_turns w_law_are_turns
  tm_at "dstart"
  tm_at "dl"
  · rw [areTu_no ‹_›] at q
    exact q
  obtain ⟨ds, rfl⟩ := isT_tup ‹_›
  have hs := sml_tup.mp hs
  tm_at "dl"
  · rw [areTu_bad (by omega)] at q
    exact q
  rw [areTu_at (by omega)] at q
  refine forK_ind (fun es ρ => (∀ d ∈ es, sml d = true) ∧ ∃ (low : Int) (c3 : C), ρ = [.v (.tuple ds), .v (.int most), .v (.int low), c3] ∧ QD (.v (.bool (tuF most low es))) [.v (.tuple ds), .v (.int most)]) ?_ ?_ _ _ ⟨hs, 0, _, rfl, q⟩
  · rintro ρ ⟨_, low, c3, rfl, q⟩
    tm_at "dl"
    exact q
  rintro t es ρ next hn ⟨hs, low, c3, rfl, q⟩
  have ht := hs t (.head _)
  have q : QD (.v (.bool (isTu low most t && tuF most (enT t) es))) _ := q
  tm_at "dl"
  · rw [isTu_no ‹isT "tuple" t = false›, Bool.false_and] at q
    exact q
  obtain ⟨us, rfl⟩ := isT_tup ‹isT "tuple" t = true›
  have ht := sml_tup.mp ht
  tm_at "dl"
  · rw [isTu_len (fun e => ‹¬ (us.length : Int) = 3› (by omega)), Bool.false_and] at q
    exact q
  obtain ⟨b, e, h, rfl⟩ := len3 (ds := us) (by omega)
  have hh : sml h = true := ht h (by simp)
  rw [isTu_3] at q
  have a0 : atI [b, e, h] 0 = some b := atI_0
  have a1 : atI [b, e, h] 1 = some e := atI_1
  have a2 : atI [b, e, h] 2 = some h := L2.atI_nat (j := 2) rfl
  tm_at "dl"
  refine ⟨b, rfl, ?_⟩
  tm_at "dl"
  · rw [‹isWh b = false›, Bool.false_and, Bool.false_and, Bool.false_and, Bool.false_and] at q
    exact q
  refine ⟨e, rfl, ?_⟩
  tm_at "dl"
  · rw [‹isWh e = false›, Bool.and_false, Bool.false_and, Bool.false_and, Bool.false_and] at q
    exact q
  refine ⟨h, rfl, hh, ?_⟩
  tm_at "dl"
  · rw [‹isWd h = false›, Bool.and_false, Bool.false_and, Bool.false_and] at q
    exact q
  obtain ⟨i, rfl⟩ := isWh_int ‹isWh b = true›
  obtain ⟨j, rfl⟩ := isWh_int ‹isWh e = true›
  rw [‹isWd h = true›] at q
  have q : QD (.v (.bool (decide (low ≤ i ∧ i < j ∧ j ≤ most) && tuF most j es))) _ := q
  tm_at "dl"
  all_goals first
    | (rw [decide_eq_false (by omega), Bool.false_and] at q
       exact q)
    | (rw [decide_eq_true (by omega), Bool.true_and] at q
       exact hn _ ⟨fun d h => hs d (.tail _ h), j, _, rfl, q⟩)
theorem ok_law_due : ∀ as QD ED, S_law_due as QD ED → w_law_due (bodyEnds as QD fun _ _ => False) (startD n_law_due as) := by
  rintro as QD ED ⟨d, rfl, hs, q⟩
  unfold n_law_due w_law_due
  tm_at "dstart"
  tm_at "dl"
  · rw [isLy_no ‹_›] at q
    exact q
  obtain ⟨ds, rfl⟩ := isT_tup ‹_›
  have hs := sml_tup.mp hs
  tm_at "dl"
  · rw [isLy_len (fun e => ‹¬ (ds.length : Int) = 4› (by omega))] at q
    exact q
  obtain ⟨w, s, e, ts, rfl⟩ := len4 (ds := ds) (by omega)
  have hw : sml w = true := hs w (by simp)
  have ht : sml ts = true := hs ts (by simp)
  rw [isLy_4] at q
  tm_at "dl"
  refine ⟨w, rfl, hw, ?_⟩
  tm_at "dl"
  · rw [‹isWd w = false›, Bool.false_and, Bool.false_and, Bool.false_and] at q
    exact q
  refine ⟨s, rfl, ?_⟩
  tm_at "dl"
  · rw [‹isWh s = false›, Bool.and_false, Bool.false_and, Bool.false_and] at q
    exact q
  refine ⟨e, rfl, ?_⟩
  tm_at "dl"
  · rw [‹isWh e = false›, Bool.and_false, Bool.false_and] at q
    exact q
  obtain ⟨s, rfl⟩ := isWh_int ‹isWh s = true›
  obtain ⟨e, rfl⟩ := isWh_int ‹isWh e = true›
  rw [‹isWd w = true›] at q
  have q : QD (.v (.bool (decide (1 ≤ e ∧ e ≤ 60) && decide (0 ≤ s ∧ s < 1440 * e) && areTu (1440 * e) ts))) _ := q
  have mo : MulOk 1440 e := MulOk.left (by decide)
  have a1 : atI [w, .int s, .int e, ts] 1 = some (.int s) := atI_1
  have a2 : atI [w, .int s, .int e, ts] 2 = some (.int e) := L2.atI_nat (j := 2) rfl
  have a3 : atI [w, .int s, .int e, ts] 3 = some ts := L2.atI_nat (j := 3) rfl
  tm_at "dl"
  all_goals first
    | (rw [decide_eq_false (show ¬ (1 ≤ e ∧ e ≤ 60) by omega), Bool.false_and, Bool.false_and] at q
       exact q)
    | (rw [decide_eq_false (show ¬ (0 ≤ s ∧ s < 1440 * e) by omega), Bool.and_false, Bool.false_and] at q
       exact q)
    | (rw [decide_eq_true (show 1 ≤ e ∧ e ≤ 60 by omega), decide_eq_true (show 0 ≤ s ∧ s < 1440 * e by omega)] at q
       refine ⟨ts, 1440 * e, rfl, ht, ?_⟩
       tm_at "dl"
       exact q)
theorem ok_law_bent_word : ∀ as QD ED, S_law_bent_word as QD ED → w_law_bent_word (bodyEnds as QD fun _ _ => False) (startD n_law_bent_word as) := by
  rintro as QD ED ⟨h, n, w, rfl, ho, hn, hw, q⟩
  have l1 := hw.l1
  have l8 := hw.l8
  have sz : w.length ≤ sizeLine := Nat.le_trans l8 (Nat.le_of_ble_eq_true rfl)
  unfold n_law_bent_word w_law_bent_word
  tm_at "dstart"
  tm_at "dl"
  rename_i h3 a o3 a0 a1
  refine pick_s o3 (by omega) (Nat.zero_lt_succ _) (Nat.le_of_ble_eq_true rfl) fun h4 c o4 hc4 => ?_
  have cl : ∀ lo hi, (cutS w lo hi).length ≤ 8 := fun lo hi => Nat.le_trans cutS_len l8
  have c1 : (⟨#[c]⟩ : Str).length = 1 := rfl
  have szl : ∀ {m : Nat}, m ≤ 1000 → m ≤ sizeLine := fun h => Nat.le_trans h (Nat.le_of_ble_eq_true rfl)
  have k1 := cl none (some a)
  have k2 := cl (some a) none
  have k3 := cl (some (a + 1)) none
  have e1 : (cutS w none (some a) ++ (⟨#[c]⟩ : Str)).length = (cutS w none (some a)).length + 1 := str_app
  have e2 : (cutS w none (some a) ++ (⟨#[c]⟩ : Str) ++ cutS w (some a) none).length = (cutS w none (some a)).length + 1 + (cutS w (some a) none).length := by rw [str_app, e1]
  have e3 : (cutS w none (some a) ++ cutS w (some (a + 1)) none).length = (cutS w none (some a)).length + (cutS w (some (a + 1)) none).length := str_app
  have e4 : (cutS w none (some a) ++ (⟨#[c]⟩ : Str) ++ cutS w (some (a + 1)) none).length = (cutS w none (some a)).length + 1 + (cutS w (some (a + 1)) none).length := by rw [str_app, e1]
  have s1 : (cutS w none (some a)).length + (⟨#[c]⟩ : Str).length ≤ sizeLine := szl (by omega)
  have s2 : (cutS w none (some a) ++ (⟨#[c]⟩ : Str)).length + (cutS w (some a) none).length ≤ sizeLine := szl (by omega)
  have s3 : (cutS w none (some a)).length + (cutS w (some (a + 1)) none).length ≤ sizeLine := szl (by omega)
  have s4 : (cutS w none (some a) ++ (⟨#[c]⟩ : Str)).length + (cutS w (some (a + 1)) none).length ≤ sizeLine := szl (by omega)
  have rl := rep_len (a := w) (k := (9 : Int).toNat)
  have r9 : w.length * (9 : Int).toNat = 9 * w.length := Nat.mul_comm ..
  have s5 : (repS w (9 : Int).toNat).length ≤ sizeLine := szl (by omega)
  have up := PyProof.Rows.len_upper w
  tm_at "dl"
  refine q h4 _ (o4.up (by omega)) (AllS.app (.cons (sml_of (by omega)) (.cons (sml_of (by omega)) (.cons (sml_of (by omega)) .nil))) ?_) (Nat.le_of_ble_eq_true rfl)
  have cr : ∀ hi, (cutS (repS w (9 : Int).toNat) none hi).length ≤ 1000 := fun hi => Nat.le_trans cutS_len (by omega)
  exact .cons (sml_of (by have := cr (some 8); omega)) (.cons (sml_of (by have := cr (some 9); omega)) (.cons (sml_of (by omega)) (.cons (sml_of (by decide)) (.cons rfl (.cons (AllS.tup (.cons (sml_of (by omega)) .nil)) (.cons rfl (.cons rfl .nil)))))))
theorem ok_law_others : ∀ as QD ED, S_law_others as QD ED → w_law_others (bodyEnds as QD fun _ _ => False) (startD n_law_others as) := by
  rintro as QD ED ⟨h, n, d, days, rfl, ho, hn, pt, d1, d60, q⟩
  have mo : MulOk 1440 days := MulOk.left (by decide)
  unfold n_law_others w_law_others
  rcases pt with ⟨w, rfl, hw⟩ | ⟨i, rfl, hi⟩ | ⟨ts, rfl, ht, tl⟩
  · tm_at "dstart"
    tm_at "dl"
    refine ⟨h, n, w, rfl, ho, by omega, hw, fun h' ds o' ha hl => ?_⟩
    tm_at "dl"
    exact q h' ds o' ha hl
  · have lg : i.natAbs.log2 < 1920 := PySem.Flt.log2_lt_of (by decide) (Nat.lt_of_lt_of_le hi (by decide +kernel))
    have tl : (Str.ofString (toString i)).length ≤ 61 := by rw [PySem.ofString_length]; exact int_text_length_le10 (by decide) hi
    tm_at "dstart"
    tm_at "dl"
    refine q _ _ (Hd.ok.up (by assumption) (by omega)) (AllS.app (.cons rfl (.cons rfl (.cons rfl (.cons rfl (.cons rfl (.cons rfl (.cons rfl (.cons rfl (.cons rfl (.cons rfl .nil)))))))))) ?_) (Nat.le_of_ble_eq_true rfl)
    exact .cons rfl (.cons rfl (.cons rfl (.cons rfl (.cons (sml_of (by omega)) (.cons (AllS.tup (.cons rfl .nil)) .nil)))))
  · have cl : ∀ lo hi, (DL.cutD ts lo hi).length ≤ 40 := fun lo hi => Nat.le_trans cut_len tl
    have szl : ∀ {m : Nat}, m ≤ 1000 → m ≤ sizeLine := fun h => Nat.le_trans h (Nat.le_of_ble_eq_true rfl)
    have k1 := cl (some (-1)) none
    have s1 : ts.length + (DL.cutD ts (some (-1)) none).length ≤ sizeLine := szl (by omega)
    tm_at "dstart"
    tm_at "dl"
    exact q h _ (ho.up (by omega)) (.cons (AllS.lst ht) (.cons (AllS.tup ht.cut) (.cons (AllS.tup (AllS.app ht ht.cut)) (.cons (AllS.tup .nil) (.cons rfl (.cons (sml_of (by decide)) (.cons rfl (.cons (AllS.tup (.cons (AllS.tup ht) .nil)) .nil)))))))) (Nat.le_of_ble_eq_true rfl)
theorem ok_law_bent : ∀ as QD ED, S_law_bent as QD ED → w_law_bent (bodyEnds as QD fun _ _ => False) (startD n_law_bent as) := by
  rintro as QD ED ⟨h, n, row, days, rfl, ho, hn, pt, r4, d1, d60, q⟩
  have ra : AllS row := fun d hd => (pt d hd).sml
  have szl : ∀ {m : Nat}, m ≤ 1000 → m ≤ sizeLine := fun h => Nat.le_trans h (Nat.le_of_ble_eq_true rfl)
  unfold n_law_bent w_law_bent
  tm_at "dstart"
  tm_at "dl"
  refine pick_i ho (by omega) (Nat.zero_lt_succ _) (Nat.le_of_ble_eq_true rfl) fun h1 odd o1 hodd => ?_
  have so : sml odd = true := by
    simp only [List.mem_cons, List.not_mem_nil, or_false] at hodd
    rcases hodd with rfl | rfl | rfl | rfl | rfl <;> first | rfl | exact sml_of (by decide) | exact AllS.tup .nil
  clear hodd
  have s1 : row.length + [odd].length ≤ sizeLine := szl (by show row.length + 1 ≤ 1000; omega)
  have s2 : [odd].length + row.length ≤ sizeLine := szl (by show 1 + row.length ≤ 1000; omega)
  tm_at "dl"
  refine forK_r0 row.length (fun k ρ => ∃ (h' : Hd) (acc : List D) (c5 c6 : C), h'.ok (n + 1 + 2 * k) ∧ AllS acc ∧ acc.length ≤ 3 + 22 * k ∧ ρ = [hc h', .v (.tuple row), .v (.int days), .v odd, .own 0 (.lst acc), c5, c6]) ⟨h1, _, _, _, o1, .cons (AllS.lst ra) (.cons (AllS.tup (AllS.app ra (.cons so .nil))) (.cons (AllS.tup (AllS.app (.cons so .nil) ra)) .nil)), Nat.le_refl _, rfl⟩ ?_ ?_
  · rintro ρ ⟨h', acc, c5, c6, o', ha, hl, rfl⟩
    tm_at "dl"
    exact q h' acc (o'.up (by omega)) ha (by omega)
  · rintro k ρ next hk hnx ⟨h', acc, c5, c6, o', ha, hl, rfl⟩
    obtain ⟨d, gd⟩ : ∃ d, row[k]? = some d := ⟨_, List.getElem?_eq_getElem hk⟩
    have ad : atI row (k : Int) = some d := L2.atI_nat gd
    have pd := pt d (List.mem_of_getElem? gd)
    have cl : ∀ lo hi, (DL.cutD row lo hi).length ≤ 4 := fun lo hi => Nat.le_trans cut_len r4
    have k1 := cl none (some (k : Int))
    have k2 := cl (some ((k : Int) + 1)) none
    have k3 := cl none (some ((k : Int) + 1))
    have k4 := cl (some (k : Int)) none
    have t1 : (DL.cutD row none (some (k : Int))).length + (DL.cutD row (some ((k : Int) + 1)) none).length ≤ sizeLine := szl (by omega)
    have t2 : (DL.cutD row none (some ((k : Int) + 1))).length + (DL.cutD row (some (k : Int)) none).length ≤ sizeLine := szl (by omega)
    have t3 : acc.length < sizeLine := Nat.lt_of_lt_of_le (show acc.length < 1000 by omega) (Nat.le_of_ble_eq_true rfl)
    tm_at "dl"
    refine ⟨h', _, d, days, rfl, o', by omega, pd, d1, d60, fun h2 ds o2 hds dl => ?_⟩
    tm_at "dl"
    have hc2 : AllS (acc ++ [PyData.tuple (DL.cutD row none (some (k : Int)) ++ DL.cutD row (some ((k : Int) + 1)) none)] ++ [PyData.tuple (DL.cutD row none (some ((k : Int) + 1)) ++ DL.cutD row (some (k : Int)) none)]) := AllS.app (AllS.app ha (.cons (AllS.tup (AllS.app ra.cut ra.cut)) .nil)) (.cons (AllS.tup (AllS.app ra.cut ra.cut)) .nil)
    refine forK_ind (fun es ρ => ∃ (acc2 : List D) (c6 : C), AllS es ∧ AllS acc2 ∧ acc2.length + es.length ≤ 3 + 22 * (k + 1) ∧ ρ = [hc h2, .v (.tuple row), .v (.int days), .v odd, .own 0 (.lst acc2), .v (.int (k : Nat)), c6]) ?_ ?_ _ _ ⟨_, _, hds, hc2, by rw [List.length_append, List.length_append, List.length_singleton, List.length_singleton]; omega, rfl⟩
    · rintro ρ ⟨acc2, c6, _, ha2, hl2, rfl⟩
      exact hnx _ ⟨h2, acc2, _, _, o2, ha2, hl2, rfl⟩
    · rintro e es ρ next2 hn2 ⟨acc2, c6, hes, ha2, hl2, rfl⟩
      rw [List.length_cons] at hl2
      have se := hes e (.head _)
      have t3 : acc2.length < sizeLine := Nat.lt_of_lt_of_le (show acc2.length < 1000 by omega) (Nat.le_of_ble_eq_true rfl)
      have t4 : (DL.cutD row none (some (k : Int))).length + [e].length ≤ sizeLine := szl (by show _ + 1 ≤ 1000; omega)
      have t5 : (DL.cutD row none (some (k : Int)) ++ [e]).length + (DL.cutD row (some ((k : Int) + 1)) none).length ≤ sizeLine := szl (by rw [List.length_append]; show _ + 1 + _ ≤ 1000; omega)
      clear hnx
      tm_at "dl"
      exact hn2 _ ⟨_, _, fun x hx => hes x (.tail _ hx), AllS.app ha2 (.cons (AllS.tup (AllS.app (AllS.app ra.cut (.cons se .nil)) ra.cut)) .nil), by rw [List.length_append, List.length_singleton]; omega, rfl⟩
def w_things_t : WS := (wSeq (wSetF 8 (wL oTup (wCons (wVar 4) (wCons (wVar 5) (wCons (wVar 6) (wCons (wVar 7) wNil))))))
    (wSeq (wSet 9 (wCat (wL oLst (wCons (wVar 8) wNil)) (wCall S_law_bent (wCons (wPk 0) (wCons (wVar 8) (wCons (wVar 6) wNil))))))
    (wSeq (wIf (wTst (wB oNe (wVar 7) (wL oTup wNil)))
    (wSeq (wSetF 10 (wCall CFH.S_law_take (wCons (wPk 0) (wCons (wL oLen (wCons (wVar 7) wNil)) wNil))))
    (wSeq (wFor (wISeq (wCall S_law_bent (wCons (wPk 0) (wCons (wB oIx (wVar 7) (wVar 10)) (wCons (wVar 6) wNil))))) (wgName 11)
    (wDrop (wApp 9 (wL oTup (wCons (wVar 4) (wCons (wVar 5) (wCons (wVar 6) (wCons (wB oPlus (wB oPlus (wSl (wVar 7) wNoPart (wPart (wVar 10))) (wL oTup (wCons (wVar 11) wNil))) (wSl (wVar 7) (wPart (wB oAdd (wVar 10) (wC (.int 1)))) wNoPart)) wNil))))))))
    (wSeq (wDrop (wApp 9 (wL oTup (wCons (wVar 4) (wCons (wVar 5) (wCons (wVar 6) (wCons (wB oPlus (wSl (wVar 7) wNoPart (wPart (wVar 10))) (wSl (wVar 7) (wPart (wB oAdd (wVar 10) (wC (.int 1)))) wNoPart)) wNil)))))))
    (wSeq (wDrop (wApp 9 (wL oTup (wCons (wVar 4) (wCons (wVar 5) (wCons (wVar 6) (wCons (wB oPlus (wSl (wVar 7) wNoPart (wPart (wB oAdd (wVar 10) (wC (.int 1))))) (wSl (wVar 7) (wPart (wVar 10)) wNoPart)) wNil)))))))
    (wSeq (wDrop (wApp 9 (wL oTup (wCons (wVar 4) (wCons (wVar 5) (wCons (wVar 6) (wCons (wB oPlus (wB oPlus (wSl (wVar 7) wNoPart (wPart (wVar 10))) (wL oTup (wCons (wC .none) wNil))) (wSl (wVar 7) (wPart (wVar 10)) wNoPart)) wNil)))))))
    (wDrop (wApp 9 (wL oTup (wCons (wVar 4) (wCons (wVar 5) (wCons (wVar 6) (wCons (wB oPlus (wSl (wVar 7) (wPart (wVar 10)) wNoPart) (wSl (wVar 7) wNoPart (wPart (wVar 10)))) wNil))))))))))))
    wNext)
    (wRetO 9))))
def w_things1 : WS := wSeq (wPar 1 2 (wCons (wCall CFH.S_law_take (wCons (wPk 0) (wCons (wC (.int 4)) wNil))) (wCons (wCall CFH.S_law_pick (wCons (wPk 0) (wCons (wL oLst (wCons (wC (.int 1)) (wCons (wC (.int 2)) (wCons (wC (.int 7)) (wCons (wC (.int 59)) (wCons (wC (.int 60)) (wCons (wC (.int 3)) (wCons (wC (.int 30)) wNil)))))))) wNil))) wNil)))
    (wSeq (wSetF 3 (wCall CFWd.S_law_words (wCons (wPk 0) (wCons (wC (.int 4)) wNil))))
    (wSeq (wAsg (wCall CFLy.S_law_layer (wCons (wPk 0) (wCons (wB oIx (wVar 3) (wC (.int 3))) (wCons (wSl (wVar 3) wNoPart (wPart (wC (.int 3)))) (wCons (wVar 2) (wCons (wB oIx (wL oLst (wCons (wC (.int 3)) (wCons (wC (.int 6)) (wCons (wC (.int 12)) (wCons (wC (.int 15)) wNil))))) (wVar 1)) wNil)))))) (wgTup 4 (wgCons (wgName 4) (wgCons (wgName 5) (wgCons (wgName 6) (wgCons (wgName 7) wgNil))))))
    (wSeq (wIf (wTst (wB oEq (wVar 1) (wC (.int 3))))
    (wSetF 7 (wL oTuple (wCons (wLcB [13] (wIR1 (wCons (wB oAdd (wC (.int 11)) (wCall CFH.S_law_take (wCons (wPk 0) (wCons (wC (.int 3)) wNil)))) wNil)) (wgName 13) wYes (wL oTup (wCons (wB oMul (wC (.int 100)) (wVar 13)) (wCons (wB oAdd (wB oAdd (wB oMul (wC (.int 100)) (wVar 13)) (wC (.int 50))) (wB oMul (wC (.int 50)) (wB oMod (wVar 13) (wC (.int 2))))) (wCons (wB oIx (wVar 3) (wB oMod (wVar 13) (wC (.int 3)))) wNil))))) wNil)))
    wNext)
    w_things_t)))
/-- turns as data -/
def TsOk (ts : List D) : Prop := ts.length ≤ 16 ∧ ∀ t ∈ ts, ∃ (a b : Int) (nm : Str), t = .tuple [.int a, .int b, .str nm] ∧ a.natAbs < 10 ^ 60 ∧ b.natAbs < 10 ^ 60 ∧ WordOk nm
theorem things_tail {h h3 : Hd} {n : Nat} {QD : C → List C → Prop} {way many st days : Int} {ws : List Str} {wd : Str} {ts : List D} {c8 c9 c10 c11 c12 c13 : C} (o3 : h3.ok (n + 220)) (hn : n ≤ 400000) (hw : WordOk wd) (s0 : 0 ≤ st) (s1 : st < 1440 * days) (d1 : 1 ≤ days) (d60 : days ≤ 60) (tk : TsOk ts)
    (q : ∀ (h' : Hd) (ds : List D), h'.ok (n + 400) → AllS ds → 0 < ds.length → ds.length ≤ 1000 → QD (.own 0 (.lst ds)) [hc h']) :
    w_things_t (bodyEnds [hc h] QD fun _ _ => False) [hc h3, .v (.int way), .v (.int many), .v (.list (ws.map PyData.str)), .v (.str wd), .v (.int st), .v (.int days), .v (.tuple ts), c8, c9, c10, c11, c12, c13] := by
  obtain ⟨tl, tp⟩ := tk
  have szl : ∀ {m : Nat}, m ≤ 1000 → m ≤ sizeLine := fun h => Nat.le_trans h (Nat.le_of_ble_eq_true rfl)
  have w8 := hw.l8
  have ta : AllS ts := fun t ht => by
    obtain ⟨a, b, nm, rfl, _, _, hnm⟩ := tp t ht
    have := hnm.l8
    exact AllS.tup (.cons rfl (.cons rfl (.cons (sml_of (by omega)) .nil)))
  have lay : ∀ {us : List D}, AllS us → sml (.tuple [.str wd, .int st, .int days, .tuple us]) = true := fun hu => AllS.tup (.cons (sml_of (by omega)) (.cons rfl (.cons rfl (.cons (AllS.tup hu) .nil))))
  unfold w_things_t
  tm_at "dl"
  refine ⟨h3, _, _, days, rfl, o3, by omega, fun d hd => ?_, Nat.le_refl 4, d1, d60, fun h4 ds o4 hds dl => ?_⟩
  · simp only [List.mem_cons, List.not_mem_nil, or_false] at hd
    rcases hd with rfl | rfl | rfl | rfl
    · exact .inl ⟨_, rfl, hw⟩
    · exact .inr (.inl ⟨_, rfl, by omega⟩)
    · exact .inr (.inl ⟨_, rfl, by omega⟩)
    · exact .inr (.inr ⟨_, rfl, ta, by omega⟩)
  have sh : SeqAt.shaped (.tuple ts) = true := (Lay.tuple (k := 1) fun t ht => by
    obtain ⟨a, b, nm, rfl, _, _, hnm⟩ := tp t ht
    refine Lay.tuple (k := 0) fun e he => ?_
    simp only [List.mem_cons, List.not_mem_nil, or_false] at he
    rcases he with rfl | rfl | rfl
    · exact Lay.int _
    · exact Lay.int _
    · exact Lay.str (CFTd.word_ok hnm)).shaped
  have sn : SeqAt.shaped (.tuple []) = true := (Lay.tuple (k := 0) fun d hd => (List.not_mem_nil hd).elim).shaped
  have thing := lay ta
  by_cases te : ts = []
  · subst te
    have ev : PyData.eqv (.tuple []) (.tuple []) = true := by exact (Lay.tuple (k := 0) fun d hd => (List.not_mem_nil hd).elim).refl
    tm_at "dl"
    exact q h4 _ (o4.up (by omega)) (AllS.app (.cons thing .nil) hds) (by rw [List.length_append]; exact Nat.lt_of_lt_of_le Nat.zero_lt_one (Nat.le_add_right _ _)) (by rw [List.length_append, List.length_singleton]; omega)
  · have ev : PyData.eqv (.tuple ts) (.tuple []) = false := by
      cases ts with
      | nil => exact absurd rfl te
      | cons t us => simp [PyData.eqv, PyData.eqvAll]
    have lp : 0 < (ts.length : Int) := by
      cases ts with
      | nil => exact absurd rfl te
      | cons t us => rw [List.length_cons]; omega
    tm_at "dl"
    rename_i h5 x o5 x0 x1
    obtain ⟨u, au, um⟩ := atI_mem x0 x1
    obtain ⟨a, b, nm, rfl, ha, hb, hnm⟩ := tp u um
    refine optK_of au ?_
    tm_at "dl"
    refine ⟨h5, _, _, days, rfl, o5, by omega, fun d hd => ?_, Nat.le_succ 3, d1, d60, fun h6 es o6 hes el => ?_⟩
    · simp only [List.mem_cons, List.not_mem_nil, or_false] at hd
      rcases hd with rfl | rfl | rfl
      · exact .inr (.inl ⟨_, rfl, ha⟩)
      · exact .inr (.inl ⟨_, rfl, hb⟩)
      · exact .inl ⟨_, rfl, hnm⟩
    tm_at "dl"
    have cl : ∀ lo hi, (DL.cutD ts lo hi).length ≤ 16 := fun lo hi => Nat.le_trans cut_len tl
    have k1 := cl none (some x)
    have k2 := cl (some (x + 1)) none
    have k3 := cl none (some (x + 1))
    have k4 := cl (some x) none
    have s1 : (DL.cutD ts none (some x)).length + (DL.cutD ts (some (x + 1)) none).length ≤ sizeLine := szl (by omega)
    have s2 : (DL.cutD ts none (some (x + 1))).length + (DL.cutD ts (some x) none).length ≤ sizeLine := szl (by omega)
    have s3 : (DL.cutD ts (some x) none).length + (DL.cutD ts none (some x)).length ≤ sizeLine := szl (by omega)
    have s4 : ∀ e : D, (DL.cutD ts none (some x)).length + [e].length ≤ sizeLine := fun e => szl (by show _ + 1 ≤ 1000; omega)
    have s5 : ∀ e : D, (DL.cutD ts none (some x) ++ [e]).length + (DL.cutD ts (some (x + 1)) none).length ≤ sizeLine := fun e => szl (by rw [List.length_append]; show _ + 1 + _ ≤ 1000; omega)
    have s6 : ∀ e : D, (DL.cutD ts none (some x) ++ [e]).length + (DL.cutD ts (some x) none).length ≤ sizeLine := fun e => szl (by rw [List.length_append]; show _ + 1 + _ ≤ 1000; omega)
    refine forK_ind (fun es ρ => ∃ (acc : List D) (c11 : C), AllS es ∧ AllS acc ∧ 0 < acc.length ∧ acc.length + es.length ≤ 500 ∧ ρ = [hc h6, .v (.int way), .v (.int many), .v (.list (ws.map PyData.str)), .v (.str wd), .v (.int st), .v (.int days), .v (.tuple ts), .v (.tuple [.str wd, .int st, .int days, .tuple ts]), .own 0 (.lst acc), .v (.int x), c11, c12, c13]) ?_ ?_ _ _ ⟨_, _, hes, AllS.app (.cons thing .nil) hds, by rw [List.length_append]; exact Nat.lt_of_lt_of_le Nat.zero_lt_one (Nat.le_add_right _ _), by rw [List.length_append, List.length_singleton]; omega, rfl⟩
    · rintro ρ ⟨acc, c11, _, hacc, al0, al, rfl⟩
      rw [List.length_nil] at al
      have s4 := s4 .none
      have s6 := s6 .none
      have t1 : ∀ xs : List D, xs.length ≤ 10 → (acc ++ xs).length < sizeLine := fun xs hx => Nat.lt_of_lt_of_le (show (acc ++ xs).length < 1000 by rw [List.length_append]; omega) (Nat.le_of_ble_eq_true rfl)
      have t0 : acc.length < sizeLine := Nat.lt_of_lt_of_le (show acc.length < 1000 by omega) (Nat.le_of_ble_eq_true rfl)
      tm_at "dl"
      refine q h6 _ (o6.up (by omega)) (AllS.app (AllS.app (AllS.app (AllS.app hacc (.cons (lay (AllS.app ta.cut ta.cut)) .nil)) (.cons (lay (AllS.app ta.cut ta.cut)) .nil)) (.cons (lay (AllS.app (AllS.app ta.cut (.cons rfl .nil)) ta.cut)) .nil)) (.cons (lay (AllS.app ta.cut ta.cut)) .nil)) ?_ ?_
      · simp only [List.length_append, List.length_singleton]; omega
      · simp only [List.length_append, List.length_singleton]; omega
    · rintro e es ρ next hnx ⟨acc, c11, hes, hacc, al0, al, rfl⟩
      rw [List.length_cons] at al
      have se := hes e (.head _)
      have s4 := s4 e
      have s5 := s5 e
      have t1 : acc.length < sizeLine := Nat.lt_of_lt_of_le (show acc.length < 1000 by omega) (Nat.le_of_ble_eq_true rfl)
      tm_at "dl"
      exact hnx _ ⟨_, _, fun x hx => hes x (.tail _ hx), AllS.app hacc (.cons (lay (AllS.app (AllS.app ta.cut (.cons se .nil)) ta.cut)) .nil), by rw [List.length_append]; omega, by rw [List.length_append, List.length_singleton]; omega, rfl⟩
    · exact absurd ‹PyData.eqv (.tuple ts) (.tuple []) = true› (by rw [ev]; decide)
theorem ok_law_things : ∀ as QD ED, S_law_things as QD ED → w_law_things (bodyEnds as QD fun _ _ => False) (startD n_law_things as) := by
  rintro as QD ED ⟨h, n, rfl, ho, hn, q⟩
  rw [show w_law_things = w_things1 from rfl]
  unfold n_law_things w_things1
  tm_at "dstart"
  tm_at "dl"
  rename_i h0 way o0 w0 w1
  refine pick_z [1, 2, 7, 59, 60, 3, 30] rfl o0 (by omega) (Nat.zero_lt_succ _) (Nat.le_of_ble_eq_true rfl) fun h1 many o1 hmany => ?_
  have mb : 1 ≤ many ∧ many ≤ 60 := by
    simp only [List.mem_cons, List.not_mem_nil, or_false] at hmany
    omega
  clear hmany
  tm_at "dl"
  refine ⟨h1, _, 4, rfl, o1, by omega, by omega, by omega, fun h2 ws o2 wl hw => ?_⟩
  have wl4 : ws.length = 4 := by omega
  obtain ⟨w3, g3⟩ : ∃ w, ws[3]? = some w := ⟨_, List.getElem?_eq_getElem (by omega)⟩
  have a3 : atI (ws.map PyData.str) 3 = some (.str w3) := L2.atI_nat (j := 3) (by rw [List.getElem?_map, g3]; rfl)
  obtain ⟨mst, am, m0, m15, m12⟩ : ∃ mst : Int, atI [PyData.int 3, .int 6, .int 12, .int 15] way = some (.int mst) ∧ 0 ≤ mst ∧ mst ≤ 15 ∧ (way ≠ 3 → mst ≤ 12) := by
    rcases (show way = 0 ∨ way = 1 ∨ way = 2 ∨ way = 3 by omega) with rfl | rfl | rfl | rfl
    · exact ⟨3, rfl, by decide, by decide, fun _ => by decide⟩
    · exact ⟨6, rfl, by decide, by decide, fun _ => by decide⟩
    · exact ⟨12, rfl, by decide, by decide, fun _ => by decide⟩
    · exact ⟨15, rfl, by decide, by decide, fun h => absurd rfl h⟩
  tm_at "dl"
  rw [show (some (3 : Int)) = some ((3 : Nat) : Int) from rfl, cut_take, ← List.map_take]
  refine ⟨h2, _, w3, ws.take 3, many, mst, rfl, o2, by omega, hw.ok _ (List.mem_of_getElem? g3), by rw [List.length_take]; omega, by rw [List.length_take]; omega, fun w h => hw.ok w (List.mem_of_mem_take h), mb.1, mb.2, m0, m15, fun h3 l o3 lw e1 e2 hm hl => ?_⟩
  tm_at "dl"
  · rename_i z3 h4 y o4 y0 y1
    have gt : ∀ k : Nat, ∃ nm, ws[k % 3]? = some nm := fun k => ⟨_, List.getElem?_eq_getElem (by have := Nat.mod_lt k (show 0 < 3 by decide); omega)⟩
    refine lcK_r0 (fun k => (ws[k % 3]?).map fun nm => PyData.tuple [.int (100 * (k : Int)), .int (100 * (k : Int) + 50 + 50 * ((k : Int) % 2)), .str nm]) _ (fun k hk next hnx => ?_) ?_
    · obtain ⟨nm, gn⟩ := gt k
      rw [gn] at hnx
      have an : atI (ws.map PyData.str) ((k : Int) % 3) = some (.str nm) := by
        have := L2.atI_nat (xs := ws.map PyData.str) (j := k % 3) (v := .str nm) (by rw [List.getElem?_map, gn]; rfl)
        rwa [Int.natCast_emod] at this
      have mk : DL.MulOk 100 (k : Int) := MulOk.left (by decide)
      have mk2 : DL.MulOk 50 ((k : Int) % 2) := MulOk.left (by decide)
      tm_at "dl"
      exact hnx
    · tm_at "dl"
      refine things_tail (o4.up (by omega)) hn lw.wd lw.s0 (by have := lw.s1; exact this) lw.d1 lw.d60 ⟨?_, fun t ht => ?_⟩ q
      · refine Nat.le_trans (List.length_filterMap_le _ _) ?_
        rw [List.length_range]
        omega
      · obtain ⟨k, hk, e⟩ := List.mem_filterMap.mp ht
        obtain ⟨nm, gn⟩ := gt k
        have hk := List.mem_range.mp hk
        rw [gn] at e
        cases e
        exact ⟨_, _, _, rfl, by omega, by omega, hw.ok nm (List.mem_of_getElem? gn)⟩
  · exact things_tail (o3.up (by omega)) hn (lw.wd) lw.s0 (by have := lw.s1; exact this) lw.d1 lw.d60 ⟨by rw [List.length_map]; have := m12 ‹_›; omega, fun t ht => by
      obtain ⟨u, hu, rfl⟩ := List.mem_map.mp ht
      have := trn_bd lw.ts u hu
      have := lw.d60
      have := lw.d1
      exact ⟨_, _, _, rfl, by omega, by omega, trn_wd lw.ts u hu⟩⟩ q
theorem ok_law : ∀ as QD ED, S_law as QD ED → w_law (bodyEnds as QD fun _ _ => False) (startD n_law as) := by
  rintro as QD ED ⟨ns, rfl, nl, q⟩
  unfold n_law w_law
  tm_at "dstart"
  tm_at "dl"
  refine forK_st _ (fun ρ => ∃ c1 c2 c3 c4 c5 c6 : C, ρ = [.v (.list (ns.map PyData.int)), c1, c2, c3, c4, c5]) ⟨_, _, _, _, _, .no, rfl⟩ ?_ ?_
  · rintro ρ ⟨c1, c2, c3, c4, c5, c6, rfl⟩
    tm_at "dl"
    exact q _
  rintro d hd ρ next hn ⟨c1, c2, c3, c4, c5, c6, rfl⟩
  obtain ⟨k, rfl, k0, k1⟩ : ∃ k : Int, d = .int k ∧ 0 ≤ k ∧ k ≤ 1 := by
    obtain ⟨k, e, k0, k1⟩ := mem_range hd
    exact ⟨k, e, k0, by omega⟩
  clear hd q
  tm_at "dl"
  refine hand_i k0 (by omega) fun h0 o0 => ?_
  tm_at "dl"
  refine ⟨h0, 0, rfl, o0, by omega, fun h1 ds o1 hds d0 dl => ?_⟩
  have cl := cut_len (a := ds) (lo := none) (hi := some 1)
  tm_at "dl"
  refine ⟨Nat.le_trans (show _ ≤ 2000 by omega) (Nat.le_of_ble_eq_true rfl), ?_⟩
  tm_at "dl"
  refine forK_ind (fun es ρ => ∃ (c4 c5 : C), AllS es ∧ ρ = [.v (.list (ns.map PyData.int)), .v (.int k), .own 0 (.lst (CFH.hd h1)), .v (.list ds), c4, c5]) ?_ ?_ _ _ ⟨_, _, AllS.app hds hds.cut, rfl⟩
  · rintro ρ ⟨c4, c5, _, rfl⟩
    exact hn _ ⟨_, _, _, _, _, .no, rfl⟩
  · rintro e es ρ next2 hn2 ⟨c4, c5, hes, rfl⟩
    have se := hes e (.head _)
    tm_at "dl"
    refine ⟨e, rfl, se, ?_⟩
    tm_at "dl"
    refine ⟨e, rfl, se, ?_⟩
    have ev : PyData.eqv (.bool (isLy e)) (.bool (isLy e)) = true := by simp [PyData.eqv]
    have s1 : SeqAt.shaped (.bool (isLy e)) = true := (Lay.bool (k := 0) _).shaped
    tm_at "dl"
    · exact absurd ‹PyData.eqv (.bool (isLy e)) (.bool (isLy e)) = false› (by rw [ev]; decide)
    · exact hn2 _ ⟨_, _, fun x hx => hes x (.tail _ hx), rfl⟩
end K10
end

set_option Elab.async false
set_option linter.all false
set_option maxRecDepth 100000
set_option maxHeartbeats 4000000

/-! generated: readings shared by laws -/
namespace CFH
open PySem PySem.Spec PyProof.Rows L2 DL
def L_law_hand : Nat → Bool := fun j => ([] : List Nat).contains j
/-- _law_hand: 0 _law_script, 1 _law_k, 2 _law_cell -/
def w_law_hand : WS := wSeq (wSetF 2 (wC (.int 0)))
    (wSeq (wIf (wTst (wB oLt (wVar 1) (wL oLen (wCons (wVar 0) wNil))))
    (wSetF 2 (wB oIx (wVar 0) (wVar 1)))
    wNext)
    (wRet (wL oLst (wCons (wB oMul (wVar 2) (wL oInt1 (wCons (wB oGe (wVar 2) (wB oPow (wC (.int 10)) (wC (.int 18)))) wNil))) (wCons (wB oAdd (wB oAdd (wB oMod (wVar 2) (wC (.int 2305843009213693951))) (wB oMul (wC (.int 7919)) (wVar 1))) (wC (.int 3))) (wCons (wC (.int 0)) wNil))))))
def n_law_hand : Nat := 3
def L_law_take : Nat → Bool := fun j => [0].contains j
/-- _law_take: 0 _law_hand_here, 1 _law_many, 2 _law_digit, 3 _law_turn, 4 _law_more, 5 _law_mixed, 6 _law_other -/
def w_law_take : WS := wSeq (wIf (wTst (wB oGt (wB oIx (wLn 0) (wC (.int 0))) (wC (.int 0))))
    (wSeq (wSetF 2 (wB oMod (wB oIx (wLn 0) (wC (.int 0))) (wVar 1)))
    (wSeq (wSetIx 0 (wB oDiv (wB oIx (wLn 0) (wC (.int 0))) (wVar 1)) (wC (.int 0)))
    (wRet (wVar 2))))
    wNext)
    (wSeq (wSetIx 0 (wB oAdd (wB oIx (wLn 0) (wC (.int 2))) (wC (.int 1))) (wC (.int 2)))
    (wSeq (wSetF 3 (wB oIx (wLn 0) (wC (.int 2))))
    (wSeq (wSetF 4 (wB oAdd (wB oAdd (wC (.int 48271)) (wB oMul (wB oMul (wC (.int 2)) (wVar 3)) (wVar 3))) (wB oMul (wC (.int 65537)) (wVar 3))))
    (wSeq (wSetF 5 (wB oMod (wB oMul (wB oAdd (wB oIx (wLn 0) (wC (.int 1))) (wB oMul (wC (.int 1299709)) (wVar 3))) (wVar 4)) (wC (.int 2305843009213693921))))
    (wSeq (wSetF 6 (wB oAdd (wB oAdd (wB oMod (wVar 5) (wC (.int 1000003))) (wB oMul (wVar 3) (wC (.int 99991)))) (wC (.int 11))))
    (wSeq (wSetF 5 (wB oMod (wB oMul (wVar 5) (wVar 6)) (wC (.int 2305843009213693907))))
    (wRet (wB oMod (wB oAdd (wB oDiv (wVar 5) (wC (.int 97))) (wB oDiv (wVar 5) (wC (.int 1000033)))) (wVar 1)))))))))
def n_law_take : Nat := 7
def L_law_pick : Nat → Bool := fun j => [0].contains j
/-- _law_pick: 0 _law_hand_here, 1 _law_some -/
def w_law_pick : WS := wRet (wB oIx (wVar 1) (wCall S_law_take (wCons (wPk 0) (wCons (wL oLen (wCons (wVar 1) wNil)) wNil))))
def n_law_pick : Nat := 2
def L_law_whole : Nat → Bool := fun j => ([] : List Nat).contains j
/-- _law_whole: 0 _law_found -/
def w_law_whole : WS := wRet (wAndV (wU (oIsi "int") (wVar 0)) (wNotV (wU (oIsi "bool") (wVar 0))))
def n_law_whole : Nat := 1
def L_law_great : Nat → Bool := fun j => [0].contains j
/-- _law_great: 0 _law_hand_here, 1 _law_found, 2 _law_k -/
def w_law_great : WS := wSeq (wSetF 1 (wC (.int 0)))
    (wSeq (wFor (wIR1 (wCons (wC (.int 4)) wNil)) (wgName 2)
    (wSetF 1 (wB oAdd (wB oMul (wVar 1) (wB oPow (wC (.int 10)) (wC (.int 15)))) (wCall S_law_take (wCons (wPk 0) (wCons (wB oPow (wC (.int 10)) (wC (.int 15))) wNil))))))
    (wRet (wVar 1)))
def n_law_great : Nat := 3
end CFH

section
set_option Elab.async false
set_option linter.all false
set_option maxRecDepth 100000
set_option maxHeartbeats 4000000
namespace CFH
open PySem PySem.Spec PyProof.Rows L2 DL
local macro_rules | `(tactic| tm_at "dw") => `(tactic| with_reducible (conv => whnf))
local macro_rules | `(tactic| tm_at "dside") => `(tactic| first | with_reducible assumption | ((with_reducible show CDivW _ _); exact ⟨by omega, log2_sm (by omega)⟩) | exact rfl | exact True.intro | exact Nat.le_of_ble_eq_true rfl | (intro z; first | exact rfl | exact (Bool.false_ne_true z).elim) | (intro _; (with_reducible refine And.intro ?_ ?_) <;> first | exact rfl | assumption) | (intro _; assumption) | (intro _; with_reducible exact lf_ints) | (intro _; with_reducible exact lf_strs) | ((with_reducible show SeqAt.shaped (PyData.str _) = true); exact (Lay.str (k := 0) (by first | assumption | decide +kernel)).shaped) | omega | (simp only [List.length_map, List.length_reverse, List.length_append, List.length_cons, List.length_nil]; omega) | exact And.intro (by omega) (by with_reducible assumption) | exact And.intro (by omega) (by decide +kernel) | exact And.intro (by omega) (And.intro (by omega) (by omega)) | exact MulOk.left ⟨by omega, by omega⟩ | exact MulOk.right ⟨by omega, by omega⟩ | exact le1000 (by first | omega | (simp only [List.length_map, List.length_reverse, List.length_append, List.length_cons, List.length_nil, rangeD_len, enumF_len]; omega)) | with_reducible exact lf_ints | with_reducible exact lf_strs | assumption | decide)
local macro_rules | `(tactic| tm_at "do") => `(tactic| first | with_reducible exact intsOf_map _ | with_reducible exact boolsOf_map _ | ((with_reducible show lstOf _ _ = _); with_unfolding_all exact rfl) | ((with_reducible show intsOf _ = _); with_unfolding_all exact rfl) | ((with_reducible show itemsD _ = _); with_unfolding_all exact rfl) | ((with_reducible show itemsLT _ = _); with_unfolding_all exact rfl) | ((with_reducible show boolsOf _ = _); with_unfolding_all exact rfl) | ((with_reducible show strsOf _ = _); with_unfolding_all exact rfl) | ((with_reducible show keyD _ = _); with_unfolding_all exact rfl) | with_reducible exact atI_0 | with_reducible exact atI_1 | with_reducible exact atI_2 | with_reducible exact atI_3 | with_reducible exact atI_4 | with_reducible exact setI_0 | with_reducible exact setI_1 | with_reducible exact setI_2 | with_reducible exact setI_3)
local macro_rules | `(tactic| tm_at "dz") => `(tactic| (intro z; (try simp only [decide_eq_true_eq, decide_eq_false_iff_not, eqv_int, Bool.not_eq_true', Bool.not_eq_false', Bool.not_not, Bool.false_eq_true, reduceCtorEq, Int.not_lt, Int.not_le, wholeD, List.length_cons, List.length_nil, List.length_map, isT_tuple_none, isT_tuple_bool, isT_tuple_int, isT_tuple_str, isT_tuple_list, isT_tuple_tuple, isT_int_none, isT_int_bool, isT_int_int, isT_int_str, isT_int_list, isT_int_tuple, isT_bool_none, isT_bool_bool, isT_bool_int, isT_bool_str, isT_bool_list, isT_bool_tuple, isT_str_none, isT_str_bool, isT_str_int, isT_str_str, isT_str_list, isT_str_tuple, isT_list_none, isT_list_bool, isT_list_int, isT_list_str, isT_list_list, isT_list_tuple] at z); try (first | (exfalso; omega) | exact (Bool.false_ne_true z).elim | (cases z; done))))
local macro_rules | `(tactic| tm_at "dnorm") => `(tactic| first | ((simp only [rset, rget, frzC, retag, clr, back]); done) | ((simp only [rset, rget, frzC, retag, clr, back]); exact rfl) | exact rfl)
local macro_rules | `(tactic| tm_at "dh") => `(tactic| first | ((with_reducible show wSeq _ _ _ _); with_reducible refine wSeq_i (by tm_at "dnorm") ?_) | ((with_reducible show optK _ _); with_reducible refine optK_of (by tm_at "do") ?_) | (with_reducible refine ifb ?_ ?_) <;> tm_at "dz" | ((with_reducible refine And.intro ?_ ?_); tm_at "dside") | fail "dh")
local macro_rules | `(tactic| tm_at "dc") => `(tactic| fail "dc")
local macro_rules | `(tactic| tm_at "dt") => `(tactic| first | (tm_at "dh" <;> (try tm_at "dw")) | (tm_at "dc" <;> (try tm_at "dw")))
local macro_rules | `(tactic| tm_at "dstart") => `(tactic| simp only [startD, List.length_cons, List.length_nil, Nat.reduceAdd, Nat.reduceSub, List.replicate, List.cons_append, List.nil_append])
local macro_rules | `(tactic| tm_at "dl") => `(tactic| ((try tm_at "dw"); repeat' tm_at "dt"))
local macro_rules | `(tactic| tm_at "dlc") => `(tactic| first | with_reducible refine lcK_eq (by tm_at "dnorm") ?_ | with_reducible refine forK_eq (by tm_at "dnorm") ?_)
theorem ok_law_take : ∀ as QD ED, S_law_take as QD ED → w_law_take (bodyEnds as QD fun _ _ => False) (startD n_law_take as) := by
  rintro as QD ED ⟨h, n, m, rfl, ho, hn, hm, hl, q⟩
  obtain ⟨a0, b0, b1, c0, c1⟩ := ho
  unfold n_law_take w_law_take
  tm_at "dstart"
  tm_at "dl"
  · exact q ⟨h.a / m, h.b, h.c⟩ (h.a % m) ⟨Int.ediv_nonneg a0 (by omega), b0, b1, c0, by show h.c ≤ _; omega⟩ (Int.emod_nonneg _ (by omega)) (Int.emod_lt_of_pos _ hm)
  · exact q ⟨h.a, h.b, h.c + 1⟩ _ ⟨a0, b0, b1, by show 0 ≤ h.c + 1; omega, by show h.c + 1 ≤ _; omega⟩ (Int.emod_nonneg _ (by omega)) (Int.emod_lt_of_pos _ hm)
theorem ok_law_pick : ∀ as QD ED, S_law_pick as QD ED → w_law_pick (bodyEnds as QD fun _ _ => False) (startD n_law_pick as) := by
  rintro as QD ED ⟨h, n, b, ds, rfl, ho, hn, h0, h1, bx, q⟩
  unfold n_law_pick w_law_pick
  rcases bx with rfl | rfl | ⟨s, rfl, rfl, sl⟩
  · tm_at "dstart"
    tm_at "dl"
    refine ⟨h, n, ds.length, rfl, ho, hn, by omega, log2_sm (by omega), fun h' x ho' x0 x1 => ?_⟩
    tm_at "dl"
    obtain ⟨d, e, hd⟩ := atI_mem x0 x1
    refine optK_of e ?_
    tm_at "dl"
    exact q h' d ho' hd
  · tm_at "dstart"
    tm_at "dl"
    refine ⟨h, n, ds.length, rfl, ho, hn, by omega, log2_sm (by omega), fun h' x ho' x0 x1 => ?_⟩
    tm_at "dl"
    obtain ⟨d, e, hd⟩ := atI_mem x0 x1
    refine optK_of e ?_
    tm_at "dl"
    exact q h' d ho' hd
  · rw [strD_len] at h0 h1
    tm_at "dstart"
    tm_at "dl"
    refine ⟨h, n, s.length, rfl, ho, hn, by omega, log2_sm (by omega), fun h' x ho' x0 x1 => ?_⟩
    tm_at "dl"
    have xl : x.toNat < s.cps.toList.length := by
      show x.toNat < s.cps.size
      have : s.length = s.cps.size := rfl
      omega
    have e : atI s.cps.toList x = some (s.cps.toList[x.toNat]) := by
      have := L2.atI_nat (xs := s.cps.toList) (j := x.toNat) (List.getElem?_eq_getElem xl)
      rwa [show ((x.toNat : Nat) : Int) = x by omega] at this
    refine optK_of e ?_
    tm_at "dl"
    exact q h' _ ho' (List.mem_map_of_mem (f := fun c => PyData.str ⟨#[c]⟩) (List.getElem_mem xl))
theorem ok_law_whole : ∀ as QD ED, S_law_whole as QD ED → w_law_whole (bodyEnds as QD fun _ _ => False) (startD n_law_whole as) := by
  rintro as QD ED ⟨d, rfl, q⟩
  unfold n_law_whole w_law_whole
  tm_at "dstart"
  cases d <;> (tm_at "dl" <;> exact q)
theorem ok_law_hand : ∀ as QD ED, S_law_hand as QD ED → w_law_hand (bodyEnds as QD fun _ _ => False) (startD n_law_hand as) := by
  rintro as QD ED ⟨ns, k, rfl, h0, h1, q⟩
  unfold n_law_hand w_law_hand
  tm_at "dstart"
  have e : ∀ c : Int, (0 ≤ c * (if decide ((10:Int) ^ Int.toNat 18 ≤ c) = true then 1 else 0)) := by
    intro c
    by_cases h : (10:Int) ^ Int.toNat 18 ≤ c
    · rw [if_pos (decide_eq_true h), Int.mul_one]
      exact Int.le_trans (by decide) h
    · rw [if_neg (fun z => h (of_decide_eq_true z)), Int.mul_zero]
      exact Int.le_refl 0
  have mo : ∀ c : Int, MulOk c (if decide ((10:Int) ^ Int.toNat 18 ≤ c) = true then 1 else 0) := by
    intro c
    refine MulOk.right ?_
    split <;> decide
  have fin : ∀ c : Int, (Hd.mk (c * (if decide ((10:Int) ^ Int.toNat 18 ≤ c) = true then 1 else 0)) (c % 2305843009213693951 + 7919 * k + 3) 0).ok 0 := fun c => ⟨e c, by show 0 ≤ c % 2305843009213693951 + 7919 * k + 3; omega, by show c % 2305843009213693951 + 7919 * k + 3 < _; omega, Int.le_refl 0, Int.le_refl 0⟩
  tm_at "dl"
  · obtain ⟨d, e1, e2⟩ := atI_mem (ds := ns.map PyData.int) h0 (by rename_i z; first | exact z | exact of_decide_eq_true z | (rw [List.length_map]; exact z) | (rw [List.length_map]; exact of_decide_eq_true z) | (simp only [decide_eq_true_eq, List.length_map] at z; rw [List.length_map]; exact z))
    obtain ⟨c, _, rfl⟩ := List.mem_map.mp e2
    refine optK_of e1 ?_
    have m := mo c
    tm_at "dl"
    exact q _ (fin c)
  · have m := mo 0
    tm_at "dl"
    exact q _ (fin 0)
theorem ok_law_great : ∀ as QD ED, S_law_great as QD ED → w_law_great (bodyEnds as QD fun _ _ => False) (startD n_law_great as) := by
  rintro as QD ED ⟨h, n, rfl, ho, hn, q⟩
  unfold n_law_great w_law_great
  tm_at "dstart"
  tm_at "dl"
  show forK _ _ [.int 0, .int 1, .int 2, .int 3] _ _
  have m0 : MulOk 0 ((10:Int) ^ Int.toNat 15) := MulOk.left (by decide)
  tm_at "dl"
  refine ⟨h, n, 1000000000000000, rfl, ho, by omega, by decide, log2_sm (by decide), fun h1 x1 o1 a1 b1 => ?_⟩
  have m1 := MulOk.right (i := 0 * (10:Int) ^ Int.toNat 15 + x1) (j := (10:Int) ^ Int.toNat 15) (by decide)
  tm_at "dl"
  refine ⟨h1, n + 1, 1000000000000000, rfl, o1, by omega, by decide, log2_sm (by decide), fun h2 x2 o2 a2 b2 => ?_⟩
  have m2 := MulOk.right (i := (0 * (10:Int) ^ Int.toNat 15 + x1) * (10:Int) ^ Int.toNat 15 + x2) (j := (10:Int) ^ Int.toNat 15) (by decide)
  tm_at "dl"
  refine ⟨h2, n + 2, 1000000000000000, rfl, o2, by omega, by decide, log2_sm (by decide), fun h3 x3 o3 a3 b3 => ?_⟩
  have m3 := MulOk.right (i := ((0 * (10:Int) ^ Int.toNat 15 + x1) * (10:Int) ^ Int.toNat 15 + x2) * (10:Int) ^ Int.toNat 15 + x3) (j := (10:Int) ^ Int.toNat 15) (by decide)
  tm_at "dl"
  refine ⟨h3, n + 3, 1000000000000000, rfl, o3, by omega, by decide, log2_sm (by decide), fun h4 x4 o4 a4 b4 => ?_⟩
  tm_at "dl"
  have e : (10:Int) ^ Int.toNat 15 = 1000000000000000 := by decide
  rw [e] at *
  exact q h4 ((((0 * 1000000000000000 + x1) * 1000000000000000 + x2) * 1000000000000000 + x3) * 1000000000000000 + x4) o4 (by omega) (by omega)
end CFH
end

set_option Elab.async false
set_option linter.all false
set_option maxRecDepth 100000
set_option maxHeartbeats 4000000

/-! generated: readings shared by laws -/
namespace CFWd
open PySem PySem.Spec PyProof.Rows L2 DL CFH
def L_law_words : Nat → Bool := fun j => [0, 8].contains j
/-- _law_words: 0 _law_hand_here, 1 _law_many, 2 _law_signs, 3 _law_begin, 4 _law_step, 5 _law_stem, 6 _law_at, 7 _law_short, 8 _law_words_here, 9 _law_k, 10 _law_behind, 11 _law_sign -/
def w_law_words : WS := wSeq (wSetF 2 (wC (.str "abcdefghijklmnopqrstuvwxyz0123456789")))
    (wSeq (wPar 3 4 (wCons (wCall CFH.S_law_take (wCons (wPk 0) (wCons (wC (.int 36)) wNil))) (wCons (wCall CFH.S_law_pick (wCons (wPk 0) (wCons (wL oLst (wCons (wC (.int 1)) (wCons (wC (.int 5)) (wCons (wC (.int 7)) (wCons (wC (.int 11)) (wCons (wC (.int 13)) (wCons (wC (.int 17)) wNil))))))) wNil))) wNil)))
    (wSeq (wSetF 5 (wB oMulS (wB oIx (wVar 2) (wCall CFH.S_law_take (wCons (wPk 0) (wCons (wC (.int 36)) wNil)))) (wCall CFH.S_law_pick (wCons (wPk 0) (wCons (wL oLst (wCons (wC (.int 0)) (wCons (wC (.int 1)) (wCons (wC (.int 0)) (wCons (wC (.int 2)) (wCons (wC (.int 7)) wNil)))))) wNil)))))
    (wSeq (wSetF 6 (wCall CFH.S_law_take (wCons (wPk 0) (wCons (wB oAdd (wL oLen (wCons (wVar 5) wNil)) (wC (.int 1))) wNil))))
    (wSeq (wSetF 7 (wCall CFH.S_law_take (wCons (wPk 0) (wCons (wC (.int 2)) wNil))))
    (wSeq (wSet 8 (wL oLst wNil))
    (wSeq (wFor (wIR1 (wCons (wVar 1) wNil)) (wgName 9)
    (wSeq (wSetF 10 (wSl (wVar 5) (wPart (wVar 6)) wNoPart))
    (wSeq (wIf (wAnd (wTst (wB oEq (wVar 7) (wC (.int 1)))) (wTst (wB oEq (wB oMod (wVar 9) (wC (.int 2))) (wC (.int 1)))))
    (wSetF 10 (wC (.str "")))
    wNext)
    (wSeq (wSetF 11 (wB oIx (wVar 2) (wB oMod (wB oAdd (wVar 3) (wB oMul (wVar 4) (wVar 9))) (wC (.int 36)))))
    (wDrop (wApp 8 (wB oPlus (wB oPlus (wSl (wVar 5) wNoPart (wPart (wVar 6))) (wVar 11)) (wVar 10))))))))
    (wRetO 8)))))))
def n_law_words : Nat := 12
end CFWd

section
set_option Elab.async false
set_option linter.all false
set_option maxRecDepth 100000
set_option maxHeartbeats 4000000
namespace CFWd
open PySem PySem.Spec PyProof.Rows L2 DL CFH
local macro_rules | `(tactic| tm_at "dw") => `(tactic| with_reducible (conv => whnf))
local macro_rules | `(tactic| tm_at "dside") => `(tactic| first | with_reducible assumption | ((with_reducible show CDivW _ _); exact ⟨by omega, log2_sm (by omega)⟩) | exact rfl | exact True.intro | exact Nat.le_of_ble_eq_true rfl | (intro z; first | exact rfl | exact (Bool.false_ne_true z).elim) | (intro _; (with_reducible refine And.intro ?_ ?_) <;> first | exact rfl | assumption) | (intro _; assumption) | (intro _; with_reducible exact lf_ints) | (intro _; with_reducible exact lf_strs) | ((with_reducible show SeqAt.shaped (PyData.str _) = true); exact (Lay.str (k := 0) (by first | assumption | decide +kernel)).shaped) | omega | (simp only [List.length_map, List.length_reverse, List.length_append, List.length_cons, List.length_nil]; omega) | exact And.intro (by omega) (by with_reducible assumption) | exact And.intro (by omega) (by decide +kernel) | exact And.intro (by omega) (And.intro (by omega) (by omega)) | exact MulOk.left ⟨by omega, by omega⟩ | exact MulOk.right ⟨by omega, by omega⟩ | exact le1000 (by first | omega | (simp only [List.length_map, List.length_reverse, List.length_append, List.length_cons, List.length_nil, rangeD_len, enumF_len]; omega)) | with_reducible exact lf_ints | with_reducible exact lf_strs | assumption | decide)
local macro_rules | `(tactic| tm_at "do") => `(tactic| first | with_reducible exact intsOf_map _ | with_reducible exact boolsOf_map _ | ((with_reducible show lstOf _ _ = _); with_unfolding_all exact rfl) | ((with_reducible show intsOf _ = _); with_unfolding_all exact rfl) | ((with_reducible show itemsD _ = _); with_unfolding_all exact rfl) | ((with_reducible show itemsLT _ = _); with_unfolding_all exact rfl) | ((with_reducible show boolsOf _ = _); with_unfolding_all exact rfl) | ((with_reducible show strsOf _ = _); with_unfolding_all exact rfl) | ((with_reducible show keyD _ = _); with_unfolding_all exact rfl) | with_reducible exact atI_0 | with_reducible exact atI_1 | with_reducible exact atI_2 | with_reducible exact atI_3 | with_reducible exact atI_4 | with_reducible exact setI_0 | with_reducible exact setI_1 | with_reducible exact setI_2 | with_reducible exact setI_3)
local macro_rules | `(tactic| tm_at "dz") => `(tactic| (intro z; (try simp only [decide_eq_true_eq, decide_eq_false_iff_not, eqv_int, Bool.not_eq_true', Bool.not_eq_false', Bool.not_not, Bool.false_eq_true, reduceCtorEq, Int.not_lt, Int.not_le, wholeD, List.length_cons, List.length_nil, List.length_map, isT_tuple_none, isT_tuple_bool, isT_tuple_int, isT_tuple_str, isT_tuple_list, isT_tuple_tuple, isT_int_none, isT_int_bool, isT_int_int, isT_int_str, isT_int_list, isT_int_tuple, isT_bool_none, isT_bool_bool, isT_bool_int, isT_bool_str, isT_bool_list, isT_bool_tuple, isT_str_none, isT_str_bool, isT_str_int, isT_str_str, isT_str_list, isT_str_tuple, isT_list_none, isT_list_bool, isT_list_int, isT_list_str, isT_list_list, isT_list_tuple] at z); try (first | (exfalso; omega) | exact (Bool.false_ne_true z).elim | (cases z; done))))
local macro_rules | `(tactic| tm_at "dnorm") => `(tactic| first | ((simp only [rset, rget, frzC, retag, clr, back]); done) | ((simp only [rset, rget, frzC, retag, clr, back]); exact rfl) | exact rfl)
local macro_rules | `(tactic| tm_at "dh") => `(tactic| first | ((with_reducible show wSeq _ _ _ _); with_reducible refine wSeq_i (by tm_at "dnorm") ?_) | ((with_reducible show optK _ _); with_reducible refine optK_of (by tm_at "do") ?_) | (with_reducible refine ifb ?_ ?_) <;> tm_at "dz" | ((with_reducible refine And.intro ?_ ?_); tm_at "dside") | fail "dh")
local macro_rules | `(tactic| tm_at "dc") => `(tactic| fail "dc")
local macro_rules | `(tactic| tm_at "dt") => `(tactic| first | (tm_at "dh" <;> (try tm_at "dw")) | (tm_at "dc" <;> (try tm_at "dw")))
local macro_rules | `(tactic| tm_at "dstart") => `(tactic| simp only [startD, List.length_cons, List.length_nil, Nat.reduceAdd, Nat.reduceSub, List.replicate, List.cons_append, List.nil_append])
local macro_rules | `(tactic| tm_at "dl") => `(tactic| ((try tm_at "dw"); repeat' tm_at "dt"))
local macro_rules | `(tactic| tm_at "dlc") => `(tactic| first | with_reducible refine lcK_eq (by tm_at "dnorm") ?_ | with_reducible refine forK_eq (by tm_at "dnorm") ?_)
local macro_rules | `(tactic| tm_at "dpos") => `(tactic| first | omega | decide)
local macro_rules | `(tactic| tm_at "dlog") => `(tactic| first | exact log2_sm (by omega) | exact CFH.big_log (by omega) (by omega) | assumption | exact log2_sm (by decide))
local macro_rules | `(tactic| tm_at "dc") => `(tactic| ((with_reducible show CFH.S_law_take _ _ _); refine CFH.take_i (by assumption) (by omega) (by tm_at "dpos") (by tm_at "dlog") (fun _ _ _ _ _ => ?_)))
local macro_rules | `(tactic| tm_at "dc") => `(tactic| ((with_reducible show CFH.S_law_great _ _ _); refine CFH.great_i (by assumption) (by omega) (fun _ _ _ _ _ => ?_)))
local macro_rules | `(tactic| tm_at "dc") => `(tactic| ((with_reducible show CFH.S_law_whole _ _ _); refine CFH.whole_i ?_))
theorem ok_law_words : ∀ as QD ED, S_law_words as QD ED → w_law_words (bodyEnds as QD fun _ _ => False) (startD n_law_words as) := by
  rintro as QD ED ⟨h, n, m, rfl, ho, hn, m0, m1, q⟩
  unfold n_law_words w_law_words
  have sz : (Str.ofString "abcdefghijklmnopqrstuvwxyz0123456789").length ≤ sizeLine := sg_sz
  tm_at "dstart"
  tm_at "dl"
  rename_i h1 b0 o1 b00 b01
  refine pick_z [1, 5, 7, 11, 13, 17] rfl o1 (by omega) (by decide) (by decide) fun h2 st o2 hst => ?_
  obtain ⟨st, rfl, hs6, st17⟩ : ∃ k : Nat, st = k ∧ (fun k : Nat => k = 1 ∨ k = 5 ∨ k = 7 ∨ k = 11 ∨ k = 13 ∨ k = 17) k ∧ k ≤ 17 := by
    have hst : st = 1 ∨ st = 5 ∨ st = 7 ∨ st = 11 ∨ st = 13 ∨ st = 17 := by simpa using hst
    exact ⟨st.toNat, by omega, by show _ ∨ _; omega, by omega⟩
  clear hst
  tm_at "dl"
  rename_i h3 x o3 x0 x1
  obtain ⟨x, rfl⟩ := Int.eq_ofNat_of_zero_le x0
  have hx : x < 36 := by omega
  refine optK_of (L2.atI_nat (sg_at hx)) ?_
  have hc := sg_mem hx
  generalize sgAt x = c at hc
  tm_at "dl"
  refine pick_z [0, 1, 0, 2, 7] rfl o3 (by omega) (by decide) (by decide) fun h4 r o4 hr => ?_
  obtain ⟨r, rfl, hr7⟩ : ∃ k : Nat, r = k ∧ k ≤ 7 := by
    simp only [List.mem_cons, List.not_mem_nil, or_false] at hr
    exact ⟨r.toNat, by omega, by omega⟩
  clear hr
  have l1 : (⟨#[c]⟩ : Str).length ≤ 1000 := by show (T [c]).length ≤ 1000; rw [T_len]; exact Nat.le_of_ble_eq_true rfl
  have er : repS ⟨#[c]⟩ (r : Int).toNat = T (List.replicate r c) := by
    rw [Int.toNat_natCast]
    show repS (T [c]) r = _
    rw [T_rep, flat_rep]
  have el : (T (List.replicate r c)).length = r := by rw [T_len, List.length_replicate]
  tm_at "dl"
  rw [er, el]
  tm_at "dl"
  rename_i h5 a o5 a0 a1 h6 s o6 s0 s1
  obtain ⟨a, rfl⟩ := Int.eq_ofNat_of_zero_le a0
  have har : a ≤ r := by omega
  have sz2 : (T (List.replicate r c)).length ≤ sizeLine := by rw [el, sizeLine_eq]; omega
  have ea : cutS (T (List.replicate r c)) (some (a : Int)) none = T (List.replicate (r - a) c) := by
    rw [T_drop (by rw [List.length_replicate]; exact har), List.drop_replicate]
  have eb : cutS (T (List.replicate r c)) none (some (a : Int)) = T (List.replicate a c) := by
    rw [T_take (by rw [List.length_replicate]; exact har), List.take_replicate, Nat.min_eq_left har]
  obtain ⟨b0, rfl⟩ := Int.eq_ofNat_of_zero_le b00
  obtain ⟨m, rfl⟩ := Int.eq_ofNat_of_zero_le m0
  have fin := fun k (hk : k ≤ 36) => words_ok (c := c) (a := a) (b := r - a) (short := decide (s = 1)) (b0 := b0) (st := st) (n := k) hs6 hk hc (by omega)
  refine forK_ind (fun ds ρ => ∃ (k : Nat) (c9 c10 c11 : C), ds = rangeD (k : Int) (m - k) ∧ k ≤ m ∧ ρ = [CFH.hc h6, .v (.int m), .v (.str (Str.ofString "abcdefghijklmnopqrstuvwxyz0123456789")), .v (.int b0), .v (.int st), .v (.str (T (List.replicate r c))), .v (.int a), .v (.int s), .own 0 (.lst (((List.range k).map fun i => T (wordL c a (r - a) (decide (s = 1)) b0 st i)).map PyData.str)), c9, c10, c11]) ?_ ?_ _ _ ⟨0, _, _, _, by rw [Int.toNat_natCast]; rfl, Nat.zero_le _, rfl⟩
  · rintro ρ ⟨k, c9, c10, c11, hd, hk, rfl⟩
    have : k = m := by
      rcases Nat.lt_or_ge k m with z | z
      · rw [show m - k = (m - k - 1) + 1 by omega, rangeD_cons] at hd; cases hd
      · omega
    subst this
    tm_at "dl"
    exact q h6 _ (o6.up (by omega)) (by simp) (fin k (by omega))
  · rintro d ds ρ next hnx ⟨k, c9, c10, c11, hd, hk, rfl⟩
    have hkm : k < m := by
      rcases Nat.lt_or_ge k m with z | z
      · exact z
      · rw [show m - k = 0 by omega, rangeD_zero] at hd; cases hd
    rw [show m - k = (m - (k + 1)) + 1 by omega, rangeD_cons] at hd
    obtain ⟨rfl, rfl⟩ : d = .int (k : Nat) ∧ ds = rangeD ((k : Int) + 1) (m - (k + 1)) := by
      cases hd
      exact ⟨rfl, rfl⟩
    clear hd
    have mo : MulOk (st : Int) (k : Int) := MulOk.left ⟨by omega, by omega⟩
    have ei : ((b0 : Int) + (st : Int) * (k : Int)) % 36 = (((b0 + st * k) % 36 : Nat) : Int) := by push_cast; rfl
    have hj : (b0 + st * k) % 36 < 36 := Nat.mod_lt _ (by decide)
    have hsg := sg_at hj
    have leaf : ∀ (c9 c10 c11 : C) (w : Str), w = T (wordL c a (r - a) (decide (s = 1)) b0 st k) → next [CFH.hc h6, .v (.int m), .v (.str (Str.ofString "abcdefghijklmnopqrstuvwxyz0123456789")), .v (.int b0), .v (.int st), .v (.str (T (List.replicate r c))), .v (.int a), .v (.int s), .own 0 (.lst (((List.range k).map fun i => T (wordL c a (r - a) (decide (s = 1)) b0 st i)).map PyData.str ++ [.str w])), c9, c10, c11] := fun c9 c10 c11 w hw => hnx _ ⟨k + 1, c9, c10, c11, by push_cast; rfl, hkm, by rw [List.range_succ, List.map_append, List.map_append, hw]; rfl⟩
    clear hnx fin q
    have lf : (((List.range k).map fun i => T (wordL c a (r - a) (decide (s = 1)) b0 st i)).map PyData.str).length < sizeLine := by
      rw [List.length_map, List.length_map, List.length_range, sizeLine_eq]
      omega
    tm_at "dl"
    all_goals
      refine optK_of (by rw [ei]; exact L2.atI_nat hsg) ?_
      tm_at "dl"
    all_goals
      rw [eb]
      refine ⟨le1000 (by show (T (List.replicate a c)).length + (T [sgAt ((b0 + st * k) % 36)]).length ≤ 1000; rw [T_len, T_len, List.length_replicate]; show a + 1 ≤ 1000; omega), ?_⟩
      have e1 : T (List.replicate a c) ++ (⟨#[sgAt ((b0 + st * k) % 36)]⟩ : Str) = T (List.replicate a c ++ [sgAt ((b0 + st * k) % 36)]) := T_app
      tm_at "dl"
      rw [e1]
      try rw [ea]
      refine ⟨le1000 ?_, ?_⟩
    · show (T _).length + (T []).length ≤ 1000
      rw [T_len, T_len, List.length_append, List.length_replicate]
      show a + 1 + 0 ≤ 1000
      omega
    rotate_left
    · rw [T_len, T_len, List.length_append, List.length_replicate, List.length_replicate]
      show a + 1 + (r - a) ≤ 1000
      omega
    rotate_left
    · rw [T_len, T_len, List.length_append, List.length_replicate, List.length_replicate]
      show a + 1 + (r - a) ≤ 1000
      omega
    rotate_left
    all_goals
      tm_at "dl"
      refine leaf _ _ _ _ ?_
      unfold wordL
    · rename_i z1 z2
      have e2 : k % 2 = 1 := by omega
      rw [if_pos ⟨decide_eq_true z1, e2⟩]
      exact T_app
    · rename_i z1 z2
      rw [if_neg (fun z => by omega)]
      exact T_app
    · rename_i z1 _
      rw [if_neg (fun z => z1 (of_decide_eq_true z.1))]
      exact T_app
end CFWd
end

set_option Elab.async false
set_option linter.all false
set_option maxRecDepth 100000
set_option maxHeartbeats 4000000

/-! generated: the derivations, the end -/
namespace K10
open PySem PySem.Spec PyProof.Rows L2 DL K10H CFIs CFH CFWd CFLy
abbrev N_is_whole : List Str := ["thing"]
abbrev P_is_whole : List Str := ["thing"]
theorem sc_is_whole : FnScope N_is_whole P_is_whole (defScope st_is_whole) := ⟨rfl, rfl, rfl, by decide +kernel, rfl, by decide +kernel, by decide +kernel⟩
abbrev N_is_word : List Str := ["thing", "#0", "sign"]
abbrev P_is_word : List Str := ["thing"]
theorem sc_is_word : FnScope N_is_word P_is_word (defScope st_is_word) := ⟨rfl, rfl, rfl, by decide +kernel, rfl, by decide +kernel, by decide +kernel⟩
abbrev N_is_turn : List Str := ["thing", "low", "high", "begin", "end", "hand"]
abbrev P_is_turn : List Str := ["thing", "low", "high"]
theorem sc_is_turn : FnScope N_is_turn P_is_turn (defScope st_is_turn) := ⟨rfl, rfl, rfl, by decide +kernel, rfl, by decide +kernel, by decide +kernel⟩
abbrev N_are_turns : List Str := ["thing", "most", "low", "turn"]
abbrev P_are_turns : List Str := ["thing", "most"]
theorem sc_are_turns : FnScope N_are_turns P_are_turns (defScope st_are_turns) := ⟨rfl, rfl, rfl, by decide +kernel, rfl, by decide +kernel, by decide +kernel⟩
abbrev N_is_layer : List Str := ["thing", "word", "start", "days", "turns"]
abbrev P_is_layer : List Str := ["thing"]
theorem sc_is_layer : FnScope N_is_layer P_is_layer (defScope st_is_layer) := ⟨rfl, rfl, rfl, by decide +kernel, rfl, by decide +kernel, by decide +kernel⟩
abbrev N_law_hand : List Str := ["_law_script", "_law_k", "_law_cell"]
abbrev P_law_hand : List Str := ["_law_script", "_law_k"]
theorem sc_law_hand : FnScope N_law_hand P_law_hand (defScope st_law_hand) := ⟨rfl, rfl, rfl, by decide +kernel, rfl, by decide +kernel, by decide +kernel⟩
abbrev N_law_take : List Str := ["_law_hand_here", "_law_many", "_law_digit", "_law_turn", "_law_factor", "_law_mixed", "_law_other"]
abbrev P_law_take : List Str := ["_law_hand_here", "_law_many"]
theorem sc_law_take : FnScope N_law_take P_law_take (defScope st_law_take) := ⟨rfl, rfl, rfl, by decide +kernel, rfl, by decide +kernel, by decide +kernel⟩
abbrev N_law_pick : List Str := ["_law_hand_here", "_law_some"]
abbrev P_law_pick : List Str := ["_law_hand_here", "_law_some"]
theorem sc_law_pick : FnScope N_law_pick P_law_pick (defScope st_law_pick) := ⟨rfl, rfl, rfl, by decide +kernel, rfl, by decide +kernel, by decide +kernel⟩
abbrev N_law_words : List Str := ["_law_hand_here", "_law_many", "_law_signs", "_law_start", "_law_step", "_law_stem", "_law_at", "_law_short", "_law_words_here", "_law_k", "_law_rest", "_law_sign"]
abbrev P_law_words : List Str := ["_law_hand_here", "_law_many"]
theorem sc_law_words : FnScope N_law_words P_law_words (defScope st_law_words) := ⟨rfl, rfl, rfl, by decide +kernel, rfl, by decide +kernel, by decide +kernel⟩
abbrev N_law_minute : List Str := ["_law_hand_here", "_law_days", "_law_way", "_law_day"]
abbrev P_law_minute : List Str := ["_law_hand_here", "_law_days"]
theorem sc_law_minute : FnScope N_law_minute P_law_minute (defScope st_law_minute) := ⟨rfl, rfl, rfl, by decide +kernel, rfl, by decide +kernel, by decide +kernel⟩
abbrev N_law_layer : List Str := ["_law_hand_here", "_law_word", "_law_names", "_law_days", "_law_most", "_law_start", "_law_k", "_law_ends", "_law_turns", "#0"]
abbrev P_law_layer : List Str := ["_law_hand_here", "_law_word", "_law_names", "_law_days", "_law_most"]
theorem sc_law_layer : FnScope N_law_layer P_law_layer (defScope st_law_layer) := ⟨rfl, rfl, rfl, by decide +kernel, rfl, by decide +kernel, by decide +kernel⟩
abbrev N_law_is_whole : List Str := ["_law_thing"]
abbrev P_law_is_whole : List Str := ["_law_thing"]
theorem sc_law_is_whole : FnScope N_law_is_whole P_law_is_whole (defScope st_law_is_whole) := ⟨rfl, rfl, rfl, by decide +kernel, rfl, by decide +kernel, by decide +kernel⟩
abbrev N_law_is_word : List Str := ["_law_thing", "#0", "_law_sign"]
abbrev P_law_is_word : List Str := ["_law_thing"]
theorem sc_law_is_word : FnScope N_law_is_word P_law_is_word (defScope st_law_is_word) := ⟨rfl, rfl, rfl, by decide +kernel, rfl, by decide +kernel, by decide +kernel⟩
abbrev N_law_are_turns : List Str := ["_law_thing", "_law_high", "_law_low", "_law_turn"]
abbrev P_law_are_turns : List Str := ["_law_thing", "_law_high"]
theorem sc_law_are_turns : FnScope N_law_are_turns P_law_are_turns (defScope st_law_are_turns) := ⟨rfl, rfl, rfl, by decide +kernel, rfl, by decide +kernel, by decide +kernel⟩
abbrev N_law_due : List Str := ["_law_thing"]
abbrev P_law_due : List Str := ["_law_thing"]
theorem sc_law_due : FnScope N_law_due P_law_due (defScope st_law_due) := ⟨rfl, rfl, rfl, by decide +kernel, rfl, by decide +kernel, by decide +kernel⟩
abbrev N_law_bent_word : List Str := ["_law_hand_here", "_law_word", "_law_signs", "_law_at", "_law_sign", "_law_found"]
abbrev P_law_bent_word : List Str := ["_law_hand_here", "_law_word"]
theorem sc_law_bent_word : FnScope N_law_bent_word P_law_bent_word (defScope st_law_bent_word) := ⟨rfl, rfl, rfl, by decide +kernel, rfl, by decide +kernel, by decide +kernel⟩
abbrev N_law_others : List Str := ["_law_hand_here", "_law_thing", "_law_days", "_law_found"]
abbrev P_law_others : List Str := ["_law_hand_here", "_law_thing", "_law_days"]
theorem sc_law_others : FnScope N_law_others P_law_others (defScope st_law_others) := ⟨rfl, rfl, rfl, by decide +kernel, rfl, by decide +kernel, by decide +kernel⟩
abbrev N_law_bent : List Str := ["_law_hand_here", "_law_row", "_law_days", "_law_odd", "_law_found", "_law_at", "_law_one"]
abbrev P_law_bent : List Str := ["_law_hand_here", "_law_row", "_law_days"]
theorem sc_law_bent : FnScope N_law_bent P_law_bent (defScope st_law_bent) := ⟨rfl, rfl, rfl, by decide +kernel, rfl, by decide +kernel, by decide +kernel⟩
abbrev N_law_things : List Str := ["_law_hand_here", "_law_way", "_law_many", "_law_names", "_law_word", "_law_start", "_law_days", "_law_turns", "_law_thing", "_law_found", "_law_at", "_law_turn", "#0", "_law_k"]
abbrev P_law_things : List Str := ["_law_hand_here"]
theorem sc_law_things : FnScope N_law_things P_law_things (defScope st_law_things) := ⟨rfl, rfl, rfl, by decide +kernel, rfl, by decide +kernel, by decide +kernel⟩
abbrev N_law : List Str := ["_law_script", "_law_k", "_law_hand_here", "_law_things_here", "_law_thing", "_law_found"]
abbrev P_law : List Str := ["_law_script"]
theorem sc_law : FnScope N_law P_law (defScope st_law) := ⟨rfl, rfl, rfl, by decide +kernel, rfl, by decide +kernel, by decide +kernel⟩
section
variable {P : Program} {w : World} {K : PySem.W.Frag} {mg : Str → Option Value} {base : Heap}
theorem has_is_whole {a : Addr} {fd : FuncData} (F : FunD K "is_whole" "is_whole" (defArgs st_is_whole) (defBody st_is_whole) (defScope st_is_whole) [] [] a fd) (gl : mg "is_whole" = some (.ref a)) (m_isinstance : mg "isinstance" = none) (m_int : mg "int" = none) (m_bool : mg "bool" = none) : Has P w K mg base 1 "is_whole" CFIs.S_is_whole :=
  ⟨a, fd, P_is_whole, fn0 (k := 0) (L := CFIs.L_is_whole) (ww := CFIs.w_is_whole) F sc_is_whole rfl CFIs.len_is_whole (by
      intro cdv A outer s H E hr g hgL
      unfold CFIs.w_is_whole
      refine eb_one ?_
      refine es_ret ?_
      refine ee_and ?_ ?_
      refine ee_isi2 (by rfl) m_isinstance (by rfl) m_int ?_
      exact ee_var (pv 0)
      refine ee_one ?_
      refine ee_not ?_
      refine ee_isi2 (by rfl) m_isinstance (by rfl) m_bool ?_
      exact ee_var (pv 0)) CFIs.ok_is_whole, gl, F.kp, F.bindsN (fun _ _ _ _ _ _ us hl => match us, hl with | [_], _ => rfl)⟩
theorem has_is_word {a : Addr} {fd : FuncData} (F : FunD K "is_word" "is_word" (defArgs st_is_word) (defBody st_is_word) (defScope st_is_word) [] [] a fd) (gl : mg "is_word" = some (.ref a)) (m_isinstance : mg "isinstance" = none) (m_str : mg "str" = none) (m_len : mg "len" = none) (m_all : mg "all" = none) (c_SIGNS : ∃ t, mg "SIGNS" = some (.str "abcdefghijklmnopqrstuvwxyz0123456789" t)) : Has P w K mg base 1 "is_word" CFIs.S_is_word :=
  ⟨a, fd, P_is_word, fn0 (k := 0) (L := CFIs.L_is_word) (ww := CFIs.w_is_word) F sc_is_word rfl CFIs.len_is_word (by
      intro cdv A outer s H E hr g hgL
      unfold CFIs.w_is_word
      refine eb_cons ?_ ?_
      refine es_if ?_ ?_ ?_
      refine et_w ?_
      refine ew_or ?_ ?_
      refine et_not ?_
      refine et_val ?_
      refine ee_isi2 (by rfl) m_isinstance (by rfl) m_str ?_
      exact ee_var (pv 0)
      refine ew_or1 ?_
      refine et_not ?_
      refine et_chain (f := fun i j => decide (i ≤ j)) (f' := fun i j => decide (i ≤ j)) op_le op_le ?_ ?_ ?_
      exact ee_int
      refine ee_len (by rfl) m_len ?_
      refine ea_cons ?_ ?_
      exact ee_var (pv 0)
      exact ea_nil
      exact ee_int
      refine eb_one ?_
      refine es_ret ?_
      exact ee_bl
      exact eb_nil
      refine eb_one ?_
      refine es_ret ?_
      refine ee_all rfl (by rfl) m_all ?_
      refine ea_cons ?_ ?_
      refine ee_lc (own := [("sign", 2)]) rfl sc_is_word.nd (lf_ hgL rfl) ?_ (blkOk_by (own := [("sign", 2)]) (N := N_is_word) (sc := defScope st_is_word) (by decide +kernel)) (fun _ _ _ _ _ => eg_name (i := 2) sc_is_word.nd rfl (Or.inl rfl)) (fun _ _ _ _ _ => ets_nil) (fun _ _ _ _ _ => ee_in (units65 hr) (ee_var (pv 2)) (ee_gstr (by rfl) c_SIGNS.choose_spec))
      refine ei_seq ?_
      exact ee_var (pv 0)
      exact ea_nil) CFIs.ok_is_word, gl, F.kp, F.bindsN (fun _ _ _ _ _ _ us hl => match us, hl with | [_], _ => rfl)⟩
theorem has_is_turn {a : Addr} {fd : FuncData} (F : FunD K "is_turn" "is_turn" (defArgs st_is_turn) (defBody st_is_turn) (defScope st_is_turn) [] [] a fd) (gl : mg "is_turn" = some (.ref a)) (m_isinstance : mg "isinstance" = none) (m_tuple : mg "tuple" = none) (m_len : mg "len" = none) (h_is_whole : Has P w K mg base 1 "is_whole" CFIs.S_is_whole) (h_is_word : Has P w K mg base 1 "is_word" CFIs.S_is_word) : Has P w K mg base 2 "is_turn" CFIs.S_is_turn :=
  ⟨a, fd, P_is_turn, fn0 (k := 1) (L := CFIs.L_is_turn) (ww := CFIs.w_is_turn) F sc_is_turn rfl CFIs.len_is_turn (by
      intro cdv A outer s H E hr g hgL
      unfold CFIs.w_is_turn
      refine eb_cons ?_ ?_
      refine es_if ?_ ?_ ?_
      refine et_w ?_
      refine ew_or ?_ ?_
      refine et_not ?_
      refine et_val ?_
      refine ee_isi2 (by rfl) m_isinstance (by rfl) m_tuple ?_
      exact ee_var (pv 0)
      refine ew_or1 ?_
      refine et_ne hr.units ?_ ?_
      refine ee_len (by rfl) m_len ?_
      refine ea_cons ?_ ?_
      exact ee_var (pv 0)
      exact ea_nil
      exact ee_int
      refine eb_one ?_
      refine es_ret ?_
      exact ee_bl
      exact eb_nil
      refine eb_cons ?_ ?_
      refine es_asg ?_ (eg_tup rfl (egs_cons (eg_name (i := 3) sc_is_turn.nd rfl (Or.inl rfl)) (egs_cons (eg_name (i := 4) sc_is_turn.nd rfl (Or.inl rfl)) (egs_cons (eg_name (i := 5) sc_is_turn.nd rfl (Or.inl rfl)) egs_nil))))
      exact ee_var (pv 0)
      refine eb_cons ?_ ?_
      refine es_if ?_ ?_ ?_
      refine et_w ?_
      refine ew_or ?_ ?_
      refine et_not ?_
      refine et_val ?_
      refine ee_has h_is_whole (hr.mono (by decide)) (by rfl) ?_
      refine ea_cons ?_ ?_
      exact ee_var (pv 3)
      exact ea_nil
      refine ew_or ?_ ?_
      refine et_not ?_
      refine et_val ?_
      refine ee_has h_is_whole (hr.mono (by decide)) (by rfl) ?_
      refine ea_cons ?_ ?_
      exact ee_var (pv 4)
      exact ea_nil
      refine ew_or1 ?_
      refine et_not ?_
      refine et_val ?_
      refine ee_has h_is_word (hr.mono (by decide)) (by rfl) ?_
      refine ea_cons ?_ ?_
      exact ee_var (pv 5)
      exact ea_nil
      refine eb_one ?_
      refine es_ret ?_
      exact ee_bl
      exact eb_nil
      refine eb_one ?_
      refine es_ret ?_
      refine ee_chain3 (f := fun i j => decide (i ≤ j)) (f' := fun i j => decide (i < j)) (f'' := fun i j => decide (i ≤ j)) op_le op_lt op_le ?_ ?_ ?_ ?_
      exact ee_var (pv 1)
      exact ee_var (pv 3)
      exact ee_var (pv 4)
      exact ee_var (pv 2)) CFIs.ok_is_turn, gl, F.kp, F.bindsN (fun _ _ _ _ _ _ us hl => match us, hl with | [_, _, _], _ => rfl)⟩
theorem has_are_turns {a : Addr} {fd : FuncData} (F : FunD K "are_turns" "are_turns" (defArgs st_are_turns) (defBody st_are_turns) (defScope st_are_turns) [] [] a fd) (gl : mg "are_turns" = some (.ref a)) (m_isinstance : mg "isinstance" = none) (m_tuple : mg "tuple" = none) (m_len : mg "len" = none) (c_MOST_TURNS : ∃ t, mg "MOST_TURNS" = some (.int 12 t)) (h_is_turn : Has P w K mg base 2 "is_turn" CFIs.S_is_turn) : Has P w K mg base 3 "are_turns" CFIs.S_are_turns :=
  ⟨a, fd, P_are_turns, fn0 (k := 2) (L := CFIs.L_are_turns) (ww := CFIs.w_are_turns) F sc_are_turns rfl CFIs.len_are_turns (by
      intro cdv A outer s H E hr g hgL
      unfold CFIs.w_are_turns
      refine eb_cons ?_ ?_
      refine es_if ?_ ?_ ?_
      refine et_w ?_
      refine ew_or ?_ ?_
      refine et_not ?_
      refine et_val ?_
      refine ee_isi2 (by rfl) m_isinstance (by rfl) m_tuple ?_
      exact ee_var (pv 0)
      refine ew_or1 ?_
      refine et_gt ?_ ?_
      refine ee_len (by rfl) m_len ?_
      refine ea_cons ?_ ?_
      exact ee_var (pv 0)
      exact ea_nil
      exact ee_gint (by rfl) c_MOST_TURNS.choose_spec
      refine eb_one ?_
      refine es_ret ?_
      exact ee_bl
      exact eb_nil
      refine eb_cons ?_ ?_
      refine es_setF (i := 2) sc_are_turns.nd rfl (Or.inl rfl) ?_
      exact ee_int
      refine eb_cons ?_ ?_
      refine es_for PassesOwn.never rfl ?_ (eg_name (i := 3) sc_are_turns.nd rfl (Or.inl rfl)) ?_
      refine ei_seq ?_
      exact ee_var (pv 0)
      refine eb_cons ?_ ?_
      refine es_if ?_ ?_ ?_
      refine et_not ?_
      refine et_val ?_
      refine ee_has h_is_turn (hr.mono (by decide)) (by rfl) ?_
      refine ea_cons ?_ ?_
      exact ee_var (pv 3)
      refine ea_cons ?_ ?_
      exact ee_var (pv 2)
      refine ea_cons ?_ ?_
      exact ee_var (pv 1)
      exact ea_nil
      refine eb_one ?_
      refine es_ret ?_
      exact ee_bl
      exact eb_nil
      refine eb_one ?_
      refine es_setF (i := 2) sc_are_turns.nd rfl (Or.inl rfl) ?_
      refine ee_ix ?_ ?_
      exact ee_var (pv 3)
      exact ee_int
      refine eb_one ?_
      refine es_ret ?_
      exact ee_bl) CFIs.ok_are_turns, gl, F.kp, F.bindsN (fun _ _ _ _ _ _ us hl => match us, hl with | [_, _], _ => rfl)⟩
theorem has_is_layer {a : Addr} {fd : FuncData} (F : FunD K "is_layer" "is_layer" (defArgs st_is_layer) (defBody st_is_layer) (defScope st_is_layer) [] [] a fd) (gl : mg "is_layer" = some (.ref a)) (m_isinstance : mg "isinstance" = none) (m_tuple : mg "tuple" = none) (m_len : mg "len" = none) (h_is_word : Has P w K mg base 1 "is_word" CFIs.S_is_word) (h_is_whole : Has P w K mg base 1 "is_whole" CFIs.S_is_whole) (c_MOST_DAYS : ∃ t, mg "MOST_DAYS" = some (.int 60 t)) (c_DAY : ∃ t, mg "DAY" = some (.int 1440 t)) (h_are_turns : Has P w K mg base 3 "are_turns" CFIs.S_are_turns) : Has P w K mg base 4 "is_layer" CFIs.S_is_layer :=
  ⟨a, fd, P_is_layer, fn0 (k := 3) (L := CFIs.L_is_layer) (ww := CFIs.w_is_layer) F sc_is_layer rfl CFIs.len_is_layer (by
      intro cdv A outer s H E hr g hgL
      unfold CFIs.w_is_layer
      refine eb_cons ?_ ?_
      refine es_if ?_ ?_ ?_
      refine et_w ?_
      refine ew_or ?_ ?_
      refine et_not ?_
      refine et_val ?_
      refine ee_isi2 (by rfl) m_isinstance (by rfl) m_tuple ?_
      exact ee_var (pv 0)
      refine ew_or1 ?_
      refine et_ne hr.units ?_ ?_
      refine ee_len (by rfl) m_len ?_
      refine ea_cons ?_ ?_
      exact ee_var (pv 0)
      exact ea_nil
      exact ee_int
      refine eb_one ?_
      refine es_ret ?_
      exact ee_bl
      exact eb_nil
      refine eb_cons ?_ ?_
      refine es_asg ?_ (eg_tup rfl (egs_cons (eg_name (i := 1) sc_is_layer.nd rfl (Or.inl rfl)) (egs_cons (eg_name (i := 2) sc_is_layer.nd rfl (Or.inl rfl)) (egs_cons (eg_name (i := 3) sc_is_layer.nd rfl (Or.inl rfl)) (egs_cons (eg_name (i := 4) sc_is_layer.nd rfl (Or.inl rfl)) egs_nil)))))
      exact ee_var (pv 0)
      refine eb_cons ?_ ?_
      refine es_if ?_ ?_ ?_
      refine et_w ?_
      refine ew_or ?_ ?_
      refine et_not ?_
      refine et_val ?_
      refine ee_has h_is_word (hr.mono (by decide)) (by rfl) ?_
      refine ea_cons ?_ ?_
      exact ee_var (pv 1)
      exact ea_nil
      refine ew_or ?_ ?_
      refine et_not ?_
      refine et_val ?_
      refine ee_has h_is_whole (hr.mono (by decide)) (by rfl) ?_
      refine ea_cons ?_ ?_
      exact ee_var (pv 2)
      exact ea_nil
      refine ew_or1 ?_
      refine et_not ?_
      refine et_val ?_
      refine ee_has h_is_whole (hr.mono (by decide)) (by rfl) ?_
      refine ea_cons ?_ ?_
      exact ee_var (pv 3)
      exact ea_nil
      refine eb_one ?_
      refine es_ret ?_
      exact ee_bl
      exact eb_nil
      refine eb_cons ?_ ?_
      refine es_if ?_ ?_ ?_
      refine et_w ?_
      refine ew_or ?_ ?_
      refine et_not ?_
      refine et_chain (f := fun i j => decide (i ≤ j)) (f' := fun i j => decide (i ≤ j)) op_le op_le ?_ ?_ ?_
      exact ee_int
      exact ee_var (pv 3)
      exact ee_gint (by rfl) c_MOST_DAYS.choose_spec
      refine ew_or1 ?_
      refine et_not ?_
      refine et_chain (f := fun i j => decide (i ≤ j)) (f' := fun i j => decide (i < j)) op_le op_lt ?_ ?_ ?_
      exact ee_int
      exact ee_var (pv 2)
      refine ee_mul ?_ ?_
      exact ee_gint (by rfl) c_DAY.choose_spec
      exact ee_var (pv 3)
      refine eb_one ?_
      refine es_ret ?_
      exact ee_bl
      exact eb_nil
      refine eb_one ?_
      refine es_ret ?_
      refine ee_has h_are_turns (hr.mono (by decide)) (by rfl) ?_
      refine ea_cons ?_ ?_
      exact ee_var (pv 4)
      refine ea_cons ?_ ?_
      refine ee_mul ?_ ?_
      exact ee_gint (by rfl) c_DAY.choose_spec
      exact ee_var (pv 3)
      exact ea_nil) CFIs.ok_is_layer, gl, F.kp, F.bindsN (fun _ _ _ _ _ _ us hl => match us, hl with | [_], _ => rfl)⟩
theorem has_law_hand {a : Addr} {fd : FuncData} (F : FunD K "_law_hand" "_law_hand" (defArgs st_law_hand) (defBody st_law_hand) (defScope st_law_hand) [] [] a fd) (gl : mg "_law_hand" = some (.ref a)) (m_len : mg "len" = none) (m_int : mg "int" = none) : Has P w K mg base 1 "_law_hand" CFH.S_law_hand :=
  ⟨a, fd, P_law_hand, fn0 (k := 0) (L := CFH.L_law_hand) (ww := CFH.w_law_hand) F sc_law_hand rfl CFH.len_law_hand (by
      intro cdv A outer s H E hr g hgL
      unfold CFH.w_law_hand
      refine eb_cons ?_ ?_
      refine es_setF (i := 2) sc_law_hand.nd rfl (Or.inl rfl) ?_
      exact ee_int
      refine eb_cons ?_ ?_
      refine es_if ?_ ?_ ?_
      refine et_lt ?_ ?_
      exact ee_var (pv 1)
      refine ee_len (by rfl) m_len ?_
      refine ea_cons ?_ ?_
      exact ee_var (pv 0)
      exact ea_nil
      refine eb_one ?_
      refine es_setF (i := 2) sc_law_hand.nd rfl (Or.inl rfl) ?_
      refine ee_ix ?_ ?_
      exact ee_var (pv 0)
      exact ee_var (pv 1)
      exact eb_nil
      refine eb_one ?_
      refine es_ret ?_
      refine ee_lst ?_
      refine ea_cons ?_ ?_
      refine ee_mul ?_ ?_
      exact ee_var (pv 2)
      refine ee_int1 (by rfl) m_int ?_
      refine ea_cons ?_ ?_
      refine ee_ge ?_ ?_
      exact ee_var (pv 2)
      refine ee_pow ?_ ?_
      exact ee_int
      exact ee_int
      exact ea_nil
      refine ea_cons ?_ ?_
      refine ee_add ?_ ?_
      refine ee_add ?_ ?_
      refine ee_mod ?_ ?_
      exact ee_var (pv 2)
      exact ee_int
      refine ee_mul ?_ ?_
      exact ee_int
      exact ee_var (pv 1)
      exact ee_int
      refine ea_cons ?_ ?_
      exact ee_int
      exact ea_nil) CFH.ok_law_hand, gl, F.kp, F.bindsN (fun _ _ _ _ _ _ us hl => match us, hl with | [_, _], _ => rfl)⟩
theorem has_law_take {a : Addr} {fd : FuncData} (F : FunD K "_law_take" "_law_take" (defArgs st_law_take) (defBody st_law_take) (defScope st_law_take) [] [] a fd) (gl : mg "_law_take" = some (.ref a))  : Has P w K mg base 1 "_law_take" CFH.S_law_take :=
  ⟨a, fd, P_law_take, fn0 (k := 0) (L := CFH.L_law_take) (ww := CFH.w_law_take) F sc_law_take rfl CFH.len_law_take (by
      intro cdv A outer s H E hr g hgL
      unfold CFH.w_law_take
      refine eb_cons ?_ ?_
      refine es_if ?_ ?_ ?_
      refine et_gt ?_ ?_
      refine ee_ix ?_ ?_
      exact ee_ln (i := 0) (lt_ hgL rfl) (pv 0)
      exact ee_int
      exact ee_int
      refine eb_cons ?_ ?_
      refine es_setF (i := 2) sc_law_take.nd rfl (Or.inl rfl) ?_
      refine ee_mod ?_ ?_
      refine ee_ix ?_ ?_
      exact ee_ln (i := 0) (lt_ hgL rfl) (pv 0)
      exact ee_int
      exact ee_var (pv 1)
      refine eb_cons ?_ ?_
      refine es_setIx (i := 0) (lt_ hgL rfl) (pv 0) ?_ ?_
      refine ee_div ?_ ?_
      refine ee_ix ?_ ?_
      exact ee_ln (i := 0) (lt_ hgL rfl) (pv 0)
      exact ee_int
      exact ee_var (pv 1)
      exact ee_int
      refine eb_one ?_
      refine es_ret ?_
      exact ee_var (pv 2)
      exact eb_nil
      refine eb_cons ?_ ?_
      refine es_setIx (i := 0) (lt_ hgL rfl) (pv 0) ?_ ?_
      refine ee_add ?_ ?_
      refine ee_ix ?_ ?_
      exact ee_ln (i := 0) (lt_ hgL rfl) (pv 0)
      exact ee_int
      exact ee_int
      exact ee_int
      refine eb_cons ?_ ?_
      refine es_setF (i := 3) sc_law_take.nd rfl (Or.inl rfl) ?_
      refine ee_ix ?_ ?_
      exact ee_ln (i := 0) (lt_ hgL rfl) (pv 0)
      exact ee_int
      refine eb_cons ?_ ?_
      refine es_setF (i := 4) sc_law_take.nd rfl (Or.inl rfl) ?_
      refine ee_add ?_ ?_
      refine ee_add ?_ ?_
      exact ee_int
      refine ee_mul ?_ ?_
      refine ee_mul ?_ ?_
      exact ee_int
      exact ee_var (pv 3)
      exact ee_var (pv 3)
      refine ee_mul ?_ ?_
      exact ee_int
      exact ee_var (pv 3)
      refine eb_cons ?_ ?_
      refine es_setF (i := 5) sc_law_take.nd rfl (Or.inl rfl) ?_
      refine ee_mod ?_ ?_
      refine ee_mul ?_ ?_
      refine ee_add ?_ ?_
      refine ee_ix ?_ ?_
      exact ee_ln (i := 0) (lt_ hgL rfl) (pv 0)
      exact ee_int
      refine ee_mul ?_ ?_
      exact ee_int
      exact ee_var (pv 3)
      exact ee_var (pv 4)
      exact ee_int
      refine eb_cons ?_ ?_
      refine es_setF (i := 6) sc_law_take.nd rfl (Or.inl rfl) ?_
      refine ee_add ?_ ?_
      refine ee_add ?_ ?_
      refine ee_mod ?_ ?_
      exact ee_var (pv 5)
      exact ee_int
      refine ee_mul ?_ ?_
      exact ee_var (pv 3)
      exact ee_int
      exact ee_int
      refine eb_cons ?_ ?_
      refine es_setF (i := 5) sc_law_take.nd rfl (Or.inl rfl) ?_
      refine ee_mod ?_ ?_
      refine ee_mul ?_ ?_
      exact ee_var (pv 5)
      exact ee_var (pv 6)
      exact ee_int
      refine eb_one ?_
      refine es_ret ?_
      refine ee_mod ?_ ?_
      refine ee_add ?_ ?_
      refine ee_div ?_ ?_
      exact ee_var (pv 5)
      exact ee_int
      refine ee_div ?_ ?_
      exact ee_var (pv 5)
      exact ee_int
      exact ee_var (pv 1)) CFH.ok_law_take, gl, F.kp, F.bindsN (fun _ _ _ _ _ _ us hl => match us, hl with | [_, _], _ => rfl)⟩
theorem has_law_pick {a : Addr} {fd : FuncData} (F : FunD K "_law_pick" "_law_pick" (defArgs st_law_pick) (defBody st_law_pick) (defScope st_law_pick) [] [] a fd) (gl : mg "_law_pick" = some (.ref a)) (h_law_take : Has P w K mg base 1 "_law_take" CFH.S_law_take) (m_len : mg "len" = none) : Has P w K mg base 2 "_law_pick" CFH.S_law_pick :=
  ⟨a, fd, P_law_pick, fn0 (k := 1) (L := CFH.L_law_pick) (ww := CFH.w_law_pick) F sc_law_pick rfl CFH.len_law_pick (by
      intro cdv A outer s H E hr g hgL
      unfold CFH.w_law_pick
      refine eb_one ?_
      refine es_ret ?_
      refine ee_ix ?_ ?_
      exact ee_var (pv 1)
      refine ee_has h_law_take (hr.mono (by decide)) (by rfl) ?_
      refine ea_cons ?_ ?_
      exact ee_pk (i := 0) (lt_ hgL rfl) (pv 0)
      refine ea_cons ?_ ?_
      refine ee_len (by rfl) m_len ?_
      refine ea_cons ?_ ?_
      exact ee_var (pv 1)
      exact ea_nil
      exact ea_nil) CFH.ok_law_pick, gl, F.kp, F.bindsN (fun _ _ _ _ _ _ us hl => match us, hl with | [_, _], _ => rfl)⟩
theorem has_law_words {a : Addr} {fd : FuncData} (F : FunD K "_law_words" "_law_words" (defArgs st_law_words) (defBody st_law_words) (defScope st_law_words) [] [] a fd) (gl : mg "_law_words" = some (.ref a)) (h_law_pick : Has P w K mg base 2 "_law_pick" CFH.S_law_pick) (h_law_take : Has P w K mg base 1 "_law_take" CFH.S_law_take) (m_len : mg "len" = none) (m_range : mg "range" = none) : Has P w K mg base 3 "_law_words" CFWd.S_law_words :=
  ⟨a, fd, P_law_words, fn0 (k := 2) (L := CFWd.L_law_words) (ww := CFWd.w_law_words) F sc_law_words rfl CFWd.len_law_words (by
      intro cdv A outer s H E hr g hgL
      unfold CFWd.w_law_words
      refine eb_cons ?_ ?_
      refine es_setF (i := 2) sc_law_words.nd rfl (Or.inl rfl) ?_
      exact ee_str
      refine eb_cons ?_ ?_
      refine es_par (i := 3) (j := 4) rfl sc_law_words.nd rfl rfl (by decide) rfl rfl ?_ (by rfl)
      refine ea_cons ?_ ?_
      refine ee_has h_law_take (hr.mono (by decide)) (by rfl) ?_
      refine ea_cons ?_ ?_
      exact ee_pk (i := 0) (lt_ hgL rfl) (pv 0)
      refine ea_cons ?_ ?_
      exact ee_int
      exact ea_nil
      refine ea_cons ?_ ?_
      refine ee_has h_law_pick (hr.mono (by decide)) (by rfl) ?_
      refine ea_cons ?_ ?_
      exact ee_pk (i := 0) (lt_ hgL rfl) (pv 0)
      refine ea_cons ?_ ?_
      refine ee_lst ?_
      refine ea_cons ?_ ?_
      exact ee_int
      refine ea_cons ?_ ?_
      exact ee_int
      refine ea_cons ?_ ?_
      exact ee_int
      refine ea_cons ?_ ?_
      exact ee_int
      refine ea_cons ?_ ?_
      exact ee_int
      refine ea_cons ?_ ?_
      exact ee_int
      exact ea_nil
      exact ea_nil
      exact ea_nil
      refine eb_cons ?_ ?_
      refine es_setF (i := 5) sc_law_words.nd rfl (Or.inl rfl) ?_
      refine ee_mulS ?_ ?_
      refine ee_ix ?_ ?_
      exact ee_var (pv 2)
      refine ee_has h_law_take (hr.mono (by decide)) (by rfl) ?_
      refine ea_cons ?_ ?_
      exact ee_pk (i := 0) (lt_ hgL rfl) (pv 0)
      refine ea_cons ?_ ?_
      exact ee_int
      exact ea_nil
      refine ee_has h_law_pick (hr.mono (by decide)) (by rfl) ?_
      refine ea_cons ?_ ?_
      exact ee_pk (i := 0) (lt_ hgL rfl) (pv 0)
      refine ea_cons ?_ ?_
      refine ee_lst ?_
      refine ea_cons ?_ ?_
      exact ee_int
      refine ea_cons ?_ ?_
      exact ee_int
      refine ea_cons ?_ ?_
      exact ee_int
      refine ea_cons ?_ ?_
      exact ee_int
      refine ea_cons ?_ ?_
      exact ee_int
      exact ea_nil
      exact ea_nil
      refine eb_cons ?_ ?_
      refine es_setF (i := 6) sc_law_words.nd rfl (Or.inl rfl) ?_
      refine ee_has h_law_take (hr.mono (by decide)) (by rfl) ?_
      refine ea_cons ?_ ?_
      exact ee_pk (i := 0) (lt_ hgL rfl) (pv 0)
      refine ea_cons ?_ ?_
      refine ee_add ?_ ?_
      refine ee_len (by rfl) m_len ?_
      refine ea_cons ?_ ?_
      exact ee_var (pv 5)
      exact ea_nil
      exact ee_int
      exact ea_nil
      refine eb_cons ?_ ?_
      refine es_setF (i := 7) sc_law_words.nd rfl (Or.inl rfl) ?_
      refine ee_has h_law_take (hr.mono (by decide)) (by rfl) ?_
      refine ea_cons ?_ ?_
      exact ee_pk (i := 0) (lt_ hgL rfl) (pv 0)
      refine ea_cons ?_ ?_
      exact ee_int
      exact ea_nil
      refine eb_cons ?_ ?_
      refine es_set (i := 8) sc_law_words.nd rfl (Or.inl rfl) ?_
      refine ee_lst ?_
      exact ea_nil
      refine eb_cons ?_ ?_
      refine es_for PassesOwn.never rfl ?_ (eg_name (i := 9) sc_law_words.nd rfl (Or.inl rfl)) ?_
      refine ei_range1 (by rfl) m_range ?_
      refine ea_cons ?_ ?_
      exact ee_var (pv 1)
      exact ea_nil
      refine eb_cons ?_ ?_
      refine es_setF (i := 10) sc_law_words.nd rfl (Or.inl rfl) ?_
      refine ee_sl ?_ ?_ ?_
      exact ee_var (pv 5)
      refine eo_some ?_
      exact ee_var (pv 6)
      exact eo_none
      refine eb_cons ?_ ?_
      refine es_if ?_ ?_ ?_
      refine et_w ?_
      refine ew_and ?_ ?_
      refine et_eq hr.units ?_ ?_
      exact ee_var (pv 7)
      exact ee_int
      refine ew_and1 ?_
      refine et_eq hr.units ?_ ?_
      refine ee_mod ?_ ?_
      exact ee_var (pv 9)
      exact ee_int
      exact ee_int
      refine eb_one ?_
      refine es_setF (i := 10) sc_law_words.nd rfl (Or.inl rfl) ?_
      exact ee_str
      exact eb_nil
      refine eb_cons ?_ ?_
      refine es_setF (i := 11) sc_law_words.nd rfl (Or.inl rfl) ?_
      refine ee_ix ?_ ?_
      exact ee_var (pv 2)
      refine ee_mod ?_ ?_
      refine ee_add ?_ ?_
      exact ee_var (pv 3)
      refine ee_mul ?_ ?_
      exact ee_var (pv 4)
      exact ee_var (pv 9)
      exact ee_int
      refine eb_one ?_
      refine es_expr ?_
      refine ee_app (i := 8) (lt_ hgL rfl) (pv 8) ?_
      refine ee_plus hr.units ?_ ?_
      refine ee_plus hr.units ?_ ?_
      refine ee_sl ?_ ?_ ?_
      exact ee_var (pv 5)
      exact eo_none
      refine eo_some ?_
      exact ee_var (pv 6)
      exact ee_var (pv 11)
      exact ee_var (pv 10)
      refine eb_one ?_
      exact es_retO (i := 8) (lt_ hgL rfl) (pv 8)) CFWd.ok_law_words, gl, F.kp, F.bindsN (fun _ _ _ _ _ _ us hl => match us, hl with | [_, _], _ => rfl)⟩
theorem has_law_minute {a : Addr} {fd : FuncData} (F : FunD K "_law_minute" "_law_minute" (defArgs st_law_minute) (defBody st_law_minute) (defScope st_law_minute) [] [] a fd) (gl : mg "_law_minute" = some (.ref a)) (h_law_take : Has P w K mg base 1 "_law_take" CFH.S_law_take) (h_law_pick : Has P w K mg base 2 "_law_pick" CFH.S_law_pick) : Has P w K mg base 3 "_law_minute" CFLy.S_law_minute :=
  ⟨a, fd, P_law_minute, fn0 (k := 2) (L := CFLy.L_law_minute) (ww := CFLy.w_law_minute) F sc_law_minute rfl CFLy.len_law_minute (by
      intro cdv A outer s H E hr g hgL
      unfold CFLy.w_law_minute
      refine eb_cons ?_ ?_
      refine es_setF (i := 2) sc_law_minute.nd rfl (Or.inl rfl) ?_
      refine ee_has h_law_take (hr.mono (by decide)) (by rfl) ?_
      refine ea_cons ?_ ?_
      exact ee_pk (i := 0) (lt_ hgL rfl) (pv 0)
      refine ea_cons ?_ ?_
      exact ee_int
      exact ea_nil
      refine eb_cons ?_ ?_
      refine es_setF (i := 3) sc_law_minute.nd rfl (Or.inl rfl) ?_
      refine ee_has h_law_take (hr.mono (by decide)) (by rfl) ?_
      refine ea_cons ?_ ?_
      exact ee_pk (i := 0) (lt_ hgL rfl) (pv 0)
      refine ea_cons ?_ ?_
      exact ee_var (pv 1)
      exact ea_nil
      refine eb_cons ?_ ?_
      refine es_if ?_ ?_ ?_
      refine et_eq hr.units ?_ ?_
      exact ee_var (pv 2)
      exact ee_int
      refine eb_one ?_
      refine es_ret ?_
      refine ee_mul ?_ ?_
      exact ee_int
      refine ee_add ?_ ?_
      exact ee_var (pv 3)
      refine ee_has h_law_take (hr.mono (by decide)) (by rfl) ?_
      refine ea_cons ?_ ?_
      exact ee_pk (i := 0) (lt_ hgL rfl) (pv 0)
      refine ea_cons ?_ ?_
      exact ee_int
      exact ea_nil
      exact eb_nil
      refine eb_cons ?_ ?_
      refine es_if ?_ ?_ ?_
      refine et_eq hr.units ?_ ?_
      exact ee_var (pv 2)
      exact ee_int
      refine eb_one ?_
      refine es_ret ?_
      refine ee_add ?_ ?_
      refine ee_mul ?_ ?_
      exact ee_int
      exact ee_var (pv 3)
      refine ee_has h_law_pick (hr.mono (by decide)) (by rfl) ?_
      refine ea_cons ?_ ?_
      exact ee_pk (i := 0) (lt_ hgL rfl) (pv 0)
      refine ea_cons ?_ ?_
      refine ee_lst ?_
      refine ea_cons ?_ ?_
      exact ee_int
      refine ea_cons ?_ ?_
      exact ee_int
      refine ea_cons ?_ ?_
      exact ee_int
      refine ea_cons ?_ ?_
      exact ee_int
      refine ea_cons ?_ ?_
      exact ee_int
      refine ea_cons ?_ ?_
      exact ee_int
      exact ea_nil
      exact ea_nil
      exact eb_nil
      refine eb_one ?_
      refine es_ret ?_
      refine ee_add ?_ ?_
      refine ee_mul ?_ ?_
      exact ee_int
      exact ee_var (pv 3)
      refine ee_has h_law_take (hr.mono (by decide)) (by rfl) ?_
      refine ea_cons ?_ ?_
      exact ee_pk (i := 0) (lt_ hgL rfl) (pv 0)
      refine ea_cons ?_ ?_
      exact ee_int
      exact ea_nil) CFLy.ok_law_minute, gl, F.kp, F.bindsN (fun _ _ _ _ _ _ us hl => match us, hl with | [_, _], _ => rfl)⟩
theorem has_law_layer {a : Addr} {fd : FuncData} (F : FunD K "_law_layer" "_law_layer" (defArgs st_law_layer) (defBody st_law_layer) (defScope st_law_layer) [] [] a fd) (gl : mg "_law_layer" = some (.ref a)) (h_law_take : Has P w K mg base 1 "_law_take" CFH.S_law_take) (h_law_pick : Has P w K mg base 2 "_law_pick" CFH.S_law_pick) (m_sorted : mg "sorted" = none) (m_set : mg "set" = none) (m_range : mg "range" = none) (h_law_minute : Has P w K mg base 3 "_law_minute" CFLy.S_law_minute) (m_len : mg "len" = none) (m_tuple : mg "tuple" = none) : Has P w K mg base 4 "_law_layer" CFLy.S_law_layer :=
  ⟨a, fd, P_law_layer, fn0 (k := 3) (L := CFLy.L_law_layer) (ww := CFLy.w_law_layer) F sc_law_layer rfl CFLy.len_law_layer (by
      intro cdv A outer s H E hr g hgL
      unfold CFLy.w_law_layer
      refine eb_cons ?_ ?_
      refine es_setF (i := 5) sc_law_layer.nd rfl (Or.inl rfl) ?_
      refine ee_mul ?_ ?_
      refine ee_has h_law_take (hr.mono (by decide)) (by rfl) ?_
      refine ea_cons ?_ ?_
      exact ee_pk (i := 0) (lt_ hgL rfl) (pv 0)
      refine ea_cons ?_ ?_
      refine ee_mul ?_ ?_
      exact ee_int
      exact ee_var (pv 3)
      exact ea_nil
      refine ee_has h_law_take (hr.mono (by decide)) (by rfl) ?_
      refine ea_cons ?_ ?_
      exact ee_pk (i := 0) (lt_ hgL rfl) (pv 0)
      refine ea_cons ?_ ?_
      exact ee_int
      exact ea_nil
      refine eb_cons ?_ ?_
      refine es_if ?_ ?_ ?_
      refine et_eq hr.units ?_ ?_
      refine ee_has h_law_take (hr.mono (by decide)) (by rfl) ?_
      refine ea_cons ?_ ?_
      exact ee_pk (i := 0) (lt_ hgL rfl) (pv 0)
      refine ea_cons ?_ ?_
      exact ee_int
      exact ea_nil
      exact ee_int
      refine eb_one ?_
      refine es_ret ?_
      refine ee_tup ?_
      refine ea_cons ?_ ?_
      exact ee_var (pv 1)
      refine ea_cons ?_ ?_
      exact ee_var (pv 5)
      refine ea_cons ?_ ?_
      exact ee_var (pv 3)
      refine ea_cons ?_ ?_
      refine ee_tup ?_
      refine ea_cons ?_ ?_
      refine ee_tup ?_
      refine ea_cons ?_ ?_
      exact ee_int
      refine ea_cons ?_ ?_
      refine ee_mul ?_ ?_
      exact ee_int
      exact ee_var (pv 3)
      refine ea_cons ?_ ?_
      refine ee_has h_law_pick (hr.mono (by decide)) (by rfl) ?_
      refine ea_cons ?_ ?_
      exact ee_pk (i := 0) (lt_ hgL rfl) (pv 0)
      refine ea_cons ?_ ?_
      exact ee_var (pv 2)
      exact ea_nil
      exact ea_nil
      exact ea_nil
      exact ea_nil
      exact eb_nil
      refine eb_cons ?_ ?_
      refine es_setF (i := 7) sc_law_layer.nd rfl (Or.inl rfl) ?_
      refine ee_sortSet rfl (by rfl) m_sorted (by rfl) m_set ?_
      refine ee_lc (own := [("_law_k", 6)]) rfl sc_law_layer.nd (lf_ hgL rfl) ?_ (blkOk_by (own := [("_law_k", 6)]) (N := N_law_layer) (sc := defScope st_law_layer) (by decide +kernel)) (fun _ _ _ _ _ => eg_name (i := 6) sc_law_layer.nd rfl (Or.inl rfl)) (fun _ _ _ _ _ => ets_nil) (fun _ _ _ _ _ => ee_has h_law_minute (hr.mono (by decide)) (by rfl) (ea_cons (ee_pk (i := 0) (lt_ hgL rfl) (pv 0)) (ea_cons (ee_var (pv 3)) ea_nil)))
      refine ei_range1 (by rfl) m_range ?_
      refine ea_cons ?_ ?_
      refine ee_add ?_ ?_
      exact ee_int
      exact ee_var (pv 4)
      exact ea_nil
      refine eb_cons ?_ ?_
      refine es_set (i := 8) sc_law_layer.nd rfl (Or.inl rfl) ?_
      refine ee_lst ?_
      exact ea_nil
      refine eb_cons ?_ ?_
      refine es_for PassesOwn.never rfl ?_ (eg_name (i := 6) sc_law_layer.nd rfl (Or.inl rfl)) ?_
      refine ei_range1 (by rfl) m_range ?_
      refine ea_cons ?_ ?_
      refine ee_sub ?_ ?_
      refine ee_len (by rfl) m_len ?_
      refine ea_cons ?_ ?_
      exact ee_var (pv 7)
      exact ea_nil
      exact ee_int
      exact ea_nil
      refine eb_one ?_
      refine es_if ?_ ?_ ?_
      refine et_gt ?_ ?_
      refine ee_has h_law_take (hr.mono (by decide)) (by rfl) ?_
      refine ea_cons ?_ ?_
      exact ee_pk (i := 0) (lt_ hgL rfl) (pv 0)
      refine ea_cons ?_ ?_
      exact ee_int
      exact ea_nil
      exact ee_int
      refine eb_one ?_
      refine es_expr ?_
      refine ee_app (i := 8) (lt_ hgL rfl) (pv 8) ?_
      refine ee_tup ?_
      refine ea_cons ?_ ?_
      refine ee_ix ?_ ?_
      exact ee_var (pv 7)
      exact ee_var (pv 6)
      refine ea_cons ?_ ?_
      refine ee_ix ?_ ?_
      exact ee_var (pv 7)
      refine ee_add ?_ ?_
      exact ee_var (pv 6)
      exact ee_int
      refine ea_cons ?_ ?_
      refine ee_has h_law_pick (hr.mono (by decide)) (by rfl) ?_
      refine ea_cons ?_ ?_
      exact ee_pk (i := 0) (lt_ hgL rfl) (pv 0)
      refine ea_cons ?_ ?_
      exact ee_var (pv 2)
      exact ea_nil
      exact ea_nil
      exact eb_nil
      refine eb_one ?_
      refine es_ret ?_
      refine ee_tup ?_
      refine ea_cons ?_ ?_
      exact ee_var (pv 1)
      refine ea_cons ?_ ?_
      exact ee_var (pv 5)
      refine ea_cons ?_ ?_
      exact ee_var (pv 3)
      refine ea_cons ?_ ?_
      refine ee_tuple (by rfl) m_tuple ?_
      refine ea_cons ?_ ?_
      exact ee_ln (i := 8) (lt_ hgL rfl) (pv 8)
      exact ea_nil
      exact ea_nil) CFLy.ok_law_layer, gl, F.kp, F.bindsN (fun _ _ _ _ _ _ us hl => match us, hl with | [_, _, _, _, _], _ => rfl)⟩
theorem has_law_is_whole {a : Addr} {fd : FuncData} (F : FunD K "_law_is_whole" "_law_is_whole" (defArgs st_law_is_whole) (defBody st_law_is_whole) (defScope st_law_is_whole) [] [] a fd) (gl : mg "_law_is_whole" = some (.ref a)) (m_isinstance : mg "isinstance" = none) (m_int : mg "int" = none) (m_bool : mg "bool" = none) : Has P w K mg base 1 "_law_is_whole" S_law_is_whole :=
  ⟨a, fd, P_law_is_whole, fn0 (k := 0) (L := L_law_is_whole) (ww := w_law_is_whole) F sc_law_is_whole rfl len_law_is_whole (by
      intro cdv A outer s H E hr g hgL
      unfold w_law_is_whole
      refine eb_one ?_
      refine es_ret ?_
      refine ee_and ?_ ?_
      refine ee_isi2 (by rfl) m_isinstance (by rfl) m_int ?_
      exact ee_var (pv 0)
      refine ee_one ?_
      refine ee_not ?_
      refine ee_isi2 (by rfl) m_isinstance (by rfl) m_bool ?_
      exact ee_var (pv 0)) ok_law_is_whole, gl, F.kp, F.bindsN (fun _ _ _ _ _ _ us hl => match us, hl with | [_], _ => rfl)⟩
theorem has_law_is_word {a : Addr} {fd : FuncData} (F : FunD K "_law_is_word" "_law_is_word" (defArgs st_law_is_word) (defBody st_law_is_word) (defScope st_law_is_word) [] [] a fd) (gl : mg "_law_is_word" = some (.ref a)) (m_isinstance : mg "isinstance" = none) (m_str : mg "str" = none) (m_len : mg "len" = none) (m_all : mg "all" = none) : Has P w K mg base 1 "_law_is_word" S_law_is_word :=
  ⟨a, fd, P_law_is_word, fn0 (k := 0) (L := L_law_is_word) (ww := w_law_is_word) F sc_law_is_word rfl len_law_is_word (by
      intro cdv A outer s H E hr g hgL
      unfold w_law_is_word
      refine eb_cons ?_ ?_
      refine es_if ?_ ?_ ?_
      refine et_w ?_
      refine ew_or ?_ ?_
      refine et_not ?_
      refine et_val ?_
      refine ee_isi2 (by rfl) m_isinstance (by rfl) m_str ?_
      exact ee_var (pv 0)
      refine ew_or ?_ ?_
      refine et_lt ?_ ?_
      refine ee_len (by rfl) m_len ?_
      refine ea_cons ?_ ?_
      exact ee_var (pv 0)
      exact ea_nil
      exact ee_int
      refine ew_or1 ?_
      refine et_gt ?_ ?_
      refine ee_len (by rfl) m_len ?_
      refine ea_cons ?_ ?_
      exact ee_var (pv 0)
      exact ea_nil
      exact ee_int
      refine eb_one ?_
      refine es_ret ?_
      exact ee_bl
      exact eb_nil
      refine eb_one ?_
      refine es_ret ?_
      refine ee_all rfl (by rfl) m_all ?_
      refine ea_cons ?_ ?_
      refine ee_lc (own := [("_law_sign", 2)]) rfl sc_law_is_word.nd (lf_ hgL rfl) ?_ (blkOk_by (own := [("_law_sign", 2)]) (N := N_law_is_word) (sc := defScope st_law_is_word) (by decide +kernel)) (fun _ _ _ _ _ => eg_name (i := 2) sc_law_is_word.nd rfl (Or.inl rfl)) (fun _ _ _ _ _ => ets_nil) (fun _ _ _ _ _ => ee_in (units65 hr) (ee_var (pv 2)) ee_str)
      refine ei_seq ?_
      exact ee_var (pv 0)
      exact ea_nil) ok_law_is_word, gl, F.kp, F.bindsN (fun _ _ _ _ _ _ us hl => match us, hl with | [_], _ => rfl)⟩
theorem has_law_are_turns {a : Addr} {fd : FuncData} (F : FunD K "_law_are_turns" "_law_are_turns" (defArgs st_law_are_turns) (defBody st_law_are_turns) (defScope st_law_are_turns) [] [] a fd) (gl : mg "_law_are_turns" = some (.ref a)) (m_isinstance : mg "isinstance" = none) (m_tuple : mg "tuple" = none) (m_len : mg "len" = none) (h_law_is_whole : Has P w K mg base 1 "_law_is_whole" S_law_is_whole) (h_law_is_word : Has P w K mg base 1 "_law_is_word" S_law_is_word) : Has P w K mg base 2 "_law_are_turns" S_law_are_turns :=
  ⟨a, fd, P_law_are_turns, fn0 (k := 1) (L := L_law_are_turns) (ww := w_law_are_turns) F sc_law_are_turns rfl len_law_are_turns (by
      intro cdv A outer s H E hr g hgL
      unfold w_law_are_turns
      refine eb_cons ?_ ?_
      refine es_if ?_ ?_ ?_
      refine et_w ?_
      refine ew_or ?_ ?_
      refine et_not ?_
      refine et_val ?_
      refine ee_isi2 (by rfl) m_isinstance (by rfl) m_tuple ?_
      exact ee_var (pv 0)
      refine ew_or1 ?_
      refine et_gt ?_ ?_
      refine ee_len (by rfl) m_len ?_
      refine ea_cons ?_ ?_
      exact ee_var (pv 0)
      exact ea_nil
      exact ee_int
      refine eb_one ?_
      refine es_ret ?_
      exact ee_bl
      exact eb_nil
      refine eb_cons ?_ ?_
      refine es_setF (i := 2) sc_law_are_turns.nd rfl (Or.inl rfl) ?_
      exact ee_int
      refine eb_cons ?_ ?_
      refine es_for PassesOwn.never rfl ?_ (eg_name (i := 3) sc_law_are_turns.nd rfl (Or.inl rfl)) ?_
      refine ei_seq ?_
      exact ee_var (pv 0)
      refine eb_cons ?_ ?_
      refine es_if ?_ ?_ ?_
      refine et_w ?_
      refine ew_or ?_ ?_
      refine et_not ?_
      refine et_val ?_
      refine ee_isi2 (by rfl) m_isinstance (by rfl) m_tuple ?_
      exact ee_var (pv 3)
      refine ew_or1 ?_
      refine et_ne hr.units ?_ ?_
      refine ee_len (by rfl) m_len ?_
      refine ea_cons ?_ ?_
      exact ee_var (pv 3)
      exact ea_nil
      exact ee_int
      refine eb_one ?_
      refine es_ret ?_
      exact ee_bl
      exact eb_nil
      refine eb_cons ?_ ?_
      refine es_if ?_ ?_ ?_
      refine et_w ?_
      refine ew_or ?_ ?_
      refine et_not ?_
      refine et_val ?_
      refine ee_has h_law_is_whole (hr.mono (by decide)) (by rfl) ?_
      refine ea_cons ?_ ?_
      refine ee_ix ?_ ?_
      exact ee_var (pv 3)
      exact ee_int
      exact ea_nil
      refine ew_or ?_ ?_
      refine et_not ?_
      refine et_val ?_
      refine ee_has h_law_is_whole (hr.mono (by decide)) (by rfl) ?_
      refine ea_cons ?_ ?_
      refine ee_ix ?_ ?_
      exact ee_var (pv 3)
      exact ee_int
      exact ea_nil
      refine ew_or1 ?_
      refine et_not ?_
      refine et_val ?_
      refine ee_has h_law_is_word (hr.mono (by decide)) (by rfl) ?_
      refine ea_cons ?_ ?_
      refine ee_ix ?_ ?_
      exact ee_var (pv 3)
      exact ee_int
      exact ea_nil
      refine eb_one ?_
      refine es_ret ?_
      exact ee_bl
      exact eb_nil
      refine eb_cons ?_ ?_
      refine es_if ?_ ?_ ?_
      refine et_w ?_
      refine ew_or ?_ ?_
      refine et_lt ?_ ?_
      refine ee_ix ?_ ?_
      exact ee_var (pv 3)
      exact ee_int
      exact ee_var (pv 2)
      refine ew_or ?_ ?_
      refine et_le ?_ ?_
      refine ee_ix ?_ ?_
      exact ee_var (pv 3)
      exact ee_int
      refine ee_ix ?_ ?_
      exact ee_var (pv 3)
      exact ee_int
      refine ew_or1 ?_
      refine et_gt ?_ ?_
      refine ee_ix ?_ ?_
      exact ee_var (pv 3)
      exact ee_int
      exact ee_var (pv 1)
      refine eb_one ?_
      refine es_ret ?_
      exact ee_bl
      exact eb_nil
      refine eb_one ?_
      refine es_setF (i := 2) sc_law_are_turns.nd rfl (Or.inl rfl) ?_
      refine ee_ix ?_ ?_
      exact ee_var (pv 3)
      exact ee_int
      refine eb_one ?_
      refine es_ret ?_
      exact ee_bl) ok_law_are_turns, gl, F.kp, F.bindsN (fun _ _ _ _ _ _ us hl => match us, hl with | [_, _], _ => rfl)⟩
theorem has_law_due {a : Addr} {fd : FuncData} (F : FunD K "_law_due" "_law_due" (defArgs st_law_due) (defBody st_law_due) (defScope st_law_due) [] [] a fd) (gl : mg "_law_due" = some (.ref a)) (m_isinstance : mg "isinstance" = none) (m_tuple : mg "tuple" = none) (m_len : mg "len" = none) (h_law_is_word : Has P w K mg base 1 "_law_is_word" S_law_is_word) (h_law_is_whole : Has P w K mg base 1 "_law_is_whole" S_law_is_whole) (h_law_are_turns : Has P w K mg base 2 "_law_are_turns" S_law_are_turns) : Has P w K mg base 3 "_law_due" S_law_due :=
  ⟨a, fd, P_law_due, fn0 (k := 2) (L := L_law_due) (ww := w_law_due) F sc_law_due rfl len_law_due (by
      intro cdv A outer s H E hr g hgL
      unfold w_law_due
      refine eb_cons ?_ ?_
      refine es_if ?_ ?_ ?_
      refine et_w ?_
      refine ew_or ?_ ?_
      refine et_not ?_
      refine et_val ?_
      refine ee_isi2 (by rfl) m_isinstance (by rfl) m_tuple ?_
      exact ee_var (pv 0)
      refine ew_or1 ?_
      refine et_ne hr.units ?_ ?_
      refine ee_len (by rfl) m_len ?_
      refine ea_cons ?_ ?_
      exact ee_var (pv 0)
      exact ea_nil
      exact ee_int
      refine eb_one ?_
      refine es_ret ?_
      exact ee_bl
      exact eb_nil
      refine eb_cons ?_ ?_
      refine es_if ?_ ?_ ?_
      refine et_w ?_
      refine ew_or ?_ ?_
      refine et_not ?_
      refine et_val ?_
      refine ee_has h_law_is_word (hr.mono (by decide)) (by rfl) ?_
      refine ea_cons ?_ ?_
      refine ee_ix ?_ ?_
      exact ee_var (pv 0)
      exact ee_int
      exact ea_nil
      refine ew_or ?_ ?_
      refine et_not ?_
      refine et_val ?_
      refine ee_has h_law_is_whole (hr.mono (by decide)) (by rfl) ?_
      refine ea_cons ?_ ?_
      refine ee_ix ?_ ?_
      exact ee_var (pv 0)
      exact ee_int
      exact ea_nil
      refine ew_or1 ?_
      refine et_not ?_
      refine et_val ?_
      refine ee_has h_law_is_whole (hr.mono (by decide)) (by rfl) ?_
      refine ea_cons ?_ ?_
      refine ee_ix ?_ ?_
      exact ee_var (pv 0)
      exact ee_int
      exact ea_nil
      refine eb_one ?_
      refine es_ret ?_
      exact ee_bl
      exact eb_nil
      refine eb_cons ?_ ?_
      refine es_if ?_ ?_ ?_
      refine et_w ?_
      refine ew_or ?_ ?_
      refine et_lt ?_ ?_
      refine ee_ix ?_ ?_
      exact ee_var (pv 0)
      exact ee_int
      exact ee_int
      refine ew_or ?_ ?_
      refine et_gt ?_ ?_
      refine ee_ix ?_ ?_
      exact ee_var (pv 0)
      exact ee_int
      exact ee_int
      refine ew_or ?_ ?_
      refine et_lt ?_ ?_
      refine ee_ix ?_ ?_
      exact ee_var (pv 0)
      exact ee_int
      exact ee_int
      refine ew_or1 ?_
      refine et_ge ?_ ?_
      refine ee_ix ?_ ?_
      exact ee_var (pv 0)
      exact ee_int
      refine ee_mul ?_ ?_
      exact ee_int
      refine ee_ix ?_ ?_
      exact ee_var (pv 0)
      exact ee_int
      refine eb_one ?_
      refine es_ret ?_
      exact ee_bl
      exact eb_nil
      refine eb_one ?_
      refine es_ret ?_
      refine ee_has h_law_are_turns (hr.mono (by decide)) (by rfl) ?_
      refine ea_cons ?_ ?_
      refine ee_ix ?_ ?_
      exact ee_var (pv 0)
      exact ee_int
      refine ea_cons ?_ ?_
      refine ee_mul ?_ ?_
      exact ee_int
      refine ee_ix ?_ ?_
      exact ee_var (pv 0)
      exact ee_int
      exact ea_nil) ok_law_due, gl, F.kp, F.bindsN (fun _ _ _ _ _ _ us hl => match us, hl with | [_], _ => rfl)⟩
theorem has_law_bent_word {a : Addr} {fd : FuncData} (F : FunD K "_law_bent_word" "_law_bent_word" (defArgs st_law_bent_word) (defBody st_law_bent_word) (defScope st_law_bent_word) [] [] a fd) (gl : mg "_law_bent_word" = some (.ref a)) (h_law_pick : Has P w K mg base 2 "_law_pick" CFH.S_law_pick) (h_law_take : Has P w K mg base 1 "_law_take" CFH.S_law_take) (m_len : mg "len" = none) : Has P w K mg base 3 "_law_bent_word" S_law_bent_word :=
  ⟨a, fd, P_law_bent_word, fn0 (k := 2) (L := L_law_bent_word) (ww := w_law_bent_word) F sc_law_bent_word rfl len_law_bent_word (by
      intro cdv A outer s H E hr g hgL
      unfold w_law_bent_word
      refine eb_cons ?_ ?_
      refine es_setF (i := 2) sc_law_bent_word.nd rfl (Or.inl rfl) ?_
      exact ee_str
      refine eb_cons ?_ ?_
      refine es_par (i := 3) (j := 4) rfl sc_law_bent_word.nd rfl rfl (by decide) rfl rfl ?_ (by rfl)
      refine ea_cons ?_ ?_
      refine ee_has h_law_take (hr.mono (by decide)) (by rfl) ?_
      refine ea_cons ?_ ?_
      exact ee_pk (i := 0) (lt_ hgL rfl) (pv 0)
      refine ea_cons ?_ ?_
      refine ee_len (by rfl) m_len ?_
      refine ea_cons ?_ ?_
      exact ee_var (pv 1)
      exact ea_nil
      exact ea_nil
      refine ea_cons ?_ ?_
      refine ee_has h_law_pick (hr.mono (by decide)) (by rfl) ?_
      refine ea_cons ?_ ?_
      exact ee_pk (i := 0) (lt_ hgL rfl) (pv 0)
      refine ea_cons ?_ ?_
      exact ee_var (pv 2)
      exact ea_nil
      exact ea_nil
      refine eb_cons ?_ ?_
      refine es_set (i := 5) sc_law_bent_word.nd rfl (Or.inl rfl) ?_
      refine ee_lst ?_
      refine ea_cons ?_ ?_
      refine ee_plus hr.units ?_ ?_
      refine ee_plus hr.units ?_ ?_
      refine ee_sl ?_ ?_ ?_
      exact ee_var (pv 1)
      exact eo_none
      refine eo_some ?_
      exact ee_var (pv 3)
      exact ee_var (pv 4)
      refine ee_sl ?_ ?_ ?_
      exact ee_var (pv 1)
      refine eo_some ?_
      exact ee_var (pv 3)
      exact eo_none
      refine ea_cons ?_ ?_
      refine ee_plus hr.units ?_ ?_
      refine ee_sl ?_ ?_ ?_
      exact ee_var (pv 1)
      exact eo_none
      refine eo_some ?_
      exact ee_var (pv 3)
      refine ee_sl ?_ ?_ ?_
      exact ee_var (pv 1)
      refine eo_some ?_
      refine ee_add ?_ ?_
      exact ee_var (pv 3)
      exact ee_int
      exact eo_none
      refine ea_cons ?_ ?_
      refine ee_plus hr.units ?_ ?_
      refine ee_plus hr.units ?_ ?_
      refine ee_sl ?_ ?_ ?_
      exact ee_var (pv 1)
      exact eo_none
      refine eo_some ?_
      exact ee_var (pv 3)
      exact ee_var (pv 4)
      refine ee_sl ?_ ?_ ?_
      exact ee_var (pv 1)
      refine eo_some ?_
      refine ee_add ?_ ?_
      exact ee_var (pv 3)
      exact ee_int
      exact eo_none
      exact ea_nil
      refine eb_one ?_
      refine es_ret ?_
      refine ee_cat ?_ ?_
      exact ee_ln (i := 5) (lt_ hgL rfl) (pv 5)
      refine ee_lst ?_
      refine ea_cons ?_ ?_
      refine ee_sl ?_ ?_ ?_
      refine ee_mulS ?_ ?_
      exact ee_var (pv 1)
      exact ee_int
      exact eo_none
      refine eo_some ?_
      exact ee_int
      refine ea_cons ?_ ?_
      refine ee_sl ?_ ?_ ?_
      refine ee_mulS ?_ ?_
      exact ee_var (pv 1)
      exact ee_int
      exact eo_none
      refine eo_some ?_
      exact ee_int
      refine ea_cons ?_ ?_
      refine ee_upper ?_
      exact ee_var (pv 1)
      refine ea_cons ?_ ?_
      exact ee_str
      refine ea_cons ?_ ?_
      exact ee_non
      refine ea_cons ?_ ?_
      refine ee_tup ?_
      refine ea_cons ?_ ?_
      exact ee_var (pv 1)
      exact ea_nil
      refine ea_cons ?_ ?_
      exact ee_int
      refine ea_cons ?_ ?_
      exact ee_bl
      exact ea_nil) ok_law_bent_word, gl, F.kp, F.bindsN (fun _ _ _ _ _ _ us hl => match us, hl with | [_, _], _ => rfl)⟩
theorem has_law_others {a : Addr} {fd : FuncData} (F : FunD K "_law_others" "_law_others" (defArgs st_law_others) (defBody st_law_others) (defScope st_law_others) [] [] a fd) (gl : mg "_law_others" = some (.ref a)) (m_isinstance : mg "isinstance" = none) (m_str : mg "str" = none) (h_law_bent_word : Has P w K mg base 3 "_law_bent_word" S_law_bent_word) (m_int : mg "int" = none) (h_law_take : Has P w K mg base 1 "_law_take" CFH.S_law_take) (m_list : mg "list" = none) : Has P w K mg base 4 "_law_others" S_law_others :=
  ⟨a, fd, P_law_others, fn0 (k := 3) (L := L_law_others) (ww := w_law_others) F sc_law_others rfl len_law_others (by
      intro cdv A outer s H E hr g hgL
      unfold w_law_others
      refine eb_cons ?_ ?_
      refine es_if ?_ ?_ ?_
      refine et_val ?_
      refine ee_isi2 (by rfl) m_isinstance (by rfl) m_str ?_
      exact ee_var (pv 1)
      refine eb_one ?_
      refine es_ret ?_
      refine ee_has h_law_bent_word (hr.mono (by decide)) (by rfl) ?_
      refine ea_cons ?_ ?_
      exact ee_pk (i := 0) (lt_ hgL rfl) (pv 0)
      refine ea_cons ?_ ?_
      exact ee_var (pv 1)
      exact ea_nil
      exact eb_nil
      refine eb_cons ?_ ?_
      refine es_if ?_ ?_ ?_
      refine et_val ?_
      refine ee_isi2 (by rfl) m_isinstance (by rfl) m_int ?_
      exact ee_var (pv 1)
      refine eb_cons ?_ ?_
      refine es_set (i := 3) sc_law_others.nd rfl (Or.inl rfl) ?_
      refine ee_lst ?_
      refine ea_cons ?_ ?_
      refine ee_sub ?_ ?_
      exact ee_var (pv 1)
      exact ee_int
      refine ea_cons ?_ ?_
      refine ee_plus hr.units ?_ ?_
      exact ee_var (pv 1)
      exact ee_int
      refine ea_cons ?_ ?_
      refine ee_neg ?_
      exact ee_int
      refine ea_cons ?_ ?_
      exact ee_int
      refine ea_cons ?_ ?_
      exact ee_int
      refine ea_cons ?_ ?_
      exact ee_int
      refine ea_cons ?_ ?_
      exact ee_int
      refine ea_cons ?_ ?_
      refine ee_sub ?_ ?_
      refine ee_mul ?_ ?_
      exact ee_int
      exact ee_var (pv 2)
      exact ee_int
      refine ea_cons ?_ ?_
      refine ee_mul ?_ ?_
      exact ee_int
      exact ee_var (pv 2)
      refine ea_cons ?_ ?_
      refine ee_add ?_ ?_
      refine ee_mul ?_ ?_
      exact ee_int
      exact ee_var (pv 2)
      exact ee_int
      exact ea_nil
      refine eb_one ?_
      refine es_ret ?_
      refine ee_cat ?_ ?_
      exact ee_ln (i := 3) (lt_ hgL rfl) (pv 3)
      refine ee_lst ?_
      refine ea_cons ?_ ?_
      refine ee_add ?_ ?_
      refine ee_pow ?_ ?_
      exact ee_int
      exact ee_int
      refine ee_has h_law_take (hr.mono (by decide)) (by rfl) ?_
      refine ea_cons ?_ ?_
      exact ee_pk (i := 0) (lt_ hgL rfl) (pv 0)
      refine ea_cons ?_ ?_
      exact ee_int
      exact ea_nil
      refine ea_cons ?_ ?_
      exact ee_bl
      refine ea_cons ?_ ?_
      exact ee_bl
      refine ea_cons ?_ ?_
      exact ee_non
      refine ea_cons ?_ ?_
      refine ee_strI (by rfl) m_str ?_
      refine ea_cons ?_ ?_
      exact ee_var (pv 1)
      exact ea_nil
      refine ea_cons ?_ ?_
      refine ee_tup ?_
      refine ea_cons ?_ ?_
      exact ee_var (pv 1)
      exact ea_nil
      exact ea_nil
      exact eb_nil
      refine eb_one ?_
      refine es_ret ?_
      refine ee_lst ?_
      refine ea_cons ?_ ?_
      refine ee_list (by rfl) m_list ?_
      refine ea_cons ?_ ?_
      exact ee_var (pv 1)
      exact ea_nil
      refine ea_cons ?_ ?_
      refine ee_sl ?_ ?_ ?_
      exact ee_var (pv 1)
      exact eo_none
      refine eo_some ?_
      refine ee_neg ?_
      exact ee_int
      refine ea_cons ?_ ?_
      refine ee_plus hr.units ?_ ?_
      exact ee_var (pv 1)
      refine ee_sl ?_ ?_ ?_
      exact ee_var (pv 1)
      refine eo_some ?_
      refine ee_neg ?_
      exact ee_int
      exact eo_none
      refine ea_cons ?_ ?_
      refine ee_tup ?_
      exact ea_nil
      refine ea_cons ?_ ?_
      exact ee_non
      refine ea_cons ?_ ?_
      exact ee_str
      refine ea_cons ?_ ?_
      exact ee_int
      refine ea_cons ?_ ?_
      refine ee_tup ?_
      refine ea_cons ?_ ?_
      exact ee_var (pv 1)
      exact ea_nil
      exact ea_nil) ok_law_others, gl, F.kp, F.bindsN (fun _ _ _ _ _ _ us hl => match us, hl with | [_, _, _], _ => rfl)⟩
theorem has_law_bent {a : Addr} {fd : FuncData} (F : FunD K "_law_bent" "_law_bent" (defArgs st_law_bent) (defBody st_law_bent) (defScope st_law_bent) [] [] a fd) (gl : mg "_law_bent" = some (.ref a)) (h_law_pick : Has P w K mg base 2 "_law_pick" CFH.S_law_pick) (m_list : mg "list" = none) (m_range : mg "range" = none) (m_len : mg "len" = none) (h_law_others : Has P w K mg base 4 "_law_others" S_law_others) : Has P w K mg base 5 "_law_bent" S_law_bent :=
  ⟨a, fd, P_law_bent, fn0 (k := 4) (L := L_law_bent) (ww := w_law_bent) F sc_law_bent rfl len_law_bent (by
      intro cdv A outer s H E hr g hgL
      unfold w_law_bent
      refine eb_cons ?_ ?_
      refine es_setF (i := 3) sc_law_bent.nd rfl (Or.inl rfl) ?_
      refine ee_has h_law_pick (hr.mono (by decide)) (by rfl) ?_
      refine ea_cons ?_ ?_
      exact ee_pk (i := 0) (lt_ hgL rfl) (pv 0)
      refine ea_cons ?_ ?_
      refine ee_lst ?_
      refine ea_cons ?_ ?_
      exact ee_int
      refine ea_cons ?_ ?_
      exact ee_non
      refine ea_cons ?_ ?_
      exact ee_str
      refine ea_cons ?_ ?_
      refine ee_tup ?_
      exact ea_nil
      refine ea_cons ?_ ?_
      exact ee_bl
      exact ea_nil
      exact ea_nil
      refine eb_cons ?_ ?_
      refine es_set (i := 4) sc_law_bent.nd rfl (Or.inl rfl) ?_
      refine ee_lst ?_
      refine ea_cons ?_ ?_
      refine ee_list (by rfl) m_list ?_
      refine ea_cons ?_ ?_
      exact ee_var (pv 1)
      exact ea_nil
      refine ea_cons ?_ ?_
      refine ee_plus hr.units ?_ ?_
      exact ee_var (pv 1)
      refine ee_tup ?_
      refine ea_cons ?_ ?_
      exact ee_var (pv 3)
      exact ea_nil
      refine ea_cons ?_ ?_
      refine ee_plus hr.units ?_ ?_
      refine ee_tup ?_
      refine ea_cons ?_ ?_
      exact ee_var (pv 3)
      exact ea_nil
      exact ee_var (pv 1)
      exact ea_nil
      refine eb_cons ?_ ?_
      refine es_for PassesOwn.never rfl ?_ (eg_name (i := 5) sc_law_bent.nd rfl (Or.inl rfl)) ?_
      refine ei_range1 (by rfl) m_range ?_
      refine ea_cons ?_ ?_
      refine ee_len (by rfl) m_len ?_
      refine ea_cons ?_ ?_
      exact ee_var (pv 1)
      exact ea_nil
      exact ea_nil
      refine eb_cons ?_ ?_
      refine es_expr ?_
      refine ee_app (i := 4) (lt_ hgL rfl) (pv 4) ?_
      refine ee_plus hr.units ?_ ?_
      refine ee_sl ?_ ?_ ?_
      exact ee_var (pv 1)
      exact eo_none
      refine eo_some ?_
      exact ee_var (pv 5)
      refine ee_sl ?_ ?_ ?_
      exact ee_var (pv 1)
      refine eo_some ?_
      refine ee_add ?_ ?_
      exact ee_var (pv 5)
      exact ee_int
      exact eo_none
      refine eb_cons ?_ ?_
      refine es_expr ?_
      refine ee_app (i := 4) (lt_ hgL rfl) (pv 4) ?_
      refine ee_plus hr.units ?_ ?_
      refine ee_sl ?_ ?_ ?_
      exact ee_var (pv 1)
      exact eo_none
      refine eo_some ?_
      refine ee_add ?_ ?_
      exact ee_var (pv 5)
      exact ee_int
      refine ee_sl ?_ ?_ ?_
      exact ee_var (pv 1)
      refine eo_some ?_
      exact ee_var (pv 5)
      exact eo_none
      refine eb_one ?_
      refine es_for PassesOwn.never rfl ?_ (eg_name (i := 6) sc_law_bent.nd rfl (Or.inl rfl)) ?_
      refine ei_seq ?_
      refine ee_has h_law_others (hr.mono (by decide)) (by rfl) ?_
      refine ea_cons ?_ ?_
      exact ee_pk (i := 0) (lt_ hgL rfl) (pv 0)
      refine ea_cons ?_ ?_
      refine ee_ix ?_ ?_
      exact ee_var (pv 1)
      exact ee_var (pv 5)
      refine ea_cons ?_ ?_
      exact ee_var (pv 2)
      exact ea_nil
      refine eb_one ?_
      refine es_expr ?_
      refine ee_app (i := 4) (lt_ hgL rfl) (pv 4) ?_
      refine ee_plus hr.units ?_ ?_
      refine ee_plus hr.units ?_ ?_
      refine ee_sl ?_ ?_ ?_
      exact ee_var (pv 1)
      exact eo_none
      refine eo_some ?_
      exact ee_var (pv 5)
      refine ee_tup ?_
      refine ea_cons ?_ ?_
      exact ee_var (pv 6)
      exact ea_nil
      refine ee_sl ?_ ?_ ?_
      exact ee_var (pv 1)
      refine eo_some ?_
      refine ee_add ?_ ?_
      exact ee_var (pv 5)
      exact ee_int
      exact eo_none
      refine eb_one ?_
      exact es_retO (i := 4) (lt_ hgL rfl) (pv 4)) ok_law_bent, gl, F.kp, F.bindsN (fun _ _ _ _ _ _ us hl => match us, hl with | [_, _, _], _ => rfl)⟩
theorem has_law_things {a : Addr} {fd : FuncData} (F : FunD K "_law_things" "_law_things" (defArgs st_law_things) (defBody st_law_things) (defScope st_law_things) [] [] a fd) (gl : mg "_law_things" = some (.ref a)) (h_law_pick : Has P w K mg base 2 "_law_pick" CFH.S_law_pick) (h_law_take : Has P w K mg base 1 "_law_take" CFH.S_law_take) (h_law_words : Has P w K mg base 3 "_law_words" CFWd.S_law_words) (h_law_layer : Has P w K mg base 4 "_law_layer" CFLy.S_law_layer) (m_tuple : mg "tuple" = none) (m_range : mg "range" = none) (h_law_bent : Has P w K mg base 5 "_law_bent" S_law_bent) (m_len : mg "len" = none) : Has P w K mg base 6 "_law_things" S_law_things :=
  ⟨a, fd, P_law_things, fn0 (k := 5) (L := L_law_things) (ww := w_law_things) F sc_law_things rfl len_law_things (by
      intro cdv A outer s H E hr g hgL
      unfold w_law_things
      refine eb_cons ?_ ?_
      refine es_par (i := 1) (j := 2) rfl sc_law_things.nd rfl rfl (by decide) rfl rfl ?_ (by rfl)
      refine ea_cons ?_ ?_
      refine ee_has h_law_take (hr.mono (by decide)) (by rfl) ?_
      refine ea_cons ?_ ?_
      exact ee_pk (i := 0) (lt_ hgL rfl) (pv 0)
      refine ea_cons ?_ ?_
      exact ee_int
      exact ea_nil
      refine ea_cons ?_ ?_
      refine ee_has h_law_pick (hr.mono (by decide)) (by rfl) ?_
      refine ea_cons ?_ ?_
      exact ee_pk (i := 0) (lt_ hgL rfl) (pv 0)
      refine ea_cons ?_ ?_
      refine ee_lst ?_
      refine ea_cons ?_ ?_
      exact ee_int
      refine ea_cons ?_ ?_
      exact ee_int
      refine ea_cons ?_ ?_
      exact ee_int
      refine ea_cons ?_ ?_
      exact ee_int
      refine ea_cons ?_ ?_
      exact ee_int
      refine ea_cons ?_ ?_
      exact ee_int
      refine ea_cons ?_ ?_
      exact ee_int
      exact ea_nil
      exact ea_nil
      exact ea_nil
      refine eb_cons ?_ ?_
      refine es_setF (i := 3) sc_law_things.nd rfl (Or.inr rfl) ?_
      refine ee_has h_law_words (hr.mono (by decide)) (by rfl) ?_
      refine ea_cons ?_ ?_
      exact ee_pk (i := 0) (lt_ hgL rfl) (pv 0)
      refine ea_cons ?_ ?_
      exact ee_int
      exact ea_nil
      refine eb_cons ?_ ?_
      refine es_asg ?_ (eg_tup rfl (egs_cons (eg_name (i := 4) sc_law_things.nd rfl (Or.inl rfl)) (egs_cons (eg_name (i := 5) sc_law_things.nd rfl (Or.inl rfl)) (egs_cons (eg_name (i := 6) sc_law_things.nd rfl (Or.inl rfl)) (egs_cons (eg_name (i := 7) sc_law_things.nd rfl (Or.inl rfl)) egs_nil)))))
      refine ee_has h_law_layer (hr.mono (by decide)) (by rfl) ?_
      refine ea_cons ?_ ?_
      exact ee_pk (i := 0) (lt_ hgL rfl) (pv 0)
      refine ea_cons ?_ ?_
      refine ee_ix ?_ ?_
      exact ee_var (pv 3)
      exact ee_int
      refine ea_cons ?_ ?_
      refine ee_sl ?_ ?_ ?_
      exact ee_var (pv 3)
      exact eo_none
      refine eo_some ?_
      exact ee_int
      refine ea_cons ?_ ?_
      exact ee_var (pv 2)
      refine ea_cons ?_ ?_
      refine ee_ix ?_ ?_
      refine ee_lst ?_
      refine ea_cons ?_ ?_
      exact ee_int
      refine ea_cons ?_ ?_
      exact ee_int
      refine ea_cons ?_ ?_
      exact ee_int
      refine ea_cons ?_ ?_
      exact ee_int
      exact ea_nil
      exact ee_var (pv 1)
      exact ea_nil
      refine eb_cons ?_ ?_
      refine es_if ?_ ?_ ?_
      refine et_eq hr.units ?_ ?_
      exact ee_var (pv 1)
      exact ee_int
      refine eb_one ?_
      refine es_setF (i := 7) sc_law_things.nd rfl (Or.inl rfl) ?_
      refine ee_tuple (by rfl) m_tuple ?_
      refine ea_cons ?_ ?_
      refine ee_lc (own := [("_law_k", 13)]) rfl sc_law_things.nd (lf_ hgL rfl) ?_ (blkOk_by (own := [("_law_k", 13)]) (N := N_law_things) (sc := defScope st_law_things) (by decide +kernel)) (fun _ _ _ _ _ => eg_name (i := 13) sc_law_things.nd rfl (Or.inl rfl)) (fun _ _ _ _ _ => ets_nil) (fun _ _ _ _ _ => ee_tup (ea_cons (ee_mul ee_int (ee_var (pv 13))) (ea_cons (ee_add (ee_add (ee_mul ee_int (ee_var (pv 13))) ee_int) (ee_mul ee_int (ee_mod (ee_var (pv 13)) ee_int))) (ea_cons (ee_ix (ee_var (pv 3)) (ee_mod (ee_var (pv 13)) ee_int)) ea_nil))))
      refine ei_range1 (by rfl) m_range ?_
      refine ea_cons ?_ ?_
      refine ee_add ?_ ?_
      exact ee_int
      refine ee_has h_law_take (hr.mono (by decide)) (by rfl) ?_
      refine ea_cons ?_ ?_
      exact ee_pk (i := 0) (lt_ hgL rfl) (pv 0)
      refine ea_cons ?_ ?_
      exact ee_int
      exact ea_nil
      exact ea_nil
      exact ea_nil
      exact eb_nil
      refine eb_cons ?_ ?_
      refine es_setF (i := 8) sc_law_things.nd rfl (Or.inl rfl) ?_
      refine ee_tup ?_
      refine ea_cons ?_ ?_
      exact ee_var (pv 4)
      refine ea_cons ?_ ?_
      exact ee_var (pv 5)
      refine ea_cons ?_ ?_
      exact ee_var (pv 6)
      refine ea_cons ?_ ?_
      exact ee_var (pv 7)
      exact ea_nil
      refine eb_cons ?_ ?_
      refine es_set (i := 9) sc_law_things.nd rfl (Or.inl rfl) ?_
      refine ee_cat ?_ ?_
      refine ee_lst ?_
      refine ea_cons ?_ ?_
      exact ee_var (pv 8)
      exact ea_nil
      refine ee_has h_law_bent (hr.mono (by decide)) (by rfl) ?_
      refine ea_cons ?_ ?_
      exact ee_pk (i := 0) (lt_ hgL rfl) (pv 0)
      refine ea_cons ?_ ?_
      exact ee_var (pv 8)
      refine ea_cons ?_ ?_
      exact ee_var (pv 6)
      exact ea_nil
      refine eb_cons ?_ ?_
      refine es_if ?_ ?_ ?_
      refine et_ne hr.units ?_ ?_
      exact ee_var (pv 7)
      refine ee_tup ?_
      exact ea_nil
      refine eb_cons ?_ ?_
      refine es_setF (i := 10) sc_law_things.nd rfl (Or.inl rfl) ?_
      refine ee_has h_law_take (hr.mono (by decide)) (by rfl) ?_
      refine ea_cons ?_ ?_
      exact ee_pk (i := 0) (lt_ hgL rfl) (pv 0)
      refine ea_cons ?_ ?_
      refine ee_len (by rfl) m_len ?_
      refine ea_cons ?_ ?_
      exact ee_var (pv 7)
      exact ea_nil
      exact ea_nil
      refine eb_cons ?_ ?_
      refine es_for PassesOwn.never rfl ?_ (eg_name (i := 11) sc_law_things.nd rfl (Or.inl rfl)) ?_
      refine ei_seq ?_
      refine ee_has h_law_bent (hr.mono (by decide)) (by rfl) ?_
      refine ea_cons ?_ ?_
      exact ee_pk (i := 0) (lt_ hgL rfl) (pv 0)
      refine ea_cons ?_ ?_
      refine ee_ix ?_ ?_
      exact ee_var (pv 7)
      exact ee_var (pv 10)
      refine ea_cons ?_ ?_
      exact ee_var (pv 6)
      exact ea_nil
      refine eb_one ?_
      refine es_expr ?_
      refine ee_app (i := 9) (lt_ hgL rfl) (pv 9) ?_
      refine ee_tup ?_
      refine ea_cons ?_ ?_
      exact ee_var (pv 4)
      refine ea_cons ?_ ?_
      exact ee_var (pv 5)
      refine ea_cons ?_ ?_
      exact ee_var (pv 6)
      refine ea_cons ?_ ?_
      refine ee_plus hr.units ?_ ?_
      refine ee_plus hr.units ?_ ?_
      refine ee_sl ?_ ?_ ?_
      exact ee_var (pv 7)
      exact eo_none
      refine eo_some ?_
      exact ee_var (pv 10)
      refine ee_tup ?_
      refine ea_cons ?_ ?_
      exact ee_var (pv 11)
      exact ea_nil
      refine ee_sl ?_ ?_ ?_
      exact ee_var (pv 7)
      refine eo_some ?_
      refine ee_add ?_ ?_
      exact ee_var (pv 10)
      exact ee_int
      exact eo_none
      exact ea_nil
      refine eb_cons ?_ ?_
      refine es_expr ?_
      refine ee_app (i := 9) (lt_ hgL rfl) (pv 9) ?_
      refine ee_tup ?_
      refine ea_cons ?_ ?_
      exact ee_var (pv 4)
      refine ea_cons ?_ ?_
      exact ee_var (pv 5)
      refine ea_cons ?_ ?_
      exact ee_var (pv 6)
      refine ea_cons ?_ ?_
      refine ee_plus hr.units ?_ ?_
      refine ee_sl ?_ ?_ ?_
      exact ee_var (pv 7)
      exact eo_none
      refine eo_some ?_
      exact ee_var (pv 10)
      refine ee_sl ?_ ?_ ?_
      exact ee_var (pv 7)
      refine eo_some ?_
      refine ee_add ?_ ?_
      exact ee_var (pv 10)
      exact ee_int
      exact eo_none
      exact ea_nil
      refine eb_cons ?_ ?_
      refine es_expr ?_
      refine ee_app (i := 9) (lt_ hgL rfl) (pv 9) ?_
      refine ee_tup ?_
      refine ea_cons ?_ ?_
      exact ee_var (pv 4)
      refine ea_cons ?_ ?_
      exact ee_var (pv 5)
      refine ea_cons ?_ ?_
      exact ee_var (pv 6)
      refine ea_cons ?_ ?_
      refine ee_plus hr.units ?_ ?_
      refine ee_sl ?_ ?_ ?_
      exact ee_var (pv 7)
      exact eo_none
      refine eo_some ?_
      refine ee_add ?_ ?_
      exact ee_var (pv 10)
      exact ee_int
      refine ee_sl ?_ ?_ ?_
      exact ee_var (pv 7)
      refine eo_some ?_
      exact ee_var (pv 10)
      exact eo_none
      exact ea_nil
      refine eb_cons ?_ ?_
      refine es_expr ?_
      refine ee_app (i := 9) (lt_ hgL rfl) (pv 9) ?_
      refine ee_tup ?_
      refine ea_cons ?_ ?_
      exact ee_var (pv 4)
      refine ea_cons ?_ ?_
      exact ee_var (pv 5)
      refine ea_cons ?_ ?_
      exact ee_var (pv 6)
      refine ea_cons ?_ ?_
      refine ee_plus hr.units ?_ ?_
      refine ee_plus hr.units ?_ ?_
      refine ee_sl ?_ ?_ ?_
      exact ee_var (pv 7)
      exact eo_none
      refine eo_some ?_
      exact ee_var (pv 10)
      refine ee_tup ?_
      refine ea_cons ?_ ?_
      exact ee_non
      exact ea_nil
      refine ee_sl ?_ ?_ ?_
      exact ee_var (pv 7)
      refine eo_some ?_
      exact ee_var (pv 10)
      exact eo_none
      exact ea_nil
      refine eb_one ?_
      refine es_expr ?_
      refine ee_app (i := 9) (lt_ hgL rfl) (pv 9) ?_
      refine ee_tup ?_
      refine ea_cons ?_ ?_
      exact ee_var (pv 4)
      refine ea_cons ?_ ?_
      exact ee_var (pv 5)
      refine ea_cons ?_ ?_
      exact ee_var (pv 6)
      refine ea_cons ?_ ?_
      refine ee_plus hr.units ?_ ?_
      refine ee_sl ?_ ?_ ?_
      exact ee_var (pv 7)
      refine eo_some ?_
      exact ee_var (pv 10)
      exact eo_none
      refine ee_sl ?_ ?_ ?_
      exact ee_var (pv 7)
      exact eo_none
      refine eo_some ?_
      exact ee_var (pv 10)
      exact ea_nil
      exact eb_nil
      refine eb_one ?_
      exact es_retO (i := 9) (lt_ hgL rfl) (pv 9)) ok_law_things, gl, F.kp, F.bindsN (fun _ _ _ _ _ _ us hl => match us, hl with | [_], _ => rfl)⟩
theorem fn_law {a : Addr} {fd : FuncData} (F : FunD K "law" "law" (defArgs st_law) (defBody st_law) (defScope st_law) [] [] a fd) (m_range : mg "range" = none) (m_max : mg "max" = none) (m_min : mg "min" = none) (m_len : mg "len" = none) (h_law_hand : Has P w K mg base 1 "_law_hand" CFH.S_law_hand) (h_law_things : Has P w K mg base 6 "_law_things" S_law_things) (h_is_layer : Has P w K mg base 4 "is_layer" CFIs.S_is_layer) (m_isinstance : mg "isinstance" = none) (m_bool : mg "bool" = none) (h_law_due : Has P w K mg base 3 "_law_due" S_law_due) : FnOk P w K mg base (L2.CX P w) 7 a fd P_law (spOf K S_law) :=
  fn0 (k := 6) (L := L_law) (ww := w_law) F sc_law rfl len_law (by
      intro cdv A outer s H E hr g hgL
      unfold w_law
      refine eb_cons ?_ ?_
      refine es_for PassesOwn.never rfl ?_ (eg_name (i := 1) sc_law.nd rfl (Or.inl rfl)) ?_
      refine ei_range1 (by rfl) m_range ?_
      refine ea_cons ?_ ?_
      refine ee_max2 rfl (by rfl) m_max ?_
      refine ea_cons ?_ ?_
      exact ee_int
      refine ea_cons ?_ ?_
      refine ee_min2 rfl (by rfl) m_min ?_
      refine ea_cons ?_ ?_
      exact ee_int
      refine ea_cons ?_ ?_
      refine ee_len (by rfl) m_len ?_
      refine ea_cons ?_ ?_
      exact ee_var (pv 0)
      exact ea_nil
      exact ea_nil
      exact ea_nil
      exact ea_nil
      refine eb_cons ?_ ?_
      refine es_set (i := 2) sc_law.nd rfl (Or.inl rfl) ?_
      refine ee_has h_law_hand (hr.mono (by decide)) (by rfl) ?_
      refine ea_cons ?_ ?_
      exact ee_var (pv 0)
      refine ea_cons ?_ ?_
      exact ee_var (pv 1)
      exact ea_nil
      refine eb_cons ?_ ?_
      refine es_setF (i := 3) sc_law.nd rfl (Or.inl rfl) ?_
      refine ee_has h_law_things (hr.mono (by decide)) (by rfl) ?_
      refine ea_cons ?_ ?_
      exact ee_pk (i := 2) (lt_ hgL rfl) (pv 2)
      exact ea_nil
      refine eb_one ?_
      refine es_for PassesOwn.never rfl ?_ (eg_name (i := 4) sc_law.nd rfl (Or.inl rfl)) ?_
      refine ei_lst ?_
      refine ee_catL ?_ ?_
      exact ee_var (pv 3)
      refine ee_sl ?_ ?_ ?_
      exact ee_var (pv 3)
      exact eo_none
      refine eo_some ?_
      exact ee_int
      refine eb_cons ?_ ?_
      refine es_setF (i := 5) sc_law.nd rfl (Or.inl rfl) ?_
      refine ee_has h_is_layer (hr.mono (by decide)) (by rfl) ?_
      refine ea_cons ?_ ?_
      exact ee_var (pv 4)
      exact ea_nil
      refine eb_one ?_
      refine es_if ?_ ?_ ?_
      refine et_w ?_
      refine ew_or ?_ ?_
      refine et_not ?_
      refine et_val ?_
      refine ee_isi2 (by rfl) m_isinstance (by rfl) m_bool ?_
      exact ee_var (pv 5)
      refine ew_or1 ?_
      refine et_ne hr.units ?_ ?_
      exact ee_var (pv 5)
      refine ee_has h_law_due (hr.mono (by decide)) (by rfl) ?_
      refine ea_cons ?_ ?_
      exact ee_var (pv 4)
      exact ea_nil
      refine eb_one ?_
      refine es_ret ?_
      exact ee_bl
      exact eb_nil
      refine eb_one ?_
      refine es_ret ?_
      exact ee_bl) ok_law
end
theorem facts {P : Program} {w : World} {K : PySem.W.Frag} {h : Heap} {mg : Str → Option Value} {f : Addr} (X : K.In h) (G : h.Ns mainGlobals mg) (hfa : mg ("law" : Str) = some (.ref f)) (c : He.SaysD fa fn K) :
    ∃ fd : FuncData, (∀ (s : Shared) (v : Value), BindsTo s fd ⟨[v], []⟩ [("_law_script", v)]) ∧ ∀ base : Heap, K.In base → base.Ns mainGlobals mg → FnOk P w K mg base (L2.CX P w) 7 f fd ["_law_script"] (spOf K S_law) := by
  obtain ⟨fd_is_whole, F_is_whole⟩ := c.def_ 0 (d := dd_is_whole) rfl
  obtain ⟨fd_is_word, F_is_word⟩ := c.def_ 1 (d := dd_is_word) rfl
  obtain ⟨fd_is_turn, F_is_turn⟩ := c.def_ 2 (d := dd_is_turn) rfl
  obtain ⟨fd_are_turns, F_are_turns⟩ := c.def_ 3 (d := dd_are_turns) rfl
  obtain ⟨fd_is_layer, F_is_layer⟩ := c.def_ 4 (d := dd_is_layer) rfl
  obtain ⟨fd_law_hand, F_law_hand⟩ := c.def_ 5 (d := dd_law_hand) rfl
  obtain ⟨fd_law_take, F_law_take⟩ := c.def_ 6 (d := dd_law_take) rfl
  obtain ⟨fd_law_pick, F_law_pick⟩ := c.def_ 7 (d := dd_law_pick) rfl
  obtain ⟨fd_law_words, F_law_words⟩ := c.def_ 8 (d := dd_law_words) rfl
  obtain ⟨fd_law_minute, F_law_minute⟩ := c.def_ 9 (d := dd_law_minute) rfl
  obtain ⟨fd_law_layer, F_law_layer⟩ := c.def_ 10 (d := dd_law_layer) rfl
  obtain ⟨fd_law_is_whole, F_law_is_whole⟩ := c.def_ 11 (d := dd_law_is_whole) rfl
  obtain ⟨fd_law_is_word, F_law_is_word⟩ := c.def_ 12 (d := dd_law_is_word) rfl
  obtain ⟨fd_law_are_turns, F_law_are_turns⟩ := c.def_ 13 (d := dd_law_are_turns) rfl
  obtain ⟨fd_law_due, F_law_due⟩ := c.def_ 14 (d := dd_law_due) rfl
  obtain ⟨fd_law_bent_word, F_law_bent_word⟩ := c.def_ 15 (d := dd_law_bent_word) rfl
  obtain ⟨fd_law_others, F_law_others⟩ := c.def_ 16 (d := dd_law_others) rfl
  obtain ⟨fd_law_bent, F_law_bent⟩ := c.def_ 17 (d := dd_law_bent) rfl
  obtain ⟨fd_law_things, F_law_things⟩ := c.def_ 18 (d := dd_law_things) rfl
  obtain ⟨fd_law, F_law⟩ := c.def_ 19 (d := dd_law) rfl
  have g_is_whole := He.glo_ok X G (c.fact 0 (f := .glo "is_whole") rfl)
  have g_is_word := He.glo_ok X G (c.fact 1 (f := .glo "is_word") rfl)
  have g_is_turn := He.glo_ok X G (c.fact 2 (f := .glo "is_turn") rfl)
  have g_are_turns := He.glo_ok X G (c.fact 3 (f := .glo "are_turns") rfl)
  have g_is_layer := He.glo_ok X G (c.fact 4 (f := .glo "is_layer") rfl)
  have g_law_hand := He.glo_ok X G (c.fact 5 (f := .glo "_law_hand") rfl)
  have g_law_take := He.glo_ok X G (c.fact 6 (f := .glo "_law_take") rfl)
  have g_law_pick := He.glo_ok X G (c.fact 7 (f := .glo "_law_pick") rfl)
  have g_law_words := He.glo_ok X G (c.fact 8 (f := .glo "_law_words") rfl)
  have g_law_minute := He.glo_ok X G (c.fact 9 (f := .glo "_law_minute") rfl)
  have g_law_layer := He.glo_ok X G (c.fact 10 (f := .glo "_law_layer") rfl)
  have g_law_is_whole := He.glo_ok X G (c.fact 11 (f := .glo "_law_is_whole") rfl)
  have g_law_is_word := He.glo_ok X G (c.fact 12 (f := .glo "_law_is_word") rfl)
  have g_law_are_turns := He.glo_ok X G (c.fact 13 (f := .glo "_law_are_turns") rfl)
  have g_law_due := He.glo_ok X G (c.fact 14 (f := .glo "_law_due") rfl)
  have g_law_bent_word := He.glo_ok X G (c.fact 15 (f := .glo "_law_bent_word") rfl)
  have g_law_others := He.glo_ok X G (c.fact 16 (f := .glo "_law_others") rfl)
  have g_law_bent := He.glo_ok X G (c.fact 17 (f := .glo "_law_bent") rfl)
  have g_law_things := He.glo_ok X G (c.fact 18 (f := .glo "_law_things") rfl)
  have g_law := He.glo_ok X G (c.fact 19 (f := .glo "law") rfl)
  have m_isinstance := He.free_ok X G (c.fact 20 (f := .free "isinstance") rfl)
  have m_int := He.free_ok X G (c.fact 21 (f := .free "int") rfl)
  have m_bool := He.free_ok X G (c.fact 22 (f := .free "bool") rfl)
  have m_str := He.free_ok X G (c.fact 23 (f := .free "str") rfl)
  have m_len := He.free_ok X G (c.fact 24 (f := .free "len") rfl)
  have m_all := He.free_ok X G (c.fact 25 (f := .free "all") rfl)
  have m_tuple := He.free_ok X G (c.fact 26 (f := .free "tuple") rfl)
  have m_range := He.free_ok X G (c.fact 27 (f := .free "range") rfl)
  have m_sorted := He.free_ok X G (c.fact 28 (f := .free "sorted") rfl)
  have m_set := He.free_ok X G (c.fact 29 (f := .free "set") rfl)
  have m_list := He.free_ok X G (c.fact 30 (f := .free "list") rfl)
  have m_max := He.free_ok X G (c.fact 31 (f := .free "max") rfl)
  have m_min := He.free_ok X G (c.fact 32 (f := .free "min") rfl)
  have c_SIGNS := He.str_ok X G (c.fact 33 (f := .str "SIGNS" "abcdefghijklmnopqrstuvwxyz0123456789") rfl)
  have c_MOST_TURNS := He.int_ok X G (c.fact 34 (f := .int "MOST_TURNS" 12) rfl)
  have c_MOST_DAYS := He.int_ok X G (c.fact 35 (f := .int "MOST_DAYS" 60) rfl)
  have c_DAY := He.int_ok X G (c.fact 36 (f := .int "DAY" 1440) rfl)
  have e := hfa.symm.trans g_law
  cases e
  have b := FunD.bindsA (ps := ["_law_script"]) F_law fun _ _ _ _ _ _ us hl => match us, hl with | [_], _ => rfl
  refine ⟨fd_law, fun s v => b s [v] rfl, fun base _ _ => ?_⟩
  have h_is_whole : Has P w K mg base 1 "is_whole" CFIs.S_is_whole := has_is_whole F_is_whole g_is_whole m_isinstance m_int m_bool
  have h_is_word : Has P w K mg base 1 "is_word" CFIs.S_is_word := has_is_word F_is_word g_is_word m_isinstance m_str m_len m_all c_SIGNS
  have h_is_turn : Has P w K mg base 2 "is_turn" CFIs.S_is_turn := has_is_turn F_is_turn g_is_turn m_isinstance m_tuple m_len h_is_whole h_is_word
  have h_are_turns : Has P w K mg base 3 "are_turns" CFIs.S_are_turns := has_are_turns F_are_turns g_are_turns m_isinstance m_tuple m_len c_MOST_TURNS h_is_turn
  have h_is_layer : Has P w K mg base 4 "is_layer" CFIs.S_is_layer := has_is_layer F_is_layer g_is_layer m_isinstance m_tuple m_len h_is_word h_is_whole c_MOST_DAYS c_DAY h_are_turns
  have h_law_hand : Has P w K mg base 1 "_law_hand" CFH.S_law_hand := has_law_hand F_law_hand g_law_hand m_len m_int
  have h_law_take : Has P w K mg base 1 "_law_take" CFH.S_law_take := has_law_take F_law_take g_law_take 
  have h_law_pick : Has P w K mg base 2 "_law_pick" CFH.S_law_pick := has_law_pick F_law_pick g_law_pick h_law_take m_len
  have h_law_words : Has P w K mg base 3 "_law_words" CFWd.S_law_words := has_law_words F_law_words g_law_words h_law_pick h_law_take m_len m_range
  have h_law_minute : Has P w K mg base 3 "_law_minute" CFLy.S_law_minute := has_law_minute F_law_minute g_law_minute h_law_take h_law_pick
  have h_law_layer : Has P w K mg base 4 "_law_layer" CFLy.S_law_layer := has_law_layer F_law_layer g_law_layer h_law_take h_law_pick m_sorted m_set m_range h_law_minute m_len m_tuple
  have h_law_is_whole : Has P w K mg base 1 "_law_is_whole" S_law_is_whole := has_law_is_whole F_law_is_whole g_law_is_whole m_isinstance m_int m_bool
  have h_law_is_word : Has P w K mg base 1 "_law_is_word" S_law_is_word := has_law_is_word F_law_is_word g_law_is_word m_isinstance m_str m_len m_all
  have h_law_are_turns : Has P w K mg base 2 "_law_are_turns" S_law_are_turns := has_law_are_turns F_law_are_turns g_law_are_turns m_isinstance m_tuple m_len h_law_is_whole h_law_is_word
  have h_law_due : Has P w K mg base 3 "_law_due" S_law_due := has_law_due F_law_due g_law_due m_isinstance m_tuple m_len h_law_is_word h_law_is_whole h_law_are_turns
  have h_law_bent_word : Has P w K mg base 3 "_law_bent_word" S_law_bent_word := has_law_bent_word F_law_bent_word g_law_bent_word h_law_pick h_law_take m_len
  have h_law_others : Has P w K mg base 4 "_law_others" S_law_others := has_law_others F_law_others g_law_others m_isinstance m_str h_law_bent_word m_int h_law_take m_list
  have h_law_bent : Has P w K mg base 5 "_law_bent" S_law_bent := has_law_bent F_law_bent g_law_bent h_law_pick m_list m_range m_len h_law_others
  have h_law_things : Has P w K mg base 6 "_law_things" S_law_things := has_law_things F_law_things g_law_things h_law_pick h_law_take h_law_words h_law_layer m_tuple m_range h_law_bent m_len
  exact fn_law F_law m_range m_max m_min m_len h_law_hand h_law_things h_is_layer m_isinstance m_bool h_law_due
end K10
open PySem PySem.W PySem.Calls PyProof.Rows
set_option maxHeartbeats 0 in
theorem PySem.Challenge.cw_calledfirst_k10_layers_of_anything_holds : PySem.Challenge.rw_calledfirst_k10_layers_of_anything.Holds := by
  w_on; o_law
  refine HandSHeadRun.head_any (r := OpenLaw.row PySem.Challenge.rw_calledfirst_k10_layers_of_anything) (q := view (OpenLaw.row PySem.Challenge.rw_calledfirst_k10_layers_of_anything).prog [26]) (H := K10H.hk) (ob := K10H.ob) (M := 1480) (loose := K10H.loose) (d := HandSHeadRun.topDef (OpenLaw.row PySem.Challenge.rw_calledfirst_k10_layers_of_anything).prog 26) (kwd := []) K10H.ob_eq
    (by kernel_rfl) (fun s => by kernel_rfl) K10H.run (by kernel_rfl) (by kernel_rfl) (by kernel_rfl) (by rfl) (by first | assumption | decide +kernel) (by decide +kernel) ⟨rfl, rfl, rfl, rfl, rfl, by decide +kernel⟩ ?hw ?hc
  case hw => w_witness2
  case hc =>
    refine DL.walk_dl (l := PySem.Challenge.rw_calledfirst_k10_layers_of_anything) (n := 63) (k := 7) (x := "_law_script") rfl (by decide) (by kernel_rfl) ⟨rfl, by decide, by decide⟩ (S := K10.S_law) ?F K10.law_in
    intro w mg fa h Y G hmg0
    obtain ⟨K, KX, c⟩ := Y
    have hmg : mg ("law" : PySem.Str) = some (.ref fa) := by
      have e : (HandSHeadRun.topDef (OpenLaw.row PySem.Challenge.rw_calledfirst_k10_layers_of_anything).prog 26).name = ("law" : PySem.Str) := by kernel_rfl
      rw [← e]
      exact hmg0
    obtain ⟨fd, hb, hF⟩ := K10.facts (P := (PySem.Challenge.rw_calledfirst_k10_layers_of_anything).prog) (w := w) KX G hmg c
    exact ⟨K, fd, KX, hb, hF⟩
