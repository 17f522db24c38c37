import PyProof.Rows.All
import HandS.ForExc
import HandS.ForMost
import HandS.Wide
import HandS.Defaults
import HandS.TupAny
import HandS.WordsExc
import HandS.IsInst
import HandS.Head0
import HandS.Head1
import HandS.Head2
import HandS.HeadEnd
import HandS.HeadHook1
import HandS.HeadHook2
import PySem.Challenge.RW_calledfirst_k39_pieces_of_the_day
import HandS.Deep
import HandS.Style
import HandS.Text
import HandS.Zip
import HandS.Rev
import HandS.RevRange
import KE.GoesEnum
import HandS.SortInts
import HandS.NoneIn
import PyProof.StrOps2
import HandS.StrMore
import HandS.SortKw
import HandS.DictEq
import HandS.SetFor
import PyProof.LongRange
import HandS.More
import HandS.RaiseMore
import HandS.Small
import PyProof.ExcBaseAll.ValueError
import PyProof.ReprRoads
import PyProof.StrLawsRepr
import HandS.SortRule
import HandS.SortOrd
import HandS.NamedTupSort
import KE.KSortTup
import KE.IntBitsLaws
set_option Elab.async false
set_option linter.all false
set_option maxRecDepth 100000
set_option maxHeartbeats 4000000
/-! DL: a level of plain data over the hand layer. A def's slots hold data (numbers, texts, tuples, lists that nobody changes any more) or a list or dict of its own; what stands at which address is proved away once, here. -/
namespace DL
open PySem PySem.Spec PyProof.Rows L2

abbrev D := PyData
/-- a list or dict that one slot owns -/
inductive OD where
  | lst (ds : List D)
  | dct (kvs : List (Key × D))
/-- what a slot (or a passing value) holds: nothing known, data, an own object (t: the tag of a parameter's own object, 0 else), a slot lent out -/
inductive C where
  | no
  | v (d : D)
  | own (t : Nat) (o : OD)
  | pk (i : Nat)
  | ln (i : Nat)
abbrev Rho := List C

def hide (H : Hp) (O : List Addr) : Hp := fun a => if a ∈ O then none else H a
theorem hide_some {H : Hp} {O : List Addr} {a : Addr} {o : HO} : hide H O a = some o ↔ a ∉ O ∧ H a = some o := by
  unfold hide
  by_cases h : a ∈ O
  · simp [h]
  · simp [h]
theorem hide_congr {H : Hp} {O O' : List Addr} (h : ∀ a, a ∈ O ↔ a ∈ O') : hide H O = hide H O' := by
  funext a
  unfold hide
  by_cases q : a ∈ O
  · rw [if_pos q, if_pos ((h a).mp q)]
  · rw [if_neg q, if_neg fun z => q ((h a).mpr z)]

theorem seqT_same {K : PySem.W.Frag} {H H' : Hp} {a : Addr} {xs : List V} (e : Same H H') (h : SqT K H a xs) : SqT K H' a xs := by
  rcases h with (h | ⟨o, h⟩) | h
  · exact .inl (.inl (e _ _ h))
  · exact .inl (.inr ⟨o, e _ _ h⟩)
  · exact .inr h
mutual
theorem dp_mono {K : PySem.W.Frag} {B B' : Hp} (e : Same B B') : ∀ (d : D) (v : V), Dp K B v d → Dp K B' v d
  | .none, _, h => by cases h; exact .non
  | .bool b, _, h => by cases h; exact .bl b
  | .int i, _, h => by cases h; exact .int i
  | .str x, _, h => by cases h; exact .str x
  | .list ds, _, h => by
    cases h with
    | lst hs ha => exact .lst (e.seq hs) (dpAll_mono e ds _ ha)
  | .tuple ds, _, h => by
    cases h with
    | tup hs ha => exact .tup (seqT_same e hs) (dpAll_mono e ds _ ha)
  | .dict _, _, h => by cases h
theorem dpAll_mono {K : PySem.W.Frag} {B B' : Hp} (e : Same B B') : ∀ (ds : List D) (vs : List V), DpAll K B vs ds → DpAll K B' vs ds
  | [], _, h => by cases h; exact .nil
  | d :: ds, _, h => by
    cases h with
    | cons h1 h2 => exact .cons (dp_mono e d _ h1) (dpAll_mono e ds _ h2)
end
theorem DpAll.len {K : PySem.W.Frag} {B : Hp} : ∀ {vs : List V} {ds : List D}, DpAll K B vs ds → vs.length = ds.length
  | _, [], h => by cases h; rfl
  | _, d :: ds, h => by
    cases h with
    | cons h1 h2 => rw [List.length_cons, List.length_cons, DpAll.len h2]
theorem DpAll.get {K : PySem.W.Frag} {B : Hp} : ∀ {vs : List V} {ds : List D} {i : Nat} {d : D}, DpAll K B vs ds → ds[i]? = some d → ∃ v, vs[i]? = some v ∧ Dp K B v d
  | _, [], _, _, _, e => by simp at e
  | _, d' :: ds, i, d, h, e => by
    cases h with
    | cons h1 h2 =>
      cases i with
      | zero =>
        have e' : d' = d := by simpa using e
        subst e'
        exact ⟨_, rfl, h1⟩
      | succ i =>
        obtain ⟨v, q1, q2⟩ := DpAll.get (i := i) (d := d) h2 (by simpa using e)
        exact ⟨v, by simpa using q1, q2⟩
theorem DpAll.app {K : PySem.W.Frag} {B : Hp} : ∀ {vs us : List V} {ds es : List D}, DpAll K B vs ds → DpAll K B us es → DpAll K B (vs ++ us) (ds ++ es)
  | _, _, [], _, h, h' => by cases h; exact h'
  | _, _, d :: ds, _, h, h' => by
    cases h with
    | cons h1 h2 => exact .cons h1 (DpAll.app h2 h')
theorem DpAll.setAt {K : PySem.W.Frag} {B : Hp} {x : V} {d : D} (hx : Dp K B x d) : ∀ {vs : List V} {ds : List D} (i : Nat), DpAll K B vs ds → DpAll K B (vs.set i x) (ds.set i d)
  | _, [], _, h => by cases h; exact .nil
  | _, d' :: ds, i, h => by
    cases h with
    | cons h1 h2 =>
      cases i with
      | zero => exact .cons hx h2
      | succ i => exact .cons h1 (DpAll.setAt hx i h2)
theorem DpAll.takeN {K : PySem.W.Frag} {B : Hp} : ∀ {vs : List V} {ds : List D} (n : Nat), DpAll K B vs ds → DpAll K B (vs.take n) (ds.take n)
  | _, [], n, h => by cases h; simp; exact .nil
  | _, d :: ds, n, h => by
    cases h with
    | cons h1 h2 =>
      cases n with
      | zero => exact .nil
      | succ n => exact .cons h1 (DpAll.takeN n h2)
theorem DpAll.dropN {K : PySem.W.Frag} {B : Hp} : ∀ {vs : List V} {ds : List D} (n : Nat), DpAll K B vs ds → DpAll K B (vs.drop n) (ds.drop n)
  | _, [], n, h => by cases h; simp; exact .nil
  | _, d :: ds, n, h => by
    cases h with
    | cons h1 h2 =>
      cases n with
      | zero => exact .cons h1 h2
      | succ n => exact DpAll.dropN n h2
theorem DpAll.ints {K : PySem.W.Frag} {B : Hp} : ∀ (ns : List Int), DpAll K B (ns.map V.int) (ns.map PyData.int)
  | [] => .nil
  | n :: ns => .cons (.int n) (DpAll.ints ns)
theorem DpAll.of_ints {K : PySem.W.Frag} {B : Hp} : ∀ {ns : List Int} {vs : List V}, DpAll K B vs (ns.map PyData.int) → vs = ns.map V.int
  | [], _, h => by cases h; rfl
  | n :: ns, _, h => by
    cases h with
    | cons h1 h2 =>
      cases h1
      rw [DpAll.of_ints h2]
      rfl

/-- a dict's values -/
def DpKV (K : PySem.W.Frag) (B : Hp) : List (Key × V) → List (Key × D) → Prop
  | [], [] => True
  | p :: ps, q :: qs => p.1 = q.1 ∧ Dp K B p.2 q.2 ∧ DpKV K B ps qs
  | _, _ => False
theorem DpKV.mono {K : PySem.W.Frag} {B B' : Hp} (e : Same B B') : ∀ {ps : List (Key × V)} {qs : List (Key × D)}, DpKV K B ps qs → DpKV K B' ps qs
  | [], [], h => h
  | p :: ps, q :: qs, h => ⟨h.1, dp_mono e _ _ h.2.1, DpKV.mono e h.2.2⟩
  | [], _ :: _, h => h.elim
  | _ :: _, [], h => h.elim
def OwnAt (K : PySem.W.Frag) (B H : Hp) (a : Addr) : OD → Prop
  | .lst ds => ∃ xs, H a = some (.lst xs) ∧ DpAll K B xs ds
  | .dct kvs => ∃ ks, H a = some (.dK ks) ∧ DpKV K B ks kvs
theorem OwnAt.mono {K : PySem.W.Frag} {B B' H H' : Hp} {a : Addr} {o : OD} (e : Same B B') (k : ∀ u, H a = some u → H' a = some u) (h : OwnAt K B H a o) : OwnAt K B' H' a o := by
  cases o with
  | lst ds => obtain ⟨xs, h1, h2⟩ := h; exact ⟨xs, k _ h1, dpAll_mono e _ _ h2⟩
  | dct kvs => obtain ⟨ks, h1, h2⟩ := h; exact ⟨ks, k _ h1, h2.mono e⟩
theorem OwnAt.there {K : PySem.W.Frag} {B H : Hp} {a : Addr} {o : OD} (h : OwnAt K B H a o) : ∃ u, H a = some u := by
  cases o with
  | lst ds => obtain ⟨xs, h1, h2⟩ := h; exact ⟨_, h1⟩
  | dct kvs => obtain ⟨ks, h1, h2⟩ := h; exact ⟨_, h1⟩

/-- the entry of a def: the heap there, the addresses of its parameters' own objects (tg by tag), what is private to those around, the slots that may be lent -/
structure G where
  H0 : Hp
  tg : Nat → Addr
  Oa : List Addr
  P0 : List Addr
  L : Nat → Bool

def RC (K : PySem.W.Frag) (g : G) (σ : L2.St) (B H : Hp) (ov : Option V) : C → Prop
  | .no => True
  | .v d => ∃ x, ov = some x ∧ Dp K B x d
  | .own t o => ∃ a, ov = some (.ref a) ∧ OwnAt K B H a o ∧ (t ≠ 0 → g.tg t = a) ∧ (t = 0 → g.H0 a = none)
  | .pk i => ∃ x, ov = some x ∧ σ[i]? = some (some x)
  | .ln i => ∃ x, ov = some x ∧ σ[i]? = some (some x)
def RCs (K : PySem.W.Frag) (g : G) (σ : L2.St) (B H : Hp) : List (Option V) → List C → Prop
  | [], [] => True
  | v :: vs, c :: cs => RC K g σ B H v c ∧ RCs K g σ B H vs cs
  | _, _ => False
def footC : Option V → C → List Addr
  | some (.ref a), .own _ _ => [a]
  | _, _ => []
def foot : List (Option V) → List C → List Addr
  | v :: vs, c :: cs => footC v c ++ foot vs cs
  | _, _ => []
abbrev tot (σ : L2.St) (vs : List V) (ρ : Rho) (cs : List C) : List Addr := foot (vs.map some) cs ++ foot σ ρ

structure SR (K : PySem.W.Frag) (g : G) (σ : L2.St) (vs : List V) (H : Hp) (ρ : Rho) (cs : List C) : Prop where
  fr : ∀ a o, g.H0 a = some o → a ∉ g.Oa → H a = some o
  dm : ∀ a o, g.H0 a = some o → ∃ o', H a = some o'
  pr : ∀ a ∈ g.P0, a ∉ g.Oa ∧ ∃ o, g.H0 a = some o
  nw : ∀ a ∈ tot σ vs ρ cs, a ∈ g.Oa ∨ g.H0 a = none
  nd : (tot σ vs ρ cs).Nodup
  sl : RCs K g [] (hide H (tot σ vs ρ cs ++ g.P0)) H σ ρ
  tp : RCs K g σ (hide H (tot σ vs ρ cs ++ g.P0)) H (vs.map some) cs
  pk : ∀ i, (C.pk i ∈ cs ∨ C.ln i ∈ cs) → g.L i = true

section
variable {K : PySem.W.Frag} {g : G} {σ σ' : L2.St} {B B' H H' : Hp} {v : Option V} {c : C}
theorem RC.mono (e : Same B B') (k : ∀ a ∈ footC v c, ∀ u, H a = some u → H' a = some u) (h : RC K g σ B H v c) : RC K g σ B' H' v c := by
  cases c with
  | no => trivial
  | v d => obtain ⟨x, h1, h2⟩ := h; exact ⟨x, h1, dp_mono e _ _ h2⟩
  | own t o =>
    obtain ⟨a, h1, h2, h3⟩ := h
    subst h1
    exact ⟨a, rfl, h2.mono e (k a (by simp [footC])), h3⟩
  | pk i => exact h
  | ln i => exact h
theorem RCs.mono (e : Same B B') : ∀ {vs : List (Option V)} {cs : List C}, (∀ a ∈ foot vs cs, ∀ u, H a = some u → H' a = some u) → RCs K g σ B H vs cs → RCs K g σ B' H' vs cs
  | [], [], _, h => h
  | v :: vs, c :: cs, k, h => ⟨h.1.mono e fun a ha => k a (by simp [foot, ha]), RCs.mono e (fun a ha => k a (by simp [foot, ha])) h.2⟩
  | [], _ :: _, _, h => h.elim
  | _ :: _, [], _, h => h.elim
theorem RCs.len : ∀ {vs : List (Option V)} {cs : List C}, RCs K g σ B H vs cs → vs.length = cs.length
  | [], [], _ => rfl
  | _ :: _, _ :: _, h => by rw [List.length_cons, List.length_cons, RCs.len h.2]
  | [], _ :: _, h => h.elim
  | _ :: _, [], h => h.elim
theorem RCs.there : ∀ {vs : List (Option V)} {cs : List C}, RCs K g σ B H vs cs → ∀ a ∈ foot vs cs, ∃ u, H a = some u
  | [], [], _, a, ha => by simp [foot] at ha
  | v :: vs, c :: cs, h, a, ha => by
    rw [foot, List.mem_append] at ha
    rcases ha with ha | ha
    · cases c with
      | own t o =>
        obtain ⟨b, e, q, _⟩ := h.1
        subst e
        have e2 : a = b := by simpa [footC] using ha
        subst e2
        exact q.there
      | no => cases v with
        | none => simp [footC] at ha
        | some x => cases x <;> simp [footC] at ha
      | v d => cases v with
        | none => simp [footC] at ha
        | some x => cases x <;> simp [footC] at ha
      | pk i => cases v with
        | none => simp [footC] at ha
        | some x => cases x <;> simp [footC] at ha
      | ln i => cases v with
        | none => simp [footC] at ha
        | some x => cases x <;> simp [footC] at ha
    · exact RCs.there h.2 a ha
  | [], _ :: _, h, _, _ => h.elim
  | _ :: _, [], h, _, _ => h.elim
theorem foot_app : ∀ {vs us : List (Option V)} {cs ds : List C}, vs.length = cs.length → foot (vs ++ us) (cs ++ ds) = foot vs cs ++ foot us ds
  | [], _, [], _, _ => rfl
  | v :: vs, us, c :: cs, ds, h => by
    show footC v c ++ foot (vs ++ us) (cs ++ ds) = (footC v c ++ foot vs cs) ++ foot us ds
    rw [foot_app (by simpa using h), List.append_assoc]
  | [], _, _ :: _, _, h => by simp at h
  | _ :: _, _, [], _, h => by simp at h
theorem RCs.app : ∀ {vs us : List (Option V)} {cs ds : List C}, RCs K g σ B H vs cs → RCs K g σ B H us ds → RCs K g σ B H (vs ++ us) (cs ++ ds)
  | [], _, [], _, _, h => h
  | _ :: _, _, _ :: _, _, h, h' => ⟨h.1, RCs.app h.2 h'⟩
  | [], _, _ :: _, _, h, _ => h.elim
  | _ :: _, _, [], _, h, _ => h.elim
theorem RCs.split : ∀ {vs us : List (Option V)} {cs ds : List C}, vs.length = cs.length → RCs K g σ B H (vs ++ us) (cs ++ ds) → RCs K g σ B H vs cs ∧ RCs K g σ B H us ds
  | [], _, [], _, _, h => ⟨trivial, h⟩
  | _ :: _, _, _ :: _, _, hl, h => ⟨⟨h.1, (RCs.split (by simpa using hl) h.2).1⟩, (RCs.split (by simpa using hl) h.2).2⟩
  | [], _, _ :: _, _, h, _ => by simp at h
  | _ :: _, _, [], _, h, _ => by simp at h
end

section
variable {K : PySem.W.Frag} {g : G} {σ σ' : L2.St} {vs vs' : List V} {H H' : Hp} {ρ ρ' : Rho} {cs cs' : List C}
theorem SR.there (h : SR K g σ vs H ρ cs) : ∀ a ∈ tot σ vs ρ cs, ∃ u, H a = some u := fun a ha => by
  rcases List.mem_append.mp ha with q | q
  · exact h.tp.there a q
  · exact h.sl.there a q
theorem SR.pdom (h : SR K g σ vs H ρ cs) : ∀ a ∈ g.P0, ∃ u, H a = some u := fun a ha => by
  obtain ⟨h1, o, h2⟩ := h.pr a ha
  exact ⟨o, h.fr a o h2 h1⟩
theorem SR.domO (h : SR K g σ vs H ρ cs) : ∀ a ∈ tot σ vs ρ cs ++ g.P0, ∃ u, H a = some u := fun a ha => (List.mem_append.mp ha).elim (h.there a) (h.pdom a)
theorem SR.pout (h : SR K g σ vs H ρ cs) : ∀ a ∈ tot σ vs ρ cs, a ∉ g.P0 := fun a ha hp => by
  obtain ⟨h1, o, h2⟩ := h.pr a hp
  rcases h.nw a ha with q | q
  · exact h1 q
  · rw [h2] at q; cases q
theorem hide_step {F F' P : List Addr} (keep : ∀ a o, a ∉ F → H a = some o → H' a = some o) (new : ∀ a ∈ F', a ∈ F ∨ H a = none) : Same (hide H (F ++ P)) (hide H' (F' ++ P)) := fun a o e => by
  obtain ⟨h1, h2⟩ := hide_some.mp e
  have hF : a ∉ F := fun z => h1 (List.mem_append_left _ z)
  have hP : a ∉ P := fun z => h1 (List.mem_append_right _ z)
  refine hide_some.mpr ⟨fun z => ?_, keep a o hF h2⟩
  rcases List.mem_append.mp z with z | z
  · rcases new a z with q | q
    · exact hF q
    · rw [h2] at q; cases q
  · exact hP z
/-- the general step -/
theorem SR.gen (h : SR K g σ vs H ρ cs) (keep : ∀ a o, a ∉ tot σ vs ρ cs → H a = some o → H' a = some o) (dom : ∀ a o, H a = some o → ∃ o', H' a = some o') (new : ∀ a ∈ tot σ' vs' ρ' cs', a ∈ tot σ vs ρ cs ∨ H a = none) (nd : (tot σ' vs' ρ' cs').Nodup)
    (sl : Same (hide H (tot σ vs ρ cs ++ g.P0)) (hide H' (tot σ' vs' ρ' cs' ++ g.P0)) → RCs K g [] (hide H' (tot σ' vs' ρ' cs' ++ g.P0)) H' σ' ρ')
    (tp : Same (hide H (tot σ vs ρ cs ++ g.P0)) (hide H' (tot σ' vs' ρ' cs' ++ g.P0)) → RCs K g σ' (hide H' (tot σ' vs' ρ' cs' ++ g.P0)) H' (vs'.map some) cs')
    (pk : ∀ i, (C.pk i ∈ cs' ∨ C.ln i ∈ cs') → g.L i = true) : SR K g σ' vs' H' ρ' cs' := by
  have hB : Same (hide H (tot σ vs ρ cs ++ g.P0)) (hide H' (tot σ' vs' ρ' cs' ++ g.P0)) := hide_step keep new
  refine ⟨fun a o e n => ?_, fun a o e => ?_, h.pr, fun a ha => ?_, nd, sl hB, tp hB, pk⟩
  · refine keep a o (fun z => ?_) (h.fr a o e n)
    rcases h.nw a z with q | q
    · exact n q
    · rw [e] at q; cases q
  · obtain ⟨o', q⟩ := h.dm a o e
    exact dom a o' q
  · rcases new a ha with q | q
    · exact h.nw a q
    · cases e : g.H0 a with
      | none => exact .inr rfl
      | some o =>
        by_cases n : a ∈ g.Oa
        · exact .inl n
        · rw [h.fr a o e n] at q; cases q
/-- what a rule hands back -/
def NewRes (K : PySem.W.Frag) (O : List Addr) (H H' : Hp) (v : V) : C → Prop
  | .v d => Dp K (hide H' O) v d
  | .own t o => t = 0 ∧ ∃ a, v = .ref a ∧ H a = none ∧ OwnAt K (hide H' (a :: O)) H' a o
  | _ => False
theorem foot_cons_v {x : V} {d : D} : tot σ (x :: vs) ρ (.v d :: cs) = tot σ vs ρ cs := by
  show (footC (some x) (.v d) ++ foot (vs.map some) cs) ++ foot σ ρ = _
  have e : footC (some x) (.v d) = [] := by cases x <;> rfl
  rw [e]; rfl
theorem foot_cons_own {a : Addr} {t : Nat} {o : OD} : tot σ (.ref a :: vs) ρ (.own t o :: cs) = a :: tot σ vs ρ cs := rfl
theorem foot_cons_pk {x : V} {i : Nat} : tot σ (x :: vs) ρ (.pk i :: cs) = tot σ vs ρ cs := by
  show (footC (some x) (.pk i) ++ foot (vs.map some) cs) ++ foot σ ρ = _
  have e : footC (some x) (.pk i) = [] := by cases x <;> rfl
  rw [e]; rfl
theorem SR.memT (ha : a ∈ foot (vs.map some) cs) : a ∈ tot σ vs ρ cs := List.mem_append_left _ ha
theorem SR.memS (ha : a ∈ foot σ ρ) : a ∈ tot σ vs ρ cs := List.mem_append_right _ ha
/-- a value is pushed; the heap has grown -/
theorem SR.res {v : V} {c : C} (h : SR K g σ vs H ρ cs) (e : Same H H') (r : NewRes K (tot σ vs ρ cs ++ g.P0) H H' v c) : SR K g σ (v :: vs) H' ρ (c :: cs) := by
  cases c with
  | no => exact r.elim
  | pk i => exact r.elim
  | ln i => exact r.elim
  | v d =>
    have ft : tot σ (v :: vs) ρ (.v d :: cs) = tot σ vs ρ cs := foot_cons_v
    refine h.gen (fun a o _ q => e a o q) (fun a o q => ⟨o, e a o q⟩) (fun a ha => .inl (by rw [ft] at ha; exact ha)) (by rw [ft]; exact h.nd) (fun hB => h.sl.mono hB fun a _ u q => e a u q) (fun hB => ?_) (fun i hi => h.pk i (by simpa using hi))
    refine ⟨⟨v, rfl, ?_⟩, h.tp.mono hB fun a _ u q => e a u q⟩
    rw [ft]; exact r
  | own t o =>
    obtain ⟨rfl, a, rfl, na, oa⟩ := r
    have ft : tot σ (.ref a :: vs) ρ (.own 0 o :: cs) = a :: tot σ vs ρ cs := rfl
    refine h.gen (fun a o _ q => e a o q) (fun a o q => ⟨o, e a o q⟩) (fun b hb => ?_) ?_ (fun hB => h.sl.mono hB fun a _ u q => e a u q) (fun hB => ?_) (fun i hi => h.pk i (by simpa using hi))
    · rw [ft] at hb
      rcases List.mem_cons.mp hb with q | q
      · subst q; exact .inr na
      · exact .inl q
    · rw [ft]
      refine List.nodup_cons.mpr ⟨fun z => ?_, h.nd⟩
      obtain ⟨u, q⟩ := h.there a z
      rw [na] at q; cases q
    · refine ⟨⟨a, rfl, ?_, fun z => absurd rfl z, fun _ => ?_⟩, h.tp.mono hB fun a _ u q => e a u q⟩
      · rw [ft]; exact oa
      · cases z : g.H0 a with
        | none => rfl
        | some o =>
          obtain ⟨o', q⟩ := h.dm a o z
          rw [na] at q; cases q
/-- the heap has grown alone -/
theorem SR.grow (h : SR K g σ vs H ρ cs) (e : Same H H') : SR K g σ vs H' ρ cs :=
  h.gen (fun a o _ q => e a o q) (fun a o q => ⟨o, e a o q⟩) (fun a ha => .inl ha) h.nd (fun hB => h.sl.mono hB fun a _ u q => e a u q) (fun hB => h.tp.mono hB fun a _ u q => e a u q) h.pk
theorem tot_cons {x : V} {c : C} : tot σ (x :: vs) ρ (c :: cs) = footC (some x) c ++ tot σ vs ρ cs := by
  show (footC (some x) c ++ foot (vs.map some) cs) ++ foot σ ρ = _
  rw [List.append_assoc]
/-- the last value is let go -/
theorem SR.pop {x : V} {c : C} (h : SR K g σ (x :: vs) H ρ (c :: cs)) : SR K g σ vs H ρ cs := by
  have ft := tot_cons (σ := σ) (vs := vs) (ρ := ρ) (cs := cs) (x := x) (c := c)
  refine h.gen (fun _ _ _ q => q) (fun _ o q => ⟨o, q⟩) (fun a ha => .inl (by rw [ft]; exact List.mem_append_right _ ha)) ?_ (fun hB => h.sl.mono hB fun _ _ _ q => q) (fun hB => (RCs.mono hB (fun _ _ _ q => q) h.tp).2) (fun i hi => h.pk i (hi.imp (List.mem_cons_of_mem _) (List.mem_cons_of_mem _)))
  have q := h.nd
  rw [ft] at q
  exact (List.nodup_append.mp q).2.1
/-- what is known of the top -/
theorem SR.top {x : V} {d : D} (h : SR K g σ (x :: vs) H ρ (.v d :: cs)) : Dp K (hide H (tot σ vs ρ cs ++ g.P0)) x d := by
  obtain ⟨x', e, q⟩ := h.tp.1
  cases e
  rw [foot_cons_v] at q
  exact q
theorem SR.len (h : SR K g σ vs H ρ cs) : σ.length = ρ.length := h.sl.len
theorem SR.pops : ∀ {xs : List V} {ccs : List C}, xs.length = ccs.length → SR K g σ (xs ++ vs) H ρ (ccs ++ cs) → SR K g σ vs H ρ cs
  | [], [], _, h => h
  | _ :: xs, _ :: ccs, hl, h => SR.pops (xs := xs) (ccs := ccs) (by simpa using hl) h.pop
  | [], _ :: _, hl, _ => by simp at hl
  | _ :: _, [], hl, _ => by simp at hl
theorem tot_app {xs : List V} {ccs : List C} (hl : xs.length = ccs.length) : tot σ (xs ++ vs) ρ (ccs ++ cs) = foot (xs.map some) ccs ++ tot σ vs ρ cs := by
  show foot ((xs ++ vs).map some) (ccs ++ cs) ++ foot σ ρ = _
  rw [List.map_append, foot_app (by simpa using hl), List.append_assoc]
/-- a value below others comes to the top -/
theorem SR.rot {x : V} {c : C} {xs : List V} {ccs : List C} (hl : xs.length = ccs.length) (h : SR K g σ (xs ++ x :: vs) H ρ (ccs ++ c :: cs)) : SR K g σ (x :: (xs ++ vs)) H ρ (c :: (ccs ++ cs)) := by
  have e1 : tot σ (xs ++ x :: vs) ρ (ccs ++ c :: cs) = foot (xs.map some) ccs ++ (footC (some x) c ++ tot σ vs ρ cs) := by rw [tot_app hl, tot_cons]
  have e2 : tot σ (x :: (xs ++ vs)) ρ (c :: (ccs ++ cs)) = footC (some x) c ++ (foot (xs.map some) ccs ++ tot σ vs ρ cs) := by rw [tot_cons, tot_app hl]
  have pm : (foot (xs.map some) ccs ++ (footC (some x) c ++ tot σ vs ρ cs)).Perm (footC (some x) c ++ (foot (xs.map some) ccs ++ tot σ vs ρ cs)) := by
    exact List.perm_append_comm_assoc _ _ _
  refine h.gen (fun _ _ _ q => q) (fun _ o q => ⟨o, q⟩) (fun a ha => .inl ?_) ?_ (fun hB => h.sl.mono hB fun _ _ _ q => q) (fun hB => ?_) (fun i hi => h.pk i ?_)
  · rw [e1]; rw [e2] at ha; exact pm.mem_iff.mpr ha
  · rw [e2]; have q := h.nd; rw [e1] at q; exact pm.nodup_iff.mp q
  · have q := RCs.mono hB (fun _ _ _ q => q) h.tp
    rw [List.map_append] at q
    obtain ⟨q1, q2, q3⟩ := RCs.split (by simpa using hl) q
    rw [List.map_cons, List.map_append]
    exact ⟨q2, q1.app q3⟩
  · simp only [List.mem_append, List.mem_cons] at hi ⊢
    rcases hi with (h1 | h1 | h1) | (h1 | h1 | h1) <;> simp [h1]
theorem SR.unrot {x : V} {c : C} {xs : List V} {ccs : List C} (hl : xs.length = ccs.length) (h : SR K g σ (x :: (xs ++ vs)) H ρ (c :: (ccs ++ cs))) : SR K g σ (xs ++ x :: vs) H ρ (ccs ++ c :: cs) := by
  have e1 : tot σ (xs ++ x :: vs) ρ (ccs ++ c :: cs) = foot (xs.map some) ccs ++ (footC (some x) c ++ tot σ vs ρ cs) := by rw [tot_app hl, tot_cons]
  have e2 : tot σ (x :: (xs ++ vs)) ρ (c :: (ccs ++ cs)) = footC (some x) c ++ (foot (xs.map some) ccs ++ tot σ vs ρ cs) := by rw [tot_cons, tot_app hl]
  have pm : (foot (xs.map some) ccs ++ (footC (some x) c ++ tot σ vs ρ cs)).Perm (footC (some x) c ++ (foot (xs.map some) ccs ++ tot σ vs ρ cs)) := by
    exact List.perm_append_comm_assoc _ _ _
  refine h.gen (fun _ _ _ q => q) (fun _ o q => ⟨o, q⟩) (fun a ha => .inl ?_) ?_ (fun hB => h.sl.mono hB fun _ _ _ q => q) (fun hB => ?_) (fun i hi => h.pk i ?_)
  · rw [e2]; rw [e1] at ha; exact pm.mem_iff.mp ha
  · rw [e1]; have q := h.nd; rw [e2] at q; exact pm.nodup_iff.mpr q
  · have q := RCs.mono hB (fun _ _ _ q => q) h.tp
    rw [List.map_cons, List.map_append] at q
    obtain ⟨q2, q1⟩ := q
    obtain ⟨q1, q3⟩ := RCs.split (by simpa using hl) q1
    rw [List.map_append, List.map_cons]
    exact q1.app ⟨q2, q3⟩
  · simp only [List.mem_append, List.mem_cons] at hi ⊢
    rcases hi with (h1 | h1 | h1) | (h1 | h1 | h1) <;> simp [h1]
end

/-! ### slots -/
@[reducible] def rget : Rho → Nat → C
  | [], _ => .no
  | c :: _, 0 => c
  | _ :: ρ, n + 1 => rget ρ n
@[reducible] def rset : Rho → Nat → C → Rho
  | [], _, _ => []
  | _ :: ρ, 0, c => c :: ρ
  | c' :: ρ, n + 1, c => c' :: rset ρ n c
@[simp] theorem rget_zero {c : C} {ρ : Rho} : rget (c :: ρ) 0 = c := rfl
@[simp] theorem rget_succ {c : C} {ρ : Rho} {n : Nat} : rget (c :: ρ) (n + 1) = rget ρ n := rfl
@[simp] theorem rset_zero {c c' : C} {ρ : Rho} : rset (c' :: ρ) 0 c = c :: ρ := rfl
@[simp] theorem rset_succ {c c' : C} {ρ : Rho} {n : Nat} : rset (c' :: ρ) (n + 1) c = c' :: rset ρ n c := rfl
/-- the data of a passing value -/
@[reducible] def dat (ρ : Rho) : C → Option D
  | .v d => some d
  | .own _ (.lst ds) => some (.list ds)
  | .ln i => match rget ρ i with
    | .own _ (.lst ds) => some (.list ds)
    | .v d => some d
    | _ => none
  | _ => none
/-- data without lists -/
@[reducible] def lfree : D → Bool
  | .list _ => false
  | .dict _ => false
  | .tuple ds => lfreeAll ds
  | _ => true
where lfreeAll : List D → Bool
  | [] => true
  | d :: ds => lfree d && lfreeAll ds
@[reducible] def C.lf : C → Bool
  | .v d => lfree d
  | .own _ (.lst ds) => lfree.lfreeAll ds
  | _ => false
section
variable {K : PySem.W.Frag} {g : G} {σ σ' : L2.St} {vs vs' : List V} {B B' H H' : Hp} {ρ ρ' : Rho} {cs cs' : List C}
theorem seqT_lf {A O : List Addr} (hA : ∀ a ∈ A, ∃ xs, H a = some (.lst xs)) {a : Addr} {xs : List V} (h : SqT K (hide H O) a xs) : SqT K (hide H (A ++ O)) a xs := by
  rcases h with (h | ⟨o, h⟩) | h
  · obtain ⟨h1, h2⟩ := hide_some.mp h
    refine .inl (.inl (hide_some.mpr ⟨fun z => ?_, h2⟩))
    rcases List.mem_append.mp z with z | z
    · obtain ⟨ys, e⟩ := hA a z
      rw [h2] at e; cases e
    · exact h1 z
  · obtain ⟨h1, h2⟩ := hide_some.mp h
    refine .inl (.inr ⟨o, hide_some.mpr ⟨fun z => ?_, h2⟩⟩)
    rcases List.mem_append.mp z with z | z
    · obtain ⟨ys, e⟩ := hA a z
      rw [h2] at e; cases e
    · exact h1 z
  · exact .inr h
mutual
theorem dp_lf {A O : List Addr} (hA : ∀ a ∈ A, ∃ xs, H a = some (.lst xs)) : ∀ (d : D) (v : V), lfree d = true → Dp K (hide H O) v d → Dp K (hide H (A ++ O)) v d
  | .none, _, _, h => by cases h; exact .non
  | .bool b, _, _, h => by cases h; exact .bl b
  | .int i, _, _, h => by cases h; exact .int i
  | .str x, _, _, h => by cases h; exact .str x
  | .list ds, _, q, _ => by simp [lfree] at q
  | .tuple ds, _, q, h => by
    cases h with
    | tup hs ha => exact .tup (seqT_lf hA hs) (dpAll_lf hA ds _ (by simpa [lfree] using q) ha)
  | .dict _, _, _, h => by cases h
theorem dpAll_lf {A O : List Addr} (hA : ∀ a ∈ A, ∃ xs, H a = some (.lst xs)) : ∀ (ds : List D) (vs : List V), lfree.lfreeAll ds = true → DpAll K (hide H O) vs ds → DpAll K (hide H (A ++ O)) vs ds
  | [], _, _, h => by cases h; exact .nil
  | d :: ds, _, q, h => by
    have q' : lfree d = true ∧ lfree.lfreeAll ds = true := by simpa [lfree.lfreeAll] using q
    cases h with
    | cons h1 h2 => exact .cons (dp_lf hA d _ q'.1 h1) (dpAll_lf hA ds _ q'.2 h2)
end
theorem NewRes.lent {A O : List Addr} {v : V} {c : C} (hA : ∀ a ∈ A, ∃ xs, H a = some (.lst xs)) (e : Same H H') (hc : c.lf = true) (r : NewRes K O H H' v c) : NewRes K (A ++ O) H H' v c := by
  have hA' : ∀ a ∈ A, ∃ xs, H' a = some (.lst xs) := fun a ha => let ⟨xs, q⟩ := hA a ha; ⟨xs, e _ _ q⟩
  cases c with
  | v d => exact dp_lf hA' d v hc r
  | own t o =>
    obtain ⟨h0, a, e1, na, oa⟩ := r
    refine ⟨h0, a, e1, na, ?_⟩
    cases o with
    | dct _ => cases hc
    | lst ds =>
      obtain ⟨xs, h1, h2⟩ := oa
      refine ⟨xs, h1, ?_⟩
      have q := dpAll_lf hA' ds xs hc h2
      have e2 : hide H' (A ++ a :: O) = hide H' (a :: (A ++ O)) := hide_congr fun b => by
        simp only [List.mem_append, List.mem_cons]
        constructor
        · rintro (z | z | z) <;> simp [z]
        · rintro (z | z | z) <;> simp [z]
      rw [e2] at q
      exact q
  | no => exact r
  | pk i => exact r
  | ln i => exact r
theorem NewRes.congr {O O' : List Addr} {v : V} {c : C} (h : ∀ a, a ∈ O ↔ a ∈ O') (r : NewRes K O H H' v c) : NewRes K O' H H' v c := by
  cases c with
  | v d =>
    show Dp K (hide H' O') v d
    rw [← hide_congr h]; exact r
  | own t o =>
    obtain ⟨h0, a, e1, na, oa⟩ := r
    refine ⟨h0, a, e1, na, ?_⟩
    rw [← hide_congr (O := a :: O) (fun b => by simp [h b])]; exact oa
  | no => exact r
  | pk i => exact r
  | ln i => exact r
/-- a slot by its number -/
theorem RCs.at_ : ∀ {σ0 : List (Option V)} {ρ : Rho} {i : Nat}, RCs K g σ B H σ0 ρ → rget ρ i ≠ .no → ∃ ov, σ0[i]? = some ov ∧ RC K g σ B H ov (rget ρ i)
  | [], [], i, _, h => absurd rfl h
  | ov :: σ0, c :: ρ, 0, h, _ => ⟨ov, rfl, h.1⟩
  | ov :: σ0, c :: ρ, i + 1, h, hn => by
    obtain ⟨ov', e, q⟩ := RCs.at_ (i := i) h.2 hn
    exact ⟨ov', by simpa using e, q⟩
  | [], _ :: _, _, h, _ => h.elim
  | _ :: _, [], _, h, _ => h.elim
theorem foot_at : ∀ {σ0 : List (Option V)} {ρ : Rho} {i : Nat} {a : Addr} {t : Nat} {o : OD}, σ0[i]? = some (some (.ref a)) → rget ρ i = .own t o → a ∈ foot σ0 ρ
  | [], _, i, _, _, _, h, _ => by simp at h
  | ov :: σ0, [], i, _, _, _, _, h => by cases h
  | ov :: σ0, c :: ρ, 0, a, t, o, h1, h2 => by
    have e1 : ov = some (.ref a) := by simpa using h1
    have e2 : c = .own t o := h2
    subst e1; subst e2
    show a ∈ [a] ++ foot σ0 ρ
    simp
  | ov :: σ0, c :: ρ, i + 1, a, t, o, h1, h2 => by
    show a ∈ footC ov c ++ foot σ0 ρ
    exact List.mem_append_right _ (foot_at (i := i) (by simpa using h1) h2)
/-- an own slot -/
theorem SR.own {i t : Nat} {o : OD} (h : SR K g σ vs H ρ cs) (e : rget ρ i = .own t o) : ∃ a, σ[i]? = some (some (.ref a)) ∧ a ∈ foot σ ρ ∧ OwnAt K (hide H (tot σ vs ρ cs ++ g.P0)) H a o ∧ (t ≠ 0 → g.tg t = a) ∧ (t = 0 → g.H0 a = none) := by
  obtain ⟨ov, e1, q⟩ := h.sl.at_ (i := i) (by rw [e]; exact fun z => nomatch z)
  rw [e] at q
  obtain ⟨a, e2, q1, q2⟩ := q
  subst e2
  exact ⟨a, e1, foot_at e1 e, q1, q2⟩
theorem SR.slot {i : Nat} {d : D} (h : SR K g σ vs H ρ cs) (e : rget ρ i = .v d) : ∃ x, σ[i]? = some (some x) ∧ Dp K (hide H (tot σ vs ρ cs ++ g.P0)) x d := by
  obtain ⟨ov, e1, q⟩ := h.sl.at_ (i := i) (by rw [e]; exact fun z => nomatch z)
  rw [e] at q
  obtain ⟨x, e2, q1⟩ := q
  subst e2
  exact ⟨x, e1, q1⟩
/-- what the lent slots hold -/
def lentA (σ : L2.St) (ρ : Rho) : List C → List Addr
  | [] => []
  | .ln i :: cs => (match σ[i]?, rget ρ i with
    | some (some (.ref a)), .own _ (.lst _) => [a]
    | _, _ => []) ++ lentA σ ρ cs
  | _ :: cs => lentA σ ρ cs
theorem lentA_mem : ∀ {ccs : List C} {a : Addr}, a ∈ lentA σ ρ ccs → ∃ i t ds, C.ln i ∈ ccs ∧ σ[i]? = some (some (.ref a)) ∧ rget ρ i = .own t (.lst ds)
  | [], a, h => by simp [lentA] at h
  | c :: ccs, a, h => by
    have rec_ : a ∈ lentA σ ρ ccs → ∃ i t ds, C.ln i ∈ c :: ccs ∧ σ[i]? = some (some (.ref a)) ∧ rget ρ i = .own t (.lst ds) := fun z => by
      obtain ⟨i, t, ds, h1, h2⟩ := lentA_mem z
      exact ⟨i, t, ds, List.mem_cons_of_mem _ h1, h2⟩
    cases c with
    | ln i =>
      rw [lentA, List.mem_append] at h
      rcases h with h | h
      · revert h
        split
        · rename_i b t ds e1 e2
          intro h
          have e3 : a = b := by simpa using h
          subst e3
          exact ⟨i, t, ds, List.mem_cons_self, e1, e2⟩
        · intro h; simp at h
      · exact rec_ h
    | no => exact rec_ h
    | v d => exact rec_ h
    | own t o => exact rec_ h
    | pk i => exact rec_ h
theorem mem_lentA : ∀ {ccs : List C} {a : Addr} {i t : Nat} {ds : List D}, C.ln i ∈ ccs → σ[i]? = some (some (.ref a)) → rget ρ i = .own t (.lst ds) → a ∈ lentA σ ρ ccs
  | [], _, _, _, _, h, _, _ => by simp at h
  | c :: ccs, a, i, t, ds, h, h1, h2 => by
    rcases List.mem_cons.mp h with e | h
    · subst e
      rw [lentA, h1, h2]
      simp
    · have q := mem_lentA h h1 h2
      cases c with
      | ln j => rw [lentA]; exact List.mem_append_right _ q
      | no => exact q
      | v d => exact q
      | own t o => exact q
      | pk i => exact q
@[reducible] def C.isLn : C → Bool
  | .ln _ => true
  | _ => false
theorem lentA_none : ∀ {ccs : List C}, ccs.any C.isLn = false → lentA σ ρ ccs = []
  | [], _ => rfl
  | c :: ccs, h => by
    have h' : c.isLn = false ∧ ccs.any C.isLn = false := by simpa using h
    have r := lentA_none h'.2
    cases c with
    | ln i => simp [C.isLn] at h'
    | no => exact r
    | v d => exact r
    | own t o => exact r
    | pk i => exact r
def dats (ρ : Rho) : List C → Option (List D)
  | [] => some []
  | c :: cs => match dat ρ c, dats ρ cs with
    | some d, some ds => some (d :: ds)
    | _, _ => none
/-- the operands of a rule: data, fresh lists, lent lists -/
theorem SR.use {xs : List V} {ccs : List C} {ds : List D} (h : SR K g σ (xs ++ vs) H ρ (ccs ++ cs)) (hl : xs.length = ccs.length) (hd : dats ρ ccs = some ds) :
    ∃ O, (∀ a ∈ O, a ∈ tot σ vs ρ cs ++ g.P0) ∧ DpAll K (hide H O) xs ds ∧ ∀ H' v c, Same H H' → NewRes K O H H' v c → (ccs.any C.isLn = true → c.lf = true) → NewRes K (tot σ vs ρ cs ++ g.P0) H H' v c := by
  refine ⟨(tot σ vs ρ cs ++ g.P0).filter fun a => decide (a ∉ lentA σ ρ ccs), fun a ha => (List.mem_filter.mp ha).1, ?_, fun H' v c e r hc => ?_⟩
  · -- every operand reads as its data
    have big : ∀ a, a ∈ (tot σ vs ρ cs ++ g.P0).filter (fun a => decide (a ∉ lentA σ ρ ccs)) → a ∈ tot σ (xs ++ vs) ρ (ccs ++ cs) ++ g.P0 := fun a ha => by
      rw [tot_app hl]
      rcases List.mem_append.mp (List.mem_filter.mp ha).1 with q | q
      · exact List.mem_append_left _ (List.mem_append_right _ q)
      · exact List.mem_append_right _ q
    have up : Same (hide H (tot σ (xs ++ vs) ρ (ccs ++ cs) ++ g.P0)) (hide H ((tot σ vs ρ cs ++ g.P0).filter fun a => decide (a ∉ lentA σ ρ ccs))) := fun a o q => by
      obtain ⟨h1, h2⟩ := hide_some.mp q
      exact hide_some.mpr ⟨fun z => h1 (big a z), h2⟩
    have tp := h.tp
    rw [List.map_append] at tp
    have tp1 := (RCs.split (by simpa using hl) tp).1
    have nd := h.nd
    rw [tot_app hl] at nd
    have key : ∀ (ys : List V) (qs : List C) (es : List D), ys.length = qs.length → (∀ c ∈ qs, c ∈ ccs) → (∀ a ∈ foot (ys.map some) qs, a ∈ foot (xs.map some) ccs) → RCs K g σ (hide H (tot σ (xs ++ vs) ρ (ccs ++ cs) ++ g.P0)) H (ys.map some) qs → dats ρ qs = some es →
        DpAll K (hide H ((tot σ vs ρ cs ++ g.P0).filter fun a => decide (a ∉ lentA σ ρ ccs))) ys es := by
      intro ys
      induction ys with
      | nil =>
        intro qs es hlen _ _ _ hds
        cases qs with
        | nil => cases hds; exact .nil
        | cons _ _ => simp at hlen
      | cons y ys ih =>
        intro qs es hlen hin hft hrc hds
        cases qs with
        | nil => simp at hlen
        | cons q qs =>
          rw [dats] at hds
          cases e1 : dat ρ q with
          | none => rw [e1] at hds; cases hds
          | some d =>
            cases e2 : dats ρ qs with
            | none => rw [e1, e2] at hds; cases hds
            | some es' =>
              rw [e1, e2] at hds
              cases hds
              refine .cons ?_ (ih qs es' (by simpa using hlen) (fun c hc => hin c (List.mem_cons_of_mem _ hc)) (fun a ha => hft a (by rw [List.map_cons, foot]; exact List.mem_append_right _ ha)) hrc.2 e2)
              have hq := hrc.1
              cases q with
              | no => cases e1
              | pk i => cases e1
              | v d' =>
                cases e1
                obtain ⟨x, e3, q1⟩ := hq
                cases e3
                exact dp_mono up _ _ q1
              | own t o =>
                cases o with
                | dct _ => cases e1
                | lst zs =>
                  cases e1
                  obtain ⟨a, e3, ⟨us, q1, q2⟩, _⟩ := hq
                  cases e3
                  have ha : a ∈ foot (xs.map some) ccs := hft a (by rw [List.map_cons, foot]; exact List.mem_append_left _ (by simp [footC]))
                  refine .lst (.inl (.inl (hide_some.mpr ⟨fun z => ?_, q1⟩))) (dpAll_mono up _ _ q2)
                  rcases List.mem_append.mp (List.mem_filter.mp z).1 with z | z
                  · exact (List.nodup_append.mp nd).2.2 a ha a z rfl
                  · exact h.pout a (by rw [tot_app hl]; exact List.mem_append_left _ ha) z
              | ln i =>
                obtain ⟨x, e3, q1⟩ := hq
                cases e3
                have hin' := hin (.ln i) List.mem_cons_self
                revert e1
                show (match rget ρ i with
                  | .own _ (.lst ds) => some (PyData.list ds)
                  | .v d => some d
                  | _ => none) = some d → _
                split
                · rename_i t zs eo
                  intro e1
                  cases e1
                  obtain ⟨a, e4, _, ⟨us, q2, q3⟩, _⟩ := h.own eo
                  rw [q1] at e4
                  cases e4
                  refine .lst (.inl (.inl (hide_some.mpr ⟨fun z => ?_, q2⟩))) (dpAll_mono up _ _ q3)
                  exact of_decide_eq_true (List.mem_filter.mp z).2 (mem_lentA hin' q1 eo)
                · rename_i d' eo
                  intro e1
                  cases e1
                  obtain ⟨x', e4, q2⟩ := h.slot eo
                  rw [q1] at e4
                  cases e4
                  exact dp_mono up _ _ q2
                · intro e1; cases e1
    exact key xs ccs ds hl (fun _ q => q) (fun _ q => q) tp1 hd
  · -- the answer
    cases hb : ccs.any C.isLn with
    | false =>
      have e0 := lentA_none (σ := σ) (ρ := ρ) hb
      refine r.congr fun a => ?_
      rw [e0]
      simp
    | true =>
      have hlst : ∀ a ∈ lentA σ ρ ccs, ∃ xs, H a = some (.lst xs) := fun a ha => by
        obtain ⟨i, t, zs, h1, h2, h3⟩ := lentA_mem ha
        obtain ⟨b, e4, _, ⟨us, q2, _⟩, _⟩ := h.own h3
        rw [h2] at e4
        cases e4
        exact ⟨us, q2⟩
      refine (NewRes.lent hlst e (hc hb) r).congr fun a => ?_
      simp only [List.mem_append, List.mem_filter, decide_not, Bool.not_eq_true', decide_eq_false_iff_not]
      constructor
      · rintro (q | ⟨q, _⟩)
        · obtain ⟨i, t, zs, h1, h2, h3⟩ := lentA_mem q
          obtain ⟨b, e4, q5, _⟩ := h.own h3
          rw [h2] at e4
          cases e4
          exact .inl (.inr q5)
        · exact q
      · intro q
        by_cases z : a ∈ lentA σ ρ ccs
        · exact .inl z
        · exact .inr ⟨q, z⟩
end
end DL

set_option Elab.async false
set_option linter.all false
set_option maxRecDepth 100000
set_option maxHeartbeats 4000000
/-! DL, expressions: each rule of the hand layer, said over data. -/
namespace DL
open PySem PySem.Spec PyProof.Rows L2

/-- an exception: its class, its fields -/
structure XD where
  cls : Str
  fs : List (Str × D)
abbrev KC := C → Rho → Prop
abbrev KX := XD → Rho → Prop
abbrev WE := Rho → KC → KX → Prop
abbrev WT := Rho → (Bool → Rho → Prop) → KX → Prop
abbrev WA := Rho → (List C → Rho → Prop) → KX → Prop
def XFs (K : PySem.W.Frag) (B : Hp) : List (Str × V) → List (Str × D) → Prop
  | [], [] => True
  | p :: ps, q :: qs => p.1 = q.1 ∧ Dp K B p.2 q.2 ∧ XFs K B ps qs
  | _, _ => False
/-- how an exception lies -/
def XRep (K : PySem.W.Frag) (B H : Hp) (x : XD) (cls : Value) (d : Option Addr) : Prop :=
  Value.ref (He.ga K x.cls) = cls ∧ ((d = none ∧ x.fs = []) ∨ ∃ a fs, d = some a ∧ H a = some (.xd fs) ∧ XFs K B fs x.fs)
/-- what is wanted of exceptions, over data, is enough -/
def XEnds (K : PySem.W.Frag) (g : G) (W : WX) (σ : L2.St) (ED : KX) : Prop :=
  ∀ x ρ' cls d H', SR K g σ [] H' ρ' [] → XRep K (hide H' (tot σ [] ρ' [] ++ g.P0)) H' x cls d → ED x ρ' → W cls d σ H'
def Sem (K : PySem.W.Frag) (g : G) (W : WX) (t : TE) (w : WE) : Prop :=
  ∀ (σ : L2.St) (vs : List V) (H : Hp) (ρ : Rho) (cs : List C) (QD : KC) (ED : KX) (Q : VK), SR K g σ vs H ρ cs → w ρ QD ED → XEnds K g W σ ED →
    (∀ v H' c ρ', SR K g σ (v :: vs) H' ρ' (c :: cs) → QD c ρ' → Q v H') → t σ H Q
def SemT (K : PySem.W.Frag) (g : G) (W : WX) (t : TT) (w : WT) : Prop :=
  ∀ (σ : L2.St) (vs : List V) (H : Hp) (ρ : Rho) (cs : List C) (QD : Bool → Rho → Prop) (ED : KX) (Q : Bool → Hp → Prop), SR K g σ vs H ρ cs → w ρ QD ED → XEnds K g W σ ED →
    (∀ b H' ρ', SR K g σ vs H' ρ' cs → QD b ρ' → Q b H') → t σ H Q
def SemA (K : PySem.W.Frag) (g : G) (W : WX) (t : TA) (w : WA) : Prop :=
  ∀ (σ : L2.St) (vs : List V) (H : Hp) (ρ : Rho) (cs : List C) (QD : List C → Rho → Prop) (ED : KX) (Q : List V → Hp → Prop), SR K g σ vs H ρ cs → w ρ QD ED → XEnds K g W σ ED →
    (∀ xs H' ccs ρ', xs.length = ccs.length → SR K g σ (xs ++ vs) H' ρ' (ccs ++ cs) → QD ccs ρ' → Q xs H') → t σ H Q
structure EE (X : Cx) (g : G) (W : WX) (e : Expr) (w : WE) : Prop where
  ex : ∃ t, PE X e t ∧ Sem X.K g W t w
structure ET (X : Cx) (g : G) (W : WX) (e : Expr) (w : WT) : Prop where
  ex : ∃ t, PT X e t ∧ SemT X.K g W t w
structure EW (X : Cx) (g : G) (W : WX) (e : Expr) (w : WT) : Prop where
  ex : ∃ t, PW X e t ∧ SemT X.K g W t w
structure EA (X : Cx) (g : G) (W : WX) (es : List Expr) (w : WA) : Prop where
  ex : ∃ t, PA X es t ∧ SemA X.K g W t w

/-- the operands' data -/
@[reducible] def useK (ρ : Rho) : List C → (List D → Prop) → Prop
  | [], k => k []
  | c :: cs, k => match dat ρ c with
    | some d => useK ρ cs fun ds => k (d :: ds)
    | none => False
theorem useK_dats {ρ : Rho} : ∀ {cs : List C} {k : List D → Prop}, useK ρ cs k → ∃ ds, dats ρ cs = some ds ∧ k ds
  | [], k, h => ⟨[], rfl, h⟩
  | c :: cs, k, h => by
    unfold useK at h
    cases e : dat ρ c with
    | none => rw [e] at h; exact h.elim
    | some d =>
      rw [e] at h
      obtain ⟨ds, e2, q⟩ := useK_dats h
      refine ⟨d :: ds, ?_, q⟩
      unfold dats
      rw [e, e2]
@[reducible] def okR (cs : List C) (c : C) : Prop := cs.any C.isLn = true → c.lf = true
/-- a rule of two operands, over data -/
abbrev O2 := D → D → (C → Prop) → Prop
abbrev O1 := D → (C → Prop) → Prop
abbrev OL := List D → (C → Prop) → Prop
def Lift2 (K : PySem.W.Frag) (r : R2) (o : O2) : Prop :=
  ∀ (O : List Addr) (H : Hp) (x y : V) (dx dy : D) (QD : C → Prop) (Q : VK), (∀ a ∈ O, ∃ u, H a = some u) → Dp K (hide H O) x dx → Dp K (hide H O) y dy → o dx dy QD →
    (∀ v H' c, Same H H' → NewRes K O H H' v c → QD c → Q v H') → r x y H Q
def Lift1 (K : PySem.W.Frag) (r : V → Hp → VK → Prop) (o : O1) : Prop :=
  ∀ (O : List Addr) (H : Hp) (x : V) (dx : D) (QD : C → Prop) (Q : VK), (∀ a ∈ O, ∃ u, H a = some u) → Dp K (hide H O) x dx → o dx QD →
    (∀ v H' c, Same H H' → NewRes K O H H' v c → QD c → Q v H') → r x H Q
def LiftL (K : PySem.W.Frag) (r : List V → Hp → VK → Prop) (o : OL) : Prop :=
  ∀ (O : List Addr) (H : Hp) (xs : List V) (ds : List D) (QD : C → Prop) (Q : VK), (∀ a ∈ O, ∃ u, H a = some u) → DpAll K (hide H O) xs ds → o ds QD →
    (∀ v H' c, Same H H' → NewRes K O H H' v c → QD c → Q v H') → r xs H Q
@[reducible] def use2 (ρ : Rho) (c1 c2 : C) (o : O2) (Q : KC) : Prop := useK ρ [c2, c1] fun ds => match ds with
  | [d2, d1] => o d1 d2 fun c => okR [c2, c1] c ∧ Q c ρ
  | _ => False
@[reducible] def use1 (ρ : Rho) (c1 : C) (o : O1) (Q : KC) : Prop := useK ρ [c1] fun ds => match ds with
  | [d1] => o d1 fun c => okR [c1] c ∧ Q c ρ
  | _ => False
@[reducible] def useL (ρ : Rho) (cs : List C) (o : OL) (Q : KC) : Prop := useK ρ cs fun ds => o ds fun c => okR cs c ∧ Q c ρ

section
variable {K : PySem.W.Frag} {g : G} {W : WX} {σ : L2.St} {vs : List V} {H H' : Hp} {ρ : Rho} {cs : List C}
theorem SR.resV {v : V} {d : D} (h : SR K g σ vs H ρ cs) (e : Same H H') (r : Dp K (hide H' (tot σ vs ρ cs ++ g.P0)) v d) : SR K g σ (v :: vs) H' ρ (.v d :: cs) := SR.res (c := .v d) h e r
theorem SR.use2 {x y : V} {c1 c2 : C} {o : O2} {r : R2} {QD : KC} {Q : VK} (l : Lift2 K r o) (h : SR K g σ (y :: x :: vs) H ρ (c2 :: c1 :: cs)) (q : DL.use2 ρ c1 c2 o QD)
    (hQ : ∀ v H' c, SR K g σ (v :: vs) H' ρ (c :: cs) → QD c ρ → Q v H') : r x y H Q := by
  obtain ⟨ds, e, q⟩ := useK_dats q
  obtain ⟨O, hO, hd, fin⟩ := SR.use (xs := [y, x]) (ccs := [c2, c1]) h rfl e
  cases hd with
  | cons h2 hd =>
    cases hd with
    | cons h1 hd =>
      cases hd
      refine l O H x y _ _ _ Q (fun a ha => (SR.pops (xs := [y, x]) (ccs := [c2, c1]) rfl h).domO a (hO a ha)) h1 h2 q fun v H' c sm nr ⟨ok, qd⟩ => ?_
      exact hQ v H' c (SR.res (SR.pops (xs := [y, x]) (ccs := [c2, c1]) rfl h) sm (fin H' v c sm nr ok)) qd
theorem SR.use1 {x : V} {c1 : C} {o : O1} {r : V → Hp → VK → Prop} {QD : KC} {Q : VK} (l : Lift1 K r o) (h : SR K g σ (x :: vs) H ρ (c1 :: cs)) (q : DL.use1 ρ c1 o QD)
    (hQ : ∀ v H' c, SR K g σ (v :: vs) H' ρ (c :: cs) → QD c ρ → Q v H') : r x H Q := by
  obtain ⟨ds, e, q⟩ := useK_dats q
  obtain ⟨O, hO, hd, fin⟩ := SR.use (xs := [x]) (ccs := [c1]) h rfl e
  cases hd with
  | cons h1 hd =>
    cases hd
    refine l O H x _ _ Q (fun a ha => (SR.pops (xs := [x]) (ccs := [c1]) rfl h).domO a (hO a ha)) h1 q fun v H' c sm nr ⟨ok, qd⟩ => ?_
    exact hQ v H' c (SR.res (SR.pops (xs := [x]) (ccs := [c1]) rfl h) sm (fin H' v c sm nr ok)) qd
theorem SR.useL {xs : List V} {ccs : List C} {o : OL} {r : List V → Hp → VK → Prop} {QD : KC} {Q : VK} (l : LiftL K r o) (hl : xs.length = ccs.length) (h : SR K g σ (xs ++ vs) H ρ (ccs ++ cs)) (q : DL.useL ρ ccs o QD)
    (hQ : ∀ v H' c, SR K g σ (v :: vs) H' ρ (c :: cs) → QD c ρ → Q v H') : r xs H Q := by
  obtain ⟨ds, e, q⟩ := useK_dats q
  obtain ⟨O, hO, hd, fin⟩ := SR.use h hl e
  refine l O H xs ds _ Q (fun a ha => (SR.pops hl h).domO a (hO a ha)) hd q fun v H' c sm nr ⟨ok, qd⟩ => ?_
  exact hQ v H' c (SR.res (SR.pops hl h) sm (fin H' v c sm nr ok)) qd
end

/-! ### names, constants -/
@[reducible] def wVar (i : Nat) : WE := fun ρ Q _ => match rget ρ i with
  | .v d => Q (.v d) ρ
  | _ => False
@[reducible] def wLn (i : Nat) : WE := fun ρ Q _ => match rget ρ i with
  | .v d => Q (.v d) ρ
  | .own _ _ => Q (.ln i) ρ
  | _ => False
@[reducible] def wC (d : D) : WE := fun ρ Q _ => Q (.v d) ρ
section
variable {X : Cx} {g : G} {W : WX} {pos : Pos}
theorem sem_var {K : PySem.W.Frag} {i : Nat} : Sem K g W (tVar i) (wVar i) := by
  intro σ vs H ρ cs QD ED Q hS hw hX hQ
  unfold wVar at hw
  split at hw
  · rename_i d e
    obtain ⟨x, e1, q1⟩ := hS.slot e
    exact ⟨x, e1, hQ x H _ ρ (SR.resV hS (Same.refl H) q1) hw⟩
  · exact hw.elim
theorem ee_var {i : Nat} {x : Str} (h : PE X (.Name x pos) (tVar i)) : EE X g W (.Name x pos) (wVar i) := ⟨_, h, sem_var⟩
theorem SR.pushLn {K : PySem.W.Frag} {σ : L2.St} {vs : List V} {H : Hp} {ρ : Rho} {cs : List C} {i : Nat} {x : V} (h : SR K g σ vs H ρ cs) (e : σ[i]? = some (some x)) (hL : g.L i = true) : SR K g σ (x :: vs) H ρ (.ln i :: cs) := by
  have ft : tot σ (x :: vs) ρ (.ln i :: cs) = tot σ vs ρ cs := by
    rw [tot_cons]
    have e : footC (some x) (.ln i) = [] := by cases x <;> rfl
    rw [e]; rfl
  refine h.gen (fun _ _ _ q => q) (fun _ o q => ⟨o, q⟩) (fun a ha => .inl (by rw [ft] at ha; exact ha)) (by rw [ft]; exact h.nd) (fun hB => h.sl.mono hB fun _ _ _ q => q) (fun hB => ⟨⟨x, rfl, e⟩, h.tp.mono hB fun _ _ _ q => q⟩) (fun j hj => ?_)
  simp only [List.mem_cons] at hj
  rcases hj with (z | z) | (z | z)
  · cases z
  · exact h.pk j (.inl z)
  · cases z; exact hL
  · exact h.pk j (.inr z)
theorem SR.pushPk {K : PySem.W.Frag} {σ : L2.St} {vs : List V} {H : Hp} {ρ : Rho} {cs : List C} {i : Nat} {x : V} (h : SR K g σ vs H ρ cs) (e : σ[i]? = some (some x)) (hL : g.L i = true) : SR K g σ (x :: vs) H ρ (.pk i :: cs) := by
  have ft : tot σ (x :: vs) ρ (.pk i :: cs) = tot σ vs ρ cs := foot_cons_pk
  refine h.gen (fun _ _ _ q => q) (fun _ o q => ⟨o, q⟩) (fun a ha => .inl (by rw [ft] at ha; exact ha)) (by rw [ft]; exact h.nd) (fun hB => h.sl.mono hB fun _ _ _ q => q) (fun hB => ⟨⟨x, rfl, e⟩, h.tp.mono hB fun _ _ _ q => q⟩) (fun j hj => ?_)
  simp only [List.mem_cons] at hj
  rcases hj with (z | z) | (z | z)
  · cases z; exact hL
  · exact h.pk j (.inl z)
  · cases z
  · exact h.pk j (.inr z)
theorem sem_ln {K : PySem.W.Frag} {i : Nat} (hL : g.L i = true) : Sem K g W (tVar i) (wLn i) := by
  intro σ vs H ρ cs QD ED Q hS hw hX hQ
  unfold wLn at hw
  split at hw
  · rename_i d e
    obtain ⟨x, e1, q1⟩ := hS.slot e
    exact ⟨x, e1, hQ x H _ ρ (SR.resV hS (Same.refl H) q1) hw⟩
  · rename_i t o e
    obtain ⟨a, e1, _⟩ := hS.own e
    exact ⟨_, e1, hQ _ H _ ρ (hS.pushLn e1 hL) hw⟩
  · exact hw.elim
/-- an own list or dict of the slot, read by the rule that takes it -/
theorem ee_ln {i : Nat} {x : Str} (hL : g.L i = true) (h : PE X (.Name x pos) (tVar i)) : EE X g W (.Name x pos) (wLn i) := ⟨_, h, sem_ln hL⟩
theorem sem_C {K : PySem.W.Frag} {v : V} {d : D} (h : ∀ B, Dp K B v d) : Sem K g W (tC v) (wC d) := fun σ vs H ρ cs QD ED Q hS hw hX hQ => hQ v H _ ρ (SR.resV hS (Same.refl H) (h _)) hw
theorem ee_int {i j} : EE X g W (.Constant (.int i) j pos) (wC (.int i)) := ⟨_, pe_int, sem_C fun _ => .int i⟩
theorem ee_bl {b j} : EE X g W (.Constant (.bool b) j pos) (wC (.bool b)) := ⟨_, pe_bl, sem_C fun _ => .bl b⟩
theorem ee_non {j} : EE X g W (.Constant .none j pos) (wC .none) := ⟨_, pe_non, sem_C fun _ => .non⟩
theorem ee_str {x j} : EE X g W (.Constant (.str x) j pos) (wC (.str x)) := ⟨_, pe_str, sem_C fun _ => .str x⟩
theorem ee_gint {i : Int} {x : Str} {t : Tok} (hg : Gl X x) (hm : X.mg x = some (.int i t)) (hd : (x == ("__debug__" : Str)) = false := by decide) : EE X g W (.Name x pos) (wC (.int i)) := ⟨_, pe_glob (v := .int i) hg hm ⟨_, rfl⟩ hd, sem_C fun _ => .int i⟩
theorem ee_gstr {z x : Str} {t : Tok} (hg : Gl X x) (hm : X.mg x = some (.str z t)) (hd : (x == ("__debug__" : Str)) = false := by decide) : EE X g W (.Name x pos) (wC (.str z)) := ⟨_, pe_glob (v := .str z) hg hm ⟨_, rfl⟩ hd, sem_C fun _ => .str z⟩
end

/-! ### operators -/
@[reducible] def wB (o : O2) (wa wb : WE) : WE := fun ρ Q E => wa ρ (fun c1 ρ1 => wb ρ1 (fun c2 ρ2 => use2 ρ2 c1 c2 o Q) E) E
@[reducible] def wU (o : O1) (wa : WE) : WE := fun ρ Q E => wa ρ (fun c1 ρ1 => use1 ρ1 c1 o Q) E
section
variable {K : PySem.W.Frag} {g : G} {W : WX} {ta tb : TE} {wa wb : WE} {r : R2} {o : O2}
theorem sem_op (l : Lift2 K r o) (ha : Sem K g W ta wa) (hb : Sem K g W tb wb) : Sem K g W (tOp r ta tb) (wB o wa wb) := by
  intro σ vs H ρ cs QD ED Q hS hw hX hQ
  refine ha σ vs H ρ cs _ ED _ hS hw hX fun x H1 c1 ρ1 S1 q1 => ?_
  refine hb σ (x :: vs) H1 ρ1 (c1 :: cs) _ ED _ S1 q1 hX fun y H2 c2 ρ2 S2 q2 => ?_
  exact S2.use2 l q2 fun v H' c S3 q3 => hQ v H' c ρ2 S3 q3
theorem sem_un {r : V → Hp → VK → Prop} {o : O1} (l : Lift1 K r o) (ha : Sem K g W ta wa) : Sem K g W (tUn r ta) (wU o wa) := by
  intro σ vs H ρ cs QD ED Q hS hw hX hQ
  refine ha σ vs H ρ cs _ ED _ hS hw hX fun x H1 c1 ρ1 S1 q1 => ?_
  exact S1.use1 l q1 fun v H' c S3 q3 => hQ v H' c ρ1 S3 q3
end
/-- of two whole numbers -/
@[reducible] def oI (f : Int → Int → D) : O2 := fun d1 d2 k => match d1, d2 with
  | .int i, .int j => k (.v (f i j))
  | _, _ => False
@[reducible] def oIc (P : Int → Int → Prop) (f : Int → Int → D) : O2 := fun d1 d2 k => match d1, d2 with
  | .int i, .int j => P i j ∧ k (.v (f i j))
  | _, _ => False
@[simp] theorem oI_int {f : Int → Int → D} {i j : Int} {k : C → Prop} : oI f (.int i) (.int j) k = k (.v (f i j)) := rfl
@[simp] theorem oIc_int {P : Int → Int → Prop} {f : Int → Int → D} {i j : Int} {k : C → Prop} : oIc P f (.int i) (.int j) k = (P i j ∧ k (.v (f i j))) := rfl
theorem lift_I {K : PySem.W.Frag} {gv : Int → Int → V} {f : Int → Int → D} (h : ∀ i j B, Dp K B (gv i j) (f i j)) : Lift2 K (rI0 gv) (oI f) := by
  intro O H x y dx dy QD Q _ hx hy q fin
  cases hx <;> try exact q.elim
  cases hy <;> try exact q.elim
  exact ⟨_, _, rfl, rfl, fin _ H (.v _) (Same.refl H) (h _ _ _) q⟩
theorem lift_Ic {K : PySem.W.Frag} {P P' : Int → Int → Prop} {gv : Int → Int → V} {f : Int → Int → D} (hp : ∀ i j, P i j → P' i j) (h : ∀ i j B, Dp K B (gv i j) (f i j)) : Lift2 K (rI P' gv) (oIc P f) := by
  intro O H x y dx dy QD Q _ hx hy q fin
  cases hx <;> try exact q.elim
  cases hy <;> try exact q.elim
  exact ⟨_, _, rfl, rfl, hp _ _ q.1, fin _ H (.v _) (Same.refl H) (h _ _ _) q.2⟩
abbrev oAdd : O2 := oI fun i j => .int (i + j)
abbrev oSub : O2 := oI fun i j => .int (i - j)
/-- a product within the model's bounds -/
def MulOk (i j : Int) : Prop := IntMulOk i j
abbrev oMul : O2 := oIc MulOk fun i j => .int (i * j)
abbrev oDiv : O2 := oIc CDivW fun i j => .int (i / j)
abbrev oMod : O2 := oIc (fun _ j => 0 < j) fun i j => .int (i % j)
abbrev oPow : O2 := oIc CPow fun i j => .int (i ^ j.toNat)
abbrev oLt : O2 := oI fun i j => .bool (decide (i < j))
abbrev oLe : O2 := oI fun i j => .bool (decide (i ≤ j))
abbrev oGt : O2 := oI fun i j => .bool (decide (j < i))
abbrev oGe : O2 := oI fun i j => .bool (decide (j ≤ i))
theorem op_mulX {X : Cx} : OpR X (binaryOp .Mult) (rI MulOk fun i j => .int (i * j)) := opI fun _ _ _ _ _ _ _ hc q => mul_int q hc
theorem MulOk.wide {i j : Int} {a b : Nat} (ha : i.natAbs < 2 ^ a) (hb : j.natAbs < 2 ^ b) (h0 : 0 < a := by decide) (h1 : 0 < b := by decide) (h : a + b ≤ 1000000 := by decide) : MulOk i j := (wide_mul ha hb h0 h1 h).ok
theorem MulOk.left {i j : Int} (h : -(2 ^ 64) < i ∧ i < 2 ^ 64) : MulOk i j := CMul.ok (.inl h)
theorem MulOk.right {i j : Int} (h : -(2 ^ 64) < j ∧ j < 2 ^ 64) : MulOk i j := CMul.ok (.inr h)
section
variable {X : Cx} {g : G} {W : WX} {a b : Expr} {wa wb : WE} {pos : Pos}
theorem ee_op {op : Operator} {r : R2} {o : O2} (ho : OpR X (binaryOp op) r) (l : Lift2 X.K r o) (ha : EE X g W a wa) (hb : EE X g W b wb) : EE X g W (.BinOp a op b pos) (wB o wa wb) := by
  obtain ⟨ta, p1, s1⟩ := ha.ex
  obtain ⟨tb, p2, s2⟩ := hb.ex
  exact ⟨_, pe_op ho p1 p2, sem_op l s1 s2⟩
theorem ee_add (ha : EE X g W a wa) (hb : EE X g W b wb) : EE X g W (.BinOp a .Add b pos) (wB oAdd wa wb) := ee_op op_add (lift_I fun i j _ => .int (i + j)) ha hb
theorem ee_sub (ha : EE X g W a wa) (hb : EE X g W b wb) : EE X g W (.BinOp a .Sub b pos) (wB oSub wa wb) := ee_op op_sub (lift_I fun i j _ => .int (i - j)) ha hb
theorem ee_mul (ha : EE X g W a wa) (hb : EE X g W b wb) : EE X g W (.BinOp a .Mult b pos) (wB oMul wa wb) := ee_op op_mulX (lift_Ic (fun _ _ h => h) fun i j _ => .int (i * j)) ha hb
theorem ee_div (ha : EE X g W a wa) (hb : EE X g W b wb) : EE X g W (.BinOp a .FloorDiv b pos) (wB oDiv wa wb) := ee_op op_fdivW (lift_Ic (fun _ _ h => h) fun i j _ => .int (i / j)) ha hb
theorem ee_mod (ha : EE X g W a wa) (hb : EE X g W b wb) : EE X g W (.BinOp a .Mod b pos) (wB oMod wa wb) := ee_op op_mod (lift_Ic (fun _ _ h => h) fun i j _ => .int (i % j)) ha hb
theorem ee_pow (ha : EE X g W a wa) (hb : EE X g W b wb) : EE X g W (.BinOp a .Pow b pos) (wB oPow wa wb) := ee_op op_pow (lift_Ic (fun _ _ h => h) fun i j _ => .int (i ^ j.toNat)) ha hb
end
/-! ### comparisons -/
/-- == of data: scalars as they are, the rest by the model's own == of data -/
@[reducible] def oEq : O2 := fun d1 d2 k => SeqAt.shaped d1 = true ∧ SeqAt.shaped d2 = true ∧ k (.v (.bool (PyData.eqv d1 d2)))
@[reducible] def oNe : O2 := fun d1 d2 k => SeqAt.shaped d1 = true ∧ SeqAt.shaped d2 = true ∧ k (.v (.bool (!PyData.eqv d1 d2)))
theorem dp_hide {K : PySem.W.Frag} {H : Hp} {O : List Addr} {v : V} {d : D} (h : Dp K (hide H O) v d) : Dp K H v d := dp_mono (fun _ _ e => (hide_some.mp e).2) _ _ h
theorem dpAll_hide {K : PySem.W.Frag} {H : Hp} {O : List Addr} {v : List V} {d : List D} (h : DpAll K (hide H O) v d) : DpAll K H v d := dpAll_mono (fun _ _ e => (hide_some.mp e).2) _ _ h
theorem lift_eq {K : PySem.W.Frag} : Lift2 K (rEqD K) oEq := fun O H x y dx dy QD Q _ hx hy q fin =>
  ⟨dx, dy, dp_hide hx, dp_hide hy, q.1, q.2.1, fin _ H (.v _) (Same.refl H) (.bl _) q.2.2⟩
theorem lift_ne {K : PySem.W.Frag} : Lift2 K (rNeD K) oNe := fun O H x y dx dy QD Q _ hx hy q fin =>
  ⟨dx, dy, dp_hide hx, dp_hide hy, q.1, q.2.1, fin _ H (.v _) (Same.refl H) (.bl _) q.2.2⟩
@[reducible] def oIsN : O1 := fun d k => k (.v (.bool (match d with
  | .none => true
  | _ => false)))
@[reducible] def oNotN : O1 := fun d k => k (.v (.bool (match d with
  | .none => false
  | _ => true)))
section
variable {X : Cx} {g : G} {W : WX} {a b c : Expr} {wa wb wc : WE} {pos : Pos}
theorem ee_cmp {op : CmpOp} {r : R2} {o : O2} (ho : OpR X (compareOp op) r) (l : Lift2 X.K r o) (ha : EE X g W a wa) (hb : EE X g W b wb) (hm : behindInMarks op b = false) : EE X g W (.Compare a [op] [b] pos) (wB o wa wb) := by
  obtain ⟨ta, p1, s1⟩ := ha.ex
  obtain ⟨tb, p2, s2⟩ := hb.ex
  exact ⟨_, pe_cmpR ho p1 p2 hm, sem_op l s1 s2⟩
theorem ee_lt (ha : EE X g W a wa) (hb : EE X g W b wb) : EE X g W (.Compare a [.Lt] [b] pos) (wB oLt wa wb) := ee_cmp op_lt (lift_I fun i j _ => .bl _) ha hb (nomark _)
theorem ee_le (ha : EE X g W a wa) (hb : EE X g W b wb) : EE X g W (.Compare a [.LtE] [b] pos) (wB oLe wa wb) := ee_cmp op_le (lift_I fun i j _ => .bl _) ha hb (nomark _)
theorem ee_gt (ha : EE X g W a wa) (hb : EE X g W b wb) : EE X g W (.Compare a [.Gt] [b] pos) (wB oGt wa wb) := ee_cmp op_gt (lift_I fun i j _ => .bl _) ha hb (nomark _)
theorem ee_ge (ha : EE X g W a wa) (hb : EE X g W b wb) : EE X g W (.Compare a [.GtE] [b] pos) (wB oGe wa wb) := ee_cmp op_ge (lift_I fun i j _ => .bl _) ha hb (nomark _)
theorem ee_eq (hu : X.A.units + 64 < cLine) (ha : EE X g W a wa) (hb : EE X g W b wb) : EE X g W (.Compare a [.Eq] [b] pos) (wB oEq wa wb) := ee_cmp (op_eqD hu) lift_eq ha hb (nomark _)
theorem ee_ne (hu : X.A.units + 64 < cLine) (ha : EE X g W a wa) (hb : EE X g W b wb) : EE X g W (.Compare a [.NotEq] [b] pos) (wB oNe wa wb) := ee_cmp (op_neD hu) lift_ne ha hb (nomark _)
/-- a op b op' c -/
@[reducible] def wCh (o o' : O2) (wa wb wc : WE) : WE := fun ρ Q E => wa ρ (fun c1 ρ1 => wb ρ1 (fun c2 ρ2 => useK ρ2 [c2, c1] fun ds => match ds with
  | [d2, d1] => [c2, c1].any C.isLn = false ∧ o d1 d2 fun cr => match cr with
    | .v (.bool k) => if k = true then wc ρ2 (fun c3 ρ3 => useK ρ3 [c3] fun es => match es with
      | [d3] => [c3].any C.isLn = false ∧ o' d2 d3 fun c => Q c ρ3
      | _ => False) E else Q (.v (.bool false)) ρ2
    | _ => False
  | _ => False) E) E
end
theorem SR.frzAt {K : PySem.W.Frag} {g : G} {σ : L2.St} {vs : List V} {H : Hp} {ρ : Rho} {cs : List C} {x : V} {c : C} {d : D} (h : SR K g σ (x :: vs) H ρ (c :: cs)) (e : dat ρ c = some d) (hn : c.isLn = false) : SR K g σ (x :: vs) H ρ (.v d :: cs) := by
  obtain ⟨O, _, hd, fin⟩ := SR.use (xs := [x]) (ccs := [c]) (ds := [d]) h rfl (by unfold dats; rw [e]; rfl)
  have e0 : lentA σ ρ [c] = [] := lentA_none (by simp [hn])
  refine SR.res h.pop (Same.refl H) ?_
  cases hd with
  | cons h1 _ =>
    exact fin H x (.v d) (Same.refl H) h1 (fun z => by simp [hn] at z)
section
variable {K : PySem.W.Frag} {g : G} {W : WX} {ta tb tc : TE} {wa wb wc : WE} {r r' : R2} {o o' : O2}
theorem sem_chain (l : Lift2 K r o) (l' : Lift2 K r' o') (hr : ∀ x y H Q Q', (∀ z H', Q z H' → Q' z H') → r x y H Q → r x y H Q') (ha : Sem K g W ta wa) (hb : Sem K g W tb wb) (hc : Sem K g W tc wc) : Sem K g W (tChain r r' ta tb tc) (wCh o o' wa wb wc) := by
  intro σ vs H ρ cs QD ED Q hS hw hX hQ
  refine ha σ vs H ρ cs _ ED _ hS hw hX fun x H1 c1 ρ1 S1 q1 => ?_
  refine hb σ (x :: vs) H1 ρ1 (c1 :: cs) _ ED _ S1 q1 hX fun y H2 c2 ρ2 S2 q2 => ?_
  obtain ⟨ds, e, q⟩ := useK_dats q2
  cases e1 : dat ρ2 c1 with
  | none => simp [dats, e1] at e
  | some d1 =>
    cases e2 : dat ρ2 c2 with
    | none => simp [dats, e2] at e
    | some d2 =>
      have e' : ds = [d2, d1] := by simpa [dats, e1, e2] using e.symm
      subst e'
      obtain ⟨nl, q⟩ := q
      have n2 : c2.isLn = false ∧ c1.isLn = false := by simpa using nl
      have S3 : SR K g σ (y :: x :: vs) H2 ρ2 (.v d2 :: c1 :: cs) := S2.frzAt e2 n2.1
      have S4 : SR K g σ (x :: y :: vs) H2 ρ2 (.v d1 :: .v d2 :: cs) := SR.frzAt (SR.rot (xs := [y]) (ccs := [.v d2]) rfl S3) e1 n2.2
      have hx : Dp K (hide H2 (tot σ (y :: vs) ρ2 (.v d2 :: cs) ++ g.P0)) x d1 := S4.top
      have hy : Dp K (hide H2 (tot σ (y :: vs) ρ2 (.v d2 :: cs) ++ g.P0)) y d2 := by
        have q := S4.pop.top
        rw [foot_cons_v]; exact q
      refine l _ H2 x y d1 d2 _ _ S4.pop.domO hx hy q fun z H3 c sm nr qd => ?_
      split at qd
      · rename_i k
        cases nr
        have S5 : SR K g σ (y :: vs) H3 ρ2 (.v d2 :: cs) := S4.pop.grow sm
        refine ⟨k, rfl, ?_⟩
        cases k with
        | false =>
          rw [if_neg Bool.false_ne_true] at qd ⊢
          exact hQ _ H3 _ ρ2 (SR.resV S5.pop (Same.refl H3) (.bl false)) qd
        | true =>
          rw [if_pos rfl] at qd ⊢
          refine hc σ (y :: vs) H3 ρ2 (.v d2 :: cs) _ ED _ S5 qd hX fun w' H4 c3 ρ3 S6 q6 => ?_
          obtain ⟨es, e3, q6⟩ := useK_dats q6
          cases e4 : dat ρ3 c3 with
          | none => simp [dats, e4] at e3
          | some d3 =>
            have e5 : es = [d3] := by simpa [dats, e4] using e3.symm
            subst e5
            obtain ⟨nl3, q6⟩ := q6
            have S7 : SR K g σ (w' :: y :: vs) H4 ρ3 (.v d3 :: .v d2 :: cs) := S6.frzAt e4 (by simpa using nl3)
            have hw' : Dp K (hide H4 (tot σ vs ρ3 cs ++ g.P0)) w' d3 := by
              have q := S7.top
              rw [foot_cons_v] at q; exact q
            refine l' _ H4 y w' d2 d3 _ _ S7.pop.pop.domO S7.pop.top hw' q6 fun z H5 c sm nr qd => ?_
            exact hQ z H5 c ρ3 (SR.res S7.pop.pop sm nr) qd
      · exact qd.elim
end
section
variable {X : Cx} {g : G} {W : WX} {a b c : Expr} {wa wb wc : WE} {pos : Pos}
theorem rI0_mono {gv : Int → Int → V} : ∀ x y H Q Q', (∀ z H', Q z H' → Q' z H') → rI0 gv x y H Q → rI0 gv x y H Q' := fun x y H Q Q' h ⟨i, j, e1, e2, q⟩ => ⟨i, j, e1, e2, h _ _ q⟩
theorem ee_chain {op op' : CmpOp} {f f' : Int → Int → Bool} (ho : OpR X (compareOp op) (rI0 fun i j => .bl (f i j))) (ho' : OpR X (compareOp op') (rI0 fun i j => .bl (f' i j))) (ha : EE X g W a wa) (hb : EE X g W b wb) (hc : EE X g W c wc)
    (hm : lastMarks [op, op'] [b, c] = false := by with_unfolding_all rfl) : EE X g W (.Compare a [op, op'] [b, c] pos) (wCh (oI fun i j => .bool (f i j)) (oI fun i j => .bool (f' i j)) wa wb wc) := by
  obtain ⟨ta, p1, s1⟩ := ha.ex
  obtain ⟨tb, p2, s2⟩ := hb.ex
  obtain ⟨tc, p3, s3⟩ := hc.ex
  exact ⟨_, pe_chain ho ho' p1 p2 p3 hm, sem_chain (lift_I fun i j _ => .bl _) (lift_I fun i j _ => .bl _) rI0_mono s1 s2 s3⟩
end
/-! ### tests -/
@[reducible] def wTst (w : WE) : WT := fun ρ Q E => w ρ (fun c ρ1 => match c with
  | .v (.bool b) => Q b ρ1
  | _ => False) E
@[reducible] def wAnd (wt wu : WT) : WT := fun ρ Q E => wt ρ (fun b ρ1 => if b = true then wu ρ1 Q E else Q false ρ1) E
@[reducible] def wOr (wt wu : WT) : WT := fun ρ Q E => wt ρ (fun b ρ1 => if b = true then Q true ρ1 else wu ρ1 Q E) E
@[reducible] def wNot (wt : WT) : WT := fun ρ Q E => wt ρ (fun b ρ1 => Q (!b) ρ1) E
@[reducible] def wAndV (wa wb : WE) : WE := fun ρ Q E => wa ρ (fun c ρ1 => match c with
  | .v (.bool b) => if b = true then wb ρ1 Q E else Q (.v (.bool false)) ρ1
  | _ => False) E
@[reducible] def wOrV (wa wb : WE) : WE := fun ρ Q E => wa ρ (fun c ρ1 => match c with
  | .v (.bool b) => if b = true then Q (.v (.bool true)) ρ1 else wb ρ1 Q E
  | _ => False) E
@[reducible] def wNotV (wa : WE) : WE := fun ρ Q E => wa ρ (fun c ρ1 => match c with
  | .v (.bool b) => Q (.v (.bool (!b))) ρ1
  | _ => False) E
@[reducible] def wIte (wt : WT) (wa wb : WE) : WE := fun ρ Q E => wt ρ (fun b ρ1 => if b = true then wa ρ1 Q E else wb ρ1 Q E) E
section
variable {K : PySem.W.Frag} {g : G} {W : WX}
theorem sem_tst {t : TE} {w : WE} (h : Sem K g W t w) : SemT K g W (tTest t) (wTst w) := by
  intro σ vs H ρ cs QD ED Q hS hw hX hQ
  refine h σ vs H ρ cs _ ED _ hS hw hX fun x H1 c1 ρ1 S1 q1 => ?_
  split at q1
  · rename_i b
    have e := S1.top
    cases e
    exact ⟨b, rfl, hQ b H1 ρ1 S1.pop q1⟩
  · exact q1.elim
theorem sem_and {t u : TT} {wt wu : WT} (h : SemT K g W t wt) (h' : SemT K g W u wu) : SemT K g W (tAnd t u) (wAnd wt wu) := by
  intro σ vs H ρ cs QD ED Q hS hw hX hQ
  refine h σ vs H ρ cs _ ED _ hS hw hX fun b H1 ρ1 S1 q1 => ?_
  cases b with
  | true => exact h' σ vs H1 ρ1 cs QD ED Q S1 q1 hX hQ
  | false => exact hQ false H1 ρ1 S1 q1
theorem sem_or {t u : TT} {wt wu : WT} (h : SemT K g W t wt) (h' : SemT K g W u wu) : SemT K g W (tOr t u) (wOr wt wu) := by
  intro σ vs H ρ cs QD ED Q hS hw hX hQ
  refine h σ vs H ρ cs _ ED _ hS hw hX fun b H1 ρ1 S1 q1 => ?_
  cases b with
  | true => exact hQ true H1 ρ1 S1 q1
  | false => exact h' σ vs H1 ρ1 cs QD ED Q S1 q1 hX hQ
theorem sem_not {t : TT} {wt : WT} (h : SemT K g W t wt) : SemT K g W (tNot t) (wNot wt) := by
  intro σ vs H ρ cs QD ED Q hS hw hX hQ
  exact h σ vs H ρ cs _ ED _ hS hw hX fun b H1 ρ1 S1 q1 => hQ _ H1 ρ1 S1 q1
theorem sem_andV {ta tb : TE} {wa wb : WE} (h : Sem K g W ta wa) (h' : Sem K g W tb wb) : Sem K g W (tAndV ta tb) (wAndV wa wb) := by
  intro σ vs H ρ cs QD ED Q hS hw hX hQ
  refine h σ vs H ρ cs _ ED _ hS hw hX fun x H1 c1 ρ1 S1 q1 => ?_
  split at q1
  · rename_i b
    have e := S1.top
    cases e
    refine ⟨b, rfl, ?_⟩
    cases b with
    | true => exact h' σ vs H1 ρ1 cs QD ED Q S1.pop q1 hX hQ
    | false => exact hQ _ H1 _ ρ1 (SR.resV S1.pop (Same.refl H1) (.bl false)) q1
  · exact q1.elim
theorem sem_orV {ta tb : TE} {wa wb : WE} (h : Sem K g W ta wa) (h' : Sem K g W tb wb) : Sem K g W (tOrV ta tb) (wOrV wa wb) := by
  intro σ vs H ρ cs QD ED Q hS hw hX hQ
  refine h σ vs H ρ cs _ ED _ hS hw hX fun x H1 c1 ρ1 S1 q1 => ?_
  split at q1
  · rename_i b
    have e := S1.top
    cases e
    refine ⟨b, rfl, ?_⟩
    cases b with
    | false => exact h' σ vs H1 ρ1 cs QD ED Q S1.pop q1 hX hQ
    | true => exact hQ _ H1 _ ρ1 (SR.resV S1.pop (Same.refl H1) (.bl true)) q1
  · exact q1.elim
theorem sem_notV {ta : TE} {wa : WE} (h : Sem K g W ta wa) : Sem K g W (tNotV ta) (wNotV wa) := by
  intro σ vs H ρ cs QD ED Q hS hw hX hQ
  refine h σ vs H ρ cs _ ED _ hS hw hX fun x H1 c1 ρ1 S1 q1 => ?_
  split at q1
  · rename_i b
    have e := S1.top
    cases e
    exact ⟨b, rfl, hQ _ H1 _ ρ1 (SR.resV S1.pop (Same.refl H1) (.bl _)) q1⟩
  · exact q1.elim
theorem sem_ite {t : TT} {ta tb : TE} {wt : WT} {wa wb : WE} (h : SemT K g W t wt) (ha : Sem K g W ta wa) (hb : Sem K g W tb wb) : Sem K g W (tIf t ta tb) (wIte wt wa wb) := by
  intro σ vs H ρ cs QD ED Q hS hw hX hQ
  refine h σ vs H ρ cs _ ED _ hS hw hX fun b H1 ρ1 S1 q1 => ?_
  cases b with
  | true => exact ha σ vs H1 ρ1 cs QD ED Q S1 q1 hX hQ
  | false => exact hb σ vs H1 ρ1 cs QD ED Q S1 q1 hX hQ
end
section
variable {X : Cx} {g : G} {W : WX} {a b c : Expr} {rest : List Expr} {wa wb wc : WE} {wt wu : WT} {pos : Pos}
theorem et_val (h : EE X g W a wa) (he : ∀ whole, isTrue a X.env whole = (do let v ← whole; standAt a.pos; holding [v] (truthy v)) := by intro _; rfl) : ET X g W a (wTst wa) := by
  obtain ⟨t, p, s⟩ := h.ex
  exact ⟨_, pt_val p he, sem_tst s⟩
theorem et_cmp {op : CmpOp} {r : R2} {o : O2} (ho : OpR X (compareOp op) r) (l : Lift2 X.K r o) (ha : EE X g W a wa) (hb : EE X g W b wb) (hm : behindInMarks op b = false) : ET X g W (.Compare a [op] [b] pos) (wTst (wB o wa wb)) := by
  obtain ⟨ta, p1, s1⟩ := ha.ex
  obtain ⟨tb, p2, s2⟩ := hb.ex
  exact ⟨_, pt_cmpR ho p1 p2 hm, sem_tst (sem_op l s1 s2)⟩
theorem et_lt (ha : EE X g W a wa) (hb : EE X g W b wb) : ET X g W (.Compare a [.Lt] [b] pos) (wTst (wB oLt wa wb)) := et_cmp op_lt (lift_I fun i j _ => .bl _) ha hb (nomark _)
theorem et_le (ha : EE X g W a wa) (hb : EE X g W b wb) : ET X g W (.Compare a [.LtE] [b] pos) (wTst (wB oLe wa wb)) := et_cmp op_le (lift_I fun i j _ => .bl _) ha hb (nomark _)
theorem et_gt (ha : EE X g W a wa) (hb : EE X g W b wb) : ET X g W (.Compare a [.Gt] [b] pos) (wTst (wB oGt wa wb)) := et_cmp op_gt (lift_I fun i j _ => .bl _) ha hb (nomark _)
theorem et_ge (ha : EE X g W a wa) (hb : EE X g W b wb) : ET X g W (.Compare a [.GtE] [b] pos) (wTst (wB oGe wa wb)) := et_cmp op_ge (lift_I fun i j _ => .bl _) ha hb (nomark _)
theorem et_eq (hu : X.A.units + 64 < cLine) (ha : EE X g W a wa) (hb : EE X g W b wb) : ET X g W (.Compare a [.Eq] [b] pos) (wTst (wB oEq wa wb)) := et_cmp (op_eqD hu) lift_eq ha hb (nomark _)
theorem et_ne (hu : X.A.units + 64 < cLine) (ha : EE X g W a wa) (hb : EE X g W b wb) : ET X g W (.Compare a [.NotEq] [b] pos) (wTst (wB oNe wa wb)) := et_cmp (op_neD hu) lift_ne ha hb (nomark _)
theorem et_chain {op op' : CmpOp} {f f' : Int → Int → Bool} (ho : OpR X (compareOp op) (rI0 fun i j => .bl (f i j))) (ho' : OpR X (compareOp op') (rI0 fun i j => .bl (f' i j))) (ha : EE X g W a wa) (hb : EE X g W b wb) (hc : EE X g W c wc)
    (hm : lastMarks [op, op'] [b, c] = false := by with_unfolding_all rfl) : ET X g W (.Compare a [op, op'] [b, c] pos) (wTst (wCh (oI fun i j => .bool (f i j)) (oI fun i j => .bool (f' i j)) wa wb wc)) := by
  obtain ⟨ta, p1, s1⟩ := ha.ex
  obtain ⟨tb, p2, s2⟩ := hb.ex
  obtain ⟨tc, p3, s3⟩ := hc.ex
  exact ⟨_, pt_chain ho ho' p1 p2 p3 hm, sem_tst (sem_chain (lift_I fun i j _ => .bl _) (lift_I fun i j _ => .bl _) rI0_mono s1 s2 s3)⟩
theorem et_isN {j pos'} (ha : EE X g W a wa) : ET X g W (.Compare a [.Is] [.Constant .none j pos'] pos) (wTst (wU oIsN wa)) := by
  obtain ⟨ta, p1, s1⟩ := ha.ex
  refine ⟨_, pt_cmp (pc_isN p1), ?_⟩
  refine sem_tst (t := tIsN ta) fun σ vs H ρ cs QD ED Q hS hw hX hQ => ?_
  refine s1 σ vs H ρ cs _ ED _ hS hw hX fun x H1 c1 ρ1 S1 q1 => ?_
  refine S1.use1 (r := fun x H Q => Q (.bl (decide (x = .non))) H) (fun O H x dx QD Q _ hx q fin => ?_) q1 fun v H' c S3 q3 => hQ v H' c ρ1 S3 q3
  refine fin _ H (.v _) (Same.refl H) ?_ q
  cases hx <;> exact .bl _
theorem et_notN {j pos'} (ha : EE X g W a wa) : ET X g W (.Compare a [.IsNot] [.Constant .none j pos'] pos) (wTst (wU oNotN wa)) := by
  obtain ⟨ta, p1, s1⟩ := ha.ex
  refine ⟨_, pt_cmp (pc_notN p1), ?_⟩
  refine sem_tst (t := tNotN ta) fun σ vs H ρ cs QD ED Q hS hw hX hQ => ?_
  refine s1 σ vs H ρ cs _ ED _ hS hw hX fun x H1 c1 ρ1 S1 q1 => ?_
  refine S1.use1 (r := fun x H Q => Q (.bl (!decide (x = .non))) H) (fun O H x dx QD Q _ hx q fin => ?_) q1 fun v H' c S3 q3 => hQ v H' c ρ1 S3 q3
  refine fin _ H (.v _) (Same.refl H) ?_ q
  cases hx <;> exact .bl _
theorem ee_isN {j pos'} (ha : EE X g W a wa) : EE X g W (.Compare a [.Is] [.Constant .none j pos'] pos) (wU oIsN wa) := by
  obtain ⟨ta, p1, s1⟩ := ha.ex
  refine ⟨_, pe_cmp (pc_isN p1), ?_⟩
  refine fun σ vs H ρ cs QD ED Q hS hw hX hQ => ?_
  refine s1 σ vs H ρ cs _ ED _ hS hw hX fun x H1 c1 ρ1 S1 q1 => ?_
  refine S1.use1 (r := fun x H Q => Q (.bl (decide (x = .non))) H) (fun O H x dx QD Q _ hx q fin => ?_) q1 fun v H' c S3 q3 => hQ v H' c ρ1 S3 q3
  refine fin _ H (.v _) (Same.refl H) ?_ q
  cases hx <;> exact .bl _
theorem ew_and1 (h : ET X g W a wt) : EW X g W (.BoolOp .And [a] pos) wt := by
  obtain ⟨t, p, s⟩ := h.ex
  exact ⟨_, pw_and1 p, s⟩
theorem ew_or1 (h : ET X g W a wt) : EW X g W (.BoolOp .Or [a] pos) wt := by
  obtain ⟨t, p, s⟩ := h.ex
  exact ⟨_, pw_or1 p, s⟩
theorem ew_and (h : ET X g W a wt) (h' : EW X g W (.BoolOp .And (b :: rest) pos) wu) : EW X g W (.BoolOp .And (a :: b :: rest) pos) (wAnd wt wu) := by
  obtain ⟨t, p, s⟩ := h.ex
  obtain ⟨t', p', s'⟩ := h'.ex
  exact ⟨_, pw_and p p', sem_and s s'⟩
theorem ew_or (h : ET X g W a wt) (h' : EW X g W (.BoolOp .Or (b :: rest) pos) wu) : EW X g W (.BoolOp .Or (a :: b :: rest) pos) (wOr wt wu) := by
  obtain ⟨t, p, s⟩ := h.ex
  obtain ⟨t', p', s'⟩ := h'.ex
  exact ⟨_, pw_or p p', sem_or s s'⟩
theorem et_w (h : EW X g W a wt) : ET X g W a wt := by
  obtain ⟨t, p, s⟩ := h.ex
  exact ⟨_, p.pt, s⟩
theorem et_not (h : ET X g W a wt) : ET X g W (.UnaryOp .Not a pos) (wNot wt) := by
  obtain ⟨t, p, s⟩ := h.ex
  exact ⟨_, pt_not p, sem_not s⟩
theorem ee_one {op} (h : EE X g W a wa) : EE X g W (.BoolOp op [a] pos) wa := by
  obtain ⟨t, p, s⟩ := h.ex
  exact ⟨_, pe_one p, s⟩
theorem ee_and (h : EE X g W a wa) (h' : EE X g W (.BoolOp .And (b :: rest) pos) wb) : EE X g W (.BoolOp .And (a :: b :: rest) pos) (wAndV wa wb) := by
  obtain ⟨t, p, s⟩ := h.ex
  obtain ⟨t', p', s'⟩ := h'.ex
  exact ⟨_, pe_and p p', sem_andV s s'⟩
theorem ee_or (h : EE X g W a wa) (h' : EE X g W (.BoolOp .Or (b :: rest) pos) wb) : EE X g W (.BoolOp .Or (a :: b :: rest) pos) (wOrV wa wb) := by
  obtain ⟨t, p, s⟩ := h.ex
  obtain ⟨t', p', s'⟩ := h'.ex
  exact ⟨_, pe_or p p', sem_orV s s'⟩
theorem ee_not (h : EE X g W a wa) : EE X g W (.UnaryOp .Not a pos) (wNotV wa) := by
  obtain ⟨t, p, s⟩ := h.ex
  exact ⟨_, pe_not p, sem_notV s⟩
theorem ee_ite (h : ET X g W c wt) (ha : EE X g W a wa) (hb : EE X g W b wb) : EE X g W (.IfExp c a b pos) (wIte wt wa wb) := by
  obtain ⟨t, p, s⟩ := h.ex
  obtain ⟨ta, p1, s1⟩ := ha.ex
  obtain ⟨tb, p2, s2⟩ := hb.ex
  exact ⟨_, pe_ifExp p p1 p2, sem_ite s s1 s2⟩
end
end DL

set_option Elab.async false
set_option linter.all false
set_option maxRecDepth 100000
set_option maxHeartbeats 4000000
/-! DL, arguments and calls; slots emptied and filled. -/
namespace DL
open PySem PySem.Spec PyProof.Rows L2

/-! ### slots -/
theorem rget_rset : ∀ {ρ : Rho} {i : Nat} {c : C}, i < ρ.length → rget (rset ρ i c) i = c
  | [], _, _, h => by simp at h
  | _ :: _, 0, _, _ => rfl
  | _ :: ρ, i + 1, c, h => rget_rset (ρ := ρ) (i := i) (by simpa using h)
theorem rset_rset : ∀ {ρ : Rho} {i : Nat} {c c' : C}, rset (rset ρ i c) i c' = rset ρ i c'
  | [], _, _, _ => rfl
  | _ :: _, 0, _, _ => rfl
  | _ :: ρ, i + 1, c, c' => by show _ :: rset (rset ρ i c) i c' = _ :: rset ρ i c'; rw [rset_rset]
theorem rset_len : ∀ {ρ : Rho} {i : Nat} {c : C}, (rset ρ i c).length = ρ.length
  | [], _, _ => rfl
  | _ :: _, 0, _ => rfl
  | _ :: ρ, i + 1, c => by show (rset ρ i c).length + 1 = ρ.length + 1; rw [rset_len]
theorem rget_lt : ∀ {ρ : Rho} {i : Nat}, rget ρ i ≠ .no → i < ρ.length
  | [], _, h => absurd rfl h
  | _ :: _, 0, _ => by simp
  | _ :: ρ, i + 1, h => by have := rget_lt (ρ := ρ) (i := i) h; simpa using this
theorem footC_no (v : Option V) : footC v .no = [] := by
  cases v with
  | none => rfl
  | some x => cases x <;> rfl
theorem footC_v (v : Option V) (d : D) : footC v (.v d) = [] := by
  cases v with
  | none => rfl
  | some x => cases x <;> rfl
theorem foot_clear : ∀ {σ : List (Option V)} {ρ : Rho} {i : Nat}, (foot σ (rset ρ i .no)).Sublist (foot σ ρ)
  | [], ρ, _ => by
    have e : ∀ r : Rho, foot [] r = [] := fun r => by cases r <;> rfl
    rw [e, e]; exact List.Sublist.slnil
  | _ :: _, [], _ => List.Sublist.refl _
  | v :: σ, c :: ρ, 0 => by
    show (footC v .no ++ foot σ ρ).Sublist (footC v c ++ foot σ ρ)
    rw [footC_no]
    exact List.sublist_append_right _ _
  | v :: σ, c :: ρ, i + 1 => by
    show (footC v c ++ foot σ (rset ρ i .no)).Sublist (footC v c ++ foot σ ρ)
    exact (foot_clear (i := i)).append_left _
theorem foot_out : ∀ {σ : List (Option V)} {ρ : Rho} {i : Nat} {a : Addr} {t : Nat} {o : OD}, σ[i]? = some (some (.ref a)) → rget ρ i = .own t o → (foot σ ρ).Perm (a :: foot σ (rset ρ i .no))
  | [], _, _, _, _, _, h, _ => by simp at h
  | _ :: _, [], _, _, _, _, _, h => by cases h
  | v :: σ, c :: ρ, 0, a, t, o, h, h2 => by
    have e1 : v = some (.ref a) := by simpa using h
    have e2 : c = .own t o := h2
    subst e1; subst e2
    show ([a] ++ foot σ ρ).Perm (a :: (footC (some (.ref a)) .no ++ foot σ ρ))
    rw [footC_no]
    exact List.Perm.refl _
  | v :: σ, c :: ρ, i + 1, a, t, o, h, h2 => by
    show (footC v c ++ foot σ ρ).Perm (a :: (footC v c ++ foot σ (rset ρ i .no)))
    refine (List.Perm.append_left _ (foot_out (i := i) (by simpa using h) h2)).trans ?_
    exact List.perm_middle
theorem foot_in : ∀ {σ : List (Option V)} {ρ : Rho} {i : Nat} {x : V} {c : C}, σ[i]? = some (some x) → i < ρ.length → rget ρ i = .no → (foot σ (rset ρ i c)).Perm (footC (some x) c ++ foot σ ρ)
  | [], _, _, _, _, h, _, _ => by simp at h
  | _ :: _, [], _, _, _, _, h, _ => by simp at h
  | v :: σ, c' :: ρ, 0, x, c, h, _, h2 => by
    have e1 : v = some x := by simpa using h
    have e2 : c' = .no := h2
    subst e1; subst e2
    show (footC (some x) c ++ foot σ ρ).Perm (footC (some x) c ++ (footC (some x) .no ++ foot σ ρ))
    rw [footC_no]
    exact List.Perm.refl _
  | v :: σ, c' :: ρ, i + 1, x, c, h, hl, h2 => by
    show (footC v c' ++ foot σ (rset ρ i c)).Perm (footC (some x) c ++ (footC v c' ++ foot σ ρ))
    refine (List.Perm.append_left _ (foot_in (i := i) (by simpa using h) (by simpa using hl) h2)).trans ?_
    exact List.perm_append_comm_assoc _ _ _
theorem foot_setNo : ∀ {σ : List (Option V)} {ρ : Rho} {i : Nat} {v : Option V}, rget ρ i = .no → foot (σ.set i v) ρ = foot σ ρ
  | [], _, _, _, _ => by simp
  | _ :: _, [], 0, _, _ => rfl
  | _ :: _, [], _ + 1, _, _ => rfl
  | v' :: σ, c :: ρ, 0, v, h => by
    have e : c = .no := h
    subst e
    show footC v .no ++ foot σ ρ = footC v' .no ++ foot σ ρ
    rw [footC_no, footC_no]
  | v' :: σ, c :: ρ, i + 1, v, h => by
    show footC v' c ++ foot (σ.set i v) ρ = footC v' c ++ foot σ ρ
    rw [foot_setNo (i := i) h]
section
variable {K : PySem.W.Frag} {g : G} {s : L2.St} {B H : Hp}
theorem RCs.rset : ∀ {σ : List (Option V)} {ρ : Rho} {i : Nat} {c : C} {ov : Option V}, RCs K g s B H σ ρ → σ[i]? = some ov → RC K g s B H ov c → RCs K g s B H σ (DL.rset ρ i c)
  | [], [], _, _, _, _, h, _ => by simp at h
  | v :: σ, c' :: ρ, 0, c, ov, h, e, q => by
    have e1 : v = ov := by simpa using e
    subst e1
    exact ⟨q, h.2⟩
  | v :: σ, c' :: ρ, i + 1, c, ov, h, e, q => ⟨h.1, RCs.rset (i := i) h.2 (by simpa using e) q⟩
  | [], _ :: _, _, _, _, h, _, _ => h.elim
  | _ :: _, [], _, _, _, h, _, _ => h.elim
theorem RCs.rsetNo : ∀ {σ : List (Option V)} {ρ : Rho} {i : Nat}, RCs K g s B H σ ρ → RCs K g s B H σ (DL.rset ρ i .no)
  | [], [], _, h => h
  | v :: σ, c' :: ρ, 0, h => ⟨trivial, h.2⟩
  | v :: σ, c' :: ρ, i + 1, h => ⟨h.1, RCs.rsetNo (i := i) h.2⟩
  | [], _ :: _, _, h => h.elim
  | _ :: _, [], _, h => h.elim
theorem RCs.setNo : ∀ {σ : List (Option V)} {ρ : Rho} {i : Nat} {v : Option V}, RCs K g s B H σ ρ → rget ρ i = .no → RCs K g s B H (σ.set i v) ρ
  | [], [], _, _, h, _ => h
  | _ :: _, c :: ρ, 0, v, h, e => by
    have e1 : c = .no := e
    subst e1
    exact ⟨trivial, h.2⟩
  | _ :: _, c' :: ρ, i + 1, v, h, e => ⟨h.1, RCs.setNo (i := i) h.2 e⟩
  | [], _ :: _, _, _, h, _ => h.elim
  | _ :: _, [], _, _, h, _ => h.elim
/-- a passing value hangs on the slots by what is lent alone -/
theorem RCs.slots {σ σ' : L2.St} : ∀ {vs : List (Option V)} {cs : List C}, (∀ j, (C.pk j ∈ cs ∨ C.ln j ∈ cs) → σ'[j]? = σ[j]?) → RCs K g σ B H vs cs → RCs K g σ' B H vs cs
  | [], [], _, h => h
  | v :: vs, c :: cs, hj, h => by
    refine ⟨?_, RCs.slots (fun j q => hj j (q.imp (List.mem_cons_of_mem _) (List.mem_cons_of_mem _))) h.2⟩
    have q := h.1
    cases c with
    | no => trivial
    | v d => exact q
    | own t o => exact q
    | pk i =>
      obtain ⟨x, e1, e2⟩ := q
      exact ⟨x, e1, (hj i (.inl List.mem_cons_self)).trans e2⟩
    | ln i =>
      obtain ⟨x, e1, e2⟩ := q
      exact ⟨x, e1, (hj i (.inr List.mem_cons_self)).trans e2⟩
  | [], _ :: _, _, h => h.elim
  | _ :: _, [], _, h => h.elim
end
section
variable {K : PySem.W.Frag} {g : G} {σ σ' : L2.St} {vs vs' : List V} {H H' : Hp} {ρ ρ' : Rho} {cs cs' : List C} {i : Nat}
/-- a slot is forgotten -/
theorem SR.clear (h : SR K g σ vs H ρ cs) (i : Nat) : SR K g σ vs H (rset ρ i .no) cs := by
  have sl : (tot σ vs (rset ρ i .no) cs).Sublist (tot σ vs ρ cs) := foot_clear.append_left _
  exact h.gen (fun _ _ _ q => q) (fun _ o q => ⟨o, q⟩) (fun a ha => .inl (sl.subset ha)) (sl.nodup h.nd) (fun hB => (h.sl.mono hB fun _ _ _ q => q).rsetNo) (fun hB => h.tp.mono hB fun _ _ _ q => q) h.pk
/-- a forgotten slot may hold anything -/
theorem SR.setNo (h : SR K g σ vs H ρ cs) (e : rget ρ i = .no) (hj : ∀ j, (C.pk j ∈ cs ∨ C.ln j ∈ cs) → j ≠ i) (v : Option V) : SR K g (σ.set i v) vs H ρ cs := by
  have ft : tot (σ.set i v) vs ρ cs = tot σ vs ρ cs := by
    show foot (vs.map some) cs ++ foot (σ.set i v) ρ = _
    rw [foot_setNo e]
  refine h.gen (fun _ _ _ q => q) (fun _ o q => ⟨o, q⟩) (fun a ha => .inl (by rw [ft] at ha; exact ha)) (by rw [ft]; exact h.nd) (fun hB => (h.sl.mono hB fun _ _ _ q => q).setNo e) (fun hB => ?_) h.pk
  exact (h.tp.mono hB fun _ _ _ q => q).slots fun j q => List.getElem?_set_ne (hj j q).symm
@[reducible] def C.plain : C → Bool
  | .v _ => true
  | .own _ _ => true
  | _ => false
theorem RC.plainσ {B : Hp} {ov : Option V} {c : C} (hc : c.plain = true) (h : RC K g σ B H ov c) : RC K g σ' B H ov c := by
  cases c with
  | v d => exact h
  | own t o => exact h
  | no => cases hc
  | pk i => cases hc
  | ln i => cases hc
/-- the top goes into the slot that holds its value -/
theorem SR.moveIn {x : V} {c : C} (h : SR K g σ (x :: vs) H ρ (c :: cs)) (hc : c.plain = true) (e1 : σ[i]? = some (some x)) (e2 : rget ρ i = .no) : SR K g σ vs H (rset ρ i c) cs := by
  have hl : i < ρ.length := by
    rw [← h.len]; exact (List.getElem?_eq_some_iff.mp e1).1
  have pm : (tot σ vs (rset ρ i c) cs).Perm (tot σ (x :: vs) ρ (c :: cs)) := by
    rw [tot_cons]
    exact (List.Perm.append_left _ (foot_in e1 hl e2)).trans (List.perm_append_comm_assoc _ _ _)
  refine h.gen (fun _ _ _ q => q) (fun _ o q => ⟨o, q⟩) (fun a ha => .inl (pm.mem_iff.mp ha)) (pm.nodup_iff.mpr h.nd) (fun hB => ?_) (fun hB => (RCs.mono hB (fun _ _ _ q => q) h.tp).2) fun j q => h.pk j (q.imp (List.mem_cons_of_mem _) (List.mem_cons_of_mem _))
  refine (h.sl.mono hB fun _ _ _ q => q).rset e1 ?_
  exact (RCs.mono hB (fun _ _ _ q => q) h.tp).1.plainσ hc
/-- name = value -/
theorem SR.assign {x : V} {c : C} (h : SR K g σ (x :: vs) H ρ (c :: cs)) (hc : c.plain = true) (hi : i < σ.length) (hj : ∀ j, (C.pk j ∈ cs ∨ C.ln j ∈ cs) → j ≠ i) : SR K g (σ.set i (some x)) vs H (rset ρ i c) cs := by
  have hl : i < ρ.length := by rw [← h.len]; exact hi
  have h1 := h.clear i
  have h2 := h1.setNo (i := i) (rget_rset hl) (fun j q => hj j ?_) (some x)
  · have h3 := h2.moveIn (i := i) hc (List.getElem?_set_self hi) (rget_rset hl)
    rw [rset_rset] at h3
    exact h3
  · have n1 : C.pk j ≠ c := fun z => by rw [← z] at hc; cases hc
    have n2 : C.ln j ≠ c := fun z => by rw [← z] at hc; cases hc
    rcases q with q | q
    · exact .inl ((List.mem_cons.mp q).resolve_left n1)
    · exact .inr ((List.mem_cons.mp q).resolve_left n2)
/-- a lent slot's object comes to the top -/
theorem SR.moveOut {x : V} {t : Nat} {o : OD} (h : SR K g σ (x :: vs) H ρ (.pk i :: cs)) (e : rget ρ i = .own t o) : σ[i]? = some (some x) ∧ SR K g σ (x :: vs) H (rset ρ i .no) (.own t o :: cs) := by
  obtain ⟨x', ex, e1⟩ := h.tp.1
  cases ex
  obtain ⟨a, e2, q1, q2, q3⟩ := h.own e
  rw [e1] at e2
  cases e2
  refine ⟨e1, ?_⟩
  have pm : (tot σ (.ref a :: vs) (rset ρ i .no) (.own t o :: cs)).Perm (tot σ (.ref a :: vs) ρ (.pk i :: cs)) := by
    rw [foot_cons_pk]
    show (a :: (foot (vs.map some) cs ++ foot σ (rset ρ i .no))).Perm (foot (vs.map some) cs ++ foot σ ρ)
    exact (List.perm_middle.symm).trans (List.Perm.append_left _ (foot_out e1 e).symm)
  refine h.gen (fun _ _ _ q => q) (fun _ o q => ⟨o, q⟩) (fun a ha => .inl (pm.mem_iff.mp ha)) (pm.nodup_iff.mpr h.nd) (fun hB => (h.sl.mono hB fun _ _ _ q => q).rsetNo) (fun hB => ?_) fun j q => h.pk j ?_
  · exact ⟨⟨a, rfl, q2.mono hB fun _ q => q, q3.1, q3.2⟩, (RCs.mono hB (fun _ _ _ q => q) h.tp).2⟩
  · simp only [List.mem_cons] at q ⊢
    rcases q with (z | z) | (z | z)
    · cases z
    · exact .inl (.inr z)
    · cases z
    · exact .inr (.inr z)
@[reducible] def frzC : C → C
  | .own _ (.lst ds) => .v (.list ds)
  | c => c
@[reducible] def frzs : List C → List C
  | [] => []
  | c :: cs => frzC c :: frzs cs
theorem frzs_eq : ∀ {cs : List C}, frzs cs = cs.map frzC
  | [] => rfl
  | c :: cs => by show frzC c :: frzs cs = _; rw [frzs_eq]; rfl
theorem SR.frzTop {x : V} {c : C} (h : SR K g σ (x :: vs) H ρ (c :: cs)) : SR K g σ (x :: vs) H ρ (frzC c :: cs) := by
  cases c with
  | own t o =>
    cases o with
    | lst ds => exact h.frzAt rfl rfl
    | dct _ => exact h
  | no => exact h
  | v d => exact h
  | pk i => exact h
  | ln i => exact h
theorem SR.frzArgs : ∀ {xs : List V} {ccs : List C} {vs : List V} {cs : List C}, xs.length = ccs.length → SR K g σ (xs ++ vs) H ρ (ccs ++ cs) → SR K g σ (xs ++ vs) H ρ (ccs.map frzC ++ cs)
  | [], [], _, _, _, h => h
  | x :: xs, c :: ccs, vs, cs, hl, h => by
    have hl' : xs.length = ccs.length := by simpa using hl
    have h1 : SR K g σ (xs ++ x :: vs) H ρ (ccs ++ frzC c :: cs) := SR.unrot hl' (SR.frzTop h)
    have h2 := SR.frzArgs (xs := xs) (ccs := ccs) (vs := x :: vs) (cs := frzC c :: cs) hl' h1
    exact SR.rot (by simpa using hl') h2
  | [], _ :: _, _, _, h, _ => by simp at h
  | _ :: _, [], _, _, h, _ => by simp at h
end

/-! ### arguments -/
@[reducible] def wNil : WA := fun ρ Q _ => Q [] ρ
@[reducible] def wCons (we : WE) (wr : WA) : WA := fun ρ Q E => we ρ (fun c ρ1 => wr ρ1 (fun cs ρ2 => Q (c :: cs) ρ2) E) E
@[reducible] def wPk (i : Nat) : WE := fun ρ Q _ => match rget ρ i with
  | .own _ _ => Q (.pk i) ρ
  | _ => False
section
variable {X : Cx} {g : G} {W : WX} {e : Expr} {es : List Expr} {we : WE} {wr : WA} {pos : Pos}
theorem ea_nil : EA X g W [] wNil := ⟨_, pa_nil, fun σ vs H ρ cs QD ED Q hS hw hX hQ => hQ [] H [] ρ rfl hS hw⟩
theorem ea_cons (h : EE X g W e we) (hr : EA X g W es wr) (hs : starEach (e :: es) X.env = (false, eval e X.env) :: starEach es X.env := by rfl) : EA X g W (e :: es) (wCons we wr) := by
  obtain ⟨t, p, s⟩ := h.ex
  obtain ⟨u, p', s'⟩ := hr.ex
  refine ⟨_, pa_cons p p' hs, fun σ vs H ρ cs QD ED Q hS hw hX hQ => ?_⟩
  refine s σ vs H ρ cs _ ED _ hS hw hX fun x H1 c ρ1 S1 q1 => ?_
  refine s' σ (x :: vs) H1 ρ1 (c :: cs) _ ED _ S1 q1 hX fun xs H2 ccs ρ2 hl S2 q2 => ?_
  exact hQ (x :: xs) H2 (c :: ccs) ρ2 (by simp [hl]) (SR.rot hl S2) q2
theorem ee_pk {i : Nat} {x : Str} (hL : g.L i = true) (h : PE X (.Name x pos) (tVar i)) : EE X g W (.Name x pos) (wPk i) := by
  refine ⟨_, h, fun σ vs H ρ cs QD ED Q hS hw hX hQ => ?_⟩
  unfold wPk at hw
  split at hw
  · rename_i t o e
    obtain ⟨a, e1, _⟩ := hS.own e
    exact ⟨_, e1, hQ _ H _ ρ (hS.pushPk e1 hL) hw⟩
  · exact hw.elim
end

/-! ### displays, built-ins -/
@[reducible] def oTup : OL := fun ds k => ds.length ≤ 1000 ∧ k (.v (.tuple ds))
@[reducible] def oLst : OL := fun ds k => ds.length ≤ 1000 ∧ k (.own 0 (.lst ds))
theorem le1000 {n : Nat} (h : n ≤ 1000) : n ≤ sizeLine := Nat.le_of_lt (small1000 h)
theorem same_new {H : Hp} {p : Addr} {o : HO} (n : H p = none) : Same H (upd H p o) := fun b u q => by
  rw [upd_ne (ne_of_none q n)]; exact q
/-- a new tuple of data -/
theorem new_tup {K : PySem.W.Frag} {O : List Addr} {H : Hp} {p : Addr} {xs : List V} {ds : List D} (n : H p = none) (hO : p ∉ O) (h : DpAll K (hide H O) xs ds) : Dp K (hide (upd H p (.tup xs)) O) (.ref p) (.tuple ds) := by
  refine .tup (.inl (.inl (hide_some.mpr ⟨hO, upd_same⟩))) (dpAll_mono (fun a o q => ?_) _ _ h)
  obtain ⟨h1, h2⟩ := hide_some.mp q
  exact hide_some.mpr ⟨h1, same_new n a o h2⟩
theorem new_lst {K : PySem.W.Frag} {O : List Addr} {H : Hp} {p : Addr} {xs : List V} {ds : List D} (n : H p = none) (h : DpAll K (hide H O) xs ds) : NewRes K O H (upd H p (.lst xs)) (.ref p) (.own 0 (.lst ds)) := by
  refine ⟨rfl, p, rfl, n, xs, upd_same, dpAll_mono (fun a o q => ?_) _ _ h⟩
  obtain ⟨h1, h2⟩ := hide_some.mp q
  refine hide_some.mpr ⟨fun z => ?_, same_new n a o h2⟩
  rcases List.mem_cons.mp z with z | z
  · rw [z, n] at h2; cases h2
  · exact h1 z
section
variable {K : PySem.W.Frag} {g : G} {W : WX} {ta : TA} {wa : WA}
@[reducible] def wL (o : OL) (wa : WA) : WE := fun ρ Q E => wa ρ (fun cs ρ1 => useL ρ1 cs o Q) E
theorem sem_L {r : List V → Hp → VK → Prop} {o : OL} (l : LiftL K r o) (ha : SemA K g W ta wa) : Sem K g W (tCB r ta) (wL o wa) := by
  intro σ vs H ρ cs QD ED Q hS hw hX hQ
  refine ha σ vs H ρ cs _ ED _ hS hw hX fun xs H1 ccs ρ1 hl S1 q1 => ?_
  exact SR.useL l hl S1 q1 fun v H' c S3 q3 => hQ v H' c ρ1 S3 q3
theorem lift_tup : LiftL K (fun xs H Q => xs.length ≤ sizeLine ∧ ∀ p, H p = none → Q (.ref p) (upd H p (.tup xs))) oTup := by
  intro O H xs ds QD Q hO hx q fin
  refine ⟨by rw [DL.DpAll.len hx]; exact le1000 q.1, fun p n => ?_⟩
  exact fin _ _ (.v _) (same_new n) (new_tup n (fun z => by obtain ⟨u, e⟩ := hO p z; rw [n] at e; cases e) hx) q.2
theorem lift_lst : LiftL K (fun xs H Q => xs.length ≤ sizeLine ∧ ∀ p, H p = none → Q (.ref p) (upd H p (.lst xs))) oLst := by
  intro O H xs ds QD Q hO hx q fin
  refine ⟨by rw [DL.DpAll.len hx]; exact le1000 q.1, fun p n => ?_⟩
  exact fin _ _ (.own 0 (.lst ds)) (same_new n) (new_lst n hx) q.2
end
section
variable {X : Cx} {g : G} {W : WX} {e : Expr} {es : List Expr} {wa : WA} {pos : Pos}
theorem ee_tup {x1} (h : EA X g W es wa) : EE X g W (.Tuple es x1 pos) (wL oTup wa) := by
  obtain ⟨t, p, s⟩ := h.ex
  exact ⟨_, pe_tup p, sem_L lift_tup s⟩
theorem ee_lst (h : EA X g W es wa) : EE X g W (.List es pos) (wL oLst wa) := by
  obtain ⟨t, p, s⟩ := h.ex
  exact ⟨_, pe_lst p, sem_L lift_lst s⟩
/-- a built-in function by its name -/
theorem ee_cb {x : Str} {p : Pos} {id : String} {r : List V → Hp → VK → Prop} {o : OL} (hc : CallR X (.builtin id) r) (l : LiftL X.K r o) (hg : Gl X x) (hm : X.mg x = none) (hv : bootBuiltins x = some (.builtin id)) (ha : EA X g W (e :: es) wa) (hn : x ≠ "__name__" := by decide)
    (hdb : (x == ("__debug__" : Str)) = false := by decide) (he : starEach (e :: es) X.env = (false, eval e X.env) :: starEach es X.env := by rfl) (hpl : (backTo pos (starEach es X.env)).any (·.1) = false := by rfl) : EE X g W (.Call (.Name x p) (e :: es) [] pos) (wL o wa) := by
  obtain ⟨t, q, s⟩ := ha.ex
  exact ⟨_, pe_callB hc hg hm hv q hn hdb he hpl, sem_L l s⟩
/-- a built-in class by its name -/
theorem ee_ct {x : Str} {p : Pos} {T : String} {r : List V → Hp → VK → Prop} {o : OL} (hc : CallR X (.type T) r) (l : LiftL X.K r o) (hg : Gl X x) (hm : X.mg x = none) (hv : bootBuiltins x = some (.type T)) (ha : EA X g W (e :: es) wa) (hn : x ≠ "__name__" := by decide)
    (hdb : (x == ("__debug__" : Str)) = false := by decide) (he : starEach (e :: es) X.env = (false, eval e X.env) :: starEach es X.env := by rfl) (hpl : (backTo pos (starEach es X.env)).any (·.1) = false := by rfl) : EE X g W (.Call (.Name x p) (e :: es) [] pos) (wL o wa) := by
  obtain ⟨t, q, s⟩ := ha.ex
  exact ⟨_, pe_callTy hc hg hm hv q hn hdb he hpl, sem_L l s⟩
end

/-! ### a def's promise over data -/
/-- what the parameters hold; the wish for the answer and what own objects hold then; the wish for an exception -/
abbrev SpD := List C → (C → List C → Prop) → (XD → List C → Prop) → Prop
def tgOf (xs : List V) (t : Nat) : Addr := match xs[t - 1]? with
  | some (.ref a) => a
  | _ => 0
def mkG (H : Hp) (xs : List V) (as : List C) (P : List Addr) (L : Nat → Bool) : G := ⟨H, tgOf xs, foot (xs.map some) as, P, L⟩
@[reducible] def C.ok : C → Bool
  | .v _ => true
  | .own 0 _ => true
  | _ => false
abbrev L0 : Nat → Bool := fun _ => false
def spOf (K : PySem.W.Frag) (S : SpD) : Sp := fun vs H Q E => ∃ (as : List C) (P : List Addr) (QD : C → List C → Prop) (ED : XD → List C → Prop), SR K (mkG H vs as P L0) (vs.map some) [] H as [] ∧ S as QD ED ∧
  (∀ c rs, c.ok = true → QD c rs → ∀ v H', SR K (mkG H vs as P L0) (vs.map some) [v] H' rs [c] → Q v H') ∧
  (∀ x rs, ED x rs → ∀ cls d H', SR K (mkG H vs as P L0) (vs.map some) [] H' rs [] → XRep K (hide H' (tot (vs.map some) [] rs [] ++ P)) H' x cls d → E cls d H')
theorem SR.setL {K : PySem.W.Frag} {g g' : G} {σ : L2.St} {vs : List V} {H : Hp} {ρ : Rho} {cs : List C} (h : SR K g σ vs H ρ cs) (e1 : g'.H0 = g.H0) (e2 : g'.tg = g.tg) (e3 : g'.Oa = g.Oa) (e4 : g'.P0 = g.P0) (hp : ∀ i, (C.pk i ∈ cs ∨ C.ln i ∈ cs) → g'.L i = true) : SR K g' σ vs H ρ cs := by
  obtain ⟨H0, tg, Oa, P0, L⟩ := g
  obtain ⟨H0', tg', Oa', P0', L'⟩ := g'
  cases e1; cases e2; cases e3; cases e4
  refine ⟨h.fr, h.dm, h.pr, h.nw, h.nd, ?_, ?_, hp⟩
  · have q := h.sl
    revert q
    generalize hide H _ = B
    intro q
    have go : ∀ (σ0 : List (Option V)) (ρ0 : List C), RCs K ⟨H0, tg, Oa, P0, L⟩ [] B H σ0 ρ0 → RCs K ⟨H0, tg, Oa, P0, L'⟩ [] B H σ0 ρ0 := by
      intro σ0
      induction σ0 with
      | nil => intro ρ0 q; cases ρ0 <;> exact q
      | cons v σ0 ih =>
        intro ρ0 q
        cases ρ0 with
        | nil => exact q
        | cons c ρ0 => exact ⟨by cases c <;> exact q.1, ih ρ0 q.2⟩
    exact go _ _ q
  · have q := h.tp
    revert q
    generalize hide H _ = B
    intro q
    have go : ∀ (σ0 : List (Option V)) (ρ0 : List C), RCs K ⟨H0, tg, Oa, P0, L⟩ σ B H σ0 ρ0 → RCs K ⟨H0, tg, Oa, P0, L'⟩ σ B H σ0 ρ0 := by
      intro σ0
      induction σ0 with
      | nil => intro ρ0 q; cases ρ0 <;> exact q
      | cons v σ0 ih =>
        intro ρ0 q
        cases ρ0 with
        | nil => exact q
        | cons c ρ0 => exact ⟨by cases c <;> exact q.1, ih ρ0 q.2⟩
    exact go _ _ q
/-- what a callee's parameters hold -/
def argM (ρ : Rho) : Nat → List C → Option (List C)
  | _, [] => some []
  | k, .own _ o :: cs => (argM ρ (k + 1) cs).map (C.own (k + 1) o :: ·)
  | k, c :: cs => match dat ρ c, argM ρ (k + 1) cs with
    | some d, some as => some (.v d :: as)
    | _, _ => none
/-- own objects behind a call: with the caller's tags -/
@[reducible] def retag : C → C → C
  | .own t _, .own _ o => .own t o
  | .own _ _, _ => .no
  | c, _ => c
@[reducible] def retags : List C → List C → List C
  | c :: cs, r :: rs => retag c r :: retags cs rs
  | cs, [] => cs
  | [], _ => []
@[reducible] def C.lfo : C → Bool
  | .own _ (.lst ds) => lfree.lfreeAll ds
  | .own _ (.dct _) => false
  | _ => true
theorem foot_argM {ρ : Rho} : ∀ {ys : List (Option V)} {qs as : List C} {k : Nat}, argM ρ k qs = some as → foot ys as = foot ys qs
  | ys, [], as, k, h => by cases h; rfl
  | [], q :: qs, as, k, _ => by cases as <;> rfl
  | y :: ys, q :: qs, as, k, h => by
    cases q with
    | own t o =>
      unfold argM at h
      cases e : argM ρ (k + 1) qs with
      | none => rw [e] at h; cases h
      | some as' =>
        rw [e] at h
        cases h
        show footC y (.own (k + 1) o) ++ foot ys as' = footC y (.own t o) ++ foot ys qs
        rw [foot_argM e]
        have e3 : footC y (.own (k + 1) o) = footC y (.own t o) := by
          cases y with
          | none => rfl
          | some x => cases x <;> rfl
        rw [e3]
    | _ =>
      unfold argM at h
      split at h
      · rename_i d as' e1 e2
        cases h
        show footC y (.v d) ++ foot ys as' = footC y _ ++ foot ys qs
        rw [foot_argM e2, footC_v]
        cases y with
        | none => rfl
        | some x => cases x <;> rfl
      · cases h
theorem foot_retags : ∀ {ys : List (Option V)} {qs rs : List C}, ys.length = qs.length → qs.length = rs.length → (foot ys (retags qs rs)).Sublist (foot ys qs) ∧ ∀ a ∈ foot ys (retags qs rs), a ∈ foot ys rs
  | [], [], [], _, _ => ⟨List.Sublist.refl _, fun _ h => h⟩
  | y :: ys, q :: qs, r :: rs, h1, h2 => by
    obtain ⟨i1, i2⟩ := foot_retags (ys := ys) (qs := qs) (rs := rs) (by simpa using h1) (by simpa using h2)
    have key : (footC y (retag q r)).Sublist (footC y q) ∧ ∀ a ∈ footC y (retag q r), a ∈ footC y r := by
      cases q with
      | own t o =>
        cases r with
        | own t' o' =>
          refine ⟨?_, fun a ha => ?_⟩
          · show (footC y (.own t o')).Sublist (footC y (.own t o))
            cases y with
            | none => exact List.Sublist.refl _
            | some x => cases x <;> exact List.Sublist.refl _
          · revert ha
            show a ∈ footC y (.own t o') → a ∈ footC y (.own t' o')
            cases y with
            | none => exact id
            | some x => cases x <;> exact id
        | _ =>
          show (footC y .no).Sublist _ ∧ ∀ a ∈ footC y .no, _
          rw [footC_no]
          exact ⟨List.nil_sublist _, fun a ha => by simp at ha⟩
      | _ =>
        have e : ∀ c : C, (∀ t o, c ≠ .own t o) → footC y c = [] := fun c hc => by
          cases c with
          | own t o => exact absurd rfl (hc t o)
          | _ =>
            cases y with
            | none => rfl
            | some x => cases x <;> rfl
        refine ⟨List.Sublist.refl _, fun a ha => ?_⟩
        rw [show footC y (retag _ r) = [] from e _ (fun t o z => by cases z)] at ha
        simp at ha
    refine ⟨key.1.append i1, fun a ha => ?_⟩
    rcases List.mem_append.mp (show a ∈ footC y (retag q r) ++ foot ys (retags qs rs) from ha) with z | z
    · exact List.mem_append_left _ (key.2 a z)
    · exact List.mem_append_right _ (i2 a z)
  | [], _ :: _, _, h, _ => by simp at h
  | _ :: _, [], _, h, _ => by simp at h
  | _, [], _ :: _, _, h => by simp at h
  | _, _ :: _, [], _, h => by simp at h
theorem argM_len {ρ : Rho} : ∀ {qs as : List C} {n : Nat}, argM ρ n qs = some as → qs.length = as.length
  | [], as, n, h => by cases h; rfl
  | q :: qs, as, n, h => by
    cases q with
    | own t o =>
      unfold argM at h
      cases e : argM ρ (n + 1) qs with
      | none => rw [e] at h; cases h
      | some as' =>
        rw [e] at h
        cases h
        simp [argM_len e]
    | _ =>
      unfold argM at h
      split at h
      · rename_i d as' e1 e2
        cases h
        simp [argM_len e2]
      · cases h
section
variable {K : PySem.W.Frag} {g : G} {σ : L2.St} {vs : List V} {H H' : Hp} {ρ : Rho} {cs : List C}
/-- data moves to a heap where more is hidden: what is hidden besides holds lists, and the data has none -/
theorem dp_more {B : Hp} {A S T : List Addr} {v : V} {d : D} (hA : ∀ a ∈ A, ∃ xs, B a = some (.lst xs)) (hT : ∀ a ∈ T, a ∈ A ∨ a ∈ S) (hl : A = [] ∨ lfree d = true) (h : Dp K (hide B S) v d) : Dp K (hide B T) v d := by
  have up : ∀ R : List Addr, (∀ a ∈ T, a ∈ R) → Dp K (hide B R) v d → Dp K (hide B T) v d := fun R hR q => dp_mono (fun a o e => by
    obtain ⟨h1, h2⟩ := hide_some.mp e
    exact hide_some.mpr ⟨fun z => h1 (hR a z), h2⟩) _ _ q
  rcases hl with e | e
  · subst e
    exact up S (fun a ha => (hT a ha).resolve_left (by simp)) h
  · exact up (A ++ S) (fun a ha => List.mem_append.mpr (hT a ha)) (dp_lf hA d v e h)
theorem dpAll_more {B : Hp} {A S T : List Addr} : ∀ {ds : List D} {v : List V}, (∀ a ∈ A, ∃ xs, B a = some (.lst xs)) → (∀ a ∈ T, a ∈ A ∨ a ∈ S) → (A = [] ∨ lfree.lfreeAll ds = true) → DpAll K (hide B S) v ds → DpAll K (hide B T) v ds
  | [], _, _, _, _, h => by cases h; exact .nil
  | d :: ds, _, hA, hT, hl, h => by
    cases h with
    | cons h1 h2 =>
      refine .cons (dp_more hA hT (hl.imp id fun z => ?_) h1) (dpAll_more hA hT (hl.imp id fun z => ?_) h2)
      · have q : lfree d = true ∧ lfree.lfreeAll ds = true := by simpa [lfree.lfreeAll] using z
        exact q.1
      · have q : lfree d = true ∧ lfree.lfreeAll ds = true := by simpa [lfree.lfreeAll] using z
        exact q.2
theorem ownAt_more {B : Hp} {A S T : List Addr} {a : Addr} {o : OD} (hA : ∀ a ∈ A, ∃ xs, B a = some (.lst xs)) (hT : ∀ a ∈ T, a ∈ A ∨ a ∈ S) (hl : A = [] ∨ C.lfo (.own 0 o) = true) (h : OwnAt K (hide B S) B a o) : OwnAt K (hide B T) B a o := by
  cases o with
  | lst ds =>
    obtain ⟨xs, h1, h2⟩ := h
    exact ⟨xs, h1, dpAll_more hA hT hl h2⟩
  | dct kvs =>
    rcases hl with e | e
    · subst e
      refine h.mono (fun a o e => ?_) fun _ q => q
      obtain ⟨h1, h2⟩ := hide_some.mp e
      exact hide_some.mpr ⟨fun z => h1 ((hT a z).resolve_left (by simp)), h2⟩
    · cases e
theorem SR.callM {xs : List V} {ccs as : List C} (h : SR K g σ (xs ++ vs) H ρ (ccs ++ cs)) (hl : xs.length = ccs.length) (ha : argM ρ 0 ccs = some as) :
    ∃ P, SR K (mkG H xs as P L0) (xs.map some) [] H as [] ∧
      (∀ v H' c rs, c.ok = true → SR K (mkG H xs as P L0) (xs.map some) [v] H' rs [c] → (ccs.any C.isLn = true → c.lf = true ∧ ∀ r ∈ retags ccs rs, r.lfo = true) → SR K g σ (v :: (xs ++ vs)) H' ρ (c :: (retags ccs rs ++ cs))) ∧
      (∀ H' rs, SR K (mkG H xs as P L0) (xs.map some) [] H' rs [] → (ccs.any C.isLn = true → ∀ r ∈ retags ccs rs, r.lfo = true) → SR K g σ (xs ++ vs) H' ρ (retags ccs rs ++ cs) ∧ (ccs.any C.isLn = false →
        Same (hide H' (tot (xs.map some) [] rs [] ++ P)) (hide H' (tot σ (xs ++ vs) ρ (retags ccs rs ++ cs) ++ g.P0)))) := by
  have fa : foot (xs.map some) as = foot (xs.map some) ccs := foot_argM ha
  have nd := h.nd
  rw [tot_app hl] at nd
  obtain ⟨nd1, nd2, nd3⟩ := List.nodup_append.mp nd
  have tp := h.tp
  rw [List.map_append] at tp
  obtain ⟨tp1, tp2⟩ := RCs.split (by simpa using hl) tp
  have base : SR K g σ vs H ρ cs := h.pops hl
  have hdj : ∀ a ∈ foot (xs.map some) ccs, a ∉ tot σ vs ρ cs ++ g.P0 := fun a h1 h2 => by
    rcases List.mem_append.mp h2 with z | z
    · exact nd3 a h1 a z rfl
    · exact h.pout a (by rw [tot_app hl]; exact List.mem_append_left _ h1) z
  have hsub : ∀ a ∈ lentA σ ρ ccs, a ∈ foot σ ρ := fun a q => by
    obtain ⟨i, t, zs, h1, h2, h3⟩ := lentA_mem q
    obtain ⟨b, e4, q5, _⟩ := h.own h3
    rw [h2] at e4
    cases e4
    exact q5
  have hlst : ∀ a ∈ lentA σ ρ ccs, ∃ xs, H a = some (.lst xs) := fun a q => by
    obtain ⟨i, t, zs, h1, h2, h3⟩ := lentA_mem q
    obtain ⟨b, e4, _, ⟨us, q2, _⟩, _⟩ := h.own h3
    rw [h2] at e4
    cases e4
    exact ⟨us, q2⟩
  refine ⟨(tot σ vs ρ cs ++ g.P0).filter fun a => decide (a ∉ lentA σ ρ ccs), ?_, ?_⟩
  · -- the callee's entry
    refine ⟨fun a o e _ => e, fun a o e => ⟨o, e⟩, fun a q => ?_, fun a q => .inl q, ?_, ?_, trivial, fun i q => by simp at q⟩
    · have q1 := (List.mem_filter.mp q).1
      refine ⟨fun z => ?_, base.domO a q1⟩
      have z' : a ∈ foot (xs.map some) as := z
      rw [fa] at z'
      exact hdj a z' q1
    · show (foot ([].map some) [] ++ foot (xs.map some) as).Nodup
      rw [fa]; exact nd1
    · have up : Same (hide H (tot σ (xs ++ vs) ρ (ccs ++ cs) ++ g.P0)) (hide H (foot (xs.map some) as ++ (tot σ vs ρ cs ++ g.P0).filter fun a => decide (a ∉ lentA σ ρ ccs))) := fun a o q => by
        obtain ⟨h1, h2⟩ := hide_some.mp q
        refine hide_some.mpr ⟨fun z => h1 ?_, h2⟩
        rw [tot_app hl, fa] at *
        rcases List.mem_append.mp z with z | z
        · exact List.mem_append_left _ (List.mem_append_left _ z)
        · rcases List.mem_append.mp (List.mem_filter.mp z).1 with z | z
          · exact List.mem_append_left _ (List.mem_append_right _ z)
          · exact List.mem_append_right _ z
      have key : ∀ (ys : List V) (qs as' : List C) (k : Nat), ys.length = qs.length → (∀ j, ys[j]? = xs[k + j]?) → (∀ c ∈ qs, c ∈ ccs) → (∀ a ∈ foot (ys.map some) qs, a ∈ foot (xs.map some) ccs) → RCs K g σ (hide H (tot σ (xs ++ vs) ρ (ccs ++ cs) ++ g.P0)) H (ys.map some) qs → argM ρ k qs = some as' →
          RCs K (mkG H xs as ((tot σ vs ρ cs ++ g.P0).filter fun a => decide (a ∉ lentA σ ρ ccs)) L0) [] (hide H (foot (xs.map some) as ++ (tot σ vs ρ cs ++ g.P0).filter fun a => decide (a ∉ lentA σ ρ ccs))) H (ys.map some) as' := by
        intro ys
        induction ys with
        | nil =>
          intro qs as' k hlen _ _ _ _ ham
          cases qs with
          | nil => cases ham; trivial
          | cons _ _ => simp at hlen
        | cons y ys ih =>
          intro qs as' k hlen hix hin hft hrc ham
          cases qs with
          | nil => simp at hlen
          | cons q qs =>
            have hq := hrc.1
            have next : ∀ as'', argM ρ (k + 1) qs = some as'' → RCs K (mkG H xs as ((tot σ vs ρ cs ++ g.P0).filter fun a => decide (a ∉ lentA σ ρ ccs)) L0) [] (hide H (foot (xs.map some) as ++ (tot σ vs ρ cs ++ g.P0).filter fun a => decide (a ∉ lentA σ ρ ccs))) H (ys.map some) as'' := fun as'' e =>
              ih qs as'' (k + 1) (by simpa using hlen) (fun j => by have := hix (j + 1); rw [List.getElem?_cons_succ] at this; rw [this]; congr 1; omega) (fun c hc => hin c (List.mem_cons_of_mem _ hc)) (fun a z => hft a (by rw [List.map_cons, foot]; exact List.mem_append_right _ z)) hrc.2 e
            have datum : ∀ d, (∃ d0 as'', dat ρ q = some d0 ∧ argM ρ (k + 1) qs = some as'' ∧ as' = .v d0 :: as'' ∧ d = d0) → Dp K (hide H (foot (xs.map some) as ++ (tot σ vs ρ cs ++ g.P0).filter fun a => decide (a ∉ lentA σ ρ ccs))) y d → RCs K (mkG H xs as ((tot σ vs ρ cs ++ g.P0).filter fun a => decide (a ∉ lentA σ ρ ccs)) L0) [] (hide H (foot (xs.map some) as ++ (tot σ vs ρ cs ++ g.P0).filter fun a => decide (a ∉ lentA σ ρ ccs))) H ((y :: ys).map some) as' := by
              rintro d ⟨d0, as'', e1, e2, e3, rfl⟩ hd
              subst e3
              exact ⟨⟨y, rfl, hd⟩, next _ e2⟩
            have spl : ∀ {q}, (∀ t o, q ≠ C.own t o) → argM ρ k (q :: qs) = some as' → ∃ d as'', dat ρ q = some d ∧ argM ρ (k + 1) qs = some as'' ∧ as' = .v d :: as'' := by
              intro q hno e
              unfold argM at e
              split at e
              · rename_i z; cases z
              · rename_i t o _ z; cases z; exact absurd rfl (hno _ _)
              · rename_i c cs' _ z
                cases z
                split at e
                · rename_i d as'' e1 e2
                  cases e
                  exact ⟨d, as'', e1, e2, rfl⟩
                · cases e
            cases q with
            | no => obtain ⟨d, as'', e1, _⟩ := spl (fun t o z => by cases z) ham; cases e1
            | pk i => obtain ⟨d, as'', e1, _⟩ := spl (fun t o z => by cases z) ham; cases e1
            | v d' =>
              obtain ⟨d, as'', e1, e2, e3⟩ := spl (fun t o z => by cases z) ham
              cases e1
              obtain ⟨x, e4, q1⟩ := hq
              cases e4
              exact datum _ ⟨_, _, rfl, e2, e3, rfl⟩ (dp_mono up _ _ q1)
            | own t o =>
              unfold argM at ham
              cases e : argM ρ (k + 1) qs with
              | none => rw [e] at ham; cases ham
              | some as'' =>
                rw [e] at ham
                cases ham
                obtain ⟨a, e4, q1, _⟩ := hq
                cases e4
                refine ⟨⟨a, rfl, q1.mono up fun _ z => z, fun _ => ?_, fun z => by cases z⟩, next _ e⟩
                have e5 := hix 0
                rw [List.getElem?_cons_zero, Nat.add_zero] at e5
                show (match xs[k + 1 - 1]? with
                  | some (.ref a) => a
                  | _ => 0) = a
                rw [Nat.add_sub_cancel, ← e5]
            | ln i =>
              obtain ⟨d, as'', e1, e2, e3⟩ := spl (fun t o z => by cases z) ham
              refine datum _ ⟨_, _, e1, e2, e3, rfl⟩ ?_
              obtain ⟨x, e4, q1⟩ := hq
              cases e4
              have hin' := hin (.ln i) List.mem_cons_self
              revert e1
              show (match rget ρ i with
                | .own _ (.lst ds) => some (PyData.list ds)
                | .v d => some d
                | _ => none) = some d → _
              split
              · rename_i t zs eo
                intro e1
                cases e1
                obtain ⟨a, e6, q7, ⟨us, q2, q3⟩, _⟩ := h.own eo
                rw [q1] at e6
                cases e6
                refine .lst (.inl (.inl (hide_some.mpr ⟨fun z => ?_, q2⟩))) (dpAll_mono up _ _ q3)
                rcases List.mem_append.mp z with z | z
                · rw [fa] at z
                  exact hdj a z (List.mem_append_left _ (List.mem_append_right _ q7))
                · exact of_decide_eq_true (List.mem_filter.mp z).2 (mem_lentA hin' q1 eo)
              · rename_i d' eo
                intro e1
                cases e1
                obtain ⟨x', e6, q2⟩ := h.slot eo
                rw [q1] at e6
                cases e6
                exact dp_mono up _ _ q2
              · intro e1; cases e1
      exact key xs ccs as 0 hl (fun j => by rw [Nat.zero_add]) (fun _ q => q) (fun _ q => q) tp1 ha
  · -- behind the call
    have common : ∀ (ws : List V) (H' : Hp) (ds rs : List C), SR K (mkG H xs as ((tot σ vs ρ cs ++ g.P0).filter fun a => decide (a ∉ lentA σ ρ ccs)) L0) (xs.map some) ws H' rs ds → ws.length = ds.length →
        (∀ c ∈ ds, c.ok = true) → ds.length ≤ 1 → (ccs.any C.isLn = true → (∀ c ∈ ds, c.lf = true) ∧ ∀ r ∈ retags ccs rs, r.lfo = true) → SR K g σ (ws ++ (xs ++ vs)) H' ρ (ds ++ (retags ccs rs ++ cs)) := by
      intro ws H' ds rs S' hwl hok hd1 hlf
      have lr : ccs.length = rs.length := by
        have q := S'.sl.len
        rw [List.length_map] at q
        omega
      obtain ⟨fr1, fr2⟩ := foot_retags (ys := xs.map some) (by simpa using hl) lr
      have keep : ∀ a o, a ∉ foot (xs.map some) ccs → H a = some o → H' a = some o := fun a o n e => S'.fr a o e (by show a ∉ foot (xs.map some) as; rw [fa]; exact n)
      have fresh : ∀ a ∈ foot (ws.map some) ds, H a = none := fun a q => by
        have hin : ∃ t o, C.own t o ∈ ds ∧ RC K (mkG H xs as ((tot σ vs ρ cs ++ g.P0).filter fun a => decide (a ∉ lentA σ ρ ccs)) L0) (xs.map some) (hide H' (tot (xs.map some) ws rs ds ++ (tot σ vs ρ cs ++ g.P0).filter fun a => decide (a ∉ lentA σ ρ ccs))) H' (some (.ref a)) (.own t o) := by
          have go : ∀ (us : List V) (es : List C), RCs K (mkG H xs as ((tot σ vs ρ cs ++ g.P0).filter fun a => decide (a ∉ lentA σ ρ ccs)) L0) (xs.map some) (hide H' (tot (xs.map some) ws rs ds ++ (tot σ vs ρ cs ++ g.P0).filter fun a => decide (a ∉ lentA σ ρ ccs))) H' (us.map some) es → a ∈ foot (us.map some) es →
              ∃ t o, C.own t o ∈ es ∧ RC K (mkG H xs as ((tot σ vs ρ cs ++ g.P0).filter fun a => decide (a ∉ lentA σ ρ ccs)) L0) (xs.map some) (hide H' (tot (xs.map some) ws rs ds ++ (tot σ vs ρ cs ++ g.P0).filter fun a => decide (a ∉ lentA σ ρ ccs))) H' (some (.ref a)) (.own t o) := by
            intro us
            induction us with
            | nil => intro es _ z; cases es <;> simp [foot] at z
            | cons u us ih =>
              intro es hr z
              cases es with
              | nil => simp [foot] at z
              | cons e es =>
                rcases List.mem_append.mp (show a ∈ footC (some u) e ++ foot (us.map some) es from z) with z | z
                · cases e with
                  | own t o =>
                    obtain ⟨b, e1, e2⟩ := id hr.1
                    cases e1
                    have e3 : a = b := by simpa [footC] using z
                    subst e3
                    exact ⟨t, o, List.mem_cons_self, hr.1⟩
                  | _ => cases u <;> simp [footC] at z
                · obtain ⟨t, o, h1, h2⟩ := ih es hr.2 z
                  exact ⟨t, o, List.mem_cons_of_mem _ h1, h2⟩
          exact go ws ds S'.tp q
        obtain ⟨t, o, h1, b, e1, _, _, h3⟩ := hin
        cases e1
        have h4 := hok _ h1
        cases t with
        | zero => exact h3 rfl
        | succ t => cases h4
      have e1 : tot σ (ws ++ (xs ++ vs)) ρ (ds ++ (retags ccs rs ++ cs)) = foot (ws.map some) ds ++ (foot (xs.map some) (retags ccs rs) ++ tot σ vs ρ cs) := by
        rw [tot_app hwl, tot_app]
        have : ∀ {a b : List C}, a.length = b.length → (retags a b).length = a.length := by
          intro a
          induction a with
          | nil => intro b _; cases b <;> rfl
          | cons x a ih => intro b hb; cases b with
            | nil => simp at hb
            | cons y b => simp [retags, ih (b := b) (by simpa using hb)]
        rw [this lr]; exact hl
      have sub : (foot (xs.map some) (retags ccs rs) ++ tot σ vs ρ cs).Sublist (foot (xs.map some) ccs ++ tot σ vs ρ cs) := fr1.append_right _
      have hT : ∀ a ∈ tot σ (ws ++ (xs ++ vs)) ρ (ds ++ (retags ccs rs ++ cs)) ++ g.P0, a ∈ lentA σ ρ ccs ∨ a ∈ tot (xs.map some) ws rs ds ++ (tot σ vs ρ cs ++ g.P0).filter fun a => decide (a ∉ lentA σ ρ ccs) := fun a q => by
        rw [e1] at q
        by_cases z : a ∈ lentA σ ρ ccs
        · exact .inl z
        · right
          rcases List.mem_append.mp q with q | q
          · rcases List.mem_append.mp q with q | q
            · exact List.mem_append_left _ (List.mem_append_left _ q)
            · rcases List.mem_append.mp q with q | q
              · exact List.mem_append_left _ (List.mem_append_right _ (fr2 a q))
              · exact List.mem_append_right _ (List.mem_filter.mpr ⟨List.mem_append_left _ q, decide_eq_true z⟩)
          · exact List.mem_append_right _ (List.mem_filter.mpr ⟨List.mem_append_right _ q, decide_eq_true z⟩)
      have hA' : ∀ a ∈ lentA σ ρ ccs, ∃ xs, H' a = some (.lst xs) := fun a q => by
        obtain ⟨us, e⟩ := hlst a q
        exact ⟨us, keep a _ (fun z => hdj a z (List.mem_append_left _ (List.mem_append_right _ (hsub a q)))) e⟩
      have hE : lentA σ ρ ccs = [] ∨ ((∀ c ∈ ds, c.lf = true) ∧ ∀ r ∈ retags ccs rs, r.lfo = true) := by
        cases hb : ccs.any C.isLn with
        | false => exact .inl (lentA_none hb)
        | true => exact .inr (hlf hb)
      refine h.gen (fun a o n e => keep a o (fun z => n (by rw [tot_app hl]; exact List.mem_append_left _ z)) e) S'.dm (fun a q => ?_) ?_ (fun hB => h.sl.mono hB fun a q u e => ?_) (fun hB => ?_) (fun i q => h.pk i ?_)
      · rw [e1] at q
        rcases List.mem_append.mp q with q | q
        · exact .inr (fresh a q)
        · exact .inl (by rw [tot_app hl]; exact sub.subset q)
      · rw [e1]
        refine List.nodup_append.mpr ⟨(List.nodup_append.mp S'.nd).1, sub.nodup nd, fun a q b z e => ?_⟩
        subst e
        obtain ⟨u, e2⟩ := h.there a (by rw [tot_app hl]; exact sub.subset z)
        rw [fresh a q] at e2; cases e2
      · exact keep a u (fun z => hdj a z (List.mem_append_left _ (List.mem_append_right _ q))) e
      · rw [List.map_append, List.map_append]
        refine RCs.app ?_ (RCs.app ?_ (tp2.mono hB fun a q u e => keep a u (fun z => hdj a z (List.mem_append_left _ (List.mem_append_left _ q))) e))
        · -- the answer
          have go : ∀ (us : List V) (es : List C), (∀ c ∈ es, c ∈ ds) → RCs K (mkG H xs as ((tot σ vs ρ cs ++ g.P0).filter fun a => decide (a ∉ lentA σ ρ ccs)) L0) (xs.map some) (hide H' (tot (xs.map some) ws rs ds ++ (tot σ vs ρ cs ++ g.P0).filter fun a => decide (a ∉ lentA σ ρ ccs))) H' (us.map some) es → (∀ a ∈ foot (us.map some) es, H a = none) →
              RCs K g σ (hide H' (tot σ (ws ++ (xs ++ vs)) ρ (ds ++ (retags ccs rs ++ cs)) ++ g.P0)) H' (us.map some) es := by
            intro us
            induction us with
            | nil => intro es _ z _; cases es <;> exact z
            | cons u us ih =>
              intro es hin hr hf
              cases es with
              | nil => exact hr
              | cons e es =>
                refine ⟨?_, ih es (fun c hc => hin c (List.mem_cons_of_mem _ hc)) hr.2 fun a z => hf a (List.mem_append_right _ z)⟩
                have q := hr.1
                have hm := hin e List.mem_cons_self
                have hk := hok e hm
                cases e with
                | v d =>
                  obtain ⟨x, e2, q2⟩ := q
                  exact ⟨x, e2, dp_more hA' hT (hE.imp id fun z => z.1 _ hm) q2⟩
                | own t o =>
                  obtain ⟨a, e2, q2, _, _⟩ := q
                  cases e2
                  have t0 : t = 0 := by cases t with
                    | zero => rfl
                    | succ t => cases hk
                  subst t0
                  refine ⟨a, rfl, ownAt_more hA' hT (hE.imp id fun z => ?_) q2, fun z => absurd rfl z, fun _ => ?_⟩
                  · have z1 := z.1 _ hm
                    cases o with
                    | lst ds => exact z1
                    | dct _ => cases z1
                  · have e3 := hf a (List.mem_append_left _ (by simp [footC]))
                    cases e4 : g.H0 a with
                    | none => rfl
                    | some o' =>
                      obtain ⟨o2, e5⟩ := h.dm a o' e4
                      rw [e3] at e5; cases e5
                | no => cases hk
                | pk i => cases hk
                | ln i => cases hk
          exact go ws ds (fun _ q => q) S'.tp fresh
        · -- the arguments
          have go : ∀ (us : List V) (es rs' : List C), us.length = es.length → es.length = rs'.length → (∀ r ∈ retags es rs', r ∈ retags ccs rs) → (∀ c ∈ es, c ∈ ccs) → RCs K g σ (hide H (tot σ (xs ++ vs) ρ (ccs ++ cs) ++ g.P0)) H (us.map some) es →
              RCs K (mkG H xs as ((tot σ vs ρ cs ++ g.P0).filter fun a => decide (a ∉ lentA σ ρ ccs)) L0) [] (hide H' (tot (xs.map some) ws rs ds ++ (tot σ vs ρ cs ++ g.P0).filter fun a => decide (a ∉ lentA σ ρ ccs))) H' (us.map some) rs' →
              RCs K g σ (hide H' (tot σ (ws ++ (xs ++ vs)) ρ (ds ++ (retags ccs rs ++ cs)) ++ g.P0)) H' (us.map some) (retags es rs') := by
            intro us
            induction us with
            | nil =>
              intro es rs' h1 h2 _ _ _ _
              cases es with
              | nil => cases rs' with
                | nil => trivial
                | cons _ _ => simp at h2
              | cons _ _ => simp at h1
            | cons u us ih =>
              intro es rs' h1 h2 hrs hcs hr1 hr2
              cases es with
              | nil => simp at h1
              | cons e es =>
                cases rs' with
                | nil => simp at h2
                | cons r rs' =>
                  refine ⟨?_, ih es rs' (by simpa using h1) (by simpa using h2) (fun c hc => hrs c (List.mem_cons_of_mem _ hc)) (fun c hc => hcs c (List.mem_cons_of_mem _ hc)) hr1.2 hr2.2⟩
                  have q1 := hr1.1
                  have q2 := hr2.1
                  cases e with
                  | own t o =>
                    cases r with
                    | own t' o' =>
                      obtain ⟨a, e2, _, q3, q4⟩ := q1
                      cases e2
                      obtain ⟨b, e3, q5, _, _⟩ := q2
                      cases e3
                      refine ⟨a, rfl, ownAt_more hA' hT (hE.imp id fun z => (show C.lfo (.own 0 o') = true from (show C.lfo (.own t o') = C.lfo (.own 0 o') by cases o' <;> rfl) ▸ z.2 _ (hrs (.own t o') List.mem_cons_self))) q5, q3, q4⟩
                    | _ => exact trivial
                  | v d =>
                    obtain ⟨x, e2, q3⟩ := q1
                    exact ⟨x, e2, dp_mono hB _ _ q3⟩
                  | no => exact trivial
                  | pk i => exact q1
                  | ln i => exact q1
          exact go xs ccs rs hl lr (fun _ q => q) (fun _ q => q) tp1 S'.sl
      · have nok : ∀ c ∈ ds, c ≠ .pk i ∧ c ≠ .ln i := fun c hc => ⟨fun z => (by have := hok c hc; rw [z] at this; cases this), fun z => (by have := hok c hc; rw [z] at this; cases this)⟩
        have inR : ∀ {a b : List C} (x : C), (∀ t o, x ≠ .own t o) → x ≠ .no → x ∈ retags a b → x ∈ a := by
          intro a
          induction a with
          | nil => intro b x _ _ z; cases b <;> exact z
          | cons y a ih =>
            intro b x h1 h2 z
            cases b with
            | nil => exact z
            | cons r b =>
              rcases List.mem_cons.mp z with e | z
              · cases y with
                | own t o => cases r with
                  | own t' o' => exact absurd e (h1 _ _)
                  | _ => exact absurd e h2
                | _ => rw [e]; exact List.mem_cons_self
              · exact List.mem_cons_of_mem _ (ih x h1 h2 z)
        rcases q with q | q
        · rcases List.mem_append.mp q with q | q
          · exact absurd rfl (nok _ q).1
          · rcases List.mem_append.mp q with q | q
            · exact .inl (List.mem_append_left _ (inR _ (fun t o z => by cases z) (fun z => by cases z) q))
            · exact .inl (List.mem_append_right _ q)
        · rcases List.mem_append.mp q with q | q
          · exact absurd rfl (nok _ q).2
          · rcases List.mem_append.mp q with q | q
            · exact .inr (List.mem_append_left _ (inR _ (fun t o z => by cases z) (fun z => by cases z) q))
            · exact .inr (List.mem_append_right _ q)
    refine ⟨fun v H' c rs hk S' hlf => ?_, fun H' rs S' hlf => ⟨?_, fun hb => ?_⟩⟩
    · exact common [v] H' [c] rs S' rfl (fun c' hc => by rw [List.mem_singleton.mp hc]; exact hk) (Nat.le_refl _) fun z => ⟨fun c' hc => by rw [List.mem_singleton.mp hc]; exact (hlf z).1, (hlf z).2⟩
    · exact common [] H' [] rs S' rfl (fun c' hc => by simp at hc) (Nat.zero_le _) (fun z => And.intro (fun c' hc => by simp at hc) (hlf z))
    · have lr : ccs.length = rs.length := by
        have q := S'.sl.len
        rw [List.length_map] at q
        omega
      obtain ⟨fr1, fr2⟩ := foot_retags (ys := xs.map some) (by simpa using hl) lr
      intro a o e
      obtain ⟨h1, h2⟩ := hide_some.mp e
      refine hide_some.mpr ⟨fun z => h1 ?_, h2⟩
      have e0 := lentA_none (σ := σ) (ρ := ρ) hb
      have lrt : xs.length = (retags ccs rs).length := by
        have : ∀ {a b : List C}, a.length = b.length → (retags a b).length = a.length := by
          intro a
          induction a with
          | nil => intro b _; cases b <;> rfl
          | cons x a ih => intro b hb; cases b with
            | nil => simp at hb
            | cons y b => simp [retags, ih (b := b) (by simpa using hb)]
        rw [this lr]; exact hl
      rw [tot_app lrt] at z
      rcases List.mem_append.mp z with z | z
      · rcases List.mem_append.mp z with z | z
        · exact List.mem_append_left _ (List.mem_append_right _ (fr2 a z))
        · exact List.mem_append_right _ (List.mem_filter.mpr ⟨List.mem_append_left _ z, decide_eq_true (by rw [e0]; simp)⟩)
      · exact List.mem_append_right _ (List.mem_filter.mpr ⟨List.mem_append_right _ z, decide_eq_true (by rw [e0]; simp)⟩)
end
end DL

set_option Elab.async false
set_option linter.all false
set_option maxRecDepth 100000
set_option maxHeartbeats 4000000
/-! DL, calls of the program's own defs. -/
namespace DL
open PySem PySem.Spec PyProof.Rows L2
section
variable {K : PySem.W.Frag} {g : G} {σ : L2.St} {vs : List V} {H H' : Hp} {ρ : Rho} {cs : List C}
theorem SR.popAll : ∀ {vs : List V} {cs : List C}, SR K g σ vs H ρ cs → SR K g σ [] H ρ []
  | [], [], h => h
  | _ :: _, _ :: _, h => SR.popAll h.pop
  | [], _ :: _, h => (show False from h.tp).elim
  | _ :: _, [], h => (show False from h.tp).elim
theorem XFs.mono {B B' : Hp} (e : Same B B') : ∀ {ps : List (Str × V)} {qs : List (Str × D)}, XFs K B ps qs → XFs K B' ps qs
  | [], [], h => h
  | p :: ps, q :: qs, h => ⟨h.1, dp_mono e _ _ h.2.1, XFs.mono e h.2.2⟩
  | [], _ :: _, h => h.elim
  | _ :: _, [], h => h.elim
theorem XRep.mono {B B' : Hp} {x : XD} {cls : Value} {d : Option Addr} (e : x.fs = [] ∨ Same B B') (h : XRep K B H x cls d) : XRep K B' H x cls d := by
  refine ⟨h.1, h.2.imp id ?_⟩
  rintro ⟨a, fs, e1, e2, e3⟩
  refine ⟨a, fs, e1, e2, ?_⟩
  rcases e with e | e
  · rw [e] at e3 ⊢
    cases fs with
    | nil => trivial
    | cons _ _ => exact e3.elim
  · exact e3.mono e
theorem same_popAll (h : SR K g σ vs H ρ cs) : Same (hide H (tot σ vs ρ cs ++ g.P0)) (hide H (tot σ [] ρ [] ++ g.P0)) := fun a o e => by
  obtain ⟨h1, h2⟩ := hide_some.mp e
  refine hide_some.mpr ⟨fun z => h1 ?_, h2⟩
  rcases List.mem_append.mp z with z | z
  · exact List.mem_append_left _ (List.mem_append_right _ (show a ∈ foot σ ρ from z))
  · exact List.mem_append_right _ z
theorem SR.unCall {v : V} {c : C} {xs : List V} {ccs : List C} (hl : xs.length = ccs.length) (h : SR K g σ (v :: (xs ++ vs)) H ρ (c :: (ccs ++ cs))) : SR K g σ (v :: vs) H ρ (c :: cs) := SR.pops hl (SR.unrot hl h)
end
/-- the call by what the arguments hold -/
@[reducible] def okX (ccs : List C) (x : XD) : Prop := ccs.any C.isLn = true → x.fs = []
@[reducible] def callK (S : SpD) (ρ : Rho) (ccs : List C) (Q : KC) (E : KX) : Prop := useK ρ ccs fun ds => S (ds.map C.v) (fun c _ => okR ccs c ∧ Q c ρ) (fun x _ => okX ccs x ∧ E x ρ)
@[reducible] def hd1 (rs : List C) (k : C → Prop) : Prop := match rs with
  | r :: _ => k r
  | [] => False
@[reducible] def callP (S : SpD) (i : Nat) (ρ : Rho) (rest : List C) (Q : KC) (E : KX) : Prop := match rget ρ i with
  | .own t o => useK (rset ρ i .no) rest fun ds => S (.own 1 o :: ds.map C.v)
      (fun c rs => hd1 rs fun r => (rest.any C.isLn = true → c.lf = true ∧ (retag (.own t o) r).lfo = true) ∧ Q c (rset ρ i (retag (.own t o) r)))
      (fun x rs => hd1 rs fun r => (rest.any C.isLn = true → x.fs = [] ∧ (retag (.own t o) r).lfo = true) ∧ E x (rset ρ i (retag (.own t o) r)))
  | _ => False
@[reducible] def callA (S : SpD) (ρ : Rho) (ccs : List C) (Q : KC) (E : KX) : Prop := match ccs with
  | .pk i :: rest => callP S i ρ rest Q E
  | ccs => callK S ρ ccs Q E
@[reducible] def wCall (S : SpD) (wa : WA) : WE := fun ρ Q E => wa ρ (fun ccs ρ1 => callA S ρ1 ccs Q E) E
theorem isLn_frz : ∀ (ccs : List C), (ccs.map frzC).any C.isLn = ccs.any C.isLn
  | [] => rfl
  | c :: ccs => by
    have e : (frzC c).isLn = c.isLn := by
      cases c with
      | own t o => cases o <;> rfl
      | _ => rfl
    simp [e, isLn_frz ccs]
theorem retags_len : ∀ {a b : List C}, a.length = b.length → (retags a b).length = a.length
  | [], b, _ => by cases b <;> rfl
  | x :: a, [], h => by simp at h
  | x :: a, y :: b, h => by simp [retags, retags_len (a := a) (b := b) (by simpa using h)]
theorem argM_dats {ρ : Rho} : ∀ {ccs : List C} {ds : List D} {k : Nat}, dats ρ ccs = some ds → argM ρ k (ccs.map frzC) = some (ds.map C.v) ∧ (∀ rs : List C, rs.length = ccs.length → retags (ccs.map frzC) rs = ccs.map frzC) ∧ ∀ c ∈ ccs.map frzC, c.lfo = true
  | [], ds, k, h => by
    cases h
    exact ⟨rfl, fun rs _ => by cases rs <;> rfl, fun c hc => by simp at hc⟩
  | c :: ccs, ds, k, h => by
    unfold dats at h
    split at h
    · rename_i d ds' e1 e2
      cases h
      obtain ⟨i1, i2, i3⟩ := argM_dats (ccs := ccs) (k := k + 1) e2
      have key : ∀ c' : C, (∀ t o, c' ≠ .own t o) → dat ρ c' = some d → argM ρ k (c' :: ccs.map frzC) = some (C.v d :: ds'.map C.v) ∧ (∀ rs : List C, rs.length = ccs.length + 1 → retags (c' :: ccs.map frzC) rs = c' :: ccs.map frzC) ∧ c'.lfo = true := by
        intro c' hn he
        refine ⟨?_, ?_, ?_⟩
        · cases c' with
          | own t o => exact absurd rfl (hn t o)
          | _ =>
            unfold argM
            rw [he, i1]
        · intro rs hr
          cases rs with
          | nil => simp at hr
          | cons r rs =>
            cases c' with
            | own t o => exact absurd rfl (hn t o)
            | _ =>
              unfold retags
              rw [i2 rs (by simpa using hr)]
        · cases c' with
          | own t o => exact absurd rfl (hn t o)
          | _ => rfl
      have fin : ∀ c' : C, frzC c = c' → (∀ t o, c' ≠ .own t o) → dat ρ c' = some d → argM ρ k ((c :: ccs).map frzC) = some ((d :: ds').map C.v) ∧ (∀ rs : List C, rs.length = (c :: ccs).length → retags ((c :: ccs).map frzC) rs = (c :: ccs).map frzC) ∧ ∀ q ∈ (c :: ccs).map frzC, q.lfo = true := by
        intro c' e hn he
        obtain ⟨k1, k2, k3⟩ := key c' hn he
        rw [List.map_cons, List.map_cons, e]
        refine ⟨k1, fun rs hr => k2 rs (by simpa using hr), fun q hq => ?_⟩
        rcases List.mem_cons.mp hq with z | z
        · rw [z]; exact k3
        · exact i3 q z
      cases c with
      | no => cases e1
      | pk i => cases e1
      | v d' => exact fin _ rfl (fun t o z => by cases z) e1
      | ln i => exact fin _ rfl (fun t o z => by cases z) e1
      | own t o =>
        cases o with
        | dct _ => cases e1
        | lst zs =>
          cases e1
          exact fin _ rfl (fun t o z => by cases z) rfl
    · cases h
section
variable {K : PySem.W.Frag} {g : G} {W : WX} {σ : L2.St} {vs : List V} {H : Hp} {ρ : Rho} {cs : List C} {i : Nat}
theorem entry_len {K : PySem.W.Frag} {g : G} {xs : List V} {ws : List V} {H : Hp} {rs ds : List C} (S' : SR K g (xs.map some) ws H rs ds) : rs.length = xs.length := by
  have q := S'.sl.len
  rw [List.length_map] at q
  omega
/-- a call whose arguments are data -/
theorem SR.callD {S : SpD} {xs : List V} {ccs : List C} {QD : KC} {ED : KX} {E : XK} {Q : VK} (hl : xs.length = ccs.length) (h : SR K g σ (xs ++ vs) H ρ (ccs ++ cs)) (q : callK S ρ ccs QD ED) (hX : XEnds K g W σ ED) (hE : ∀ cls d σ H, W cls d σ H → E cls d H)
    (hQ : ∀ v H' c, SR K g σ (v :: vs) H' ρ (c :: cs) → QD c ρ → Q v H') : spOf K S xs H Q E := by
  obtain ⟨ds, e, q⟩ := useK_dats q
  obtain ⟨e, rt, lf⟩ := argM_dats (k := 0) e
  have h' := h.frzArgs hl
  have hl' : xs.length = (ccs.map frzC).length := by simpa using hl
  obtain ⟨P, entry, ret, exc⟩ := SR.callM h' hl' e
  refine ⟨_, P, _, _, entry, q, fun c rs hk ⟨ok, qd⟩ v H' S' => ?_, fun x rs ⟨ok, ed⟩ cls d H' S' xr => ?_⟩
  · have er := rt rs (by rw [entry_len S', hl])
    have S1 := ret v H' c rs hk S' fun z => ⟨ok (by rw [isLn_frz] at z; exact z), fun r hr => lf r (by rw [er] at hr; exact hr)⟩
    rw [er] at S1
    exact hQ v H' c (SR.unCall hl' S1) qd
  · have er := rt rs (by rw [entry_len S', hl])
    obtain ⟨S1, hs⟩ := exc H' rs S' fun z r hr => lf r (by rw [er] at hr; exact hr)
    rw [er] at S1 hs
    refine hE cls d σ H' (hX x ρ cls d H' S1.popAll (XRep.mono ?_ xr) ed)
    cases hb : ccs.any C.isLn with
    | true => exact .inl (ok hb)
    | false => exact .inr ((hs (by rw [isLn_frz]; exact hb)).trans (same_popAll S1))
theorem retag_own {t : Nat} {o : OD} {r : C} : (∃ o', retag (.own t o) r = .own t o') ∨ retag (.own t o) r = .no := by
  cases r with
  | own t' o' => exact .inl ⟨o', rfl⟩
  | _ => exact .inr rfl
/-- the slot's object goes back -/
theorem SR.putBack {x : V} {c : C} (h : SR K g σ (x :: vs) H ρ (c :: cs)) (e1 : σ[i]? = some (some x)) (e2 : rget ρ i = .no) (hc : c.plain = true ∨ c = .no) : SR K g σ vs H (rset ρ i c) cs := by
  rcases hc with hc | hc
  · exact h.moveIn hc e1 e2
  · subst hc
    exact (h.pop).clear i
theorem SR.callP {S : SpD} {x : V} {xs : List V} {ccs : List C} {QD : KC} {ED : KX} {E : XK} {Q : VK} (hl : xs.length = ccs.length) (h : SR K g σ (x :: (xs ++ vs)) H ρ (.pk i :: (ccs ++ cs))) (q : DL.callP S i ρ ccs QD ED) (hX : XEnds K g W σ ED) (hE : ∀ cls d σ H, W cls d σ H → E cls d H)
    (hQ : ∀ v H' c ρ', SR K g σ (v :: vs) H' ρ' (c :: cs) → QD c ρ' → Q v H') : spOf K S (x :: xs) H Q E := by
  unfold DL.callP at q
  split at q
  · rename_i t o eo
    obtain ⟨ds, e, q⟩ := useK_dats q
    obtain ⟨e, rt, lf⟩ := argM_dats (k := 1) e
    have hl' : xs.length = (ccs.map frzC).length := by simpa using hl
    have h1 : SR K g σ (x :: (xs ++ vs)) H ρ (.pk i :: (ccs.map frzC ++ cs)) := SR.rot hl' (SR.frzArgs hl (SR.unrot hl h))
    obtain ⟨ex, h2⟩ := h1.moveOut eo
    have hlen : i < ρ.length := rget_lt (by rw [eo]; exact fun z => nomatch z)
    have en : rget (rset ρ i .no) i = .no := rget_rset hlen
    have ea : argM (rset ρ i .no) 0 (.own t o :: ccs.map frzC) = some (.own 1 o :: ds.map C.v) := by
      unfold argM
      rw [e]
      rfl
    obtain ⟨P, entry, ret, exc⟩ := SR.callM (xs := x :: xs) (ccs := .own t o :: ccs.map frzC) h2 (by simp [hl]) ea
    have hb0 : ∀ ccs : List C, (C.own t o :: ccs).any C.isLn = ccs.any C.isLn := fun ccs => rfl
    refine ⟨_, P, _, _, entry, q, fun c rs hk qd v H' S' => ?_, fun y rs ed cls d H' S' xr => ?_⟩
    · have el := entry_len S'
      cases rs with
      | nil => exact qd.elim
      | cons r rs =>
        obtain ⟨ok, qd⟩ := qd
        have er := rt rs (by have : rs.length = xs.length := by simpa using el
                             rw [this, hl])
        have e3 : retags (.own t o :: ccs.map frzC) (r :: rs) = retag (.own t o) r :: ccs.map frzC := by
          show retag (.own t o) r :: retags (ccs.map frzC) rs = _
          rw [er]
        have S1 := ret v H' c (r :: rs) hk S' fun z => by
          have z' := ok (by rw [hb0, isLn_frz] at z; exact z)
          refine ⟨z'.1, fun p hp => ?_⟩
          rw [e3] at hp
          rcases List.mem_cons.mp hp with w | w
          · rw [w]; exact z'.2
          · exact lf p w
        rw [e3] at S1
        have S2 : SR K g σ (x :: (v :: (xs ++ vs))) H' (rset ρ i .no) (retag (.own t o) r :: (c :: (ccs.map frzC ++ cs))) := SR.rot (xs := [v]) (ccs := [c]) rfl S1
        have S3 := S2.putBack ex en (by
          rcases retag_own (t := t) (o := o) (r := r) with ⟨o', w⟩ | w
          · rw [w]; exact .inl rfl
          · exact .inr w)
        rw [rset_rset] at S3
        exact hQ v H' c _ (SR.unCall hl' S3) qd
    · have el := entry_len S'
      cases rs with
      | nil => exact ed.elim
      | cons r rs =>
        obtain ⟨ok, ed⟩ := ed
        have er := rt rs (by have : rs.length = xs.length := by simpa using el
                             rw [this, hl])
        have e3 : retags (.own t o :: ccs.map frzC) (r :: rs) = retag (.own t o) r :: ccs.map frzC := by
          show retag (.own t o) r :: retags (ccs.map frzC) rs = _
          rw [er]
        obtain ⟨S1, hs⟩ := exc H' (r :: rs) S' fun z p hp => by
          have z' := ok (by rw [hb0, isLn_frz] at z; exact z)
          rw [e3] at hp
          rcases List.mem_cons.mp hp with w | w
          · rw [w]; exact z'.2
          · exact lf p w
        rw [e3] at S1 hs
        have S3 := SR.putBack (i := i) S1 ex en (by
          rcases retag_own (t := t) (o := o) (r := r) with ⟨o', w⟩ | w
          · rw [w]; exact .inl rfl
          · exact .inr w)
        rw [rset_rset] at S3
        refine hE cls d σ H' (hX y _ cls d H' S3.popAll (XRep.mono ?_ xr) ed)
        cases hb : ccs.any C.isLn with
        | true => exact .inl (ok hb).1
        | false =>
          refine .inr ((hs (by rw [hb0, isLn_frz]; exact hb)).trans fun a u z => ?_)
          obtain ⟨z1, z2⟩ := hide_some.mp z
          refine hide_some.mpr ⟨fun w => z1 ?_, z2⟩
          rcases List.mem_append.mp w with w | w
          · refine List.mem_append_left _ ?_
            have w' : a ∈ foot σ (rset ρ i (retag (.own t o) r)) := w
            have pm := foot_in (σ := σ) (ρ := rset ρ i .no) (c := retag (.own t o) r) ex (by rw [rset_len]; exact hlen) en
            rw [rset_rset] at pm
            have w2 := pm.mem_iff.mp w'
            show a ∈ (footC (some x) (retag (.own t o) r) ++ foot ((xs ++ vs).map some) (ccs.map frzC ++ cs)) ++ foot σ (rset ρ i .no)
            rcases List.mem_append.mp w2 with w2 | w2
            · exact List.mem_append_left _ (List.mem_append_left _ w2)
            · exact List.mem_append_right _ w2
          · exact List.mem_append_right _ w
  · exact q.elim
end
/-- a call whose first argument is a new object of its own -/
@[reducible] def callO (S : SpD) (ρ : Rho) (ccs : List C) (Q : KC) (E : KX) : Prop := match ccs with
  | .own t o :: rest => useK ρ rest fun ds => S (.own 1 o :: ds.map C.v)
      (fun c rs => hd1 rs fun r => (rest.any C.isLn = true → c.lf = true ∧ (retag (.own t o) r).lfo = true) ∧ Q c ρ)
      (fun x rs => hd1 rs fun r => (rest.any C.isLn = true → x.fs = [] ∧ (retag (.own t o) r).lfo = true) ∧ E x ρ)
  | _ => False
@[reducible] def wCallO (S : SpD) (wa : WA) : WE := fun ρ Q E => wa ρ (fun ccs ρ1 => callO S ρ1 ccs Q E) E
section
variable {K : PySem.W.Frag} {g : G} {W : WX} {σ : L2.St} {vs : List V} {H : Hp} {ρ : Rho} {cs : List C} {i : Nat}
theorem SR.callO {S : SpD} {xs : List V} {ccs : List C} {QD : KC} {ED : KX} {E : XK} {Q : VK} (hl : xs.length = ccs.length) (h : SR K g σ (xs ++ vs) H ρ (ccs ++ cs)) (q : DL.callO S ρ ccs QD ED) (hX : XEnds K g W σ ED) (hE : ∀ cls d σ H, W cls d σ H → E cls d H)
    (hQ : ∀ v H' c, SR K g σ (v :: vs) H' ρ (c :: cs) → QD c ρ → Q v H') : spOf K S xs H Q E := by
  unfold DL.callO at q
  split at q
  · rename_i t o rest
    cases xs with
    | nil => simp at hl
    | cons x xs =>
      have hlr : xs.length = rest.length := by simpa using hl
      obtain ⟨ds, e, q⟩ := useK_dats q
      obtain ⟨e, rt, lf⟩ := argM_dats (k := 1) e
      have hl' : xs.length = (rest.map frzC).length := by simpa using hlr
      have h1 : SR K g σ (x :: (xs ++ vs)) H ρ (.own t o :: (rest.map frzC ++ cs)) := SR.rot hl' (SR.frzArgs hlr (SR.unrot hlr h))
      have ea : argM ρ 0 (.own t o :: rest.map frzC) = some (.own 1 o :: ds.map C.v) := by
        unfold argM
        rw [e]
        rfl
      have hl2 : (x :: xs).length = (C.own t o :: rest.map frzC).length := by simp [hlr]
      obtain ⟨P, entry, ret, exc⟩ := SR.callM (xs := x :: xs) (ccs := .own t o :: rest.map frzC) h1 hl2 ea
      have hb0 : ∀ ccs : List C, (C.own t o :: ccs).any C.isLn = ccs.any C.isLn := fun ccs => rfl
      refine ⟨_, P, _, _, entry, q, fun c rs hk qd v H' S' => ?_, fun y rs ed cls d H' S' xr => ?_⟩
      · have el := entry_len S'
        cases rs with
        | nil => exact qd.elim
        | cons r rs =>
          obtain ⟨ok, qd⟩ := qd
          have er := rt rs (by have : rs.length = xs.length := by simpa using el
                               rw [this, hlr])
          have e3 : retags (.own t o :: rest.map frzC) (r :: rs) = retag (.own t o) r :: rest.map frzC := by
            show retag (.own t o) r :: retags (rest.map frzC) rs = _
            rw [er]
          have S1 := ret v H' c (r :: rs) hk S' fun z => by
            have z' := ok (by rw [hb0, isLn_frz] at z; exact z)
            refine ⟨z'.1, fun p hp => ?_⟩
            rw [e3] at hp
            rcases List.mem_cons.mp hp with w | w
            · rw [w]; exact z'.2
            · exact lf p w
          rw [e3] at S1
          exact hQ v H' c (SR.unCall (xs := x :: xs) (ccs := retag (.own t o) r :: rest.map frzC) (by simp [hlr]) S1) qd
      · have el := entry_len S'
        cases rs with
        | nil => exact ed.elim
        | cons r rs =>
          obtain ⟨ok, ed⟩ := ed
          have er := rt rs (by have : rs.length = xs.length := by simpa using el
                               rw [this, hlr])
          have e3 : retags (.own t o :: rest.map frzC) (r :: rs) = retag (.own t o) r :: rest.map frzC := by
            show retag (.own t o) r :: retags (rest.map frzC) rs = _
            rw [er]
          obtain ⟨S1, hs⟩ := exc H' (r :: rs) S' fun z p hp => by
            have z' := ok (by rw [hb0, isLn_frz] at z; exact z)
            rw [e3] at hp
            rcases List.mem_cons.mp hp with w | w
            · rw [w]; exact z'.2
            · exact lf p w
          rw [e3] at S1 hs
          refine hE cls d σ H' (hX y ρ cls d H' S1.popAll (XRep.mono ?_ xr) ed)
          cases hb : rest.any C.isLn with
          | true => exact .inl (ok hb).1
          | false => exact .inr ((hs (by rw [hb0, isLn_frz]; exact hb)).trans (same_popAll S1))
  · exact q.elim
end
section
variable {X : Cx} {g : G} {W : WX} {CX : CXT} {k : Nat} {f : Addr} {fd : FuncData} {ps : List Str} {S : SpD} {E : XK} {x : Str} {p pos : Pos} {e : Expr} {es : List Expr} {wa : WA}
/-- f(e, ..) of the program -/
theorem ee_call (F : FnOk X.prog X.w X.K X.mg X.base CX k f fd ps (spOf X.K S)) (hr : Room k X.A) (hg : Gl X x) (hm : X.mg x = some (.ref f)) (hk : PySem.W.keepIn X.K (.ref f) = true) (hb : Binds X.K fd ps []) (hx : Passes CX X E) (hE : ∀ cls d σ H, W cls d σ H → E cls d H)
    (ha : EA X g W (e :: es) wa) (hdb : (x == ("__debug__" : Str)) = false := by decide) (he : starEach (e :: es) X.env = (false, eval e X.env) :: starEach es X.env := by rfl) (hpl : (backTo pos (starEach es X.env)).any (·.1) = false := by rfl) :
    EE X g W (.Call (.Name x p) (e :: es) [] pos) (wCall S wa) := by
  obtain ⟨t, q, s⟩ := ha.ex
  refine ⟨_, pe_call F hr hg hm hk hb .nil hx q hdb he hpl, fun σ vs H ρ cs QD ED Q hS hw hX hQ => ?_⟩
  refine s σ vs H ρ cs _ ED _ hS hw hX fun xs H1 ccs ρ1 hl S1 q1 => ?_
  rw [List.append_nil]
  unfold callA at q1
  split at q1
  · rename_i i rest
    cases xs with
    | nil => simp at hl
    | cons x xs => exact SR.callP (by simpa using hl) S1 q1 hX hE hQ
  · exact SR.callD hl S1 q1 hX hE fun v H' c S3 q3 => hQ v H' c ρ1 S3 q3
/-- f([..], ..) of the program, its first argument handed over -/
theorem ee_callO (F : FnOk X.prog X.w X.K X.mg X.base CX k f fd ps (spOf X.K S)) (hr : Room k X.A) (hg : Gl X x) (hm : X.mg x = some (.ref f)) (hk : PySem.W.keepIn X.K (.ref f) = true) (hb : Binds X.K fd ps []) (hx : Passes CX X E) (hE : ∀ cls d σ H, W cls d σ H → E cls d H)
    (ha : EA X g W (e :: es) wa) (hdb : (x == ("__debug__" : Str)) = false := by decide) (he : starEach (e :: es) X.env = (false, eval e X.env) :: starEach es X.env := by rfl) (hpl : (backTo pos (starEach es X.env)).any (·.1) = false := by rfl) :
    EE X g W (.Call (.Name x p) (e :: es) [] pos) (wCallO S wa) := by
  obtain ⟨t, q, s⟩ := ha.ex
  refine ⟨_, pe_call F hr hg hm hk hb .nil hx q hdb he hpl, fun σ vs H ρ cs QD ED Q hS hw hX hQ => ?_⟩
  refine s σ vs H ρ cs _ ED _ hS hw hX fun xs H1 ccs ρ1 hl S1 q1 => ?_
  rw [List.append_nil]
  exact SR.callO hl S1 q1 hX hE fun v H' c S3 q3 => hQ v H' c ρ1 S3 q3
/-- f() -/
theorem ee_call0 (F : FnOk X.prog X.w X.K X.mg X.base CX k f fd ps (spOf X.K S)) (hr : Room k X.A) (hg : Gl X x) (hm : X.mg x = some (.ref f)) (hk : PySem.W.keepIn X.K (.ref f) = true) (hb : Binds X.K fd ps []) (hx : Passes CX X E) (hE : ∀ cls d σ H, W cls d σ H → E cls d H)
    (hdb : (x == ("__debug__" : Str)) = false := by decide) : EE X g W (.Call (.Name x p) [] [] pos) (wCall S wNil) := by
  refine ⟨_, pe_call0 F hr hg hm hk hb .nil hx hdb, fun σ vs H ρ cs QD ED Q hS hw hX hQ => ?_⟩
  exact SR.callD (xs := []) (ccs := []) rfl hS hw hX hE fun v H' c S3 q3 => hQ v H' c ρ S3 q3
end
end DL

set_option Elab.async false
set_option linter.all false
set_option maxRecDepth 100000
set_option maxHeartbeats 4000000
/-! DL, statements, loops, comprehensions, a def's body. -/
namespace DL
open PySem PySem.Spec PyProof.Rows L2

structure EndsD where
  nx : Rho → Prop
  rt : KC
  bk : Rho → Prop
  ct : Rho → Prop
  ex : KX
abbrev WS := EndsD → Rho → Prop
def plainAll (cs : List C) : Prop := ∀ c ∈ cs, c.plain = true
structure EndsOk (K : PySem.W.Frag) (g : G) (W : WX) (vs : List V) (cs : List C) (DD : EndsD) (D : Ends) : Prop where
  nx : ∀ σ' H' ρ', SR K g σ' vs H' ρ' cs → DD.nx ρ' → D.nx σ' H'
  bk : ∀ σ' H' ρ', SR K g σ' vs H' ρ' cs → DD.bk ρ' → D.bk σ' H'
  ct : ∀ σ' H' ρ', SR K g σ' vs H' ρ' cs → DD.ct ρ' → D.ct σ' H'
  rt : ∀ v σ' H' c ρ', SR K g σ' (v :: vs) H' ρ' (c :: cs) → DD.rt c ρ' → D.rt v H'
  ex : ∀ σ', XEnds K g W σ' DD.ex
def SemS (K : PySem.W.Frag) (g : G) (W : WX) (t : TS) (w : WS) : Prop :=
  ∀ (σ : L2.St) (vs : List V) (H : Hp) (ρ : Rho) (cs : List C) (DD : EndsD) (D : Ends), SR K g σ vs H ρ cs → plainAll cs → w DD ρ → EndsOk K g W vs cs DD D → t D σ H
structure ES (X : Cx) (g : G) (W : WX) (st : Stmt) (w : WS) : Prop where
  ex : ∃ t, PS X st t ∧ SemS X.K g W t w
structure EB (X : Cx) (g : G) (W : WX) (sts : List Stmt) (w : WS) : Prop where
  ex : ∃ t, PSs X sts t ∧ SemS X.K g W t w
theorem plainAll.nopk {cs : List C} (h : plainAll cs) {j i : Nat} : (C.pk j ∈ cs ∨ C.ln j ∈ cs) → j ≠ i := fun q => by
  rcases q with q | q <;> cases h _ q
theorem plainAll.cons {c : C} {cs : List C} (h : plainAll cs) (hc : c.plain = true) : plainAll (c :: cs) := fun q hq => by
  rcases List.mem_cons.mp hq with e | hq
  · rw [e]; exact hc
  · exact h q hq

@[reducible] def wNext : WS := fun DD ρ => DD.nx ρ
def wSeq (w u : WS) : WS := fun DD ρ => w ⟨u DD, DD.rt, DD.bk, DD.ct, DD.ex⟩ ρ
@[reducible] def wBreak : WS := fun DD ρ => DD.bk ρ
@[reducible] def wCont : WS := fun DD ρ => DD.ct ρ
@[reducible] def wDrop (we : WE) : WS := fun DD ρ => we ρ (fun _ ρ1 => DD.nx ρ1) DD.ex
@[reducible] def wRet (we : WE) : WS := fun DD ρ => we ρ (fun c ρ1 => DD.rt c ρ1) DD.ex
@[reducible] def wRetN : WS := fun DD ρ => DD.rt (.v .none) ρ
@[reducible] def wRetO (i : Nat) : WS := fun DD ρ => match rget ρ i with
  | .own t o => DD.rt (.own t o) (rset ρ i .no)
  | .v d => DD.rt (.v d) ρ
  | _ => False
@[reducible] def wIf (wt : WT) (w u : WS) : WS := fun DD ρ => wt ρ (fun b ρ1 => if b = true then w DD ρ1 else u DD ρ1) DD.ex
@[reducible] def wSet (i : Nat) (we : WE) : WS := fun DD ρ => we ρ (fun c ρ1 => c.plain = true ∧ DD.nx (rset ρ1 i c)) DD.ex
@[reducible] def wSetF (i : Nat) (we : WE) : WS := fun DD ρ => we ρ (fun c ρ1 => (frzC c).plain = true ∧ DD.nx (rset ρ1 i (frzC c))) DD.ex
section
variable {K : PySem.W.Frag} {g : G} {W : WX} {t u : TS} {w w' : WS} {te : TE} {we : WE}
theorem sem_next : SemS K g W tNext wNext := fun σ vs H ρ cs DD D hS hp hw hE => hE.nx σ H ρ hS hw
theorem sem_seq (h : SemS K g W t w) (h' : SemS K g W u w') : SemS K g W (tSeq t u) (wSeq w w') := fun σ vs H ρ cs DD D hS hp hw hE =>
  h σ vs H ρ cs _ _ hS hp hw ⟨fun σ' H' ρ' S' q => h' σ' vs H' ρ' cs DD D S' hp q hE, hE.bk, hE.ct, hE.rt, hE.ex⟩
theorem sem_drop (h : Sem K g W te we) : SemS K g W (tDrop te) (wDrop we) := fun σ vs H ρ cs DD D hS hp hw hE =>
  h σ vs H ρ cs _ _ _ hS hw (hE.ex σ) fun v H' c ρ' S' q => hE.nx σ H' ρ' S'.pop q
theorem sem_ret (h : Sem K g W te we) : SemS K g W (tRet te) (wRet we) := fun σ vs H ρ cs DD D hS hp hw hE =>
  h σ vs H ρ cs _ _ _ hS hw (hE.ex σ) fun v H' c ρ' S' q => hE.rt v σ H' c ρ' S' q
theorem sem_if {tc : TT} {wt : WT} (hc : SemT K g W tc wt) (h : SemS K g W t w) (h' : SemS K g W u w') : SemS K g W (tIfS tc t u) (wIf wt w w') := fun σ vs H ρ cs DD D hS hp hw hE =>
  hc σ vs H ρ cs _ _ _ hS hw (hE.ex σ) fun b H' ρ' S' q => by
    cases b with
    | true => exact h σ vs H' ρ' cs DD D S' hp q hE
    | false => exact h' σ vs H' ρ' cs DD D S' hp q hE
theorem SR.store {σ : L2.St} {vs : List V} {H : Hp} {ρ : Rho} {cs : List C} {i : Nat} {x : V} {c : C} (h : SR K g σ (x :: vs) H ρ (c :: cs)) (hc : c.plain = true) (hj : ∀ j, (C.pk j ∈ cs ∨ C.ln j ∈ cs) → j ≠ i) : SR K g (σ.set i (some x)) vs H (rset ρ i c) cs := by
  by_cases hi : i < σ.length
  · exact h.assign hc hi hj
  · have e1 : σ.set i (some x) = σ := List.set_eq_of_length_le (by omega)
    have e2 : rset ρ i c = ρ := by
      have hl : ρ.length ≤ i := by rw [← h.len]; omega
      clear h hj e1 hi
      induction ρ generalizing i with
      | nil => rfl
      | cons q ρ ih =>
        cases i with
        | zero => simp at hl
        | succ i =>
          show q :: rset ρ i c = q :: ρ
          rw [ih (by simpa using hl)]
    rw [e1, e2]
    exact h.pop
theorem sem_set {i : Nat} (h : Sem K g W te we) : SemS K g W (tAsg te (gName i)) (wSet i we) := fun σ vs H ρ cs DD D hS hp hw hE =>
  h σ vs H ρ cs _ _ _ hS hw (hE.ex σ) fun v H' c ρ' S' q => hE.nx _ H' _ (S'.store q.1 fun j => hp.nopk) q.2
theorem sem_setF {i : Nat} (h : Sem K g W te we) : SemS K g W (tAsg te (gName i)) (wSetF i we) := fun σ vs H ρ cs DD D hS hp hw hE =>
  h σ vs H ρ cs _ _ _ hS hw (hE.ex σ) fun v H' c ρ' S' q => hE.nx _ H' _ (S'.frzTop.store q.1 fun j => hp.nopk) q.2
end
section
variable {X : Cx} {g : G} {W : WX} {st : Stmt} {rest : List Stmt} {w u : WS} {e : Expr} {we : WE} {pos : Pos}
theorem eb_nil : EB X g W [] wNext := ⟨_, pss_nil, sem_next⟩
theorem eb_cons (h : ES X g W st w) (h' : EB X g W rest u) : EB X g W (st :: rest) (wSeq w u) := by
  obtain ⟨t, p, s⟩ := h.ex
  obtain ⟨t', p', s'⟩ := h'.ex
  exact ⟨_, pss_cons p p', sem_seq s s'⟩
theorem eb_one (h : ES X g W st w) : EB X g W [st] w := by
  obtain ⟨t, p, s⟩ := h.ex
  exact ⟨_, pss_one p, s⟩
theorem es_pass : ES X g W (.Pass pos) wNext := ⟨_, ps_pass, sem_next⟩
theorem es_doc {x j pos'} : ES X g W (.Expr (.Constant (.str x) j pos) pos') wNext := ⟨_, ps_doc, sem_next⟩
theorem es_break : ES X g W (.Break pos) wBreak := ⟨_, ps_break, fun σ vs H ρ cs DD D hS hp hw hE => hE.bk σ H ρ hS hw⟩
theorem es_cont : ES X g W (.Continue pos) wCont := ⟨_, ps_continue, fun σ vs H ρ cs DD D hS hp hw hE => hE.ct σ H ρ hS hw⟩
theorem es_expr (h : EE X g W e we) (hs : swapsWith e none pos.line X.env = pure false := by rfl) : ES X g W (.Expr e pos) (wDrop we) := by
  obtain ⟨t, p, s⟩ := h.ex
  exact ⟨_, ps_expr p hs, sem_drop s⟩
theorem es_ret (h : EE X g W e we) : ES X g W (.Return (some e) pos) (wRet we) := by
  obtain ⟨t, p, s⟩ := h.ex
  exact ⟨_, ps_ret p, sem_ret s⟩
theorem es_retN : ES X g W (.Return none pos) wRetN := ⟨_, ps_retN, fun σ vs H ρ cs DD D hS hp hw hE => hE.rt .non σ H _ ρ (SR.resV hS (Same.refl H) .non) hw⟩
theorem es_retO {i : Nat} {x : Str} {p : Pos} (hL : g.L i = true) (h : PE X (.Name x p) (tVar i)) : ES X g W (.Return (some (.Name x p)) pos) (wRetO i) := by
  refine ⟨_, ps_ret h, fun σ vs H ρ cs DD D hS hp hw hE => ?_⟩
  unfold wRetO at hw
  split at hw
  · rename_i t o eo
    obtain ⟨a, e1, _⟩ := hS.own eo
    obtain ⟨_, S2⟩ := (hS.pushPk e1 hL).moveOut eo
    exact ⟨_, e1, hE.rt _ σ H _ _ S2 hw⟩
  · rename_i d eo
    obtain ⟨x, e1, q⟩ := hS.slot eo
    exact ⟨_, e1, hE.rt _ σ H _ ρ (SR.resV hS (Same.refl H) q) hw⟩
  · exact hw.elim
theorem es_if {c : Expr} {a b : List Stmt} {wt : WT} (hc : ET X g W c wt) (h : EB X g W a w) (h' : EB X g W b u) : ES X g W (.If c a b pos) (wIf wt w u) := by
  obtain ⟨t, p, s⟩ := hc.ex
  obtain ⟨t1, p1, s1⟩ := h.ex
  obtain ⟨t2, p2, s2⟩ := h'.ex
  exact ⟨_, ps_if p p1 p2, sem_if s s1 s2⟩
theorem es_set {i : Nat} {x : Str} {pos' : Pos} (hN : X.N.Nodup) (hi : X.N[i]? = some x) (hx : Loc X.env.scope x) (h : EE X g W e we) (hs : swapsWith e (some (.Name x pos')) pos.line X.env = pure false := by rfl) (hf : X.fn x = true ∨ X.env.scope.names.lookup x = some .local := by first | exact .inl rfl | exact .inr rfl | assumption) :
    ES X g W (.Assign [.Name x pos'] e pos) (wSet i we) := by
  obtain ⟨t, p, s⟩ := h.ex
  exact ⟨_, ps_set hN hi hx p hs hf, sem_set s⟩
theorem es_setF {i : Nat} {x : Str} {pos' : Pos} (hN : X.N.Nodup) (hi : X.N[i]? = some x) (hx : Loc X.env.scope x) (h : EE X g W e we) (hs : swapsWith e (some (.Name x pos')) pos.line X.env = pure false := by rfl) (hf : X.fn x = true ∨ X.env.scope.names.lookup x = some .local := by first | exact .inl rfl | exact .inr rfl | assumption) :
    ES X g W (.Assign [.Name x pos'] e pos) (wSetF i we) := by
  obtain ⟨t, p, s⟩ := h.ex
  exact ⟨_, ps_set hN hi hx p hs hf, sem_setF s⟩
end

/-! ### targets -/
abbrev WG := D → Rho → (Rho → Prop) → Prop
abbrev WGs := List D → Rho → (Rho → Prop) → Prop
/-- the slots in T alone are stored -/
def Only (T : List Nat) (σ σ' : L2.St) : Prop := σ'.length = σ.length ∧ ∀ j, j ∉ T → σ'[j]? = σ[j]?
def SemG (K : PySem.W.Frag) (g : G) (T : List Nat) (t : TG) (w : WG) : Prop :=
  ∀ (σ : L2.St) (vs : List V) (H : Hp) (ρ : Rho) (cs : List C) (x : V) (d : D) (QD : Rho → Prop) (Q : L2.St → Hp → Prop), SR K g σ (x :: vs) H ρ (.v d :: cs) → (∀ j ∈ T, ∀ i, (C.pk i ∈ cs ∨ C.ln i ∈ cs) → i ≠ j) → w d ρ QD →
    (∀ σ' H' ρ', SR K g σ' vs H' ρ' cs → DL.Only T σ σ' → QD ρ' → Q σ' H') → t x σ H Q
def SemGs (K : PySem.W.Frag) (g : G) (T : List Nat) (t : TGs) (w : WGs) : Prop :=
  ∀ (σ : L2.St) (vs : List V) (H : Hp) (ρ : Rho) (cs : List C) (xs : List V) (ds : List D) (QD : Rho → Prop) (Q : L2.St → Hp → Prop), xs.length = ds.length → SR K g σ (xs ++ vs) H ρ (ds.map C.v ++ cs) → (∀ j ∈ T, ∀ i, (C.pk i ∈ cs ∨ C.ln i ∈ cs) → i ≠ j) → w ds ρ QD →
    (∀ σ' H' ρ', SR K g σ' vs H' ρ' cs → DL.Only T σ σ' → QD ρ' → Q σ' H') → t xs σ H Q
structure EG (X : Cx) (g : G) (tg : Expr) (T : List Nat) (w : WG) : Prop where
  ex : ∃ t, PG X tg t ∧ SemG X.K g T t w
structure EGs (X : Cx) (g : G) (tgs : List Expr) (T : List Nat) (w : WGs) : Prop where
  ex : ∃ t, PGs X tgs t ∧ SemGs X.K g T t w
@[reducible] def wgName (i : Nat) : WG := fun d ρ Q => Q (rset ρ i (.v d))
@[reducible] def wgNil : WGs := fun ds ρ Q => match ds with
  | [] => Q ρ
  | _ => False
@[reducible] def wgCons (w : WG) (u : WGs) : WGs := fun ds ρ Q => match ds with
  | d :: ds => w d ρ fun ρ1 => u ds ρ1 Q
  | [] => False
@[reducible] def wgTup (n : Nat) (u : WGs) : WG := fun d ρ Q => match d with
  | .tuple ds => ds.length = n ∧ u ds ρ Q
  | _ => False
theorem tot_vs {σ : L2.St} {ρ : Rho} : ∀ {xs : List V} {ds : List D} {vs : List V} {cs : List C}, xs.length = ds.length → tot σ (xs ++ vs) ρ (ds.map C.v ++ cs) = tot σ vs ρ cs
  | [], [], _, _, _ => rfl
  | x :: xs, d :: ds, vs, cs, h => by
    show tot σ (x :: (xs ++ vs)) ρ (.v d :: (ds.map C.v ++ cs)) = _
    rw [foot_cons_v, tot_vs (by simpa using h)]
  | [], _ :: _, _, _, h => by simp at h
  | _ :: _, [], _, _, h => by simp at h
section
variable {K : PySem.W.Frag} {g : G} {σ : L2.St} {vs : List V} {H : Hp} {ρ : Rho} {cs : List C}
theorem SR.pushAll (h : SR K g σ vs H ρ cs) : ∀ {xs : List V} {ds : List D}, DpAll K (hide H (tot σ vs ρ cs ++ g.P0)) xs ds → SR K g σ (xs ++ vs) H ρ (ds.map C.v ++ cs)
  | _, [], q => by cases q; exact h
  | _, d :: ds, q => by
    cases q with
    | cons h1 h2 =>
      have r := SR.pushAll h h2
      have e := tot_vs (σ := σ) (ρ := ρ) (vs := vs) (cs := cs) (DL.DpAll.len h2)
      have q := SR.resV (H' := H) r (Same.refl H) (by rw [e]; exact h1)
      exact q
theorem only_set {i : Nat} {x : Option V} {T : List Nat} (hi : i ∈ T) : DL.Only T σ (σ.set i x) := ⟨by simp, fun j hj => List.getElem?_set_ne (fun e => hj (by rw [← e]; exact hi))⟩
theorem Only.trans {T T' : List Nat} {σ σ1 σ2 : L2.St} (a : DL.Only T σ σ1) (b : DL.Only T' σ1 σ2) : DL.Only (T ++ T') σ σ2 := ⟨b.1.trans a.1, fun j hj => by
  have h : j ∉ T ∧ j ∉ T' := by simpa using hj
  rw [b.2 j h.2, a.2 j h.1]⟩
theorem semG_name {i : Nat} : SemG K g [i] (gName i) (wgName i) := fun σ vs H ρ cs x d QD Q hS hp hw hQ =>
  hQ _ H _ (hS.store rfl fun j q => hp i (by simp) j q) (only_set (by simp)) hw
theorem semGs_nil : SemGs K g [] gNil wgNil := fun σ vs H ρ cs xs ds QD Q hl hS hp hw hQ => by
  cases ds with
  | nil =>
    cases xs with
    | nil => exact ⟨rfl, hQ σ H ρ hS ⟨rfl, fun _ _ => rfl⟩ hw⟩
    | cons _ _ => simp at hl
  | cons _ _ => exact hw.elim
theorem semGs_cons {T T' : List Nat} {t : TG} {u : TGs} {w : WG} {w' : WGs} (h : SemG K g T t w) (h' : SemGs K g T' u w') : SemGs K g (T ++ T') (gCons t u) (wgCons w w') := fun σ vs H ρ cs xs ds QD Q hl hS hp hw hQ => by
  cases ds with
  | nil => exact hw.elim
  | cons d ds =>
    cases xs with
    | nil => simp at hl
    | cons x xs =>
      refine ⟨x, xs, rfl, ?_⟩
      refine h σ (xs ++ vs) H ρ (ds.map C.v ++ cs) x d _ _ hS (fun j hj i q => hp j (List.mem_append_left _ hj) i ?_) hw fun σ1 H1 ρ1 S1 o1 q1 => ?_
      · have nm : ∀ z : C, (∀ e, z ≠ .v e) → z ∈ ds.map C.v ++ cs → z ∈ cs := fun z hz q => by
          rcases List.mem_append.mp q with q | q
          · obtain ⟨e, _, e2⟩ := List.mem_map.mp q
            exact absurd e2.symm (hz e)
          · exact q
        exact q.imp (nm _ fun e z => by cases z) (nm _ fun e z => by cases z)
      · exact h' σ1 vs H1 ρ1 cs xs ds QD Q (by simpa using hl) S1 (fun j hj => hp j (List.mem_append_right _ hj)) q1 fun σ2 H2 ρ2 S2 o2 q2 => hQ σ2 H2 ρ2 S2 (o1.trans o2) q2
theorem semG_tup {n : Nat} {T : List Nat} {t : TGs} {w : WGs} (h : SemGs K g T t w) : SemG K g T (gTup K n t) (wgTup n w) := fun σ vs H ρ cs x d QD Q hS hp hw hQ => by
  cases d with
  | tuple ds =>
    have q := hS.top
    cases q with
    | tup hs ha =>
      rename_i a xs
      have hs' : SqT K H a xs := seqT_same (fun b o e => (hide_some.mp e).2) hs
      refine ⟨a, xs, rfl, hs', by rw [DL.DpAll.len ha]; exact hw.1, ?_⟩
      exact h σ vs H ρ cs xs ds QD Q (DL.DpAll.len ha) (hS.pop.pushAll ha) hp hw.2 hQ
  | _ => exact hw.elim
end
@[reducible] def wgLst (n : Nat) (u : WGs) : WG := fun d ρ Q => match d with
  | .list ds => ds.length = n ∧ u ds ρ Q
  | _ => False
/-- target = value, the value as data -/
@[reducible] def wAsg (we : WE) (wg : WG) : WS := fun DD ρ => we ρ (fun c ρ1 => match frzC c with
  | .v d => wg d ρ1 DD.nx
  | _ => False) DD.ex
section
variable {X : Cx} {g : G} {W : WX} {e tg : Expr} {es : List Expr} {we : WE} {wg : WG} {ws : WGs} {T T' : List Nat} {pos : Pos}
theorem eg_name {i : Nat} {x : Str} (hN : X.N.Nodup) (hi : X.N[i]? = some x) (hx : Loc X.env.scope x) (hf : X.fn x = true ∨ X.env.scope.names.lookup x = some .local := by first | exact .inl rfl | exact .inr rfl | assumption) : EG X g (.Name x pos) [i] (wgName i) := ⟨_, pg_name hN hi hx hf, semG_name⟩
theorem egs_nil : EGs X g [] [] wgNil := ⟨_, pgs_nil, semGs_nil⟩
theorem egs_cons (h : EG X g e T wg) (h' : EGs X g es T' ws) (hs : (assignEach (e :: es) X.env).map (·.2) = assign e X.env :: (assignEach es X.env).map (·.2) := by rfl) : EGs X g (e :: es) (T ++ T') (wgCons wg ws) := by
  obtain ⟨t, p, s⟩ := h.ex
  obtain ⟨t', p', s'⟩ := h'.ex
  exact ⟨_, pgs_cons p p' hs, semGs_cons s s'⟩
theorem eg_tup {k : Nat} {n : Nat} (hc : X.calm = true) (h : EGs X g es T ws) (hn : (assignEach es X.env).length = n := by rfl) (hst : (assignEach es X.env).findIdx? (·.1) = none := by rfl) : EG X g (.Tuple es k pos) T (wgTup n ws) := by
  obtain ⟨t, p, s⟩ := h.ex
  exact ⟨_, pg_tup hc p hn hst, semG_tup s⟩
theorem es_asg (h : EE X g W e we) (hg : EG X g tg T wg) (hs : swapsWithSole [tg] e pos.line X.env = pure false := by rfl) (hw : swappedStores [tg] e X.env = pure none := by rfl)
    (h1 : (assignEach [tg] X.env).map (·.2) = [assign tg X.env] := by rfl) : ES X g W (.Assign [tg] e pos) (wAsg we wg) := by
  obtain ⟨t, p, s⟩ := h.ex
  obtain ⟨t', p', s'⟩ := hg.ex
  refine ⟨_, ps_asg p p' hs hw h1, fun σ vs H ρ cs DD D hS hp hw hE => ?_⟩
  refine s σ vs H ρ cs _ _ _ hS hw (hE.ex σ) fun v H' c ρ' S' q => ?_
  split at q
  · rename_i d ec
    have S2 := S'.frzTop
    rw [ec] at S2
    exact s' σ vs H' ρ' cs v d _ _ S2 (fun j _ i => hp.nopk) q fun σ2 H2 ρ2 S3 _ q2 => hE.nx σ2 H2 ρ2 S3 q2
  · exact q.elim
end

/-! ### what loops walk -/
structure Walks (K : PySem.W.Frag) (J : It) (hs : List V) (hd ds : List D) : Prop where
  go : ∀ (H : Hp) (O : List Addr) (i : Nat), (∀ a ∈ O, ∃ u, H a = some u) → DpAll K (hide H O) hs hd → i < ds.length → J.go i H
  yld : ∀ (H : Hp) (O : List Addr) (i : Nat) (y : V) (H' : Hp) (d : D), (∀ a ∈ O, ∃ u, H a = some u) → DpAll K (hide H O) hs hd → J.yld i H y H' → ds[i]? = some d → Same H H' ∧ Dp K (hide H' O) y d
  stop : ∀ (H : Hp) (O : List Addr) (i : Nat), (∀ a ∈ O, ∃ u, H a = some u) → DpAll K (hide H O) hs hd → ds.length ≤ i → J.stop i H
abbrev WI := Rho → (List D → Rho → Prop) → KX → Prop
def SemI (K : PySem.W.Frag) (g : G) (W : WX) (t : TI) (w : WI) : Prop :=
  ∀ (σ : L2.St) (vs : List V) (H : Hp) (ρ : Rho) (cs : List C) (QD : List D → Rho → Prop) (ED : KX) (R : It → Hp → Prop), SR K g σ vs H ρ cs → w ρ QD ED → XEnds K g W σ ED →
    (∀ J hs hd ds H' ρ', hs.length = hd.length → SR K g σ (hs ++ vs) H' ρ' (hd.map C.v ++ cs) → Walks K J hs hd ds → QD ds ρ' → R J H') → t σ H R
structure EI (X : Cx) (g : G) (W : WX) (tg iter : Expr) (w : WI) : Prop where
  ex : ∃ t, PI X tg iter t ∧ SemI X.K g W t w
@[reducible] def forK (wg : WG) (body : WS) : List D → EndsD → Rho → Prop
  | [], DD, ρ => DD.nx ρ
  | d :: ds, DD, ρ => wg d ρ fun ρ1 => body ⟨forK wg body ds DD, DD.rt, DD.nx, forK wg body ds DD, DD.ex⟩ ρ1
@[reducible] def wFor (wi : WI) (wg : WG) (body : WS) : WS := fun DD ρ => wi ρ (fun ds ρ1 => forK wg body ds DD ρ1) DD.ex
theorem plainAll.vs {hd : List D} {cs : List C} (h : plainAll cs) : plainAll (hd.map C.v ++ cs) := fun c hc => by
  rcases List.mem_append.mp hc with q | q
  · obtain ⟨d, _, e⟩ := List.mem_map.mp q
    exact e ▸ rfl
  · exact h c q
section
variable {K : PySem.W.Frag} {g : G} {σ : L2.St} {vs : List V} {H : Hp} {ρ : Rho} {cs : List C}
/-- the data at the top, all of it -/
theorem SR.tops {hs : List V} {hd : List D} (hl : hs.length = hd.length) (h : SR K g σ (hs ++ vs) H ρ (hd.map C.v ++ cs)) : DpAll K (hide H (tot σ vs ρ cs ++ g.P0)) hs hd := by
  have e0 : dats ρ (hd.map C.v) = some hd := by
    clear h hl
    induction hd with
    | nil => rfl
    | cons d hd ih => show (match some d, dats ρ (hd.map C.v) with | some d, some ds => some (d :: ds) | _, _ => none) = _; rw [ih]
  have tp := h.tp
  rw [List.map_append] at tp
  have q := (RCs.split (by simpa using hl) tp).1
  rw [tot_vs hl] at q
  clear tp e0 h
  induction hs generalizing hd with
  | nil => cases hd with
    | nil => exact .nil
    | cons _ _ => simp at hl
  | cons x hs ih => cases hd with
    | nil => simp at hl
    | cons d hd =>
      obtain ⟨⟨y, e, q1⟩, q2⟩ := q
      cases e
      exact .cons q1 (ih (by simpa using hl) q2)
theorem sem_for {W : WX} {T : List Nat} {ti : TI} {tgt : TG} {tb : TS} {wi : WI} {wg : WG} {wb : WS} (hi : SemI K g W ti wi) (hg : SemG K g T tgt wg) (hb : SemS K g W tb wb) : SemS K g W (tFor ti tgt tb) (wFor wi wg wb) := by
  intro σ vs H ρ cs DD D hS hp hw hE
  refine hi σ vs H ρ cs _ _ _ hS hw (hE.ex σ) fun J hs hd ds H1 ρ1 hl S1 wk q1 => ?_
  refine ⟨fun i m σ' H' => m = ds.length - i ∧ ∃ ρ', SR K g σ' (hs ++ vs) H' ρ' (hd.map C.v ++ cs) ∧ forK wg wb (ds.drop i) DD ρ', ⟨ds.length, by simp, ρ1, S1, by simpa using q1⟩, ?_⟩
  rintro i m σ2 H2 ⟨rfl, ρ2, S2, q2⟩
  have dom := (SR.pops (by simpa using hl) S2).domO
  have dd := SR.tops hl S2
  by_cases hlt : i < ds.length
  · refine .inr ⟨wk.go H2 _ i dom dd hlt, fun σ' H' => ∃ ρ', SR K g σ' (hs ++ vs) H' ρ' (hd.map C.v ++ cs) ∧ forK wg wb (ds.drop (i + 1)) DD ρ', fun σ' H' q => ⟨ds.length - (i + 1), by omega, rfl, q⟩, fun x H3 y => ?_⟩
    have ed : ds.drop i = ds[i] :: ds.drop (i + 1) := List.drop_eq_getElem_cons hlt
    rw [ed] at q2
    obtain ⟨sm, dx⟩ := wk.yld H2 _ i x H3 ds[i] dom dd y (List.getElem?_eq_getElem hlt)
    have S3 : SR K g σ2 (x :: (hs ++ vs)) H3 ρ2 (.v ds[i] :: (hd.map C.v ++ cs)) := SR.resV S2 sm (by rw [tot_vs hl]; exact dx)
    refine hg σ2 (hs ++ vs) H3 ρ2 (hd.map C.v ++ cs) x ds[i] _ _ S3 (fun j _ k => hp.vs.nopk) q2 fun σ4 H4 ρ4 S4 _ q4 => ?_
    refine hb σ4 (hs ++ vs) H4 ρ4 (hd.map C.v ++ cs) _ _ S4 hp.vs q4 ⟨fun σ' H' ρ' S' q => ⟨ρ', S', q⟩, fun σ' H' ρ' S' q => ?_, fun σ' H' ρ' S' q => ⟨ρ', S', q⟩, fun v σ' H' c ρ' S' q => ?_, hE.ex⟩
    · exact hE.nx σ' H' ρ' (SR.pops (by simpa using hl) S') q
    · exact hE.rt v σ' H' c ρ' (SR.pops (xs := hs) (ccs := hd.map C.v) (by simpa using hl) (SR.unrot (by simpa using hl) S')) q
  · refine .inl ⟨wk.stop H2 _ i dom dd (by omega), ?_⟩
    have ed : ds.drop i = [] := List.drop_eq_nil_of_le (by omega)
    rw [ed] at q2
    exact hE.nx σ2 H2 ρ2 (SR.pops (by simpa using hl) S2) q2
end
section
variable {X : Cx} {g : G} {W : WX} {tg iter : Expr} {body : List Stmt} {wi : WI} {wg : WG} {wb : WS} {T : List Nat} {pos : Pos}
theorem es_for (hp : PassesOwn (model X.prog X.w) X.A X.env X.xe) (hc : X.calm = true) (hi : EI X g W tg iter wi) (hg : EG X g tg T wg) (hb : EB X g W body wb) (hs : ∀ x, foldedSetIterable iter X.env x = pure x := by intro _; rfl) : ES X g W (.For tg iter body [] pos) (wFor wi wg wb) := by
  obtain ⟨t, p, s⟩ := hi.ex
  obtain ⟨t1, p1, s1⟩ := hg.ex
  obtain ⟨t2, p2, s2⟩ := hb.ex
  exact ⟨_, ps_for hp hc p p1 p2 hs, sem_for s s1 s2⟩
/-- while -/
@[reducible] def wWhile (wt : WT) (body : WS) : WS := fun DD ρ => ∃ I : Nat → Rho → Prop, (∃ m, I m ρ) ∧ ∀ m ρ, I m ρ →
  wt ρ (fun b ρ1 => if b = true then body ⟨fun ρ2 => ∃ m', m' < m ∧ I m' ρ2, DD.rt, DD.nx, fun ρ2 => ∃ m', m' < m ∧ I m' ρ2, DD.ex⟩ ρ1 else DD.nx ρ1) DD.ex
theorem es_while {c : Expr} {wt : WT} (hp : PassesOwn (model X.prog X.w) X.A X.env X.xe) (hc : ET X g W c wt) (hb : EB X g W body wb) : ES X g W (.While c body [] pos) (wWhile wt wb) := by
  obtain ⟨t, p, s⟩ := hc.ex
  obtain ⟨t2, p2, s2⟩ := hb.ex
  refine ⟨_, ps_while hp p p2, fun σ vs H ρ cs DD D hS hpl hw hE => ?_⟩
  obtain ⟨I, ⟨m0, i0⟩, turn⟩ := hw
  refine ⟨fun m σ H => ∃ ρ, SR X.K g σ vs H ρ cs ∧ I m ρ, ⟨m0, ρ, hS, i0⟩, ?_⟩
  rintro m σ1 H1 ⟨ρ1, S1, i1⟩
  refine s σ1 vs H1 ρ1 cs _ _ _ S1 (turn m ρ1 i1) (hE.ex σ1) fun b H2 ρ2 S2 q2 => ?_
  cases b with
  | false => exact hE.nx σ1 H2 ρ2 S2 q2
  | true =>
    refine ⟨fun σ' H' => ∃ m', m' < m ∧ ∃ ρ', SR X.K g σ' vs H' ρ' cs ∧ I m' ρ', fun σ' H' ⟨m', h1, h2⟩ => ⟨m', h1, h2⟩, ?_⟩
    exact s2 σ1 vs H2 ρ2 cs _ _ S2 hpl q2 ⟨fun σ' H' ρ' S' ⟨m', h1, h2⟩ => ⟨m', h1, ρ', S', h2⟩, fun σ' H' ρ' S' q => hE.nx σ' H' ρ' S' q, fun σ' H' ρ' S' ⟨m', h1, h2⟩ => ⟨m', h1, ρ', S', h2⟩, hE.rt, hE.ex⟩
end
end DL

set_option Elab.async false
set_option linter.all false
set_option maxRecDepth 100000
set_option maxHeartbeats 4000000
/-! DL, a def keeps its promise; what is walked; comprehensions. -/
namespace DL
open PySem PySem.Spec PyProof.Rows L2

/-- what own parameters hold at a def's end -/
@[reducible] def back1 : C → Option C → C
  | .own t _, some (.own t' o') => if t' = t then .own t o' else .no
  | .own _ _, _ => .no
  | a, _ => a
@[reducible] def backs : List C → Rho → List C
  | [], _ => []
  | a :: as, [] => back1 a none :: backs as []
  | a :: as, c :: ρ => back1 a (some c) :: backs as ρ
@[reducible] def startD (n : Nat) (as : List C) : Rho := as ++ List.replicate (n - as.length) .no
section
variable {K : PySem.W.Frag} {g : G}
theorem backs_foot : ∀ {us : List (Option V)} {as : List C} {ρ : Rho}, us.length = as.length → (foot us (backs as ρ)).Sublist (foot us as)
  | [], [], ρ, _ => by cases ρ <;> exact List.Sublist.refl _
  | u :: us, a :: as, [], h => by
    have ih := backs_foot (us := us) (as := as) (ρ := []) (by simpa using h)
    have no : (foot (u :: us) (.no :: backs as [])).Sublist (foot (u :: us) (a :: as)) := by
      show (footC u .no ++ foot us (backs as [])).Sublist (footC u a ++ foot us as)
      rw [footC_no]
      exact (List.nil_sublist _).append ih
    have same : (foot (u :: us) (a :: backs as [])).Sublist (foot (u :: us) (a :: as)) := ih.append_left _
    cases a with
    | own t o => exact no
    | _ => exact same
  | u :: us, a :: as, c :: ρ, h => by
    have ih := backs_foot (us := us) (as := as) (ρ := ρ) (by simpa using h)
    have no : (foot (u :: us) (.no :: backs as ρ)).Sublist (foot (u :: us) (a :: as)) := by
      show (footC u .no ++ foot us (backs as ρ)).Sublist (footC u a ++ foot us as)
      rw [footC_no]
      exact (List.nil_sublist _).append ih
    have same : (foot (u :: us) (a :: backs as ρ)).Sublist (foot (u :: us) (a :: as)) := ih.append_left _
    cases a with
    | own t o =>
      cases c with
      | own t' o' =>
        show (foot (u :: us) ((if t' = t then C.own t o' else .no) :: backs as ρ)).Sublist _
        split
        · have e : footC u (.own t o') = footC u (.own t o) := by
            cases u with
            | none => rfl
            | some x => cases x <;> rfl
          show (footC u (.own t o') ++ foot us (backs as ρ)).Sublist _
          rw [e]
          exact same
        · exact no
      | _ => exact no
    | _ => exact same
  | [], _ :: _, _, h => by simp at h
  | _ :: _, [], _, h => by simp at h
/-- at a def's end: the parameters as they were, their own objects as they are -/
theorem SR.leave {H H' : Hp} {us : L2.St} {as : List C} {σ' : L2.St} {v : List V} {c : List C} {ρ' : Rho} (h : SR K g us [] H as []) (hH : g.H0 = H) (hO : g.Oa = foot us as) (h' : SR K g σ' v H' ρ' c) (hok : ∀ q ∈ c, q.ok = true) : SR K g us v H' (backs as ρ') c ∧ ∀ a ∈ foot us (backs as ρ'), a ∈ foot σ' ρ' := by
  have hlen := h.len
  -- an own parameter that is still there stands where it stood
  have own : ∀ (k : Nat) (us0 : List (Option V)) (as0 : List C) (σ0 : List (Option V)) (ρ0 : Rho), us0.length = as0.length → RCs K g [] (hide H (tot us [] as [] ++ g.P0)) H us0 as0 → RCs K g [] (hide H' (tot σ' v ρ' c ++ g.P0)) H' σ0 ρ0 →
      (∀ a ∈ foot us0 (backs as0 ρ0), a ∈ foot σ0 ρ0) ∧ ∀ (B : Hp), Same (hide H' (tot σ' v ρ' c ++ g.P0)) B → Same (hide H (tot us [] as [] ++ g.P0)) B → RCs K g [] B H' us0 (backs as0 ρ0) := by
    intro k us0
    induction us0 with
    | nil =>
      intro as0 σ0 ρ0 hl _ _
      cases as0 with
      | nil => refine ⟨fun a q => ?_, fun B _ _ => ?_⟩ <;> cases ρ0 <;> first | exact trivial | (simp [backs, foot] at q)
      | cons _ _ => simp at hl
    | cons u us0 ih =>
      intro as0 σ0 ρ0 hl r1 r2
      cases as0 with
      | nil => simp at hl
      | cons a as0 =>
        cases ρ0 with
        | nil =>
          obtain ⟨i1, i2⟩ := ih as0 [] [] (by simpa using hl) r1.2 trivial
          have no : (∀ b ∈ foot (u :: us0) (.no :: backs as0 []), b ∈ foot σ0 ([] : List C)) ∧ ∀ (B : Hp), Same (hide H' (tot σ' v ρ' c ++ g.P0)) B → Same (hide H (tot us [] as [] ++ g.P0)) B → RCs K g [] B H' (u :: us0) (.no :: backs as0 []) := by
            refine ⟨fun b q => ?_, fun B h1 h2 => ⟨trivial, i2 B h1 h2⟩⟩
            rcases List.mem_append.mp (show b ∈ footC u .no ++ foot us0 (backs as0 []) from q) with z | z
            · rw [footC_no] at z; simp at z
            · have q := i1 b z
              simp [foot] at q
          have same : (∀ t o, a ≠ .own t o) → (∀ b ∈ foot (u :: us0) (a :: backs as0 []), b ∈ foot σ0 ([] : List C)) ∧ ∀ (B : Hp), Same (hide H' (tot σ' v ρ' c ++ g.P0)) B → Same (hide H (tot us [] as [] ++ g.P0)) B → RCs K g [] B H' (u :: us0) (a :: backs as0 []) := by
            intro ha
            refine ⟨fun b q => ?_, fun B h1 h2 => ⟨?_, i2 B h1 h2⟩⟩
            · rcases List.mem_append.mp (show b ∈ footC u a ++ foot us0 (backs as0 []) from q) with z | z
              · cases a with
                | own t o => exact absurd rfl (ha t o)
                | _ => cases u with
                  | none => simp [footC] at z
                  | some x => cases x <;> simp [footC] at z
              · have q := i1 b z
                simp [foot] at q
            · cases a with
              | own t o => exact absurd rfl (ha t o)
              | no => trivial
              | v d => obtain ⟨x, e, q⟩ := r1.1; exact ⟨x, e, dp_mono h2 _ _ q⟩
              | pk i => exact r1.1
              | ln i => exact r1.1
          cases a with
          | own t o => exact no
          | _ => exact same fun t o z => by cases z
        | cons c0 ρ0 =>
          cases σ0 with
          | nil => exact r2.elim
          | cons s0 σ0 =>
            obtain ⟨i1, i2⟩ := ih as0 σ0 ρ0 (by simpa using hl) r1.2 r2.2
            have no : (∀ b ∈ foot (u :: us0) (.no :: backs as0 ρ0), b ∈ foot (s0 :: σ0) (c0 :: ρ0)) ∧ ∀ (B : Hp), Same (hide H' (tot σ' v ρ' c ++ g.P0)) B → Same (hide H (tot us [] as [] ++ g.P0)) B → RCs K g [] B H' (u :: us0) (.no :: backs as0 ρ0) := by
              refine ⟨fun b q => ?_, fun B h1 h2 => ⟨trivial, i2 B h1 h2⟩⟩
              rcases List.mem_append.mp (show b ∈ footC u .no ++ foot us0 (backs as0 ρ0) from q) with z | z
              · rw [footC_no] at z; simp at z
              · exact List.mem_append_right _ (i1 b z)
            have same : (∀ t o, a ≠ .own t o) → (∀ b ∈ foot (u :: us0) (a :: backs as0 ρ0), b ∈ foot (s0 :: σ0) (c0 :: ρ0)) ∧ ∀ (B : Hp), Same (hide H' (tot σ' v ρ' c ++ g.P0)) B → Same (hide H (tot us [] as [] ++ g.P0)) B → RCs K g [] B H' (u :: us0) (a :: backs as0 ρ0) := by
              intro ha
              refine ⟨fun b q => ?_, fun B h1 h2 => ⟨?_, i2 B h1 h2⟩⟩
              · rcases List.mem_append.mp (show b ∈ footC u a ++ foot us0 (backs as0 ρ0) from q) with z | z
                · cases a with
                  | own t o => exact absurd rfl (ha t o)
                  | _ => cases u with
                    | none => simp [footC] at z
                    | some x => cases x <;> simp [footC] at z
                · exact List.mem_append_right _ (i1 b z)
              · cases a with
                | own t o => exact absurd rfl (ha t o)
                | no => trivial
                | v d => obtain ⟨x, e, q⟩ := r1.1; exact ⟨x, e, dp_mono h2 _ _ q⟩
                | pk i => exact r1.1
                | ln i => exact r1.1
            cases a with
            | own t o =>
              cases c0 with
              | own t' o' =>
                by_cases et : t' = t
                · have e : backs (.own t o :: as0) (.own t' o' :: ρ0) = .own t o' :: backs as0 ρ0 := by
                    show (if t' = t then C.own t o' else .no) :: backs as0 ρ0 = _
                    rw [if_pos et]
                  rw [e]
                  subst et
                  obtain ⟨b1, e1, _, p1, p2⟩ := r1.1
                  obtain ⟨b2, e2, o2, p3, p4⟩ := r2.1
                  have tn : t' ≠ 0 := fun z => by
                    have q := p2 z
                    have q2 := r1.1
                    obtain ⟨b3, e3, o3, _⟩ := q2
                    obtain ⟨u3, o4⟩ := o3.there
                    rw [e1] at e3; cases e3
                    rw [hH] at q
                    rw [q] at o4; cases o4
                  have eb : b1 = b2 := (p1 tn).symm.trans (p3 tn)
                  subst eb
                  subst e1; subst e2
                  refine ⟨fun b q => ?_, fun B h1 h2 => ⟨⟨b1, rfl, o2.mono h1 fun _ q => q, p3, p4⟩, i2 B h1 h2⟩⟩
                  rcases List.mem_append.mp (show b ∈ footC (some (.ref b1)) (.own t' o') ++ foot us0 (backs as0 ρ0) from q) with z | z
                  · exact List.mem_append_left _ z
                  · exact List.mem_append_right _ (i1 b z)
                · have e : backs (.own t o :: as0) (.own t' o' :: ρ0) = .no :: backs as0 ρ0 := by
                    show (if t' = t then C.own t o' else .no) :: backs as0 ρ0 = _
                    rw [if_neg et]
                  rw [e]
                  exact no
              | _ => exact no
            | _ => exact same fun t o z => by cases z
  obtain ⟨o1, o2⟩ := own 0 us as σ' ρ' hlen h.sl h'.sl
  have sub : ∀ a ∈ tot us v (backs as ρ') c, a ∈ tot σ' v ρ' c := fun a q => by
    rcases List.mem_append.mp q with z | z
    · exact List.mem_append_left _ z
    · exact List.mem_append_right _ (o1 a z)
  have hB2 : Same (hide H (tot us [] as [] ++ g.P0)) (hide H' (tot us v (backs as ρ') c ++ g.P0)) := fun a o e => by
    obtain ⟨h1, h2⟩ := hide_some.mp e
    have nO : a ∉ g.Oa := fun z => h1 (List.mem_append_left _ (List.mem_append_right _ (by rw [← hO]; exact z)))
    have e0 : g.H0 a = some o := by rw [hH]; exact h2
    refine hide_some.mpr ⟨fun z => ?_, h'.fr a o e0 nO⟩
    rcases List.mem_append.mp z with z | z
    · rcases h'.nw a (sub a z) with q | q
      · exact nO q
      · rw [e0] at q; cases q
    · exact h1 (List.mem_append_right _ z)
  refine ⟨?_, o1⟩
  refine h'.gen (fun _ _ _ q => q) (fun _ o q => ⟨o, q⟩) (fun a q => .inl (sub a q)) ?_ (fun hB => o2 _ hB hB2) (fun hB => ?_) h'.pk
  · have n1 := h'.nd
    have n2 := h.nd
    obtain ⟨p1, p2, p3⟩ := List.nodup_append.mp n1
    refine List.nodup_append.mpr ⟨p1, (backs_foot hlen).nodup (List.nodup_append.mp n2).2.1, fun a q b z e => ?_⟩
    subst e
    exact p3 a q a (o1 a z) rfl
  · have q := RCs.mono (B' := hide H' (tot us v (backs as ρ') c ++ g.P0)) (H' := H') hB (fun _ _ _ q => q) h'.tp
    refine q.slots fun j z => ?_
    rcases z with z | z <;> cases hok _ z
end
section
variable {P : Program} {w : World} {K : PySem.W.Frag} {mg : Str → Option Value} {base : Heap} {x qual : Str} {params : Arguments} {body : List Stmt} {scope : Scope} {dvs : List V} {kws : List (Str × V)} {f : Addr} {fd : FuncData}
theorem start_SR {H : Hp} {vs : List V} {as : List C} {P : List Addr} {L : Nat → Bool} {n : Nat} {N : List Str} (hn : N.length = n) (h : SR K (mkG H vs as P L0) (vs.map some) [] H as []) : SR K ⟨H, tgOf vs, foot (vs.map some) as, P, L⟩ (L2.start N vs) [] H (startD n as) [] := by
  have h1 : SR K ⟨H, tgOf vs, foot (vs.map some) as, P, L⟩ (vs.map some) [] H as [] := h.setL rfl rfl rfl rfl fun i q => by simp at q
  have hl : vs.length = as.length := by have := h.len; simpa using this
  have e1 : ∀ n, foot (List.replicate n none) (List.replicate n C.no) = [] := fun n => by
    induction n with
    | zero => rfl
    | succ n ih => rw [List.replicate_succ, List.replicate_succ]; show footC none .no ++ foot _ _ = []; rw [ih]; rfl
  have en : N.length - vs.length = n - as.length := by omega
  have ft : foot (L2.start N vs) (startD n as) = foot (vs.map some) as := by
    unfold L2.start startD
    rw [foot_app (by simpa using hl), en, e1, List.append_nil]
  have ft2 : tot (L2.start N vs) [] (startD n as) [] = tot (vs.map some) [] as [] := by
    show foot _ _ ++ foot (L2.start N vs) (startD n as) = foot _ _ ++ _
    rw [ft]
  refine h1.gen (fun _ _ _ q => q) (fun _ o q => ⟨o, q⟩) (fun a q => .inl (by rw [ft2] at q; exact q)) (by rw [ft2]; exact h1.nd) (fun hB => ?_) (fun hB => trivial) (fun i q => by simp at q)
  unfold L2.start startD at hB ⊢
  rw [en] at hB ⊢
  refine RCs.app (h1.sl.mono hB fun _ _ _ q => q) ?_
  have go : ∀ (B : Hp) (m : Nat), RCs K ⟨H, tgOf vs, foot (vs.map some) as, P, L⟩ [] B H (List.replicate m none) (List.replicate m C.no) := fun B m => by
    induction m with
    | zero => trivial
    | succ m ih => exact ⟨trivial, ih⟩
  exact go _ _
/-- the ends of a def's body -/
abbrev bodyEnds (as : List C) (QD : C → List C → Prop) (ED : XD → List C → Prop) : EndsD := ⟨fun ρ => QD (.v .none) (backs as ρ), fun c ρ => c.ok = true ∧ QD c (backs as ρ), fun _ => False, fun _ => False, fun x ρ => ED x (backs as ρ)⟩
theorem body_ok {X : Cx} (hK : X.K = K) {N : List Str} {n : Nat} (hn : N.length = n) {Sd : SpD} {ww : WS} {L : Nat → Bool} {W : WX} {E : XK} (hE : ∀ cls d σ H, E cls d H → W cls d σ H)
    (hb : ∀ g : G, g.L = L → EB X g W body ww) (hw : ∀ as QD ED, Sd as QD ED → ww (bodyEnds as QD ED) (startD n as)) {vs : List V} {H : Hp} {Q : VK} (h : spOf K Sd vs H Q E) :
    ∃ t, PSs X body t ∧ t { nx := fun _ H' => Q .non H', rt := Q } (L2.start N vs) H := by
  subst hK
  obtain ⟨as, P, QD, ED, entry, sd, ret, exc⟩ := h
  obtain ⟨t, p, s⟩ := (hb ⟨H, tgOf vs, foot (vs.map some) as, P, L⟩ rfl).ex
  have e1 : SR X.K ⟨H, tgOf vs, foot (vs.map some) as, P, L⟩ (vs.map some) [] H as [] := entry.setL rfl rfl rfl rfl fun i q => by simp at q
  refine ⟨t, p, s (L2.start N vs) [] H (startD n as) [] _ _ (start_SR hn entry) (fun c q => by simp at q) (hw as QD ED sd) ⟨fun σ' H' ρ' S' q => ?_, fun _ _ _ _ q => q, fun _ _ _ _ q => q, fun v σ' H' c ρ' S' q => ?_, fun σ' y ρ' cls d H' S' xr ed => ?_⟩⟩
  · obtain ⟨S2, _⟩ := SR.leave e1 rfl rfl (SR.resV S' (Same.refl H') .non) (fun q hq => by first | (rw [List.mem_singleton.mp hq]; done) | (rw [List.mem_singleton.mp hq]; rfl))
    exact ret _ _ rfl q _ H' (S2.setL rfl rfl rfl rfl fun i z => by simp at z)
  · obtain ⟨S2, _⟩ := SR.leave e1 rfl rfl S' (fun z hz => by rw [List.mem_singleton.mp hz]; exact q.1)
    refine ret _ _ q.1 q.2 _ H' (S2.setL rfl rfl rfl rfl fun i z => ?_)
    have := q.1
    rcases z with z | z <;> (rw [← List.mem_singleton.mp z] at this; cases this)
  · obtain ⟨S2, o1⟩ := SR.leave e1 rfl rfl S' (fun q hq => by simp at hq)
    refine hE cls d σ' H' (exc y _ ed cls d H' (S2.setL rfl rfl rfl rfl fun i z => by simp at z) (XRep.mono (.inr fun a o e => ?_) xr))
    obtain ⟨h1, h2⟩ := hide_some.mp e
    refine hide_some.mpr ⟨fun z => h1 ?_, h2⟩
    rcases List.mem_append.mp z with z | z
    · refine List.mem_append_left _ ?_
      exact List.mem_append_right _ (o1 a z)
    · exact List.mem_append_right _ z
end
end DL

set_option Elab.async false
set_option linter.all false
set_option maxRecDepth 100000
set_option maxHeartbeats 4000000
/-! DL: what is walked; comprehensions; subscripts, slices, built-ins. -/
namespace DL
open PySem PySem.Spec PyProof.Rows L2

/-! ### a def -/
section
variable {P : Program} {w : World} {K : PySem.W.Frag} {mg : Str → Option Value} {base : Heap} {x qual : Str} {params : Arguments} {body : List Stmt} {scope : Scope} {dvs : List V} {kws : List (Str × V)} {f : Addr} {fd : FuncData}
/-- a def that lets no exception out -/
theorem fn0 {CX : CXT} {N ps : List Str} {n k : Nat} {Sd : SpD} {L : Nat → Bool} {ww : WS} (F : FunD K x qual params body scope dvs kws f fd) (S : FnScope N ps scope) (hn : N.length = n) (len : ∀ as QD ED, Sd as QD ED → as.length = ps.length)
    (hb : ∀ (cdv : Value) (A : Around) (outer : List Env) (s : Shared) (H : Hp) (E : XK), Room k (A.deeper (envOfC qual scope s.heap.objs.size f cdv)) → ∀ g : G, g.L = L → EB (cxOf CX P w K mg base N qual scope f cdv A outer s H E).nox g (fun _ _ _ _ => False) body ww)
    (hw : ∀ as QD ED, Sd as QD ED → ww (bodyEnds as QD fun _ _ => False) (startD n as)) : FnOk P w K mg base CX (k + 1) f fd ps (spOf K Sd) := by
  refine F.ok S (fun vs H Q E h => ?_) fun cdv A outer s H vs Q E hr h => ?_
  · obtain ⟨as, P, QD, ED, entry, sd, _⟩ := h
    have e := entry.len
    rw [List.length_map] at e
    rw [e, len as QD ED sd]
  · obtain ⟨as, P, QD, ED, entry, sd, ret, exc⟩ := h
    have h2 : spOf K (fun as QD ED' => ED' = (fun _ _ => False) ∧ ∃ ED, Sd as QD ED) vs H Q (fun _ _ _ => False) := ⟨as, P, QD, fun _ _ => False, entry, ⟨rfl, ED, sd⟩, ret, fun x rs z => z.elim⟩
    obtain ⟨t, p, q⟩ := body_ok (N := N) (X := (cxOf CX _ w K mg base N qual scope f cdv A outer s H E).nox) (K := K) rfl hn (W := fun _ _ _ _ => False) (E := fun _ _ _ => False) (fun _ _ _ _ z => z)
      (fun g hg => hb cdv A outer s H E hr g hg) (fun as' QD' ED' ⟨z1, ED2, z2⟩ => by rw [z1]; exact hw as' QD' ED2 z2) h2
    exact ⟨t, p.nox, q⟩
/-- a def that may let exceptions out -/
theorem fnX {N ps : List Str} {n k : Nat} {Sd : SpD} {L : Nat → Bool} {ww : WS} (F : FunD K x qual params body scope dvs kws f fd) (S : FnScope N ps scope) (hn : N.length = n) (len : ∀ as QD ED, Sd as QD ED → as.length = ps.length)
    (hb : ∀ (cdv : Value) (A : Around) (outer : List Env) (s : Shared) (H : Hp) (E : XK), Room k (A.deeper (envOfC qual scope s.heap.objs.size f cdv)) → ∀ g : G, g.L = L → EB (cxOf (L2.CX P w) P w K mg base N qual scope f cdv A outer s H E) g (fun cls d _ H => E cls d H) body ww)
    (hw : ∀ as QD ED, Sd as QD ED → ww (bodyEnds as QD ED) (startD n as)) : FnOk P w K mg base (L2.CX P w) (k + 1) f fd ps (spOf K Sd) := by
  refine F.ok S (fun vs H Q E h => ?_) fun cdv A outer s H vs Q E hr h => ?_
  · obtain ⟨as, P, QD, ED, entry, sd, _⟩ := h
    have e := entry.len
    rw [List.length_map] at e
    rw [e, len as QD ED sd]
  · exact body_ok (N := N) (X := cxOf (L2.CX P w) P w K mg base N qual scope f cdv A outer s H E) (K := K) rfl hn (W := fun cls d _ H => E cls d H) (E := E) (fun _ _ _ _ z => z) (fun g hg => hb cdv A outer s H E hr g hg) hw h
end

/-! ### what is walked -/
section
variable {K : PySem.W.Frag} {hs : List V} {hd ds : List D}
theorem walks_list {a : Addr} {ds : List D} : Walks K (Itl K a) [.ref a] [.list ds] ds := by
  have rd : ∀ {H : Hp} {O : List Addr}, DpAll K (hide H O) [V.ref a] [PyData.list ds] → ∃ xs, SqL K H a xs ∧ DpAll K (hide H O) xs ds := fun {H O} q => by
    cases q with
    | cons q _ =>
      cases q with
      | lst h1 h2 => exact ⟨_, Same.seq (fun b o e => (hide_some.mp e).2) h1, h2⟩
  refine ⟨fun H O i _ q hi => ?_, fun H O i y H' d _ q hy hd => ?_, fun H O i _ q hi => ?_⟩
  · obtain ⟨xs, h1, h2⟩ := rd q
    have hl : i < xs.length := by rw [DL.DpAll.len h2]; exact hi
    exact ⟨xs, xs[i], h1, List.getElem?_eq_getElem hl⟩
  · obtain ⟨xs, h1, h2⟩ := rd q
    obtain ⟨rfl, h3⟩ := hy
    obtain ⟨v, e1, e2⟩ := DL.DpAll.get h2 hd
    have e3 := h3 xs h1
    rw [e1] at e3
    cases e3
    exact ⟨Same.refl _, e2⟩
  · obtain ⟨xs, h1, h2⟩ := rd q
    exact ⟨xs, h1, by rw [DL.DpAll.len h2]; exact hi⟩
theorem walks_tup {a : Addr} {ds : List D} : Walks K (Itt K a) [.ref a] [.tuple ds] ds := by
  have rd : ∀ {H : Hp} {O : List Addr}, DpAll K (hide H O) [V.ref a] [PyData.tuple ds] → ∃ xs, SqT K H a xs ∧ DpAll K (hide H O) xs ds := fun {H O} q => by
    cases q with
    | cons q _ =>
      cases q with
      | tup h1 h2 => exact ⟨_, seqT_same (fun b o e => (hide_some.mp e).2) h1, h2⟩
  refine ⟨fun H O i _ q hi => ?_, fun H O i y H' d _ q hy hd => ?_, fun H O i _ q hi => ?_⟩
  · obtain ⟨xs, h1, h2⟩ := rd q
    have hl : i < xs.length := by rw [DL.DpAll.len h2]; exact hi
    exact ⟨xs, xs[i], h1, List.getElem?_eq_getElem hl⟩
  · obtain ⟨xs, h1, h2⟩ := rd q
    obtain ⟨rfl, h3⟩ := hy
    obtain ⟨v, e1, e2⟩ := DL.DpAll.get h2 hd
    have e3 := h3 xs h1
    rw [e1] at e3
    cases e3
    exact ⟨Same.refl _, e2⟩
  · obtain ⟨xs, h1, h2⟩ := rd q
    exact ⟨xs, h1, by rw [DL.DpAll.len h2]; exact hi⟩
def rangeD (lo : Int) (n : Nat) : List D := (List.range n).map fun (k : Nat) => PyData.int (lo + k)
theorem walks_range {lo : Int} {n : Nat} : Walks K (Itr lo n) [] [] (rangeD lo n) := by
  refine ⟨fun H O i _ q hi => ?_, fun H O i y H' d _ q hy hd => ?_, fun H O i _ q hi => ?_⟩
  · show i < n
    simpa [rangeD] using hi
  · obtain ⟨rfl, rfl⟩ := hy
    have hi : i < n := by
      have := (List.getElem?_eq_some_iff.mp hd).1
      simpa [rangeD] using this
    have e : (rangeD lo n)[i]? = some (.int (lo + i)) := by
      unfold rangeD
      rw [List.getElem?_map, List.getElem?_range hi]
      rfl
    rw [e] at hd
    cases hd
    exact ⟨Same.refl _, .int _⟩
  · show n ≤ i
    simpa [rangeD] using hi
def strD (x : Str) : List D := x.cps.toList.map fun c => PyData.str ⟨#[c]⟩
theorem walks_str {x : Str} : Walks K (Its x) [] [] (strD x) := by
  refine ⟨fun H O i _ q hi => ?_, fun H O i y H' d _ q hy hd => ?_, fun H O i _ q hi => ?_⟩
  · show i < x.cps.size
    simpa [strD] using hi
  · obtain ⟨rfl, c, e, rfl⟩ := hy
    have e2 : (strD x)[i]? = some (.str ⟨#[c]⟩) := by
      unfold strD
      rw [List.getElem?_map, Array.getElem?_toList, e]
      rfl
    rw [e2] at hd
    cases hd
    exact ⟨Same.refl _, .str _⟩
  · show x.cps.size ≤ i
    simpa [strD] using hi
end
/-- the items of a walked thing -/
@[reducible] def wIL (we : WE) : WI := fun ρ Q E => we ρ (fun c ρ1 => match frzC c with
  | .v (.list ds) => Q ds ρ1
  | _ => False) E
@[reducible] def wIT (we : WE) : WI := fun ρ Q E => we ρ (fun c ρ1 => match c with
  | .v (.tuple ds) => Q ds ρ1
  | _ => False) E
@[reducible] def wIS (we : WE) : WI := fun ρ Q E => we ρ (fun c ρ1 => match c with
  | .v (.str x) => Q (strD x) ρ1
  | _ => False) E
/-- range(j), range(i, j) -/
@[reducible] def wIR1 (wa : WA) : WI := fun ρ Q E => wa ρ (fun cs ρ1 => match cs with
  | [.v (.int j)] => (-(2 ^ 62) ≤ j ∧ j < 2 ^ 62) ∧ Q (rangeD 0 j.toNat) ρ1
  | _ => False) E
@[reducible] def wIR2 (wa : WA) : WI := fun ρ Q E => wa ρ (fun cs ρ1 => match cs with
  | [.v (.int i), .v (.int j)] => (-(2 ^ 62) ≤ i ∧ i < 2 ^ 62 ∧ -(2 ^ 62) ≤ j ∧ j < 2 ^ 62) ∧ Q (rangeD i (j - i).toNat) ρ1
  | _ => False) E
section
variable {X : Cx} {g : G} {W : WX} {tg e : Expr} {we : WE} {pos : Pos}
theorem ei_lst (h : EE X g W e we) : EI X g W tg e (wIL we) := by
  obtain ⟨t, p, s⟩ := h.ex
  refine ⟨_, pi_list p, fun σ vs H ρ cs QD ED R hS hw hX hQ => ?_⟩
  refine s σ vs H ρ cs _ ED _ hS hw hX fun x H1 c ρ1 S1 q1 => ?_
  split at q1
  · rename_i ds ec
    have S2 := S1.frzTop
    rw [ec] at S2
    have q := S2.top
    cases q with
    | lst h1 h2 =>
      rename_i a xs
      exact ⟨a, rfl, ⟨xs, Same.seq (fun b o e => (hide_some.mp e).2) h1⟩, hQ _ [.ref a] [.list ds] ds H1 ρ1 rfl S2 walks_list q1⟩
  · exact q1.elim
theorem ei_tup (h : EE X g W e we) : EI X g W tg e (wIT we) := by
  obtain ⟨t, p, s⟩ := h.ex
  refine ⟨_, pi_tup p, fun σ vs H ρ cs QD ED R hS hw hX hQ => ?_⟩
  refine s σ vs H ρ cs _ ED _ hS hw hX fun x H1 c ρ1 S1 q1 => ?_
  split at q1
  · rename_i ds
    have q := S1.top
    cases q with
    | tup h1 h2 =>
      rename_i a xs
      exact ⟨a, rfl, ⟨xs, seqT_same (fun b o e => (hide_some.mp e).2) h1⟩, hQ _ [.ref a] [.tuple ds] ds H1 ρ1 rfl S1 walks_tup q1⟩
  · exact q1.elim
theorem ei_str (h : EE X g W e we) : EI X g W tg e (wIS we) := by
  obtain ⟨t, p, s⟩ := h.ex
  refine ⟨_, pi_str p, fun σ vs H ρ cs QD ED R hS hw hX hQ => ?_⟩
  refine s σ vs H ρ cs _ ED _ hS hw hX fun x H1 c ρ1 S1 q1 => ?_
  split at q1
  · rename_i z
    have q := S1.top
    cases q
    exact ⟨z, rfl, hQ _ [] [] (strD z) H1 ρ1 rfl S1.pop walks_str q1⟩
  · exact q1.elim
theorem ei_range1 {a : Expr} {wa : WA} {p : Pos} (hg : Gl X "range") (hm : X.mg "range" = none) (ha : EA X g W [a] wa) (hs : starEach [a] X.env = [(false, eval a X.env)] := by rfl) : EI X g W tg (.Call (.Name "range" p) [a] [] pos) (wIR1 wa) := by
  obtain ⟨t, q, s⟩ := ha.ex
  refine ⟨_, pi_range1 hg hm q hs, fun σ vs H ρ cs QD ED R hS hw hX hQ => ?_⟩
  refine s σ vs H ρ cs _ ED _ hS hw hX fun xs H1 ccs ρ1 hl S1 q1 => ?_
  split at q1
  · rename_i j
    match xs, hl with
    | [x], _ =>
      have q := S1.top
      cases q
      exact ⟨j, rfl, q1.1.1, q1.1.2, hQ _ [] [] _ H1 ρ1 rfl S1.pop walks_range q1.2⟩
  · exact q1.elim
theorem ei_range2 {a b : Expr} {wa : WA} {p : Pos} (hg : Gl X "range") (hm : X.mg "range" = none) (ha : EA X g W [a, b] wa) (hs : starEach [a, b] X.env = [(false, eval a X.env), (false, eval b X.env)] := by rfl) (hs2 : starEach [b] X.env = [(false, eval b X.env)] := by rfl) : EI X g W tg (.Call (.Name "range" p) [a, b] [] pos) (wIR2 wa) := by
  obtain ⟨t, q, s⟩ := ha.ex
  refine ⟨_, pi_range2 hg hm q hs hs2, fun σ vs H ρ cs QD ED R hS hw hX hQ => ?_⟩
  refine s σ vs H ρ cs _ ED _ hS hw hX fun xs H1 ccs ρ1 hl S1 q1 => ?_
  split at q1
  · rename_i i j
    match xs, hl with
    | [x, y], _ =>
      have q := S1.top
      cases q
      have q2 := S1.pop.top
      cases q2
      exact ⟨i, j, rfl, q1.1, hQ _ [] [] _ H1 ρ1 rfl S1.pop.pop walks_range q1.2⟩
  · exact q1.elim
end

/-! ### comprehensions -/
@[reducible] def clr (T : List Nat) (ρ : Rho) : Rho := match T with
  | [] => ρ
  | i :: T => rset (clr T ρ) i .no
/-- [elt for target in items if test]: acc so far; what holds for the list -/
@[reducible] def lcK (T : List Nat) (wg : WG) (wt : WT) (we : WE) : List D → List D → Rho → (List D → Rho → Prop) → Prop
  | [], acc, ρ, k => k acc ρ
  | d :: ds, acc, ρ, k => wg d ρ fun ρ1 => wt ρ1 (fun b ρ2 => if b = true then we ρ2 (fun c ρ3 => match frzC c with
      | .v d' => lcK T wg wt we ds (acc ++ [d']) (clr T ρ3) k
      | _ => False) (fun _ _ => False) else lcK T wg wt we ds acc (clr T ρ2) k) (fun _ _ => False)
/-- what stood in the names of a comprehension comes back -/
def bring (ρ : Rho) : List Nat → Rho → Rho
  | [], ρ' => ρ'
  | i :: T, ρ' => rset (bring ρ T ρ') i (match rget ρ i with
    | .v d => .v d
    | _ => .no)
@[reducible] def wLc (T : List Nat) (wi : WI) (wg : WG) (wt : WT) (we : WE) : WE := fun ρ Q E => wi ρ (fun ds ρ1 => ds.length ≤ sizeLine ∧ lcK T wg wt we ds [] (clr T ρ1) fun acc ρ2 => Q (.own 0 (.lst acc)) (bring ρ1 T ρ2)) E
@[reducible] def wYes : WT := fun ρ Q _ => Q true ρ
structure ETs (X : Cx) (g : G) (W : WX) (ifs : List Expr) (w : WT) : Prop where
  ex : ∃ t, PTs X ifs t ∧ SemT X.K g W t w
theorem ets_nil {X : Cx} {g : G} {W : WX} : ETs X g W [] wYes := ⟨_, pts_nil, fun σ vs H ρ cs QD ED Q hS hw hX hQ => hQ true H ρ hS hw⟩
theorem ets_one {X : Cx} {g : G} {W : WX} {c : Expr} {wt : WT} (h : ET X g W c wt) : ETs X g W [c] wt := by
  obtain ⟨t, p, s⟩ := h.ex
  exact ⟨_, pts_one p, s⟩
/-- slots may change where nothing is held -/
theorem foot_agree : ∀ {σ σ' : List (Option V)} {ρ : Rho}, σ'.length = σ.length → (∀ j, rget ρ j ≠ .no → σ'[j]? = σ[j]?) → foot σ' ρ = foot σ ρ
  | [], [], _, _, _ => rfl
  | _ :: _, _ :: _, [], _, _ => rfl
  | v :: σ, v' :: σ', c :: ρ, hl, h => by
    have ih := foot_agree (σ := σ) (σ' := σ') (ρ := ρ) (by simpa using hl) fun j hj => by have := h (j + 1) hj; simpa using this
    have e : footC v' c = footC v c := by
      cases c with
      | no => rw [footC_no, footC_no]
      | _ =>
        have e1 := h 0 (fun z => by cases z)
        have e2 : v' = v := by simpa using e1
        rw [e2]
    show footC v' c ++ foot σ' ρ = footC v c ++ foot σ ρ
    rw [e, ih]
  | [], _ :: _, _, h, _ => by simp at h
  | _ :: _, [], _, h, _ => by simp at h
theorem RCs.agree {K : PySem.W.Frag} {g : G} {s : L2.St} {B H : Hp} : ∀ {σ σ' : List (Option V)} {ρ : Rho}, σ'.length = σ.length → (∀ j, rget ρ j ≠ .no → σ'[j]? = σ[j]?) → RCs K g s B H σ ρ → RCs K g s B H σ' ρ
  | [], [], _, _, _, h => h
  | _ :: _, _ :: _, [], _, _, h => h.elim
  | v :: σ, v' :: σ', c :: ρ, hl, h, r => by
    refine ⟨?_, RCs.agree (σ := σ) (σ' := σ') (ρ := ρ) (by simpa using hl) (fun j hj => by have := h (j + 1) hj; simpa using this) r.2⟩
    cases c with
    | no => trivial
    | _ =>
      have e1 := h 0 (fun z => by cases z)
      have e2 : v' = v := by simpa using e1
      rw [e2]
      exact r.1
  | [], _ :: _, _, h, _, _ => by simp at h
  | _ :: _, [], _, h, _, _ => by simp at h
section
variable {K : PySem.W.Frag} {g : G} {σ σ' : L2.St} {vs : List V} {H : Hp} {ρ : Rho} {cs : List C}
theorem SR.agree (h : SR K g σ vs H ρ cs) (hl : σ'.length = σ.length) (hj : ∀ j, rget ρ j ≠ .no → σ'[j]? = σ[j]?) (hp : ∀ j, (C.pk j ∈ cs ∨ C.ln j ∈ cs) → σ'[j]? = σ[j]?) : SR K g σ' vs H ρ cs := by
  have ft : tot σ' vs ρ cs = tot σ vs ρ cs := by
    show foot (vs.map some) cs ++ foot σ' ρ = _
    rw [foot_agree hl hj]
  exact h.gen (fun _ _ _ q => q) (fun _ o q => ⟨o, q⟩) (fun a q => .inl (by rw [ft] at q; exact q)) (by rw [ft]; exact h.nd) (fun hB => (h.sl.mono hB fun _ _ _ q => q).agree hl hj) (fun hB => (h.tp.mono hB fun _ _ _ q => q).slots hp) h.pk
theorem rget_rset_ne : ∀ {ρ : Rho} {i j : Nat} {c : C}, i ≠ j → rget (rset ρ i c) j = rget ρ j
  | [], _, _, _, _ => rfl
  | _ :: _, 0, 0, _, h => absurd rfl h
  | _ :: _, 0, _ + 1, _, _ => rfl
  | _ :: _, _ + 1, 0, _, _ => rfl
  | _ :: ρ, i + 1, j + 1, c, h => rget_rset_ne (ρ := ρ) (i := i) (j := j) (c := c) (fun e => h (by rw [e]))
theorem rget_over : ∀ {ρ : Rho} {i : Nat}, ρ.length ≤ i → rget ρ i = .no
  | [], _, _ => rfl
  | _ :: _, 0, h => by simp at h
  | _ :: ρ, i + 1, h => rget_over (ρ := ρ) (i := i) (by simpa using h)
theorem clr_len : ∀ {T : List Nat}, (clr T ρ).length = ρ.length
  | [] => rfl
  | i :: T => by show (rset (clr T ρ) i .no).length = _; rw [rset_len, clr_len]
theorem clr_in : ∀ {T : List Nat} {j : Nat}, j ∈ T → rget (clr T ρ) j = .no
  | i :: T, j, h => by
    show rget (rset (clr T ρ) i .no) j = .no
    by_cases e : i = j
    · subst e
      by_cases hl : i < ρ.length
      · exact rget_rset (by rw [clr_len]; exact hl)
      · exact rget_over (by rw [rset_len, clr_len]; omega)
    · rw [rget_rset_ne e]
      exact clr_in ((List.mem_cons.mp h).resolve_left fun z => e z.symm)
theorem SR.clrs (h : SR K g σ vs H ρ cs) : ∀ (T : List Nat), SR K g σ vs H (clr T ρ) cs
  | [] => h
  | i :: T => (SR.clrs h T).clear i
theorem wipe_get {T : List Nat} {j : Nat} (h : j ∉ T) : (wipe σ T)[j]? = σ[j]? := wipe_out h
/-- into the block, out of it -/
theorem SR.wiped {T : List Nat} (h : SR K g σ vs H ρ cs) (hT : ∀ j ∈ T, rget ρ j = .no) (hL : ∀ j ∈ T, g.L j = false) : SR K g (wipe σ T) vs H ρ cs :=
  h.agree (wipe_length σ T) (fun j hj => wipe_get fun z => hj (hT j z)) fun j hj => wipe_get fun z => by
    have := h.pk j hj
    rw [hL j z] at this; cases this
theorem wipe_in : ∀ {T : List Nat} {j : Nat}, j ∈ T → j < σ.length → (wipe σ T)[j]? = some none
  | i :: T, j, h, hl => by
    show ((wipe σ T).set i none)[j]? = some none
    by_cases e : i = j
    · subst e
      rw [List.getElem?_set_self (by rw [wipe_length]; exact hl)]
    · rw [List.getElem?_set_ne e]
      exact wipe_in ((List.mem_cons.mp h).resolve_left fun z => e z.symm) hl
theorem only_wipe {T : List Nat} (h : DL.Only T σ σ') : wipe σ' T = wipe σ T := by
  apply List.ext_getElem?
  intro j
  by_cases hj : j ∈ T
  · by_cases hl : j < σ.length
    · rw [wipe_in hj hl, wipe_in hj (by rw [h.1]; exact hl)]
    · rw [List.getElem?_eq_none (by rw [wipe_length, h.1]; omega), List.getElem?_eq_none (by rw [wipe_length]; omega)]
  · rw [wipe_get hj, wipe_get hj, h.2 j hj]
theorem wipe_wipe {T : List Nat} : wipe (wipe σ T) T = wipe σ T := only_wipe ⟨wipe_length σ T, fun j hj => wipe_get hj⟩
end
/-- data kept aside -/
def keptD (ρ : Rho) : List Nat → List D
  | [] => []
  | i :: T => (match rget ρ i with
    | .v d => d
    | _ => .none) :: keptD ρ T
section
variable {K : PySem.W.Frag} {g : G} {σ : L2.St} {vs : List V} {H : Hp} {ρ : Rho} {cs : List C}
theorem keptD_at (h : SR K g σ vs H ρ cs) : ∀ (T : List Nat), ∃ xs : List V, xs.length = (keptD ρ T).length ∧ DpAll K (hide H (tot σ vs ρ cs ++ g.P0)) xs (keptD ρ T) ∧ ∀ (k i : Nat) (d : D), T[k]? = some i → rget ρ i = .v d → ∃ x, xs[k]? = some x ∧ σ[i]? = some (some x)
  | [] => ⟨[], rfl, .nil, fun k i d e => by simp at e⟩
  | i :: T => by
    obtain ⟨xs, h1, h2, h3⟩ := keptD_at h T
    cases e : rget ρ i with
    | v d =>
      obtain ⟨x, e1, q⟩ := h.slot e
      have ek : keptD ρ (i :: T) = d :: keptD ρ T := by show (match rget ρ i with | .v d => d | _ => .none) :: _ = _; rw [e]
      rw [ek]
      refine ⟨x :: xs, by simp [h1], .cons q h2, fun k i' d' e2 e3 => ?_⟩
      cases k with
      | zero =>
        have e4 : i = i' := by simpa using e2
        subst e4
        exact ⟨x, rfl, e1⟩
      | succ k => obtain ⟨y, y1, y2⟩ := h3 k i' d' (by simpa using e2) e3; exact ⟨y, by simpa using y1, y2⟩
    | _ =>
      have ek : keptD ρ (i :: T) = .none :: keptD ρ T := by show (match rget ρ i with | .v d => d | _ => .none) :: _ = _; rw [e]
      rw [ek]
      refine ⟨.non :: xs, by simp [h1], .cons .non h2, fun k i' d' e2 e3 => ?_⟩
      cases k with
      | zero =>
        have e4 : i = i' := by simpa using e2
        subst e4
        rw [e] at e3; cases e3
      | succ k => obtain ⟨y, y1, y2⟩ := h3 k i' d' (by simpa using e2) e3; exact ⟨y, by simpa using y1, y2⟩
end
end DL

set_option Elab.async false
set_option linter.all false
set_option maxRecDepth 100000
set_option maxHeartbeats 4000000
/-! DL: comprehensions, own lists changed. -/
namespace DL
open PySem PySem.Spec PyProof.Rows L2

/-! ### one reading for a piece of syntax, whatever the context -/
def tOfE (K : PySem.W.Frag) (g : G) (W : WX) (w : WE) : TE := fun σ H Q => ∃ vs ρ cs QD ED, SR K g σ vs H ρ cs ∧ w ρ QD ED ∧ XEnds K g W σ ED ∧ ∀ v H' c ρ', SR K g σ (v :: vs) H' ρ' (c :: cs) → QD c ρ' → Q v H'
def tOfT (K : PySem.W.Frag) (g : G) (W : WX) (w : WT) : TT := fun σ H Q => ∃ vs ρ cs QD ED, SR K g σ vs H ρ cs ∧ w ρ QD ED ∧ XEnds K g W σ ED ∧ ∀ b H' ρ', SR K g σ vs H' ρ' cs → QD b ρ' → Q b H'
def tOfG (K : PySem.W.Frag) (g : G) (T : List Nat) (w : WG) : TG := fun x σ H Q => ∃ vs ρ cs d QD, SR K g σ (x :: vs) H ρ (.v d :: cs) ∧ (∀ j ∈ T, ∀ i, (C.pk i ∈ cs ∨ C.ln i ∈ cs) → i ≠ j) ∧ w d ρ QD ∧ ∀ σ' H' ρ', SR K g σ' vs H' ρ' cs → DL.Only T σ σ' → QD ρ' → Q σ' H'
section
variable {X : Cx} {g : G} {W : WX} {e : Expr} {ifs : List Expr} {T : List Nat}
theorem EE.can {w : WE} (h : EE X g W e w) : PE X e (tOfE X.K g W w) := by
  obtain ⟨t, p, s⟩ := h.ex
  exact ⟨fun pins sh σ H Q I ⟨vs, ρ, cs, QD, ED, hS, hw, hX, hQ⟩ => p.run pins sh σ H Q I (s σ vs H ρ cs QD ED Q hS hw hX hQ)⟩
theorem ETs.can {w : WT} (h : ETs X g W ifs w) : PTs X ifs (tOfT X.K g W w) := by
  obtain ⟨t, p, s⟩ := h.ex
  exact ⟨fun pins sh σ H Q I ⟨vs, ρ, cs, QD, ED, hS, hw, hX, hQ⟩ => p.run pins sh σ H Q I (s σ vs H ρ cs QD ED Q hS hw hX hQ)⟩
theorem EG.can {w : WG} (h : EG X g e T w) : PG X e (tOfG X.K g T w) := by
  obtain ⟨t, p, s⟩ := h.ex
  exact ⟨fun pins sh σ H x u Q I r ⟨vs, ρ, cs, d, QD, hS, hp, hw, hQ⟩ => p.run pins sh σ H x u Q I r (s σ vs H ρ cs x d QD Q hS hp hw hQ)⟩
end

section
variable {K : PySem.W.Frag} {g : G} {σ : L2.St} {vs : List V} {H H' : Hp} {ρ : Rho} {cs : List C}
/-- the own object at the top is changed -/
theorem SR.mutTop {a : Addr} {t : Nat} {o o' : OD} (h : SR K g σ (.ref a :: vs) H ρ (.own t o :: cs)) (keep : ∀ b u, b ≠ a → H b = some u → H' b = some u) (new : OwnAt K (hide H (tot σ (.ref a :: vs) ρ (.own t o :: cs) ++ g.P0)) H' a o') : SR K g σ (.ref a :: vs) H' ρ (.own t o' :: cs) := by
  obtain ⟨b, e, q1, q2, q3⟩ := h.tp.1
  cases e
  have nd := h.nd
  rw [foot_cons_own] at nd
  have na := (List.nodup_cons.mp nd).1
  refine h.gen (fun b u n q => keep b u (fun z => n (by rw [z]; exact List.mem_cons_self)) q) (fun b u q => ?_) (fun b q => .inl q) h.nd (fun hB => h.sl.mono hB fun b z u q => keep b u (fun e => na (by rw [← e]; exact List.mem_append_right _ z)) q) (fun hB => ?_) (fun j q => h.pk j ?_)
  · by_cases e : b = a
    · rw [e]; exact new.there
    · exact ⟨u, keep b u e q⟩
  · refine ⟨⟨a, rfl, new.mono hB fun _ q => q, q2, q3⟩, h.tp.2.mono hB fun b z u q => keep b u (fun e => na (by rw [← e]; exact List.mem_append_left _ z)) q⟩
  · simp only [List.mem_cons] at q ⊢
    rcases q with (z | z) | (z | z)
    · cases z
    · exact .inl (.inr z)
    · cases z
    · exact .inr (.inr z)
/-- a value below an own list is appended to it -/
theorem SR.appTop {a : Addr} {y : V} {d : D} {t : Nat} {ds : List D} (h : SR K g σ (y :: .ref a :: vs) H ρ (.v d :: .own t (.lst ds) :: cs)) : ∃ xs, H a = some (.lst xs) ∧ xs.length = ds.length ∧ SR K g σ (.ref a :: vs) (upd H a (.lst (xs ++ [y]))) ρ (.own t (.lst (ds ++ [d])) :: cs) := by
  have hy := h.top
  have h1 := h.pop
  obtain ⟨b, e, ⟨xs, q1, q2⟩, _⟩ := id h1.tp.1
  cases e
  refine ⟨xs, q1, DL.DpAll.len q2, h1.mutTop (fun b u n q => by rw [upd_ne n]; exact q) ⟨xs ++ [y], upd_same, ?_⟩⟩
  exact DL.DpAll.app q2 (.cons hy .nil)
theorem clr_none : ∀ {T : List Nat}, (∀ j ∈ T, rget ρ j = .no) → clr T ρ = ρ
  | [], _ => rfl
  | i :: T, h => by
    show rset (clr T ρ) i .no = ρ
    rw [clr_none fun j hj => h j (List.mem_cons_of_mem _ hj)]
    have go : ∀ (ρ : Rho) (i : Nat), rget ρ i = .no → rset ρ i .no = ρ := by
      intro ρ
      induction ρ with
      | nil => intro i _; rfl
      | cons c ρ ih =>
        intro i e
        cases i with
        | zero => have e' : c = .no := e; subst e'; rfl
        | succ i => show c :: rset ρ i .no = c :: ρ; rw [ih i e]
    exact go ρ i (h i List.mem_cons_self)
end
/-- what stood in a comprehension's names comes back -/
@[reducible] def back (ρ : Rho) : List Nat → Rho → Rho
  | [], ρ' => ρ'
  | i :: T, ρ' => back ρ T (rset ρ' i (match rget ρ i with
    | .v d => .v d
    | _ => .no))
section
variable {K : PySem.W.Frag} {g : G} {σ : L2.St} {vs : List V} {H H' : Hp} {ρ ρ0 : Rho} {cs : List C}
theorem SR.backs_ : ∀ {T : List Nat} {ks : List V} {ρ : Rho}, ks.length = (keptD ρ0 T).length → (∀ (k i : Nat) (d : D), T[k]? = some i → rget ρ0 i = .v d → ∃ x, ks[k]? = some x ∧ σ[i]? = some (some x)) → SR K g σ (ks ++ vs) H ρ ((keptD ρ0 T).map C.v ++ cs) → SR K g σ vs H (back ρ0 T ρ) cs
  | [], ks, ρ, hl, _, h => by
    cases ks with
    | nil => exact h
    | cons _ _ => simp [keptD] at hl
  | i :: T, ks, ρ, hl, hk, h => by
    cases ks with
    | nil => simp [keptD] at hl
    | cons x ks =>
      have hk' : ∀ (k j : Nat) (d : D), T[k]? = some j → rget ρ0 j = .v d → ∃ y, ks[k]? = some y ∧ σ[j]? = some (some y) := fun k j d e1 e2 => by
        obtain ⟨y, y1, y2⟩ := hk (k + 1) j d (by simpa using e1) e2
        exact ⟨y, by simpa using y1, y2⟩
      cases e : rget ρ0 i with
      | v d =>
        have ek : keptD ρ0 (i :: T) = d :: keptD ρ0 T := by show (match rget ρ0 i with | .v d => d | _ => .none) :: _ = _; rw [e]
        rw [ek] at h hl
        obtain ⟨y, y1, y2⟩ := hk 0 i d rfl e
        have e3 : x = y := by simpa using y1
        subst e3
        have hlt : i < ρ.length := by rw [← h.len]; exact (List.getElem?_eq_some_iff.mp y2).1
        have h1 : SR K g σ (x :: (ks ++ vs)) H (rset ρ i .no) (.v d :: ((keptD ρ0 T).map C.v ++ cs)) := h.clear i
        have h2 := h1.moveIn rfl y2 (rget_rset hlt)
        rw [rset_rset] at h2
        show SR K g σ vs H (back ρ0 T (rset ρ i (match rget ρ0 i with | .v d => .v d | _ => .no))) cs
        rw [e]
        exact SR.backs_ (by simpa using hl) hk' h2
      | _ =>
        have ek : keptD ρ0 (i :: T) = .none :: keptD ρ0 T := by show (match rget ρ0 i with | .v d => d | _ => .none) :: _ = _; rw [e]
        rw [ek] at h hl
        have h1 : SR K g σ (ks ++ vs) H (rset ρ i .no) ((keptD ρ0 T).map C.v ++ cs) := (SR.pop (x := x) (c := .v .none) h).clear i
        show SR K g σ vs H (back ρ0 T (rset ρ i (match rget ρ0 i with | .v d => .v d | _ => .no))) cs
        rw [e]
        exact SR.backs_ (by simpa using hl) hk' h1
end
theorem SR.midV {K : PySem.W.Frag} {g : G} {σ : L2.St} {vs xs hs : List V} {H : Hp} {ρ : Rho} {cs ccs : List C} {hd : List D} (hl : xs.length = ccs.length) (hh : hs.length = hd.length) (h : SR K g σ (xs ++ (hs ++ vs)) H ρ (ccs ++ (hd.map C.v ++ cs))) :
    DpAll K (hide H (tot σ (xs ++ (hs ++ vs)) ρ (ccs ++ (hd.map C.v ++ cs)) ++ g.P0)) hs hd := by
  have tp := h.tp
  rw [List.map_append, List.map_append] at tp
  have q := (RCs.split (by simpa using hh) (RCs.split (by simpa using hl) tp).2).1
  revert q
  generalize hide H _ = B
  intro q
  clear tp h
  induction hs generalizing hd with
  | nil => cases hd with
    | nil => exact .nil
    | cons _ _ => simp at hh
  | cons x hs ih => cases hd with
    | nil => simp at hh
    | cons d hd =>
      obtain ⟨⟨y, e, q1⟩, q2⟩ := q
      cases e
      exact .cons q1 (ih (by simpa using hh) q2)
@[reducible] def wLcB (T : List Nat) (wi : WI) (wg : WG) (wt : WT) (we : WE) : WE := fun ρ Q E => wi ρ (fun ds ρ1 => ds.length ≤ sizeLine ∧ lcK T wg wt we ds [] (clr T ρ1) fun acc ρ2 => Q (.own 0 (.lst acc)) (back ρ1 T ρ2)) E
abbrev W0 : WX := fun _ _ _ _ => False
section
variable {K : PySem.W.Frag} {g : G} {W : WX} {T : List Nat} {ti : TI} {wi : WI} {wg : WG} {wt : WT} {we : WE}
theorem sem_lc (hL : ∀ j ∈ T, g.L j = false) (hi : SemI K g W ti wi) : Sem K g W (tLc ti (tOfG K g T wg) (tOfT K g W0 wt) (tOfE K g W0 we) T) (wLcB T wi wg wt we) := by
  intro σ vs H ρ cs QD ED Q hS hw hX hQ
  refine hi σ vs H ρ cs _ ED _ hS hw hX fun J hs hd ds H1 ρ1 hl S1 wk ⟨hlen, q1⟩ D nD => ?_
  obtain ⟨ks, k1, k2, k3⟩ := keptD_at S1 T
  have S2 : SR K g σ (ks ++ (hs ++ vs)) H1 ρ1 ((keptD ρ1 T).map C.v ++ (hd.map C.v ++ cs)) := S1.pushAll k2
  have S3 := S2.clrs T
  have S4 := S3.wiped (T := T) (fun j hj => clr_in hj) hL
  have S5 : SR K g (wipe σ T) (.ref D :: (ks ++ (hs ++ vs))) (upd H1 D (.lst [])) (clr T ρ1) (.own 0 (.lst []) :: ((keptD ρ1 T).map C.v ++ (hd.map C.v ++ cs))) := SR.res S4 (same_new nD) (new_lst nD .nil)
  refine ⟨fun i m H => m = ds.length - i ∧ ∃ acc ρ', SR K g (wipe σ T) (.ref D :: (ks ++ (hs ++ vs))) H ρ' (.own 0 (.lst acc) :: ((keptD ρ1 T).map C.v ++ (hd.map C.v ++ cs))) ∧ (∀ j ∈ T, rget ρ' j = .no) ∧ acc.length ≤ i ∧ lcK T wg wt we (ds.drop i) acc ρ' fun acc ρ2 => QD (.own 0 (.lst acc)) (back ρ1 T ρ2),
    ⟨ds.length, by simp, [], clr T ρ1, S5, fun j hj => clr_in hj, Nat.zero_le _, by simpa using q1⟩, ?_⟩
  rintro i m H2 ⟨rfl, acc, ρ2, S6, hno, hacc, q6⟩
  have hlk : ks.length = ((keptD ρ1 T).map C.v).length := by simpa using k1
  have hlh : hs.length = (hd.map C.v).length := by simpa using hl
  have S7 : SR K g (wipe σ T) (hs ++ vs) H2 ρ2 (hd.map C.v ++ cs) := SR.pops hlk S6.pop
  have dd := SR.tops hl S7
  have dom := (SR.pops hlh S7).domO
  by_cases hlt : i < ds.length
  · refine .inr ⟨wk.go H2 _ i dom dd hlt, fun H' => ∃ acc ρ', SR K g (wipe σ T) (.ref D :: (ks ++ (hs ++ vs))) H' ρ' (.own 0 (.lst acc) :: ((keptD ρ1 T).map C.v ++ (hd.map C.v ++ cs))) ∧ (∀ j ∈ T, rget ρ' j = .no) ∧ acc.length ≤ i + 1 ∧ lcK T wg wt we (ds.drop (i + 1)) acc ρ' fun acc ρ2 => QD (.own 0 (.lst acc)) (back ρ1 T ρ2),
      fun H' q => ⟨ds.length - (i + 1), by omega, rfl, q⟩, fun x H3 y => ?_⟩
    have ed : ds.drop i = ds[i] :: ds.drop (i + 1) := List.drop_eq_getElem_cons hlt
    rw [ed] at q6
    obtain ⟨sm, dx⟩ := wk.yld H2 _ i x H3 ds[i] dom dd y (List.getElem?_eq_getElem hlt)
    have dd2 := SR.midV (xs := .ref D :: ks) (ccs := .own 0 (.lst acc) :: (keptD ρ1 T).map C.v) (by simp [k1]) hl S6
    have dx2 := (wk.yld H2 _ i x H3 ds[i] S6.domO dd2 y (List.getElem?_eq_getElem hlt)).2
    have S9 : SR K g (wipe σ T) (x :: .ref D :: (ks ++ (hs ++ vs))) H3 ρ2 (.v ds[i] :: .own 0 (.lst acc) :: ((keptD ρ1 T).map C.v ++ (hd.map C.v ++ cs))) := SR.resV S6 sm dx2
    have noX : ∀ σ', XEnds K g W0 σ' (fun _ _ => False) := fun σ' _ _ _ _ _ _ _ z => z
    -- a turn's end
    have turn : ∀ {σ2 : L2.St} {H' : Hp} {ρ' : Rho} {acc' : List PyData}, DL.Only T (wipe σ T) σ2 → SR K g σ2 (.ref D :: (ks ++ (hs ++ vs))) H' ρ' (.own 0 (.lst acc') :: ((keptD ρ1 T).map C.v ++ (hd.map C.v ++ cs))) → acc'.length ≤ i + 1 → lcK T wg wt we (ds.drop (i + 1)) acc' (clr T ρ') (fun acc ρ2 => QD (.own 0 (.lst acc)) (back ρ1 T ρ2)) →
        ∃ acc ρ', SR K g (wipe σ T) (.ref D :: (ks ++ (hs ++ vs))) H' ρ' (.own 0 (.lst acc) :: ((keptD ρ1 T).map C.v ++ (hd.map C.v ++ cs))) ∧ (∀ j ∈ T, rget ρ' j = .no) ∧ acc.length ≤ i + 1 ∧ lcK T wg wt we (ds.drop (i + 1)) acc ρ' fun acc ρ2 => QD (.own 0 (.lst acc)) (back ρ1 T ρ2) := by
      intro σ2 H' ρ' acc' on S hle q
      have S' := (S.clrs T).wiped (T := T) (fun j hj => clr_in hj) hL
      rw [only_wipe on, wipe_wipe] at S'
      exact ⟨acc', clr T ρ', S', fun j hj => clr_in hj, hle, q⟩
    refine ⟨_, ρ2, _, ds[i], _, S9, fun j hj k q e => ?_, q6, fun σ2 H4 ρ4 S10 on q10 => ⟨by rw [only_wipe on, wipe_wipe], _, ρ4, _, _, fun _ _ => False, S10, q10, noX σ2, fun b H5 ρ5 S11 q11 => ?_⟩⟩
    · have q' := S6.pk k q
      rw [e, hL j hj] at q'; cases q'
    · cases b with
      | false =>
        rw [if_neg Bool.false_ne_true] at q11 ⊢
        exact turn on S11 (by omega) q11
      | true =>
        rw [if_pos rfl] at q11 ⊢
        refine ⟨_, ρ5, _, _, fun _ _ => False, S11, q11, noX σ2, fun z H6 c ρ6 S12 q12 => ?_⟩
        split at q12
        · rename_i d' ec
          have S13 := S12.frzTop
          rw [ec] at S13
          obtain ⟨zs, e1, e2, S14⟩ := S13.appTop
          exact ⟨zs, e1, by omega, turn on S14 (by simp; omega) q12⟩
        · exact q12.elim
  · refine .inl ⟨wk.stop H2 _ i dom dd (by omega), ?_⟩
    have ed : ds.drop i = [] := List.drop_eq_nil_of_le (by omega)
    rw [ed] at q6
    have S8 : SR K g σ (.ref D :: (ks ++ (hs ++ vs))) H2 ρ2 (.own 0 (.lst acc) :: ((keptD ρ1 T).map C.v ++ (hd.map C.v ++ cs))) := by
      refine S6.agree (wipe_length σ T).symm (fun j hj => (wipe_get fun z => hj (hno j z)).symm) fun j hj => (wipe_get fun z => ?_).symm
      have q' := S6.pk j hj
      rw [hL j z] at q'; cases q'
    have S9 : SR K g σ (ks ++ .ref D :: (hs ++ vs)) H2 ρ2 ((keptD ρ1 T).map C.v ++ .own 0 (.lst acc) :: (hd.map C.v ++ cs)) := SR.unrot hlk S8
    have S10 := SR.backs_ k1 k3 S9
    exact hQ (.ref D) H2 _ _ (SR.unCall hlh S10) q6
end
section
variable {X : Cx} {g : G} {W : WX} {elt tg iter : Expr} {ifs : List Expr} {scope : Scope} {own : List (Str × Nat)} {pos : Pos} {wi : WI} {wg : WG} {wt : WT} {we : WE}
theorem ee_lc (hc : X.calm = true) (hN : X.N.Nodup) (hL : ∀ j ∈ own.map (·.2), g.L j = false) (hi : EI X g W tg iter wi) (ok : BlkOk X.N X.env.scope scope own)
    (hg : ∀ (s : Shared) (H : Hp) (C : Addr) (cl : List (Str × Addr)) (fp : List Addr), EG (X.blk s H scope (compEnvC scope cl C X.env) fp) g tg (own.map (·.2)) wg)
    (ht : ∀ (s : Shared) (H : Hp) (C : Addr) (cl : List (Str × Addr)) (fp : List Addr), ETs (X.blk s H scope (compEnvC scope cl C X.env) fp) g W0 ifs wt)
    (he : ∀ (s : Shared) (H : Hp) (C : Addr) (cl : List (Str × Addr)) (fp : List Addr), EE (X.blk s H scope (compEnvC scope cl C X.env) fp) g W0 elt we) (hs : ∀ x, foldedSetIterable iter X.env x = pure x := by intro _; rfl) :
    EE X g W (.ListComp elt [⟨tg, iter, ifs, 0⟩] scope pos) (wLcB (own.map (·.2)) wi wg wt we) := by
  obtain ⟨t, p, s⟩ := hi.ex
  exact ⟨_, pe_lc hc hN p ok (fun s H C cl fp => (hg s H C cl fp).can) (fun s H C cl fp => (ht s H C cl fp).can) (fun s H C cl fp => (he s H C cl fp).can) hs, sem_lc hL s⟩
/-- name = [..] on one line -/
theorem es_setLc {i : Nat} {y : Str} {py spos : Pos} (hc : X.calm = true) (hN : X.N.Nodup) (hy : X.N[i]? = some y) (hyl : X.env.scope.names.lookup y = some .local) (hsw : swapsWith (.ListComp elt [⟨tg, iter, ifs, 0⟩] scope pos) (some (.Name y py)) spos.line X.env = pure true)
    (hL : ∀ j ∈ own.map (·.2), g.L j = false) (hi : EI X g W tg iter wi) (ok : BlkOk X.N X.env.scope scope own)
    (hg : ∀ (s : Shared) (H : Hp) (C : Addr) (cl : List (Str × Addr)) (fp : List Addr), EG (X.blk s H scope (compEnvC scope cl C X.env) fp) g tg (own.map (·.2)) wg)
    (ht : ∀ (s : Shared) (H : Hp) (C : Addr) (cl : List (Str × Addr)) (fp : List Addr), ETs (X.blk s H scope (compEnvC scope cl C X.env) fp) g W0 ifs wt)
    (he : ∀ (s : Shared) (H : Hp) (C : Addr) (cl : List (Str × Addr)) (fp : List Addr), EE (X.blk s H scope (compEnvC scope cl C X.env) fp) g W0 elt we) (hs : ∀ x, foldedSetIterable iter X.env x = pure x := by intro _; rfl) :
    ES X g W (.Assign [.Name y py] (.ListComp elt [⟨tg, iter, ifs, 0⟩] scope pos) spos) (wSet i (wLcB (own.map (·.2)) wi wg wt we)) := by
  obtain ⟨t, p, s⟩ := hi.ex
  exact ⟨_, ps_setLc hc hN hy hyl hsw p ok (fun s H C cl fp => (hg s H C cl fp).can) (fun s H C cl fp => (ht s H C cl fp).can) (fun s H C cl fp => (he s H C cl fp).can) hs, sem_set (sem_lc hL s)⟩
theorem es_setLcF {i : Nat} {y : Str} {py spos : Pos} (hc : X.calm = true) (hN : X.N.Nodup) (hy : X.N[i]? = some y) (hyl : X.env.scope.names.lookup y = some .local) (hsw : swapsWith (.ListComp elt [⟨tg, iter, ifs, 0⟩] scope pos) (some (.Name y py)) spos.line X.env = pure true)
    (hL : ∀ j ∈ own.map (·.2), g.L j = false) (hi : EI X g W tg iter wi) (ok : BlkOk X.N X.env.scope scope own)
    (hg : ∀ (s : Shared) (H : Hp) (C : Addr) (cl : List (Str × Addr)) (fp : List Addr), EG (X.blk s H scope (compEnvC scope cl C X.env) fp) g tg (own.map (·.2)) wg)
    (ht : ∀ (s : Shared) (H : Hp) (C : Addr) (cl : List (Str × Addr)) (fp : List Addr), ETs (X.blk s H scope (compEnvC scope cl C X.env) fp) g W0 ifs wt)
    (he : ∀ (s : Shared) (H : Hp) (C : Addr) (cl : List (Str × Addr)) (fp : List Addr), EE (X.blk s H scope (compEnvC scope cl C X.env) fp) g W0 elt we) (hs : ∀ x, foldedSetIterable iter X.env x = pure x := by intro _; rfl) :
    ES X g W (.Assign [.Name y py] (.ListComp elt [⟨tg, iter, ifs, 0⟩] scope pos) spos) (wSetF i (wLcB (own.map (·.2)) wi wg wt we)) := by
  obtain ⟨t, p, s⟩ := hi.ex
  exact ⟨_, ps_setLc hc hN hy hyl hsw p ok (fun s H C cl fp => (hg s H C cl fp).can) (fun s H C cl fp => (ht s H C cl fp).can) (fun s H C cl fp => (he s H C cl fp).can) hs, sem_setF (sem_lc hL s)⟩
end
end DL

set_option Elab.async false
set_option linter.all false
set_option maxRecDepth 100000
set_option maxHeartbeats 4000000
/-! DL: subscripts, slices, built-ins, own lists changed by statements. -/
namespace DL
open PySem PySem.Spec PyProof.Rows L2

/-! ### places -/
def optK {α : Type} (o : Option α) (k : α → Prop) : Prop := match o with
  | some a => k a
  | none => False
theorem optK_of {α : Type} {o : Option α} {k : α → Prop} {a : α} (e : o = some a) (h : k a) : optK o k := by subst e; exact h
theorem ifd {p A B : Prop} [Decidable p] (h : p → A) (h' : ¬ p → B) : if decide p = true then A else B := by
  by_cases q : p
  · rw [if_pos (decide_eq_true q)]; exact h q
  · rw [if_neg (by simp [q])]; exact h' q
theorem atI_0 {α : Type} {x : α} {xs : List α} : atI (x :: xs) 0 = some x := L2.atI_nat (j := 0) rfl
theorem atI_1 {α : Type} {x y : α} {xs : List α} : atI (x :: y :: xs) 1 = some y := L2.atI_nat (j := 1) rfl
theorem atI_2 {α : Type} {x y z : α} {xs : List α} : atI (x :: y :: z :: xs) 2 = some z := L2.atI_nat (j := 2) rfl
theorem atI_3 {α : Type} {x y z u : α} {xs : List α} : atI (x :: y :: z :: u :: xs) 3 = some u := L2.atI_nat (j := 3) rfl
theorem atI_4 {α : Type} {x y z u v : α} {xs : List α} : atI (x :: y :: z :: u :: v :: xs) 4 = some v := L2.atI_nat (j := 4) rfl
theorem atI_5 {α : Type} {x y z u v w : α} {xs : List α} : atI (x :: y :: z :: u :: v :: w :: xs) 5 = some w := L2.atI_nat (j := 5) rfl
@[simp] theorem optK_some {α : Type} {a : α} {k : α → Prop} : optK (some a) k = k a := rfl
@[reducible] def oIx : O2 := fun d1 d2 k => match d1, d2 with
  | .list ds, .int i => optK (atI ds i) fun d => k (.v d)
  | .tuple ds, .int i => optK (atI ds i) fun d => k (.v d)
  | .str z, .int i => z.length ≤ sizeLine ∧ optK (atI z.cps.toList i) fun c => k (.v (.str ⟨#[c]⟩))
  | _, _ => False
theorem atI_dp {K : PySem.W.Frag} {B : Hp} {xs : List V} {ds : List D} {i : Int} {d : D} (h : DpAll K B xs ds) (e : atI ds i = some d) : ∃ v, atI xs i = some v ∧ Dp K B v d := by
  unfold atI at e ⊢
  rw [DL.DpAll.len h]
  cases q : ixN ds.length i with
  | none => rw [q] at e; cases e
  | some j =>
    rw [q] at e
    exact DL.DpAll.get h e
theorem same_hide {H : Hp} {O : List Addr} : Same (hide H O) H := fun _ _ e => (hide_some.mp e).2
theorem lift_ix {K : PySem.W.Frag} : Lift2 K (rIx K) oIx := by
  intro O H x y dx dy QD Q _ hx hy q fin
  cases hx with
  | lst h1 h2 =>
    cases hy <;> try exact q.elim
    rename_i i
    revert q
    show optK _ _ → _
    intro q
    rename_i ds
    cases e : atI ds i with
    | none => rw [e] at q; exact q.elim
    | some d =>
      rw [e] at q
      obtain ⟨v, e1, e2⟩ := atI_dp h2 e
      exact .inl ⟨_, _, i, v, rfl, rfl, Same.seq same_hide h1, e1, fin v H (.v d) (Same.refl H) e2 q⟩
  | tup h1 h2 =>
    cases hy <;> try exact q.elim
    rename_i i
    rename_i ds
    cases e : atI ds i with
    | none =>
      have q' : optK (atI ds i) _ := q
      rw [e] at q'; exact q'.elim
    | some d =>
      have q' : optK (atI ds i) _ := q
      rw [e] at q'
      obtain ⟨v, e1, e2⟩ := atI_dp h2 e
      exact .inr (.inl ⟨_, _, i, v, rfl, rfl, seqT_same same_hide h1, e1, fin v H (.v d) (Same.refl H) e2 q'⟩)
  | str z =>
    cases hy <;> try exact q.elim
    rename_i i
    obtain ⟨hz, q⟩ := q
    cases e : atI z.cps.toList i with
    | none => rw [e] at q; exact q.elim
    | some c =>
      rw [e] at q
      exact .inr (.inr ⟨z, i, c, rfl, rfl, hz, e, fin _ H (.v _) (Same.refl H) (.str _) q⟩)
  | _ => exact q.elim
section
variable {X : Cx} {g : G} {W : WX} {a b : Expr} {wa wb : WE} {pos : Pos}
theorem ee_ix (ha : EE X g W a wa) (hb : EE X g W b wb) (hp : PlainIx b := by intro _ _; rfl) : EE X g W (.Subscript a b pos) (wB oIx wa wb) := by
  obtain ⟨ta, p1, s1⟩ := ha.ex
  obtain ⟨tb, p2, s2⟩ := hb.ex
  exact ⟨_, pe_ix ix_seq p1 p2 hp, sem_op lift_ix s1 s2⟩
end

/-! ### slices -/
@[reducible] def cutD (ds : List D) (lo hi : Option Int) : List D := (ds.drop (HT.sIx ds.length 0 lo)).take (HT.sIx ds.length ds.length hi - HT.sIx ds.length 0 lo)
theorem DpAll.cut {K : PySem.W.Frag} {B : Hp} {xs : List V} {ds : List D} (lo hi : Option Int) (h : DpAll K B xs ds) : DpAll K B (cutV xs lo hi) (cutD ds lo hi) := by
  unfold cutV cutD
  rw [DL.DpAll.len h]
  exact DL.DpAll.takeN _ (DL.DpAll.dropN _ h)
/-- a slice's parts: written ints or names, at most -/
abbrev WO := Rho → (Option Int → Rho → Prop) → KX → Prop
def SemO (K : PySem.W.Frag) (g : G) (W : WX) (t : TO) (w : WO) : Prop :=
  ∀ (σ : L2.St) (vs : List V) (H : Hp) (ρ : Rho) (cs : List C) (QD : Option Int → Rho → Prop) (ED : KX) (Q : Option Int → Hp → Prop), SR K g σ vs H ρ cs → w ρ QD ED → XEnds K g W σ ED →
    (∀ o H' ρ', SR K g σ vs H' ρ' cs → QD o ρ' → Q o H') → t σ H Q
structure EO (X : Cx) (g : G) (W : WX) (e : Option Expr) (w : WO) : Prop where
  ex : ∃ t, PO X e t ∧ SemO X.K g W t w
@[reducible] def wNoPart : WO := fun ρ Q _ => Q none ρ
@[reducible] def wPart (we : WE) : WO := fun ρ Q E => we ρ (fun c ρ1 => match c with
  | .v (.int i) => Q (some i) ρ1
  | _ => False) E
@[reducible] def oSl (lo hi : Option Int) : O1 := fun d k => match d with
  | .list ds => k (.own 0 (.lst (cutD ds lo hi)))
  | .tuple ds => k (.v (.tuple (cutD ds lo hi)))
  | .str z => z.length ≤ sizeLine ∧ k (.v (.str (cutS z lo hi)))
  | _ => False
@[reducible] def wSl (we : WE) (wl wh : WO) : WE := fun ρ Q E => we ρ (fun c ρ1 => wl ρ1 (fun lo ρ2 => wh ρ2 (fun hi ρ3 => use1 ρ3 c (oSl lo hi) Q) E) E) E
theorem cut_whole {xs : List V} {lo hi : Option Int} (h : HT.sIx xs.length 0 lo = 0 ∧ HT.sIx xs.length xs.length hi = xs.length) : cutV xs lo hi = xs := by
  unfold cutV
  rw [h.1, h.2]
  simp
theorem cutD_whole {xs : List D} {lo hi : Option Int} (h : HT.sIx xs.length 0 lo = 0 ∧ HT.sIx xs.length xs.length hi = xs.length) : cutD xs lo hi = xs := by
  unfold cutD
  rw [h.1, h.2]
  simp
theorem lift_sl {K : PySem.W.Frag} (lo hi : Option Int) : Lift1 K (fun x H Q => rSlL K x lo hi H Q ∨ (rSlA K x lo hi H Q ∨ rSlS x lo hi H Q)) (oSl lo hi) := by
  intro O H x dx QD Q hO hx q fin
  cases hx with
  | lst h1 h2 => exact .inl ⟨_, _, rfl, Same.seq same_hide h1, fun p n => fin _ _ (.own 0 (.lst _)) (same_new n) (new_lst n (DL.DpAll.cut lo hi h2)) q⟩
  | tup h1 h2 =>
    refine .inr (.inl ⟨_, _, rfl, seqT_same same_hide h1, fun z => ?_, fun z p n => ?_⟩)
    · refine fin _ H (.v _) (Same.refl H) ?_ q
      rw [DL.DpAll.len h2] at z
      rw [cutD_whole z]
      exact .tup h1 h2
    · exact fin _ _ (.v _) (same_new n) (new_tup n (fun z => by obtain ⟨u, e⟩ := hO p z; rw [n] at e; cases e) (DL.DpAll.cut lo hi h2)) q
  | str z => exact .inr (.inr ⟨z, rfl, q.1, fin _ H (.v _) (Same.refl H) (.str _) q.2⟩)
  | _ => exact q.elim
section
variable {X : Cx} {g : G} {W : WX} {e : Expr} {lo hi : Option Expr} {we : WE} {wl wh : WO} {pos p2 : Pos}
theorem eo_none : EO X g W none wNoPart := ⟨_, po_none, fun σ vs H ρ cs QD ED Q hS hw hX hQ => hQ none H ρ hS hw⟩
theorem eo_some (h : EE X g W e we) : EO X g W (some e) (wPart we) := by
  obtain ⟨t, p, s⟩ := h.ex
  refine ⟨_, po_some p, fun σ vs H ρ cs QD ED Q hS hw hX hQ => ?_⟩
  refine s σ vs H ρ cs _ ED _ hS hw hX fun x H1 c ρ1 S1 q1 => ?_
  split at q1
  · rename_i i
    have q := S1.top
    cases q
    exact ⟨i, rfl, hQ _ H1 ρ1 S1.pop q1⟩
  · exact q1.elim
theorem ee_sl (he : EE X g W e we) (hl : EO X g W lo wl) (hh : EO X g W hi wh) : EE X g W (.Subscript e (.Slice lo hi none p2) pos) (wSl we wl wh) := by
  obtain ⟨t, p, s⟩ := he.ex
  obtain ⟨t1, q1, s1⟩ := hl.ex
  obtain ⟨t2, q2, s2⟩ := hh.ex
  refine ⟨_, pe_slice (SlR.or sl_list (SlR.or sl_tupA sl_str)) p q1 q2, fun σ vs H ρ cs QD ED Q hS hw hX hQ => ?_⟩
  refine s σ vs H ρ cs _ ED _ hS hw hX fun x H1 c ρ1 S1 z1 => ?_
  refine s1 σ (x :: vs) H1 ρ1 (c :: cs) _ ED _ S1 z1 hX fun l H2 ρ2 S2 z2 => ?_
  refine s2 σ (x :: vs) H2 ρ2 (c :: cs) _ ED _ S2 z2 hX fun h H3 ρ3 S3 z3 => ?_
  exact S3.use1 (lift_sl l h) z3 fun v H' c S4 q4 => hQ v H' c ρ3 S4 q4
end

/-! ### built-ins over data -/
section
variable {K : PySem.W.Frag}
@[reducible] def oLen : OL := fun ds k => match ds with
  | [.str x] => x.length ≤ sizeLine ∧ k (.v (.int x.length))
  | [.list es] => k (.v (.int es.length))
  | [.tuple es] => k (.v (.int es.length))
  | _ => False
theorem lift_len : LiftL K (fun xs H Q => ∃ x n, xs = [x] ∧ LenV K x H n ∧ Q (.int n) H) oLen := by
  intro O H xs ds QD Q _ hx q fin
  unfold oLen at q
  split at q
  · rename_i z
    cases hx with
    | cons h1 h2 => cases h2; cases h1; exact ⟨_, _, rfl, ⟨q.1, rfl⟩, fin _ H (.v _) (Same.refl H) (.int _) q.2⟩
  · rename_i es
    cases hx with
    | cons h1 h2 =>
      cases h2
      cases h1 with
      | lst a1 a2 => exact ⟨_, _, rfl, .inl ⟨_, Same.seq same_hide a1, rfl⟩, fin _ H (.v _) (Same.refl H) (by rw [DL.DpAll.len a2]; exact .int _) q⟩
  · rename_i es
    cases hx with
    | cons h1 h2 =>
      cases h2
      cases h1 with
      | tup a1 a2 => exact ⟨_, _, rfl, .inr ⟨_, seqT_same same_hide a1, rfl⟩, fin _ H (.v _) (Same.refl H) (by rw [DL.DpAll.len a2]; exact .int _) q⟩
  · exact q.elim
@[reducible] def oMin2 : OL := fun ds k => match ds with
  | [.int i, .int j] => k (.v (.int (if j < i then j else i)))
  | _ => False
@[reducible] def oMax2 : OL := fun ds k => match ds with
  | [.int i, .int j] => k (.v (.int (if j > i then j else i)))
  | _ => False
@[reducible] def oAbs : OL := fun ds k => match ds with
  | [.int i] => k (.v (.int (if i < 0 then -i else i)))
  | _ => False
@[reducible] def oInt1 : OL := fun ds k => match ds with
  | [.int i] => k (.v (.int i))
  | [.bool b] => k (.v (.int (if b then 1 else 0)))
  | _ => False
theorem lift_min2 : LiftL K (fun xs H Q => ∃ i j, xs = [.int i, .int j] ∧ Q (.int (if j < i then j else i)) H) oMin2 := by
  intro O H xs ds QD Q _ hx q fin
  unfold oMin2 at q
  split at q
  · rename_i i j
    cases hx with
    | cons h1 h2 => cases h2 with
      | cons h2 h3 => cases h3; cases h1; cases h2; exact ⟨_, _, rfl, fin _ H (.v _) (Same.refl H) (.int _) q⟩
  · exact q.elim
theorem lift_max2 : LiftL K (fun xs H Q => ∃ i j, xs = [.int i, .int j] ∧ Q (.int (if j > i then j else i)) H) oMax2 := by
  intro O H xs ds QD Q _ hx q fin
  unfold oMax2 at q
  split at q
  · rename_i i j
    cases hx with
    | cons h1 h2 => cases h2 with
      | cons h2 h3 => cases h3; cases h1; cases h2; exact ⟨_, _, rfl, fin _ H (.v _) (Same.refl H) (.int _) q⟩
  · exact q.elim
theorem lift_abs : LiftL K (fun xs H Q => ∃ i, xs = [.int i] ∧ Q (.int (if i < 0 then -i else i)) H) oAbs := by
  intro O H xs ds QD Q _ hx q fin
  unfold oAbs at q
  split at q
  · rename_i i
    cases hx with
    | cons h1 h2 => cases h2; cases h1; exact ⟨_, rfl, fin _ H (.v _) (Same.refl H) (.int _) q⟩
  · exact q.elim
theorem lift_int1 : LiftL K (fun xs H Q => (∃ i, xs = [.int i] ∧ Q (.int i) H) ∨ ∃ k, xs = [.bl k] ∧ Q (.int (if k then 1 else 0)) H) oInt1 := by
  intro O H xs ds QD Q _ hx q fin
  unfold oInt1 at q
  split at q
  · rename_i i
    cases hx with
    | cons h1 h2 => cases h2; cases h1; exact .inl ⟨_, rfl, fin _ H (.v _) (Same.refl H) (.int _) q⟩
  · rename_i b
    cases hx with
    | cons h1 h2 => cases h2; cases h1; exact .inr ⟨_, rfl, fin _ H (.v _) (Same.refl H) (.int _) q⟩
  · exact q.elim
/-- a list of whole numbers, of truths, of texts -/
@[reducible] def intsOf : List D → Option (List Int)
  | [] => some []
  | .int i :: ds => (intsOf ds).map (i :: ·)
  | _ => none
@[reducible] def boolsOf : List D → Option (List Bool)
  | [] => some []
  | .bool i :: ds => (boolsOf ds).map (i :: ·)
  | _ => none
@[reducible] def strsOf : List D → Option (List Str)
  | [] => some []
  | .str i :: ds => (strsOf ds).map (i :: ·)
  | _ => none
@[simp] theorem intsOf_map : ∀ (ns : List Int), intsOf (ns.map PyData.int) = some ns
  | [] => rfl
  | n :: ns => by rw [List.map_cons, intsOf, intsOf_map]; rfl
@[simp] theorem boolsOf_map : ∀ (ns : List Bool), boolsOf (ns.map PyData.bool) = some ns
  | [] => rfl
  | n :: ns => by rw [List.map_cons, boolsOf, boolsOf_map]; rfl
@[simp] theorem strsOf_map : ∀ (ns : List Str), strsOf (ns.map PyData.str) = some ns
  | [] => rfl
  | n :: ns => by rw [List.map_cons, strsOf, strsOf_map]; rfl
theorem intsOf_dp {B : Hp} : ∀ {ds : List D} {xs : List V} {ns : List Int}, DpAll K B xs ds → intsOf ds = some ns → xs = ns.map V.int
  | [], _, _, h, e => by cases h; cases e; rfl
  | d :: ds, _, ns, h, e => by
    cases h with
    | cons h1 h2 =>
      cases d <;> try cases e
      rename_i i
      rw [intsOf] at e
      cases q : intsOf ds with
      | none => rw [q] at e; cases e
      | some ms => rw [q] at e; cases e; cases h1; rw [intsOf_dp h2 q]; rfl
theorem boolsOf_dp {B : Hp} : ∀ {ds : List D} {xs : List V} {ns : List Bool}, DpAll K B xs ds → boolsOf ds = some ns → xs = ns.map V.bl
  | [], _, _, h, e => by cases h; cases e; rfl
  | d :: ds, _, ns, h, e => by
    cases h with
    | cons h1 h2 =>
      cases d <;> try cases e
      rename_i i
      rw [boolsOf] at e
      cases q : boolsOf ds with
      | none => rw [q] at e; cases e
      | some ms => rw [q] at e; cases e; cases h1; rw [boolsOf_dp h2 q]; rfl
theorem strsOf_dp {B : Hp} : ∀ {ds : List D} {xs : List V} {ns : List Str}, DpAll K B xs ds → strsOf ds = some ns → xs = ns.map V.str
  | [], _, _, h, e => by cases h; cases e; rfl
  | d :: ds, _, ns, h, e => by
    cases h with
    | cons h1 h2 =>
      cases d <;> try cases e
      rename_i i
      rw [strsOf] at e
      cases q : strsOf ds with
      | none => rw [q] at e; cases e
      | some ms => rw [q] at e; cases e; cases h1; rw [strsOf_dp h2 q]; rfl
@[reducible] def oSum : OL := fun ds k => match ds with
  | [.list es] => optK (intsOf es) fun ns => k (.v (.int ns.sum))
  | _ => False
@[reducible] def oAll : OL := fun ds k => match ds with
  | [.list es] => optK (boolsOf es) fun bs => k (.v (.bool (bs.all id)))
  | _ => False
@[reducible] def oAny : OL := fun ds k => match ds with
  | [.list es] => optK (boolsOf es) fun bs => k (.v (.bool (bs.any id)))
  | _ => False
theorem lift_sum : LiftL K (rSum K) oSum := by
  intro O H xs ds QD Q _ hx q fin
  unfold oSum at q
  split at q
  · rename_i es
    cases hx with
    | cons h1 h2 =>
      cases h2
      cases h1 with
      | lst a1 a2 =>
        cases e : intsOf es with
        | none => rw [e] at q; exact q.elim
        | some ns =>
          rw [e] at q
          have e2 := intsOf_dp a2 e
          subst e2
          exact ⟨_, ns, rfl, Same.seq same_hide a1, fin _ H (.v _) (Same.refl H) (.int _) q⟩
  · exact q.elim
theorem lift_all : LiftL K (rAll K) oAll := by
  intro O H xs ds QD Q _ hx q fin
  unfold oAll at q
  split at q
  · rename_i es
    cases hx with
    | cons h1 h2 =>
      cases h2
      cases h1 with
      | lst a1 a2 =>
        cases e : boolsOf es with
        | none => rw [e] at q; exact q.elim
        | some ns =>
          rw [e] at q
          have e2 := boolsOf_dp a2 e
          subst e2
          exact ⟨_, ns, rfl, Same.seq same_hide a1, fin _ H (.v _) (Same.refl H) (.bl _) q⟩
  · exact q.elim
theorem lift_any : LiftL K (rAny K) oAny := by
  intro O H xs ds QD Q _ hx q fin
  unfold oAny at q
  split at q
  · rename_i es
    cases hx with
    | cons h1 h2 =>
      cases h2
      cases h1 with
      | lst a1 a2 =>
        cases e : boolsOf es with
        | none => rw [e] at q; exact q.elim
        | some ns =>
          rw [e] at q
          have e2 := boolsOf_dp a2 e
          subst e2
          exact ⟨_, ns, rfl, Same.seq same_hide a1, fin _ H (.v _) (Same.refl H) (.bl _) q⟩
  · exact q.elim
@[reducible] def oSortI : OL := fun ds k => match ds with
  | [.list es] => optK (intsOf es) fun ns => ∀ ns' : List Int, ns'.Perm ns → ns'.Pairwise (· ≤ ·) → k (.own 0 (.lst (ns'.map PyData.int)))
  | _ => False
theorem lift_sortI : LiftL K (rSortedI K) oSortI := by
  intro O H xs ds QD Q _ hx q fin
  unfold oSortI at q
  split at q
  · rename_i es
    cases hx with
    | cons h1 h2 =>
      cases h2
      cases h1 with
      | lst a1 a2 =>
        cases e : intsOf es with
        | none => rw [e] at q; exact q.elim
        | some ns =>
          rw [e] at q
          have e2 := intsOf_dp a2 e
          subst e2
          refine ⟨_, ns, rfl, Same.seq same_hide a1, fun ns' p pm pw n => fin _ _ (.own 0 (.lst _)) (same_new n) (new_lst n (DL.DpAll.ints ns')) (q ns' pm pw)⟩
  · exact q.elim
@[reducible] def oTuple : OL := fun ds k => match ds with
  | [.list es] => k (.v (.tuple es))
  | [.tuple es] => k (.v (.tuple es))
  | _ => False
theorem lift_tuple : LiftL K (fun xs H Q => ∃ p ys, xs = [.ref p] ∧ ((SqL K H p ys ∧ ∀ l, H l = none → Q (.ref l) (upd H l (.tup ys))) ∨ (SqT K H p ys ∧ Q (.ref p) H))) oTuple := by
  intro O H xs ds QD Q hO hx q fin
  unfold oTuple at q
  split at q
  · rename_i es
    cases hx with
    | cons h1 h2 =>
      cases h2
      cases h1 with
      | lst a1 a2 => exact ⟨_, _, rfl, .inl ⟨Same.seq same_hide a1, fun p n => fin _ _ (.v _) (same_new n) (new_tup n (fun z => by obtain ⟨u, e⟩ := hO p z; rw [n] at e; cases e) a2) q⟩⟩
  · rename_i es
    cases hx with
    | cons h1 h2 =>
      cases h2
      cases h1 with
      | tup a1 a2 => exact ⟨_, _, rfl, .inr ⟨seqT_same same_hide a1, fin _ H (.v _) (Same.refl H) (.tup a1 a2) q⟩⟩
  · exact q.elim
@[reducible] def oList : OL := fun ds k => match ds with
  | [.list es] => k (.own 0 (.lst es))
  | [.tuple es] => k (.own 0 (.lst es))
  | _ => False
theorem lift_list : LiftL K (fun xs H Q => ∃ p ys, xs = [.ref p] ∧ (SqL K H p ys ∨ SqT K H p ys) ∧ ∀ l, H l = none → Q (.ref l) (upd H l (.lst ys))) oList := by
  intro O H xs ds QD Q hO hx q fin
  unfold oList at q
  split at q
  · rename_i es
    cases hx with
    | cons h1 h2 =>
      cases h2
      cases h1 with
      | lst a1 a2 => exact ⟨_, _, rfl, .inl (Same.seq same_hide a1), fun p n => fin _ _ (.own 0 (.lst _)) (same_new n) (new_lst n a2) q⟩
  · rename_i es
    cases hx with
    | cons h1 h2 =>
      cases h2
      cases h1 with
      | tup a1 a2 => exact ⟨_, _, rfl, .inr (seqT_same same_hide a1), fun p n => fin _ _ (.own 0 (.lst _)) (same_new n) (new_lst n a2) q⟩
  · exact q.elim
@[reducible] def oDivmod : OL := fun ds k => match ds with
  | [.int i, .int j] => CDiv i j ∧ k (.v (.tuple [.int (i / j), .int (i % j)]))
  | _ => False
theorem lift_divmod : LiftL K (fun xs H Q => ∃ i j, xs = [.int i, .int j] ∧ CDiv i j ∧ ∀ p, H p = none → Q (.ref p) (upd H p (.tup [.int (i / j), .int (i % j)]))) oDivmod := by
  intro O H xs ds QD Q hO hx q fin
  unfold oDivmod at q
  split at q
  · rename_i i j
    cases hx with
    | cons h1 h2 => cases h2 with
      | cons h2 h3 =>
        cases h3; cases h1; cases h2
        exact ⟨_, _, rfl, q.1, fun p n => fin _ _ (.v _) (same_new n) (new_tup n (fun z => by obtain ⟨u, e⟩ := hO p z; rw [n] at e; cases e) (.cons (.int _) (.cons (.int _) .nil))) q.2⟩
  · exact q.elim
@[reducible] def oStrI : OL := fun ds k => match ds with
  | [.int i] => i.natAbs.log2 < 1920 ∧ k (.v (.str (toString i)))
  | _ => False
theorem lift_strI : LiftL K (fun xs H Q => ∃ i, xs = [.int i] ∧ i.natAbs.log2 < 1920 ∧ Q (.str (toString i)) H) oStrI := by
  intro O H xs ds QD Q _ hx q fin
  unfold oStrI at q
  split at q
  · rename_i i
    cases hx with
    | cons h1 h2 => cases h2; cases h1; exact ⟨_, rfl, q.1, fin _ H (.v _) (Same.refl H) (.str _) q.2⟩
  · exact q.elim
end
section
variable {X : Cx} {g : G} {W : WX} {e : Expr} {es : List Expr} {wa : WA} {pos p : Pos}
theorem ee_len (hg : Gl X "len") (hm : X.mg "len" = none) (ha : EA X g W (e :: es) wa) (he : starEach (e :: es) X.env = (false, eval e X.env) :: starEach es X.env := by rfl) (hpl : (backTo pos (starEach es X.env)).any (·.1) = false := by rfl) : EE X g W (.Call (.Name "len" p) (e :: es) [] pos) (wL oLen wa) :=
  ee_cb call_len lift_len hg hm PySem.boot_len ha (he := he) (hpl := hpl)
theorem ee_min2 (hc : X.calm = true) (hg : Gl X "min") (hm : X.mg "min" = none) (ha : EA X g W (e :: es) wa) (he : starEach (e :: es) X.env = (false, eval e X.env) :: starEach es X.env := by rfl) (hpl : (backTo pos (starEach es X.env)).any (·.1) = false := by rfl) : EE X g W (.Call (.Name "min" p) (e :: es) [] pos) (wL oMin2 wa) :=
  ee_cb (call_min2 hc) lift_min2 hg hm (by decide +kernel) ha (he := he) (hpl := hpl)
theorem ee_max2 (hc : X.calm = true) (hg : Gl X "max") (hm : X.mg "max" = none) (ha : EA X g W (e :: es) wa) (he : starEach (e :: es) X.env = (false, eval e X.env) :: starEach es X.env := by rfl) (hpl : (backTo pos (starEach es X.env)).any (·.1) = false := by rfl) : EE X g W (.Call (.Name "max" p) (e :: es) [] pos) (wL oMax2 wa) :=
  ee_cb (call_max2 hc) lift_max2 hg hm (by decide +kernel) ha (he := he) (hpl := hpl)
theorem ee_abs (hg : Gl X "abs") (hm : X.mg "abs" = none) (ha : EA X g W (e :: es) wa) (he : starEach (e :: es) X.env = (false, eval e X.env) :: starEach es X.env := by rfl) (hpl : (backTo pos (starEach es X.env)).any (·.1) = false := by rfl) : EE X g W (.Call (.Name "abs" p) (e :: es) [] pos) (wL oAbs wa) :=
  ee_cb call_abs lift_abs hg hm (by decide +kernel) ha (he := he) (hpl := hpl)
theorem ee_int1 (hg : Gl X "int") (hm : X.mg "int" = none) (ha : EA X g W (e :: es) wa) (he : starEach (e :: es) X.env = (false, eval e X.env) :: starEach es X.env := by rfl) (hpl : (backTo pos (starEach es X.env)).any (·.1) = false := by rfl) : EE X g W (.Call (.Name "int" p) (e :: es) [] pos) (wL oInt1 wa) :=
  ee_ct call_int1 lift_int1 hg hm (by decide +kernel) ha (he := he) (hpl := hpl)
theorem ee_sum (hc : X.calm = true) (hg : Gl X "sum") (hm : X.mg "sum" = none) (ha : EA X g W (e :: es) wa) (he : starEach (e :: es) X.env = (false, eval e X.env) :: starEach es X.env := by rfl) (hpl : (backTo pos (starEach es X.env)).any (·.1) = false := by rfl) : EE X g W (.Call (.Name "sum" p) (e :: es) [] pos) (wL oSum wa) :=
  ee_cb (cr_sum hc) lift_sum hg hm (by decide +kernel) ha (he := he) (hpl := hpl)
theorem ee_all (hc : X.calm = true) (hg : Gl X "all") (hm : X.mg "all" = none) (ha : EA X g W (e :: es) wa) (he : starEach (e :: es) X.env = (false, eval e X.env) :: starEach es X.env := by rfl) (hpl : (backTo pos (starEach es X.env)).any (·.1) = false := by rfl) : EE X g W (.Call (.Name "all" p) (e :: es) [] pos) (wL oAll wa) :=
  ee_cb (cr_all hc) lift_all hg hm (by decide +kernel) ha (he := he) (hpl := hpl)
theorem ee_any (hc : X.calm = true) (hg : Gl X "any") (hm : X.mg "any" = none) (ha : EA X g W (e :: es) wa) (he : starEach (e :: es) X.env = (false, eval e X.env) :: starEach es X.env := by rfl) (hpl : (backTo pos (starEach es X.env)).any (·.1) = false := by rfl) : EE X g W (.Call (.Name "any" p) (e :: es) [] pos) (wL oAny wa) :=
  ee_cb (cr_any hc) lift_any hg hm (by decide +kernel) ha (he := he) (hpl := hpl)
theorem ee_sortI (hg : Gl X "sorted") (hm : X.mg "sorted" = none) (ha : EA X g W (e :: es) wa) (he : starEach (e :: es) X.env = (false, eval e X.env) :: starEach es X.env := by rfl) (hpl : (backTo pos (starEach es X.env)).any (·.1) = false := by rfl) : EE X g W (.Call (.Name "sorted" p) (e :: es) [] pos) (wL oSortI wa) :=
  ee_cb cr_sortedI lift_sortI hg hm (by decide +kernel) ha (he := he) (hpl := hpl)
theorem ee_tuple (hg : Gl X "tuple") (hm : X.mg "tuple" = none) (ha : EA X g W (e :: es) wa) (he : starEach (e :: es) X.env = (false, eval e X.env) :: starEach es X.env := by rfl) (hpl : (backTo pos (starEach es X.env)).any (·.1) = false := by rfl) : EE X g W (.Call (.Name "tuple" p) (e :: es) [] pos) (wL oTuple wa) :=
  ee_ct call_tuple_of lift_tuple hg hm (by decide +kernel) ha (he := he) (hpl := hpl)
theorem ee_list (hg : Gl X "list") (hm : X.mg "list" = none) (ha : EA X g W (e :: es) wa) (he : starEach (e :: es) X.env = (false, eval e X.env) :: starEach es X.env := by rfl) (hpl : (backTo pos (starEach es X.env)).any (·.1) = false := by rfl) : EE X g W (.Call (.Name "list" p) (e :: es) [] pos) (wL oList wa) :=
  ee_ct call_list_of lift_list hg hm (by decide +kernel) ha (he := he) (hpl := hpl)
theorem ee_divmod (hg : Gl X "divmod") (hm : X.mg "divmod" = none) (ha : EA X g W (e :: es) wa) (he : starEach (e :: es) X.env = (false, eval e X.env) :: starEach es X.env := by rfl) (hpl : (backTo pos (starEach es X.env)).any (·.1) = false := by rfl) : EE X g W (.Call (.Name "divmod" p) (e :: es) [] pos) (wL oDivmod wa) :=
  ee_cb call_divmod lift_divmod hg hm (by decide +kernel) ha (he := he) (hpl := hpl)
theorem ee_strI (hg : Gl X "str") (hm : X.mg "str" = none) (ha : EA X g W (e :: es) wa) (he : starEach (e :: es) X.env = (false, eval e X.env) :: starEach es X.env := by rfl) (hpl : (backTo pos (starEach es X.env)).any (·.1) = false := by rfl) : EE X g W (.Call (.Name "str" p) (e :: es) [] pos) (wL oStrI wa) :=
  ee_ct call_str_int lift_strI hg hm (by decide +kernel) ha (he := he) (hpl := hpl)
/-- isinstance(e, T), T a built-in class -/
@[reducible] def isT (T : String) : D → Bool
  | .none => T == "NoneType" || T == "object"
  | .bool _ => T == "bool" || T == "int" || T == "object"
  | .int _ => T == "int" || T == "object"
  | .str _ => T == "str" || T == "object"
  | .list _ => T == "list" || T == "object"
  | .tuple _ => T == "tuple" || T == "object"
  | .dict _ => T == "dict" || T == "object"
@[reducible] def oIsi (T : String) : O1 := fun d k => k (.v (.bool (isT T d)))
theorem ee_isi {we : WE} {T : Str} {n : String} {p3 : Pos} (hg : Gl X "isinstance") (hm : X.mg "isinstance" = none) (hgT : Gl X T) (hmT : X.mg T = none) (hT : bootBuiltins T = some (.type n)) (hne : T ≠ "__name__" := by decide) (hdb : (T == ("__debug__" : Str)) = false := by decide)
    (hk : (["NoneType", "bool", "int", "str", "list", "tuple"].zip [.none, .bool true, .int 0, .str ⟨#[]⟩, .list [], .tuple []]).all (fun q => decide (kitB q.1 n = some (isT n q.2))) = true) (h : EE X g W e we)
    (he : starEach [e, .Name T p3] X.env = (false, eval e X.env) :: starEach [.Name T p3] X.env := by rfl) (he2 : starEach [.Name T p3] X.env = (false, eval (.Name T p3) X.env) :: starEach [] X.env := by rfl) (hpl : (backTo pos (starEach [.Name T p3] X.env)).any (·.1) = false := by rfl) :
    EE X g W (.Call (.Name "isinstance" p) [e, .Name T p3] [] pos) (wU (oIsi n) we) := by
  obtain ⟨t, q, s⟩ := h.ex
  refine ⟨_, pe_callB call_isi hg hm (by decide +kernel) (pa_cons q (pa_cons (pe_bltn (v := .ty n) hgT hmT hT rfl hne hdb) pa_nil he2) he) (he := he) (hpl := hpl), fun σ vs H ρ cs QD ED Q hS hw hX hQ => ?_⟩
  refine s σ vs H ρ cs _ ED _ hS hw hX fun x H1 c ρ1 S1 q1 => ?_
  refine S1.use1 (r := fun x H Q => rIsi X.K [x, .ty n] H Q) (fun O H x dx QD Q _ hx q fin => ?_) q1 fun v H' c S3 q3 => hQ v H' c ρ1 S3 q3
  have fin' := fin (.bl (isT n dx)) H (.v (.bool (isT n dx))) (Same.refl H) (.bl _) q
  have kk : ∀ a d, (a, d) ∈ (["NoneType", "bool", "int", "str", "list", "tuple"].zip [PyData.none, .bool true, .int 0, .str ⟨#[]⟩, .list [], .tuple []]) → kitB a n = some (isT n d) := fun a d m => of_decide_eq_true (List.all_eq_true.mp hk _ m)
  have mk : ∀ (a : String) (b : Bool), kitB a n = some b → TyX X.K H x (.type a) → b = isT n dx → rIsi X.K [x, .ty n] H Q := fun a b e ty eb => by
    subst eb
    exact ⟨x, .ty n, .type a, .type n, _, rfl, .ty n, ty, kit_ty e, fin'⟩
  cases hx with
  | non => exact mk "NoneType" _ (kk "NoneType" .none (by simp)) (.base .non) rfl
  | bl b => exact mk "bool" _ (kk "bool" (.bool true) (by simp)) (.base (.bl _)) rfl
  | int i => exact mk "int" _ (kk "int" (.int 0) (by simp)) (.base (.int _)) rfl
  | str z => exact mk "str" _ (kk "str" (.str ⟨#[]⟩) (by simp)) (.base (.str _)) rfl
  | lst h1 h2 =>
    refine mk "list" _ (kk "list" (.list []) (by simp)) ?_ rfl
    rcases h1 with (h1 | ⟨o, h1⟩) | ⟨o, its, m, h1, h3, _⟩
    · exact .base (.lst (hide_some.mp h1).2)
    · exact .base (.frz (hide_some.mp h1).2)
    · exact .kList h1 h3
  | tup h1 h2 =>
    refine mk "tuple" _ (kk "tuple" (.tuple []) (by simp)) ?_ rfl
    rcases h1 with (h1 | ⟨o, h1⟩) | ⟨o, its, m, h1, h3, _⟩
    · exact .base (.tup (hide_some.mp h1).2)
    · exact .fTuple (hide_some.mp h1).2
    · exact .kTuple h1 h3
theorem ee_isi2 {we : WE} {T : Str} {n : String} {p3 : Pos} (hg : Gl X "isinstance") (hm : X.mg "isinstance" = none) (hgT : Gl X T) (hmT : X.mg T = none) (h : EE X g W e we)
    (hT : bootBuiltins T = some (.type n) := by decide +kernel) (hk : (["NoneType", "bool", "int", "str", "list", "tuple"].zip [.none, .bool true, .int 0, .str ⟨#[]⟩, .list [], .tuple []]).all (fun q => decide (kitB q.1 n = some (isT n q.2))) = true := by decide +kernel)
    (hne : T ≠ "__name__" := by decide) (hdb : (T == ("__debug__" : Str)) = false := by decide)
    (he : starEach [e, .Name T p3] X.env = (false, eval e X.env) :: starEach [.Name T p3] X.env := by rfl) (he2 : starEach [.Name T p3] X.env = (false, eval (.Name T p3) X.env) :: starEach [] X.env := by rfl) (hpl : (backTo pos (starEach [.Name T p3] X.env)).any (·.1) = false := by rfl) :
    EE X g W (.Call (.Name "isinstance" p) [e, .Name T p3] [] pos) (wU (oIsi n) we) := ee_isi hg hm hgT hmT hT hne hdb hk h he he2 hpl
end
end DL

set_option Elab.async false
set_option linter.all false
set_option maxRecDepth 100000
set_option maxHeartbeats 4000000
/-! DL: own lists changed by statements; += ; lists joined. -/
namespace DL
open PySem PySem.Spec PyProof.Rows L2

/-- the items of an own list that passes -/
@[reducible] def lstOf (ρ : Rho) : C → Option (List D)
  | .own _ (.lst ds) => some ds
  | .ln i => match rget ρ i with
    | .own _ (.lst ds) => some ds
    | _ => none
  | _ => none
section
variable {K : PySem.W.Frag} {g : G} {σ : L2.St} {vs : List V} {H H' : Hp} {ρ : Rho} {cs : List C} {i : Nat}
theorem SR.lst {x : V} {c : C} {ds : List D} (h : SR K g σ (x :: vs) H ρ (c :: cs)) (e : lstOf ρ c = some ds) : ∃ a xs, x = .ref a ∧ H a = some (.lst xs) ∧ DpAll K (hide H (tot σ (x :: vs) ρ (c :: cs) ++ g.P0)) xs ds := by
  cases c with
  | own t o =>
    cases o with
    | lst es =>
      cases e
      obtain ⟨a, e1, ⟨xs, q1, q2⟩, _⟩ := h.tp.1
      cases e1
      exact ⟨a, xs, rfl, q1, q2⟩
    | dct _ => cases e
  | ln i =>
    obtain ⟨y, e1, e2⟩ := h.tp.1
    cases e1
    revert e
    show (match rget ρ i with
      | .own _ (.lst ds) => some ds
      | _ => none) = some ds → _
    split
    · rename_i t es eo
      intro e
      cases e
      obtain ⟨a, e3, _, ⟨xs, q1, q2⟩, _⟩ := h.own eo
      rw [e2] at e3
      cases e3
      exact ⟨a, xs, rfl, q1, q2⟩
    · intro e; cases e
  | _ => cases e
/-- the own object of a slot is changed -/
theorem SR.mutSlot {a : Addr} {t : Nat} {o o' : OD} (h : SR K g σ vs H ρ cs) (e : rget ρ i = .own t o) (e1 : σ[i]? = some (some (.ref a))) (hL : g.L i = true) (keep : ∀ b u, b ≠ a → H b = some u → H' b = some u) (new : OwnAt K (hide H (tot σ vs ρ cs ++ g.P0)) H' a o') : SR K g σ vs H' (rset ρ i (.own t o')) cs := by
  have hlt : i < ρ.length := by rw [← h.len]; exact (List.getElem?_eq_some_iff.mp e1).1
  obtain ⟨_, h2⟩ := (h.pushPk e1 hL).moveOut e
  have pm : ∀ b, b ∈ tot σ (.ref a :: vs) (rset ρ i .no) (.own t o :: cs) ↔ b ∈ tot σ vs ρ cs := fun b => by
    have p := foot_out e1 e
    show b ∈ (a :: foot (vs.map some) cs) ++ foot σ (rset ρ i .no) ↔ b ∈ foot (vs.map some) cs ++ foot σ ρ
    simp only [List.mem_append, List.mem_cons, p.mem_iff]
    constructor
    · rintro ((z | z) | z) <;> simp [z]
    · rintro (z | z | z) <;> simp [z]
  have h3 := h2.mutTop (o' := o') keep (by
    rw [hide_congr (O' := tot σ vs ρ cs ++ g.P0) fun b => by simp only [List.mem_append (t := g.P0), pm b]]
    exact new)
  have h4 := h3.moveIn (i := i) rfl e1 (rget_rset hlt)
  rw [rset_rset] at h4
  exact h4
end

/-! ### x.append(e), x.extend(e), x.pop() of an own list in slot i -/
@[reducible] def wApp (i : Nat) (we : WE) : WE := fun ρ Q E => match rget ρ i with
  | .own _ (.lst _) => we ρ (fun c ρ1 => match frzC c, rget ρ1 i with
    | .v d, .own t (.lst ds) => ds.length < sizeLine ∧ Q (.v .none) (rset ρ1 i (.own t (.lst (ds ++ [d]))))
    | _, _ => False) E
  | _ => False
@[reducible] def wExt (i : Nat) (we : WE) : WE := fun ρ Q E => match rget ρ i with
  | .own _ (.lst _) => we ρ (fun c ρ1 => optK (lstOf ρ1 c) fun es => match rget ρ1 i with
    | .own t (.lst ds) => ds.length + es.length ≤ sizeLine ∧ Q (.v .none) (rset ρ1 i (.own t (.lst (ds ++ es))))
    | _ => False) E
  | _ => False
@[reducible] def wPop (i : Nat) : WE := fun ρ Q E => match rget ρ i with
  | .own t (.lst ds) => optK (ds[ds.length - 1]?) fun d => Q (.v d) (rset ρ i (.own t (.lst ds.dropLast)))
  | _ => False
section
variable {X : Cx} {g : G} {W : WX} {e : Expr} {we : WE} {i : Nat} {x : Str} {p apos pos : Pos}
theorem own_list {K : PySem.W.Frag} {g : G} {σ : L2.St} {vs : List V} {H : Hp} {ρ : Rho} {cs : List C} {i t : Nat} {ds : List D} (h : SR K g σ vs H ρ cs) (e : rget ρ i = .own t (.lst ds)) : ∃ a xs, σ[i]? = some (some (.ref a)) ∧ H a = some (.lst xs) ∧ DpAll K (hide H (tot σ vs ρ cs ++ g.P0)) xs ds := by
  obtain ⟨a, e1, _, ⟨xs, q1, q2⟩, _⟩ := h.own e
  exact ⟨a, xs, e1, q1, q2⟩
theorem dpAll_up {K : PySem.W.Frag} {g : G} {σ : L2.St} {vs : List V} {H : Hp} {ρ : Rho} {cs : List C} {x : V} {c : C} {xs : List V} {ds : List D} (h : DpAll K (hide H (tot σ (x :: vs) ρ (c :: cs) ++ g.P0)) xs ds) : DpAll K (hide H (tot σ vs ρ cs ++ g.P0)) xs ds := by
  refine dpAll_mono (fun a o q => ?_) _ _ h
  obtain ⟨h1, h2⟩ := hide_some.mp q
  refine hide_some.mpr ⟨fun z => h1 ?_, h2⟩
  rw [tot_cons]
  rcases List.mem_append.mp z with z | z
  · exact List.mem_append_left _ (List.mem_append_right _ z)
  · exact List.mem_append_right _ z
theorem ee_app (hL : g.L i = true) (hx : PE X (.Name x p) (tVar i)) (h : EE X g W e we)
    (hbase : attributeBase (.Name x p) "append" X.env (eval (.Name x p) X.env) = eval (.Name x p) X.env := by rfl)
    (hfew : ((backTo pos (starEach [e] X.env)).all (fun x => !x.1) && (backToKw pos (keywordEach [] X.env)).all (fun x => x.1.isSome) && decide (([e] : List Expr).length + ([] : List Keyword).length + (if ([] : List Keyword).isEmpty then 0 else 1) < 30)) = true := by rfl)
    (hline : (apos.endLine == pos.line) = true := by rfl) (hs : starEach [e] X.env = (false, eval e X.env) :: starEach [] X.env := by rfl) (hplain : (backTo pos (starEach [] X.env)).any (·.1) = false := by rfl) :
    EE X g W (.Call (.Attribute (.Name x p) "append" apos) [e] [] pos) (wApp i we) := by
  obtain ⟨t, q, s⟩ := h.ex
  refine ⟨_, pe_bm PySem.F.plainAttrs_list PySem.F.slot_list_append PySem.F.type_list_append mt_append hx (pa_cons q pa_nil hs) hbase hfew hline hs hplain, fun σ vs H ρ cs QD ED Q hS hw hX hQ => ?_⟩
  unfold wApp at hw
  split at hw
  · rename_i t0 ds0 e0
    obtain ⟨a, xs, e1, e2, _⟩ := own_list hS e0
    refine ⟨.ref a, e1, .inl ⟨rfl, xs, .inl (.inl e2)⟩, ?_⟩
    refine s σ vs H ρ cs _ ED _ hS hw hX fun y H1 c ρ1 S1 q1 => ?_
    split at q1
    · rename_i d t1 ds1 ec eo
      have S2 := S1.frzTop
      rw [ec] at S2
      obtain ⟨a', xs', e3, e4, e5⟩ := own_list S2.pop eo
      rw [e1] at e3
      cases e3
      refine ⟨a, xs', y, rfl, rfl, e4, by rw [DL.DpAll.len e5]; exact q1.1, ?_⟩
      have S3 := S2.pop.mutSlot (H' := upd H1 a (.lst (xs' ++ [y]))) eo e1 hL (fun b u n z => by rw [upd_ne n]; exact z) (o' := .lst (ds1 ++ [d])) ⟨xs' ++ [y], upd_same, DL.DpAll.app e5 (.cons S2.top .nil)⟩
      exact hQ _ _ _ _ (SR.resV S3 (Same.refl _) .non) q1.2
    · exact q1.elim
  · exact hw.elim
theorem ee_ext (hL : g.L i = true) (hx : PE X (.Name x p) (tVar i)) (h : EE X g W e we)
    (hbase : attributeBase (.Name x p) "extend" X.env (eval (.Name x p) X.env) = eval (.Name x p) X.env := by rfl)
    (hfew : ((backTo pos (starEach [e] X.env)).all (fun x => !x.1) && (backToKw pos (keywordEach [] X.env)).all (fun x => x.1.isSome) && decide (([e] : List Expr).length + ([] : List Keyword).length + (if ([] : List Keyword).isEmpty then 0 else 1) < 30)) = true := by rfl)
    (hline : (apos.endLine == pos.line) = true := by rfl) (hs : starEach [e] X.env = (false, eval e X.env) :: starEach [] X.env := by rfl) (hplain : (backTo pos (starEach [] X.env)).any (·.1) = false := by rfl) :
    EE X g W (.Call (.Attribute (.Name x p) "extend" apos) [e] [] pos) (wExt i we) := by
  obtain ⟨t, q, s⟩ := h.ex
  refine ⟨_, pe_bm PySem.F.plainAttrs_list PySem.F.slot_list_extend PySem.F.type_list_extend mt_extend hx (pa_cons q pa_nil hs) hbase hfew hline hs hplain, fun σ vs H ρ cs QD ED Q hS hw hX hQ => ?_⟩
  unfold wExt at hw
  split at hw
  · rename_i t0 ds0 e0
    obtain ⟨a, xs, e1, e2, _⟩ := own_list hS e0
    refine ⟨.ref a, e1, .inl ⟨rfl, xs, .inl (.inl e2)⟩, ?_⟩
    refine s σ vs H ρ cs _ ED _ hS hw hX fun y H1 c ρ1 S1 q1 => ?_
    cases el : lstOf ρ1 c with
    | none => rw [el] at q1; exact q1.elim
    | some es =>
      rw [el] at q1
      have q1' : (match rget ρ1 i with
        | .own t (.lst ds) => ds.length + es.length ≤ sizeLine ∧ QD (.v .none) (rset ρ1 i (.own t (.lst (ds ++ es))))
        | _ => False) := q1
      split at q1'
      · rename_i t1 ds1 eo
        obtain ⟨b, ys, f1, f2, f3⟩ := S1.lst el
        subst f1
        obtain ⟨a', xs', e3, e4, e5⟩ := own_list S1.pop eo
        rw [e1] at e3
        cases e3
        refine ⟨a, b, xs', ys, rfl, rfl, e4, f2, by rw [DL.DpAll.len e5, DL.DpAll.len f3]; exact q1'.1, ?_⟩
        have S3 := S1.pop.mutSlot (H' := upd H1 a (.lst (xs' ++ ys))) eo e1 hL (fun b u n z => by rw [upd_ne n]; exact z) (o' := .lst (ds1 ++ es)) ⟨xs' ++ ys, upd_same, DL.DpAll.app e5 (dpAll_up f3)⟩
        exact hQ _ _ _ _ (SR.resV S3 (Same.refl _) .non) q1'.2
      · exact q1'.elim
  · exact hw.elim
theorem DpAll.dropLast {K : PySem.W.Frag} {B : Hp} {vs : List V} {ds : List D} (h : DpAll K B vs ds) : DpAll K B vs.dropLast ds.dropLast := by
  rw [List.dropLast_eq_take, List.dropLast_eq_take, DL.DpAll.len h]
  exact DL.DpAll.takeN _ h
theorem ee_pop (hL : g.L i = true) (hx : PE X (.Name x p) (tVar i))
    (hbase : attributeBase (.Name x p) "pop" X.env (eval (.Name x p) X.env) = eval (.Name x p) X.env := by rfl) (hline : (apos.endLine == pos.line) = true := by rfl) :
    EE X g W (.Call (.Attribute (.Name x p) "pop" apos) [] [] pos) (wPop i) := by
  refine ⟨_, pe_bm0 PySem.F.plainAttrs_list PySem.F.slot_list_pop PySem.F.type_list_pop mt_pop hx hbase hline, fun σ vs H ρ cs QD ED Q hS hw hX hQ => ?_⟩
  unfold wPop at hw
  split at hw
  · rename_i t0 ds0 e0
    obtain ⟨a, xs, e1, e2, e3⟩ := own_list hS e0
    refine ⟨.ref a, e1, .inl ⟨rfl, xs, .inl (.inl e2)⟩, ?_⟩
    cases el : ds0[ds0.length - 1]? with
    | none => rw [el] at hw; exact hw.elim
    | some d =>
      rw [el] at hw
      obtain ⟨y, f1, f2⟩ := DL.DpAll.get e3 el
      refine ⟨a, xs, y, rfl, rfl, e2, by rw [DL.DpAll.len e3]; exact f1, ?_⟩
      have S3 := hS.mutSlot (H' := upd H a (.lst xs.dropLast)) e0 e1 hL (fun b u n z => by rw [upd_ne n]; exact z) (o' := .lst ds0.dropLast) ⟨xs.dropLast, upd_same, DL.DpAll.dropLast e3⟩
      -- the item reads on
      have hlt : i < ρ.length := by rw [← hS.len]; exact (List.getElem?_eq_some_iff.mp e1).1
      have ef : ∀ b, b ∈ tot σ vs (rset ρ i (.own t0 (.lst ds0.dropLast))) cs → b ∈ tot σ vs ρ cs := fun b z => by
        rcases List.mem_append.mp z with z | z
        · exact List.mem_append_left _ z
        · refine List.mem_append_right _ ?_
          have pm := foot_in (σ := σ) (ρ := rset ρ i .no) (c := .own t0 (.lst ds0.dropLast)) e1 (by rw [rset_len]; exact hlt) (rget_rset hlt)
          rw [rset_rset] at pm
          exact (foot_out e1 e0).mem_iff.mpr (pm.mem_iff.mp z)
      refine hQ y _ _ _ (SR.resV S3 (Same.refl _) ?_) hw
      refine dp_mono (fun b u z => ?_) _ _ f2
      obtain ⟨z1, z2⟩ := hide_some.mp z
      refine hide_some.mpr ⟨fun w => z1 ?_, ?_⟩
      · rcases List.mem_append.mp w with w | w
        · exact List.mem_append_left _ (ef b w)
        · exact List.mem_append_right _ w
      · rw [upd_ne (fun ee => z1 ?_)]
        · exact z2
        · subst ee
          exact List.mem_append_left _ (List.mem_append_right _ (foot_at e1 e0))
  · exact hw.elim
/-- x[k] = e, x an own list -/
def setI {α : Type} (xs : List α) (k : Int) (d : α) : Option (List α) := (ixN xs.length k).map fun j => xs.set j d
theorem setI_0 {α : Type} {x d : α} {xs : List α} : setI (x :: xs) 0 d = some (d :: xs) := by unfold setI ixN; simp <;> omega
theorem setI_1 {α : Type} {x y d : α} {xs : List α} : setI (x :: y :: xs) 1 d = some (x :: d :: xs) := by unfold setI ixN; simp <;> omega
theorem setI_2 {α : Type} {x y z d : α} {xs : List α} : setI (x :: y :: z :: xs) 2 d = some (x :: y :: d :: xs) := by unfold setI ixN; simp <;> omega
theorem setI_3 {α : Type} {x y z u d : α} {xs : List α} : setI (x :: y :: z :: u :: xs) 3 d = some (x :: y :: z :: d :: xs) := by unfold setI ixN; simp <;> omega
theorem setI_nat {α : Type} {xs : List α} {k : Nat} {d : α} (h : k < xs.length) : setI xs (k : Int) d = some (xs.set k d) := by
  unfold setI ixN
  simp
  omega
theorem setI_some {α : Type} {xs : List α} {k : Int} {d : α} {j : Nat} (h : ixN xs.length k = some j) : setI xs k d = some (xs.set j d) := by unfold setI; rw [h]; rfl
theorem setI_none {α : Type} {xs : List α} {k : Int} {d : α} (h : ixN xs.length k = none) : setI xs k d = none := by unfold setI; rw [h]; rfl
@[reducible] def wSetIx (i : Nat) (we wk : WE) : WS := fun DD ρ => we ρ (fun c ρ1 => match rget ρ1 i with
  | .own _ (.lst _) => wk ρ1 (fun c2 ρ2 => match frzC c, c2, rget ρ2 i with
    | .v d, .v (.int k), .own t (.lst ds) => optK (setI ds k d) fun es => DD.nx (rset ρ2 i (.own t (.lst es)))
    | _, _, _ => False) DD.ex
  | _ => False) DD.ex
theorem es_setIx {k : Expr} {wk : WE} {p2 : Pos} (hL : g.L i = true) (hx : PE X (.Name x p) (tVar i)) (h : EE X g W e we) (hk : EE X g W k wk)
    (ha : ∀ v, assign (.Subscript (.Name x p) k p2) X.env v = (do
      let ov ← holding [v] (eval (.Name x p) X.env)
      let iv ← holding [v, ov] (eval k X.env)
      standAt p2
      holding [v, ov, iv] (setItem ov iv v)
      release [v, ov, iv] []) := by intro _; rfl)
    (hs : swapsWithSole [.Subscript (.Name x p) k p2] e pos.line X.env = pure false := by rfl) (hw : swappedStores [.Subscript (.Name x p) k p2] e X.env = pure none := by rfl)
    (h1 : (assignEach [.Subscript (.Name x p) k p2] X.env).map (·.2) = [assign (.Subscript (.Name x p) k p2) X.env] := by rfl) : ES X g W (.Assign [.Subscript (.Name x p) k p2] e pos) (wSetIx i we wk) := by
  obtain ⟨t, q, s⟩ := h.ex
  obtain ⟨t2, q2, s2⟩ := hk.ex
  refine ⟨_, ps_asg q (pg_sub hx q2 set_list ha) hs hw h1, fun σ vs H ρ cs DD D hS hp hw hE => ?_⟩
  refine s σ vs H ρ cs _ _ _ hS hw (hE.ex σ) fun y H1 c ρ1 S1 z1 => ?_
  split at z1
  · rename_i t0 ds0 e0
    obtain ⟨a, xs, e1, _, _⟩ := own_list S1 e0
    refine ⟨.ref a, e1, ?_⟩
    refine s2 σ (y :: vs) H1 ρ1 (c :: cs) _ _ _ S1 z1 (hE.ex σ) fun z H2 c2 ρ2 S2 z2 => ?_
    split at z2
    · rename_i _ _ d k' t' ds ec eo
      have e5 := S2.top
      cases e5
      have S3 : SR X.K g σ (y :: vs) H2 ρ2 (.v d :: cs) := by
        have := S2.pop.frzTop
        rw [ec] at this
        exact this
      obtain ⟨a', xs', e3, e4, e6⟩ := own_list S3.pop eo
      rw [e1] at e3
      cases e3
      cases ej : ixN ds.length k' with
      | none => rw [setI_none ej] at z2; exact z2.elim
      | some j =>
        rw [setI_some ej] at z2
        refine ⟨a, xs', k', j, rfl, rfl, e4, by rw [DL.DpAll.len e6]; exact ej, ?_⟩
        have S4 := S3.pop.mutSlot (H' := upd H2 a (.lst (xs'.set j y))) eo e1 hL (fun b u n z => by rw [upd_ne n]; exact z) (o' := .lst (ds.set j d)) ⟨xs'.set j y, upd_same, DL.DpAll.setAt S3.top j e6⟩
        exact hE.nx σ _ _ S4 z2
    · exact z2.elim
  · exact z1.elim
/-- x op= e of data in slot i -/
@[reducible] def wAug (i : Nat) (o : O2) (we : WE) : WS := fun DD ρ => match rget ρ i with
  | .v d0 => we ρ (fun c ρ1 => match c with
    | .v d1 => o d0 d1 fun c' => c'.plain = true ∧ DD.nx (rset ρ1 i c')
    | _ => False) DD.ex
  | _ => False
theorem es_aug {op : Operator} {ti : TIp} {o : O2} {pos' : Pos} (hN : X.N.Nodup) (hi : X.N[i]? = some x) (hx : Loc X.env.scope x) (h : EE X g W e we) (ho : PIp X op ti) (l : Lift2 X.K (fun x y H Q => ti x y H Q) o)
    (hf : X.fn x = true ∨ X.env.scope.names.lookup x = some .local := by first | exact .inl rfl | exact .inr rfl | assumption) : ES X g W (.AugAssign (.Name x pos') op e pos) (wAug i o we) := by
  obtain ⟨t, q, s⟩ := h.ex
  refine ⟨_, ps_aug hN hi hx q ho hf, fun σ vs H ρ cs DD D hS hp hw hE => ?_⟩
  unfold wAug at hw
  split at hw
  · rename_i d0 e0
    obtain ⟨y, e1, dy⟩ := hS.slot e0
    refine ⟨y, e1, ?_⟩
    have S0 : SR X.K g σ (y :: vs) H ρ (.v d0 :: cs) := SR.resV hS (Same.refl H) dy
    refine s σ (y :: vs) H ρ (.v d0 :: cs) _ _ _ S0 hw (hE.ex σ) fun z H1 c ρ1 S1 q1 => ?_
    split at q1
    · rename_i d1
      refine S1.use2 (c1 := .v d0) (c2 := .v d1) (o := o) (QD := fun c' ρ' => c'.plain = true ∧ DD.nx (rset ρ' i c')) l ?_ fun v H' c' S3 q3 => hE.nx _ H' _ (S3.store q3.1 fun j => hp.nopk) q3.2
      show o d0 d1 fun c => okR [C.v d1, C.v d0] c ∧ c.plain = true ∧ DD.nx (rset ρ1 i c)
      have e2 : (fun c : C => okR [C.v d1, C.v d0] c ∧ c.plain = true ∧ DD.nx (rset ρ1 i c)) = fun c' => c'.plain = true ∧ DD.nx (rset ρ1 i c') := by
        funext c
        apply propext
        exact ⟨fun z => z.2, fun z => ⟨fun w => (by cases w), z⟩⟩
      rw [e2]
      exact q1
    · exact q1.elim
  · exact hw.elim
theorem lift_ip {K : PySem.W.Frag} {f : Int → Int → Int} : Lift2 K (fun x y H Q => ipI f x y H Q) (oI fun i j => .int (f i j)) := by
  intro O H x y dx dy QD Q _ hx hy q fin
  cases hx <;> try exact q.elim
  cases hy <;> try exact q.elim
  exact ⟨_, _, rfl, rfl, fin _ H (.v _) (Same.refl H) (.int _) q⟩
theorem es_augAdd {pos' : Pos} (hN : X.N.Nodup) (hi : X.N[i]? = some x) (hx : Loc X.env.scope x) (h : EE X g W e we) (hf : X.fn x = true ∨ X.env.scope.names.lookup x = some .local := by first | exact .inl rfl | exact .inr rfl | assumption) :
    ES X g W (.AugAssign (.Name x pos') .Add e pos) (wAug i oAdd we) := es_aug hN hi hx h ip_add lift_ip hf
theorem es_augSub {pos' : Pos} (hN : X.N.Nodup) (hi : X.N[i]? = some x) (hx : Loc X.env.scope x) (h : EE X g W e we) (hf : X.fn x = true ∨ X.env.scope.names.lookup x = some .local := by first | exact .inl rfl | exact .inr rfl | assumption) :
    ES X g W (.AugAssign (.Name x pos') .Sub e pos) (wAug i oSub we) := es_aug hN hi hx h ip_sub lift_ip hf
/-- lists joined: each one an own list (fresh, or of a slot) -/
@[reducible] def wCat (wa wb : WE) : WE := fun ρ Q E => wa ρ (fun c1 ρ1 => wb ρ1 (fun c2 ρ2 => optK (lstOf ρ2 c1) fun as => optK (lstOf ρ2 c2) fun bs => as.length + bs.length ≤ sizeLine ∧ Q (.own 0 (.lst (as ++ bs))) ρ2) E) E
theorem ee_cat {a b : Expr} {wa wb : WE} (ha : EE X g W a wa) (hb : EE X g W b wb) : EE X g W (.BinOp a .Add b pos) (wCat wa wb) := by
  obtain ⟨ta, p1, s1⟩ := ha.ex
  obtain ⟨tb, p2, s2⟩ := hb.ex
  refine ⟨_, pe_op op_cat p1 p2, fun σ vs H ρ cs QD ED Q hS hw hX hQ => ?_⟩
  refine s1 σ vs H ρ cs _ ED _ hS hw hX fun x H1 c1 ρ1 S1 q1 => ?_
  refine s2 σ (x :: vs) H1 ρ1 (c1 :: cs) _ ED _ S1 q1 hX fun y H2 c2 ρ2 S2 q2 => ?_
  cases e1 : lstOf ρ2 c1 with
  | none => rw [e1] at q2; exact q2.elim
  | some as =>
    cases e2 : lstOf ρ2 c2 with
    | none => rw [e1, e2] at q2; exact q2.elim
    | some bs =>
      rw [e1, e2] at q2
      obtain ⟨b, ys, f1, f2, f3⟩ := S2.lst e2
      obtain ⟨a, xs, g1, g2, g3⟩ := (SR.rot (xs := [y]) (ccs := [c2]) rfl S2).lst e1
      subst f1; subst g1
      refine ⟨a, b, xs, ys, rfl, rfl, g2, f2, by rw [DL.DpAll.len g3, DL.DpAll.len f3]; exact q2.1, fun p n => ?_⟩
      have S3 := S2.pop.pop
      exact hQ _ _ _ ρ2 (SR.res S3 (same_new n) (new_lst n (DL.DpAll.app (dpAll_up (dpAll_up g3)) (dpAll_up (dpAll_up f3))))) q2.2
/-- a name's own list becomes data, in the slot too -/
@[reducible] def wFrz (i : Nat) : WE := fun ρ Q _ => match rget ρ i with
  | .v d => Q (.v d) ρ
  | .own _ (.lst ds) => Q (.v (.list ds)) (rset ρ i (.v (.list ds)))
  | _ => False
theorem ee_frz (hL : g.L i = true) (hx : PE X (.Name x p) (tVar i)) : EE X g W (.Name x p) (wFrz i) := by
  refine ⟨_, hx, fun σ vs H ρ cs QD ED Q hS hw hX hQ => ?_⟩
  unfold wFrz at hw
  split at hw
  · rename_i d e
    obtain ⟨x, e1, q1⟩ := hS.slot e
    exact ⟨x, e1, hQ x H _ ρ (SR.resV hS (Same.refl H) q1) hw⟩
  · rename_i t ds e
    obtain ⟨a, e1, _⟩ := hS.own e
    have hlt : i < ρ.length := by rw [← hS.len]; exact (List.getElem?_eq_some_iff.mp e1).1
    obtain ⟨_, S2⟩ := (hS.pushPk e1 hL).moveOut e
    have S3 := S2.frzTop
    have dx := S3.top
    have S4 := S3.moveIn (i := i) rfl e1 (rget_rset hlt)
    rw [rset_rset] at S4
    have dx2 : Dp X.K (hide H (tot σ vs (rset ρ i (.v (.list ds))) cs ++ g.P0)) (.ref a) (.list ds) := by
      have ef : tot σ vs (rset ρ i (.v (.list ds))) cs = tot σ vs (rset ρ i .no) cs := by
        have go : ∀ (σ : List (Option V)) (ρ : Rho) (i : Nat), foot σ (rset ρ i (.v (.list ds))) = foot σ (rset ρ i .no) := by
          intro σ
          induction σ with
          | nil => intro ρ i; have e : ∀ r : Rho, foot [] r = [] := fun r => by cases r <;> rfl
                   rw [e, e]
          | cons v σ ih =>
            intro ρ i
            cases ρ with
            | nil => rfl
            | cons c ρ =>
              cases i with
              | zero => show footC v (.v _) ++ _ = footC v .no ++ _; rw [footC_v, footC_no]
              | succ i => show footC v c ++ foot σ (rset ρ i _) = footC v c ++ foot σ (rset ρ i _); rw [ih]
        show foot _ _ ++ foot σ _ = foot _ _ ++ foot σ _
        rw [go]
      rw [ef]
      exact dx
    exact ⟨_, e1, hQ _ H _ _ (SR.resV S4 (Same.refl H) dx2) hw⟩
  · exact hw.elim
end
/-! ### a, b = a list -/
section
variable {X : Cx} {g : G} {W : WX} {es : List Expr} {ws : WGs} {T : List Nat} {pos : Pos}
theorem semG_unl {K : PySem.W.Frag} {g : G} {n : Nat} {T : List Nat} {t : TGs} {w : WGs} (h : SemGs K g T t w) : SemG K g T (gUnl K n t) (wgLst n w) := fun σ vs H ρ cs x d QD Q hS hp hw hQ => by
  cases d with
  | list ds =>
    have q := hS.top
    cases q with
    | lst hs ha =>
      rename_i a xs
      refine ⟨a, xs, rfl, Same.seq same_hide hs, by rw [DL.DpAll.len ha]; exact hw.1, ?_⟩
      exact h σ vs H ρ cs xs ds QD Q (DL.DpAll.len ha) (hS.pop.pushAll ha) hp hw.2 hQ
  | _ => exact hw.elim
theorem eg_unl {k : Nat} {n : Nat} (hc : X.calm = true) (h : EGs X g es T ws) (hn : (assignEach es X.env).length = n := by rfl) (hst : (assignEach es X.env).findIdx? (·.1) = none := by rfl) : EG X g (.Tuple es k pos) T (wgLst n ws) := by
  obtain ⟨t, p, s⟩ := h.ex
  exact ⟨_, pg_unl hc p hn hst, semG_unl s⟩
/-- a, b = x, y (plain names) -/
@[reducible] def wPar (i j : Nat) (wa : WA) : WS := fun DD ρ => wa ρ (fun cs ρ1 => match frzs cs with
  | [.v d1, .v d2] => DD.nx (rset (rset ρ1 j (.v d2)) i (.v d1))
  | _ => False) DD.ex
theorem es_par {i j : Nat} {x y : Str} {a b : Expr} {wa : WA} {px py pt spos : Pos} {kt k2 pt2} (hc : X.calm = true) (hN : X.N.Nodup) (hi : X.N[i]? = some x) (hj : X.N[j]? = some y) (hij : i ≠ j) (hx : X.env.scope.names.lookup x = some .local) (hy : X.env.scope.names.lookup y = some .local) (ha : EA X g W [a, b] wa)
    (hw : swappedStores [.Tuple [.Name x px, .Name y py] kt pt] (.Tuple [a, b] k2 pt2) X.env = pure (some [x, y]))
    (hs : swapsWithSole [.Tuple [.Name x px, .Name y py] kt pt] (.Tuple [a, b] k2 pt2) spos.line X.env = pure false := by rfl) :
    ES X g W (.Assign [.Tuple [.Name x px, .Name y py] kt pt] (.Tuple [a, b] k2 pt2) spos) (wPar i j wa) := by
  obtain ⟨t, q, s⟩ := ha.ex
  refine ⟨_, ps_par hc hN hi hj hij hx hy q hw hs, fun σ vs H ρ cs DD D hS hp hw hE => ?_⟩
  refine s σ vs H ρ cs _ _ _ hS hw (hE.ex σ) fun xs H1 ccs ρ1 hl S1 q1 => ?_
  split at q1
  · rename_i d1 d2 ec
    rw [frzs_eq] at ec
    have S2 := S1.frzArgs hl
    rw [ec] at S2
    have hlen : ccs.length = 2 := by have := congrArg List.length ec; simpa using this
    match xs, hl with
    | [v, w], _ =>
      refine ⟨v, w, rfl, ?_⟩
      have S3 : SR X.K g σ (w :: (v :: vs)) H1 ρ1 (.v d2 :: (.v d1 :: cs)) := SR.rot (xs := [v]) (ccs := [.v d1]) rfl S2
      have S4 := S3.store (i := j) rfl (fun k z => (hp.cons (c := .v d1) rfl).nopk z)
      have S5 := S4.store (i := i) rfl (fun k z => hp.nopk z)
      rw [List.set_comm _ _ (Ne.symm hij)] at S5
      exact hE.nx _ H1 _ S5 q1
    | [], h => simp at h; omega
    | [_], h => simp at h; omega
    | _ :: _ :: _ :: _, h => simp at h; omega
  · exact q1.elim
end
end DL

set_option Elab.async false
set_option linter.all false
set_option maxRecDepth 100000
set_option maxHeartbeats 4000000
/-! DL: the program's defs by their names; walks over any sequence; unary minus; + and in of any data. -/
namespace DL
open PySem PySem.Spec PyProof.Rows L2

theorem lt_ {g : G} {L : Nat → Bool} (h : g.L = L) {i : Nat} (e : L i = true) : g.L i = true := by rw [h]; exact e
theorem lf_ {g : G} {L : Nat → Bool} (h : g.L = L) {T : List Nat} (e : (T.all fun j => !L j) = true) : ∀ j ∈ T, g.L j = false := fun j hj => by
  rw [h]
  have := List.all_eq_true.mp e j hj
  simpa using this
/-- a def of the program by its name, with its promise over data -/
structure Has (P : Program) (w : World) (K : PySem.W.Frag) (mg : Str → Option Value) (base : Heap) (k : Nat) (x : Str) (S : SpD) : Prop where
  ex : ∃ (f : Addr) (fd : FuncData) (ps : List Str), FnOk P w K mg base (L2.CX P w) k f fd ps (spOf K S) ∧ mg x = some (.ref f) ∧ PySem.W.keepIn K (.ref f) = true ∧ Binds K fd ps []
section
variable {X : Cx} {g : G} {k : Nat} {S : SpD} {x : Str} {p pos : Pos} {e : Expr} {es : List Expr} {wa : WA}
theorem ee_has (h : Has X.prog X.w X.K X.mg X.base k x S) (hr : Room k X.A) (hg : Gl X x) (ha : EA X g W0 (e :: es) wa) (hdb : (x == ("__debug__" : Str)) = false := by decide)
    (he : starEach (e :: es) X.env = (false, eval e X.env) :: starEach es X.env := by rfl) (hpl : (backTo pos (starEach es X.env)).any (·.1) = false := by rfl) : EE X g W0 (.Call (.Name x p) (e :: es) [] pos) (wCall S wa) := by
  obtain ⟨f, fd, ps, F, hm, hk, hb⟩ := h.ex
  exact ee_call F hr hg hm hk hb passL (fun _ _ _ _ z => z) ha hdb he hpl
theorem ee_hasO (h : Has X.prog X.w X.K X.mg X.base k x S) (hr : Room k X.A) (hg : Gl X x) (ha : EA X g W0 (e :: es) wa) (hdb : (x == ("__debug__" : Str)) = false := by decide)
    (he : starEach (e :: es) X.env = (false, eval e X.env) :: starEach es X.env := by rfl) (hpl : (backTo pos (starEach es X.env)).any (·.1) = false := by rfl) : EE X g W0 (.Call (.Name x p) (e :: es) [] pos) (wCallO S wa) := by
  obtain ⟨f, fd, ps, F, hm, hk, hb⟩ := h.ex
  exact ee_callO F hr hg hm hk hb passL (fun _ _ _ _ z => z) ha hdb he hpl
theorem ee_has0 (h : Has X.prog X.w X.K X.mg X.base k x S) (hr : Room k X.A) (hg : Gl X x) (hdb : (x == ("__debug__" : Str)) = false := by decide) : EE X g W0 (.Call (.Name x p) [] [] pos) (wCall S wNil) := by
  obtain ⟨f, fd, ps, F, hm, hk, hb⟩ := h.ex
  exact ee_call0 F hr hg hm hk hb passL (fun _ _ _ _ z => z) hdb
/-- within a def that may let an exception out -/
theorem ee_hasX {E : XK} (h : Has X.prog X.w X.K X.mg X.base k x S) (hr : Room k X.A) (hg : Gl X x) (tk : Takes X fun cls d _ H => E cls d H) (ha : EA X g (fun cls d _ H => E cls d H) (e :: es) wa) (hdb : (x == ("__debug__" : Str)) = false := by decide)
    (he : starEach (e :: es) X.env = (false, eval e X.env) :: starEach es X.env := by rfl) (hpl : (backTo pos (starEach es X.env)).any (·.1) = false := by rfl) : EE X g (fun cls d _ H => E cls d H) (.Call (.Name x p) (e :: es) [] pos) (wCall S wa) := by
  obtain ⟨f, fd, ps, F, hm, hk, hb⟩ := h.ex
  exact ee_call F hr hg hm hk hb (passes_call tk fun _ _ _ _ z => z) (fun _ _ _ _ z => z) ha hdb he hpl
end
@[reducible] def oNeg : O1 := fun d k => match d with
  | .int i => k (.v (.int (-i)))
  | _ => False
theorem lift_neg {K : PySem.W.Frag} : Lift1 K (rU fun i => V.int (-i)) oNeg := by
  intro O H x dx QD Q _ hx q fin
  cases hx <;> try exact q.elim
  exact ⟨_, rfl, fin _ H (.v _) (Same.refl H) (.int _) q⟩
section
variable {X : Cx} {g : G} {W : WX} {a : Expr} {wa : WE} {pos : Pos}
theorem ee_neg (ha : EE X g W a wa) : EE X g W (.UnaryOp .USub a pos) (wU oNeg wa) := by
  obtain ⟨t, p, s⟩ := ha.ex
  exact ⟨_, pe_un un_neg p, sem_un lift_neg s⟩
end
/-- a list, a tuple or a text, walked -/
def iSeq (K : PySem.W.Frag) (tl : TE) : TI := fun σ H R => tl σ H fun x H1 => (∃ a, x = .ref a ∧ (∃ xs, SqL K H1 a xs) ∧ R (Itl K a) H1) ∨ (∃ a, x = .ref a ∧ (∃ xs, SqT K H1 a xs) ∧ R (Itt K a) H1) ∨ ∃ z, x = .str z ∧ R (Its z) H1
/-- an expression that is done: its value stands there -/
theorem pi_seq {X : Cx} {tg l : Expr} {tl : TE} (hl : PE X l tl) : PI X tg l (iSeq X.K tl) := by
  refine ⟨fun pins s σ H R I h => ?_⟩
  refine thn (hl.run pins s σ H _ I h) fun v s1 ⟨x, H1, I1, r1, q1⟩ => ?_
  rcases q1 with ⟨a, e, ⟨xs, hq⟩, q⟩ | ⟨a, e, ⟨xs, hq⟩, q⟩ | ⟨z, e, q⟩
  · subst e
    cases r1
    obtain ⟨its, rv, p, hz⟩ := I1.list hq
    refine wpAny_pyIter_list p.isList ?_
    refine ⟨s1.heap.objs.size, [s1.heap.objs.size], _, _, H1, rfl, I1.kept (t' := s1.toks) fun b o e => Heap.get?_push_of_some _ e, turn_list a _, ⟨_, Heap.get?_push_size _ rfl, rfl, rfl⟩, fun b hb => ?_, q⟩
    have e : b = s1.heap.objs.size := by simpa using hb
    subst e
    exact I1.fpOk (Nat.le_refl _) (I1.hok.fresh (Nat.le_refl _))
  · subst e
    cases r1
    obtain ⟨its, rv, p, hz⟩ := I1.tuple hq
    refine wpAny_pyIter_tuple (show s1.heap.IsTuple a its.toArray from p) ?_
    refine ⟨s1.heap.objs.size, [s1.heap.objs.size], _, _, H1, rfl, I1.kept (t' := s1.toks) fun b o e => Heap.get?_push_of_some _ e, turn_tuple a _, ⟨_, Heap.get?_push_size _ rfl, rfl, rfl⟩, fun b hb => ?_, q⟩
    have e : b = s1.heap.objs.size := by simpa using hb
    subst e
    exact I1.fpOk (Nat.le_refl _) (I1.hok.fresh (Nat.le_refl _))
  · subst e
    obtain ⟨t, rfl⟩ := r1
    cases ha : z.cps.all (· < 128)
    · exact wpAny_pyIter_wide ha (pi_one (tk := s1.toks) I1 _ (turn_str _ z t "str_iterator" (.inr rfl)) ⟨_, Heap.get?_push_size _ rfl, rfl, rfl⟩ q)
    · exact wpAny_pyIter_ascii ha (pi_one (tk := s1.toks) I1 _ (turn_str _ z t "str_ascii_iterator" (.inl rfl)) ⟨_, Heap.get?_push_size _ rfl, rfl, rfl⟩ q)
@[reducible] def itemsD : D → Option (List D)
  | .list ds => some ds
  | .tuple ds => some ds
  | .str x => some (strD x)
  | _ => none
@[reducible] def wISeq (we : WE) : WI := fun ρ Q E => we ρ (fun c ρ1 => match frzC c with
  | .v d => optK (itemsD d) fun ds => Q ds ρ1
  | _ => False) E
theorem ei_seq {X : Cx} {g : G} {W : WX} {tg e : Expr} {we : WE} (h : EE X g W e we) : EI X g W tg e (wISeq we) := by
  obtain ⟨t, p, s⟩ := h.ex
  refine ⟨_, pi_seq p, fun σ vs H ρ cs QD ED R hS hw hX hQ => ?_⟩
  refine s σ vs H ρ cs _ ED _ hS hw hX fun x H1 c ρ1 S1 q1 => ?_
  split at q1
  · rename_i d ec
    have S2 := S1.frzTop
    rw [ec] at S2
    have q := S2.top
    cases q with
    | lst h1 h2 => exact .inl ⟨_, rfl, ⟨_, Same.seq same_hide h1⟩, hQ _ [_] [.list _] _ H1 ρ1 rfl S2 walks_list q1⟩
    | tup h1 h2 => exact .inr (.inl ⟨_, rfl, ⟨_, seqT_same same_hide h1⟩, hQ _ [_] [.tuple _] _ H1 ρ1 rfl S2 walks_tup q1⟩)
    | str z => exact .inr (.inr ⟨z, rfl, hQ _ [] [] _ H1 ρ1 rfl S2.pop walks_str q1⟩)
    | _ => exact q1.elim
  · exact q1.elim
end DL

set_option Elab.async false
set_option linter.all false
/-! for the proofs of readings: steps, loops -/
namespace DL
open PySem PySem.Spec PyProof.Rows L2
theorem ifb {A B : Prop} {b : Bool} (h : b = true → A) (h' : b = false → B) : if b = true then A else B := by
  cases b
  · exact h' rfl
  · exact h rfl
theorem eqv_int {a b : Int} : PyData.eqv (.int a) (.int b) = decide (a = b) := by first | rfl | simp [PyData.eqv]
theorem atI_mem {ds : List D} {x : Int} (h0 : 0 ≤ x) (h1 : x < ds.length) : ∃ d, atI ds x = some d ∧ d ∈ ds := by
  obtain ⟨j, rfl⟩ := Int.eq_ofNat_of_zero_le h0
  have hj : j < ds.length := by omega
  exact ⟨ds[j], L2.atI_nat (List.getElem?_eq_getElem hj), List.getElem_mem hj⟩
theorem log2_lt {m : Int} {k : Nat} (h : m.natAbs < 2 ^ k) (h0 : 0 < k) (h9 : k ≤ 9000) : m.natAbs.log2 < 9000 := Nat.lt_of_lt_of_le (PySem.Flt.log2_lt_of h0 h) h9
theorem log2_sm {m : Int} (h : m.natAbs < 18446744073709551616) : m.natAbs.log2 < 9000 := log2_lt (k := 64) h (by decide) (by decide)

theorem forK_ind {wg : WG} {body : WS} {DD : EndsD} (I : List D → Rho → Prop) (h0 : ∀ ρ, I [] ρ → DD.nx ρ)
    (h1 : ∀ d ds ρ (next : Rho → Prop), (∀ ρ', I ds ρ' → next ρ') → I (d :: ds) ρ → wg d ρ fun ρ1 => body ⟨next, DD.rt, DD.nx, next, DD.ex⟩ ρ1) : ∀ ds ρ, I ds ρ → forK wg body ds DD ρ
  | [], ρ, h => h0 ρ h
  | d :: ds, ρ, h => h1 d ds ρ _ (fun ρ' h' => forK_ind I h0 h1 ds ρ' h') h
theorem mem_range {lo : Int} {n : Nat} {d : D} (h : d ∈ rangeD lo n) : ∃ k : Int, d = .int k ∧ lo ≤ k ∧ k < lo + n := by
  obtain ⟨k, h1, rfl⟩ := List.mem_map.mp h
  have := List.mem_range.mp h1
  exact ⟨lo + k, rfl, by omega, by omega⟩
theorem eqv_intV {a b : Int} (h : a = b) : PyData.eqv (.int a) (.int b) = true := by rw [eqv_int]; exact decide_eq_true h
/-! states written out -/
theorem wSeq_i {w u : WS} {nx : Rho → Prop} {rt : KC} {bk ct : Rho → Prop} {ex : KX} {ρ ρ' : Rho} (e : ρ = ρ') (h : w ⟨u ⟨nx, rt, bk, ct, ex⟩, rt, bk, ct, ex⟩ ρ') : wSeq w u ⟨nx, rt, bk, ct, ex⟩ ρ := by
  subst e
  exact h
theorem rs0 {a0 c : C} {l : Rho} : rset (a0 :: l) 0 c = c :: l := rfl
theorem rg0 {a0 : C} {l : Rho} : rget (a0 :: l) 0 = a0 := rfl
theorem rs1 {a0 a1 c : C} {l : Rho} : rset (a0 :: a1 :: l) 1 c = a0 :: c :: l := rfl
theorem rg1 {a0 a1 : C} {l : Rho} : rget (a0 :: a1 :: l) 1 = a1 := rfl
theorem rs2 {a0 a1 a2 c : C} {l : Rho} : rset (a0 :: a1 :: a2 :: l) 2 c = a0 :: a1 :: c :: l := rfl
theorem rg2 {a0 a1 a2 : C} {l : Rho} : rget (a0 :: a1 :: a2 :: l) 2 = a2 := rfl
theorem rs3 {a0 a1 a2 a3 c : C} {l : Rho} : rset (a0 :: a1 :: a2 :: a3 :: l) 3 c = a0 :: a1 :: a2 :: c :: l := rfl
theorem rg3 {a0 a1 a2 a3 : C} {l : Rho} : rget (a0 :: a1 :: a2 :: a3 :: l) 3 = a3 := rfl
theorem rs4 {a0 a1 a2 a3 a4 c : C} {l : Rho} : rset (a0 :: a1 :: a2 :: a3 :: a4 :: l) 4 c = a0 :: a1 :: a2 :: a3 :: c :: l := rfl
theorem rg4 {a0 a1 a2 a3 a4 : C} {l : Rho} : rget (a0 :: a1 :: a2 :: a3 :: a4 :: l) 4 = a4 := rfl
theorem rs5 {a0 a1 a2 a3 a4 a5 c : C} {l : Rho} : rset (a0 :: a1 :: a2 :: a3 :: a4 :: a5 :: l) 5 c = a0 :: a1 :: a2 :: a3 :: a4 :: c :: l := rfl
theorem rg5 {a0 a1 a2 a3 a4 a5 : C} {l : Rho} : rget (a0 :: a1 :: a2 :: a3 :: a4 :: a5 :: l) 5 = a5 := rfl
theorem rs6 {a0 a1 a2 a3 a4 a5 a6 c : C} {l : Rho} : rset (a0 :: a1 :: a2 :: a3 :: a4 :: a5 :: a6 :: l) 6 c = a0 :: a1 :: a2 :: a3 :: a4 :: a5 :: c :: l := rfl
theorem rg6 {a0 a1 a2 a3 a4 a5 a6 : C} {l : Rho} : rget (a0 :: a1 :: a2 :: a3 :: a4 :: a5 :: a6 :: l) 6 = a6 := rfl
theorem rs7 {a0 a1 a2 a3 a4 a5 a6 a7 c : C} {l : Rho} : rset (a0 :: a1 :: a2 :: a3 :: a4 :: a5 :: a6 :: a7 :: l) 7 c = a0 :: a1 :: a2 :: a3 :: a4 :: a5 :: a6 :: c :: l := rfl
theorem rg7 {a0 a1 a2 a3 a4 a5 a6 a7 : C} {l : Rho} : rget (a0 :: a1 :: a2 :: a3 :: a4 :: a5 :: a6 :: a7 :: l) 7 = a7 := rfl
theorem rs8 {a0 a1 a2 a3 a4 a5 a6 a7 a8 c : C} {l : Rho} : rset (a0 :: a1 :: a2 :: a3 :: a4 :: a5 :: a6 :: a7 :: a8 :: l) 8 c = a0 :: a1 :: a2 :: a3 :: a4 :: a5 :: a6 :: a7 :: c :: l := rfl
theorem rg8 {a0 a1 a2 a3 a4 a5 a6 a7 a8 : C} {l : Rho} : rget (a0 :: a1 :: a2 :: a3 :: a4 :: a5 :: a6 :: a7 :: a8 :: l) 8 = a8 := rfl
theorem rs9 {a0 a1 a2 a3 a4 a5 a6 a7 a8 a9 c : C} {l : Rho} : rset (a0 :: a1 :: a2 :: a3 :: a4 :: a5 :: a6 :: a7 :: a8 :: a9 :: l) 9 c = a0 :: a1 :: a2 :: a3 :: a4 :: a5 :: a6 :: a7 :: a8 :: c :: l := rfl
theorem rg9 {a0 a1 a2 a3 a4 a5 a6 a7 a8 a9 : C} {l : Rho} : rget (a0 :: a1 :: a2 :: a3 :: a4 :: a5 :: a6 :: a7 :: a8 :: a9 :: l) 9 = a9 := rfl
theorem rs10 {a0 a1 a2 a3 a4 a5 a6 a7 a8 a9 a10 c : C} {l : Rho} : rset (a0 :: a1 :: a2 :: a3 :: a4 :: a5 :: a6 :: a7 :: a8 :: a9 :: a10 :: l) 10 c = a0 :: a1 :: a2 :: a3 :: a4 :: a5 :: a6 :: a7 :: a8 :: a9 :: c :: l := rfl
theorem rg10 {a0 a1 a2 a3 a4 a5 a6 a7 a8 a9 a10 : C} {l : Rho} : rget (a0 :: a1 :: a2 :: a3 :: a4 :: a5 :: a6 :: a7 :: a8 :: a9 :: a10 :: l) 10 = a10 := rfl
theorem rs11 {a0 a1 a2 a3 a4 a5 a6 a7 a8 a9 a10 a11 c : C} {l : Rho} : rset (a0 :: a1 :: a2 :: a3 :: a4 :: a5 :: a6 :: a7 :: a8 :: a9 :: a10 :: a11 :: l) 11 c = a0 :: a1 :: a2 :: a3 :: a4 :: a5 :: a6 :: a7 :: a8 :: a9 :: a10 :: c :: l := rfl
theorem rg11 {a0 a1 a2 a3 a4 a5 a6 a7 a8 a9 a10 a11 : C} {l : Rho} : rget (a0 :: a1 :: a2 :: a3 :: a4 :: a5 :: a6 :: a7 :: a8 :: a9 :: a10 :: a11 :: l) 11 = a11 := rfl
theorem rs12 {a0 a1 a2 a3 a4 a5 a6 a7 a8 a9 a10 a11 a12 c : C} {l : Rho} : rset (a0 :: a1 :: a2 :: a3 :: a4 :: a5 :: a6 :: a7 :: a8 :: a9 :: a10 :: a11 :: a12 :: l) 12 c = a0 :: a1 :: a2 :: a3 :: a4 :: a5 :: a6 :: a7 :: a8 :: a9 :: a10 :: a11 :: c :: l := rfl
theorem rg12 {a0 a1 a2 a3 a4 a5 a6 a7 a8 a9 a10 a11 a12 : C} {l : Rho} : rget (a0 :: a1 :: a2 :: a3 :: a4 :: a5 :: a6 :: a7 :: a8 :: a9 :: a10 :: a11 :: a12 :: l) 12 = a12 := rfl
theorem rs13 {a0 a1 a2 a3 a4 a5 a6 a7 a8 a9 a10 a11 a12 a13 c : C} {l : Rho} : rset (a0 :: a1 :: a2 :: a3 :: a4 :: a5 :: a6 :: a7 :: a8 :: a9 :: a10 :: a11 :: a12 :: a13 :: l) 13 c = a0 :: a1 :: a2 :: a3 :: a4 :: a5 :: a6 :: a7 :: a8 :: a9 :: a10 :: a11 :: a12 :: c :: l := rfl
theorem rg13 {a0 a1 a2 a3 a4 a5 a6 a7 a8 a9 a10 a11 a12 a13 : C} {l : Rho} : rget (a0 :: a1 :: a2 :: a3 :: a4 :: a5 :: a6 :: a7 :: a8 :: a9 :: a10 :: a11 :: a12 :: a13 :: l) 13 = a13 := rfl
theorem rs14 {a0 a1 a2 a3 a4 a5 a6 a7 a8 a9 a10 a11 a12 a13 a14 c : C} {l : Rho} : rset (a0 :: a1 :: a2 :: a3 :: a4 :: a5 :: a6 :: a7 :: a8 :: a9 :: a10 :: a11 :: a12 :: a13 :: a14 :: l) 14 c = a0 :: a1 :: a2 :: a3 :: a4 :: a5 :: a6 :: a7 :: a8 :: a9 :: a10 :: a11 :: a12 :: a13 :: c :: l := rfl
theorem rg14 {a0 a1 a2 a3 a4 a5 a6 a7 a8 a9 a10 a11 a12 a13 a14 : C} {l : Rho} : rget (a0 :: a1 :: a2 :: a3 :: a4 :: a5 :: a6 :: a7 :: a8 :: a9 :: a10 :: a11 :: a12 :: a13 :: a14 :: l) 14 = a14 := rfl
theorem rs15 {a0 a1 a2 a3 a4 a5 a6 a7 a8 a9 a10 a11 a12 a13 a14 a15 c : C} {l : Rho} : rset (a0 :: a1 :: a2 :: a3 :: a4 :: a5 :: a6 :: a7 :: a8 :: a9 :: a10 :: a11 :: a12 :: a13 :: a14 :: a15 :: l) 15 c = a0 :: a1 :: a2 :: a3 :: a4 :: a5 :: a6 :: a7 :: a8 :: a9 :: a10 :: a11 :: a12 :: a13 :: a14 :: c :: l := rfl
theorem rg15 {a0 a1 a2 a3 a4 a5 a6 a7 a8 a9 a10 a11 a12 a13 a14 a15 : C} {l : Rho} : rget (a0 :: a1 :: a2 :: a3 :: a4 :: a5 :: a6 :: a7 :: a8 :: a9 :: a10 :: a11 :: a12 :: a13 :: a14 :: a15 :: l) 15 = a15 := rfl
theorem rs16 {a0 a1 a2 a3 a4 a5 a6 a7 a8 a9 a10 a11 a12 a13 a14 a15 a16 c : C} {l : Rho} : rset (a0 :: a1 :: a2 :: a3 :: a4 :: a5 :: a6 :: a7 :: a8 :: a9 :: a10 :: a11 :: a12 :: a13 :: a14 :: a15 :: a16 :: l) 16 c = a0 :: a1 :: a2 :: a3 :: a4 :: a5 :: a6 :: a7 :: a8 :: a9 :: a10 :: a11 :: a12 :: a13 :: a14 :: a15 :: c :: l := rfl
theorem rg16 {a0 a1 a2 a3 a4 a5 a6 a7 a8 a9 a10 a11 a12 a13 a14 a15 a16 : C} {l : Rho} : rget (a0 :: a1 :: a2 :: a3 :: a4 :: a5 :: a6 :: a7 :: a8 :: a9 :: a10 :: a11 :: a12 :: a13 :: a14 :: a15 :: a16 :: l) 16 = a16 := rfl
theorem rs17 {a0 a1 a2 a3 a4 a5 a6 a7 a8 a9 a10 a11 a12 a13 a14 a15 a16 a17 c : C} {l : Rho} : rset (a0 :: a1 :: a2 :: a3 :: a4 :: a5 :: a6 :: a7 :: a8 :: a9 :: a10 :: a11 :: a12 :: a13 :: a14 :: a15 :: a16 :: a17 :: l) 17 c = a0 :: a1 :: a2 :: a3 :: a4 :: a5 :: a6 :: a7 :: a8 :: a9 :: a10 :: a11 :: a12 :: a13 :: a14 :: a15 :: a16 :: c :: l := rfl
theorem rg17 {a0 a1 a2 a3 a4 a5 a6 a7 a8 a9 a10 a11 a12 a13 a14 a15 a16 a17 : C} {l : Rho} : rget (a0 :: a1 :: a2 :: a3 :: a4 :: a5 :: a6 :: a7 :: a8 :: a9 :: a10 :: a11 :: a12 :: a13 :: a14 :: a15 :: a16 :: a17 :: l) 17 = a17 := rfl
theorem rs18 {a0 a1 a2 a3 a4 a5 a6 a7 a8 a9 a10 a11 a12 a13 a14 a15 a16 a17 a18 c : C} {l : Rho} : rset (a0 :: a1 :: a2 :: a3 :: a4 :: a5 :: a6 :: a7 :: a8 :: a9 :: a10 :: a11 :: a12 :: a13 :: a14 :: a15 :: a16 :: a17 :: a18 :: l) 18 c = a0 :: a1 :: a2 :: a3 :: a4 :: a5 :: a6 :: a7 :: a8 :: a9 :: a10 :: a11 :: a12 :: a13 :: a14 :: a15 :: a16 :: a17 :: c :: l := rfl
theorem rg18 {a0 a1 a2 a3 a4 a5 a6 a7 a8 a9 a10 a11 a12 a13 a14 a15 a16 a17 a18 : C} {l : Rho} : rget (a0 :: a1 :: a2 :: a3 :: a4 :: a5 :: a6 :: a7 :: a8 :: a9 :: a10 :: a11 :: a12 :: a13 :: a14 :: a15 :: a16 :: a17 :: a18 :: l) 18 = a18 := rfl
theorem rs19 {a0 a1 a2 a3 a4 a5 a6 a7 a8 a9 a10 a11 a12 a13 a14 a15 a16 a17 a18 a19 c : C} {l : Rho} : rset (a0 :: a1 :: a2 :: a3 :: a4 :: a5 :: a6 :: a7 :: a8 :: a9 :: a10 :: a11 :: a12 :: a13 :: a14 :: a15 :: a16 :: a17 :: a18 :: a19 :: l) 19 c = a0 :: a1 :: a2 :: a3 :: a4 :: a5 :: a6 :: a7 :: a8 :: a9 :: a10 :: a11 :: a12 :: a13 :: a14 :: a15 :: a16 :: a17 :: a18 :: c :: l := rfl
theorem rg19 {a0 a1 a2 a3 a4 a5 a6 a7 a8 a9 a10 a11 a12 a13 a14 a15 a16 a17 a18 a19 : C} {l : Rho} : rget (a0 :: a1 :: a2 :: a3 :: a4 :: a5 :: a6 :: a7 :: a8 :: a9 :: a10 :: a11 :: a12 :: a13 :: a14 :: a15 :: a16 :: a17 :: a18 :: a19 :: l) 19 = a19 := rfl
theorem rs20 {a0 a1 a2 a3 a4 a5 a6 a7 a8 a9 a10 a11 a12 a13 a14 a15 a16 a17 a18 a19 a20 c : C} {l : Rho} : rset (a0 :: a1 :: a2 :: a3 :: a4 :: a5 :: a6 :: a7 :: a8 :: a9 :: a10 :: a11 :: a12 :: a13 :: a14 :: a15 :: a16 :: a17 :: a18 :: a19 :: a20 :: l) 20 c = a0 :: a1 :: a2 :: a3 :: a4 :: a5 :: a6 :: a7 :: a8 :: a9 :: a10 :: a11 :: a12 :: a13 :: a14 :: a15 :: a16 :: a17 :: a18 :: a19 :: c :: l := rfl
theorem rg20 {a0 a1 a2 a3 a4 a5 a6 a7 a8 a9 a10 a11 a12 a13 a14 a15 a16 a17 a18 a19 a20 : C} {l : Rho} : rget (a0 :: a1 :: a2 :: a3 :: a4 :: a5 :: a6 :: a7 :: a8 :: a9 :: a10 :: a11 :: a12 :: a13 :: a14 :: a15 :: a16 :: a17 :: a18 :: a19 :: a20 :: l) 20 = a20 := rfl
theorem rs21 {a0 a1 a2 a3 a4 a5 a6 a7 a8 a9 a10 a11 a12 a13 a14 a15 a16 a17 a18 a19 a20 a21 c : C} {l : Rho} : rset (a0 :: a1 :: a2 :: a3 :: a4 :: a5 :: a6 :: a7 :: a8 :: a9 :: a10 :: a11 :: a12 :: a13 :: a14 :: a15 :: a16 :: a17 :: a18 :: a19 :: a20 :: a21 :: l) 21 c = a0 :: a1 :: a2 :: a3 :: a4 :: a5 :: a6 :: a7 :: a8 :: a9 :: a10 :: a11 :: a12 :: a13 :: a14 :: a15 :: a16 :: a17 :: a18 :: a19 :: a20 :: c :: l := rfl
theorem rg21 {a0 a1 a2 a3 a4 a5 a6 a7 a8 a9 a10 a11 a12 a13 a14 a15 a16 a17 a18 a19 a20 a21 : C} {l : Rho} : rget (a0 :: a1 :: a2 :: a3 :: a4 :: a5 :: a6 :: a7 :: a8 :: a9 :: a10 :: a11 :: a12 :: a13 :: a14 :: a15 :: a16 :: a17 :: a18 :: a19 :: a20 :: a21 :: l) 21 = a21 := rfl
theorem rs22 {a0 a1 a2 a3 a4 a5 a6 a7 a8 a9 a10 a11 a12 a13 a14 a15 a16 a17 a18 a19 a20 a21 a22 c : C} {l : Rho} : rset (a0 :: a1 :: a2 :: a3 :: a4 :: a5 :: a6 :: a7 :: a8 :: a9 :: a10 :: a11 :: a12 :: a13 :: a14 :: a15 :: a16 :: a17 :: a18 :: a19 :: a20 :: a21 :: a22 :: l) 22 c = a0 :: a1 :: a2 :: a3 :: a4 :: a5 :: a6 :: a7 :: a8 :: a9 :: a10 :: a11 :: a12 :: a13 :: a14 :: a15 :: a16 :: a17 :: a18 :: a19 :: a20 :: a21 :: c :: l := rfl
theorem rg22 {a0 a1 a2 a3 a4 a5 a6 a7 a8 a9 a10 a11 a12 a13 a14 a15 a16 a17 a18 a19 a20 a21 a22 : C} {l : Rho} : rget (a0 :: a1 :: a2 :: a3 :: a4 :: a5 :: a6 :: a7 :: a8 :: a9 :: a10 :: a11 :: a12 :: a13 :: a14 :: a15 :: a16 :: a17 :: a18 :: a19 :: a20 :: a21 :: a22 :: l) 22 = a22 := rfl
theorem rs23 {a0 a1 a2 a3 a4 a5 a6 a7 a8 a9 a10 a11 a12 a13 a14 a15 a16 a17 a18 a19 a20 a21 a22 a23 c : C} {l : Rho} : rset (a0 :: a1 :: a2 :: a3 :: a4 :: a5 :: a6 :: a7 :: a8 :: a9 :: a10 :: a11 :: a12 :: a13 :: a14 :: a15 :: a16 :: a17 :: a18 :: a19 :: a20 :: a21 :: a22 :: a23 :: l) 23 c = a0 :: a1 :: a2 :: a3 :: a4 :: a5 :: a6 :: a7 :: a8 :: a9 :: a10 :: a11 :: a12 :: a13 :: a14 :: a15 :: a16 :: a17 :: a18 :: a19 :: a20 :: a21 :: a22 :: c :: l := rfl
theorem rg23 {a0 a1 a2 a3 a4 a5 a6 a7 a8 a9 a10 a11 a12 a13 a14 a15 a16 a17 a18 a19 a20 a21 a22 a23 : C} {l : Rho} : rget (a0 :: a1 :: a2 :: a3 :: a4 :: a5 :: a6 :: a7 :: a8 :: a9 :: a10 :: a11 :: a12 :: a13 :: a14 :: a15 :: a16 :: a17 :: a18 :: a19 :: a20 :: a21 :: a22 :: a23 :: l) 23 = a23 := rfl
theorem rs24 {a0 a1 a2 a3 a4 a5 a6 a7 a8 a9 a10 a11 a12 a13 a14 a15 a16 a17 a18 a19 a20 a21 a22 a23 a24 c : C} {l : Rho} : rset (a0 :: a1 :: a2 :: a3 :: a4 :: a5 :: a6 :: a7 :: a8 :: a9 :: a10 :: a11 :: a12 :: a13 :: a14 :: a15 :: a16 :: a17 :: a18 :: a19 :: a20 :: a21 :: a22 :: a23 :: a24 :: l) 24 c = a0 :: a1 :: a2 :: a3 :: a4 :: a5 :: a6 :: a7 :: a8 :: a9 :: a10 :: a11 :: a12 :: a13 :: a14 :: a15 :: a16 :: a17 :: a18 :: a19 :: a20 :: a21 :: a22 :: a23 :: c :: l := rfl
theorem rg24 {a0 a1 a2 a3 a4 a5 a6 a7 a8 a9 a10 a11 a12 a13 a14 a15 a16 a17 a18 a19 a20 a21 a22 a23 a24 : C} {l : Rho} : rget (a0 :: a1 :: a2 :: a3 :: a4 :: a5 :: a6 :: a7 :: a8 :: a9 :: a10 :: a11 :: a12 :: a13 :: a14 :: a15 :: a16 :: a17 :: a18 :: a19 :: a20 :: a21 :: a22 :: a23 :: a24 :: l) 24 = a24 := rfl
theorem rs25 {a0 a1 a2 a3 a4 a5 a6 a7 a8 a9 a10 a11 a12 a13 a14 a15 a16 a17 a18 a19 a20 a21 a22 a23 a24 a25 c : C} {l : Rho} : rset (a0 :: a1 :: a2 :: a3 :: a4 :: a5 :: a6 :: a7 :: a8 :: a9 :: a10 :: a11 :: a12 :: a13 :: a14 :: a15 :: a16 :: a17 :: a18 :: a19 :: a20 :: a21 :: a22 :: a23 :: a24 :: a25 :: l) 25 c = a0 :: a1 :: a2 :: a3 :: a4 :: a5 :: a6 :: a7 :: a8 :: a9 :: a10 :: a11 :: a12 :: a13 :: a14 :: a15 :: a16 :: a17 :: a18 :: a19 :: a20 :: a21 :: a22 :: a23 :: a24 :: c :: l := rfl
theorem rg25 {a0 a1 a2 a3 a4 a5 a6 a7 a8 a9 a10 a11 a12 a13 a14 a15 a16 a17 a18 a19 a20 a21 a22 a23 a24 a25 : C} {l : Rho} : rget (a0 :: a1 :: a2 :: a3 :: a4 :: a5 :: a6 :: a7 :: a8 :: a9 :: a10 :: a11 :: a12 :: a13 :: a14 :: a15 :: a16 :: a17 :: a18 :: a19 :: a20 :: a21 :: a22 :: a23 :: a24 :: a25 :: l) 25 = a25 := rfl
theorem rs26 {a0 a1 a2 a3 a4 a5 a6 a7 a8 a9 a10 a11 a12 a13 a14 a15 a16 a17 a18 a19 a20 a21 a22 a23 a24 a25 a26 c : C} {l : Rho} : rset (a0 :: a1 :: a2 :: a3 :: a4 :: a5 :: a6 :: a7 :: a8 :: a9 :: a10 :: a11 :: a12 :: a13 :: a14 :: a15 :: a16 :: a17 :: a18 :: a19 :: a20 :: a21 :: a22 :: a23 :: a24 :: a25 :: a26 :: l) 26 c = a0 :: a1 :: a2 :: a3 :: a4 :: a5 :: a6 :: a7 :: a8 :: a9 :: a10 :: a11 :: a12 :: a13 :: a14 :: a15 :: a16 :: a17 :: a18 :: a19 :: a20 :: a21 :: a22 :: a23 :: a24 :: a25 :: c :: l := rfl
theorem rg26 {a0 a1 a2 a3 a4 a5 a6 a7 a8 a9 a10 a11 a12 a13 a14 a15 a16 a17 a18 a19 a20 a21 a22 a23 a24 a25 a26 : C} {l : Rho} : rget (a0 :: a1 :: a2 :: a3 :: a4 :: a5 :: a6 :: a7 :: a8 :: a9 :: a10 :: a11 :: a12 :: a13 :: a14 :: a15 :: a16 :: a17 :: a18 :: a19 :: a20 :: a21 :: a22 :: a23 :: a24 :: a25 :: a26 :: l) 26 = a26 := rfl
theorem rs27 {a0 a1 a2 a3 a4 a5 a6 a7 a8 a9 a10 a11 a12 a13 a14 a15 a16 a17 a18 a19 a20 a21 a22 a23 a24 a25 a26 a27 c : C} {l : Rho} : rset (a0 :: a1 :: a2 :: a3 :: a4 :: a5 :: a6 :: a7 :: a8 :: a9 :: a10 :: a11 :: a12 :: a13 :: a14 :: a15 :: a16 :: a17 :: a18 :: a19 :: a20 :: a21 :: a22 :: a23 :: a24 :: a25 :: a26 :: a27 :: l) 27 c = a0 :: a1 :: a2 :: a3 :: a4 :: a5 :: a6 :: a7 :: a8 :: a9 :: a10 :: a11 :: a12 :: a13 :: a14 :: a15 :: a16 :: a17 :: a18 :: a19 :: a20 :: a21 :: a22 :: a23 :: a24 :: a25 :: a26 :: c :: l := rfl
theorem rg27 {a0 a1 a2 a3 a4 a5 a6 a7 a8 a9 a10 a11 a12 a13 a14 a15 a16 a17 a18 a19 a20 a21 a22 a23 a24 a25 a26 a27 : C} {l : Rho} : rget (a0 :: a1 :: a2 :: a3 :: a4 :: a5 :: a6 :: a7 :: a8 :: a9 :: a10 :: a11 :: a12 :: a13 :: a14 :: a15 :: a16 :: a17 :: a18 :: a19 :: a20 :: a21 :: a22 :: a23 :: a24 :: a25 :: a26 :: a27 :: l) 27 = a27 := rfl
theorem rs28 {a0 a1 a2 a3 a4 a5 a6 a7 a8 a9 a10 a11 a12 a13 a14 a15 a16 a17 a18 a19 a20 a21 a22 a23 a24 a25 a26 a27 a28 c : C} {l : Rho} : rset (a0 :: a1 :: a2 :: a3 :: a4 :: a5 :: a6 :: a7 :: a8 :: a9 :: a10 :: a11 :: a12 :: a13 :: a14 :: a15 :: a16 :: a17 :: a18 :: a19 :: a20 :: a21 :: a22 :: a23 :: a24 :: a25 :: a26 :: a27 :: a28 :: l) 28 c = a0 :: a1 :: a2 :: a3 :: a4 :: a5 :: a6 :: a7 :: a8 :: a9 :: a10 :: a11 :: a12 :: a13 :: a14 :: a15 :: a16 :: a17 :: a18 :: a19 :: a20 :: a21 :: a22 :: a23 :: a24 :: a25 :: a26 :: a27 :: c :: l := rfl
theorem rg28 {a0 a1 a2 a3 a4 a5 a6 a7 a8 a9 a10 a11 a12 a13 a14 a15 a16 a17 a18 a19 a20 a21 a22 a23 a24 a25 a26 a27 a28 : C} {l : Rho} : rget (a0 :: a1 :: a2 :: a3 :: a4 :: a5 :: a6 :: a7 :: a8 :: a9 :: a10 :: a11 :: a12 :: a13 :: a14 :: a15 :: a16 :: a17 :: a18 :: a19 :: a20 :: a21 :: a22 :: a23 :: a24 :: a25 :: a26 :: a27 :: a28 :: l) 28 = a28 := rfl
theorem rs29 {a0 a1 a2 a3 a4 a5 a6 a7 a8 a9 a10 a11 a12 a13 a14 a15 a16 a17 a18 a19 a20 a21 a22 a23 a24 a25 a26 a27 a28 a29 c : C} {l : Rho} : rset (a0 :: a1 :: a2 :: a3 :: a4 :: a5 :: a6 :: a7 :: a8 :: a9 :: a10 :: a11 :: a12 :: a13 :: a14 :: a15 :: a16 :: a17 :: a18 :: a19 :: a20 :: a21 :: a22 :: a23 :: a24 :: a25 :: a26 :: a27 :: a28 :: a29 :: l) 29 c = a0 :: a1 :: a2 :: a3 :: a4 :: a5 :: a6 :: a7 :: a8 :: a9 :: a10 :: a11 :: a12 :: a13 :: a14 :: a15 :: a16 :: a17 :: a18 :: a19 :: a20 :: a21 :: a22 :: a23 :: a24 :: a25 :: a26 :: a27 :: a28 :: c :: l := rfl
theorem rg29 {a0 a1 a2 a3 a4 a5 a6 a7 a8 a9 a10 a11 a12 a13 a14 a15 a16 a17 a18 a19 a20 a21 a22 a23 a24 a25 a26 a27 a28 a29 : C} {l : Rho} : rget (a0 :: a1 :: a2 :: a3 :: a4 :: a5 :: a6 :: a7 :: a8 :: a9 :: a10 :: a11 :: a12 :: a13 :: a14 :: a15 :: a16 :: a17 :: a18 :: a19 :: a20 :: a21 :: a22 :: a23 :: a24 :: a25 :: a26 :: a27 :: a28 :: a29 :: l) 29 = a29 := rfl
theorem rs30 {a0 a1 a2 a3 a4 a5 a6 a7 a8 a9 a10 a11 a12 a13 a14 a15 a16 a17 a18 a19 a20 a21 a22 a23 a24 a25 a26 a27 a28 a29 a30 c : C} {l : Rho} : rset (a0 :: a1 :: a2 :: a3 :: a4 :: a5 :: a6 :: a7 :: a8 :: a9 :: a10 :: a11 :: a12 :: a13 :: a14 :: a15 :: a16 :: a17 :: a18 :: a19 :: a20 :: a21 :: a22 :: a23 :: a24 :: a25 :: a26 :: a27 :: a28 :: a29 :: a30 :: l) 30 c = a0 :: a1 :: a2 :: a3 :: a4 :: a5 :: a6 :: a7 :: a8 :: a9 :: a10 :: a11 :: a12 :: a13 :: a14 :: a15 :: a16 :: a17 :: a18 :: a19 :: a20 :: a21 :: a22 :: a23 :: a24 :: a25 :: a26 :: a27 :: a28 :: a29 :: c :: l := rfl
theorem rg30 {a0 a1 a2 a3 a4 a5 a6 a7 a8 a9 a10 a11 a12 a13 a14 a15 a16 a17 a18 a19 a20 a21 a22 a23 a24 a25 a26 a27 a28 a29 a30 : C} {l : Rho} : rget (a0 :: a1 :: a2 :: a3 :: a4 :: a5 :: a6 :: a7 :: a8 :: a9 :: a10 :: a11 :: a12 :: a13 :: a14 :: a15 :: a16 :: a17 :: a18 :: a19 :: a20 :: a21 :: a22 :: a23 :: a24 :: a25 :: a26 :: a27 :: a28 :: a29 :: a30 :: l) 30 = a30 := rfl
theorem rs31 {a0 a1 a2 a3 a4 a5 a6 a7 a8 a9 a10 a11 a12 a13 a14 a15 a16 a17 a18 a19 a20 a21 a22 a23 a24 a25 a26 a27 a28 a29 a30 a31 c : C} {l : Rho} : rset (a0 :: a1 :: a2 :: a3 :: a4 :: a5 :: a6 :: a7 :: a8 :: a9 :: a10 :: a11 :: a12 :: a13 :: a14 :: a15 :: a16 :: a17 :: a18 :: a19 :: a20 :: a21 :: a22 :: a23 :: a24 :: a25 :: a26 :: a27 :: a28 :: a29 :: a30 :: a31 :: l) 31 c = a0 :: a1 :: a2 :: a3 :: a4 :: a5 :: a6 :: a7 :: a8 :: a9 :: a10 :: a11 :: a12 :: a13 :: a14 :: a15 :: a16 :: a17 :: a18 :: a19 :: a20 :: a21 :: a22 :: a23 :: a24 :: a25 :: a26 :: a27 :: a28 :: a29 :: a30 :: c :: l := rfl
theorem rg31 {a0 a1 a2 a3 a4 a5 a6 a7 a8 a9 a10 a11 a12 a13 a14 a15 a16 a17 a18 a19 a20 a21 a22 a23 a24 a25 a26 a27 a28 a29 a30 a31 : C} {l : Rho} : rget (a0 :: a1 :: a2 :: a3 :: a4 :: a5 :: a6 :: a7 :: a8 :: a9 :: a10 :: a11 :: a12 :: a13 :: a14 :: a15 :: a16 :: a17 :: a18 :: a19 :: a20 :: a21 :: a22 :: a23 :: a24 :: a25 :: a26 :: a27 :: a28 :: a29 :: a30 :: a31 :: l) 31 = a31 := rfl
theorem rs32 {a0 a1 a2 a3 a4 a5 a6 a7 a8 a9 a10 a11 a12 a13 a14 a15 a16 a17 a18 a19 a20 a21 a22 a23 a24 a25 a26 a27 a28 a29 a30 a31 a32 c : C} {l : Rho} : rset (a0 :: a1 :: a2 :: a3 :: a4 :: a5 :: a6 :: a7 :: a8 :: a9 :: a10 :: a11 :: a12 :: a13 :: a14 :: a15 :: a16 :: a17 :: a18 :: a19 :: a20 :: a21 :: a22 :: a23 :: a24 :: a25 :: a26 :: a27 :: a28 :: a29 :: a30 :: a31 :: a32 :: l) 32 c = a0 :: a1 :: a2 :: a3 :: a4 :: a5 :: a6 :: a7 :: a8 :: a9 :: a10 :: a11 :: a12 :: a13 :: a14 :: a15 :: a16 :: a17 :: a18 :: a19 :: a20 :: a21 :: a22 :: a23 :: a24 :: a25 :: a26 :: a27 :: a28 :: a29 :: a30 :: a31 :: c :: l := rfl
theorem rg32 {a0 a1 a2 a3 a4 a5 a6 a7 a8 a9 a10 a11 a12 a13 a14 a15 a16 a17 a18 a19 a20 a21 a22 a23 a24 a25 a26 a27 a28 a29 a30 a31 a32 : C} {l : Rho} : rget (a0 :: a1 :: a2 :: a3 :: a4 :: a5 :: a6 :: a7 :: a8 :: a9 :: a10 :: a11 :: a12 :: a13 :: a14 :: a15 :: a16 :: a17 :: a18 :: a19 :: a20 :: a21 :: a22 :: a23 :: a24 :: a25 :: a26 :: a27 :: a28 :: a29 :: a30 :: a31 :: a32 :: l) 32 = a32 := rfl
theorem rs33 {a0 a1 a2 a3 a4 a5 a6 a7 a8 a9 a10 a11 a12 a13 a14 a15 a16 a17 a18 a19 a20 a21 a22 a23 a24 a25 a26 a27 a28 a29 a30 a31 a32 a33 c : C} {l : Rho} : rset (a0 :: a1 :: a2 :: a3 :: a4 :: a5 :: a6 :: a7 :: a8 :: a9 :: a10 :: a11 :: a12 :: a13 :: a14 :: a15 :: a16 :: a17 :: a18 :: a19 :: a20 :: a21 :: a22 :: a23 :: a24 :: a25 :: a26 :: a27 :: a28 :: a29 :: a30 :: a31 :: a32 :: a33 :: l) 33 c = a0 :: a1 :: a2 :: a3 :: a4 :: a5 :: a6 :: a7 :: a8 :: a9 :: a10 :: a11 :: a12 :: a13 :: a14 :: a15 :: a16 :: a17 :: a18 :: a19 :: a20 :: a21 :: a22 :: a23 :: a24 :: a25 :: a26 :: a27 :: a28 :: a29 :: a30 :: a31 :: a32 :: c :: l := rfl
theorem rg33 {a0 a1 a2 a3 a4 a5 a6 a7 a8 a9 a10 a11 a12 a13 a14 a15 a16 a17 a18 a19 a20 a21 a22 a23 a24 a25 a26 a27 a28 a29 a30 a31 a32 a33 : C} {l : Rho} : rget (a0 :: a1 :: a2 :: a3 :: a4 :: a5 :: a6 :: a7 :: a8 :: a9 :: a10 :: a11 :: a12 :: a13 :: a14 :: a15 :: a16 :: a17 :: a18 :: a19 :: a20 :: a21 :: a22 :: a23 :: a24 :: a25 :: a26 :: a27 :: a28 :: a29 :: a30 :: a31 :: a32 :: a33 :: l) 33 = a33 := rfl
theorem rs34 {a0 a1 a2 a3 a4 a5 a6 a7 a8 a9 a10 a11 a12 a13 a14 a15 a16 a17 a18 a19 a20 a21 a22 a23 a24 a25 a26 a27 a28 a29 a30 a31 a32 a33 a34 c : C} {l : Rho} : rset (a0 :: a1 :: a2 :: a3 :: a4 :: a5 :: a6 :: a7 :: a8 :: a9 :: a10 :: a11 :: a12 :: a13 :: a14 :: a15 :: a16 :: a17 :: a18 :: a19 :: a20 :: a21 :: a22 :: a23 :: a24 :: a25 :: a26 :: a27 :: a28 :: a29 :: a30 :: a31 :: a32 :: a33 :: a34 :: l) 34 c = a0 :: a1 :: a2 :: a3 :: a4 :: a5 :: a6 :: a7 :: a8 :: a9 :: a10 :: a11 :: a12 :: a13 :: a14 :: a15 :: a16 :: a17 :: a18 :: a19 :: a20 :: a21 :: a22 :: a23 :: a24 :: a25 :: a26 :: a27 :: a28 :: a29 :: a30 :: a31 :: a32 :: a33 :: c :: l := rfl
theorem rg34 {a0 a1 a2 a3 a4 a5 a6 a7 a8 a9 a10 a11 a12 a13 a14 a15 a16 a17 a18 a19 a20 a21 a22 a23 a24 a25 a26 a27 a28 a29 a30 a31 a32 a33 a34 : C} {l : Rho} : rget (a0 :: a1 :: a2 :: a3 :: a4 :: a5 :: a6 :: a7 :: a8 :: a9 :: a10 :: a11 :: a12 :: a13 :: a14 :: a15 :: a16 :: a17 :: a18 :: a19 :: a20 :: a21 :: a22 :: a23 :: a24 :: a25 :: a26 :: a27 :: a28 :: a29 :: a30 :: a31 :: a32 :: a33 :: a34 :: l) 34 = a34 := rfl
theorem rs35 {a0 a1 a2 a3 a4 a5 a6 a7 a8 a9 a10 a11 a12 a13 a14 a15 a16 a17 a18 a19 a20 a21 a22 a23 a24 a25 a26 a27 a28 a29 a30 a31 a32 a33 a34 a35 c : C} {l : Rho} : rset (a0 :: a1 :: a2 :: a3 :: a4 :: a5 :: a6 :: a7 :: a8 :: a9 :: a10 :: a11 :: a12 :: a13 :: a14 :: a15 :: a16 :: a17 :: a18 :: a19 :: a20 :: a21 :: a22 :: a23 :: a24 :: a25 :: a26 :: a27 :: a28 :: a29 :: a30 :: a31 :: a32 :: a33 :: a34 :: a35 :: l) 35 c = a0 :: a1 :: a2 :: a3 :: a4 :: a5 :: a6 :: a7 :: a8 :: a9 :: a10 :: a11 :: a12 :: a13 :: a14 :: a15 :: a16 :: a17 :: a18 :: a19 :: a20 :: a21 :: a22 :: a23 :: a24 :: a25 :: a26 :: a27 :: a28 :: a29 :: a30 :: a31 :: a32 :: a33 :: a34 :: c :: l := rfl
theorem rg35 {a0 a1 a2 a3 a4 a5 a6 a7 a8 a9 a10 a11 a12 a13 a14 a15 a16 a17 a18 a19 a20 a21 a22 a23 a24 a25 a26 a27 a28 a29 a30 a31 a32 a33 a34 a35 : C} {l : Rho} : rget (a0 :: a1 :: a2 :: a3 :: a4 :: a5 :: a6 :: a7 :: a8 :: a9 :: a10 :: a11 :: a12 :: a13 :: a14 :: a15 :: a16 :: a17 :: a18 :: a19 :: a20 :: a21 :: a22 :: a23 :: a24 :: a25 :: a26 :: a27 :: a28 :: a29 :: a30 :: a31 :: a32 :: a33 :: a34 :: a35 :: l) 35 = a35 := rfl
theorem rs36 {a0 a1 a2 a3 a4 a5 a6 a7 a8 a9 a10 a11 a12 a13 a14 a15 a16 a17 a18 a19 a20 a21 a22 a23 a24 a25 a26 a27 a28 a29 a30 a31 a32 a33 a34 a35 a36 c : C} {l : Rho} : rset (a0 :: a1 :: a2 :: a3 :: a4 :: a5 :: a6 :: a7 :: a8 :: a9 :: a10 :: a11 :: a12 :: a13 :: a14 :: a15 :: a16 :: a17 :: a18 :: a19 :: a20 :: a21 :: a22 :: a23 :: a24 :: a25 :: a26 :: a27 :: a28 :: a29 :: a30 :: a31 :: a32 :: a33 :: a34 :: a35 :: a36 :: l) 36 c = a0 :: a1 :: a2 :: a3 :: a4 :: a5 :: a6 :: a7 :: a8 :: a9 :: a10 :: a11 :: a12 :: a13 :: a14 :: a15 :: a16 :: a17 :: a18 :: a19 :: a20 :: a21 :: a22 :: a23 :: a24 :: a25 :: a26 :: a27 :: a28 :: a29 :: a30 :: a31 :: a32 :: a33 :: a34 :: a35 :: c :: l := rfl
theorem rg36 {a0 a1 a2 a3 a4 a5 a6 a7 a8 a9 a10 a11 a12 a13 a14 a15 a16 a17 a18 a19 a20 a21 a22 a23 a24 a25 a26 a27 a28 a29 a30 a31 a32 a33 a34 a35 a36 : C} {l : Rho} : rget (a0 :: a1 :: a2 :: a3 :: a4 :: a5 :: a6 :: a7 :: a8 :: a9 :: a10 :: a11 :: a12 :: a13 :: a14 :: a15 :: a16 :: a17 :: a18 :: a19 :: a20 :: a21 :: a22 :: a23 :: a24 :: a25 :: a26 :: a27 :: a28 :: a29 :: a30 :: a31 :: a32 :: a33 :: a34 :: a35 :: a36 :: l) 36 = a36 := rfl
theorem rs37 {a0 a1 a2 a3 a4 a5 a6 a7 a8 a9 a10 a11 a12 a13 a14 a15 a16 a17 a18 a19 a20 a21 a22 a23 a24 a25 a26 a27 a28 a29 a30 a31 a32 a33 a34 a35 a36 a37 c : C} {l : Rho} : rset (a0 :: a1 :: a2 :: a3 :: a4 :: a5 :: a6 :: a7 :: a8 :: a9 :: a10 :: a11 :: a12 :: a13 :: a14 :: a15 :: a16 :: a17 :: a18 :: a19 :: a20 :: a21 :: a22 :: a23 :: a24 :: a25 :: a26 :: a27 :: a28 :: a29 :: a30 :: a31 :: a32 :: a33 :: a34 :: a35 :: a36 :: a37 :: l) 37 c = a0 :: a1 :: a2 :: a3 :: a4 :: a5 :: a6 :: a7 :: a8 :: a9 :: a10 :: a11 :: a12 :: a13 :: a14 :: a15 :: a16 :: a17 :: a18 :: a19 :: a20 :: a21 :: a22 :: a23 :: a24 :: a25 :: a26 :: a27 :: a28 :: a29 :: a30 :: a31 :: a32 :: a33 :: a34 :: a35 :: a36 :: c :: l := rfl
theorem rg37 {a0 a1 a2 a3 a4 a5 a6 a7 a8 a9 a10 a11 a12 a13 a14 a15 a16 a17 a18 a19 a20 a21 a22 a23 a24 a25 a26 a27 a28 a29 a30 a31 a32 a33 a34 a35 a36 a37 : C} {l : Rho} : rget (a0 :: a1 :: a2 :: a3 :: a4 :: a5 :: a6 :: a7 :: a8 :: a9 :: a10 :: a11 :: a12 :: a13 :: a14 :: a15 :: a16 :: a17 :: a18 :: a19 :: a20 :: a21 :: a22 :: a23 :: a24 :: a25 :: a26 :: a27 :: a28 :: a29 :: a30 :: a31 :: a32 :: a33 :: a34 :: a35 :: a36 :: a37 :: l) 37 = a37 := rfl
theorem rs38 {a0 a1 a2 a3 a4 a5 a6 a7 a8 a9 a10 a11 a12 a13 a14 a15 a16 a17 a18 a19 a20 a21 a22 a23 a24 a25 a26 a27 a28 a29 a30 a31 a32 a33 a34 a35 a36 a37 a38 c : C} {l : Rho} : rset (a0 :: a1 :: a2 :: a3 :: a4 :: a5 :: a6 :: a7 :: a8 :: a9 :: a10 :: a11 :: a12 :: a13 :: a14 :: a15 :: a16 :: a17 :: a18 :: a19 :: a20 :: a21 :: a22 :: a23 :: a24 :: a25 :: a26 :: a27 :: a28 :: a29 :: a30 :: a31 :: a32 :: a33 :: a34 :: a35 :: a36 :: a37 :: a38 :: l) 38 c = a0 :: a1 :: a2 :: a3 :: a4 :: a5 :: a6 :: a7 :: a8 :: a9 :: a10 :: a11 :: a12 :: a13 :: a14 :: a15 :: a16 :: a17 :: a18 :: a19 :: a20 :: a21 :: a22 :: a23 :: a24 :: a25 :: a26 :: a27 :: a28 :: a29 :: a30 :: a31 :: a32 :: a33 :: a34 :: a35 :: a36 :: a37 :: c :: l := rfl
theorem rg38 {a0 a1 a2 a3 a4 a5 a6 a7 a8 a9 a10 a11 a12 a13 a14 a15 a16 a17 a18 a19 a20 a21 a22 a23 a24 a25 a26 a27 a28 a29 a30 a31 a32 a33 a34 a35 a36 a37 a38 : C} {l : Rho} : rget (a0 :: a1 :: a2 :: a3 :: a4 :: a5 :: a6 :: a7 :: a8 :: a9 :: a10 :: a11 :: a12 :: a13 :: a14 :: a15 :: a16 :: a17 :: a18 :: a19 :: a20 :: a21 :: a22 :: a23 :: a24 :: a25 :: a26 :: a27 :: a28 :: a29 :: a30 :: a31 :: a32 :: a33 :: a34 :: a35 :: a36 :: a37 :: a38 :: l) 38 = a38 := rfl
theorem rs39 {a0 a1 a2 a3 a4 a5 a6 a7 a8 a9 a10 a11 a12 a13 a14 a15 a16 a17 a18 a19 a20 a21 a22 a23 a24 a25 a26 a27 a28 a29 a30 a31 a32 a33 a34 a35 a36 a37 a38 a39 c : C} {l : Rho} : rset (a0 :: a1 :: a2 :: a3 :: a4 :: a5 :: a6 :: a7 :: a8 :: a9 :: a10 :: a11 :: a12 :: a13 :: a14 :: a15 :: a16 :: a17 :: a18 :: a19 :: a20 :: a21 :: a22 :: a23 :: a24 :: a25 :: a26 :: a27 :: a28 :: a29 :: a30 :: a31 :: a32 :: a33 :: a34 :: a35 :: a36 :: a37 :: a38 :: a39 :: l) 39 c = a0 :: a1 :: a2 :: a3 :: a4 :: a5 :: a6 :: a7 :: a8 :: a9 :: a10 :: a11 :: a12 :: a13 :: a14 :: a15 :: a16 :: a17 :: a18 :: a19 :: a20 :: a21 :: a22 :: a23 :: a24 :: a25 :: a26 :: a27 :: a28 :: a29 :: a30 :: a31 :: a32 :: a33 :: a34 :: a35 :: a36 :: a37 :: a38 :: c :: l := rfl
theorem rg39 {a0 a1 a2 a3 a4 a5 a6 a7 a8 a9 a10 a11 a12 a13 a14 a15 a16 a17 a18 a19 a20 a21 a22 a23 a24 a25 a26 a27 a28 a29 a30 a31 a32 a33 a34 a35 a36 a37 a38 a39 : C} {l : Rho} : rget (a0 :: a1 :: a2 :: a3 :: a4 :: a5 :: a6 :: a7 :: a8 :: a9 :: a10 :: a11 :: a12 :: a13 :: a14 :: a15 :: a16 :: a17 :: a18 :: a19 :: a20 :: a21 :: a22 :: a23 :: a24 :: a25 :: a26 :: a27 :: a28 :: a29 :: a30 :: a31 :: a32 :: a33 :: a34 :: a35 :: a36 :: a37 :: a38 :: a39 :: l) 39 = a39 := rfl
theorem rs40 {a0 a1 a2 a3 a4 a5 a6 a7 a8 a9 a10 a11 a12 a13 a14 a15 a16 a17 a18 a19 a20 a21 a22 a23 a24 a25 a26 a27 a28 a29 a30 a31 a32 a33 a34 a35 a36 a37 a38 a39 a40 c : C} {l : Rho} : rset (a0 :: a1 :: a2 :: a3 :: a4 :: a5 :: a6 :: a7 :: a8 :: a9 :: a10 :: a11 :: a12 :: a13 :: a14 :: a15 :: a16 :: a17 :: a18 :: a19 :: a20 :: a21 :: a22 :: a23 :: a24 :: a25 :: a26 :: a27 :: a28 :: a29 :: a30 :: a31 :: a32 :: a33 :: a34 :: a35 :: a36 :: a37 :: a38 :: a39 :: a40 :: l) 40 c = a0 :: a1 :: a2 :: a3 :: a4 :: a5 :: a6 :: a7 :: a8 :: a9 :: a10 :: a11 :: a12 :: a13 :: a14 :: a15 :: a16 :: a17 :: a18 :: a19 :: a20 :: a21 :: a22 :: a23 :: a24 :: a25 :: a26 :: a27 :: a28 :: a29 :: a30 :: a31 :: a32 :: a33 :: a34 :: a35 :: a36 :: a37 :: a38 :: a39 :: c :: l := rfl
theorem rg40 {a0 a1 a2 a3 a4 a5 a6 a7 a8 a9 a10 a11 a12 a13 a14 a15 a16 a17 a18 a19 a20 a21 a22 a23 a24 a25 a26 a27 a28 a29 a30 a31 a32 a33 a34 a35 a36 a37 a38 a39 a40 : C} {l : Rho} : rget (a0 :: a1 :: a2 :: a3 :: a4 :: a5 :: a6 :: a7 :: a8 :: a9 :: a10 :: a11 :: a12 :: a13 :: a14 :: a15 :: a16 :: a17 :: a18 :: a19 :: a20 :: a21 :: a22 :: a23 :: a24 :: a25 :: a26 :: a27 :: a28 :: a29 :: a30 :: a31 :: a32 :: a33 :: a34 :: a35 :: a36 :: a37 :: a38 :: a39 :: a40 :: l) 40 = a40 := rfl
theorem rs41 {a0 a1 a2 a3 a4 a5 a6 a7 a8 a9 a10 a11 a12 a13 a14 a15 a16 a17 a18 a19 a20 a21 a22 a23 a24 a25 a26 a27 a28 a29 a30 a31 a32 a33 a34 a35 a36 a37 a38 a39 a40 a41 c : C} {l : Rho} : rset (a0 :: a1 :: a2 :: a3 :: a4 :: a5 :: a6 :: a7 :: a8 :: a9 :: a10 :: a11 :: a12 :: a13 :: a14 :: a15 :: a16 :: a17 :: a18 :: a19 :: a20 :: a21 :: a22 :: a23 :: a24 :: a25 :: a26 :: a27 :: a28 :: a29 :: a30 :: a31 :: a32 :: a33 :: a34 :: a35 :: a36 :: a37 :: a38 :: a39 :: a40 :: a41 :: l) 41 c = a0 :: a1 :: a2 :: a3 :: a4 :: a5 :: a6 :: a7 :: a8 :: a9 :: a10 :: a11 :: a12 :: a13 :: a14 :: a15 :: a16 :: a17 :: a18 :: a19 :: a20 :: a21 :: a22 :: a23 :: a24 :: a25 :: a26 :: a27 :: a28 :: a29 :: a30 :: a31 :: a32 :: a33 :: a34 :: a35 :: a36 :: a37 :: a38 :: a39 :: a40 :: c :: l := rfl
theorem rg41 {a0 a1 a2 a3 a4 a5 a6 a7 a8 a9 a10 a11 a12 a13 a14 a15 a16 a17 a18 a19 a20 a21 a22 a23 a24 a25 a26 a27 a28 a29 a30 a31 a32 a33 a34 a35 a36 a37 a38 a39 a40 a41 : C} {l : Rho} : rget (a0 :: a1 :: a2 :: a3 :: a4 :: a5 :: a6 :: a7 :: a8 :: a9 :: a10 :: a11 :: a12 :: a13 :: a14 :: a15 :: a16 :: a17 :: a18 :: a19 :: a20 :: a21 :: a22 :: a23 :: a24 :: a25 :: a26 :: a27 :: a28 :: a29 :: a30 :: a31 :: a32 :: a33 :: a34 :: a35 :: a36 :: a37 :: a38 :: a39 :: a40 :: a41 :: l) 41 = a41 := rfl
theorem rs42 {a0 a1 a2 a3 a4 a5 a6 a7 a8 a9 a10 a11 a12 a13 a14 a15 a16 a17 a18 a19 a20 a21 a22 a23 a24 a25 a26 a27 a28 a29 a30 a31 a32 a33 a34 a35 a36 a37 a38 a39 a40 a41 a42 c : C} {l : Rho} : rset (a0 :: a1 :: a2 :: a3 :: a4 :: a5 :: a6 :: a7 :: a8 :: a9 :: a10 :: a11 :: a12 :: a13 :: a14 :: a15 :: a16 :: a17 :: a18 :: a19 :: a20 :: a21 :: a22 :: a23 :: a24 :: a25 :: a26 :: a27 :: a28 :: a29 :: a30 :: a31 :: a32 :: a33 :: a34 :: a35 :: a36 :: a37 :: a38 :: a39 :: a40 :: a41 :: a42 :: l) 42 c = a0 :: a1 :: a2 :: a3 :: a4 :: a5 :: a6 :: a7 :: a8 :: a9 :: a10 :: a11 :: a12 :: a13 :: a14 :: a15 :: a16 :: a17 :: a18 :: a19 :: a20 :: a21 :: a22 :: a23 :: a24 :: a25 :: a26 :: a27 :: a28 :: a29 :: a30 :: a31 :: a32 :: a33 :: a34 :: a35 :: a36 :: a37 :: a38 :: a39 :: a40 :: a41 :: c :: l := rfl
theorem rg42 {a0 a1 a2 a3 a4 a5 a6 a7 a8 a9 a10 a11 a12 a13 a14 a15 a16 a17 a18 a19 a20 a21 a22 a23 a24 a25 a26 a27 a28 a29 a30 a31 a32 a33 a34 a35 a36 a37 a38 a39 a40 a41 a42 : C} {l : Rho} : rget (a0 :: a1 :: a2 :: a3 :: a4 :: a5 :: a6 :: a7 :: a8 :: a9 :: a10 :: a11 :: a12 :: a13 :: a14 :: a15 :: a16 :: a17 :: a18 :: a19 :: a20 :: a21 :: a22 :: a23 :: a24 :: a25 :: a26 :: a27 :: a28 :: a29 :: a30 :: a31 :: a32 :: a33 :: a34 :: a35 :: a36 :: a37 :: a38 :: a39 :: a40 :: a41 :: a42 :: l) 42 = a42 := rfl
theorem rs43 {a0 a1 a2 a3 a4 a5 a6 a7 a8 a9 a10 a11 a12 a13 a14 a15 a16 a17 a18 a19 a20 a21 a22 a23 a24 a25 a26 a27 a28 a29 a30 a31 a32 a33 a34 a35 a36 a37 a38 a39 a40 a41 a42 a43 c : C} {l : Rho} : rset (a0 :: a1 :: a2 :: a3 :: a4 :: a5 :: a6 :: a7 :: a8 :: a9 :: a10 :: a11 :: a12 :: a13 :: a14 :: a15 :: a16 :: a17 :: a18 :: a19 :: a20 :: a21 :: a22 :: a23 :: a24 :: a25 :: a26 :: a27 :: a28 :: a29 :: a30 :: a31 :: a32 :: a33 :: a34 :: a35 :: a36 :: a37 :: a38 :: a39 :: a40 :: a41 :: a42 :: a43 :: l) 43 c = a0 :: a1 :: a2 :: a3 :: a4 :: a5 :: a6 :: a7 :: a8 :: a9 :: a10 :: a11 :: a12 :: a13 :: a14 :: a15 :: a16 :: a17 :: a18 :: a19 :: a20 :: a21 :: a22 :: a23 :: a24 :: a25 :: a26 :: a27 :: a28 :: a29 :: a30 :: a31 :: a32 :: a33 :: a34 :: a35 :: a36 :: a37 :: a38 :: a39 :: a40 :: a41 :: a42 :: c :: l := rfl
theorem rg43 {a0 a1 a2 a3 a4 a5 a6 a7 a8 a9 a10 a11 a12 a13 a14 a15 a16 a17 a18 a19 a20 a21 a22 a23 a24 a25 a26 a27 a28 a29 a30 a31 a32 a33 a34 a35 a36 a37 a38 a39 a40 a41 a42 a43 : C} {l : Rho} : rget (a0 :: a1 :: a2 :: a3 :: a4 :: a5 :: a6 :: a7 :: a8 :: a9 :: a10 :: a11 :: a12 :: a13 :: a14 :: a15 :: a16 :: a17 :: a18 :: a19 :: a20 :: a21 :: a22 :: a23 :: a24 :: a25 :: a26 :: a27 :: a28 :: a29 :: a30 :: a31 :: a32 :: a33 :: a34 :: a35 :: a36 :: a37 :: a38 :: a39 :: a40 :: a41 :: a42 :: a43 :: l) 43 = a43 := rfl
theorem rs44 {a0 a1 a2 a3 a4 a5 a6 a7 a8 a9 a10 a11 a12 a13 a14 a15 a16 a17 a18 a19 a20 a21 a22 a23 a24 a25 a26 a27 a28 a29 a30 a31 a32 a33 a34 a35 a36 a37 a38 a39 a40 a41 a42 a43 a44 c : C} {l : Rho} : rset (a0 :: a1 :: a2 :: a3 :: a4 :: a5 :: a6 :: a7 :: a8 :: a9 :: a10 :: a11 :: a12 :: a13 :: a14 :: a15 :: a16 :: a17 :: a18 :: a19 :: a20 :: a21 :: a22 :: a23 :: a24 :: a25 :: a26 :: a27 :: a28 :: a29 :: a30 :: a31 :: a32 :: a33 :: a34 :: a35 :: a36 :: a37 :: a38 :: a39 :: a40 :: a41 :: a42 :: a43 :: a44 :: l) 44 c = a0 :: a1 :: a2 :: a3 :: a4 :: a5 :: a6 :: a7 :: a8 :: a9 :: a10 :: a11 :: a12 :: a13 :: a14 :: a15 :: a16 :: a17 :: a18 :: a19 :: a20 :: a21 :: a22 :: a23 :: a24 :: a25 :: a26 :: a27 :: a28 :: a29 :: a30 :: a31 :: a32 :: a33 :: a34 :: a35 :: a36 :: a37 :: a38 :: a39 :: a40 :: a41 :: a42 :: a43 :: c :: l := rfl
theorem rg44 {a0 a1 a2 a3 a4 a5 a6 a7 a8 a9 a10 a11 a12 a13 a14 a15 a16 a17 a18 a19 a20 a21 a22 a23 a24 a25 a26 a27 a28 a29 a30 a31 a32 a33 a34 a35 a36 a37 a38 a39 a40 a41 a42 a43 a44 : C} {l : Rho} : rget (a0 :: a1 :: a2 :: a3 :: a4 :: a5 :: a6 :: a7 :: a8 :: a9 :: a10 :: a11 :: a12 :: a13 :: a14 :: a15 :: a16 :: a17 :: a18 :: a19 :: a20 :: a21 :: a22 :: a23 :: a24 :: a25 :: a26 :: a27 :: a28 :: a29 :: a30 :: a31 :: a32 :: a33 :: a34 :: a35 :: a36 :: a37 :: a38 :: a39 :: a40 :: a41 :: a42 :: a43 :: a44 :: l) 44 = a44 := rfl
theorem rs45 {a0 a1 a2 a3 a4 a5 a6 a7 a8 a9 a10 a11 a12 a13 a14 a15 a16 a17 a18 a19 a20 a21 a22 a23 a24 a25 a26 a27 a28 a29 a30 a31 a32 a33 a34 a35 a36 a37 a38 a39 a40 a41 a42 a43 a44 a45 c : C} {l : Rho} : rset (a0 :: a1 :: a2 :: a3 :: a4 :: a5 :: a6 :: a7 :: a8 :: a9 :: a10 :: a11 :: a12 :: a13 :: a14 :: a15 :: a16 :: a17 :: a18 :: a19 :: a20 :: a21 :: a22 :: a23 :: a24 :: a25 :: a26 :: a27 :: a28 :: a29 :: a30 :: a31 :: a32 :: a33 :: a34 :: a35 :: a36 :: a37 :: a38 :: a39 :: a40 :: a41 :: a42 :: a43 :: a44 :: a45 :: l) 45 c = a0 :: a1 :: a2 :: a3 :: a4 :: a5 :: a6 :: a7 :: a8 :: a9 :: a10 :: a11 :: a12 :: a13 :: a14 :: a15 :: a16 :: a17 :: a18 :: a19 :: a20 :: a21 :: a22 :: a23 :: a24 :: a25 :: a26 :: a27 :: a28 :: a29 :: a30 :: a31 :: a32 :: a33 :: a34 :: a35 :: a36 :: a37 :: a38 :: a39 :: a40 :: a41 :: a42 :: a43 :: a44 :: c :: l := rfl
theorem rg45 {a0 a1 a2 a3 a4 a5 a6 a7 a8 a9 a10 a11 a12 a13 a14 a15 a16 a17 a18 a19 a20 a21 a22 a23 a24 a25 a26 a27 a28 a29 a30 a31 a32 a33 a34 a35 a36 a37 a38 a39 a40 a41 a42 a43 a44 a45 : C} {l : Rho} : rget (a0 :: a1 :: a2 :: a3 :: a4 :: a5 :: a6 :: a7 :: a8 :: a9 :: a10 :: a11 :: a12 :: a13 :: a14 :: a15 :: a16 :: a17 :: a18 :: a19 :: a20 :: a21 :: a22 :: a23 :: a24 :: a25 :: a26 :: a27 :: a28 :: a29 :: a30 :: a31 :: a32 :: a33 :: a34 :: a35 :: a36 :: a37 :: a38 :: a39 :: a40 :: a41 :: a42 :: a43 :: a44 :: a45 :: l) 45 = a45 := rfl
theorem rs46 {a0 a1 a2 a3 a4 a5 a6 a7 a8 a9 a10 a11 a12 a13 a14 a15 a16 a17 a18 a19 a20 a21 a22 a23 a24 a25 a26 a27 a28 a29 a30 a31 a32 a33 a34 a35 a36 a37 a38 a39 a40 a41 a42 a43 a44 a45 a46 c : C} {l : Rho} : rset (a0 :: a1 :: a2 :: a3 :: a4 :: a5 :: a6 :: a7 :: a8 :: a9 :: a10 :: a11 :: a12 :: a13 :: a14 :: a15 :: a16 :: a17 :: a18 :: a19 :: a20 :: a21 :: a22 :: a23 :: a24 :: a25 :: a26 :: a27 :: a28 :: a29 :: a30 :: a31 :: a32 :: a33 :: a34 :: a35 :: a36 :: a37 :: a38 :: a39 :: a40 :: a41 :: a42 :: a43 :: a44 :: a45 :: a46 :: l) 46 c = a0 :: a1 :: a2 :: a3 :: a4 :: a5 :: a6 :: a7 :: a8 :: a9 :: a10 :: a11 :: a12 :: a13 :: a14 :: a15 :: a16 :: a17 :: a18 :: a19 :: a20 :: a21 :: a22 :: a23 :: a24 :: a25 :: a26 :: a27 :: a28 :: a29 :: a30 :: a31 :: a32 :: a33 :: a34 :: a35 :: a36 :: a37 :: a38 :: a39 :: a40 :: a41 :: a42 :: a43 :: a44 :: a45 :: c :: l := rfl
theorem rg46 {a0 a1 a2 a3 a4 a5 a6 a7 a8 a9 a10 a11 a12 a13 a14 a15 a16 a17 a18 a19 a20 a21 a22 a23 a24 a25 a26 a27 a28 a29 a30 a31 a32 a33 a34 a35 a36 a37 a38 a39 a40 a41 a42 a43 a44 a45 a46 : C} {l : Rho} : rget (a0 :: a1 :: a2 :: a3 :: a4 :: a5 :: a6 :: a7 :: a8 :: a9 :: a10 :: a11 :: a12 :: a13 :: a14 :: a15 :: a16 :: a17 :: a18 :: a19 :: a20 :: a21 :: a22 :: a23 :: a24 :: a25 :: a26 :: a27 :: a28 :: a29 :: a30 :: a31 :: a32 :: a33 :: a34 :: a35 :: a36 :: a37 :: a38 :: a39 :: a40 :: a41 :: a42 :: a43 :: a44 :: a45 :: a46 :: l) 46 = a46 := rfl
theorem rs47 {a0 a1 a2 a3 a4 a5 a6 a7 a8 a9 a10 a11 a12 a13 a14 a15 a16 a17 a18 a19 a20 a21 a22 a23 a24 a25 a26 a27 a28 a29 a30 a31 a32 a33 a34 a35 a36 a37 a38 a39 a40 a41 a42 a43 a44 a45 a46 a47 c : C} {l : Rho} : rset (a0 :: a1 :: a2 :: a3 :: a4 :: a5 :: a6 :: a7 :: a8 :: a9 :: a10 :: a11 :: a12 :: a13 :: a14 :: a15 :: a16 :: a17 :: a18 :: a19 :: a20 :: a21 :: a22 :: a23 :: a24 :: a25 :: a26 :: a27 :: a28 :: a29 :: a30 :: a31 :: a32 :: a33 :: a34 :: a35 :: a36 :: a37 :: a38 :: a39 :: a40 :: a41 :: a42 :: a43 :: a44 :: a45 :: a46 :: a47 :: l) 47 c = a0 :: a1 :: a2 :: a3 :: a4 :: a5 :: a6 :: a7 :: a8 :: a9 :: a10 :: a11 :: a12 :: a13 :: a14 :: a15 :: a16 :: a17 :: a18 :: a19 :: a20 :: a21 :: a22 :: a23 :: a24 :: a25 :: a26 :: a27 :: a28 :: a29 :: a30 :: a31 :: a32 :: a33 :: a34 :: a35 :: a36 :: a37 :: a38 :: a39 :: a40 :: a41 :: a42 :: a43 :: a44 :: a45 :: a46 :: c :: l := rfl
theorem rg47 {a0 a1 a2 a3 a4 a5 a6 a7 a8 a9 a10 a11 a12 a13 a14 a15 a16 a17 a18 a19 a20 a21 a22 a23 a24 a25 a26 a27 a28 a29 a30 a31 a32 a33 a34 a35 a36 a37 a38 a39 a40 a41 a42 a43 a44 a45 a46 a47 : C} {l : Rho} : rget (a0 :: a1 :: a2 :: a3 :: a4 :: a5 :: a6 :: a7 :: a8 :: a9 :: a10 :: a11 :: a12 :: a13 :: a14 :: a15 :: a16 :: a17 :: a18 :: a19 :: a20 :: a21 :: a22 :: a23 :: a24 :: a25 :: a26 :: a27 :: a28 :: a29 :: a30 :: a31 :: a32 :: a33 :: a34 :: a35 :: a36 :: a37 :: a38 :: a39 :: a40 :: a41 :: a42 :: a43 :: a44 :: a45 :: a46 :: a47 :: l) 47 = a47 := rfl
theorem frz_v {d : D} : frzC (.v d) = .v d := rfl
theorem frz_l {t : Nat} {ds : List D} : frzC (.own t (.lst ds)) = .v (.list ds) := rfl
theorem frz_d {t : Nat} {ks : List (Key × D)} : frzC (.own t (.dct ks)) = .own t (.dct ks) := rfl
theorem retag_o {t t2 : Nat} {o o2 : OD} : retag (.own t o) (.own t2 o2) = .own t o2 := rfl
theorem clr_nil {ρ : Rho} : clr [] ρ = ρ := rfl
theorem clr_cons {i : Nat} {T : List Nat} {ρ : Rho} : clr (i :: T) ρ = rset (clr T ρ) i .no := rfl
theorem back_nil {ρ ρ' : Rho} : back ρ [] ρ' = ρ' := rfl
@[reducible] def keepv : C → C
  | .v d => .v d
  | _ => .no
theorem keepv_v {d : D} : keepv (.v d) = .v d := rfl
theorem keepv_no : keepv .no = .no := rfl
theorem keepv_own {t : Nat} {o : OD} : keepv (.own t o) = .no := rfl
theorem back_cons {i : Nat} {T : List Nat} {ρ ρ' : Rho} : back ρ (i :: T) ρ' = back ρ T (rset ρ' i (keepv (rget ρ i))) := rfl
end DL

set_option Elab.async false
set_option linter.all false
set_option maxRecDepth 100000
set_option maxHeartbeats 4000000
/-! DL: enumerate, zip, reversed, range with a step -/
namespace DL
open PySem PySem.Spec PyProof.Rows L2

/-! ### enumerate of a tuple -/
section
variable {prog : Program} {w : World} {A : Around} {E : Value → Shared → Prop} {s : Shared}
theorem meets_enum1 {v : Value} {o : Obj} {H : Heap → Prop} (B : Begins v o H) :
    Meets (Builtin.«enumerate.__new__» ⟨[.type "enumerate", v], []⟩) (fun _ R s => H s.heap ∧ R (.ok (.ret (.ref (s.heap.push o).objs.size))) { s with heap := (s.heap.push o).push { cls := .type "enumerate", data := .fields #[.none, .bool false, .ref s.heap.objs.size, rawInt 0, .none, .none] } }) :=
  .of_wp fun prog w A R s hh => by
    obtain ⟨hp, g, d, tk, os⟩ := s
    obtain ⟨hb, hr⟩ := hh
    have hsub := sub_enumerate
    have start : ∀ {A' : Around} {E' Q' : Value → Shared → Prop}, Q' (.ref hp.objs.size) ⟨hp.push o, g, d, tk, os⟩ → wpAny (model prog w) A' (pyIter v) Q' E' ⟨hp, g, d, tk, os⟩ := fun q => B.iter prog w _ _ ⟨hp, g, d, tk, os⟩ _ hb q
    wp_walk using start
    refine wpAny_stack_any fun _ => wpAny_pure ?_
    split
    · rename_i c _ _ _ _ _
      cases (c == Value.type "enumerate") <;> (wp_walk using start; exact ⟨_, rfl, hr⟩)
    · wp_walk using start
      exact ⟨_, rfl, hr⟩
theorem call_enum1 {v : Value} {o : Obj} {H : Heap → Prop} {Q : Value → Shared → Prop} (B : Begins v o H) (hb : H s.heap)
    (fin : ∀ h', IsEnum h' (s.heap.objs.size + 1) s.heap.objs.size 0 .none → h'.get? s.heap.objs.size = some o → (∀ b u, s.heap.get? b = some u → h'.get? b = some u) → Q (.ref (s.heap.objs.size + 1)) { s with heap := h' }) :
    wpAny (model prog w) A (call (.type "enumerate") [v]) Q E s := by
  refine callType_new F.called_enumerate (by decide) (F.typeCall_enumerate_1 _) (F.newCall_enumerate_1 _) (fun obj => F.args_object_init_2 obj _) F.entry_enumerate_new (meets_enum1 B) ⟨hb, ?_⟩
  have sz : (s.heap.push o).objs.size = s.heap.objs.size + 1 := Heap.size_push ..
  show _ ∧ _
  rw [sz]
  have en : IsEnum ((s.heap.push o).push { cls := .type "enumerate", data := .fields #[.none, .bool false, .ref s.heap.objs.size, rawInt 0, .none, .none] }) (s.heap.objs.size + 1) s.heap.objs.size 0 .none := by
    have q := Heap.get?_push_size (s.heap.push o) (o := { cls := .type "enumerate", data := .fields #[.none, .bool false, .ref s.heap.objs.size, rawInt 0, .none, .none] }) rfl
    rw [sz] at q
    exact q
  exact ⟨⟨_, en, rfl⟩, fin _ en (Heap.get?_push_of_some _ (Heap.get?_push_size _ B.free)) fun b u q => Heap.get?_push_of_some _ (Heap.get?_push_of_some _ q)⟩
end
/-- the tuple at a, each item in a new pair with its number -/
def IteT (K : PySem.W.Frag) (a : Addr) : It :=
  ⟨fun i H => ∃ (xs : List V) (x : V), SqT K H a xs ∧ xs[i]? = some x, fun i H v H' => ∃ T x, v = .ref T ∧ H T = none ∧ H' = upd H T (.tup [.int (i : Nat), x]) ∧ ∀ xs, SqT K H a xs → xs[i]? = some x, fun i H => ∃ xs : List V, SqT K H a xs ∧ xs.length ≤ i⟩
theorem turn_enumT {P : Program} {w : World} {K : PySem.W.Frag} {elts : List Expr} {kk : Nat} {tpos : Pos} {a e it : Addr} (h1 : e ≠ it) (h2 : e ≠ a) (h3 : a ≠ it) :
    Turn P w K (.Tuple elts kk tpos) (IteT K a) [e, it] e (fun i h => (∃ old, IsEnum h e it ((i : Nat) : Int) old) ∧ h.IsTupleIter it a i) where
  mem := by simp
  obj := fun i h st b hb => by
    obtain ⟨⟨old, he⟩, o, ho, _, hd⟩ := st
    rcases List.mem_cons.mp hb with z | z
    · rw [z]; exact ⟨_, he, fun v q => nomatch q⟩
    · rw [List.mem_singleton.mp z]; exact ⟨o, ho, fun v q => by rw [hd] at q; cases q⟩
  keep := fun i h h' st k => by
    obtain ⟨⟨old, he⟩, hi⟩ := st
    exact ⟨⟨old, k e (by simp) _ he⟩, hi.at fun o q => k it (by simp) o q⟩
  item := by
    intro X eP ew eK hc i pins s σ H E I hf st hg
    subst eP ew eK
    obtain ⟨⟨old, he⟩, hit⟩ := st
    obtain ⟨xs, x, hq, hx⟩ := hg
    obtain ⟨its, rv, pt, _⟩ := I.tuple hq
    obtain ⟨u, hu, ru⟩ := rv.get hx
    have le : e < s.heap.objs.size := Heap.lt_size he
    have li : it < s.heap.objs.size := by obtain ⟨_, q, _⟩ := hit; exact Heap.lt_size q
    have hin : i < its.toArray.size := by
      have := (List.getElem?_eq_some_iff.mp hu).1
      simpa using this
    have D := Draws.tuple (prog := X.prog) (w := X.w) (A := X.A.in1) (I.ok.hd hc) it a h3 its.toArray
    refine wpAny_pyNext_enum_itemC D he ⟨hit, pt⟩ hin h1 (by simp [h1, h2]) fun y h' tk py out st' new _ kp => ?_
    have ey : y = u := by
      have q : its.toArray[i]? = some u := by simpa using hu
      rw [q] at py
      exact (Option.some.inj py).symm
    subst ey
    refine ⟨_, rfl, wpAny_letOwnedTupleGo_enum (s := { s with heap := h', toks := tk + 1 }) out fun h'' he' sb => ?_⟩
    have new2 : h''.get? s.heap.objs.size = some { cls := .type "tuple", data := .seq #[.int i tk, y] } := (sb.2 _ (Nat.ne_of_gt le)).trans new
    have ok : ObjOk X.prog X.w (upd H s.heap.objs.size (.tup [.int (i : Nat), x])) h'' s.heap.objs.size (.tup [.int (i : Nat), x]) :=
      ⟨by show 2 ≤ sizeLine; decide, [.int i tk, y], .cons ⟨_, rfl⟩ (.cons ru .nil), ⟨_, new2, rfl, _, rfl⟩⟩
    have I1 := I.turnedNew (t' := tk + 1) (ch := [e, it]) (h' := h'') (fun b ob hb q => (sb.2 b (fun z => hb (by simp [z]))).trans (kp b ob (fun z => hb (by simp [z])) (fun z => hb (by simp [z])) q)) hf (Nat.le_refl _) ok
    refine ⟨.ref s.heap.objs.size, _, I1, rfl, ⟨_, x, rfl, I.hok.fresh (Nat.le_refl _), rfl, fun ys hy => by rw [I.tuple_inj hy hq]; exact hx⟩, ⟨⟨y, ?_⟩, st'.1.at fun o q => (sb.2 it (Ne.symm h1)).trans q⟩, fun b hb => ?_⟩
    · rw [show ((i + 1 : Nat) : Int) = (i : Int) + 1 by omega]
      exact he'
    · have lb : b < s.heap.objs.size := by
        rcases List.mem_cons.mp hb with z | z
        · rw [z]; exact le
        · rw [List.mem_singleton.mp z]; exact li
      rw [upd_ne (Nat.ne_of_lt lb)]
      exact (hf b hb).1
  done := by
    intro X eP ew eK hc i pins s σ H E I hf st hg
    subst eP ew eK
    obtain ⟨⟨old, he⟩, hit⟩ := st
    obtain ⟨xs, hq, hx⟩ := hg
    obtain ⟨its, rv, pt, _⟩ := I.tuple hq
    obtain ⟨f0, f1, f2, f3, f4, f5⟩ := hf it (by simp)
    have hl := rv.length
    have D : Draws X.prog X.w X.A.in1 it [it, a] i (fun _ _ => True) (fun j h => j = i ∧ h.IsTupleIter it a i ∧ h.IsTuple a its.toArray) :=
      ⟨fun _ _ st => let ⟨o, ho, _⟩ := st.2.1; ⟨o, ho⟩, fun _ _ _ st hk => ⟨st.1, st.2.1.at fun o q => hk it (by simp) o q, st.2.2.at fun o q => hk a (by simp) o q⟩,
        fun j s Q E hj st hQ => absurd st.1 (Nat.ne_of_lt hj), fun s Q E st hE => wpAny_nextOf_tuple_end (I.ok.hd hc) st.2.1 st.2.2 (by simp; omega) hE⟩
    exact wpAny_pyNext_enum_endD D he ⟨rfl, hit, pt⟩ fun h' eb => ⟨rfl, I.turned (t' := s.toks) (fun b o hb q => eb b o hb q) f0 f1 f3 f4 f5⟩
  self := fun A i s Q E st h => let ⟨⟨_, he⟩, _⟩ := st; wpAny_pyIter_enum he h
/-- enumerate(x), x a list or a tuple -/
def iEnumA (K : PySem.W.Frag) (ta : TA) : TI := fun σ H R => ta σ H fun vs H1 => ∃ a xs, vs = [.ref a] ∧ ((SqL K H1 a xs ∧ R (Ite K a) H1) ∨ (SqT K H1 a xs ∧ R (IteT K a) H1))
theorem pi_enumA {X : Cx} {e : Expr} {ta : TA} {p pos tpos : Pos} {elts : List Expr} {kk : Nat} (hg : Gl X "enumerate") (hm : X.mg "enumerate" = none) (ha : PA X [e] ta) (hs : starEach [e] X.env = [(false, eval e X.env)] := by rfl) :
    PI X (.Tuple elts kk tpos) (.Call (.Name "enumerate" p) [e] [] pos) (iEnumA X.K ta) := by
  refine ⟨fun pins s σ H R I h => ?_⟩
  refine Call_ (ld_blt I hg hm boot_enumerate (PyProof.Rows.callWith_type1 (thn (ha.run pos pins s σ H _ I h) fun us s1 ⟨vs, H1, I1, r1, q1⟩ => ?_) hs rfl))
  obtain ⟨a, xs, ex, q⟩ := q1
  subst ex
  cases r1 with
  | cons r rr =>
    cases rr
    cases r
    have near : ∀ b ∈ [s1.heap.objs.size + 1, s1.heap.objs.size], s1.heap.objs.size ≤ b := fun b hb => by
      rcases List.mem_cons.mp hb with z | z
      · rw [z]; exact Nat.le_add_right _ _
      · rw [List.mem_singleton.mp z]; exact Nat.le_refl _
    rcases q with ⟨hq, q⟩ | ⟨hq, q⟩
    · obtain ⟨its, rv, pl, _⟩ := I1.list hq
      refine call_enumerate_list pl.isList fun h' he hit hsz hk => wpAny_pyIter_enum he ?_
      exact ⟨s1.heap.objs.size + 1, [s1.heap.objs.size + 1, s1.heap.objs.size], _, _, H1, rfl, I1.kept (t' := s1.toks) hk, turn_enum a (s1.heap.objs.size + 1) s1.heap.objs.size, ⟨⟨.none, he⟩, hit, Nat.succ_ne_self _⟩, fun b hb => I1.fpOk (near b hb) (I1.hok.fresh (near b hb)), q⟩
    · obtain ⟨its, rv, pt, _⟩ := I1.tuple hq
      have la : a < s1.heap.objs.size := by obtain ⟨_, z, _⟩ := pt; exact Heap.lt_size z
      refine call_enum1 (begins_tuple a its.toArray) pt fun h' he hit hk => wpAny_pyIter_enum he ?_
      exact ⟨s1.heap.objs.size + 1, [s1.heap.objs.size + 1, s1.heap.objs.size], _, _, H1, rfl, I1.kept (t' := s1.toks) hk, turn_enumT (Nat.succ_ne_self _) (Nat.ne_of_gt (Nat.lt_succ_of_lt la)) (Nat.ne_of_lt la), ⟨⟨.none, he⟩, _, hit, rfl, rfl⟩, fun b hb => I1.fpOk (near b hb) (I1.hok.fresh (near b hb)), q⟩

/-! ### by data -/
def enumF : Nat → List D → List D
  | _, [] => []
  | k, d :: ds => .tuple [.int (k : Nat), d] :: enumF (k + 1) ds
theorem enumF_len : ∀ {k : Nat} {ds : List D}, (enumF k ds).length = ds.length
  | _, [] => rfl
  | k, d :: ds => by show (enumF (k + 1) ds).length + 1 = _; rw [enumF_len]; rfl
theorem enumF_get : ∀ {k i : Nat} {ds : List D} {d : D}, (enumF k ds)[i]? = some d → ∃ d', ds[i]? = some d' ∧ d = .tuple [.int ((k + i : Nat) : Int), d']
  | k, 0, d' :: ds, d, h => ⟨d', rfl, by
    have e : PyData.tuple [.int (k : Nat), d'] = d := by simpa [enumF] using h
    rw [← e]; rfl⟩
  | k, i + 1, d' :: ds, d, h => by
    obtain ⟨x, h1, h2⟩ := enumF_get (k := k + 1) (i := i) (ds := ds) (d := d) (by simpa [enumF] using h)
    exact ⟨x, by simpa using h1, by rw [h2, show k + 1 + i = k + (i + 1) by omega]⟩
  | k, 0, [], d, h => by simp [enumF] at h
  | k, i + 1, [], d, h => by simp [enumF] at h
def zipF : List D → List D → List D
  | d :: ds, e :: es => .tuple [d, e] :: zipF ds es
  | _, _ => []
theorem zipF_len : ∀ {ds es : List D}, (zipF ds es).length = min ds.length es.length
  | [], _ => by simp [zipF]
  | _ :: _, [] => by simp [zipF]
  | d :: ds, e :: es => by show (zipF ds es).length + 1 = _; rw [zipF_len]; simp
theorem zipF_get : ∀ {i : Nat} {ds es : List D} {d : D}, (zipF ds es)[i]? = some d → ∃ x y, ds[i]? = some x ∧ es[i]? = some y ∧ d = .tuple [x, y]
  | 0, x :: ds, y :: es, d, h => ⟨x, y, rfl, rfl, by
    have e : PyData.tuple [x, y] = d := by simpa [zipF] using h
    exact e.symm⟩
  | i + 1, x :: ds, y :: es, d, h => by
    obtain ⟨a, b, h1, h2, h3⟩ := zipF_get (i := i) (ds := ds) (es := es) (d := d) (by simpa [zipF] using h)
    exact ⟨a, b, by simpa using h1, by simpa using h2, h3⟩
  | _, [], _, d, h => by simp [zipF] at h
  | _, _ :: _, [], d, h => by simp [zipF] at h
section
variable {K : PySem.W.Frag} {H : Hp} {O : List Addr} {a b : Addr} {ds es : List D}
theorem rd_lst {vs : List V} {rest : List D} (q : DpAll K (hide H O) (V.ref a :: vs) (PyData.list ds :: rest)) : ∃ xs, SqL K H a xs ∧ DpAll K (hide H O) xs ds := by
  cases q with
  | cons q _ =>
    cases q with
    | lst h1 h2 => exact ⟨_, Same.seq same_hide h1, h2⟩
theorem rd_tup {vs : List V} {rest : List D} (q : DpAll K (hide H O) (V.ref a :: vs) (PyData.tuple ds :: rest)) : ∃ xs, SqT K H a xs ∧ DpAll K (hide H O) xs ds := by
  cases q with
  | cons q _ =>
    cases q with
    | tup h1 h2 => exact ⟨_, seqT_same same_hide h1, h2⟩
theorem fresh_out {T : Addr} (dom : ∀ c ∈ O, ∃ u, H c = some u) (n : H T = none) : T ∉ O := fun z => by
  obtain ⟨u, e⟩ := dom T z
  rw [n] at e; cases e
theorem walks_enumL : Walks K (Ite K a) [.ref a] [.list ds] (enumF 0 ds) := by
  refine ⟨fun H O i _ q hi => ?_, fun H O i y H' d dom q hy hd => ?_, fun H O i _ q hi => ?_⟩
  · obtain ⟨xs, h1, h2⟩ := rd_lst q
    rw [enumF_len] at hi
    have hl : i < xs.length := by rw [DL.DpAll.len h2]; exact hi
    exact ⟨xs, xs[i], h1, List.getElem?_eq_getElem hl⟩
  · obtain ⟨xs, h1, h2⟩ := rd_lst q
    obtain ⟨T, x, rfl, hT, rfl, hx⟩ := hy
    obtain ⟨d', e1, rfl⟩ := enumF_get hd
    obtain ⟨v, e2, e3⟩ := DL.DpAll.get h2 e1
    have e4 := hx xs h1
    rw [e2] at e4
    cases e4
    rw [Nat.zero_add]
    exact ⟨same_new hT, new_tup hT (fresh_out dom hT) (.cons (.int _) (.cons e3 .nil))⟩
  · obtain ⟨xs, h1, h2⟩ := rd_lst q
    exact ⟨xs, h1, by rw [DL.DpAll.len h2, ← enumF_len (k := 0)]; exact hi⟩
theorem walks_enumT : Walks K (IteT K a) [.ref a] [.tuple ds] (enumF 0 ds) := by
  refine ⟨fun H O i _ q hi => ?_, fun H O i y H' d dom q hy hd => ?_, fun H O i _ q hi => ?_⟩
  · obtain ⟨xs, h1, h2⟩ := rd_tup q
    rw [enumF_len] at hi
    have hl : i < xs.length := by rw [DL.DpAll.len h2]; exact hi
    exact ⟨xs, xs[i], h1, List.getElem?_eq_getElem hl⟩
  · obtain ⟨xs, h1, h2⟩ := rd_tup q
    obtain ⟨T, x, rfl, hT, rfl, hx⟩ := hy
    obtain ⟨d', e1, rfl⟩ := enumF_get hd
    obtain ⟨v, e2, e3⟩ := DL.DpAll.get h2 e1
    have e4 := hx xs h1
    rw [e2] at e4
    cases e4
    rw [Nat.zero_add]
    exact ⟨same_new hT, new_tup hT (fresh_out dom hT) (.cons (.int _) (.cons e3 .nil))⟩
  · obtain ⟨xs, h1, h2⟩ := rd_tup q
    exact ⟨xs, h1, by rw [DL.DpAll.len h2, ← enumF_len (k := 0)]; exact hi⟩
theorem two {x y : D} {v u : V} (q : DpAll K (hide H O) [v, u] [x, y]) : DpAll K (hide H O) [v] [x] ∧ DpAll K (hide H O) [u] [y] := by
  cases q with
  | cons h1 h2 => exact ⟨.cons h1 .nil, h2⟩
theorem walks_zipL : Walks K (Itz K a b) [.ref a, .ref b] [.list ds, .list es] (zipF ds es) := by
  refine ⟨fun H O i _ q hi => ?_, fun H O i y H' d dom q hy hd => ?_, fun H O i _ q hi => ?_⟩
  · obtain ⟨xs, h1, h2⟩ := rd_lst (two q).1
    obtain ⟨ys, g1, g2⟩ := rd_lst (two q).2
    rw [zipF_len] at hi
    have l1 : i < xs.length := by rw [DL.DpAll.len h2]; omega
    have l2 : i < ys.length := by rw [DL.DpAll.len g2]; omega
    exact ⟨xs, ys, xs[i], ys[i], h1, g1, List.getElem?_eq_getElem l1, List.getElem?_eq_getElem l2⟩
  · obtain ⟨xs, h1, h2⟩ := rd_lst (two q).1
    obtain ⟨ys, g1, g2⟩ := rd_lst (two q).2
    obtain ⟨T, x, z, rfl, hT, rfl, hx, hz⟩ := hy
    obtain ⟨d1, d2, e1, e2, rfl⟩ := zipF_get hd
    obtain ⟨v, f1, f2⟩ := DL.DpAll.get h2 e1
    obtain ⟨u, f3, f4⟩ := DL.DpAll.get g2 e2
    have k1 := hx xs h1
    have k2 := hz ys g1
    rw [f1] at k1; cases k1
    rw [f3] at k2; cases k2
    exact ⟨same_new hT, new_tup hT (fresh_out dom hT) (.cons f2 (.cons f4 .nil))⟩
  · obtain ⟨xs, h1, h2⟩ := rd_lst (two q).1
    obtain ⟨ys, g1, g2⟩ := rd_lst (two q).2
    rw [zipF_len] at hi
    refine ⟨xs, ys, h1, g1, ?_⟩
    rw [DL.DpAll.len h2, DL.DpAll.len g2]
    omega
theorem walks_zipT : Walks K (RZ.ItzT K a b) [.ref a, .ref b] [.tuple ds, .tuple es] (zipF ds es) := by
  refine ⟨fun H O i _ q hi => ?_, fun H O i y H' d dom q hy hd => ?_, fun H O i _ q hi => ?_⟩
  · obtain ⟨xs, h1, h2⟩ := rd_tup (two q).1
    obtain ⟨ys, g1, g2⟩ := rd_tup (two q).2
    rw [zipF_len] at hi
    have l1 : i < xs.length := by rw [DL.DpAll.len h2]; omega
    have l2 : i < ys.length := by rw [DL.DpAll.len g2]; omega
    exact ⟨xs, ys, xs[i], ys[i], h1, g1, List.getElem?_eq_getElem l1, List.getElem?_eq_getElem l2⟩
  · obtain ⟨xs, h1, h2⟩ := rd_tup (two q).1
    obtain ⟨ys, g1, g2⟩ := rd_tup (two q).2
    obtain ⟨T, x, z, rfl, hT, rfl, hx, hz⟩ := hy
    obtain ⟨d1, d2, e1, e2, rfl⟩ := zipF_get hd
    obtain ⟨v, f1, f2⟩ := DL.DpAll.get h2 e1
    obtain ⟨u, f3, f4⟩ := DL.DpAll.get g2 e2
    have k1 := hx xs h1
    have k2 := hz ys g1
    rw [f1] at k1; cases k1
    rw [f3] at k2; cases k2
    exact ⟨same_new hT, new_tup hT (fresh_out dom hT) (.cons f2 (.cons f4 .nil))⟩
  · obtain ⟨xs, h1, h2⟩ := rd_tup (two q).1
    obtain ⟨ys, g1, g2⟩ := rd_tup (two q).2
    rw [zipF_len] at hi
    refine ⟨xs, ys, h1, g1, ?_⟩
    rw [DL.DpAll.len h2, DL.DpAll.len g2]
    omega
theorem rev_get {α : Type} {xs : List α} {i : Nat} (h : i < xs.length) : xs.reverse[i]? = xs[xs.length - 1 - i]? := List.getElem?_reverse h
theorem walks_revL {n : Nat} (hn : n = ds.length) : Walks K (Itv K a n) [.ref a] [.list ds] ds.reverse := by
  subst hn
  refine ⟨fun H O i _ q hi => ?_, fun H O i y H' d dom q hy hd => ?_, fun H O i _ q hi => ?_⟩
  · obtain ⟨xs, h1, h2⟩ := rd_lst q
    rw [List.length_reverse] at hi
    have hl : ds.length - 1 - i < xs.length := by rw [DL.DpAll.len h2]; omega
    exact ⟨hi, xs, xs[ds.length - 1 - i], h1, List.getElem?_eq_getElem hl⟩
  · obtain ⟨xs, h1, h2⟩ := rd_lst q
    obtain ⟨rfl, hx⟩ := hy
    have hi := (List.getElem?_eq_some_iff.mp hd).1
    rw [List.length_reverse] at hi
    rw [rev_get hi] at hd
    obtain ⟨v, e2, e3⟩ := DL.DpAll.get h2 hd
    have e4 := hx xs h1
    rw [e2] at e4
    cases e4
    exact ⟨Same.refl _, e3⟩
  · show ds.length ≤ i
    rw [List.length_reverse] at hi
    exact hi
theorem walks_revT {n : Nat} (hn : n = ds.length) : Walks K (RT.ItvT K a n) [.ref a] [.tuple ds] ds.reverse := by
  subst hn
  refine ⟨fun H O i _ q hi => ?_, fun H O i y H' d dom q hy hd => ?_, fun H O i _ q hi => ?_⟩
  · obtain ⟨xs, h1, h2⟩ := rd_tup q
    rw [List.length_reverse] at hi
    have hl : ds.length - 1 - i < xs.length := by rw [DL.DpAll.len h2]; omega
    exact ⟨hi, xs, xs[ds.length - 1 - i], h1, List.getElem?_eq_getElem hl⟩
  · obtain ⟨xs, h1, h2⟩ := rd_tup q
    obtain ⟨rfl, hx⟩ := hy
    have hi := (List.getElem?_eq_some_iff.mp hd).1
    rw [List.length_reverse] at hi
    rw [rev_get hi] at hd
    obtain ⟨v, e2, e3⟩ := DL.DpAll.get h2 hd
    have e4 := hx xs h1
    rw [e2] at e4
    cases e4
    exact ⟨Same.refl _, e3⟩
  · show ds.length ≤ i
    rw [List.length_reverse] at hi
    exact hi
end
/-- n numbers from lo on by c -/
def stepD (lo c : Int) (n : Nat) : List D := (List.range n).map fun (k : Nat) => PyData.int (lo + k * c)
theorem walks_step {K : PySem.W.Frag} {lo c : Int} {n : Nat} : Walks K (Itc lo c n) [] [] (stepD lo c n) := by
  refine ⟨fun H O i _ q hi => ?_, fun H O i y H' d _ q hy hd => ?_, fun H O i _ q hi => ?_⟩
  · show i < n
    simpa [stepD] using hi
  · obtain ⟨e1, e2⟩ := hy
    have hi : i < n := by
      have := (List.getElem?_eq_some_iff.mp hd).1
      simpa [stepD] using this
    have e : (stepD lo c n)[i]? = some (.int (lo + (i : Nat) * c)) := by
      unfold stepD
      rw [List.getElem?_map, List.getElem?_range hi]
      rfl
    rw [e] at hd
    cases hd
    subst e1 e2
    exact ⟨Same.refl _, .int _⟩
  · show n ≤ i
    simpa [stepD] using hi
@[reducible] def itemsLT : D → Option (List D)
  | .list ds => some ds
  | .tuple ds => some ds
  | _ => none
@[reducible] def wIEnum (wa : WA) : WI := fun ρ Q E => wa ρ (fun cs ρ1 => match frzs cs with
  | [.v d] => optK (itemsLT d) fun ds => Q (enumF 0 ds) ρ1
  | _ => False) E
@[reducible] def wIZip (wa : WA) : WI := fun ρ Q E => wa ρ (fun cs ρ1 => match frzs cs with
  | [.v (.list ds), .v (.list es)] => Q (zipF ds es) ρ1
  | [.v (.tuple ds), .v (.tuple es)] => Q (zipF ds es) ρ1
  | _ => False) E
@[reducible] def wIR3 (wa : WA) : WI := fun ρ Q E => wa ρ (fun cs ρ1 => match frzs cs with
  | [.v (.int i), .v (.int j), .v (.int c)] => ∃ n : Nat, RgC i j c n ∧ Q (stepD i c n) ρ1
  | _ => False) E
section
variable {X : Cx} {g : G} {W : WX} {tg a b c : Expr} {wa : WA} {p pos : Pos}
theorem args1 {σ : L2.St} {vs xs : List V} {H : Hp} {ρ : Rho} {ccs cs : List C} {K : PySem.W.Frag} {d : D} (hl : xs.length = ccs.length) (h : SR K g σ (xs ++ vs) H ρ (ccs ++ cs)) (e : ccs.map frzC = [.v d]) : ∃ x, xs = [x] ∧ SR K g σ (x :: vs) H ρ (.v d :: cs) := by
  have S := h.frzArgs hl
  rw [e] at S
  have l : xs.length = 1 := by rw [hl]; simpa using congrArg List.length e
  match xs, l with
  | [x], _ => exact ⟨x, rfl, S⟩
theorem args2 {σ : L2.St} {vs xs : List V} {H : Hp} {ρ : Rho} {ccs cs : List C} {K : PySem.W.Frag} {d d2 : D} (hl : xs.length = ccs.length) (h : SR K g σ (xs ++ vs) H ρ (ccs ++ cs)) (e : ccs.map frzC = [.v d, .v d2]) : ∃ x y, xs = [x, y] ∧ SR K g σ (x :: y :: vs) H ρ (.v d :: .v d2 :: cs) := by
  have S := h.frzArgs hl
  rw [e] at S
  have l : xs.length = 2 := by rw [hl]; simpa using congrArg List.length e
  match xs, l with
  | [x, y], _ => exact ⟨x, y, rfl, S⟩
theorem args3 {σ : L2.St} {vs xs : List V} {H : Hp} {ρ : Rho} {ccs cs : List C} {K : PySem.W.Frag} {d d2 d3 : D} (hl : xs.length = ccs.length) (h : SR K g σ (xs ++ vs) H ρ (ccs ++ cs)) (e : ccs.map frzC = [.v d, .v d2, .v d3]) : ∃ x y z, xs = [x, y, z] ∧ SR K g σ (x :: y :: z :: vs) H ρ (.v d :: .v d2 :: .v d3 :: cs) := by
  have S := h.frzArgs hl
  rw [e] at S
  have l : xs.length = 3 := by rw [hl]; simpa using congrArg List.length e
  match xs, l with
  | [x, y, z], _ => exact ⟨x, y, z, rfl, S⟩
theorem ei_enumerate {elts : List Expr} {kk : Nat} {tpos : Pos} (hg : Gl X "enumerate") (hm : X.mg "enumerate" = none) (ha : EA X g W [a] wa) (hs : starEach [a] X.env = [(false, eval a X.env)] := by rfl) : EI X g W (.Tuple elts kk tpos) (.Call (.Name "enumerate" p) [a] [] pos) (wIEnum wa) := by
  obtain ⟨t, q, s⟩ := ha.ex
  refine ⟨_, pi_enumA hg hm q hs, fun σ vs H ρ cs QD ED R hS hw hX hQ => ?_⟩
  refine s σ vs H ρ cs _ ED _ hS hw hX fun xs H1 ccs ρ1 hl S1 q1 => ?_
  split at q1
  · rename_i d ec
    obtain ⟨x, rfl, S2⟩ := args1 hl S1 (frzs_eq.symm.trans ec)
    have q := S2.top
    cases q with
    | lst h1 h2 => exact ⟨_, _, rfl, .inl ⟨Same.seq same_hide h1, hQ _ [_] [.list _] _ H1 ρ1 rfl S2 walks_enumL q1⟩⟩
    | tup h1 h2 => exact ⟨_, _, rfl, .inr ⟨seqT_same same_hide h1, hQ _ [_] [.tuple _] _ H1 ρ1 rfl S2 walks_enumT q1⟩⟩
    | _ => exact q1.elim
  · exact q1.elim
@[reducible] def wIRevE (we : WE) : WI := fun ρ Q E => we ρ (fun c ρ1 => match frzC c with
  | .v d => optK (itemsLT d) fun ds => Q ds.reverse ρ1
  | _ => False) E
theorem ei_reversed {we : WE} (hg : Gl X "reversed") (hm : X.mg "reversed" = none) (ha : EE X g W a we) (hs : starEach [a] X.env = (false, eval a X.env) :: starEach [] X.env := by rfl) : EI X g W tg (.Call (.Name "reversed" p) [a] [] pos) (wIRevE we) := by
  obtain ⟨t, q, s⟩ := ha.ex
  refine ⟨_, RT.pi_revA hg hm q hs, fun σ vs H ρ cs QD ED R hS hw hX hQ => ?_⟩
  refine s σ vs H ρ cs _ ED _ hS hw hX fun x H1 c ρ1 S1 q1 => ?_
  split at q1
  · rename_i d ec
    have S2 := S1.frzTop
    rw [ec] at S2
    have q := S2.top
    cases q with
    | lst h1 h2 => exact ⟨_, _, rfl, .inl ⟨Same.seq same_hide h1, hQ _ [_] [.list _] _ H1 ρ1 rfl S2 (walks_revL (DL.DpAll.len h2)) q1⟩⟩
    | tup h1 h2 => exact ⟨_, _, rfl, .inr ⟨seqT_same same_hide h1, hQ _ [_] [.tuple _] _ H1 ρ1 rfl S2 (walks_revT (DL.DpAll.len h2)) q1⟩⟩
    | _ => exact q1.elim
  · exact q1.elim
/-- reversed(range(n)) -/
@[reducible] def wIRevRE (we : WE) : WI := fun ρ Q E => we ρ (fun c ρ1 => match c with
  | .v (.int n) => (-(2 ^ 62) ≤ n ∧ n < 2 ^ 62) ∧ Q (stepD (((n.toNat : Nat) : Int) - 1) (-1) n.toNat) ρ1
  | _ => False) E
theorem ei_revrange {we : WE} {p2 pos2 : Pos} (hg : Gl X "reversed") (hm : X.mg "reversed" = none) (hg2 : Gl X "range") (hm2 : X.mg "range" = none) (ha : EE X g W a we) (hs2 : starEach [a] X.env = (false, eval a X.env) :: starEach [] X.env := by rfl)
    (hs : starEach [.Call (.Name "range" p2) [a] [] pos2] X.env = (false, eval (.Call (.Name "range" p2) [a] [] pos2) X.env) :: starEach [] X.env := by rfl) : EI X g W tg (.Call (.Name "reversed" p) [.Call (.Name "range" p2) [a] [] pos2] [] pos) (wIRevRE we) := by
  obtain ⟨t, q, s⟩ := ha.ex
  refine ⟨_, pi_revR hg hm (prg_1 hg2 hm2 q hs2) hs, fun σ vs H ρ cs QD ED R hS hw hX hQ => ?_⟩
  refine s σ vs H ρ cs _ ED _ hS hw hX fun x H1 c ρ1 S1 q1 => ?_
  split at q1
  · rename_i n
    have z := S1.top
    cases z
    have e1 : (n - 0).toNat = n.toNat := by rw [Int.sub_zero]
    refine ⟨n, rfl, by decide, by decide, q1.1.1, q1.1.2, ?_⟩
    rw [e1, show (0 : Int) + ((n.toNat : Nat) : Int) - 1 = ((n.toNat : Nat) : Int) - 1 by omega]
    exact hQ _ [] [] _ H1 ρ1 rfl S1.pop walks_step q1.2
  · exact q1.elim
theorem ei_zip {elts : List Expr} {kk : Nat} {tpos : Pos} (hg : Gl X "zip") (hm : X.mg "zip" = none) (ha : EA X g W [a, b] wa) (hs : starEach [a, b] X.env = (false, eval a X.env) :: starEach [b] X.env := by rfl) (hpl : (backTo pos (starEach [b] X.env)).any (·.1) = false := by rfl) : EI X g W (.Tuple elts kk tpos) (.Call (.Name "zip" p) [a, b] [] pos) (wIZip wa) := by
  obtain ⟨t, q, s⟩ := ha.ex
  refine ⟨_, RZ.pi_zipA hg hm q hs hpl, fun σ vs H ρ cs QD ED R hS hw hX hQ => ?_⟩
  refine s σ vs H ρ cs _ ED _ hS hw hX fun xs H1 ccs ρ1 hl S1 q1 => ?_
  split at q1
  · rename_i ds es ec
    obtain ⟨x, y, rfl, S2⟩ := args2 hl S1 (frzs_eq.symm.trans ec)
    have z1 := S2.top
    have z2 := S2.pop.top
    cases z1 with
    | lst h1 h2 =>
      cases z2 with
      | lst g1 g2 => exact ⟨_, _, _, _, rfl, .inl ⟨Same.seq same_hide h1, Same.seq same_hide g1, hQ _ [_, _] [.list _, .list _] _ H1 ρ1 rfl S2 walks_zipL q1⟩⟩
  · rename_i ds es ec
    obtain ⟨x, y, rfl, S2⟩ := args2 hl S1 (frzs_eq.symm.trans ec)
    have z1 := S2.top
    have z2 := S2.pop.top
    cases z1 with
    | tup h1 h2 =>
      cases z2 with
      | tup g1 g2 => exact ⟨_, _, _, _, rfl, .inr ⟨seqT_same same_hide h1, seqT_same same_hide g1, hQ _ [_, _] [.tuple _, .tuple _] _ H1 ρ1 rfl S2 walks_zipT q1⟩⟩
  · exact q1.elim
theorem ei_range3 (hg : Gl X "range") (hm : X.mg "range" = none) (ha : EA X g W [a, b, c] wa) (hs : starEach [a, b, c] X.env = (false, eval a X.env) :: starEach [b, c] X.env := by rfl) (hpl : (backTo pos (starEach [b, c] X.env)).any (·.1) = false := by rfl) : EI X g W tg (.Call (.Name "range" p) [a, b, c] [] pos) (wIR3 wa) := by
  obtain ⟨t, q, s⟩ := ha.ex
  refine ⟨_, pi_range3 hg hm q hs hpl, fun σ vs H ρ cs QD ED R hS hw hX hQ => ?_⟩
  refine s σ vs H ρ cs _ ED _ hS hw hX fun xs H1 ccs ρ1 hl S1 q1 => ?_
  split at q1
  · rename_i i j k ec
    obtain ⟨x, y, z, rfl, S2⟩ := args3 hl S1 (frzs_eq.symm.trans ec)
    obtain ⟨n, hn, q1⟩ := q1
    have z1 := S2.top
    have z2 := S2.pop.top
    have z3 := S2.pop.pop.top
    cases z1; cases z2; cases z3
    exact ⟨i, j, k, n, rfl, hn, hQ _ [] [] _ H1 ρ1 rfl S2.pop.pop.pop walks_step q1⟩
  · exact q1.elim
end
end DL

set_option Elab.async false
set_option linter.all false
set_option maxRecDepth 100000
set_option maxHeartbeats 4000000
/-! DL: more of Python: t[::-1], x in t, + of any kind, max and min of a list, int of a text -/
namespace DL
open PySem PySem.Spec PyProof.Rows L2
/-! ### t[::-1] of a tuple -/
section
variable {prog : Program} {w : World} {A : Around} {E : Value → Shared → Prop} {s : Shared}
theorem fm_congr {α : Type} {f g : Nat → Option α} : ∀ {l : List Nat}, (∀ m ∈ l, f m = g m) → l.filterMap f = l.filterMap g
  | [], _ => rfl
  | m :: l, h => by
    have e := fm_congr (l := l) (f := f) (g := g) fun k hk => h k (.tail _ hk)
    rw [List.filterMap_cons, List.filterMap_cons, h m (.head _), e]
theorem rev_pick (xs : Array Value) : ((List.range xs.size).filterMap fun (m : Nat) => xs[((xs.size : Int) - 1 + (m : Int) * (-1)).toNat]?).toArray = xs.toList.reverse.toArray := by
  have e : ((List.range xs.size).filterMap fun (m : Nat) => xs[((xs.size : Int) - 1 + (m : Int) * (-1)).toNat]?) = ((List.range xs.size).map fun m => xs.size - 1 - m).filterMap (xs[·]?) := by
    rw [List.filterMap_map]
    apply fm_congr
    intro m hm
    have := List.mem_range.mp hm
    show xs[_]? = xs[_]?
    rw [show ((xs.size : Int) - 1 + (m : Int) * (-1)).toNat = xs.size - 1 - m by omega]
  rw [e, PySem.W.krv_range, List.filterMap_reverse, PySem.W.krv_all]
theorem rev_places (n : Nat) : Builtin.Slice.slicePlaces ((n : Int) - 1) (-1) (-1) = n := by
  unfold Builtin.Slice.slicePlaces
  have h1 : ¬ ((-1 : Int) > 0) := by omega
  simp only [h1, if_false]
  split
  · rw [show (- -1 : Int) = 1 by decide, Int.ediv_one]; omega
  · omega
theorem rev_applied {sl : Addr} {u : Tok} {n : Nat} {Q : Int × Int × Nat → Shared → Prop} (hs : s.heap.IsSliceOf sl .none .none (.int (-1) u)) (h : Q ((n : Int) - 1, -1, n) s) : wpAny (model prog w) A (Builtin.Slice.sliceApplied (.ref sl) (pure (n : Int))) Q E s := by
  obtain ⟨os, hos, hcs, hds⟩ := id hs
  unfold Builtin.Slice.sliceApplied Builtin.Slice.sliceFields
  refine wpAny_bind (wpAny_bind (wpAny_field hos hds (x := .none) rfl (wpAny_bind (wpAny_field hos hds (x := .none) rfl (wpAny_bind (wpAny_field hos hds (x := .int (-1) u) rfl (wpAny_pure ?_)))))))
  refine wpAny_bind (slicePart_int ?_)
  show wpAny _ _ (if ((-1 : Int) == 0) = true then _ else _) _ _ s
  rw [if_neg (by decide)]
  refine wpAny_bind (slicePart_none (wpAny_bind (slicePart_none (wpAny_bind (wpAny_pure ?_)))))
  show wpAny _ _ (pure ((n : Int) - 1, (-1 : Int), Builtin.Slice.slicePlaces ((n : Int) - 1) (-1) (-1))) _ _ s
  rw [rev_places]
  exact wpAny_pure h
theorem getItem_tuple_rev {t sl : Addr} {items : Array Value} {u : Tok} {Q : Value → Shared → Prop} (ht : IsTup s.heap t items) (hs : s.heap.IsSliceOf sl .none .none (.int (-1) u))
    (h : Q (.ref s.heap.objs.size) { s with heap := s.heap.push { cls := .type "tuple", data := .seq items.toList.reverse.toArray } }) (hsz : items.size ≤ sizeLine) : wpAny (model prog w) A (getItem (.ref t) (.ref sl)) Q E s := by
  have small : sizeOk (.seq items.toList.reverse.toArray) := by
    show items.toList.reverse.toArray.size ≤ sizeLine
    simpa using hsz
  obtain ⟨os, hos, hcs, hds⟩ := id hs
  have hTs : s.TypeIs (.ref sl) "slice" := ⟨os, hos, hcs⟩
  unfold getItem
  try with_reducible refine wpAny_holding ?_
  first | refine wpAny_bind (wpAny_pure ?_) | skip
  refine wpAny_bind (wpAny_sequenceKey ht.typeIs (by decide) ?_)
  refine wpAny_bind (wpAny_callSpecial?_slot (name := Str.ofString "__getitem__") ht.typeIs PyProof.Rows.slot_tuple_getitem (wpAny_call_entry PyProof.Rows.slot_tuple_getitem ht.typeIs PyProof.Rows.entry_tuple_getitem ?_ (PyProof.Rows.args_tuple_getitem _ _)))
  show wpAny _ _ (Builtin.Tuple.tupleItemsOf (.ref t) >>= _) _ _ s
  refine wpAny_bind (tupleItemsOf_ ht ?_)
  refine wpAny_bind (wpAny_typeOf hTs ?_)
  rw [if_pos (by decide)]
  refine wpAny_bind (rev_applied hs ?_)
  have hno : ¬ ((((items.size : Int) - 1) == 0 && (-1 : Int) == 1 && items.size == items.size) = true) := by
    intro q
    rw [Bool.and_eq_true, Bool.and_eq_true] at q
    exact absurd (eq_of_beq q.1.2) (by decide)
  show wpAny _ _ (if (((items.size : Int) - 1) == 0 && (-1 : Int) == 1 && items.size == items.size) = true then _ else _) _ _ s
  rw [if_neg hno, rev_pick]
  first
    | exact wpAny_bind (m := Builtin.Tuple.tupleExact _) (wpAny_newObj_type (wpAny_pure ⟨_, rfl, wpAny_pure h⟩) small)
    | exact wpAny_bind (m := Builtin.Tuple.tupleExact _) (wpAny_newObj_type (wpAny_bind (wpAny_pure (wpAny_pure ⟨_, rfl, wpAny_pure h⟩))) small)
    | exact wpAny_bind (wpAny_bind (m := Builtin.Tuple.tupleExact _) (wpAny_newObj_type (wpAny_pure (wpAny_pure ⟨_, rfl, wpAny_pure h⟩)) small))
    | exact wpAny_bind (wpAny_bind (m := Builtin.Tuple.tupleExact _) (wpAny_newObj_type (wpAny_pure ⟨_, rfl, wpAny_pure h⟩) small))
end
/-- x[::-1], x a list or a tuple -/
def tRevA (K : PySem.W.Frag) (te : TE) : TE := fun σ H Q => te σ H fun x H1 => ∃ a xs, x = .ref a ∧ ((SqL K H1 a xs ∧ ∀ p, H1 p = none → Q (.ref p) (upd H1 p (.lst xs.reverse))) ∨ (SqT K H1 a xs ∧ ∀ p, H1 p = none → Q (.ref p) (upd H1 p (.tup xs.reverse))))
theorem pe_revAll {X : Cx} {e : Expr} {te : TE} {k : Nat} {p1 p2 p3 pos : Pos} (he : PE X e te) : PE X (.Subscript e (.Slice none none (some (.UnaryOp .USub (.Constant (.int 1) k p1) p2)) p3) pos) (tRevA X.K te) := by
  refine ⟨fun pins s σ H Q I h => ?_⟩
  refine Subscript_ (thn (he.run pins s σ H _ I h) fun v s1 ⟨x, H1, I1, r1, q1⟩ => ?_)
  obtain ⟨a, xs, ex, q⟩ := q1
  subst ex
  cases r1
  have hst : PO X (some (.UnaryOp .USub (.Constant (.int 1) k p1) p2)) (tPart (tUn (rU fun i => .int (-i)) (tC (.int 1)))) := po_some (pe_un un_neg pe_int)
  refine wpAny_Slice (thn (po_none.run pins s1 σ H1 (fun o H2 => o = none ∧ H2 = H1) I1 ⟨rfl, rfl⟩) fun vl s2 ⟨l, H2, I2, pl, el, e2⟩ => ?_)
  subst el e2
  refine thn (po_none.run pins s2 σ H2 (fun o H3 => o = none ∧ H3 = H2) I2 ⟨rfl, rfl⟩) fun vu s3 ⟨u, H3, I3, pu, eu, e3⟩ => ?_
  subst eu e3
  refine thn (hst.run pins s3 σ H3 (fun o H4 => o = some (-1) ∧ H4 = H3) I3 ⟨1, rfl, -1, rfl, rfl, rfl⟩) fun vs s4 ⟨o, H4, I4, ps, eo, e4⟩ => ?_
  subst eo e4
  have I5 : Inv X pins σ H4 { s4 with heap := s4.heap.push { cls := .type "slice", data := .fields #[vl, vu, vs] } } := I4.kept (t' := s4.toks) fun b ob q => Heap.get?_push_of_some _ q
  show wpAny (model X.prog X.w) X.A (subscriptTail e (.Slice none none (some (.UnaryOp .USub (.Constant (.int 1) k p1) p2)) p3) (.ref a) (.ref s4.heap.objs.size)) (EP X pins σ Q) X.xe { s4 with heap := s4.heap.push { cls := .type "slice", data := .fields #[vl, vu, vs] } }
  rcases q with ⟨hx, q⟩ | ⟨hx, q⟩
  · obtain ⟨its, r, ht, hz⟩ := I5.list hx
    have hlen := r.length
    refine tail_any (ops := [.ref a, .ref s4.heap.objs.size]) ht.isList.typeIs (PySem.slot_list_getitem.lookup) ?_ (by with_unfolding_all rfl)
    refine wpAny_getItem_list_slice ht.isList (Heap.IsSliceOf.new _ vl vu vs) pl pu ps (by decide) ?_ (by rw [List.size_toArray]; omega)
    rw [PySem.W.krv_pick]
    refine ⟨.ref _, _, I5.laid (t' := s4.toks) (o := .lst xs.reverse) (fun b ob q => Heap.get?_push_of_some _ q) (Nat.le_refl _) ?_, rfl, q _ (I5.hok.fresh (Nat.le_refl _))⟩
    exact ⟨by rw [List.length_reverse]; exact hz, _, 0, r.reverse, Heap.get?_push_size _ rfl⟩
  · obtain ⟨its, r, ht, hz⟩ := I5.tuple hx
    have hlen := r.length
    refine tail_any (ops := [.ref a, .ref s4.heap.objs.size]) ht.typeIs (PyProof.Rows.slot_tuple_getitem.lookup) ?_ (by with_unfolding_all rfl)
    have hsl := Heap.IsSliceOf.new s4.heap vl vu vs
    cases pl
    cases pu
    cases ps
    refine getItem_tuple_rev ht hsl ?_ (by rw [List.size_toArray]; omega)
    refine ⟨.ref _, _, I5.laid (t' := s4.toks) (o := .tup xs.reverse) (fun b ob q => Heap.get?_push_of_some _ q) (Nat.le_refl _) ?_, rfl, q _ (I5.hok.fresh (Nat.le_refl _))⟩
    exact ⟨by rw [List.length_reverse]; exact hz, _, r.reverse, IsTup.new _ _⟩
theorem DpAll.rev {K : PySem.W.Frag} {B : Hp} : ∀ {xs : List V} {ds : List D}, DpAll K B xs ds → DpAll K B xs.reverse ds.reverse
  | _, [], h => by cases h; exact .nil
  | _, d :: ds, h => by
    cases h with
    | cons h1 h2 => rw [List.reverse_cons, List.reverse_cons]; exact DL.DpAll.app (DpAll.rev h2) (.cons h1 .nil)
@[reducible] def oRevS : O1 := fun d k => match d with
  | .list ds => k (.own 0 (.lst ds.reverse))
  | .tuple ds => k (.v (.tuple ds.reverse))
  | _ => False
theorem lift_rev {K : PySem.W.Frag} : Lift1 K (fun x H Q => ∃ a xs, x = .ref a ∧ ((SqL K H a xs ∧ ∀ p, H p = none → Q (.ref p) (upd H p (.lst xs.reverse))) ∨ (SqT K H a xs ∧ ∀ p, H p = none → Q (.ref p) (upd H p (.tup xs.reverse))))) oRevS := by
  intro O H x dx QD Q hO hx q fin
  cases hx with
  | lst h1 h2 => exact ⟨_, _, rfl, .inl ⟨Same.seq same_hide h1, fun p n => fin _ _ (.own 0 (.lst _)) (same_new n) (new_lst n (DpAll.rev h2)) q⟩⟩
  | tup h1 h2 => exact ⟨_, _, rfl, .inr ⟨seqT_same same_hide h1, fun p n => fin _ _ (.v _) (same_new n) (new_tup n (fun z => by obtain ⟨u, e⟩ := hO p z; rw [n] at e; cases e) (DpAll.rev h2)) q⟩⟩
  | _ => exact q.elim
@[reducible] def wRevS (we : WE) : WE := wU oRevS we
theorem ee_revS {X : Cx} {g : G} {W : WX} {e : Expr} {we : WE} {k : Nat} {p1 p2 p3 pos : Pos} (h : EE X g W e we) : EE X g W (.Subscript e (.Slice none none (some (.UnaryOp .USub (.Constant (.int 1) k p1) p2)) p3) pos) (wRevS we) := by
  obtain ⟨t, p, s⟩ := h.ex
  exact ⟨_, pe_revAll p, sem_un lift_rev s⟩

/-! ### x in t -/
def rInA (K : PySem.W.Frag) (neg : Bool) : R2 := fun x y H Q => (∃ d ds, Dp K H x d ∧ (Dp K H y (.list ds) ∨ Dp K H y (.tuple ds)) ∧ SeqAt.shaped d = true ∧ SeqAt.shaped (.list ds) = true ∧ Q (.bl (if neg then !(ds.any fun z => PyData.eqv z d) else ds.any fun z => PyData.eqv z d)) H) ∨
  ∃ i j, x = .str i ∧ y = .str j ∧ Q (.bl (if neg then (Builtin.Str.occurrences j i 0 j.length 1).isEmpty else !(Builtin.Str.occurrences j i 0 j.length 1).isEmpty)) H
section
variable {X : Cx}
theorem op_inA (hu : X.A.units + 65 < cLine) : OpR X (compareOp .In) (rInA X.K false) := by
  intro pins s σ H x y v u Q I rx ry h
  rcases h with ⟨d, ds, hd, he, sd, se, q⟩ | ⟨i, j, rfl, rfl, q⟩
  · obtain ⟨as, r1⟩ := Dp.reads I d x v hd rx
    rcases he with he | he
    · obtain ⟨bs, r2⟩ := Dp.reads I (.list ds) y u he ry
      exact SeqAt.in_list_reads r2 r1 (SeqAt.canLay_of_shaped se) (SeqAt.canLay_of_shaped sd) (room_in_shaped sd hu) ⟨.bl _, H, I, rfl, q⟩
    · obtain ⟨bs, r2⟩ := Dp.reads I (.tuple ds) y u he ry
      exact SeqAt.in_tuple_reads r2 r1 (SeqAt.canLay_of_shaped se) (SeqAt.canLay_of_shaped sd) (room_in_shaped sd hu) ⟨.bl _, H, I, rfl, q⟩
  · exact op_in_str pins s σ H _ _ v u Q I rx ry ⟨i, j, rfl, rfl, q⟩
theorem op_notinA (hu : X.A.units + 65 < cLine) : OpR X (compareOp .NotIn) (rInA X.K true) := by
  intro pins s σ H x y v u Q I rx ry h
  rcases h with ⟨d, ds, hd, he, sd, se, q⟩ | ⟨i, j, rfl, rfl, q⟩
  · obtain ⟨as, r1⟩ := Dp.reads I d x v hd rx
    rcases he with he | he
    · obtain ⟨bs, r2⟩ := Dp.reads I (.list ds) y u he ry
      exact SeqAt.notIn_list_reads r2 r1 (SeqAt.canLay_of_shaped se) (SeqAt.canLay_of_shaped sd) (room_in_shaped sd hu) ⟨.bl _, H, I, rfl, q⟩
    · obtain ⟨bs, r2⟩ := Dp.reads I (.tuple ds) y u he ry
      exact SeqAt.notIn_tuple_reads r2 r1 (SeqAt.canLay_of_shaped se) (SeqAt.canLay_of_shaped sd) (room_in_shaped sd hu) ⟨.bl _, H, I, rfl, q⟩
  · exact op_notin_str pins s σ H _ _ v u Q I rx ry ⟨i, j, rfl, rfl, by rw [Bool.not_not]; exact q⟩
end
/-- whether a text stands in another one -/
def inS (i j : Str) : Bool := !(Builtin.Str.occurrences j i 0 j.length 1).isEmpty
/-- whether data stands among data -/
def memD (d : D) (ds : List D) : Bool := ds.any fun z => PyData.eqv z d
@[reducible] def oIn : O2 := fun d1 d2 k => match d2 with
  | .list ds => SeqAt.shaped d1 = true ∧ SeqAt.shaped (.list ds) = true ∧ k (.v (.bool (memD d1 ds)))
  | .tuple ds => SeqAt.shaped d1 = true ∧ SeqAt.shaped (.list ds) = true ∧ k (.v (.bool (memD d1 ds)))
  | .str j => match d1 with
    | .str i => k (.v (.bool (inS i j)))
    | _ => False
  | _ => False
@[reducible] def oNotIn : O2 := fun d1 d2 k => match d2 with
  | .list ds => SeqAt.shaped d1 = true ∧ SeqAt.shaped (.list ds) = true ∧ k (.v (.bool (!memD d1 ds)))
  | .tuple ds => SeqAt.shaped d1 = true ∧ SeqAt.shaped (.list ds) = true ∧ k (.v (.bool (!memD d1 ds)))
  | .str j => match d1 with
    | .str i => k (.v (.bool (!inS i j)))
    | _ => False
  | _ => False
theorem lift_in {K : PySem.W.Frag} : Lift2 K (rInA K false) oIn := by
  intro O H x y dx dy QD Q _ hx hy q fin
  have hx' := dp_hide hx
  have hy' := dp_hide hy
  cases dy with
  | list ds => exact .inl ⟨dx, ds, hx', .inl hy', q.1, q.2.1, fin _ H (.v _) (Same.refl H) (.bl _) q.2.2⟩
  | tuple ds => exact .inl ⟨dx, ds, hx', .inr hy', q.1, q.2.1, fin _ H (.v _) (Same.refl H) (.bl _) q.2.2⟩
  | str j =>
    cases dx with
    | str i => cases hx'; cases hy'; exact .inr ⟨i, j, rfl, rfl, fin _ H (.v _) (Same.refl H) (.bl _) q⟩
    | _ => exact q.elim
  | _ => exact q.elim
theorem lift_notin {K : PySem.W.Frag} : Lift2 K (rInA K true) oNotIn := by
  intro O H x y dx dy QD Q _ hx hy q fin
  have hx' := dp_hide hx
  have hy' := dp_hide hy
  cases dy with
  | list ds => exact .inl ⟨dx, ds, hx', .inl hy', q.1, q.2.1, fin _ H (.v _) (Same.refl H) (.bl _) q.2.2⟩
  | tuple ds => exact .inl ⟨dx, ds, hx', .inr hy', q.1, q.2.1, fin _ H (.v _) (Same.refl H) (.bl _) q.2.2⟩
  | str j =>
    cases dx with
    | str i =>
      cases hx'; cases hy'
      have e : (!inS i j) = (Builtin.Str.occurrences j i 0 j.length 1).isEmpty := Bool.not_not _
      have q2 : QD (.v (.bool (!inS i j))) := q
      rw [e] at q2
      exact .inr ⟨i, j, rfl, rfl, fin _ H (.v _) (Same.refl H) (.bl _) q2⟩
    | _ => exact q.elim
  | _ => exact q.elim
section
variable {X : Cx} {g : G} {W : WX} {a b : Expr} {wa wb : WE} {pos : Pos}
theorem units65 {k : Nat} {A : Around} (hr : Room k A) : A.units + 65 < cLine := by
  have := hr.un
  omega
theorem ee_in (hu : X.A.units + 65 < cLine) (ha : EE X g W a wa) (hb : EE X g W b wb) (hm : behindInMarks .In b = false := by rfl) : EE X g W (.Compare a [.In] [b] pos) (wB oIn wa wb) := ee_cmp (op_inA hu) lift_in ha hb hm
theorem ee_notin (hu : X.A.units + 65 < cLine) (ha : EE X g W a wa) (hb : EE X g W b wb) (hm : behindInMarks .NotIn b = false := by rfl) : EE X g W (.Compare a [.NotIn] [b] pos) (wB oNotIn wa wb) := ee_cmp (op_notinA hu) lift_notin ha hb hm
theorem et_in (hu : X.A.units + 65 < cLine) (ha : EE X g W a wa) (hb : EE X g W b wb) (hm : behindInMarks .In b = false := by rfl) : ET X g W (.Compare a [.In] [b] pos) (wTst (wB oIn wa wb)) := et_cmp (op_inA hu) lift_in ha hb hm
theorem et_notin (hu : X.A.units + 65 < cLine) (ha : EE X g W a wa) (hb : EE X g W b wb) (hm : behindInMarks .NotIn b = false := by rfl) : ET X g W (.Compare a [.NotIn] [b] pos) (wTst (wB oNotIn wa wb)) := et_cmp (op_notinA hu) lift_notin ha hb hm
end

/-! ### max and min of a list of numbers -/
@[reducible] def oMax1 : OL := fun ds k => match ds with
  | [.list es] => optK (intsOf es) fun ns => 0 < ns.length ∧ ∀ m : Int, m ∈ ns → (∀ y ∈ ns, y ≤ m) → k (.v (.int m))
  | _ => False
@[reducible] def oMin1 : OL := fun ds k => match ds with
  | [.list es] => optK (intsOf es) fun ns => 0 < ns.length ∧ ∀ m : Int, m ∈ ns → (∀ y ∈ ns, m ≤ y) → k (.v (.int m))
  | _ => False
theorem lift_max1 {K : PySem.W.Frag} : LiftL K (rMax K) oMax1 := by
  intro O H xs ds QD Q _ hx q fin
  unfold oMax1 at q
  split at q
  · cases hx with
    | cons h1 h2 =>
      cases h2
      cases h1 with
      | lst a1 a2 =>
        rename_i es _ _
        cases e : intsOf es with
        | none => rw [e] at q; exact q.elim
        | some ns =>
          rw [e] at q
          have e2 := intsOf_dp a2 e
          subst e2
          exact ⟨_, ns, rfl, Same.seq same_hide a1, q.1, fun m hm hy => fin _ H (.v _) (Same.refl H) (.int _) (q.2 m hm hy)⟩
  · exact q.elim
theorem lift_min1 {K : PySem.W.Frag} : LiftL K (rMin K) oMin1 := by
  intro O H xs ds QD Q _ hx q fin
  unfold oMin1 at q
  split at q
  · cases hx with
    | cons h1 h2 =>
      cases h2
      cases h1 with
      | lst a1 a2 =>
        rename_i es _ _
        cases e : intsOf es with
        | none => rw [e] at q; exact q.elim
        | some ns =>
          rw [e] at q
          have e2 := intsOf_dp a2 e
          subst e2
          exact ⟨_, ns, rfl, Same.seq same_hide a1, q.1, fun m hm hy => fin _ H (.v _) (Same.refl H) (.int _) (q.2 m hm hy)⟩
  · exact q.elim
section
variable {X : Cx} {g : G} {W : WX} {e : Expr} {es : List Expr} {wa : WA} {p pos : Pos}
theorem ee_max1 (hc : X.calm = true) (hg : Gl X "max") (hm : X.mg "max" = none) (ha : EA X g W (e :: es) wa) (he : starEach (e :: es) X.env = (false, eval e X.env) :: starEach es X.env := by rfl) (hpl : (backTo pos (starEach es X.env)).any (·.1) = false := by rfl) : EE X g W (.Call (.Name "max" p) (e :: es) [] pos) (wL oMax1 wa) :=
  ee_cb (cr_max hc) lift_max1 hg hm rfl ha (he := he) (hpl := hpl)
theorem ee_min1 (hc : X.calm = true) (hg : Gl X "min") (hm : X.mg "min" = none) (ha : EA X g W (e :: es) wa) (he : starEach (e :: es) X.env = (false, eval e X.env) :: starEach es X.env := by rfl) (hpl : (backTo pos (starEach es X.env)).any (·.1) = false := by rfl) : EE X g W (.Call (.Name "min" p) (e :: es) [] pos) (wL oMin1 wa) :=
  ee_cb (cr_min hc) lift_min1 hg hm rfl ha (he := he) (hpl := hpl)
end

/-! ### + of numbers, texts, tuples -/
def rPlus (K : PySem.W.Frag) : R2 := fun x y H Q => (∃ i j, x = .int i ∧ y = .int j ∧ Q (.int (i + j)) H) ∨ (∃ i j, x = .str i ∧ y = .str j ∧ i.length + j.length ≤ sizeLine ∧ Q (.str (i ++ j)) H) ∨ rCatA K x y H Q
section
variable {X : Cx}
theorem op_plus : OpR X (binaryOp .Add) (rPlus X.K) := by
  intro pins s σ H x y v u Q I rx ry h
  rcases h with h | h | h
  · exact op_add pins s σ H x y v u Q I rx ry h
  · exact op_add_str pins s σ H x y v u Q I rx ry h
  · exact op_catA pins s σ H x y v u Q I rx ry h
end
@[reducible] def oPlus : O2 := fun d1 d2 k => match d1, d2 with
  | .int i, .int j => k (.v (.int (i + j)))
  | .str i, .str j => i.length + j.length ≤ sizeLine ∧ k (.v (.str (i ++ j)))
  | .tuple ds, .tuple es => ds.length + es.length ≤ sizeLine ∧ k (.v (.tuple (ds ++ es)))
  | _, _ => False
theorem DpAll.nil_iff {K : PySem.W.Frag} {B : Hp} {xs : List V} {ds : List D} (h : DpAll K B xs ds) : xs = [] ↔ ds = [] := by
  cases h <;> simp
theorem lift_plus {K : PySem.W.Frag} : Lift2 K (rPlus K) oPlus := by
  intro O H x y dx dy QD Q hO hx hy q fin
  cases hx with
  | int i =>
    cases hy <;> try exact q.elim
    exact .inl ⟨_, _, rfl, rfl, fin _ H (.v _) (Same.refl H) (.int _) q⟩
  | str i =>
    cases hy <;> try exact q.elim
    exact .inr (.inl ⟨_, _, rfl, rfl, q.1, fin _ H (.v _) (Same.refl H) (.str _) q.2⟩)
  | tup h1 h2 =>
    cases hy with
    | tup g1 g2 =>
      rename_i a xs ds b ys es
      refine .inr (.inr ⟨_, _, _, _, rfl, rfl, seqT_same same_hide h1, seqT_same same_hide g1, by rw [DL.DpAll.len h2, DL.DpAll.len g2]; exact q.1, fun z => ?_, fun z1 z2 => ?_, fun z1 z2 p n => ?_⟩)
      · have e := (DpAll.nil_iff h2).mp z
        have q2 := q.2
        rw [e, List.nil_append] at q2
        exact fin _ H (.v _) (Same.refl H) (.tup g1 g2) q2
      · have e := (DpAll.nil_iff g2).mp z2
        have q2 := q.2
        rw [e, List.append_nil] at q2
        exact fin _ H (.v _) (Same.refl H) (.tup h1 h2) q2
      · exact fin _ _ (.v _) (same_new n) (new_tup n (fun z => by obtain ⟨u, e⟩ := hO p z; rw [n] at e; cases e) (DL.DpAll.app h2 g2)) q.2
    | _ => exact q.elim
  | _ => exact q.elim
theorem ee_plus {X : Cx} {g : G} {W : WX} {a b : Expr} {wa wb : WE} {pos : Pos} {P : Prop} (_ : P) (ha : EE X g W a wa) (hb : EE X g W b wb) : EE X g W (.BinOp a .Add b pos) (wB oPlus wa wb) := by
  obtain ⟨ta, p1, s1⟩ := ha.ex
  obtain ⟨tb, p2, s2⟩ := hb.ex
  exact ⟨_, pe_op op_plus p1 p2, sem_op lift_plus s1 s2⟩
/-! ### int of a text -/
@[reducible] def oIntS : OL := fun ds k => match ds with
  | [.str a] => optK (PySem.intText? a) fun n => a.length ≤ 640 ∧ k (.v (.int n))
  | _ => False
theorem lift_intS {K : PySem.W.Frag} : LiftL K (fun xs H Q => ∃ a n, xs = [.str a] ∧ PySem.intText? a = some n ∧ a.length ≤ 640 ∧ Q (.int n) H) oIntS := by
  intro O H xs ds QD Q _ hx q fin
  unfold oIntS at q
  split at q
  · rename_i a
    cases hx with
    | cons h1 h2 =>
      cases h2
      cases h1
      cases e : PySem.intText? a with
      | none => rw [e] at q; exact q.elim
      | some n =>
        rw [e] at q
        exact ⟨a, n, rfl, e, q.1, fin _ H (.v _) (Same.refl H) (.int _) q.2⟩
  · exact q.elim
theorem ee_intS {X : Cx} {g : G} {W : WX} {e : Expr} {es : List Expr} {wa : WA} {p pos : Pos} (hg : Gl X "int") (hm : X.mg "int" = none) (ha : EA X g W (e :: es) wa) (he : starEach (e :: es) X.env = (false, eval e X.env) :: starEach es X.env := by rfl) (hpl : (backTo pos (starEach es X.env)).any (·.1) = false := by rfl) : EE X g W (.Call (.Name "int" p) (e :: es) [] pos) (wL oIntS wa) :=
  ee_ct call_int_str lift_intS hg hm rfl ha (he := he) (hpl := hpl)
end DL

set_option Elab.async false
set_option linter.all false
set_option maxRecDepth 100000
set_option maxHeartbeats 4000000
/-! DL: facts of data: how deep, equal or not -/
namespace DL
open PySem PySem.Spec PyProof.Rows L2
/-- data that can be compared, at most k deep -/
structure Lay (k : Nat) (d : D) : Prop where
  ok : d.canLay0 = true
  dp : d.depth ≤ k
theorem Lay.up {k m : Nat} {d : D} (h : Lay k d) (l : k ≤ m) : Lay m d := ⟨h.ok, Nat.le_trans h.dp l⟩
theorem Lay.int {k : Nat} (i : Int) : Lay k (.int i) := ⟨rfl, by simp [PyData.depth]⟩
theorem Lay.bool {k : Nat} (b : Bool) : Lay k (.bool b) := ⟨rfl, by simp [PyData.depth]⟩
theorem Lay.none {k : Nat} : Lay k .none := ⟨rfl, by simp [PyData.depth]⟩
theorem Lay.str {k : Nat} {x : Str} (h : PyData.canLay0 (.str x) = true) : Lay k (.str x) := ⟨h, by simp [PyData.depth]⟩
theorem lay_all {k : Nat} : ∀ {ds : List D}, (∀ d ∈ ds, Lay k d) → PyData.canLayAll0 ds = true ∧ PyData.depthAll ds ≤ k
  | [], _ => ⟨rfl, by simp [PyData.depthAll]⟩
  | d :: ds, h => by
    obtain ⟨h1, h2⟩ := lay_all (ds := ds) fun e he => h e (.tail _ he)
    obtain ⟨g1, g2⟩ := h d (.head _)
    refine ⟨by rw [PyData.canLayAll0, g1, h1]; rfl, ?_⟩
    simp only [PyData.depthAll]
    omega
theorem Lay.tuple {k : Nat} {ds : List D} (h : ∀ d ∈ ds, Lay k d) : Lay (k + 1) (.tuple ds) := by
  obtain ⟨h1, h2⟩ := lay_all h
  exact ⟨by rw [PyData.canLay0]; exact h1, by simp only [PyData.depth]; omega⟩
theorem Lay.list {k : Nat} {ds : List D} (h : ∀ d ∈ ds, Lay k d) : Lay (k + 1) (.list ds) := by
  obtain ⟨h1, h2⟩ := lay_all h
  exact ⟨by rw [PyData.canLay0]; exact h1, by simp only [PyData.depth]; omega⟩
theorem Lay.shaped {k : Nat} {d : D} (h : Lay k d) (l : k ≤ 64 := by decide) : SeqAt.shaped d = true := by
  show (d.canLay0 && decide (d.depth ≤ 64)) = true
  rw [Bool.and_eq_true]
  exact ⟨h.ok, decide_eq_true (Nat.le_trans h.dp l)⟩
theorem Lay.refl {k : Nat} {d : D} (h : Lay k d) : PyData.eqv d d = true := SeqAt.eqv_refl d h.ok
theorem memD_of {k : Nat} {d : D} {ds : List D} (h : Lay k d) (m : d ∈ ds) : memD d ds = true := List.any_eq_true.mpr ⟨d, m, h.refl⟩
theorem lay_ints {ns : List Int} : Lay 1 (.list (ns.map PyData.int)) := Lay.list fun d hd => by
  obtain ⟨i, _, rfl⟩ := List.mem_map.mp hd
  exact Lay.int i
theorem lay_intsT {ns : List Int} : Lay 1 (.tuple (ns.map PyData.int)) := Lay.tuple fun d hd => by
  obtain ⟨i, _, rfl⟩ := List.mem_map.mp hd
  exact Lay.int i
mutual
/-- no truths within -/
def nob : D → Bool
  | .bool _ => false
  | .dict _ => false
  | .list xs => nobAll xs
  | .tuple xs => nobAll xs
  | .none => true
  | .int _ => true
  | .str _ => true
def nobAll : List D → Bool
  | [] => true
  | x :: xs => nob x && nobAll xs
end
mutual
theorem eqv_iff : ∀ (d e : D), nob d = true → nob e = true → (PyData.eqv d e = true ↔ d = e)
  | .none, e, _, h => by cases e <;> simp_all [PyData.eqv, nob]
  | .int i, e, _, h => by cases e <;> simp_all [PyData.eqv, nob]
  | .str x, e, _, h => by cases e <;> simp_all [PyData.eqv, nob]
  | .list xs, e, h1, h => by
    cases e with
    | list ys => rw [PyData.eqv, eqvAll_iff xs ys (by simpa [nob] using h1) (by simpa [nob] using h)]; simp
    | _ => simp_all [PyData.eqv, nob]
  | .tuple xs, e, h1, h => by
    cases e with
    | tuple ys => rw [PyData.eqv, eqvAll_iff xs ys (by simpa [nob] using h1) (by simpa [nob] using h)]; simp
    | _ => simp_all [PyData.eqv, nob]
  | .bool _, _, h, _ => by simp [nob] at h
  | .dict _, _, h, _ => by simp [nob] at h
theorem eqvAll_iff : ∀ (xs ys : List D), nobAll xs = true → nobAll ys = true → (PyData.eqvAll xs ys = true ↔ xs = ys)
  | [], [], _, _ => by simp [PyData.eqvAll]
  | [], _ :: _, _, _ => by simp [PyData.eqvAll]
  | _ :: _, [], _, _ => by simp [PyData.eqvAll]
  | x :: xs, y :: ys, h1, h2 => by
    have a : nob x = true ∧ nobAll xs = true := by simpa [nobAll] using h1
    have b : nob y = true ∧ nobAll ys = true := by simpa [nobAll] using h2
    rw [PyData.eqvAll, Bool.and_eq_true, eqv_iff x y a.1 b.1, eqvAll_iff xs ys a.2 b.2]
    simp
end
theorem eqv_no {d e : D} (h : nob d = true) (h' : nob e = true) (n : d ≠ e) : PyData.eqv d e = false := by
  cases q : PyData.eqv d e with
  | true => exact absurd ((eqv_iff d e h h').mp q) n
  | false => rfl
theorem eqv_self {d : D} (h : nob d = true) : PyData.eqv d d = true := (eqv_iff d d h h).mpr rfl
theorem nobAll_of {ds : List D} (h : ∀ d ∈ ds, nob d = true) : nobAll ds = true := by
  induction ds with
  | nil => rfl
  | cons d ds ih => rw [nobAll, h d (.head _), ih fun e he => h e (.tail _ he)]; rfl
theorem nob_tup {ds : List D} (h : ∀ d ∈ ds, nob d = true) : nob (.tuple ds) = true := by rw [nob]; exact nobAll_of h
theorem nob_lst {ds : List D} (h : ∀ d ∈ ds, nob d = true) : nob (.list ds) = true := by rw [nob]; exact nobAll_of h

/-! ### comprehensions -/
theorem lcK_ind {T : List Nat} {wg : WG} {wt : WT} {we : WE} {k : List D → Rho → Prop} (I : List D → List D → Rho → Prop) (h0 : ∀ acc ρ, I [] acc ρ → k acc ρ)
    (h1 : ∀ d ds acc ρ (next : List D → Rho → Prop), (∀ acc' ρ', I ds acc' ρ' → next acc' ρ') → I (d :: ds) acc ρ → wg d ρ fun ρ1 => wt ρ1 (fun b ρ2 => if b = true then we ρ2 (fun c ρ3 => match frzC c with
      | .v d' => next (acc ++ [d']) (clr T ρ3)
      | _ => False) (fun _ _ => False) else next acc (clr T ρ2)) (fun _ _ => False)) : ∀ ds acc ρ, I ds acc ρ → lcK T wg wt we ds acc ρ k
  | [], acc, ρ, h => h0 acc ρ h
  | d :: ds, acc, ρ, h => h1 d ds acc ρ _ (fun acc' ρ' h' => lcK_ind I h0 h1 ds acc' ρ' h') h
/-- a comprehension whose items are told by functions, the state at rest -/
theorem lcK_fm {T : List Nat} {wg : WG} {wt : WT} {we : WE} {k : List D → Rho → Prop} {ρ0 : Rho} (f : D → Option D) :
    ∀ (ds acc : List D), (∀ d ∈ ds, ∀ next : Option D → Rho → Prop, next (f d) ρ0 → wg d ρ0 fun ρ1 => wt ρ1 (fun b ρ2 => if b = true then we ρ2 (fun c ρ3 => match frzC c with
      | .v d' => next (some d') (clr T ρ3)
      | _ => False) (fun _ _ => False) else next none (clr T ρ2)) (fun _ _ => False)) → k (acc ++ ds.filterMap f) ρ0 → lcK T wg wt we ds acc ρ0 k
  | [], acc, _, h => by
    rw [List.filterMap_nil, List.append_nil] at h
    exact h
  | d :: ds, acc, h1, h => by
    refine h1 d (.head _) (fun o ρ => match o with
      | some d' => lcK T wg wt we ds (acc ++ [d']) ρ k
      | none => lcK T wg wt we ds acc ρ k) ?_
    have rest : ∀ acc', k (acc' ++ ds.filterMap f) ρ0 → lcK T wg wt we ds acc' ρ0 k := fun acc' => lcK_fm f ds acc' fun e he => h1 e (.tail _ he)
    cases e : f d with
    | none =>
      show lcK T wg wt we ds acc ρ0 k
      refine rest acc ?_
      rw [List.filterMap_cons, e] at h
      exact h
    | some d' =>
      show lcK T wg wt we ds (acc ++ [d']) ρ0 k
      refine rest _ ?_
      rw [List.filterMap_cons, e] at h
      rw [List.append_assoc]
      exact h
theorem eqv_lnil {ds : List D} : PyData.eqv (.list ds) (.list []) = ds.isEmpty := by cases ds <;> simp [PyData.eqv, PyData.eqvAll]
theorem eqv_tnil {ds : List D} : PyData.eqv (.tuple ds) (.tuple []) = ds.isEmpty := by cases ds <;> simp [PyData.eqv, PyData.eqvAll]
theorem ixN_of {n : Nat} {k : Int} (h0 : 0 ≤ k) (h1 : k < n) : ixN n k = some k.toNat := by
  unfold ixN
  rw [if_pos h0, if_pos h1]
theorem atI_of {α : Type} {ds : List α} {k : Int} {d : α} (h0 : 0 ≤ k) (h : ds[k.toNat]? = some d) : atI ds k = some d := by
  have e : ((k.toNat : Nat) : Int) = k := by omega
  rw [← e]
  exact L2.atI_nat h
theorem setI_of {α : Type} {ds : List α} {k : Int} {d : α} (h0 : 0 ≤ k) (h1 : k < ds.length) : setI ds k d = some (ds.set k.toNat d) := by
  unfold setI
  rw [ixN_of h0 h1]
  rfl
theorem rangeD_cons {lo : Int} {n : Nat} : rangeD lo (n + 1) = .int lo :: rangeD (lo + 1) n := by
  unfold rangeD
  rw [List.range_succ_eq_map, List.map_cons, List.map_map]
  have e : lo + ((0 : Nat) : Int) = lo := by omega
  rw [e]
  congr 1
  apply List.map_congr_left
  intro k _
  show PyData.int (lo + ((k + 1 : Nat) : Int)) = .int (lo + 1 + (k : Int))
  congr 1
  omega
theorem rangeD_zero {lo : Int} : rangeD lo 0 = [] := rfl
theorem rangeD_len {lo : Int} {n : Nat} : (rangeD lo n).length = n := by simp [rangeD]
theorem lcK_eq {T : List Nat} {wg : WG} {wt : WT} {we : WE} {ds acc : List D} {ρ ρ' : Rho} {k : List D → Rho → Prop} (e : ρ = ρ') (h : lcK T wg wt we ds acc ρ' k) : lcK T wg wt we ds acc ρ k := by
  subst e
  exact h
theorem forK_eq {wg : WG} {wb : WS} {ds : List D} {DD : EndsD} {ρ ρ' : Rho} (e : ρ = ρ') (h : forK wg wb ds DD ρ') : forK wg wb ds DD ρ := by
  subst e
  exact h
/-- a comprehension over things told by xs -/
theorem lcK_xs {α : Type} {T : List Nat} {wg : WG} {wt : WT} {we : WE} {k : List D → Rho → Prop} {ρ0 : Rho} {inj : α → D} (g : α → Option D) :
    ∀ (xs : List α) (acc : List D), (∀ x ∈ xs, ∀ next : Option D → Rho → Prop, next (g x) ρ0 → wg (inj x) ρ0 fun ρ1 => wt ρ1 (fun b ρ2 => if b = true then we ρ2 (fun c ρ3 => match frzC c with
      | .v d' => next (some d') (clr T ρ3)
      | _ => False) (fun _ _ => False) else next none (clr T ρ2)) (fun _ _ => False)) → k (acc ++ xs.filterMap g) ρ0 → lcK T wg wt we (xs.map inj) acc ρ0 k
  | [], acc, _, h => by
    rw [List.filterMap_nil, List.append_nil] at h
    exact h
  | x :: xs, acc, h1, h => by
    refine h1 x (.head _) (fun o ρ => match o with
      | some d' => lcK T wg wt we (xs.map inj) (acc ++ [d']) ρ k
      | none => lcK T wg wt we (xs.map inj) acc ρ k) ?_
    have rest : ∀ acc', k (acc' ++ xs.filterMap g) ρ0 → lcK T wg wt we (xs.map inj) acc' ρ0 k := fun acc' => lcK_xs g xs acc' fun e he => h1 e (.tail _ he)
    cases e : g x with
    | none =>
      show lcK T wg wt we (xs.map inj) acc ρ0 k
      refine rest acc ?_
      rw [List.filterMap_cons, e] at h
      exact h
    | some d' =>
      show lcK T wg wt we (xs.map inj) (acc ++ [d']) ρ0 k
      refine rest _ ?_
      rw [List.filterMap_cons, e] at h
      rw [List.append_assoc]
      exact h
/-- one that leaves nothing out -/
theorem lcK_ys {α : Type} {T : List Nat} {wg : WG} {wt : WT} {we : WE} {k : List D → Rho → Prop} {ρ0 : Rho} {inj : α → D} (g : α → D) (xs : List α)
    (h : ∀ x ∈ xs, ∀ next : Option D → Rho → Prop, next (some (g x)) ρ0 → wg (inj x) ρ0 fun ρ1 => wt ρ1 (fun b ρ2 => if b = true then we ρ2 (fun c ρ3 => match frzC c with
      | .v d' => next (some d') (clr T ρ3)
      | _ => False) (fun _ _ => False) else next none (clr T ρ2)) (fun _ _ => False)) (fin : k (xs.map g) ρ0) : lcK T wg wt we (xs.map inj) [] ρ0 k := by
  refine lcK_xs (fun x => some (g x)) xs [] h ?_
  rw [List.nil_append]
  have e : xs.filterMap (fun x => some (g x)) = xs.map g := by
    clear h fin
    induction xs with
    | nil => rfl
    | cons x xs ih => rw [List.filterMap_cons, List.map_cons, ih]
  rw [e]
  exact fin
/-- one over numbers in a row -/
theorem lcK_rg {T : List Nat} {wg : WG} {wt : WT} {we : WE} {k : List D → Rho → Prop} {ρ0 : Rho} {lo : Int} (g : Nat → Option D) (n : Nat)
    (h : ∀ x, x < n → ∀ next : Option D → Rho → Prop, next (g x) ρ0 → wg (.int (lo + (x : Nat))) ρ0 fun ρ1 => wt ρ1 (fun b ρ2 => if b = true then we ρ2 (fun c ρ3 => match frzC c with
      | .v d' => next (some d') (clr T ρ3)
      | _ => False) (fun _ _ => False) else next none (clr T ρ2)) (fun _ _ => False)) (fin : k ((List.range n).filterMap g) ρ0) : lcK T wg wt we (rangeD lo n) [] ρ0 k := by
  refine lcK_xs (inj := fun (x : Nat) => PyData.int (lo + x)) g (List.range n) [] (fun x hx => h x (List.mem_range.mp hx)) ?_
  rw [List.nil_append]
  exact fin
theorem lfreeAll_of : ∀ {ds : List D}, (∀ d ∈ ds, lfree d = true) → lfree.lfreeAll ds = true
  | [], _ => rfl
  | d :: ds, h => by
    rw [lfree.lfreeAll, h d (.head _), lfreeAll_of fun e he => h e (.tail _ he)]
    rfl
theorem lfree_tup {ds : List D} (h : ∀ d ∈ ds, lfree d = true) : lfree (.tuple ds) = true := by
  show lfree.lfreeAll ds = true
  exact lfreeAll_of h
theorem lf_ints {k : Nat} {ns : List Int} : C.lf (.own k (.lst (ns.map PyData.int))) = true := by
  show lfree.lfreeAll _ = true
  refine lfreeAll_of fun d hd => ?_
  obtain ⟨x, _, rfl⟩ := List.mem_map.mp hd
  rfl
theorem lf_strs {k : Nat} {ns : List Str} : C.lf (.own k (.lst (ns.map PyData.str))) = true := by
  show lfree.lfreeAll _ = true
  refine lfreeAll_of fun d hd => ?_
  obtain ⟨x, _, rfl⟩ := List.mem_map.mp hd
  rfl
theorem isT_tuple_none {b : Bool} {i : Int} {x : Str} {ds : List D} : isT "tuple" PyData.none = false := by simp [isT]
theorem isT_tuple_bool {b : Bool} {i : Int} {x : Str} {ds : List D} : isT "tuple" (.bool b) = false := by simp [isT]
theorem isT_tuple_int {b : Bool} {i : Int} {x : Str} {ds : List D} : isT "tuple" (.int i) = false := by simp [isT]
theorem isT_tuple_str {b : Bool} {i : Int} {x : Str} {ds : List D} : isT "tuple" (.str x) = false := by simp [isT]
theorem isT_tuple_list {b : Bool} {i : Int} {x : Str} {ds : List D} : isT "tuple" (.list ds) = false := by simp [isT]
theorem isT_tuple_tuple {b : Bool} {i : Int} {x : Str} {ds : List D} : isT "tuple" (.tuple ds) = true := by simp [isT]
theorem isT_int_none {b : Bool} {i : Int} {x : Str} {ds : List D} : isT "int" PyData.none = false := by simp [isT]
theorem isT_int_bool {b : Bool} {i : Int} {x : Str} {ds : List D} : isT "int" (.bool b) = true := by simp [isT]
theorem isT_int_int {b : Bool} {i : Int} {x : Str} {ds : List D} : isT "int" (.int i) = true := by simp [isT]
theorem isT_int_str {b : Bool} {i : Int} {x : Str} {ds : List D} : isT "int" (.str x) = false := by simp [isT]
theorem isT_int_list {b : Bool} {i : Int} {x : Str} {ds : List D} : isT "int" (.list ds) = false := by simp [isT]
theorem isT_int_tuple {b : Bool} {i : Int} {x : Str} {ds : List D} : isT "int" (.tuple ds) = false := by simp [isT]
theorem isT_bool_none {b : Bool} {i : Int} {x : Str} {ds : List D} : isT "bool" PyData.none = false := by simp [isT]
theorem isT_bool_bool {b : Bool} {i : Int} {x : Str} {ds : List D} : isT "bool" (.bool b) = true := by simp [isT]
theorem isT_bool_int {b : Bool} {i : Int} {x : Str} {ds : List D} : isT "bool" (.int i) = false := by simp [isT]
theorem isT_bool_str {b : Bool} {i : Int} {x : Str} {ds : List D} : isT "bool" (.str x) = false := by simp [isT]
theorem isT_bool_list {b : Bool} {i : Int} {x : Str} {ds : List D} : isT "bool" (.list ds) = false := by simp [isT]
theorem isT_bool_tuple {b : Bool} {i : Int} {x : Str} {ds : List D} : isT "bool" (.tuple ds) = false := by simp [isT]
theorem isT_str_none {b : Bool} {i : Int} {x : Str} {ds : List D} : isT "str" PyData.none = false := by simp [isT]
theorem isT_str_bool {b : Bool} {i : Int} {x : Str} {ds : List D} : isT "str" (.bool b) = false := by simp [isT]
theorem isT_str_int {b : Bool} {i : Int} {x : Str} {ds : List D} : isT "str" (.int i) = false := by simp [isT]
theorem isT_str_str {b : Bool} {i : Int} {x : Str} {ds : List D} : isT "str" (.str x) = true := by simp [isT]
theorem isT_str_list {b : Bool} {i : Int} {x : Str} {ds : List D} : isT "str" (.list ds) = false := by simp [isT]
theorem isT_str_tuple {b : Bool} {i : Int} {x : Str} {ds : List D} : isT "str" (.tuple ds) = false := by simp [isT]
theorem isT_list_none {b : Bool} {i : Int} {x : Str} {ds : List D} : isT "list" PyData.none = false := by simp [isT]
theorem isT_list_bool {b : Bool} {i : Int} {x : Str} {ds : List D} : isT "list" (.bool b) = false := by simp [isT]
theorem isT_list_int {b : Bool} {i : Int} {x : Str} {ds : List D} : isT "list" (.int i) = false := by simp [isT]
theorem isT_list_str {b : Bool} {i : Int} {x : Str} {ds : List D} : isT "list" (.str x) = false := by simp [isT]
theorem isT_list_list {b : Bool} {i : Int} {x : Str} {ds : List D} : isT "list" (.list ds) = true := by simp [isT]
theorem isT_list_tuple {b : Bool} {i : Int} {x : Str} {ds : List D} : isT "list" (.tuple ds) = false := by simp [isT]
theorem lcK_ds {T : List Nat} {wg : WG} {wt : WT} {we : WE} {ds ds' acc : List D} {ρ : Rho} {k : List D → Rho → Prop} (e : ds = ds') (h : lcK T wg wt we ds' acc ρ k) : lcK T wg wt we ds acc ρ k := by
  subst e
  exact h
theorem forK_ds {wg : WG} {wb : WS} {ds ds' : List D} {DD : EndsD} {ρ : Rho} (e : ds = ds') (h : forK wg wb ds' DD ρ) : forK wg wb ds DD ρ := by
  subst e
  exact h
end DL

set_option Elab.async false
set_option linter.all false
/-! the head: a law's promise over data -/
namespace DL
open PySem PySem.Spec PyProof.Rows L2
theorem mkG_start {K : PySem.W.Frag} {H : Hp} {x : V} {d : D} (h : Dp K H x d) : SR K (mkG H [x] [.v d] [] L0) [some x] [] H [.v d] [] := by
  have e : tot [some x] [] [C.v d] [] = [] := by
    show foot [] [] ++ (footC (some x) (.v d) ++ foot [] []) = []
    cases x <;> rfl
  refine ⟨fun a o q _ => q, fun a o q => ⟨o, q⟩, fun a z => (by cases z), fun a z => ?_, ?_, ?_, ?_, fun i z => ?_⟩
  · rw [e] at z; cases z
  · rw [e]; exact .nil
  · rw [e]
    refine ⟨⟨x, rfl, dp_mono (fun a o q => hide_some.mpr ⟨fun z => (by cases z), q⟩) _ _ h⟩, trivial⟩
  · trivial
  · rcases z with z | z <;> cases z
theorem sp_law {K : PySem.W.Frag} {S : SpD} {n : Nat} (hn : n ≤ sizeLine) (law_in : ∀ ns : List Int, ns.length ≤ n → S [.v (.list (ns.map PyData.int))] (fun c _ => c = .v (.bool true)) (fun _ _ => False))
    (H : Hp) (a : Addr) (ns : List Int) (hl : ns.length ≤ n) (hO : L2.Only H) (hS : SqL K H a (ns.map V.int)) : spOf K S [.ref a] H (fun v _ => v = .bl true) fun _ _ _ => False := by
  have hd : Dp K H (.ref a) (.list (ns.map PyData.int)) := by
    refine .lst hS ?_
    clear hS hl
    induction ns with
    | nil => exact .nil
    | cons i ns ih => exact .cons (.int i) ih
  refine ⟨[.v (.list (ns.map PyData.int))], [], _, _, mkG_start hd, law_in ns hl, fun c rs _ e v H' S1 => ?_, fun x rs z => z.elim⟩
  subst e
  obtain ⟨y, e1, e2⟩ := S1.tp.1
  cases e1
  cases e2
  rfl
theorem walk_dl {l : PySem.W.OpenLaw} {n k : Nat} {q : Program} {loose : List Str} {XP : (Str → Option Value) → Heap → Prop} {YP : World → Heap → Prop} {d : DefRec} {x : Str}
    (hn : l.most = some n) (hn2 : n ≤ sizeLine) (hdf : d.params.defaults = []) (hr : Room k callerA) {S : SpD}
    (F : ∀ (w : World) (mg : Str → Option Value) (fa : Addr) (h : Heap), YP w h → h.Ns mainGlobals mg → mg d.name = some (.ref fa) →
      ∃ (K : PySem.W.Frag) (fd : FuncData), K.In h ∧ (∀ (s : Shared) (u : Value), BindsTo s fd ⟨[u], []⟩ [(x, u)]) ∧
        ∀ base : Heap, K.In base → base.Ns mainGlobals mg → FnOk l.prog w K mg base (L2.CX l.prog w) k fa fd [x] (spOf K S))
    (law_in : ∀ ns : List Int, ns.length ≤ n → S [.v (.list (ns.map PyData.int))] (fun c _ => c = .v (.bool true)) (fun _ _ => False)) :
    PySem.W.WalkO q loose XP YP l.row.toRowW d [] (fun f vs => PySem.call f vs) := by
  refine Att.attach_call hn hdf fun w s₀ s₁ mg mb fa o pm cd doc a vs ns G Y ho hd hcd hmg hobj hints hlen hg => ?_
  obtain ⟨K, fd, KX, hb, hF⟩ := F w mg fa _ Y G.T.g hmg
  exact law_call KX G.T.g G.T.b G.T.builtins G.T.nolimit hg hobj hints (Nat.le_trans hlen hn2) hr hF hb (fun H hO hS => sp_law hn2 law_in H a ns hlen hO hS) fun H e s' h => by
    obtain ⟨_, _, _, _, _, _, _, _, _, _, _, _, z⟩ := h
    exact z.elim
end DL

set_option Elab.async false
set_option linter.all false
set_option maxRecDepth 100000
set_option maxHeartbeats 4000000
/-! DL, at the machine's level: set(list of ints), sorted(set) of any size, min with a default -/
namespace DLS
open PySem PySem.Spec PyProof.Rows L2
section
variable {P : Program} {w : World} {A : Around} {E : Value → Shared → Prop} {s : Shared}
abbrev set0 (w : World) : Obj := { cls := .type "set", dict := none, data := .set #[] 0 (.fresh 0 0 (!w.params.followText "set-order")) }
abbrev GoalS (P : Program) (w : World) (s : Shared) (ns : List Int) (s₂ : Shared) : Prop := ∃ h' tk c, s₂ = { s with heap := h', toks := tk } ∧ SetR w h' s.heap.objs.size (fun j => decide (j ∈ ns)) c ∧ c ≤ ns.length ∧ ∀ b o, s.heap.get? b = some o → h'.get? b = some o
/-- the filling of a new set from a list of whole numbers -/
theorem init_listI {l : Addr} {items : Array Value} {ns : List Int} (hh : A.handled = none) (hl : s.heap.IsList l items) (hit : IntsAre items.toList ns) (hb : ns.length + 1 < scanBound) :
    codeAny (model P w) A (.call (.builtin "set.__init__") ⟨[.ref s.heap.objs.size, .ref l], []⟩) (wants (fun r s₂ => r = .none ∧ GoalS P w s ns s₂) E) { s with heap := s.heap.push (set0 w) } := by
  have hisz : items.size = ns.length := (Array.length_toList (xs := items)).symm.trans (IntsAre.length hit)
  have hS : (s.heap.push (set0 w)).get? s.heap.objs.size = some (set0 w) := Heap.get?_push_size _ rfl
  refine codeAny_call_builtin F.called_set.init.plain F.entry_set_init (check_set_init_1 ⟨_, hS, rfl⟩ ?_)
  obtain ⟨ol, hol, hcl, nl, hdl⟩ := id hl
  obtain ⟨ocls, odict, odata, oslots⟩ := ol
  simp only at hcl hdl; subst hcl hdl
  have hl1 : (s.heap.push (set0 w)).IsList l items := hl.push _
  have hol' : (s.heap.push (set0 w)).get? l = some { cls := .type "list", dict := odict, data := .seq items nl, slots := oslots } := Heap.get?_push_of_some _ hol
  have k1 := F.sub_list_set; have k2 := F.sub_list_frozenset
  have k3 : (Value.type "list" == Value.type "dict") = false := by decide
  unfold Builtin.«set.__init__» noKeywords Builtin.Frozenset.updateFrom
  generalize hPI : pyIter = PI
  wp_walk
  subst hPI
  refine wpAny_pyIter_list hl1 (wpAny_bind (wpAny_runValue ?_))
  have lt : l < s.heap.objs.size := Heap.lt_size hol
  have z1 : (s.heap.push (set0 w)).objs.size = s.heap.objs.size + 1 := Heap.size_push ..
  have hh3 : A.in1.in1.handled = none := by simp [hh]
  have n1 : l ≠ (s.heap.push (set0 w)).objs.size := by rw [z1]; exact Nat.ne_of_lt (Nat.lt_succ_of_lt lt)
  have n2 : s.heap.objs.size ∉ [(s.heap.push (set0 w)).objs.size, l] := by
    rw [z1]; simp only [List.mem_cons, List.not_mem_nil, or_false]
    exact fun z => z.elim (fun z => absurd z (Nat.ne_of_lt (Nat.lt_succ_self _))) fun z => absurd z (Nat.ne_of_gt lt)
  have hv : ∀ (i : Nat) (v : Value), items[i]? = some v → ∃ k t, ns[i]? = some k ∧ v = .int k t := by
    intro i v e
    have hi : i < ns.length := by rw [← hisz]; exact (Array.getElem?_eq_some_iff.mp e).1
    obtain ⟨t, q⟩ := IntsAre.int_at hit i v (by rw [Array.getElem?_toList]; exact e)
    rw [List.getD_eq_getElem?_getD, List.getElem?_eq_getElem hi] at q
    exact ⟨ns[i], t, List.getElem?_eq_getElem hi, q⟩
  refine set_update_ints (Walks.list hh3 _ l n1 items).toS s.heap.objs.size n2 ns hisz hb hv (items.size - 0) 0 { s with heap := (s.heap.push (set0 w)).push { cls := .type "list_iterator", data := .fields #[.ref l, .int 0 0] } } (by omega) (Nat.zero_le _)
    ⟨⟨_, Heap.get?_push_size _ rfl, rfl, rfl⟩, hl1.push _⟩ ?_ fun s' c' hm hc' hS' => ?_
  · exact ⟨0, Nat.le_refl 0, setR_new_at (h := (s.heap.push (set0 w)).push { cls := .type "list_iterator", data := .fields #[.ref l, .int 0 0] }) (Heap.get?_push_of_some _ hS)⟩
  obtain ⟨h', g2, d', tk', os'⟩ := s'
  obtain rfl : g2 = s.gens := hm.gens
  obtain rfl : d' = s.drawn := hm.drawn
  obtain rfl : os' = s.os := hm.os
  rw [hisz] at hc'
  refine wpAny_pure ?_
  show wpAny _ _ (ret Value.none) _ _ _
  refine wpAny_pure ⟨rfl, h', tk', c', rfl, hS', hc', fun b o e => ?_⟩
  have b0 : b < s.heap.objs.size := Heap.lt_size e
  refine hm.heap b o ?_ (Heap.get?_push_of_some _ (Heap.get?_push_of_some _ e))
  rw [z1]; simp only [List.mem_cons, List.not_mem_nil, or_false]
  exact fun z => z.elim (fun z => absurd z (Nat.ne_of_lt b0)) fun z => absurd z (Nat.ne_of_lt (Nat.lt_succ_of_lt b0))
/-- set(l), l a list of whole numbers -/
theorem call_set_listI {l : Addr} {items : Array Value} {ns : List Int} {Q : Value → Shared → Prop} (hh : A.handled = none) (hl : s.heap.IsList l items) (hit : IntsAre items.toList ns) (hb : ns.length + 1 < scanBound)
    (h : ∀ s₂, GoalS P w s ns s₂ → Q (.ref s.heap.objs.size) s₂) : wpAny (model P w) A (call (.type "set") [.ref l]) Q E s := by
  obtain ⟨c, tl, hmro⟩ := F.called_set.mro
  have a1 := F.called_set.made; have a2 := F.called_set.sub; have a3 := F.called_set.notType
  have a4 := F.called_set.canCreate; have a5 := F.typeCall_set_1 (.ref l); have a6 := F.called_set.init.lookup
  refine wpAny_call (codeAny_of_tree ?_)
  show wpAny _ _ (callAny (.type "set") _) _ _ _
  refine wpAny_pure ⟨Code.quiet_builtin _ (by decide +kernel), codeAny_builtin F.entry_type_call ?_⟩
  rw [Around.under_plain (weight_type_call_type "set" [.ref l] []) rfl]
  repeat (any_goals (first | assumption | wp_step))
  refine codeAny_mono (code_set_led1 (.ref l) (E := E) (Q₁ := fun obj s₁ => obj = .ref s.heap.objs.size ∧ s₁ = { s with heap := s.heap.push (set0 w) }) ⟨rfl, rfl⟩) fun r s₁ hr => ?_
  match r, hr with
  | .error e, hr => exact hr
  | .ok (.ret obj), hr =>
    obtain ⟨rfl, rfl⟩ := hr
    have hT : Shared.TypeIs { s with heap := s.heap.push (set0 w) } (.ref s.heap.objs.size) "set" := ⟨_, Heap.get?_push_size _ rfl, rfl⟩
    have a7 := F.called_set.init.bind (.ref s.heap.objs.size)
    repeat (any_goals (first | assumption | wp_step))
    refine codeAny_mono (init_listI (E := E) hh hl hit hb) fun r₂ s₂ hr₂ => ?_
    match r₂, hr₂ with
    | .error e, hr₂ => exact hr₂
    | .ok (.ret r), hr₂ =>
      obtain ⟨rfl, hr₂⟩ := hr₂
      repeat (any_goals (first | assumption | wp_step))
      exact h _ hr₂
    | .ok .next, hr₂ => exact hr₂.elim
    | .ok .brk, hr₂ => exact hr₂.elim
    | .ok .cont, hr₂ => exact hr₂.elim
  | .ok .next, hr => exact hr.elim
  | .ok .brk, hr => exact hr.elim
  | .ok .cont, hr => exact hr.elim
/-- sorted(s), s a set of whole numbers of any size -/
theorem sorted_setI {a : Addr} {S : Int → Bool} {n : Nat} {Q : Value → Shared → Prop} (R : SetR w s.heap a S n) (hh : A.handled = none)
    (hQ : ∀ s' p (out : List Value) (c : Nat) (ms : List Int), (∀ b o, s.heap.get? b = some o → s'.heap.get? b = some o) → s'.gens = s.gens → s'.os = s.os → s.heap.objs.size ≤ p →
      s'.heap.get? p = some (seqObj "list" out.toArray c) → IntsAre out ms → ms.Pairwise (· < ·) → (∀ k, k ∈ ms ↔ S k = true) → ms.length = n → Q (.ref p) s') :
    wpAny (model P w) A (call (.builtin "sorted") [.ref a]) Q E s := by
  obtain ⟨o, es, ep, t, ho, hex, hd, g, nd, hm, hb, hf, hn, hr, hl⟩ := R
  refine Calls.call_function_entry kind_sorted plain_sorted entry_sorted (args_sorted1 _) ?_
  unfold Builtin.«sorted»
  refine wpAny_bind (m := checkCount "sorted" 1 1 _) (wpAny_pure ?_)
  refine wpAny_bind (collect_set (A := A.in1) hh ⟨o, ho, hex.1, hd⟩ hf hb hr hl fun s1 vs k1 hz g1 o1 pm => ?_)
  have e1 : vs.length = n := pm.length_eq.trans (by rw [List.length_map, Array.length_toList]; exact hn)
  have e2 : vs.length ≤ sizeLine := by rw [e1, ← hn, sizeLine_eq]; unfold scanBound at hb; omega
  have hI : IntsAre vs (vs.map SrtO.iv) := SrtO.ints_iv fun v hv => by
    obtain ⟨e, he, q⟩ := List.mem_map.mp (pm.mem_iff.mp hv)
    obtain ⟨k, tk, z, _⟩ := g e he
    exact ⟨k, tk, q.symm.trans z⟩
  have pk : (vs.map SrtO.iv).Perm (es.toList.map keyOf) := by
    have q := pm.map SrtO.iv
    rw [List.map_map] at q
    have e3 : es.toList.map (SrtO.iv ∘ fun x => x.2) = es.toList.map keyOf := List.map_congr_left fun e he => by
      obtain ⟨k, tk, z, _⟩ := g e he
      show SrtO.iv e.2 = keyOf e
      unfold keyOf
      rw [z]; rfl
    rw [e3] at q; exact q
  refine wpAny_bind (wpAny_newList ?_ e2)
  have hoL : (s1.heap.push (seqObj "list" vs.toArray 0)).get? s1.heap.objs.size = some (seqObj "list" vs.toArray 0) := Heap.get?_push_size _ rfl
  refine wpAny_bind (wpAny_holding (wpAny_call_entry slot_list_sort ⟨_, hoL, rfl⟩ entry_list_sort (SrtO.list_sort_ord (s := { s1 with heap := s1.heap.push (seqObj "list" vs.toArray 0) }) SrtO.swo_int hoL e2 (fun h2 => SrtO.ints_sortable hI h2) fun out h1 h2 => ⟨_, rfl, ?_⟩) (args_list_sort _)))
  obtain ⟨k2, k3, k4⟩ := SrtO.ints_out hI h1 h2
  obtain ⟨c, hc⟩ := sortedHeap_at (vs := vs) (out := out.toArray) hoL
  have pn := k3.trans pk
  refine wpAny_pure ⟨_, rfl, hQ _ s1.heap.objs.size out c (out.map SrtO.iv) (fun b u e => ?_) g1 o1 hz hc k2 (lt_of_le_nodup _ k4 (pn.nodup_iff.mpr nd)) (fun k => by rw [pn.mem_iff, ← hm k]) (pn.length_eq.trans (by rw [List.length_map, Array.length_toList]; exact hn))⟩
  have q := k1 b u e
  have lt := Heap.lt_size q
  exact (sortedHeap_old (Nat.ne_of_lt lt) (by rw [size_push']; exact Nat.lt_succ_of_lt lt)).trans (Heap.get?_push_of_some _ q)
/-! min(xs, default=d) -/
abbrev lstO (xs : Array Value) (c : Nat) : Obj := { cls := .type "list", dict := none, data := .seq xs c, slots := #[] }
theorem nm_min : (toString "min" ++ toString ".loop" : String) = "min.loop" := by decide
section
variable {R : Result → Shared → Prop} {I : Addr} {fp wr : List Addr} {n : Nat} {Pv : Nat → Value → Prop} {St : Nat → Heap → Prop} {d : Value}
/-- what is held of the best so far -/
def held (bt : Nat → Nat → Bool) (Pv : Nat → Value → Prop) : Nat → Array Value → Prop
  | 0, xs => xs = #[]
  | j + 1, xs => ∃ v, xs = #[v, v] ∧ Pv (argBest bt j) v
theorem min_turns (W : Walks P w A.in1 I fp wr n Pv St) (bt : Nat → Nat → Bool) (hcmp : CmpOf P w A.in1 .Lt Pv bt) (S : Addr) (hSf : S ∉ fp) :
    ∀ (k j : Nat) (s : Shared) (xs : Array Value) (c : Nat), n - j = k → j ≤ n → St j s.heap → held bt Pv j xs → s.heap.get? S = some (lstO xs c) →
    (∀ v h' tk, (n = 0 → v = d) → (0 < n → Pv (argBest bt (n - 1)) v) → (∀ b o, b ∉ wr → b ≠ S → s.heap.get? b = some o → h'.get? b = some o) → R (.ok (.ret v)) { s with heap := h', toks := tk }) →
    codeAny (model P w) A (.builtin "min.loop" ⟨[.ref I, .none, .ref S], [("default", d)]⟩) R s := by
  have hSw : S ∉ wr := fun h => hSf (W.sub _ h)
  intro k
  induction k with
  | zero =>
    intro j s xs c hk hj hst hx hS hR
    obtain rfl : j = n := by omega
    refine codeAny_builtin F.entry_min_loop ?_
    rw [Around.under_plainId F.plain_min_loop _]
    show wpAny _ A.in1 (seqItems? (.ref S) >>= _) _ _ s
    refine wpAny_bind (wpAny_seqItems hS rfl ?_)
    show wpAny _ A.in1 (tryCatch (pyNext (.ref I)) _ >>= _) _ _ s
    refine wpAny_bind (wpAny_tryCatch (W.done s _ _ hst fun h' tk hk' => ?_))
    have hS' := hk' S _ hSw hS
    cases j with
    | zero =>
      subst hx
      show wpAny _ A.in1 (rule "min.default" >>= fun _ => ret d) _ _ _
      exact wpAny_bind (wpAny_rule (wpAny_pure (hR d h' tk (fun _ => rfl) (fun z => absurd z (Nat.lt_irrefl 0)) fun b o hb _ e => hk' b o hb e)))
    | succ j =>
      obtain ⟨v, rfl, hp⟩ := hx
      show wpAny _ A.in1 (updateSeq S (fun _ => #[]) >>= _) _ _ _
      exact wpAny_bind (wpAny_updateSeq hS' rfl (wpAny_bind (wpAny_letGo (wpAny_pure (hR v _ tk (fun z => nomatch z) (fun _ => hp) fun b o hb hbS e => (Heap.get?_update_other _ _ (Ne.symm hbS)).trans (hk' b o hb e))))))
  | succ k ih =>
    intro j s xs c hk hj hst hx hS hR
    have lt : j < n := by omega
    refine codeAny_builtin F.entry_min_loop ?_
    rw [Around.under_plainId F.plain_min_loop _]
    show wpAny _ A.in1 (seqItems? (.ref S) >>= _) _ _ s
    refine wpAny_bind (wpAny_seqItems hS rfl ?_)
    show wpAny _ A.in1 (tryCatch (pyNext (.ref I)) _ >>= _) _ _ s
    refine wpAny_bind (wpAny_tryCatch (W.item j s _ _ lt hst fun v h' tk hP hst' hk' => ?_))
    have hS' := hk' S _ hSw hS
    have go : ∀ (xs' : Array Value), held bt Pv (j + 1) xs' → ∀ (h2 : Heap), (∀ b o, b ≠ S → h'.get? b = some o → h2.get? b = some o) → (∃ c', h2.get? S = some (lstO xs' c')) → wpAny (model P w) A.in1 (again (.builtin (toString "min" ++ toString ".loop") ⟨[.ref I, .none, .ref S], [("default", d)]⟩)) (fun fin s' => match fin with
        | .done f => R (.ok f) s'
        | .again c' => c'.quiet = true ∧ codeAny (model P w) A c' R s') (fun e s' => R (.error e) s') { s with heap := h2, toks := tk } := fun xs' hx' h2 hk2 ⟨c', hS2⟩ => by
      rw [nm_min]
      exact wpAny_pure ⟨plainId_quiet F.plain_min_loop _, ih (j + 1) _ xs' c' (by omega) lt (W.frame _ _ _ hst' fun b hb o e => hk2 b o (fun z => hSf (z ▸ hb)) e) hx' hS2 fun v' h3 tk3 q1 q2 hk3 => hR v' h3 tk3 q1 q2 fun b o hb hbS e => hk3 b o hb hbS (hk2 b o hbS (hk' b o hb e))⟩
    have oth : ∀ (f : Array Value → Array Value) b o, b ≠ S → h'.get? b = some o → (h'.update S (Obj.mapSeq f)).get? b = some o := fun f b o hb e => (Heap.get?_update_other _ _ (Ne.symm hb)).trans e
    cases j with
    | zero =>
      subst hx
      show wpAny _ A.in1 (updateSeq S (fun _ => #[v, v]) >>= _) _ _ _
      exact wpAny_bind (wpAny_updateSeq hS' rfl (go #[v, v] ⟨v, rfl, hP⟩ _ (oth _) ⟨_, Heap.get?_update_self _ hS' rfl⟩))
    | succ j =>
      obtain ⟨vb, rfl, hp⟩ := hx
      show wpAny _ A.in1 (tryCatch (holding [v, v] (richCompare .Lt v vb >>= _)) _ >>= _) _ _ _
      refine wpAny_bind (wpAny_tryCatch (wpAny_holding (wpAny_bind (hcmp (j + 1) (argBest bt j) v vb _ _ _ hP hp (wpAny_bind (wpAny_holding (wpAny_truthy_bool (wpAny_bind (wpAny_letGo (wpAny_pure ?_))))))))))
      cases hb : bt (j + 1) (argBest bt j) with
      | true =>
        simp only [if_true]
        exact wpAny_bind (wpAny_updateSeq hS' rfl (wpAny_bind (wpAny_letGo (go #[v, v] ⟨v, rfl, by simp only [argBest, hb, if_true]; exact hP⟩ _ (oth _) ⟨_, Heap.get?_update_self _ hS' rfl⟩))))
      | false =>
        simp only [Bool.false_eq_true, if_false]
        exact wpAny_bind (wpAny_letGo (go #[vb, vb] ⟨vb, rfl, by simp only [argBest, hb, Bool.false_eq_true, if_false]; exact hp⟩ h' (fun _ _ _ e => e) ⟨_, hS'⟩))
end
end
end DLS

set_option Elab.async false
set_option linter.all false
set_option maxRecDepth 100000
set_option maxHeartbeats 4000000
/-! DL: sorted(set(xs)), min(xs, default=d), comparisons of four, a raise that is never reached -/
namespace DLS
open PySem PySem.Spec PyProof.Rows L2
theorem args_mind (a d : Value) : argsOk "min" ⟨[a], [("default", d)]⟩ := by unfold argsOk; kernel_rfl
section
variable {P : Program} {w : World} {A : Around} {E : Value → Shared → Prop} {s : Shared}
theorem call_mind {l : Addr} {xs : Array (Int × Tok)} {d : Value} {Q : Value → Shared → Prop} (hh : A.handled = none) (hl : s.heap.IsList l (intItems xs))
    (h : ∀ v h' tk, (xs.size = 0 → v = d) → (0 < xs.size → (intItems xs)[argBest (fun i j => decide (numAt xs i < numAt xs j)) (xs.size - 1)]? = some v) → (∀ b o, s.heap.get? b = some o → h'.get? b = some o) → Q v { s with heap := h', toks := tk }) :
    wpAny (model P w) A (call (.builtin "min") [.ref l] [("default", d)]) Q E s := by
  have zz : (intItems xs).size = xs.size := by simp [intItems]
  refine wpAny_call (codeAny_call_builtin F.plain_min F.entry_min ?_)
  simp only [checkBuiltinCall, F.kind_min]
  have body : wpAny (model P w) A.in1 (Builtin.«min» ⟨[.ref l], [("default", d)]⟩) (fun fin s' => match fin with
      | .done f => (match (Except.ok f : Result) with | .ok (.ret v) => Q v s' | .ok _ => False | .error e => E e s')
      | .again c' => c'.quiet = true ∧ codeAny (model P w) A c' (fun r s' => match r with | .ok (.ret v) => Q v s' | .ok _ => False | .error e => E e s') s') E s := by
    show wpAny _ A.in1 (Builtin.Builtins.bindParams "min" ["key", "default"] 0 ⟨[], [("default", d)]⟩ >>= _) _ _ s
    refine wpAny_bind (wpAny_of_eq (show Builtin.Builtins.bindParams "min" ["key", "default"] 0 ⟨[], [("default", d)]⟩ = pure [none, some d] by first | rfl | kernel_rfl) ?_)
    refine wpAny_bind (wpAny_pure ?_)
    refine wpAny_bind (iter_intList hl fun s₂ e st hfp hlI => ?_)
    subst e
    refine wpAny_bind (wpAny_newObj_type ?_)
    rw [nm_min]
    have W := Walks.list (prog := P) (w := w) (A := A.in1) (by simp [hh]) _ l hlI (intItems xs)
    refine wpAny_pure ⟨plainId_quiet F.plain_min_loop _, min_turns W _ (CmpOf.ints_lt (numAt xs) (fun _ _ => intItems_at)) (s.heap.push { cls := .type "list_iterator", data := .fields #[.ref l, .int 0 0] }).objs.size (fun hm => Nat.lt_irrefl _ (hfp _ hm)) _ 0 _ #[] 0 rfl (Nat.zero_le _) (W.frame _ _ _ st fun b _ o e => Heap.get?_push_of_some _ e) rfl (Heap.get?_push_size _ rfl) fun v h' tk q1 q2 hk => ?_⟩
    refine h v h' tk (fun z => q1 (zz.trans z)) (fun z => ?_) (old_kept (l := l) fun b o hb e => ?_)
    · have := q2 (by rw [zz]; exact z)
      rwa [zz] at this
    · exact hk b o hb (Nat.ne_of_lt (Heap.lt_size e)) (Heap.get?_push_of_some _ e)
  cases hsig : Manifest.signature? "min" with
  | none => exact wpAny_pure body
  | some sig =>
    have ha' : Bind.checkArgs "min" sig ⟨[.ref l], [("default", d)]⟩ = pure () := by simpa only [argsOk, hsig] using args_mind (.ref l) d
    show wpAny _ A.in1 (Bind.checkArgs "min" sig ⟨[.ref l], [("default", d)]⟩) _ _ s
    rw [ha']
    exact wpAny_pure body
theorem call_mindI {l : Addr} {its : List Value} {ns : List Int} {d : Value} {Q : Value → Shared → Prop} (hh : A.handled = none) (hl : s.heap.IsList l its.toArray) (hi : IntsAre its ns)
    (h : ∀ v h' tk, (ns = [] → v = d) → (∀ z : 0 < ns.length, ∃ m t, v = .int m t ∧ m ∈ ns ∧ ∀ y ∈ ns, m ≤ y) → (∀ b o, s.heap.get? b = some o → h'.get? b = some o) → Q v { s with heap := h', toks := tk }) :
    wpAny (model P w) A (call (.builtin "min") [.ref l] [("default", d)]) Q E s := by
  obtain ⟨xs, e⟩ := hi.allInts.items
  have hn : numsOf (intItems xs).toList = ns := by rw [← e]; exact hi.numsOf
  rw [nums_intItems] at hn
  subst hn
  rw [e] at hl
  refine call_mind hh hl fun v h' tk q1 q2 hk => h v h' tk (fun z => q1 ?_) (fun z => ?_) hk
  · have := congrArg List.length z
    simpa using this
  · have z' : 0 < xs.size := by simpa using z
    obtain ⟨t, rfl⟩ := intItems_at (q2 z')
    obtain ⟨h1, h2⟩ := argBest_lt (numAt xs) (xs.size - 1)
    refine ⟨_, t, rfl, ?_, fun a ha => ?_⟩
    · rw [numAt_eq]; exact PySem.getD_mem (by rw [List.length_map, Array.length_toList]; omega)
    · obtain ⟨j, hj, rfl⟩ := mem_getD ha
      rw [List.length_map, Array.length_toList] at hj
      rw [← numAt_eq]; exact h2 j (by omega)
end
end DLS
namespace DL
open PySem PySem.Spec PyProof.Rows L2
/-! ### min(xs, default=d) -/
def rMinD (K : PySem.W.Frag) : R2 := fun x y H Q => ∃ (a : Addr) (ns : List Int), x = V.ref a ∧ SqL K H a (ns.map V.int) ∧ (ns = [] → Q y H) ∧ ∀ m, m ∈ ns → (∀ y, y ∈ ns → m ≤ y) → Q (.int m) H
def rMinK (K : PySem.W.Frag) : List V → List V → Hp → VK → Prop := fun vs zs H Q => match vs, zs with
  | [x], [y] => rMinD K x y H Q
  | _, _ => False
section
variable {X : Cx}
theorem cr_mind (hc : X.calm = true) : CallRK X (.builtin "min") ["default"] (rMinK X.K) := by
  intro pins s σ H vs zs us ws Q I r rz h
  unfold rMinK at h
  split at h
  rotate_left
  · exact h.elim
  rename_i x y
  obtain ⟨a, ns, rfl, hs, q1, q2⟩ := h
  obtain ⟨its, rv, hl, _⟩ := I.list hs
  obtain ⟨w1, rfl, e1⟩ := vals1 rz
  rw [Vals.ref1 r]
  refine DLS.call_mindI (I.ok.hd hc) hl.isList rv.ints fun v h' tk z1 z2 hk => ?_
  by_cases z : ns = []
  · rw [z1 z]
    exact ⟨y, H, I.kept hk, e1, q1 z⟩
  · obtain ⟨m, t, rfl, z3, z4⟩ := z2 (List.length_pos_iff.mpr z)
    exact ⟨.int m, H, I.kept hk, ⟨_, rfl⟩, q2 m z3 z4⟩
end
@[reducible] def oMinD : O2 := fun d1 d2 k => match d1 with
  | .list es => optK (intsOf es) fun ns => (ns = [] → k (.v d2)) ∧ ∀ m : Int, m ∈ ns → (∀ y ∈ ns, m ≤ y) → k (.v (.int m))
  | _ => False
theorem lift_mind {K : PySem.W.Frag} : Lift2 K (rMinD K) oMinD := by
  intro O H x y dx dy QD Q _ hx hy q fin
  cases hx with
  | lst a1 a2 =>
    rename_i a xs es
    have q : optK (intsOf es) _ := q
    cases e : intsOf es with
    | none => rw [e] at q; exact q.elim
    | some ns =>
      rw [e] at q
      have e2 := intsOf_dp a2 e
      subst e2
      exact ⟨_, ns, rfl, Same.seq same_hide a1, fun z => fin _ H (.v _) (Same.refl H) hy (q.1 z), fun m hm hy => fin _ H (.v _) (Same.refl H) (.int _) (q.2 m hm hy)⟩
  | _ => exact q.elim
section
variable {X : Cx} {g : G} {W : WX} {e d : Expr} {we wd : WE} {p kp pos : Pos}
theorem ee_minD (hc : X.calm = true) (hg : Gl X "min") (hm : X.mg "min" = none) (he : EE X g W e we) (hd : EE X g W d wd)
    (h0 : starEach [e] X.env = (false, eval e X.env) :: starEach [] X.env := by rfl) (h2 : (backTo pos (starEach [e] X.env)).any (·.1) = false := by rfl)
    (h3 : (backToKw pos (keywordEach [⟨some "default", d, kp⟩] X.env)).all (·.1.isSome) = true := by rfl) (h4 : (backToKw pos (keywordEach [⟨some "default", d, kp⟩] X.env)).any (·.1.isNone) = false := by rfl) (h5 : (backToKw pos (keywordEach [⟨some "default", d, kp⟩] X.env)).filterMap (·.1) = (["default"] : List Str) := by rfl) :
    EE X g W (.Call (.Name "min" p) [e] [⟨some "default", d, kp⟩] pos) (wB oMinD we wd) := by
  obtain ⟨te, p1, s1⟩ := he.ex
  obtain ⟨td, p2, s2⟩ := hd.ex
  refine ⟨tOp (rMinD X.K) te td, ⟨fun pins s σ H Q I h => ?_⟩, sem_op lift_mind s1 s2⟩
  refine (pe_callBK (cr_mind hc) hg hm (by rfl) (pa_cons p1 pa_nil h0) (pk_cons p2 pk_nil) (by decide) (by decide) (by rw [h0]; rfl) h2 h3 h4 h5).run pins s σ H Q I h
end
/-! ### sorted(set(xs)) -/
def rSortSet (K : PySem.W.Frag) : V → Hp → VK → Prop := fun x H Q => ∃ (l : Addr) (ns : List Int), x = V.ref l ∧ SqL K H l (ns.map V.int) ∧ ns.length ≤ 4000 ∧
  ∀ (ms : List Int) (p : Addr), ms.Pairwise (· < ·) → (∀ k, k ∈ ms ↔ k ∈ ns) → ms.length ≤ ns.length → H p = none → Q (.ref p) (upd H p (.lst (ms.map V.int)))
theorem nodup_len : ∀ {ms ns : List Int}, ms.Pairwise (· < ·) → (∀ k, k ∈ ms → k ∈ ns) → ms.length ≤ ns.length
  | [], _, _, _ => Nat.zero_le _
  | m :: ms, ns, h, h' => by
    obtain ⟨h1, h2⟩ := List.pairwise_cons.mp h
    have hm := h' m (.head _)
    have := nodup_len (ns := ns.erase m) h2 fun k hk => (List.mem_erase_of_ne (fun z => by have := h1 k hk; omega)).mpr (h' k (.tail _ hk))
    have l := List.length_erase_of_mem hm
    have := List.length_pos_of_mem hm
    rw [List.length_cons]
    omega
section
variable {X : Cx} {g : G} {W : WX} {e : Expr} {te : TE} {we : WE} {p p2 q pos : Pos}
theorem pe_sortSet (hc : X.calm = true) (hg : Gl X "sorted") (hm : X.mg "sorted" = none) (hg2 : Gl X "set") (hm2 : X.mg "set" = none) (ha : PE X e te) (na : starEach [e] X.env = (false, eval e X.env) :: starEach [] X.env := by rfl) :
    PE X (.Call (.Name "sorted" p) [.Call (.Name "set" p2) [e] [] q] [] pos) (tUn (rSortSet X.K) te) := by
  refine ⟨fun pins s σ H Q I h => ?_⟩
  refine Call_ (ld_blt I hg hm boot_sorted ?_)
  refine PyProof.Rows.callWith_builtin1 (PyProof.Rows.args_cons ?_ rfl) rfl rfl
  refine Call_ (ld_blt I hg2 hm2 boot_set ?_)
  refine PyProof.Rows.callWith_type1 (PyProof.Rows.args_cons (thn (ha.run pins s σ H _ I h) fun v s1 ⟨x, H1, I1, r1, q1⟩ => PyProof.Rows.args_nil ?_) na) na rfl
  obtain ⟨l, ns, rfl, hq, hl, q1⟩ := q1
  cases r1
  obtain ⟨its, rv, pl, hz⟩ := I1.list hq
  refine DLS.call_set_listI (ns := ns) (I1.ok.hd hc) pl.isList (by simpa using rv.ints) (by unfold scanBound; omega) fun s2 ⟨h', tk, c, e2, R, hcn, hk⟩ => ?_
  subst e2
  refine PyProof.Rows.args_nil ?_
  have I2 : Inv X pins σ H1 { s1 with heap := h', toks := tk } := I1.kept hk
  refine DLS.sorted_setI (s := { s1 with heap := h', toks := tk }) R (I2.ok.hd hc) fun s' pp out c2 ms k g o hp hgt hi hs hmem hlen => ?_
  have hle : ms.length ≤ ns.length := by omega
  have hlen : (ms.map V.int).length ≤ sizeLine := by rw [List.length_map, sizeLine_eq]; omega
  have hn : H1 pp = none := I2.hok.fresh hp
  have J : Inv X pins σ (upd H1 pp (.lst (ms.map V.int))) { { s1 with heap := h', toks := tk } with heap := s'.heap, gens := s'.gens, drawn := s'.drawn, toks := s'.toks } :=
    I2.call (ch := []) (Un.laid k hp hn) (I2.hok.laid k hp ⟨hlen, out, c2, vals_of_ints hi, hgt⟩) (by rw [g]; exact I2.bare) (fun _ z => nomatch z)
  have e : s' = { { s1 with heap := h', toks := tk } with heap := s'.heap, gens := s'.gens, drawn := s'.drawn, toks := s'.toks } := by
    cases s'
    cases o
    rfl
  rw [e]
  exact ⟨.ref pp, _, J, rfl, q1 ms pp hs (fun k => by rw [hmem k, decide_eq_true_eq]) hle hn⟩
@[reducible] def oSortSet : O1 := fun d k => match d with
  | .list es => optK (intsOf es) fun ns => ns.length ≤ 4000 ∧ ∀ ms : List Int, ms.Pairwise (· < ·) → (∀ k, k ∈ ms ↔ k ∈ ns) → ms.length ≤ ns.length → k (.own 0 (.lst (ms.map PyData.int)))
  | _ => False
theorem lift_sortSet {K : PySem.W.Frag} : Lift1 K (rSortSet K) oSortSet := by
  intro O H x dx QD Q _ hx q fin
  cases hx with
  | lst a1 a2 =>
    rename_i a xs es
    have q : optK (intsOf es) _ := q
    cases e : intsOf es with
    | none => rw [e] at q; exact q.elim
    | some ns =>
      rw [e] at q
      have e2 := intsOf_dp a2 e
      subst e2
      exact ⟨_, ns, rfl, Same.seq same_hide a1, q.1, fun ms p h1 h2 h3 n => fin _ _ (.own 0 (.lst _)) (same_new n) (new_lst n (DL.DpAll.ints ms)) (q.2 ms h1 h2 h3)⟩
  | _ => exact q.elim
theorem ee_sortSet (hc : X.calm = true) (hg : Gl X "sorted") (hm : X.mg "sorted" = none) (hg2 : Gl X "set") (hm2 : X.mg "set" = none) (ha : EE X g W e we) (na : starEach [e] X.env = (false, eval e X.env) :: starEach [] X.env := by rfl) :
    EE X g W (.Call (.Name "sorted" p) [.Call (.Name "set" p2) [e] [] q] [] pos) (wU oSortSet we) := by
  obtain ⟨te, p1, s1⟩ := ha.ex
  exact ⟨_, pe_sortSet hc hg hm hg2 hm2 p1 na, sem_un lift_sortSet s1⟩
end
/-! ### a op b op' c op'' d, whole numbers -/
def tChain3 (r r' r'' : R2) (ta tb tc td : TE) : TE := fun σ H Q => ta σ H fun x H1 => tb σ H1 fun y H2 => r x y H2 fun z H3 => ∃ k, z = .bl k ∧ if k = true then tc σ H3 fun u H4 => r' y u H4 fun z' H5 => ∃ k', z' = .bl k' ∧ (if k' = true then td σ H5 fun v H6 => r'' u v H6 Q else Q (.bl false) H5) else Q (.bl false) H3
section
variable {X : Cx} {a b c d : Expr} {ta tb tc td : TE} {pos : Pos}
theorem pe_chain3 {op op' op'' : CmpOp} {r r' r'' : R2} (ho : OpR X (compareOp op) r) (ho' : OpR X (compareOp op') r') (ho'' : OpR X (compareOp op'') r'') (ha : PE X a ta) (hb : PE X b tb) (hc : PE X c tc) (hd : PE X d td)
    (hm : lastMarks [op, op', op''] [b, c, d] = false := by with_unfolding_all rfl) : PE X (.Compare a [op, op', op''] [b, c, d] pos) (tChain3 r r' r'' ta tb tc td) := by
  refine ⟨fun pins s σ H Q I h => Compare_chain (thn (ha.run pins s σ H _ I h) fun v s1 ⟨x, H1, I1, r1, q1⟩ => chain_link (thn (hb.run pins s1 σ H1 _ I1 q1) fun u s2 ⟨y, H2, I2, r2, q2⟩ => thn (ho pins s2 σ H2 x y v u _ I2 r1 r2 q2) fun d s3 ⟨z, H3, I3, r3, k, e, q3⟩ => ?_)) hm⟩
  subst e
  cases r3
  refine wpAny_truthy_bool ?_
  cases k with
  | false => exact ite_ff ⟨.bl false, H3, I3, rfl, q3⟩
  | true =>
    refine ite_tt (chain_link (thn (hc.run pins s3 σ H3 _ I3 q3) fun u2 s4 ⟨y2, H4, I4, r4, q4⟩ => thn (ho' pins s4 σ H4 y y2 u u2 _ I4 r2 r4 q4) fun d2 s5 ⟨z2, H5, I5, r5, k2, e2, q5⟩ => ?_))
    subst e2
    cases r5
    refine wpAny_truthy_bool ?_
    cases k2 with
    | false => exact ite_ff ⟨.bl false, H5, I5, rfl, q5⟩
    | true => exact ite_tt (chain_last (thn (hd.run pins s5 σ H5 _ I5 q5) fun w' s6 ⟨z', H6, I6, r6, q6⟩ => ho'' pins s6 σ H6 y2 z' u2 w' Q I6 r4 r6 q6))
end
/-- a whole number's reading -/
@[reducible] def wInt (we : WE) (ρ : Rho) (k : Int → Rho → Prop) (E : KX) : Prop := we ρ (fun c ρ1 => match c with
  | .v (.int i) => k i ρ1
  | _ => False) E
@[reducible] def wCh3 (f f' f'' : Int → Int → Bool) (wa wb wc wd : WE) : WE := fun ρ Q E => wInt wa ρ (fun i ρ1 => wInt wb ρ1 (fun j ρ2 => if f i j = true then wInt wc ρ2 (fun k ρ3 => if f' j k = true then wInt wd ρ3 (fun l ρ4 => Q (.v (.bool (f'' k l))) ρ4) E else Q (.v (.bool false)) ρ3) E else Q (.v (.bool false)) ρ2) E) E
section
variable {K : PySem.W.Frag} {g : G} {W : WX} {t ta tb tc td : TE} {w wa wb wc wd : WE}
theorem sem_int (h : Sem K g W t w) {σ : L2.St} {vs : List V} {H : Hp} {ρ : Rho} {cs : List C} {k : Int → Rho → Prop} {ED : KX} {Q : VK} (hS : SR K g σ vs H ρ cs) (hw : wInt w ρ k ED) (hX : XEnds K g W σ ED)
    (hQ : ∀ i H' ρ', SR K g σ vs H' ρ' cs → k i ρ' → Q (.int i) H') : t σ H Q := by
  refine h σ vs H ρ cs _ ED _ hS hw hX fun x H1 c1 ρ1 S1 q1 => ?_
  split at q1
  · have := S1.top
    cases this
    exact hQ _ H1 ρ1 S1.pop q1
  · exact q1.elim
theorem sem_chain3 {f f' f'' : Int → Int → Bool} (ha : Sem K g W ta wa) (hb : Sem K g W tb wb) (hc : Sem K g W tc wc) (hd : Sem K g W td wd) :
    Sem K g W (tChain3 (rI0 fun i j => .bl (f i j)) (rI0 fun i j => .bl (f' i j)) (rI0 fun i j => .bl (f'' i j)) ta tb tc td) (wCh3 f f' f'' wa wb wc wd) := by
  intro σ vs H ρ cs QD ED Q hS hw hX hQ
  refine sem_int ha hS hw hX fun i H1 ρ1 S1 q1 => sem_int hb S1 q1 hX fun j H2 ρ2 S2 q2 => ⟨i, j, rfl, rfl, _, rfl, ?_⟩
  by_cases z : f i j = true
  · rw [if_pos z] at q2 ⊢
    refine sem_int hc S2 q2 hX fun k H3 ρ3 S3 q3 => ⟨j, k, rfl, rfl, _, rfl, ?_⟩
    by_cases z2 : f' j k = true
    · rw [if_pos z2] at q3 ⊢
      exact sem_int hd S3 q3 hX fun l H4 ρ4 S4 q4 => ⟨k, l, rfl, rfl, hQ _ H4 _ ρ4 (SR.resV S4 (Same.refl H4) (.bl _)) q4⟩
    · rw [if_neg z2] at q3 ⊢
      exact hQ _ H3 _ ρ3 (SR.resV S3 (Same.refl H3) (.bl _)) q3
  · rw [if_neg z] at q2 ⊢
    exact hQ _ H2 _ ρ2 (SR.resV S2 (Same.refl H2) (.bl _)) q2
end
section
variable {X : Cx} {g : G} {W : WX} {a b c d : Expr} {wa wb wc wd : WE} {pos : Pos}
theorem ee_chain3 {op op' op'' : CmpOp} {f f' f'' : Int → Int → Bool} (ho : OpR X (compareOp op) (rI0 fun i j => .bl (f i j))) (ho' : OpR X (compareOp op') (rI0 fun i j => .bl (f' i j))) (ho'' : OpR X (compareOp op'') (rI0 fun i j => .bl (f'' i j))) (ha : EE X g W a wa) (hb : EE X g W b wb) (hc : EE X g W c wc) (hd : EE X g W d wd)
    (hm : lastMarks [op, op', op''] [b, c, d] = false := by with_unfolding_all rfl) : EE X g W (.Compare a [op, op', op''] [b, c, d] pos) (wCh3 f f' f'' wa wb wc wd) := by
  obtain ⟨ta, p1, s1⟩ := ha.ex
  obtain ⟨tb, p2, s2⟩ := hb.ex
  obtain ⟨tc, p3, s3⟩ := hc.ex
  obtain ⟨td, p4, s4⟩ := hd.ex
  exact ⟨_, pe_chain3 ho ho' ho'' p1 p2 p3 p4 hm, sem_chain3 s1 s2 s3 s4⟩
/-- a statement that is never reached -/
@[reducible] def wNever : WS := fun _ _ => False
theorem es_never {st : Stmt} : ES X g W st wNever := ⟨fun _ _ _ => False, ⟨fun _ _ _ _ _ _ h => h.elim⟩, fun _ _ _ _ _ _ _ _ _ hw _ => hw⟩
end
end DL

set_option Elab.async false
set_option linter.all false
set_option maxRecDepth 100000
set_option maxHeartbeats 4000000
/-! DL: texts: s * k -/
namespace DL
open PySem PySem.Spec PyProof.Rows L2
def repS (x : Str) (k : Nat) : Str := ⟨(List.replicate k x.cps.toList).flatten.toArray⟩
theorem foldl_app : ∀ (l : List (Array Nat)) (a : Array Nat), (l.foldl (· ++ ·) a).toList = a.toList ++ (l.map Array.toList).flatten
  | [], a => by simp
  | b :: l, a => by
    rw [List.foldl_cons, foldl_app l]
    simp
theorem repS_fold (x : Str) (k : Nat) : (⟨(List.replicate k x.cps).foldl (· ++ ·) #[]⟩ : Str) = repS x k := by
  unfold repS
  congr 1
  apply Array.ext'
  rw [foldl_app]
  simp
def rMulS : R2 := fun x y H Q => ∃ (a : Str) (k : Int), x = .str a ∧ y = .int k ∧ a.length ≤ 1000 ∧ -1000 ≤ k ∧ k ≤ 1000 ∧ Q (.str (repS a k.toNat)) H
theorem toolong_no {n : Nat} (h : n ≤ 1000000) : Builtin.Str.tooLong n = false := by
  unfold Builtin.Str.tooLong
  have : n ≤ sizeLine := by rw [sizeLine_eq]; omega
  first | exact decide_eq_false (by omega) | (simp; omega)
section
variable {X : Cx}
theorem op_mulS : OpR X (binaryOp .Mult) rMulS := by
  intro pins s σ H x y v u Q I rx ry h
  obtain ⟨a, k, rfl, rfl, hl, k0, k1, q⟩ := h
  obtain ⟨t, rfl⟩ := rx
  obtain ⟨t', rfl⟩ := ry
  have hle : a.length * k.toNat ≤ 1000000 := Nat.le_trans (Nat.mul_le_mul hl (show k.toNat ≤ 1000 by omega)) (by decide)
  refine P.mul_str ?_ (fun h1 _ h2 => ?_) (fun _ _ => toolong_no hle) ?_
  · rw [decide_eq_false (by omega), decide_eq_false (by omega)]; rfl
  · have h3 : ((2 : Int) ^ 63 - 1) / k ≥ 1000 := (Int.le_ediv_iff_mul_le (by omega)).mpr (by omega)
    omega
  · by_cases c1 : k < 1
    · rw [if_pos c1]
      have e : repS a k.toNat = Str.empty := by
        have : k.toNat = 0 := by omega
        rw [this]
        first | rfl | decide
      rw [e] at q
      exact ⟨by decide, .str Str.empty, H, I.tok _, ⟨_, rfl⟩, q⟩
    · rw [if_neg c1]
      by_cases c2 : (k == 1 || a.length == 0) = true
      · rw [if_pos c2]
        have e : repS a k.toNat = a := by
          unfold repS
          rcases Bool.or_eq_true_iff.mp c2 with z | z
          · have : k = 1 := by simpa using z
            subst this
            simp
          · have z2 : a.cps.toList = [] := by
              have : a.cps.size = 0 := by simpa [Str.length] using z
              simpa using this
            obtain ⟨c⟩ := a
            have : c = #[] := by simpa using z2
            subst this
            simp
        rw [e] at q
        exact ⟨.str a, H, I, ⟨_, rfl⟩, q⟩
      · rw [if_neg c2, repS_fold]
        refine ⟨?_, .str _, H, I.tok _, ⟨_, rfl⟩, q⟩
        have e : (repS a k.toNat).length = a.length * k.toNat := by
          unfold repS Str.length
          simp [Nat.mul_comm]
        first
          | (rw [e]; exact Nat.le_trans hle (by rw [sizeLine_eq]; decide))
          | (show Builtin.Str.tooLong _ = false; rw [e]; exact toolong_no hle)
end
@[reducible] def oMulS : O2 := fun d1 d2 k => match d1, d2 with
  | .str a, .int i => a.length ≤ 1000 ∧ (-1000 ≤ i ∧ i ≤ 1000) ∧ k (.v (.str (repS a i.toNat)))
  | _, _ => False
theorem lift_mulS {K : PySem.W.Frag} : Lift2 K rMulS oMulS := by
  intro O H x y dx dy QD Q hO hx hy q fin
  cases hx <;> try exact q.elim
  cases hy <;> try exact q.elim
  exact ⟨_, _, rfl, rfl, q.1, q.2.1.1, q.2.1.2, fin _ H (.v _) (Same.refl H) (.str _) q.2.2⟩
theorem ee_mulS {X : Cx} {g : G} {W : WX} {a b : Expr} {wa wb : WE} {pos : Pos} (ha : EE X g W a wa) (hb : EE X g W b wb) : EE X g W (.BinOp a .Mult b pos) (wB oMulS wa wb) := by
  obtain ⟨ta, p1, s1⟩ := ha.ex
  obtain ⟨tb, p2, s2⟩ := hb.ex
  exact ⟨_, pe_op op_mulS p1 p2, sem_op lift_mulS s1 s2⟩
/-! texts as lists of signs -/
@[reducible] def T (l : List Nat) : Str := ⟨l.toArray⟩
theorem T_list {l : List Nat} : (T l).cps.toList = l := by simp [T]
theorem T_of (x : Str) : x = T x.cps.toList := by obtain ⟨c⟩ := x; simp [T]
theorem T_len {l : List Nat} : (T l).length = l.length := by simp [T, Str.length]
theorem T_app {a b : List Nat} : T a ++ T b = T (a ++ b) := by
  show Str.append _ _ = _
  simp [Str.append, T]
theorem T_inj {a b : List Nat} (h : T a = T b) : a = b := by
  have := congrArg (fun z => z.cps.toList) h
  simpa [T] using this
theorem T_rep {l : List Nat} {n : Nat} : repS (T l) n = T (List.replicate n l).flatten := by
  unfold repS
  rw [T_list]
theorem flat_rep {c n : Nat} : (List.replicate n [c]).flatten = List.replicate n c := by
  induction n with
  | zero => rfl
  | succ n ih => rw [List.replicate_succ, List.flatten_cons, ih]; rfl
theorem T_drop {l : List Nat} {k : Nat} (h : k ≤ l.length) : cutS (T l) (some (k : Int)) none = T (l.drop k) := by
  unfold cutS
  rw [T_list, T_len, HT.sIx_none, HT.sIx_nat, Nat.min_eq_left h]
  congr 2
  exact List.take_of_length_le (by rw [List.length_drop]; exact Nat.le_refl _)
theorem T_take {l : List Nat} {k : Nat} (h : k ≤ l.length) : cutS (T l) none (some (k : Int)) = T (l.take k) := by
  unfold cutS
  rw [T_list, T_len, HT.sIx_none, HT.sIx_nat, Nat.min_eq_left h, Nat.sub_zero, List.drop_zero]
end DL

set_option Elab.async false
set_option linter.all false
set_option maxRecDepth 100000
set_option maxHeartbeats 4000000
/-! DLOwn: a comprehension over an own list that stays own -/
namespace DL
open PySem PySem.Spec PyProof.Rows L2
/-- the slot holds the same list ahead of each turn and at the end -/
@[reducible] def wLcO (i : Nat) (T : List Nat) (wg : WG) (wt : WT) (we : WE) : WE := fun ρ Q _ => match rget ρ i with
  | .own t (.lst ds) => ds.length ≤ sizeLine ∧ lcK T (fun d ρ1 k => rget ρ1 i = .own t (.lst ds) ∧ wg d ρ1 k) wt we ds [] (clr T ρ) fun acc ρ2 => rget ρ2 i = .own t (.lst ds) ∧ Q (.own 0 (.lst acc)) (back ρ T ρ2)
  | _ => False
section
variable {K : PySem.W.Frag} {g : G} {W : WX} {T : List Nat} {wg : WG} {wt : WT} {we : WE} {i0 : Nat}
theorem sem_lcO (hL : ∀ j ∈ T, g.L j = false) (hi : g.L i0 = true) : Sem K g W (tLc (iList K (tVar i0)) (tOfG K g T wg) (tOfT K g W0 wt) (tOfE K g W0 we) T) (wLcO i0 T wg wt we) := by
  intro σ vs H ρ cs QD ED Q hS hw hX hQ
  have hiT : i0 ∉ T := fun z => by rw [hL i0 z] at hi; cases hi
  unfold wLcO at hw
  split at hw
  case h_2 => exact hw.elim
  rename_i t0 ds e0
  obtain ⟨hlen, q1⟩ := hw
  obtain ⟨a, xs0, ea, eh, _⟩ := own_list hS e0
  refine ⟨.ref a, ea, a, rfl, ⟨xs0, .inl (.inl eh)⟩, fun D nD => ?_⟩
  obtain ⟨ks, k1, k2, k3⟩ := keptD_at hS T
  have S2 : SR K g σ (ks ++ vs) H ρ ((keptD ρ T).map C.v ++ cs) := hS.pushAll k2
  have S3 := S2.clrs T
  have S4 := S3.wiped (T := T) (fun j hj => clr_in hj) hL
  have S5 : SR K g (wipe σ T) (.ref D :: (ks ++ vs)) (upd H D (.lst [])) (clr T ρ) (.own 0 (.lst []) :: ((keptD ρ T).map C.v ++ cs)) := SR.res S4 (same_new nD) (new_lst nD .nil)
  have at_ : ∀ {H2 : Hp} {ρ2 : Rho} {vs2 : List V} {cs2 : List C}, SR K g (wipe σ T) vs2 H2 ρ2 cs2 → rget ρ2 i0 = .own t0 (.lst ds) → ∃ xs, H2 a = some (.lst xs) ∧ DpAll K (hide H2 (tot (wipe σ T) vs2 ρ2 cs2 ++ g.P0)) xs ds := fun S e => by
    obtain ⟨a', xs, e1, e2, e3⟩ := own_list S e
    rw [wipe_get hiT, ea] at e1
    cases e1
    exact ⟨xs, e2, e3⟩
  refine ⟨fun i m H => m = ds.length - i ∧ ∃ acc ρ', SR K g (wipe σ T) (.ref D :: (ks ++ vs)) H ρ' (.own 0 (.lst acc) :: ((keptD ρ T).map C.v ++ cs)) ∧ (∀ j ∈ T, rget ρ' j = .no) ∧ acc.length ≤ i ∧ lcK T (fun d ρ1 k => rget ρ1 i0 = .own t0 (.lst ds) ∧ wg d ρ1 k) wt we (ds.drop i) acc ρ' fun acc ρ2 => rget ρ2 i0 = .own t0 (.lst ds) ∧ QD (.own 0 (.lst acc)) (back ρ T ρ2),
    ⟨ds.length, by simp, [], clr T ρ, S5, fun j hj => clr_in hj, Nat.zero_le _, by simpa using q1⟩, ?_⟩
  rintro i m H2 ⟨rfl, acc, ρ2, S6, hno, hacc, q6⟩
  have hlk : ks.length = ((keptD ρ T).map C.v).length := by simpa using k1
  by_cases hlt : i < ds.length
  · have ed : ds.drop i = ds[i] :: ds.drop (i + 1) := List.drop_eq_getElem_cons hlt
    rw [ed] at q6
    obtain ⟨e6, q6⟩ := q6
    obtain ⟨xs, ex, dx⟩ := at_ S6 e6
    have hx : i < xs.length := by rw [DL.DpAll.len dx]; exact hlt
    refine .inr ⟨⟨xs, xs[i], .inl (.inl ex), List.getElem?_eq_getElem hx⟩, fun H' => ∃ acc ρ', SR K g (wipe σ T) (.ref D :: (ks ++ vs)) H' ρ' (.own 0 (.lst acc) :: ((keptD ρ T).map C.v ++ cs)) ∧ (∀ j ∈ T, rget ρ' j = .no) ∧ acc.length ≤ i + 1 ∧ lcK T (fun d ρ1 k => rget ρ1 i0 = .own t0 (.lst ds) ∧ wg d ρ1 k) wt we (ds.drop (i + 1)) acc ρ' fun acc ρ2 => rget ρ2 i0 = .own t0 (.lst ds) ∧ QD (.own 0 (.lst acc)) (back ρ T ρ2),
      fun H' q => ⟨ds.length - (i + 1), by omega, rfl, q⟩, fun x H3 y => ?_⟩
    obtain ⟨rfl, hy⟩ := y
    have hx2 : x = xs[i] := by
      have z := hy xs (.inl (.inl ex))
      rw [List.getElem?_eq_getElem hx] at z
      exact (Option.some.inj z).symm
    have dx2 : Dp K (hide H3 (tot (wipe σ T) (.ref D :: (ks ++ vs)) ρ2 (.own 0 (.lst acc) :: ((keptD ρ T).map C.v ++ cs)) ++ g.P0)) x ds[i] := by
      obtain ⟨v, z1, z2⟩ := DL.DpAll.get dx (List.getElem?_eq_getElem hlt)
      rw [List.getElem?_eq_getElem hx] at z1
      rw [hx2, Option.some.inj z1]
      exact z2
    have S9 : SR K g (wipe σ T) (x :: .ref D :: (ks ++ vs)) H3 ρ2 (.v ds[i] :: .own 0 (.lst acc) :: ((keptD ρ T).map C.v ++ cs)) := SR.resV S6 (Same.refl _) dx2
    have noX : ∀ σ', XEnds K g W0 σ' (fun _ _ => False) := fun σ' _ _ _ _ _ _ _ z => z
    have turn : ∀ {σ2 : L2.St} {H' : Hp} {ρ' : Rho} {acc' : List PyData}, DL.Only T (wipe σ T) σ2 → SR K g σ2 (.ref D :: (ks ++ vs)) H' ρ' (.own 0 (.lst acc') :: ((keptD ρ T).map C.v ++ cs)) → acc'.length ≤ i + 1 → lcK T (fun d ρ1 k => rget ρ1 i0 = .own t0 (.lst ds) ∧ wg d ρ1 k) wt we (ds.drop (i + 1)) acc' (clr T ρ') (fun acc ρ2 => rget ρ2 i0 = .own t0 (.lst ds) ∧ QD (.own 0 (.lst acc)) (back ρ T ρ2)) →
        ∃ acc ρ', SR K g (wipe σ T) (.ref D :: (ks ++ vs)) H' ρ' (.own 0 (.lst acc) :: ((keptD ρ T).map C.v ++ cs)) ∧ (∀ j ∈ T, rget ρ' j = .no) ∧ acc.length ≤ i + 1 ∧ lcK T (fun d ρ1 k => rget ρ1 i0 = .own t0 (.lst ds) ∧ wg d ρ1 k) wt we (ds.drop (i + 1)) acc ρ' fun acc ρ2 => rget ρ2 i0 = .own t0 (.lst ds) ∧ QD (.own 0 (.lst acc)) (back ρ T ρ2) := by
      intro σ2 H' ρ' acc' on S hle q
      have S' := (S.clrs T).wiped (T := T) (fun j hj => clr_in hj) hL
      rw [only_wipe on, wipe_wipe] at S'
      exact ⟨acc', clr T ρ', S', fun j hj => clr_in hj, hle, q⟩
    refine ⟨_, ρ2, _, ds[i], _, S9, fun j hj k q e => ?_, q6, fun σ2 H4 ρ4 S10 on q10 => ⟨by rw [only_wipe on, wipe_wipe], _, ρ4, _, _, fun _ _ => False, S10, q10, noX σ2, fun b H5 ρ5 S11 q11 => ?_⟩⟩
    · have q' := S6.pk k q
      rw [e, hL j hj] at q'; cases q'
    · cases b with
      | false =>
        rw [if_neg Bool.false_ne_true] at q11 ⊢
        exact turn on S11 (by omega) q11
      | true =>
        rw [if_pos rfl] at q11 ⊢
        refine ⟨_, ρ5, _, _, fun _ _ => False, S11, q11, noX σ2, fun z H6 c ρ6 S12 q12 => ?_⟩
        split at q12
        · rename_i d' ec
          have S13 := S12.frzTop
          rw [ec] at S13
          obtain ⟨zs, e1, e2, S14⟩ := S13.appTop
          exact ⟨zs, e1, by omega, turn on S14 (by simp; omega) q12⟩
        · exact q12.elim
  · have ed : ds.drop i = [] := List.drop_eq_nil_of_le (by omega)
    rw [ed] at q6
    obtain ⟨e6, q6⟩ := q6
    obtain ⟨xs, ex, dx⟩ := at_ S6 e6
    refine .inl ⟨⟨xs, .inl (.inl ex), by rw [DL.DpAll.len dx]; omega⟩, ?_⟩
    have S8 : SR K g σ (.ref D :: (ks ++ vs)) H2 ρ2 (.own 0 (.lst acc) :: ((keptD ρ T).map C.v ++ cs)) := by
      refine S6.agree (wipe_length σ T).symm (fun j hj => (wipe_get fun z => hj (hno j z)).symm) fun j hj => (wipe_get fun z => ?_).symm
      have q' := S6.pk j hj
      rw [hL j z] at q'; cases q'
    have S9 : SR K g σ (ks ++ .ref D :: vs) H2 ρ2 ((keptD ρ T).map C.v ++ .own 0 (.lst acc) :: cs) := SR.unrot hlk S8
    have S10 := SR.backs_ k1 k3 S9
    exact hQ (.ref D) H2 _ _ S10 q6
end
section
variable {X : Cx} {g : G} {W : WX} {elt tg : Expr} {ifs : List Expr} {scope : Scope} {own : List (Str × Nat)} {pos p : Pos} {wg : WG} {wt : WT} {we : WE} {i : Nat} {x : Str}
theorem ee_lcO (hc : X.calm = true) (hN : X.N.Nodup) (hL : ∀ j ∈ own.map (·.2), g.L j = false) (hi : g.L i = true) (hx : PE X (.Name x p) (tVar i)) (ok : BlkOk X.N X.env.scope scope own)
    (hg : ∀ (s : Shared) (H : Hp) (C : Addr) (cl : List (Str × Addr)) (fp : List Addr), EG (X.blk s H scope (compEnvC scope cl C X.env) fp) g tg (own.map (·.2)) wg)
    (ht : ∀ (s : Shared) (H : Hp) (C : Addr) (cl : List (Str × Addr)) (fp : List Addr), ETs (X.blk s H scope (compEnvC scope cl C X.env) fp) g W0 ifs wt)
    (he : ∀ (s : Shared) (H : Hp) (C : Addr) (cl : List (Str × Addr)) (fp : List Addr), EE (X.blk s H scope (compEnvC scope cl C X.env) fp) g W0 elt we) (hs : ∀ z, foldedSetIterable (.Name x p) X.env z = pure z := by intro _; rfl) :
    EE X g W (.ListComp elt [⟨tg, .Name x p, ifs, 0⟩] scope pos) (wLcO i (own.map (·.2)) wg wt we) :=
  ⟨_, pe_lc hc hN (pi_list hx) ok (fun s H C cl fp => (hg s H C cl fp).can) (fun s H C cl fp => (ht s H C cl fp).can) (fun s H C cl fp => (he s H C cl fp).can) hs, sem_lcO hL hi⟩
end
end DL

set_option Elab.async false
set_option linter.all false
/-! loops over lists given as data, over ranges -/
namespace DL
open PySem PySem.Spec PyProof.Rows L2
theorem forK_xs {α : Type} {inj : α → D} {wg : WG} {body : WS} {DD : EndsD} {ρ : Rho} (xs : List α) (I : List α → Rho → Prop) (h : I [] ρ) (h0 : ∀ ρ, I xs ρ → DD.nx ρ)
    (h1 : ∀ (done : List α) (x : α) (rest : List α) (ρ : Rho) (next : Rho → Prop), xs = done ++ x :: rest → (∀ ρ', I (done ++ [x]) ρ' → next ρ') → I done ρ → wg (inj x) ρ fun ρ1 => body ⟨next, DD.rt, DD.nx, next, DD.ex⟩ ρ1) : forK wg body (xs.map inj) DD ρ := by
  refine forK_ind (fun ds ρ => ∃ done rest, xs = done ++ rest ∧ ds = rest.map inj ∧ I done ρ) ?_ ?_ _ _ ⟨[], xs, rfl, rfl, h⟩
  · rintro ρ ⟨done, rest, e, hd, hi⟩
    have e1 : rest = [] := by cases rest with
      | nil => rfl
      | cons _ _ => cases hd
    subst e1
    rw [List.append_nil] at e
    subst e
    exact h0 ρ hi
  · rintro d ds ρ next hn ⟨done, rest, e, hd, hi⟩
    cases rest with
    | nil => cases hd
    | cons x rest =>
      rw [List.map_cons] at hd
      obtain ⟨rfl, rfl⟩ := List.cons.inj hd
      exact h1 done x rest ρ next e (fun ρ' z => hn ρ' ⟨done ++ [x], rest, by rw [e, List.append_assoc]; rfl, rfl, z⟩) hi
theorem forK_rg {wg : WG} {body : WS} {DD : EndsD} {ρ : Rho} {lo : Int} (n : Nat) (I : Nat → Rho → Prop) (h : I 0 ρ) (h0 : ∀ ρ, I n ρ → DD.nx ρ)
    (h1 : ∀ (k : Nat) (ρ : Rho) (next : Rho → Prop), k < n → (∀ ρ', I (k + 1) ρ' → next ρ') → I k ρ → wg (.int (lo + (k : Nat))) ρ fun ρ1 => body ⟨next, DD.rt, DD.nx, next, DD.ex⟩ ρ1) : forK wg body (rangeD lo n) DD ρ := by
  refine forK_ind (fun ds ρ => ∃ k : Nat, k ≤ n ∧ ds = rangeD (lo + (k : Nat)) (n - k) ∧ I k ρ) ?_ ?_ _ _ ⟨0, Nat.zero_le n, by simp, h⟩
  · rintro ρ ⟨k, hk, hd, hi⟩
    have : k = n := by
      rcases Nat.lt_or_ge k n with z | z
      · rw [show n - k = (n - (k + 1)) + 1 by omega, rangeD_cons] at hd; cases hd
      · omega
    subst this
    exact h0 ρ hi
  · rintro d ds ρ next hn ⟨k, hk, hd, hi⟩
    have hkn : k < n := by
      rcases Nat.lt_or_ge k n with z | z
      · exact z
      · rw [show n - k = 0 by omega, rangeD_zero] at hd; cases hd
    rw [show n - k = (n - (k + 1)) + 1 by omega, rangeD_cons] at hd
    obtain ⟨rfl, rfl⟩ := List.cons.inj hd
    exact h1 k ρ next hkn (fun ρ' z => hn ρ' ⟨k + 1, hkn, by rw [show lo + (k : Int) + 1 = lo + ((k + 1 : Nat) : Int) by push_cast; omega], z⟩) hi
/-- a loop whose state is of one form only -/
theorem forK_st {wg : WG} {body : WS} {DD : EndsD} {ρ : Rho} (ds : List D) (I : Rho → Prop) (h : I ρ) (h0 : ∀ ρ, I ρ → DD.nx ρ)
    (h1 : ∀ d ∈ ds, ∀ (ρ : Rho) (next : Rho → Prop), (∀ ρ', I ρ' → next ρ') → I ρ → wg d ρ fun ρ1 => body ⟨next, DD.rt, DD.nx, next, DD.ex⟩ ρ1) : forK wg body ds DD ρ :=
  forK_ind (fun es ρ => (∀ d ∈ es, d ∈ ds) ∧ I ρ) (fun ρ z => h0 ρ z.2) (fun d es ρ next hn z => h1 d (z.1 d (.head _)) ρ next (fun ρ' y => hn ρ' ⟨fun d' hd => z.1 d' (.tail _ hd), y⟩) z.2) ds ρ ⟨fun _ h => h, h⟩
/-- a loop that draws: the state tells how many have gone -/
theorem forK_n {wg : WG} {body : WS} {DD : EndsD} {ρ : Rho} (ds : List D) (I : Nat → Rho → Prop) (h : I 0 ρ) (h0 : ∀ ρ, I ds.length ρ → DD.nx ρ)
    (h1 : ∀ (k : Nat) (d : D) (ρ : Rho) (next : Rho → Prop), k < ds.length → d ∈ ds → (∀ ρ', I (k + 1) ρ' → next ρ') → I k ρ → wg d ρ fun ρ1 => body ⟨next, DD.rt, DD.nx, next, DD.ex⟩ ρ1) : forK wg body ds DD ρ :=
  forK_ind (fun es ρ => (∀ d ∈ es, d ∈ ds) ∧ ∃ k, k + es.length = ds.length ∧ I k ρ) (fun ρ z => by
      obtain ⟨_, k, e, i⟩ := z
      rw [List.length_nil, Nat.add_zero] at e
      rw [e] at i
      exact h0 ρ i) (fun d es ρ next hn z => by
      obtain ⟨hm, k, e, i⟩ := z
      rw [List.length_cons] at e
      exact h1 k d ρ next (by omega) (hm d (.head _)) (fun ρ' y => hn ρ' ⟨fun d' hd => hm d' (.tail _ hd), k + 1, by omega, y⟩) i) ds ρ ⟨fun _ h => h, 0, by omega, h⟩
/-- a comprehension that draws -/
theorem lcK_dr {α : Type} {inj : α → D} {T : List Nat} {wg : WG} {wt : WT} {we : WE} {k : List D → Rho → Prop} {ρ : Rho} (ds : List D) (I : List α → Rho → Prop) (h : I [] ρ) (h0 : ∀ xs ρ, xs.length = ds.length → I xs ρ → k (xs.map inj) ρ)
    (h1 : ∀ d ∈ ds, ∀ (xs : List α) (ρ : Rho) (next : List D → Rho → Prop), xs.length < ds.length → (∀ x ρ', I (xs ++ [x]) ρ' → next (xs.map inj ++ [inj x]) ρ') → I xs ρ → wg d ρ fun ρ1 => wt ρ1 (fun b ρ2 => if b = true then we ρ2 (fun c ρ3 => match frzC c with
      | .v d' => next (xs.map inj ++ [d']) (clr T ρ3)
      | _ => False) (fun _ _ => False) else next (xs.map inj) (clr T ρ2)) (fun _ _ => False)) : lcK T wg wt we ds [] ρ k :=
  lcK_ind (fun es acc ρ => (∀ d ∈ es, d ∈ ds) ∧ ∃ xs, acc = xs.map inj ∧ xs.length + es.length = ds.length ∧ I xs ρ) (fun acc ρ z => by
      obtain ⟨_, xs, rfl, e, i⟩ := z
      exact h0 xs ρ (by simpa using e) i) (fun d es acc ρ next hn z => by
      obtain ⟨hm, xs, rfl, e, i⟩ := z
      rw [List.length_cons] at e
      exact h1 d (hm d (.head _)) xs ρ next (by omega) (fun x ρ' y => hn _ _ ⟨fun d' hd => hm d' (.tail _ hd), xs ++ [x], by rw [List.map_append]; rfl, by rw [List.length_append, List.length_singleton]; omega, y⟩) i) ds [] ρ ⟨fun _ h => h, [], rfl, by simp, h⟩
theorem forK_r0 {wg : WG} {body : WS} {DD : EndsD} {ρ : Rho} (n : Nat) (I : Nat → Rho → Prop) (h : I 0 ρ) (h0 : ∀ ρ, I n ρ → DD.nx ρ)
    (h1 : ∀ (k : Nat) (ρ : Rho) (next : Rho → Prop), k < n → (∀ ρ', I (k + 1) ρ' → next ρ') → I k ρ → wg (.int (k : Nat)) ρ fun ρ1 => body ⟨next, DD.rt, DD.nx, next, DD.ex⟩ ρ1) : forK wg body (rangeD 0 n) DD ρ :=
  forK_rg n I h h0 fun k ρ next hk hn hi => by
    rw [Int.zero_add]
    exact h1 k ρ next hk hn hi
theorem lcK_r0 {T : List Nat} {wg : WG} {wt : WT} {we : WE} {k : List D → Rho → Prop} {ρ0 : Rho} (g : Nat → Option D) (n : Nat)
    (h : ∀ x, x < n → ∀ next : Option D → Rho → Prop, next (g x) ρ0 → wg (.int (x : Nat)) ρ0 fun ρ1 => wt ρ1 (fun b ρ2 => if b = true then we ρ2 (fun c ρ3 => match frzC c with
      | .v d' => next (some d') (clr T ρ3)
      | _ => False) (fun _ _ => False) else next none (clr T ρ2)) (fun _ _ => False)) (fin : k ((List.range n).filterMap g) ρ0) : lcK T wg wt we (rangeD 0 n) [] ρ0 k :=
  lcK_rg g n (fun x hx next hn => by
    rw [Int.zero_add]
    exact h x hx next hn) fin
theorem filterMap_if {α β : Type} (p : α → Prop) [DecidablePred p] (f : α → β) : ∀ l : List α, l.filterMap (fun x => if p x then some (f x) else none) = (l.filter fun x => decide (p x)).map f
  | [] => rfl
  | x :: l => by
    rw [List.filterMap_cons]
    by_cases h : p x
    · rw [if_pos h, List.filter_cons_of_pos (by simpa using h), List.map_cons, filterMap_if p f l]
    · rw [if_neg h, List.filter_cons_of_neg (by simpa using h), filterMap_if p f l]
theorem filterMap_map' {α β γ : Type} (g : α → Option β) (f : β → γ) (l : List α) : l.filterMap (fun x => (g x).map f) = (l.filterMap g).map f := by
  rw [List.map_filterMap]
theorem filterMap_some' {α β : Type} (f : α → β) (l : List α) : l.filterMap (fun x => some (f x)) = l.map f := by
  induction l with
  | nil => rfl
  | cons x l ih => rw [List.filterMap_cons]; show f x :: _ = _; rw [ih]; rfl
/-- a loop over a list that is written out, at which the steps stop -/
def forN (wg : WG) (body : WS) (ds : List D) (DD : EndsD) (ρ : Rho) : Prop := forK wg body ds DD ρ
@[reducible] def wForN (wi : WI) (wg : WG) (body : WS) : WS := fun DD ρ => wi ρ (fun ds ρ1 => forN wg body ds DD ρ1) DD.ex
theorem forN_of {wg : WG} {body : WS} {ds : List D} {DD : EndsD} {ρ : Rho} (h : forK wg body ds DD ρ) : forN wg body ds DD ρ := h
section
variable {X : Cx} {g : G} {W : WX} {tg iter : Expr} {body : List Stmt} {wi : WI} {wg : WG} {wb : WS} {T : List Nat} {pos : Pos}
theorem es_forN (hp : PassesOwn (model X.prog X.w) X.A X.env X.xe) (hc : X.calm = true) (hi : EI X g W tg iter wi) (hg : EG X g tg T wg) (hb : EB X g W body wb) (hs : ∀ x, foldedSetIterable iter X.env x = pure x := by intro _; rfl) : ES X g W (.For tg iter body [] pos) (wForN wi wg wb) := es_for hp hc hi hg hb hs
end
end DL
namespace DL
open PySem PySem.Spec PyProof.Rows L2
theorem eb_never {X : Cx} {g : G} {W : WX} {sts : List Stmt} : EB X g W sts wNever := ⟨fun _ _ _ => False, ⟨fun _ _ _ _ _ _ h => h.elim⟩, fun _ _ _ _ _ _ _ _ _ hw _ => hw⟩
end DL
namespace DL
open PySem PySem.Spec PyProof.Rows L2
theorem ifb_t {A B : Prop} {b : Bool} (h : b = true) (a : A) : if b = true then A else B := by rw [if_pos h]; exact a
theorem ifb_f {A B : Prop} {b : Bool} (h : b = false) (a : B) : if b = true then A else B := by rw [if_neg (by rw [h]; exact Bool.false_ne_true)]; exact a
theorem cut_to {ds : List D} {a : Int} (h0 : 0 ≤ a) (h1 : a ≤ ds.length) : cutD ds none (some a) = ds.take a.toNat := by
  have e1 : HT.sIx ds.length ds.length (some a) = a.toNat := by
    show (if a < 0 then (a + (ds.length : Int)).toNat else min a.toNat ds.length) = a.toNat
    rw [if_neg (by omega)]
    omega
  have e2 : HT.sIx ds.length 0 none = 0 := rfl
  unfold cutD
  rw [e1, e2]
  rfl
theorem cut_from {ds : List D} {a : Int} (h0 : 0 ≤ a) (h1 : a ≤ ds.length) : cutD ds (some a) none = ds.drop a.toNat := by
  have e1 : HT.sIx ds.length 0 (some a) = a.toNat := by
    show (if a < 0 then (a + (ds.length : Int)).toNat else min a.toNat ds.length) = a.toNat
    rw [if_neg (by omega)]
    omega
  have e2 : HT.sIx ds.length ds.length none = ds.length := rfl
  unfold cutD
  rw [e1, e2]
  exact List.take_of_length_le (by rw [List.length_drop]; omega)
theorem cut_last {ds : List D} {d : D} : cutD (ds ++ [d]) none (some (-1)) = ds := by
  have l : (ds ++ [d]).length = ds.length + 1 := by simp
  have e1 : HT.sIx (ds ++ [d]).length (ds ++ [d]).length (some (-1)) = ds.length := by unfold HT.sIx; rw [l]; simp; omega
  have e2 : HT.sIx (ds ++ [d]).length 0 none = 0 := rfl
  unfold cutD
  rw [e1, e2]
  simp
theorem atI_lastD {α : Type} {ds : List α} {d : α} : atI (ds ++ [d]) (-1) = some d := by
  have l : ((ds ++ [d]).length : Int) = ds.length + 1 := by simp
  unfold atI ixN
  rw [if_neg (by omega), if_pos (by rw [l]; omega)]
  have z : (-1 + ((ds ++ [d]).length : Int)).toNat = ds.length := by rw [l]; omega
  show (ds ++ [d])[_]? = _
  rw [z]
  simp
end DL
namespace DL
open PySem PySem.Spec PyProof.Rows L2
theorem cut_take {ds : List D} {a : Nat} : cutD ds none (some (a : Int)) = ds.take a := by
  unfold cutD
  rw [HT.sIx_nat, HT.sIx_none, Nat.sub_zero, List.drop_zero]
  rcases Nat.le_total a ds.length with h | h
  · rw [Nat.min_eq_left h]
  · rw [Nat.min_eq_right h, List.take_of_length_le (Nat.le_refl _), List.take_of_length_le h]
end DL

set_option Elab.async false
set_option linter.all false
set_option maxRecDepth 100000
/-! range(i, j) of numbers of any size -/
namespace DL
open PySem PySem.Spec PyProof.Rows L2
theorem turn_long {P : Program} {w : World} {K : PySem.W.Frag} {tg : Expr} (it : Addr) (lo : Int) (n : Nat) : Turn P w K tg (Itr lo n) [it] it (fun i h => IsLongIter h it (lo + (i : Nat) * 1) ((n : Int) - (i : Nat)) 1) where
  mem := by simp
  obj := fun i h st b hb => by
    have e : b = it := by simpa using hb
    subst e
    exact ⟨_, st, fun v z => by
      have z' : Data.fields _ = Data.cell v := z
      cases z'⟩
  keep := fun i h h' st k => k it (by simp) _ st
  item := by
    intro X hP hw hK hc i pins s σ H E I hf st hg
    subst hP hw hK
    obtain ⟨f0, f1, f2, f3, f4, f5⟩ := hf it (by simp)
    have W := Walks.longrange (prog := X.prog) (w := X.w) (I.ok.hd hc) it lo 1 n
    refine W.item i s _ _ hg st fun v h' tk hv st' kk => ?_
    obtain ⟨t, rfl⟩ := hv
    have I1 : Inv X pins σ H { s with heap := h', toks := tk } := I.turned (fun b o hb e => kk b o (by simpa using hb) e) f0 f1 f3 f4 f5
    refine ⟨_, rfl, go_of (s := { s with heap := h', toks := tk }) (n := "longrange_iterator") st' rfl rfl (by decide) ⟨.int (lo + i), H, I1, ⟨t, ?_⟩, ⟨rfl, rfl⟩, st', fun b hb => (hf b hb).1⟩⟩
    rw [Int.mul_one]
  done := by
    intro X hP hw hK hc i pins s σ H E I hf st hg
    subst hP hw hK
    obtain ⟨f0, f1, f2, f3, f4, f5⟩ := hf it (by simp)
    exact wpAny_pyNext_long_end (I.ok.hd hc) st (by have : n ≤ i := hg; omega) fun h' eb => ⟨rfl, I.turned (t' := s.toks) (fun b o hb e => eb b o hb e) f0 f1 f3 f4 f5⟩
  self := fun _ _ _ _ _ st h => wpAny_pyIter_longiter st h
section
variable {X : Cx} {tg : Expr}
theorem range_any {pins : List (Addr × Obj)} {σ : L2.St} {H : Hp} {s : Shared} {R : It → Hp → Prop} {E : Value → Shared → Prop} {lo hi : Int} {t u v : Tok} {tk : Nat} (I : Inv X pins σ H s)
    (q : R (Itr lo (hi - lo).toNat) H) : wpAny (model X.prog X.w) X.A (pyIter (.ref s.heap.objs.size)) (PIE X pins σ tg R) E { s with heap := s.heap.push { cls := .type "range", data := .fields #[.int lo t, .int hi u, .int 1 v] }, toks := tk } := by
  have I1 : Inv X pins σ H { s with heap := s.heap.push { cls := .type "range", data := .fields #[.int lo t, .int hi u, .int 1 v] }, toks := tk } := I.kept fun b o e => Heap.get?_push_of_some _ e
  have e1 : lo + ((0 : Nat) : Int) * 1 = lo := by simp
  have e2 : (((hi - lo).toNat : Nat) : Int) - ((0 : Nat) : Int) = Builtin.Range.rangeSize lo hi 1 := by rw [rangeSize_one]; split <;> omega
  have fr : ∀ b ∈ [(s.heap.push { cls := .type "range", data := .fields #[.int lo t, .int hi u, .int 1 v] }).objs.size], FpOk X pins H b := fun b hb => by
    have e : b = (s.heap.push { cls := .type "range", data := .fields #[.int lo t, .int hi u, .int 1 v] }).objs.size := by simpa using hb
    subst e
    exact I1.fpOk (Nat.le_refl _) (I1.hok.fresh (Nat.le_refl _))
  cases hs : Builtin.Range.small lo hi 1 with
  | true =>
    refine wpAny_pyIter_range (IsRange.new ..) hs ?_
    refine ⟨(s.heap.push { cls := .type "range", data := .fields #[.int lo t, .int hi u, .int 1 v] }).objs.size, [(s.heap.push { cls := .type "range", data := .fields #[.int lo t, .int hi u, .int 1 v] }).objs.size], _, _, H, rfl,
      I1.kept (t' := tk) fun b o e => Heap.get?_push_of_some _ e, turn_range _ lo (hi - lo).toNat, ?_, fr, q⟩
    show IsRangeIter _ _ (lo + ((0 : Nat) : Int) * 1) ((((hi - lo).toNat : Nat) : Int) - ((0 : Nat) : Int)) 1
    rw [e1, e2]
    exact Heap.get?_push_size _ rfl
  | false =>
    refine wpAny_pyIter_longrange (IsRange.new ..) hs ?_
    refine ⟨(s.heap.push { cls := .type "range", data := .fields #[.int lo t, .int hi u, .int 1 v] }).objs.size, [(s.heap.push { cls := .type "range", data := .fields #[.int lo t, .int hi u, .int 1 v] }).objs.size], _, _, H, rfl,
      I1.kept (t' := tk) fun b o e => Heap.get?_push_of_some _ e, turn_long _ lo (hi - lo).toNat, ?_, fr, q⟩
    show IsLongIter _ _ (lo + ((0 : Nat) : Int) * 1) ((((hi - lo).toNat : Nat) : Int) - ((0 : Nat) : Int)) 1
    rw [e1, e2]
    exact Heap.get?_push_size _ rfl
def iRng2B (ta : TA) : TI := fun σ H R => ta σ H fun vs H1 => ∃ i j : Int, vs = [.int i, .int j] ∧ R (Itr i (j - i).toNat) H1
theorem pi_range2B {a b : Expr} {ta : TA} {p pos : Pos} (hg : Gl X "range") (hm : X.mg "range" = none) (ha : PA X [a, b] ta) (hs : starEach [a, b] X.env = [(false, eval a X.env), (false, eval b X.env)] := by rfl) (hs2 : starEach [b] X.env = [(false, eval b X.env)] := by rfl) :
    PI X tg (.Call (.Name "range" p) [a, b] [] pos) (iRng2B ta) := by
  refine ⟨fun pins s σ H R I h => ?_⟩
  refine Call_ (ld_blt I hg hm boot_range (PyProof.Rows.callWith_type1 (thn (ha.run pos pins s σ H _ I h) fun us s1 ⟨vs, H1, I1, r1, q1⟩ => ?_) (by rw [hs, hs2]) (by rw [hs2]; rfl)))
  obtain ⟨i, j, e, q⟩ := q1
  subst e
  cases r1 with
  | cons r rr =>
    cases rr with
    | cons r' rr =>
      cases rr
      obtain ⟨t, rfl⟩ := r
      obtain ⟨t', rfl⟩ := r'
      exact call_range_2 (range_any I1 q)
end
@[reducible] def wIR2B (wa : WA) : WI := fun ρ Q E => wa ρ (fun cs ρ1 => match cs with
  | [.v (.int i), .v (.int j)] => Q (rangeD i (j - i).toNat) ρ1
  | _ => False) E
section
variable {X : Cx} {g : G} {W : WX} {tg e : Expr} {we : WE} {pos : Pos}
theorem ei_range2B {a b : Expr} {wa : WA} {p : Pos} (hg : Gl X "range") (hm : X.mg "range" = none) (ha : EA X g W [a, b] wa) (hs : starEach [a, b] X.env = [(false, eval a X.env), (false, eval b X.env)] := by rfl) (hs2 : starEach [b] X.env = [(false, eval b X.env)] := by rfl) : EI X g W tg (.Call (.Name "range" p) [a, b] [] pos) (wIR2B wa) := by
  obtain ⟨t, q, s⟩ := ha.ex
  refine ⟨_, pi_range2B hg hm q hs hs2, fun σ vs H ρ cs QD ED R hS hw hX hQ => ?_⟩
  refine s σ vs H ρ cs _ ED _ hS hw hX fun xs H1 ccs ρ1 hl S1 q1 => ?_
  split at q1
  · rename_i i j
    match xs, hl with
    | [x, y], _ =>
      have q := S1.top
      cases q
      have q2 := S1.pop.top
      cases q2
      exact ⟨i, j, rfl, hQ _ [] [] _ H1 ρ1 rfl S1.pop.pop walks_range q1⟩
  · exact q1.elim
end
end DL

set_option Elab.async false
set_option linter.all false
set_option maxRecDepth 100000
/-! sorted(list of texts) -/
namespace DL
open PySem PySem.Spec PyProof.Rows L2
theorem DpAll.strs {K : PySem.W.Frag} {B : Hp} : ∀ (ns : List Str), DpAll K B (ns.map V.str) (ns.map PyData.str)
  | [] => .nil
  | x :: xs => .cons (.str x) (DpAll.strs xs)
@[reducible] def oSortS : OL := fun ds k => match ds with
  | [.list es] => optK (strsOf es) fun ns => ns.length < 64 ∧ ∀ ns' : List Str, ns'.Perm ns → sortedS ns' = true → k (.own 0 (.lst (ns'.map PyData.str)))
  | _ => False
theorem lift_sortS {K : PySem.W.Frag} : LiftL K (rSortedS K) oSortS := by
  intro O H xs ds QD Q _ hx q fin
  unfold oSortS at q
  split at q
  · rename_i es
    cases hx with
    | cons h1 h2 =>
      cases h2
      cases h1 with
      | lst a1 a2 =>
        cases e : strsOf es with
        | none => rw [e] at q; exact q.elim
        | some ns =>
          rw [e] at q
          have e2 := strsOf_dp a2 e
          subst e2
          refine ⟨_, ns, rfl, Same.seq same_hide a1, q.1, fun ns' p pm pw n => fin _ _ (.own 0 (.lst _)) (same_new n) (new_lst n (DL.DpAll.strs ns')) (q.2 ns' pm pw)⟩
  · exact q.elim
section
variable {X : Cx} {g : G} {W : WX} {e : Expr} {es : List Expr} {wa : WA} {p pos : Pos}
theorem ee_sortS (hg : Gl X "sorted") (hm : X.mg "sorted" = none) (ha : EA X g W (e :: es) wa) (he : starEach (e :: es) X.env = (false, eval e X.env) :: starEach es X.env := by rfl) (hpl : (backTo pos (starEach es X.env)).any (·.1) = false := by rfl) : EE X g W (.Call (.Name "sorted" p) (e :: es) [] pos) (wL oSortS wa) :=
  ee_cb cr_sortedS lift_sortS hg hm (by decide +kernel) ha (he := he) (hpl := hpl)
end
end DL

set_option Elab.async false
set_option linter.all false
set_option maxRecDepth 100000
set_option maxHeartbeats 4000000
/-! DL: x.insert(i, e) of an own list in a slot -/
namespace DL
open PySem PySem.Spec PyProof.Rows L2
@[reducible] def wIns (i : Nat) (wa : WA) : WE := fun ρ Q E => match rget ρ i with
  | .own _ (.lst _) => wa ρ (fun ccs ρ1 => match frzs ccs, rget ρ1 i with
    | [.v (.int j), .v d], .own t (.lst ds) => ds.length < sizeLine ∧ 0 ≤ j ∧ j < 2 ^ 63 ∧ Q (.v .none) (rset ρ1 i (.own t (.lst (ds.take j.toNat ++ [d] ++ ds.drop j.toNat))))
    | _, _ => False) E
  | _ => False
theorem dpAll_take {K : PySem.W.Frag} {B : Hp} : ∀ {n : Nat} {xs : List V} {ds : List D}, DpAll K B xs ds → DpAll K B (xs.take n) (ds.take n)
  | 0, _, _, _ => .nil
  | _ + 1, _, _, .nil => .nil
  | n + 1, _, _, .cons h t => .cons h (dpAll_take t)
theorem dpAll_drop {K : PySem.W.Frag} {B : Hp} : ∀ {n : Nat} {xs : List V} {ds : List D}, DpAll K B xs ds → DpAll K B (xs.drop n) (ds.drop n)
  | 0, _, _, h => h
  | _ + 1, _, _, .nil => .nil
  | n + 1, _, _, .cons h t => dpAll_drop (n := n) t
section
variable {X : Cx} {g : G} {W : WX} {a b : Expr} {wa : WA} {i : Nat} {x : Str} {p apos pos : Pos}
theorem ee_ins (hL : g.L i = true) (hx : PE X (.Name x p) (tVar i)) (h : EA X g W [a, b] wa)
    (hbase : attributeBase (.Name x p) "insert" X.env (eval (.Name x p) X.env) = eval (.Name x p) X.env := by rfl)
    (hfew : ((backTo pos (starEach [a, b] X.env)).all (fun x => !x.1) && (backToKw pos (keywordEach [] X.env)).all (fun x => x.1.isSome) && decide (([a, b] : List Expr).length + ([] : List Keyword).length + (if ([] : List Keyword).isEmpty then 0 else 1) < 30)) = true := by rfl)
    (hline : (apos.endLine == pos.line) = true := by rfl) (hs : starEach [a, b] X.env = (false, eval a X.env) :: starEach [b] X.env := by rfl) (hplain : (backTo pos (starEach [b] X.env)).any (·.1) = false := by rfl) :
    EE X g W (.Call (.Attribute (.Name x p) "insert" apos) [a, b] [] pos) (wIns i wa) := by
  obtain ⟨t, q, s⟩ := h.ex
  refine ⟨_, pe_bm PySem.F.plainAttrs_list PySem.F.slot_list_insert PySem.F.type_list_insert mt_insert hx q hbase hfew hline hs hplain, fun σ vs H ρ cs QD ED Q hS hw hX hQ => ?_⟩
  unfold wIns at hw
  split at hw
  · rename_i t0 ds0 e0
    obtain ⟨l, xs, e1, e2, _⟩ := own_list hS e0
    refine ⟨.ref l, e1, .inl ⟨rfl, xs, .inl (.inl e2)⟩, ?_⟩
    refine s σ vs H ρ cs _ ED _ hS hw hX fun ys H1 ccs ρ1 hl S1 q1 => ?_
    split at q1
    · rename_i j d t1 ds1 ec eo
      obtain ⟨u, v, rfl, S2⟩ := args2 hl S1 (frzs_eq.symm.trans ec)
      have z1 := S2.top
      have z2 := S2.pop.top
      cases z1 with
      | int j =>
        obtain ⟨l', xs', e3, e4, e5⟩ := own_list S2.pop.pop eo
        rw [e1] at e3
        cases e3
        refine ⟨l, xs', j, v, rfl, rfl, e4, by rw [DL.DpAll.len e5]; exact q1.1, q1.2.1, q1.2.2.1, ?_⟩
        have S3 := S2.pop.pop.mutSlot (H' := upd H1 l (.lst (xs'.take j.toNat ++ [v] ++ xs'.drop j.toNat))) eo e1 hL (fun b u n z => by rw [upd_ne n]; exact z) (o' := .lst (ds1.take j.toNat ++ [d] ++ ds1.drop j.toNat)) ⟨_, upd_same, DL.DpAll.app (DL.DpAll.app (dpAll_take e5) (.cons z2 .nil)) (dpAll_drop e5)⟩
        exact hQ _ _ _ _ (SR.resV S3 (Same.refl _) .non) q1.2.2.2
    · exact q1.elim
  · exact hw.elim
end
end DL

set_option Elab.async false
set_option linter.all false
set_option maxRecDepth 100000
set_option maxHeartbeats 4000000
/-! DL: the program's own exceptions are raised -/
namespace DL
open PySem PySem.Spec PyProof.Rows L2
/-- a class of exceptions of the program, over ValueError, without fields -/
structure ExcG (K : PySem.W.Frag) (mg : Str → Option Value) (x : Str) : Prop where
  g : mg x = some (.ref (He.ga K x))
  e : PySem.W.excIn K (He.ga K x) He.veBase "ValueError.__new__" = true
  k : PySem.W.keepIn K (.ref (He.ga K x)) = true
  s : PySem.W.subIn K (.ref (He.ga K x)) (.type "BaseException") = some true
  t : PySem.W.typeIn K (.ref (He.ga K x)) = some (.type "type")
theorem ExcG.of {K : PySem.W.Frag} {h : Heap} {mg : Str → Option Value} {x : Str} (X : K.In h) (G : h.Ns mainGlobals mg) (g : mg x = some (.ref (He.ga K x))) (c : (He.Fa.exc x).ok K = true) : ExcG K mg x :=
  have q := He.exc_ok c
  ⟨g, q.1, q.2.1, q.2.2.1, q.2.2.2⟩
section
variable {X : Cx} {x : Str} {p pos pos' : Pos}
/-- X() -/
theorem pmk_none (e : ExcG X.K X.mg x) (hg : Gl X x) (hdb : (x == ("__debug__" : Str)) = false := by decide) :
    PMk X (.Call (.Name x p) [] [] pos) (fun _ H Q => Q (.ref (He.ga X.K x)) none H) := by
  intro pins s σ H Q J h
  refine wpAny_Call_Name_kw (ld_glob J hg e.g ?_ hdb)
  have F := PySem.F.excBase_ValueError
  refine PySem.W.callWith_K0 J.kIn e.k ?_
  show wpAny _ _ (call _ []) _ _ _
  obtain ⟨bm, N, nm, qn, bs, hdct, sn, sub, ab, col, dd, k0, k1, k2, k3, k5, mN, hC, hN, hni, T⟩ := exc_obj J.kIn e.e
  exact wpAny_call_exc_subT F T hC hN hni (fun h' u hm => mk_of J hm (raises_own e.s e.t) h (J.hok.gone hm.new)) (Nat.zero_le _)
@[reducible] def wRaise (x : Str) : WS := fun DD ρ => DD.ex ⟨x, []⟩ ρ
theorem SR.dropAll {K : PySem.W.Frag} {g : G} {σ : L2.St} : ∀ {vs : List V} {cs : List C} {H : Hp} {ρ : Rho}, SR K g σ vs H ρ cs → SR K g σ [] H ρ []
  | [], [], _, _, h => h
  | v :: vs, c :: cs, _, _, h => SR.dropAll h.pop
  | [], _ :: _, _, _, h => (by have := h.tp.len; simp at this)
  | _ :: _, [], _, _, h => (by have := h.tp.len; simp at this)
theorem es_raise {g : G} {W : WX} (hc : X.calm = true) (tk : Takes X W) (e : ExcG X.K X.mg x) (hg : Gl X x) (hdb : (x == ("__debug__" : Str)) = false := by decide) :
    ES X g W (.Raise (some (.Call (.Name x p) [] [] pos)) none pos') (wRaise x) := by
  refine ⟨_, ps_raise hc tk (pmk_none e hg hdb), fun σ vs H ρ cs DD D hS hp hw hE => ?_⟩
  exact hE.ex σ ⟨x, []⟩ ρ _ none H hS.dropAll ⟨rfl, .inl ⟨rfl, rfl⟩⟩ hw
end
end DL

set_option Elab.async false
set_option linter.all false
set_option maxRecDepth 100000
set_option maxHeartbeats 4000000
/-! DL: defs that are promised only where no repr is under way (there repr of nested data has a meaning) -/
namespace DL
open PySem PySem.Spec PyProof.Rows L2
/-- a def's promise where nothing is being shown -/
structure FnG (P : Program) (w : World) (K : PySem.W.Frag) (mg : Str → Option Value) (base : Heap) (CX : CXT) (k : Nat) (f : Addr) (fd : FuncData) (ps : List Str) (sp : Sp) : Prop where
  len : ∀ xs H Q E, sp xs H Q E → xs.length = ps.length
  run : ∀ (A : Around) (outer : List Env) (s : Shared) (H : Hp) (args : Args) (us : List Value) (xs : List V) (Q : VK) (E : XK), A.guards = some [] → Room k A → Env0 P w K mg base A outer s H → BindsTo s fd args (ps.zip us) → Vals xs us → sp xs H Q E →
    codeAny (model P w) A (.call (.ref f) args) (CR CX outer P w H s Q E) s
section
variable {P : Program} {w : World} {K : PySem.W.Frag} {mg : Str → Option Value} {base : Heap} {x qual : Str} {params : Arguments} {body : List Stmt} {scope : Scope} {dvs : List V} {kws : List (Str × V)} {f : Addr} {fd : FuncData}
theorem fnG_body {CX : CXT} {N ps : List Str} {k : Nat} {sp : Sp} (F : FunD K x qual params body scope dvs kws f fd) (S : FnScope N ps scope) (len : ∀ xs H Q E, sp xs H Q E → xs.length = ps.length)
    (hb : ∀ (cdv : Value) (A : Around) (outer : List Env) (s : Shared) (H : Hp) (xs : List V) (Q : VK) (E : XK), A.guards = some [] → Room k (A.deeper (envOfC qual scope s.heap.objs.size f cdv)) → sp xs H Q E →
      ∃ t, PSs (cxOf CX P w K mg base N qual scope f cdv A outer s H E) body t ∧ t { nx := fun _ H1 => Q .non H1, rt := Q } (start N xs) H) : FnG P w K mg base CX (k + 1) f fd ps sp := by
  obtain ⟨oc, od, dV, kV, doc, pm, an, cdv, ct, osl, rfl, look, code, _, _⟩ := F.ex
  refine ⟨len, fun A outer s H args us xs Q E gd room en bd rv hs => ?_⟩
  have full : K.In s.heap := en.mod.kin.keeps fun b o g => (en.bs b o g).1
  have noLim : s.heap.NoLimit := en.mod.nolimit.keeps fun b o g => (en.bs b o g).1
  have kinds : ∀ y ∈ ps.zip us, scope.names.lookup y.1 = some .local ∨ (scope.names.lookup y.1 = some .cell ∧ ((cellsFrom (s.heap.objs.size + 1) scope.names []).lookup y.1).isSome = true) := by
    rintro ⟨n, u⟩ hy
    have q := S.par n (List.of_mem_zip hy).1
    exact q.elim .inl fun z => .inr ⟨z, PySem.W.cellsFrom_some _ _ _ (.inl z)⟩
  have room1 := fun env => room.deeper (k := k) (A := A) env
  refine codeAny_call_function room.depth (full _ _ look) rfl S.co S.gen rfl (PySem.W.codeRec_of full code) (bd _ _ _ _ (wpAny_newFunctionEnv_cells S.kind kinds fun env ee s1 made => ?_))
  cases ee
  refine ⟨noLim.keeps made.toInCall.keep, codeAny_func ?_⟩
  obtain ⟨t, pt, run⟩ := hb cdv A outer s H xs Q E gd (room1 _) hs
  have inv : Inv (cxOf CX P w K mg base N qual scope f cdv A outer s H E) [] (start N xs) H s1 := inv_start S room.hd en (len _ _ _ _ hs) rv made
  refine wpAny_mono (pt.run [] s1 (start N xs) H _ inv run) (fun fl s2 out => ?_) fun _ _ z => z
  cases fl with
  | next =>
    obtain ⟨σ2, H2, J, q⟩ := out
    exact ⟨V.non, H2, J.os, J.bare, J.base, J.hok, rfl, q⟩
  | ret u =>
    obtain ⟨y, σ2, H2, J, rel, q⟩ := out
    exact ⟨y, H2, J.os, J.bare, J.base, J.hok, rel, q⟩
  | brk =>
    obtain ⟨_, _, _, z⟩ := out
    exact z.elim
  | cont =>
    obtain ⟨_, _, _, z⟩ := out
    exact z.elim
/-- a def that lets no exception out, promised where nothing is being shown -/
theorem fnG0 {CX : CXT} {N ps : List Str} {n k : Nat} {Sd : SpD} {L : Nat → Bool} {ww : WS} (F : FunD K x qual params body scope dvs kws f fd) (S : FnScope N ps scope) (hn : N.length = n) (len : ∀ as QD ED, Sd as QD ED → as.length = ps.length)
    (hb : ∀ (cdv : Value) (A : Around) (outer : List Env) (s : Shared) (H : Hp) (E : XK), A.guards = some [] → Room k (A.deeper (envOfC qual scope s.heap.objs.size f cdv)) → ∀ g : G, g.L = L → EB (cxOf CX P w K mg base N qual scope f cdv A outer s H E).nox g (fun _ _ _ _ => False) body ww)
    (hw : ∀ as QD ED, Sd as QD ED → ww (bodyEnds as QD fun _ _ => False) (startD n as)) : FnG P w K mg base CX (k + 1) f fd ps (spOf K Sd) := by
  refine fnG_body F S (fun xs H Q E h => ?_) fun cdv A outer s H xs Q E gd hr h => ?_
  · obtain ⟨as, P, QD, ED, entry, sd, _⟩ := h
    have e := entry.len
    rw [List.length_map] at e
    rw [e, len as QD ED sd]
  · obtain ⟨as, P, QD, ED, entry, sd, ret, exc⟩ := h
    have h2 : spOf K (fun as QD ED' => ED' = (fun _ _ => False) ∧ ∃ ED, Sd as QD ED) xs H Q (fun _ _ _ => False) := ⟨as, P, QD, fun _ _ => False, entry, ⟨rfl, ED, sd⟩, ret, fun x rs z => z.elim⟩
    obtain ⟨t, p, q⟩ := body_ok (N := N) (X := (cxOf CX _ w K mg base N qual scope f cdv A outer s H E).nox) (K := K) rfl hn (W := fun _ _ _ _ => False) (E := fun _ _ _ => False) (fun _ _ _ _ z => z)
      (fun g hg => hb cdv A outer s H E gd hr g hg) (fun as' QD' ED' ⟨z1, ED2, z2⟩ => by rw [z1]; exact hw as' QD' ED2 z2) h2
    exact ⟨t, p.nox, q⟩
end
/-- such a def by its name -/
structure HasG (P : Program) (w : World) (K : PySem.W.Frag) (mg : Str → Option Value) (base : Heap) (k : Nat) (x : Str) (S : SpD) : Prop where
  ex : ∃ (f : Addr) (fd : FuncData) (ps : List Str), FnG P w K mg base (L2.CX P w) k f fd ps (spOf K S) ∧ mg x = some (.ref f) ∧ PySem.W.keepIn K (.ref f) = true ∧ Binds K fd ps []
section
variable {X : Cx} {g : G} {k : Nat} {S : SpD} {x : Str} {p pos : Pos} {e : Expr} {es : List Expr} {wa : WA}
theorem pe_callG {CX : CXT} {sp : Sp} {f : Addr} {fd : FuncData} {ps : List Str} {t : TA} {E : XK} (F : FnG X.prog X.w X.K X.mg X.base CX k f fd ps sp) (gd : X.A.guards = some []) (room : Room k X.A) (hg : Gl X x) (hm : X.mg x = some (.ref f)) (hk : PySem.W.keepIn X.K (.ref f) = true)
    (bd : Binds X.K fd ps []) (px : Passes CX X E) (ha : PA X (e :: es) t) (hdb : (x == ("__debug__" : Str)) = false := by decide) (he : starEach (e :: es) X.env = (false, eval e X.env) :: starEach es X.env := by rfl) (hpl : (backTo pos (starEach es X.env)).any (·.1) = false := by rfl) :
    PE X (.Call (.Name x p) (e :: es) [] pos) (tCall sp [] E t) := by
  refine ⟨fun pins s σ H Q J h => wpAny_Call_Name_kw (ld_glob J hg hm (PySem.W.callWith_K (h₀ := X.base) J.ok.mod.kin hk (thn (ha.run pos pins s σ H _ J h) fun us s1 ⟨xs, H1, J1, rv, q⟩ => ⟨J1.kIn, ?_⟩) he hpl) hdb)⟩
  have rv2 : Vals (xs ++ []) (us ++ []) := rv.append .nil
  have len2 : (us ++ []).length = ps.length := by rw [← rv2.length]; exact F.len _ _ _ _ q
  refine wpAny_call (codeAny_mono (F.run X.A X.stack s1 H1 ⟨us, []⟩ (us ++ []) (xs ++ []) Q E gd room J1.env0 (bd s1 us J1.kIn len2) rv2 q) fun r s2 out => ?_)
  match r, out with
  | .error err, out => exact px pins σ H1 s1 err s2 J1 out
  | .ok (.ret u), out => exact J1.after out
  | .ok .next, out => exact False.elim out
  | .ok .brk, out => exact False.elim out
  | .ok .cont, out => exact False.elim out
theorem ee_hasG (h : HasG X.prog X.w X.K X.mg X.base k x S) (gd : X.A.guards = some []) (hr : Room k X.A) (hg : Gl X x) (ha : EA X g W0 (e :: es) wa) (hdb : (x == ("__debug__" : Str)) = false := by decide)
    (he : starEach (e :: es) X.env = (false, eval e X.env) :: starEach es X.env := by rfl) (hpl : (backTo pos (starEach es X.env)).any (·.1) = false := by rfl) : EE X g W0 (.Call (.Name x p) (e :: es) [] pos) (wCall S wa) := by
  obtain ⟨f, fd, ps, F, hm, hk, hb⟩ := h.ex
  obtain ⟨t, q, s⟩ := ha.ex
  refine ⟨_, pe_callG F gd hr hg hm hk hb passL q hdb he hpl, fun σ vs H ρ cs QD ED Q hS hw hX hQ => ?_⟩
  refine s σ vs H ρ cs _ ED _ hS hw hX fun xs H1 ccs ρ1 hl S1 q1 => ?_
  rw [List.append_nil]
  unfold callA at q1
  split at q1
  · rename_i i rest
    cases xs with
    | nil => simp at hl
    | cons x xs => exact SR.callP (by simpa using hl) S1 q1 hX (fun _ _ _ _ z => z) hQ
  · exact SR.callD hl S1 q1 hX (fun _ _ _ _ z => z) fun v H' c S3 q3 => hQ v H' c ρ1 S3 q3
end
/-! ### the end of a law whose own def shows data -/
/-- the law's def is called by the claim's caller: there nothing is being shown -/
theorem law_callG {P : Program} {w : World} {K : PySem.W.Frag} {mg mb : Str → Option Value} {k : Nat} {fa a : Addr} {fd : FuncData} {x : Str} {sp : Sp} {s₁ : Shared} {ws : List Value} {ns : List Int}
    (KX : K.In s₁.heap) (nsM : s₁.heap.Ns mainGlobals mg) (nsB : s₁.heap.Ns builtinsNs mb) (boot : ∀ x : Str, x ≠ "__name__" → mb x = bootBuiltins x) (noLim : s₁.heap.NoLimit) (noGen : s₁.gens = #[])
    (here : s₁.heap.get? a = some { cls := .type "list", data := .seq ws.toArray }) (hI : IntsAre ws ns) (few : ns.length ≤ sizeLine) (room : Room k callerA)
    (F : ∀ base : Heap, K.In base → base.Ns mainGlobals mg → FnG P w K mg base (L2.CX P w) k fa fd [x] sp) (bd : ∀ (s : Shared) (u : Value), BindsTo s fd ⟨[u], []⟩ [(x, u)])
    (prom : ∀ H : Hp, L2.Only H → SqL K H a (ns.map V.int) → sp [.ref a] H (fun v _ => v = .bl true) fun _ _ _ => False)
    (noExc : ∀ H e s', (L2.CX P w) [] H s₁ (fun _ _ _ => False) e s' → False) :
    codeAny (model P w) callerA (.call (.ref fa) ⟨[.ref a], []⟩) (fun r s' => r = .ok (.ret (.bool true)) ∧ OldK s₁.heap s'.heap ∧ s'.os = s₁.os ∧ AllBare s'.gens) s₁ := by
  have vals := vals_ints hI
  have same := hI.length
  have main : ∀ H : Hp, L2.Only H → SqL K H a (ns.map V.int) → HOk P w H s₁.heap → (∀ b, H b ≠ none → b = a) → (H a ≠ none → K.lookup a = none) →
      codeAny (model P w) callerA (.call (.ref fa) ⟨[.ref a], []⟩) (fun r s' => r = .ok (.ret (.bool true)) ∧ OldK s₁.heap s'.heap ∧ s'.os = s₁.os ∧ AllBare s'.gens) s₁ := by
    intro H only sq okH just out
    have hid : ∀ {b : Addr} {o : Obj}, s₁.heap.get? b = some o → H b = none → (hidT s₁.heap H).get? b = some o := fun g n => hidT_get g n
    have dictOut : ∀ {b : Addr} {o : Obj} {es : Array DictEntry} {ep : Nat}, s₁.heap.get? b = some o → o.data = .dict es ep → H b = none := by
      intro b o es ep g d
      by_cases z : H b = none
      · exact z
      · have eb := just b z
        rw [eb, here] at g
        cases g
        have d2 : Data.seq ws.toArray _ = Data.dict es ep := d
        cases d2
    have keepNs : ∀ {b : Addr} {m : Str → Option Value}, s₁.heap.Ns b m → (hidT s₁.heap H).Ns b m := by
      rintro b m ⟨o, es, ep, g, d, rest⟩
      exact ⟨o, es, ep, hid g (dictOut g d), d, rest⟩
    have inBase : K.In (hidT s₁.heap H) := by
      intro b o g
      refine hid (KX b o g) ?_
      by_cases z : H b = none
      · exact z
      · have eb := just b z
        rw [eb] at g z
        rw [out z] at g
        cases g
    obtain ⟨mc, m1, m2⟩ := noLim
    have md : Mod K mg (hidT s₁.heap H) := ⟨inBase, keepNs nsM, ⟨mb, keepNs nsB, boot⟩, ⟨mc, keepNs m1, m2⟩⟩
    have en : Env0 P w K mg (hidT s₁.heap H) callerA [] s₁ H := ⟨rfl, md, fun b o g => of_hidT g, Nat.le_of_eq (hidT_size _ _), trivial, (fun b hb => nomatch hb), okH, .of_eq noGen⟩
    refine codeAny_mono ((F _ inBase (keepNs nsM)).run callerA [] s₁ H ⟨[.ref a], []⟩ [.ref a] [.ref a] _ _ rfl room en (bd s₁ (.ref a)) (.cons rfl .nil) (prom H only sq)) fun r s' res => ?_
    match r, res with
    | .error err, res => exact (noExc H err s' res).elim
    | .ok .next, res => exact False.elim res
    | .ok .brk, res => exact False.elim res
    | .ok .cont, res => exact False.elim res
    | .ok (.ret u), res =>
      obtain ⟨v, H', sameOs, bareG, un, okH', rel, qv⟩ := res
      have qv2 : v = .bl true := qv
      cases qv2
      have eu : u = Value.bool true := rel
      cases eu
      refine ⟨rfl, OldK.of_keep fun b o g => ?_, sameOs, bareG⟩
      cases z : H b with
      | none => exact un.keep b o g z (fun y => nomatch y) (by simp)
      | some u =>
        rcases only b with y | ⟨ob, xs, y⟩
        · rw [z] at y; cases y
        · obtain ⟨g1, _⟩ := okH b _ y
          obtain ⟨g2, _⟩ := okH' b _ (un.frzs b ob _ y)
          rw [g] at g1
          cases g1
          exact g2
  cases look : K.lookup a with
  | some o =>
    have g := KX a o look
    rw [here] at g
    cases g
    exact main (fun _ => none) (fun _ => .inl rfl) (.inr ⟨_, ws.toArray, _, look, rfl, rfl, rfl, by rw [List.size_toArray, same]; exact few, by simpa using vals⟩) (fun b u z => nomatch z) (fun b z => absurd rfl z) (fun z => absurd rfl z)
  | none =>
    let H0 : Hp := fun b => if b = a then some (.frz { cls := .type "list", data := .seq ws.toArray } (.lst (ns.map V.int))) else none
    have at_a : H0 a = some (.frz { cls := .type "list", data := .seq ws.toArray } (.lst (ns.map V.int))) := if_pos rfl
    have off : ∀ b, b ≠ a → H0 b = none := fun b z => if_neg z
    refine main H0 (fun b => ?_) (.inl (.inr ⟨_, at_a⟩)) (fun b u z => ?_) (fun b z => ?_) fun _ => look
    · by_cases eb : b = a
      · rw [eb]; exact .inr ⟨_, _, at_a⟩
      · exact .inl (off b eb)
    · by_cases eb : b = a
      · rw [eb, at_a] at z
        cases z
        rw [eb]
        exact ⟨here, by rw [List.length_map]; exact few, ws, _, vals, here⟩
      · rw [off b eb] at z; cases z
    · by_cases eb : b = a
      · exact eb
      · exact absurd (off b eb) z
theorem walk_dlG {l : PySem.W.OpenLaw} {n k : Nat} {q : Program} {loose : List Str} {XP : (Str → Option Value) → Heap → Prop} {YP : World → Heap → Prop} {d : DefRec} {x : Str}
    (hn : l.most = some n) (hn2 : n ≤ sizeLine) (hdf : d.params.defaults = []) (hr : Room k callerA) {S : SpD}
    (F : ∀ (w : World) (mg : Str → Option Value) (fa : Addr) (h : Heap), YP w h → h.Ns mainGlobals mg → mg d.name = some (.ref fa) →
      ∃ (K : PySem.W.Frag) (fd : FuncData), K.In h ∧ (∀ (s : Shared) (u : Value), BindsTo s fd ⟨[u], []⟩ [(x, u)]) ∧
        ∀ base : Heap, K.In base → base.Ns mainGlobals mg → FnG l.prog w K mg base (L2.CX l.prog w) k fa fd [x] (spOf K S))
    (law_in : ∀ ns : List Int, ns.length ≤ n → S [.v (.list (ns.map PyData.int))] (fun c _ => c = .v (.bool true)) (fun _ _ => False)) :
    PySem.W.WalkO q loose XP YP l.row.toRowW d [] (fun f vs => PySem.call f vs) := by
  refine Att.attach_call hn hdf fun w s₀ s₁ mg mb fa o pm cd doc a vs ns G Y ho hd hcd hmg hobj hints hlen hg => ?_
  obtain ⟨K, fd, KX, hb, hF⟩ := F w mg fa _ Y G.T.g hmg
  exact law_callG KX G.T.g G.T.b G.T.builtins G.T.nolimit hg hobj hints (Nat.le_trans hlen hn2) hr hF hb (fun H hO hS => sp_law hn2 law_in H a ns hlen hO hS) fun H e s' h => by
    obtain ⟨_, _, _, _, _, _, _, _, _, _, _, _, z⟩ := h
    exact z.elim
end DL

set_option Elab.async false
set_option linter.all false
set_option maxRecDepth 100000
set_option maxHeartbeats 4000000
/-! DL: repr of nested data -/
namespace DL
open PySem PySem.Spec PyProof.Rows L2
/-- what can be shown -/
structure Shw (d : D) : Prop where
  ok : d.showable = true
  nd : d.hasDict = false
  dp : d.depth ≤ 50
  sz : d.shown.length ≤ sizeLine
def rRepr (K : PySem.W.Frag) : List V → Hp → VK → Prop := fun xs H Q => ∃ (x : V) (d : D), xs = [x] ∧ Dp K H x d ∧ Shw d ∧ Q (.str d.shown) H
theorem cr_repr {X : Cx} (gd : X.A.guards = some []) (hu : X.A.units + 64 < cLine) : CallR X (.builtin "repr") (rRepr X.K) := by
  intro pins s σ H xs us Q I r h
  obtain ⟨x, d, rfl, hd, hs, q⟩ := h
  obtain ⟨u, rfl, rv⟩ := vals1 r
  obtain ⟨as, rd⟩ := Dp.reads I d x u hd rv
  have hsz := hs.sz
  have hdp := hs.dp
  cases rd with
  | none => exact PySem.P.repr_of_none ⟨.str _, H, I.tok _, ⟨_, rfl⟩, q⟩
  | bool b => exact PySem.P.repr_of_bool ⟨.str _, H, I.tok _, ⟨_, rfl⟩, q⟩
  | int i t => exact PySem.P.repr_of_int (by have := hs.ok; simpa [PyData.showable] using this) ⟨.str _, H, I.tok _, ⟨_, rfl⟩, q⟩
  | str z t => exact PySem.P.repr_of_str ⟨.str _, H, I.tok _, ⟨_, rfl⟩, q⟩ hsz
  | list h1 h2 h3 h4 => exact repr_of_reads' (Reads.list h1 h2 h3 h4) hs.ok (PyData.noDict_hsm hs.nd) gd (by omega) (fun _ _ e => e) (fun h' v tk keep => ⟨.str _, H, I.kept (t' := tk) (fun b o e => keep b o e), ⟨_, rfl⟩, q⟩) hsz
  | tuple h1 h2 h3 h4 => exact repr_of_reads' (Reads.tuple h1 h2 h3 h4) hs.ok (PyData.noDict_hsm hs.nd) gd (by omega) (fun _ _ e => e) (fun h' v tk keep => ⟨.str _, H, I.kept (t' := tk) (fun b o e => keep b o e), ⟨_, rfl⟩, q⟩) hsz
  | dict h1 h2 h3 h4 h5 => have := hs.nd; cases this
@[reducible] def oRepr : OL := fun ds k => match ds with
  | [d] => Shw d ∧ k (.v (.str d.shown))
  | _ => False
theorem lift_repr {K : PySem.W.Frag} : LiftL K (rRepr K) oRepr := by
  intro O H xs ds QD Q _ hx q fin
  unfold oRepr at q
  split at q
  · cases hx with
    | cons h1 h2 =>
      cases h2
      exact ⟨_, _, rfl, dp_hide h1, q.1, fin _ H (.v _) (Same.refl H) (.str _) q.2⟩
  · exact q.elim
theorem ee_repr {X : Cx} {g : G} {W : WX} {e : Expr} {es : List Expr} {wa : WA} {p pos : Pos} (gd : X.A.guards = some []) (hu : X.A.units + 64 < cLine) (hg : Gl X "repr") (hm : X.mg "repr" = none) (ha : EA X g W (e :: es) wa)
    (he : starEach (e :: es) X.env = (false, eval e X.env) :: starEach es X.env := by rfl) (hpl : (backTo pos (starEach es X.env)).any (·.1) = false := by rfl) :
    EE X g W (.Call (.Name "repr" p) (e :: es) [] pos) (wL oRepr wa) := ee_cb (cr_repr gd hu) lift_repr hg hm rfl ha (by decide) (by decide) he hpl
/-! ### == of texts, whatever their signs -/
def rEqS : R2 := fun x y H Q => ∃ i j : Str, x = .str i ∧ y = .str j ∧ Q (.bl (i == j)) H
def rNeS : R2 := fun x y H Q => ∃ i j : Str, x = .str i ∧ y = .str j ∧ Q (.bl (i != j)) H
theorem op_eqS {X : Cx} : OpR X (compareOp .Eq) rEqS := by
  intro pins s σ H x y v u Q I rx ry h
  obtain ⟨i, j, rfl, rfl, q⟩ := h
  obtain ⟨t, rfl⟩ := rx
  obtain ⟨t', rfl⟩ := ry
  exact PyProof.Rows.eq_str ⟨.bl _, H, I, rfl, q⟩
theorem op_neS {X : Cx} : OpR X (compareOp .NotEq) rNeS := by
  intro pins s σ H x y v u Q I rx ry h
  obtain ⟨i, j, rfl, rfl, q⟩ := h
  obtain ⟨t, rfl⟩ := rx
  obtain ⟨t', rfl⟩ := ry
  exact PyProof.Rows.ne_str ⟨.bl _, H, I, rfl, q⟩
@[reducible] def oEqS : O2 := fun d1 d2 k => match d1, d2 with
  | .str i, .str j => k (.v (.bool (i == j)))
  | _, _ => False
@[reducible] def oNeS : O2 := fun d1 d2 k => match d1, d2 with
  | .str i, .str j => k (.v (.bool (i != j)))
  | _, _ => False
theorem lift_eqS {K : PySem.W.Frag} : Lift2 K rEqS oEqS := by
  intro O H x y dx dy QD Q _ hx hy q fin
  cases hx <;> try exact q.elim
  cases hy <;> try exact q.elim
  exact ⟨_, _, rfl, rfl, fin _ H (.v _) (Same.refl H) (.bl _) q⟩
theorem lift_neS {K : PySem.W.Frag} : Lift2 K rNeS oNeS := by
  intro O H x y dx dy QD Q _ hx hy q fin
  cases hx <;> try exact q.elim
  cases hy <;> try exact q.elim
  exact ⟨_, _, rfl, rfl, fin _ H (.v _) (Same.refl H) (.bl _) q⟩
section
variable {X : Cx} {g : G} {W : WX} {a b : Expr} {wa wb : WE} {pos : Pos}
theorem ee_eqS (ha : EE X g W a wa) (hb : EE X g W b wb) : EE X g W (.Compare a [.Eq] [b] pos) (wB oEqS wa wb) := ee_cmp op_eqS lift_eqS ha hb (nomark _)
theorem ee_neS (ha : EE X g W a wa) (hb : EE X g W b wb) : EE X g W (.Compare a [.NotEq] [b] pos) (wB oNeS wa wb) := ee_cmp op_neS lift_neS ha hb (nomark _)
theorem et_eqS (ha : EE X g W a wa) (hb : EE X g W b wb) : ET X g W (.Compare a [.Eq] [b] pos) (wTst (wB oEqS wa wb)) := et_cmp op_eqS lift_eqS ha hb (nomark _)
theorem et_neS (ha : EE X g W a wa) (hb : EE X g W b wb) : ET X g W (.Compare a [.NotEq] [b] pos) (wTst (wB oNeS wa wb)) := et_cmp op_neS lift_neS ha hb (nomark _)
end
theorem str_ne_self {x : Str} : (x != x) = false := by simp
theorem str_eq_self {x : Str} : (x == x) = true := by simp
/-! ### how long what is shown may be -/
theorem join_le {m : Nat} : ∀ {ts : List Str}, (∀ t ∈ ts, t.length ≤ m) → (Str.join ", " ts).length ≤ ts.length * (m + 2)
  | [], _ => Nat.zero_le _
  | [x], h => by
    have := h x (.head _)
    show x.length ≤ 1 * (m + 2)
    omega
  | x :: y :: r, h => by
    have ih := join_le (ts := y :: r) fun t ht => h t (.tail _ ht)
    have hx := h x (.head _)
    have e : (Str.join ", " (x :: y :: r)).length = x.length + 2 + (Str.join ", " (y :: r)).length := by
      show (x ++ ", " ++ Str.join ", " (y :: r)).length = _
      rw [strLen_append, strLen_append]
      rfl
    rw [e]
    have e2 : (x :: y :: r).length * (m + 2) = (y :: r).length * (m + 2) + (m + 2) := by rw [List.length_cons, Nat.succ_mul]
    omega
theorem tuple_le {m : Nat} {ts : List Str} (h : ∀ t ∈ ts, t.length ≤ m) : (tupleText ts).length ≤ ts.length * (m + 2) + 3 := by
  have := join_le h
  unfold tupleText
  rw [strLen_append, strLen_append]
  have e1 : (("(" : String) : Str).length = 1 := rfl
  have e2 : ((if (ts.length == 1) = true then ",)" else ")" : String) : Str).length ≤ 2 := by split <;> decide
  omega
theorem textFrom_le {m : Nat} : ∀ {ts : List Str} {k : Nat} {acc : Str}, (∀ t ∈ ts, t.length ≤ m) → (textFrom k acc ts).length ≤ acc.length + ts.length * (m + 2)
  | [], _, _, _ => Nat.le_add_right _ _
  | t :: ts, k, acc, h => by
    have ih := textFrom_le (ts := ts) (k := k + 1) (acc := acc ++ (if k > 0 then ", " else "" : String) ++ t) fun t ht => h t (.tail _ ht)
    have ht := h t (.head _)
    have e : (acc ++ (if k > 0 then ", " else "" : String) ++ t).length ≤ acc.length + 2 + t.length := by
      rw [strLen_append, strLen_append]
      have : ((if k > 0 then ", " else "" : String) : Str).length ≤ 2 := by split <;> decide
      omega
    show (textFrom (k + 1) (acc ++ (if k > 0 then ", " else "" : String) ++ t) ts).length ≤ _
    rw [List.length_cons, Nat.succ_mul]
    omega
theorem list_le {m : Nat} {ts : List Str} (h : ∀ t ∈ ts, t.length ≤ m) : (listText ts).length ≤ ts.length * (m + 2) + 2 := by
  unfold listText
  have := textFrom_le (k := 0) (acc := ("[" : String)) h
  rw [strLen_append]
  have e1 : (("[" : String) : Str).length = 1 := rfl
  have e2 : (("]" : String) : Str).length = 1 := rfl
  omega
theorem shownAll_eq : ∀ {ds : List D}, PyData.shownAll ds = ds.map PyData.shown
  | [] => by unfold PyData.shownAll; rfl
  | d :: ds => by unfold PyData.shownAll; rw [shownAll_eq]; rfl
theorem showableAll_eq : ∀ {ds : List D}, PyData.showableAll ds = ds.all PyData.showable
  | [] => by unfold PyData.showableAll; rfl
  | d :: ds => by unfold PyData.showableAll; rw [showableAll_eq]; rfl
theorem hasDictAll_eq : ∀ {ds : List D}, PyData.hasDictAll ds = ds.any PyData.hasDict
  | [] => by unfold PyData.hasDictAll; rfl
  | d :: ds => by unfold PyData.hasDictAll; rw [hasDictAll_eq]; rfl
theorem depthAll_le {n : Nat} : ∀ {ds : List D}, (∀ d ∈ ds, d.depth ≤ n) → PyData.depthAll ds ≤ n
  | [], _ => Nat.zero_le _
  | d :: ds, h => Nat.max_le.mpr ⟨h d (.head _), depthAll_le fun e he => h e (.tail _ he)⟩
theorem depth_tuple {n : Nat} {ds : List D} (h : ∀ d ∈ ds, d.depth ≤ n) : (PyData.tuple ds).depth ≤ n + 1 := Nat.succ_le_succ (depthAll_le h)
theorem depth_list {n : Nat} {ds : List D} (h : ∀ d ∈ ds, d.depth ≤ n) : (PyData.list ds).depth ≤ n + 1 := Nat.succ_le_succ (depthAll_le h)
/-- shown in n levels and m signs at the most -/
structure Sh (n m : Nat) (d : D) : Prop where
  ok : d.showable = true
  nd : d.hasDict = false
  dp : d.depth ≤ n
  sz : d.shown.length ≤ m
theorem Sh.shw {n m : Nat} {d : D} (h : Sh n m d) (hn : n ≤ 50) (hm : m ≤ 16777216) : Shw d := ⟨h.ok, h.nd, Nat.le_trans h.dp hn, by rw [sizeLine_eq]; exact Nat.le_trans h.sz hm⟩
theorem Sh.up {n m n' m' : Nat} {d : D} (h : Sh n m d) (hn : n ≤ n') (hm : m ≤ m') : Sh n' m' d := ⟨h.ok, h.nd, Nat.le_trans h.dp hn, Nat.le_trans h.sz hm⟩
theorem Sh.none {n m : Nat} (h : 4 ≤ m) : Sh n m .none := ⟨rfl, rfl, Nat.zero_le _, by unfold PyData.shown; exact h⟩
theorem Sh.int {n k : Nat} {i : Int} (hk : 0 < k) (h : i.natAbs < 10 ^ k) (h9 : k ≤ 500) : Sh n (k + 1) (.int i) := ⟨by
    unfold PyData.showable
    refine decide_eq_true ?_
    have : i.natAbs < 2 ^ 1920 := Nat.lt_of_lt_of_le h (Nat.le_trans (Nat.pow_le_pow_right (by decide) h9) (by decide +kernel))
    exact PySem.Flt.log2_lt_of (by decide) this, rfl, Nat.zero_le _, by unfold PyData.shown; rw [PySem.ofString_length]; exact int_text_length_le10 hk h⟩
theorem Sh.str {n : Nat} {x : Str} (h : ∀ c ∈ x.cps.toList, c < 16 ^ 8) : Sh n (10 * x.length + 2) (.str x) := ⟨rfl, rfl, Nat.zero_le _, by unfold PyData.shown; exact StrLaws.reprText_len x h⟩
theorem Sh.tuple {n m : Nat} {ds : List D} (h : ∀ d ∈ ds, Sh n m d) : Sh (n + 1) (ds.length * (m + 2) + 3) (.tuple ds) := by
  refine ⟨?_, ?_, ?_, ?_⟩
  · unfold PyData.showable; rw [showableAll_eq]; exact List.all_eq_true.mpr fun d hd => (h d hd).ok
  · unfold PyData.hasDict; rw [hasDictAll_eq]; exact List.any_eq_false.mpr fun d hd => by rw [(h d hd).nd]; exact Bool.false_ne_true
  · exact depth_tuple fun d hd => (h d hd).dp
  · unfold PyData.shown
    rw [shownAll_eq]
    have := tuple_le (m := m) (ts := ds.map PyData.shown) fun t ht => by
      obtain ⟨d, hd, rfl⟩ := List.mem_map.mp ht
      exact (h d hd).sz
    rwa [List.length_map] at this
theorem Sh.list {n m : Nat} {ds : List D} (h : ∀ d ∈ ds, Sh n m d) : Sh (n + 1) (ds.length * (m + 2) + 2) (.list ds) := by
  refine ⟨?_, ?_, ?_, ?_⟩
  · unfold PyData.showable; rw [showableAll_eq]; exact List.all_eq_true.mpr fun d hd => (h d hd).ok
  · unfold PyData.hasDict; rw [hasDictAll_eq]; exact List.any_eq_false.mpr fun d hd => by rw [(h d hd).nd]; exact Bool.false_ne_true
  · exact depth_list fun d hd => (h d hd).dp
  · unfold PyData.shown
    rw [shownAll_eq]
    have := list_le (m := m) (ts := ds.map PyData.shown) fun t ht => by
      obtain ⟨d, hd, rfl⟩ := List.mem_map.mp ht
      exact (h d hd).sz
    rwa [List.length_map] at this
end DL

set_option Elab.async false
set_option linter.all false
set_option maxRecDepth 100000
set_option maxHeartbeats 4000000
/-! DL: sorted of tuples that begin with unlike tuples of whole numbers -/
namespace DL
open PySem PySem.Spec PyProof.Rows L2
/-- v is a tuple that begins with a tuple of these numbers -/
def FstAt (h : Heap) (v : Value) (ns : List Int) : Prop :=
  ∃ (t f : Addr) (xs its : Array Value), v = .ref t ∧ h.IsTuple t xs ∧ xs[0]? = some (.ref f) ∧ h.IsTuple f its ∧ IntsAre its.toList ns
theorem isTuple_keeps {h h' : Heap} {t : Addr} {xs : Array Value} (x : h.IsTuple t xs) (k : ∀ b o, h.get? b = some o → o.cls = .type "tuple" → h'.get? b = some o) : h'.IsTuple t xs := by
  obtain ⟨o, e, c, n, d⟩ := x
  exact ⟨o, k _ _ e c, c, n, d⟩
theorem FstAt.keeps {h h' : Heap} {v : Value} {ns : List Int} (x : FstAt h v ns) (k : ∀ b o, h.get? b = some o → o.cls = .type "tuple" → h'.get? b = some o) : FstAt h' v ns := by
  obtain ⟨t, f, xs, its, e, h1, h2, h3, h4⟩ := x
  exact ⟨t, f, xs, its, e, isTuple_keeps h1 k, h2, isTuple_keeps h3 k, h4⟩
section
variable {prog : Program} {w : World} {A : Around} {s : Shared}
theorem idx_zip {xs ys : Array Value} {f g : Value} (h1 : xs[0]? = some f) (h2 : ys[0]? = some g) : ∃ r, xs.toList.zip ys.toList = (f, g) :: r := by
  cases e1 : xs.toList with
  | nil =>
    have : xs = #[] := by cases xs; cases e1; rfl
    subst this
    cases h1
  | cons a l =>
    cases e2 : ys.toList with
    | nil =>
      have : ys = #[] := by cases ys; cases e2; rfl
      subst this
      cases h2
    | cons b m =>
      have ea : a = f := by
        have : xs.toList[0]? = some f := by rw [Array.getElem?_toList]; exact h1
        rw [e1] at this
        exact Option.some.inj this
      have eb : b = g := by
        have : ys.toList[0]? = some g := by rw [Array.getElem?_toList]; exact h2
        rw [e2] at this
        exact Option.some.inj this
      rw [ea, eb]
      exact ⟨_, rfl⟩
theorem ints_inj : ∀ {vs : List Value} {ns ms : List Int}, IntsAre vs ns → IntsAre vs ms → ns = ms
  | [], _, _, h, h' => by cases h; cases h'; rfl
  | _ :: _, _, _, h, h' => by
    cases h with
    | cons n t a => cases h' with
      | cons m u b => rw [ints_inj a b]
theorem ints_reads {h : Heap} : ∀ {vs : List Value} {ns : List Int}, IntsAre vs ns → ReadsAll h vs (ns.map PyData.int) []
  | [], _, i => by cases i; exact .nil
  | _ :: _, _, i => by
    cases i with
    | cons n t a => exact .cons (as := []) (.int n t) (ints_reads a)
theorem nob_ints {ns : List Int} : nob (.tuple (ns.map PyData.int)) = true := by
  show nobAll _ = true
  induction ns with
  | nil => rfl
  | cons n ns ih => exact ih
theorem ints_tup_inj {ns ms : List Int} (h : PyData.tuple (ns.map PyData.int) = .tuple (ms.map PyData.int)) : ns = ms := by
  have e := PyData.tuple.inj h
  exact List.map_inj_right (fun _ _ z => PyData.int.inj z) |>.mp e
theorem lay_tup {ns : List Int} : Lay 1 (.tuple (ns.map PyData.int)) := Lay.tuple (k := 0) fun d hd => by
  obtain ⟨x, _, rfl⟩ := List.mem_map.mp hd
  exact Lay.int _
theorem kat_self {fin : Bool} {Q : Bool → Shared → Prop} (h : Q fin s) : ∀ (l : List Value) (i : Nat), PySem.W.KatLex prog w A false fin Q (l.zip l) i s
  | [], _ => PySem.W.kat_nil h
  | v :: l, i => PySem.W.kat_cons (SeqAt.EqAt.same v prog w _ _ (PySem.W.kat_go (fun _ => PySem.W.kat_yes (kat_self h l (i + 1))) fun z => nomatch z))
theorem fst_cmp {vs : List Value} {k : Value → List Int} (hu : A.units + 64 < cLine) (hv : ∀ v ∈ vs, FstAt s.heap v (k v)) (un : ∀ v ∈ vs, ∀ u ∈ vs, v ≠ u → k v ≠ k u) :
    SrtO.Cmp prog w A s (tuples' false) (fun p => p.1 ∈ vs) (SrtO.lt2 fun v u => HT.lexLt (k v) (k u)) := by
  intro p q hm hm'
  show wpAny (model prog w) A (keyLt' (tuples' false) p.1 q.1) (fun r s' => s' = s ∧ r = HT.lexLt (k p.1) (k q.1)) (fun _ _ => False) s
  by_cases e : p.1 = q.1
  · rw [e]
    obtain ⟨t, f, xs, its, e1, ⟨o, g1, g2, n, g3⟩, h2, h3, h4⟩ := hv _ hm'
    rw [e1]
    refine PySem.W.kat_lt g1 g3 g1 g3 (kat_self ?_ _ _)
    have sf : HT.lexLt (k q.1) (k q.1) = false := SrtO.Swo.refl (NtL.swo_lexL (α := List Int) id) (k q.1)
    rw [← e1, sf]
    exact ⟨rfl, decide_eq_false (Nat.lt_irrefl _)⟩
  · have ne := un _ hm _ hm' e
    obtain ⟨t, f, xs, its, e1, ⟨o, g1, g2, n, g3⟩, h2, h3, h4⟩ := hv _ hm
    obtain ⟨t', f', xs', its', e1', ⟨o', g1', g2', n', g3'⟩, h2', h3', h4'⟩ := hv _ hm'
    generalize k p.1 = ns at *
    generalize k q.1 = ms at *
    rw [e1, e1']
    obtain ⟨r, er⟩ := idx_zip h2 h2'
    have nf : f ≠ f' := fun z => by
      subst z
      obtain ⟨o1, a1, a2, n1, a3⟩ := h3
      obtain ⟨o2, b1, b2, n2, b3⟩ := h3'
      rw [a1] at b1
      cases b1
      rw [a3] at b3
      cases b3
      exact ne (ints_inj h4 h4')
    refine PySem.W.kat_lt g1 g3 g1' g3' ?_
    rw [er]
    obtain ⟨o1, a1, a2, n1, a3⟩ := id h3
    obtain ⟨o2, b1, b2, n2, b3⟩ := id h3'
    have no : PyData.eqv (.tuple (ns.map PyData.int)) (.tuple (ms.map PyData.int)) = false := eqv_no nob_ints nob_ints fun z => ne (ints_tup_inj z)
    have rc : SeqAt.RcAt A s (.ref f) (.ref f') false := fun pr w E Q q => by
      have q' : Q (.bool (PyData.eqv (.tuple (ns.map PyData.int)) (.tuple (ms.map PyData.int)))) s := by rw [no]; exact q
      exact SeqAt.compareEq_shaped (prog := pr) (w := w) (Reads.tuple a1 a2 a3 (ints_reads h4)) (Reads.tuple b1 b2 b3 (ints_reads h4')) (lay_tup (ns := ns)).shaped (lay_tup (ns := ms)).shaped hu q'
    refine PySem.W.kat_cons (SeqAt.EqAt.of_refs nf rc prog w _ _ ?_)
    exact PySem.W.kat_no (PySem.W.kat_one _ _ (HT.lt_tupInts h3 h3' h4 h4' (by omega) ⟨rfl, rfl⟩))
theorem fst_tups {h : Heap} {k : Value → List Int} : ∀ {vs : List Value}, (∀ v ∈ vs, FstAt h v (k v)) → ∃ fs, PySem.W.KatTups h vs fs ∧ fs.length = vs.length ∧ ∀ f ∈ fs, ∃ a its, f = Value.ref a ∧ h.IsTuple a its
  | [], _ => ⟨[], trivial, rfl, fun f hf => nomatch hf⟩
  | v :: vs, hv => by
    obtain ⟨fs, a1, a2, a3⟩ := fst_tups (vs := vs) fun u hu => hv u (.tail _ hu)
    obtain ⟨t, f, xs, its, e1, ⟨o, g1, g2, n, g3⟩, h2, h3, h4⟩ := hv v (.head _)
    refine ⟨.ref f :: fs, ?_, by rw [List.length_cons, List.length_cons, a2], fun q hq => ?_⟩
    · rw [e1]; exact ⟨⟨t, o, xs, n, rfl, g1, g2, g3, h2⟩, a1⟩
    · rcases List.mem_cons.mp hq with e | hq
      · exact ⟨f, its, e, h3⟩
      · exact a3 q hq
theorem fst_sortable {a : Addr} {vs : List Value} {k : Value → List Int} (h2 : 2 ≤ vs.length) (hu : A.units + 64 < cLine) (hv : ∀ v ∈ vs, FstAt s.heap v (k v)) (un : ∀ v ∈ vs, ∀ u ∈ vs, v ≠ u → k v ≠ k u) (ha : ∀ o, s.heap.get? a = some o → o.cls ≠ .type "tuple") :
    SrtO.SortableO prog w A s a vs fun v u => HT.lexLt (k v) (k u) := by
  intro h' keep
  have kt : ∀ b o, s.heap.get? b = some o → o.cls = .type "tuple" → h'.get? b = some o := fun b o e c => keep b o (fun z => ha o (z ▸ e) c) e
  have hv' : ∀ v ∈ vs, FstAt h' v (k v) := fun v hm => (hv v hm).keeps kt
  obtain ⟨fs, t1, t2, t3⟩ := fst_tups hv'
  refine ⟨tuples' false, fun Q E hq => ?_, fst_cmp (s := { s with heap := h' }) hu hv' un⟩
  exact PySem.W.kat_kind (s := { s with heap := h' }) (T := .type "tuple") t1 (by omega) (fun v hm => by
    obtain ⟨b, its, e, o, g1, g2, _⟩ := t3 v hm
    rw [e, ← g2]
    exact (PySem.W.Looks.ld g1).andThen .now) (by rfl) hq
end
/-- sorted(xs), xs tuples that begin with unlike tuples of whole numbers -/
def rSortF (K : PySem.W.Frag) : List V → Hp → VK → Prop := fun vs H Q => ∃ (a : Addr) (zs : List (V × List Int)), vs = [V.ref a] ∧ SqL K H a (zs.map (·.1)) ∧ (∀ z ∈ zs, ∃ t f ys, z.1 = V.ref t ∧ SqT K H t (.ref f :: ys) ∧ SqT K H f (z.2.map V.int)) ∧
  (zs.map (·.2)).Nodup ∧ ∀ (zs' : List (V × List Int)) (p : Addr), zs'.Perm zs → zs'.Pairwise (fun x y => HT.lexLt x.2 y.2 = true) → H p = none → Q (.ref p) (upd H p (.lst (zs'.map (·.1))))
theorem lexLt_tri : ∀ {xs ys : List Int}, xs ≠ ys → HT.lexLt ys xs = false → HT.lexLt xs ys = true
  | [], [], h, _ => absurd rfl h
  | [], _ :: _, _, _ => rfl
  | _ :: _, [], _, h => by cases h
  | x :: xs, y :: ys, h, h' => by
    rw [HT.lexLt_cons] at h' ⊢
    split at h'
    · rename_i e
      subst e
      rw [if_pos rfl]
      exact lexLt_tri (fun z => h (by rw [z])) h'
    · rename_i e
      have := of_decide_eq_false h'
      rw [if_neg fun z => e z.symm]
      exact decide_eq_true (by omega)
theorem perm_lift {α β : Type} {f : α → β} {ys ms : List β} (p : ys.Perm ms) : ∀ zs : List α, zs.map f = ms → ∃ zs' : List α, zs'.Perm zs ∧ zs'.map f = ys := by
  induction p with
  | nil => exact fun zs e => ⟨zs, List.Perm.refl _, e⟩
  | cons x _ ih =>
    intro zs e
    cases zs with
    | nil => cases e
    | cons z zs =>
      obtain ⟨e1, e2⟩ := List.cons.inj e
      obtain ⟨zs', q1, q2⟩ := ih zs e2
      exact ⟨z :: zs', q1.cons z, by rw [List.map_cons, e1, q2]⟩
  | swap x y l =>
    intro zs e
    match zs, e with
    | z1 :: z2 :: zs, e =>
      obtain ⟨e1, e2⟩ := List.cons.inj e
      obtain ⟨e2, e3⟩ := List.cons.inj e2
      exact ⟨z2 :: z1 :: zs, List.Perm.swap _ _ _, by rw [List.map_cons, List.map_cons, e1, e2, e3]⟩
  | trans _ _ ih1 ih2 =>
    intro zs e
    obtain ⟨z1, p1, e1⟩ := ih2 zs e
    obtain ⟨z2, p2, e2⟩ := ih1 z1 e1
    exact ⟨z2, p2.trans p1, e2⟩
theorem nodup_inj {α β : Type} {f : α → β} : ∀ {l : List α}, (l.map f).Nodup → ∀ x ∈ l, ∀ y ∈ l, f x = f y → x = y
  | z :: l, h, x, hx, y, hy, e => by
    obtain ⟨h1, h2⟩ := List.nodup_cons.mp h
    rcases List.mem_cons.mp hx with a | a <;> rcases List.mem_cons.mp hy with b | b
    · rw [a, b]
    · subst a; exact absurd (List.mem_map.mpr ⟨y, b, e.symm⟩) h1
    · subst b; exact absurd (List.mem_map.mpr ⟨x, a, e⟩) h1
    · exact nodup_inj h2 x a y b e
theorem vals_int_are : ∀ {ns : List Int} {us : List Value}, Vals (ns.map V.int) us → IntsAre us ns
  | [], _, h => by cases h; exact .nil
  | n :: ns, _, h => by
    cases h with
    | cons r rr =>
      obtain ⟨t, rfl⟩ := r
      exact .cons n t (vals_int_are rr)
open Classical in
theorem cr_sortF {X : Cx} (hu : X.A.units + 70 < cLine) : CallR X (.builtin "sorted") (rSortF X.K) := by
  intro pins s σ H vs us Q I r h
  obtain ⟨a, zs, rfl, hs, hx, nd, q⟩ := h
  obtain ⟨its, rv, hl, hz⟩ := I.list hs
  obtain ⟨u, rfl, ru⟩ := vals1 r
  obtain rfl : u = Value.ref a := ru
  obtain ⟨e1, e2⟩ := refs_back rv fun x m => by
    obtain ⟨z, hzm, rfl⟩ := List.mem_map.mp m
    obtain ⟨t, f, ys, e, _⟩ := hx z hzm
    exact ⟨t, e⟩
  let k : V → List Int := fun x => if h : ∃ z ∈ zs, z.1 = x then h.choose.2 else []
  have hk : ∀ z ∈ zs, k z.1 = z.2 := fun z hzm => by
    have ex : ∃ y ∈ zs, y.1 = z.1 := ⟨z, hzm, rfl⟩
    show (if h : ∃ y ∈ zs, y.1 = z.1 then h.choose.2 else []) = z.2
    rw [dif_pos ex]
    obtain ⟨m, e⟩ := ex.choose_spec
    generalize ex.choose = y at m e ⊢
    obtain ⟨t, f, ys, a1, a2, a3⟩ := hx z hzm
    obtain ⟨t', f', ys', b1, b2, b3⟩ := hx y m
    rw [a1, b1] at e
    cases e
    cases I.tuple_inj a2 b2
    have e3 := I.tuple_inj a3 b3
    exact (List.map_inj_right (fun _ _ w => V.int.inj w)).mp e3.symm
  have mem : ∀ v ∈ its, ∃ z ∈ zs, backV v = z.1 := fun v hv => by
    have : backV v ∈ zs.map (·.1) := by rw [e1]; exact List.mem_map.mpr ⟨_, hv, rfl⟩
    obtain ⟨z, m, e⟩ := List.mem_map.mp this
    exact ⟨z, m, e.symm⟩
  have fst : ∀ v ∈ its, FstAt s.heap v (k (backV v)) := fun v hv => by
    obtain ⟨z, m, ez⟩ := mem v hv
    rw [ez, hk z m]
    obtain ⟨t, rfl⟩ := e2 v hv
    obtain ⟨t', f, ys, e, h1, h2⟩ := hx _ m
    rw [← ez] at e
    cases e
    obtain ⟨i1, r1, p1, _⟩ := I.tuple h1
    obtain ⟨i2, r2, p2, _⟩ := I.tuple h2
    cases r1 with
    | @cons x u xs us ra rb =>
      cases (show u = Value.ref f from ra)
      exact ⟨t, f, _, _, rfl, p1, rfl, p2, vals_int_are r2⟩
  have un' : ∀ v ∈ its, ∀ u ∈ its, v ≠ u → k (backV v) ≠ k (backV u) := fun v hv u hu' ne e => by
    obtain ⟨z, m, ez⟩ := mem v hv
    obtain ⟨y, m', ey⟩ := mem u hu'
    obtain ⟨t, rfl⟩ := e2 v hv
    obtain ⟨t', rfl⟩ := e2 u hu'
    rw [ez, ey, hk z m, hk y m'] at e
    have := nodup_inj nd z m y m' e
    subst this
    rw [← ez] at ey
    cases ey
    exact ne rfl
  refine SrtO.sorted_ord (NtL.swo_lexL fun v => k (backV v)) hl.isList (by rw [← rv.length]; exact hz) (fun h2 h₁ a' ha kk => ?_) fun out hs' hb => ?_
  · refine fst_sortable (s := { s with heap := h₁ }) h2 (by show X.A.units + 1 + 1 + 64 < cLine; omega) (fun v hm => (fst v hm).keeps fun b o e _ => (kk b o e).2) un' fun o e => ?_
    have e' : some o = some (seqObj "list" its.toArray 0) := e.symm.trans ha
    cases e'
    intro c
    exact absurd (Value.type.inj c) (by decide)
  · have h3 : ∀ u ∈ out, ∃ a, u = Value.ref a := fun u hu => e2 u (hb.perm.mem_iff.mp hu)
    have pm : (out.map backV).Perm (zs.map (·.1)) := by rw [e1]; exact hb.perm.map backV
    obtain ⟨zs', p1, p2⟩ := perm_lift pm zs rfl
    have pw : (zs'.map (·.1)).Pairwise fun x y => HT.lexLt (k y) (k x) = false := by
      rw [p2]
      exact List.pairwise_map.mpr hs'
    have pw2 : zs'.Pairwise fun x y => HT.lexLt x.2 y.2 = true := by
      have nd' : (zs'.map (·.2)).Nodup := (p1.map (·.2)).nodup_iff.mpr nd
      have c := List.pairwise_map.mp pw
      have d := List.pairwise_map.mp nd'
      have inz : ∀ z ∈ zs', z ∈ zs := fun z m => p1.mem_iff.mp m
      refine List.Pairwise.imp_of_mem (fun {x y} hx' hy' h => ?_) (c.and d)
      have h1 := h.1
      rw [hk x (inz x hx'), hk y (inz y hy')] at h1
      exact lexLt_tri h.2 h1
    obtain ⟨n, hn⟩ := PyProof.Rows.sortedAll_at s.heap its out.toArray
    have e9 : zs'.map (·.1) = out.map backV := p2
    refine ⟨.ref (s.heap.objs.size + 1), upd H (s.heap.objs.size + 1) (.lst (zs'.map (·.1))), I.laid (t' := s.toks) (fun b o e => PyProof.Rows.sortedAll_old e) (Nat.le_succ _) ⟨?_, out, n, by rw [e9]; exact vals_back h3, hn⟩, rfl, q _ _ p1 pw2 (I.hok.fresh (Nat.le_succ _))⟩
    have : (zs'.map (·.1)).length = (zs.map (·.1)).length := by rw [List.length_map, List.length_map, p1.length_eq]
    rw [this]
    exact hz
/-! ### over data -/
def intsT : D → Option (List Int)
  | .tuple ds => intsOf ds
  | _ => none
/-- the numbers of the tuple that a tuple begins with -/
def fstI : D → List Int
  | .tuple (d :: _) => (intsT d).getD []
  | _ => []
def FstOk : D → Prop
  | .tuple (d :: _) => (intsT d).isSome = true
  | _ => False
@[reducible] def oSortF : OL := fun ds k => match ds with
  | [.list es] => (∀ e ∈ es, FstOk e) ∧ (es.map fstI).Nodup ∧ ∀ es' : List D, es'.Perm es → es'.Pairwise (fun x y => HT.lexLt (fstI x) (fstI y) = true) → k (.own 0 (.lst es'))
  | _ => False
theorem dp_pairs {K : PySem.W.Frag} {B : Hp} : ∀ {xs : List V} {ds : List D}, DpAll K B xs ds → ∃ ws : List (V × D), ws.map (·.1) = xs ∧ ws.map (·.2) = ds ∧ ∀ w ∈ ws, Dp K B w.1 w.2
  | _, [], h => by cases h; exact ⟨[], rfl, rfl, fun w h => nomatch h⟩
  | _, d :: ds, h => by
    cases h with
    | @cons v vs _ _ h1 h2 =>
      obtain ⟨ws, a, b, c⟩ := dp_pairs h2
      refine ⟨(v, d) :: ws, by rw [List.map_cons, a], by rw [List.map_cons, b], fun w hw => ?_⟩
      rcases List.mem_cons.mp hw with e | hw
      · rw [e]; exact h1
      · exact c w hw
theorem dp_of_pairs {K : PySem.W.Frag} {B : Hp} : ∀ {ws : List (V × D)}, (∀ w ∈ ws, Dp K B w.1 w.2) → DpAll K B (ws.map (·.1)) (ws.map (·.2))
  | [], _ => .nil
  | w :: ws, h => .cons (h w (.head _)) (dp_of_pairs fun u hu => h u (.tail _ hu))
theorem fst_at {K : PySem.W.Frag} {B : Hp} {v : V} {d : D} (h : Dp K B v d) (f : FstOk d) : ∃ t f' ys, v = V.ref t ∧ SqT K B t (.ref f' :: ys) ∧ SqT K B f' ((fstI d).map V.int) := by
  cases h with
  | tup a1 a2 =>
    cases a2 with
    | nil => exact f.elim
    | cons b1 b2 =>
      cases b1 with
      | tup c1 c2 =>
        rename_i ds' _ _ _ us ds2
        have f' : (intsOf ds2).isSome = true := f
        cases e : intsOf ds2 with
        | none => rw [e] at f'; cases f'
        | some ns =>
          refine ⟨_, _, _, rfl, a1, ?_⟩
          show SqT K B _ (((intsOf ds2).getD []).map V.int)
          rw [e]
          have := intsOf_dp c2 e
          rw [this] at c1
          exact c1
      | _ => cases f
  | _ => exact f.elim
theorem lift_sortF {K : PySem.W.Frag} : LiftL K (rSortF K) oSortF := by
  intro O H xs ds QD Q _ hx q fin
  unfold oSortF at q
  split at q
  · rename_i es
    cases hx with
    | cons h1 h2 =>
      cases h2
      cases h1 with
      | lst a1 a2 =>
        obtain ⟨f, nd, q⟩ := q
        obtain ⟨ws, w1, w2, w3⟩ := dp_pairs a2
        subst w1
        subst w2
        refine ⟨_, ws.map fun w => (w.1, fstI w.2), rfl, ?_, fun z hz => ?_, ?_, fun zs' p pm pw n => ?_⟩
        · rw [List.map_map]; exact Same.seq same_hide a1
        · obtain ⟨w, hw, rfl⟩ := List.mem_map.mp hz
          obtain ⟨t, f', ys, e, b1, b2⟩ := fst_at (w3 w hw) (f w.2 (List.mem_map.mpr ⟨w, hw, rfl⟩))
          exact ⟨t, f', ys, e, seqT_same same_hide b1, seqT_same same_hide b2⟩
        · rw [List.map_map] at nd ⊢
          exact nd
        · obtain ⟨ws', p1, p2⟩ := perm_lift pm ws rfl
          have dp : DpAll K (hide H O) (ws'.map (·.1)) (ws'.map (·.2)) := dp_of_pairs fun w hw => w3 w (p1.mem_iff.mp hw)
          have e1 : zs'.map (·.1) = ws'.map (·.1) := by rw [← p2, List.map_map]; rfl
          rw [e1]
          refine fin _ _ (.own 0 (.lst (ws'.map (·.2)))) (same_new n) (new_lst n dp) (q _ (p1.map _) ?_)
          rw [← p2] at pw
          exact List.pairwise_map.mpr (List.pairwise_map.mp pw)
  · exact q.elim
section
variable {X : Cx} {g : G} {W : WX} {e : Expr} {es : List Expr} {wa : WA} {p pos : Pos}
theorem ee_sortF (hu : X.A.units + 70 < cLine) (hg : Gl X "sorted") (hm : X.mg "sorted" = none) (ha : EA X g W (e :: es) wa) (he : starEach (e :: es) X.env = (false, eval e X.env) :: starEach es X.env := by rfl) (hpl : (backTo pos (starEach es X.env)).any (·.1) = false := by rfl) :
    EE X g W (.Call (.Name "sorted" p) (e :: es) [] pos) (wL oSortF wa) := ee_cb (cr_sortF hu) lift_sortF hg hm (by decide +kernel) ha (he := he) (hpl := hpl)
theorem units70 {k : Nat} (hr : Room k X.A) : X.A.units + 70 < cLine := by have := hr.un; omega
end
end DL

set_option Elab.async false
set_option linter.all false
set_option maxRecDepth 100000
set_option maxHeartbeats 4000000
/-! CFH: the promises of the laws' drawing helpers, alike in all laws -/
namespace CFH
open PySem PySem.Spec PyProof.Rows L2 DL
structure Hd where
  a : Int
  b : Int
  c : Int
@[reducible] def hd (h : Hd) : List D := [.int h.a, .int h.b, .int h.c]
structure Hd.ok (h : Hd) (n : Nat) : Prop where
  a0 : 0 ≤ h.a
  b0 : 0 ≤ h.b
  b1 : h.b < 4611686018427387904
  c0 : 0 ≤ h.c
  c1 : h.c ≤ n
@[reducible] def hc (h : Hd) : C := .own 1 (.lst (hd h))
def S_law_hand : SpD := fun as Q _ => ∃ (ns : List Int) (k : Int), as = [.v (.list (ns.map PyData.int)), .v (.int k)] ∧ 0 ≤ k ∧ k ≤ 1000 ∧ ∀ h : Hd, h.ok 0 → Q (.own 0 (.lst (hd h))) as
def S_law_take : SpD := fun as Q _ => ∃ (h : Hd) (n : Nat) (m : Int), as = [hc h, .v (.int m)] ∧ h.ok n ∧ n ≤ 1000000 ∧ 0 < m ∧ m.natAbs.log2 < 9000 ∧ ∀ (h' : Hd) (x : Int), h'.ok (n + 1) → 0 ≤ x → x < m → Q (.v (.int x)) [hc h', .v (.int m)]
/-- a list, a tuple -/
@[reducible] def boxD : Bool → List D → D
  | false, ds => .list ds
  | true, ds => .tuple ds
def S_law_pick : SpD := fun as Q _ => ∃ (h : Hd) (n : Nat) (t : Bool) (ds : List D), as = [hc h, .v (boxD t ds)] ∧ h.ok n ∧ n ≤ 1000000 ∧ 0 < ds.length ∧ ds.length ≤ 1000000 ∧ ∀ (h' : Hd) (d : D), h'.ok (n + 1) → d ∈ ds → Q (.v d) [hc h', .v (boxD t ds)]
/-- a whole number, no truth -/
@[reducible] def wholeD : D → Bool
  | .int _ => true
  | _ => false
def S_law_whole : SpD := fun as Q _ => ∃ d : D, as = [.v d] ∧ Q (.v (.bool (wholeD d))) as
def S_law_great : SpD := fun as Q _ => ∃ (h : Hd) (n : Nat), as = [hc h] ∧ h.ok n ∧ n ≤ 900000 ∧ ∀ (h' : Hd) (x : Int), h'.ok (n + 4) → 0 ≤ x → x < 1000000000000000000000000000000000000000000000000000000000000 → Q (.v (.int x)) [hc h']
theorem len_law_hand : ∀ as QD ED, S_law_hand as QD ED → as.length = 2 := by
  rintro as QD ED ⟨_, _, rfl, _⟩
  rfl
theorem len_law_take : ∀ as QD ED, S_law_take as QD ED → as.length = 2 := by
  rintro as QD ED ⟨_, _, _, rfl, _⟩
  rfl
theorem len_law_pick : ∀ as QD ED, S_law_pick as QD ED → as.length = 2 := by
  rintro as QD ED ⟨_, _, _, _, rfl, _⟩
  rfl
theorem len_law_whole : ∀ as QD ED, S_law_whole as QD ED → as.length = 1 := by
  rintro as QD ED ⟨_, rfl, _⟩
  rfl
theorem len_law_great : ∀ as QD ED, S_law_great as QD ED → as.length = 1 := by
  rintro as QD ED ⟨_, _, rfl, _⟩
  rfl

theorem Hd.ok.up {h : Hd} {n m : Nat} (o : h.ok n) (l : n ≤ m) : h.ok m := ⟨o.a0, o.b0, o.b1, o.c0, by have := o.c1; omega⟩
@[reducible] def big : Int := 1000000000000000000000000000000000000000000000000000000000000
theorem big_log {m : Int} (h0 : 0 < m) (h : m ≤ big) : m.natAbs.log2 < 9000 := log2_lt (k := 200) (by unfold big at h; omega) (by decide) (by decide)
theorem hand_i {ns : List Int} {k : Int} {Q E} (h0 : 0 ≤ k) (h1 : k ≤ 1000) (q : ∀ h : Hd, h.ok 0 → Q (.own 0 (.lst (hd h))) [.v (.list (ns.map PyData.int)), .v (.int k)]) : S_law_hand [.v (.list (ns.map PyData.int)), .v (.int k)] Q E := ⟨ns, k, rfl, h0, h1, q⟩
theorem take_i {h : Hd} {n : Nat} {m : Int} {Q E} (o : h.ok n) (hn : n ≤ 1000000) (hm : 0 < m) (hl : m.natAbs.log2 < 9000) (q : ∀ (h' : Hd) (x : Int), h'.ok (n + 1) → 0 ≤ x → x < m → Q (.v (.int x)) [hc h', .v (.int m)]) : S_law_take [hc h, .v (.int m)] Q E := ⟨h, n, m, rfl, o, hn, hm, hl, q⟩
theorem great_i {h : Hd} {n : Nat} {Q E} (o : h.ok n) (hn : n ≤ 900000) (q : ∀ (h' : Hd) (x : Int), h'.ok (n + 4) → 0 ≤ x → x < 1000000000000000000000000000000000000000000000000000000000000 → Q (.v (.int x)) [hc h']) : S_law_great [hc h] Q E := ⟨h, n, rfl, o, hn, q⟩
theorem pick_i {h : Hd} {n : Nat} {ds : List D} {Q E} (o : h.ok n) (hn : n ≤ 1000000) (h0 : 0 < ds.length) (h1 : ds.length ≤ 1000000) (q : ∀ (h' : Hd) (d : D), h'.ok (n + 1) → d ∈ ds → Q (.v d) [hc h', .v (.list ds)]) : S_law_pick [hc h, .v (.list ds)] Q E := ⟨h, n, false, ds, rfl, o, hn, h0, h1, q⟩
theorem pick_t {h : Hd} {n : Nat} {ds : List D} {Q E} (o : h.ok n) (hn : n ≤ 1000000) (h0 : 0 < ds.length) (h1 : ds.length ≤ 1000000) (q : ∀ (h' : Hd) (d : D), h'.ok (n + 1) → d ∈ ds → Q (.v d) [hc h', .v (.tuple ds)]) : S_law_pick [hc h, .v (.tuple ds)] Q E := ⟨h, n, true, ds, rfl, o, hn, h0, h1, q⟩
/-- a pick among whole numbers -/
theorem pick_z {h : Hd} {n : Nat} (ns : List Int) {ds : List D} {Q E} (e : ds = ns.map PyData.int) (o : h.ok n) (hn : n ≤ 1000000) (h0 : 0 < ns.length) (h1 : ns.length ≤ 1000000) (q : ∀ (h' : Hd) (x : Int), h'.ok (n + 1) → x ∈ ns → Q (.v (.int x)) [hc h', .v (.list ds)]) : S_law_pick [hc h, .v (.list ds)] Q E := ⟨h, n, false, ds, rfl, o, hn, by rw [e, List.length_map]; exact h0, by rw [e, List.length_map]; exact h1, fun h' d o' hd => by
  rw [e] at hd
  obtain ⟨x, hx, rfl⟩ := List.mem_map.mp hd
  exact q h' x o' hx⟩
theorem whole_i {d : D} {Q E} (q : Q (.v (.bool (wholeD d))) [.v d]) : S_law_whole [.v d] Q E := ⟨d, rfl, q⟩
end CFH

set_option Elab.async false
set_option linter.all false
set_option maxRecDepth 100000
set_option maxHeartbeats 4000000
/-! CFCl: the clock: shown, reading, moment_of: promises and their mathematics -/
namespace CFCl
open PySem PySem.Spec PyProof.Rows L2 DL CFH
abbrev Pr := Int × Int
@[reducible] def cplD (p : Pr) : D := .tuple [.int p.1, .int p.2]
@[reducible] def psD (ps : List Pr) : D := .tuple (ps.map cplD)
/-- moments rise, from above lo -/
def Ris : Int → List Pr → Prop
  | _, [] => True
  | lo, p :: js => lo < p.1 ∧ Ris p.1 js
theorem Ris.mono : ∀ {lo lo' : Int} {js : List Pr}, lo' ≤ lo → Ris lo js → Ris lo' js
  | _, _, [], _, h => trivial
  | _, _, _ :: _, l, h => ⟨by have := h.1; omega, h.2⟩
theorem Ris.mem : ∀ {lo : Int} {js : List Pr}, Ris lo js → ∀ p ∈ js, lo < p.1
  | _, q :: js, h, p, hp => by
    rcases List.mem_cons.mp hp with e | hp
    · rw [e]; exact h.1
    · exact Ris.mem (lo := _) (Ris.mono (by have := h.1; omega) h.2) p hp
def sumLe (js : List Pr) (s : Int) : Int := ((js.filter fun p => decide (p.1 ≤ s)).map (·.2)).sum
def shownL (js : List Pr) (t : Int) : Int := t + sumLe js t
def rdL (t : Int) : Int → Int → List Pr → Int
  | best, over, [] => if t + over > best then t + over else best
  | best, over, p :: js => if p.1 ≤ t then rdL t (if p.1 - 1 + over > best then p.1 - 1 + over else best) (over + p.2) js else rdL t best over js
def readingL (js : List Pr) (t : Int) : Int := rdL t 0 0 js
def moL (r : Int) : Int → Int → List Pr → Int
  | low, over, [] => if r - over > low then r - over else low
  | low, over, p :: js => if (if r - over > low then r - over else low) < p.1 then (if r - over > low then r - over else low) else moL r p.1 (over + p.2) js
def momL (js : List Pr) (r : Int) : Int := moL r 0 0 js
theorem sumLe_nil {s : Int} : sumLe [] s = 0 := rfl
theorem sumLe_cons {p : Pr} {js : List Pr} {s : Int} : sumLe (p :: js) s = (if p.1 ≤ s then p.2 else 0) + sumLe js s := by
  unfold sumLe
  by_cases h : p.1 ≤ s
  · rw [List.filter_cons_of_pos (by simpa using h), List.map_cons, List.sum_cons, if_pos h]
  · rw [List.filter_cons_of_neg (by simpa using h), if_neg h, Int.zero_add]
theorem sumLe_ahead : ∀ {js : List Pr} {lo s : Int}, Ris lo js → s ≤ lo → sumLe js s = 0
  | [], _, _, _, _ => rfl
  | p :: js, lo, s, h, hs => by
    rw [sumLe_cons, if_neg (by have := h.1; omega), sumLe_ahead h.2 (by have := h.1; omega)]
    rfl
theorem rd_spec (t : Int) : ∀ (js : List Pr) (lo over best : Int), Ris lo js → lo ≤ t →
    (∀ s, lo ≤ s → s ≤ t → s + over + sumLe js s ≤ rdL t best over js) ∧ best ≤ rdL t best over js ∧
    (rdL t best over js = best ∨ ∃ s, lo ≤ s ∧ s ≤ t ∧ (s = t ∨ ∃ p ∈ js, p.1 ≤ t ∧ s = p.1 - 1) ∧ s + over + sumLe js s = rdL t best over js)
  | [], lo, over, best, _, hl => by
    unfold rdL
    refine ⟨fun s h1 h2 => ?_, ?_, ?_⟩
    · rw [sumLe_nil]; split <;> omega
    · split <;> omega
    · split
      · exact .inr ⟨t, hl, Int.le_refl t, .inl rfl, by rw [sumLe_nil]; omega⟩
      · exact .inl rfl
  | p :: js, lo, over, best, hr, hl => by
    unfold rdL
    by_cases h : p.1 ≤ t
    · rw [if_pos h]
      obtain ⟨i1, i2, i3⟩ := rd_spec t js p.1 (over + p.2) (if p.1 - 1 + over > best then p.1 - 1 + over else best) hr.2 h
      have hp := hr.1
      refine ⟨fun s h1 h2 => ?_, ?_, ?_⟩
      · by_cases hs : p.1 ≤ s
        · have := i1 s hs h2
          rw [sumLe_cons, if_pos hs]
          omega
        · rw [sumLe_cons, if_neg hs, sumLe_ahead hr.2 (by omega)]
          refine Int.le_trans ?_ i2
          split <;> omega
      · refine Int.le_trans ?_ i2
        split <;> omega
      · rcases i3 with i3 | ⟨s, h1, h2, h3, h4⟩
        · by_cases hb : p.1 - 1 + over > best
          · rw [if_pos hb] at i3 ⊢
            refine .inr ⟨p.1 - 1, by omega, by omega, .inr ⟨p, .head _, h, rfl⟩, ?_⟩
            rw [sumLe_cons, if_neg (by omega), sumLe_ahead hr.2 (by omega), i3]
            omega
          · rw [if_neg hb] at i3 ⊢
            exact .inl i3
        · refine .inr ⟨s, by omega, h2, ?_, ?_⟩
          · rcases h3 with h3 | ⟨q, hq, h3⟩
            · exact .inl h3
            · exact .inr ⟨q, .tail _ hq, h3⟩
          · rw [sumLe_cons, if_pos h1, ← h4]
            omega
    · rw [if_neg h]
      obtain ⟨i1, i2, i3⟩ := rd_spec t js lo over best (Ris.mono (by have := hr.1; omega) hr.2) hl
      have e : ∀ s, s ≤ t → sumLe (p :: js) s = sumLe js s := fun s hs => by rw [sumLe_cons, if_neg (by omega), Int.zero_add]
      refine ⟨fun s h1 h2 => by rw [e s h2]; exact i1 s h1 h2, i2, ?_⟩
      rcases i3 with i3 | ⟨s, h1, h2, h3, h4⟩
      · exact .inl i3
      · refine .inr ⟨s, h1, h2, ?_, by rw [e s h2]; exact h4⟩
        rcases h3 with h3 | ⟨q, hq, h3⟩
        · exact .inl h3
        · exact .inr ⟨q, .tail _ hq, h3⟩
theorem shown_zero {js : List Pr} (h : Ris 0 js) : shownL js 0 = 0 := by
  unfold shownL
  rw [sumLe_ahead h (Int.le_refl 0)]
  rfl
theorem shown_le_reading {js : List Pr} (h : Ris 0 js) {s t : Int} (h0 : 0 ≤ s) (h1 : s ≤ t) : shownL js s ≤ readingL js t := by
  have := (rd_spec t js 0 0 0 h (by omega)).1 s h0 h1
  unfold shownL readingL
  omega
/-- the reading is what the clock showed at one of these moments -/
theorem reading_at {js : List Pr} (h : Ris 0 js) {t : Int} (h0 : 0 ≤ t) : ∃ s, 0 ≤ s ∧ s ≤ t ∧ (s = t ∨ ∃ p ∈ js, p.1 ≤ t ∧ s = p.1 - 1) ∧ shownL js s = readingL js t := by
  obtain ⟨i1, i2, i3⟩ := rd_spec t js 0 0 0 h h0
  rcases i3 with i3 | ⟨s, h1, h2, h3, h4⟩
  · -- the reading is 0: at t if there is no jump, else ahead of the first one
    cases js with
    | nil =>
      have := i1 t h0 (Int.le_refl t)
      rw [sumLe_nil] at this
      refine ⟨t, h0, Int.le_refl t, .inl rfl, ?_⟩
      unfold shownL readingL
      rw [sumLe_nil]
      omega
    | cons p js =>
      by_cases hp : p.1 ≤ t
      · have this2 := i1 (p.1 - 1) (by have := h.1; omega) (by omega)
        refine ⟨p.1 - 1, by have := h.1; omega, by omega, .inr ⟨p, .head _, hp, rfl⟩, ?_⟩
        have z : sumLe (p :: js) (p.1 - 1) = 0 := by rw [sumLe_cons, if_neg (by omega), sumLe_ahead h.2 (by omega)]; rfl
        have := h.1
        rw [z] at this2
        show p.1 - 1 + sumLe (p :: js) (p.1 - 1) = rdL t 0 0 (p :: js)
        rw [z]
        omega
      · have := i1 t h0 (Int.le_refl t)
        refine ⟨t, h0, Int.le_refl t, .inl rfl, ?_⟩
        have z : sumLe (p :: js) t = 0 := by rw [sumLe_cons, if_neg hp, sumLe_ahead h.2 (by omega)]; rfl
        rw [z] at this
        show t + sumLe (p :: js) t = rdL t 0 0 (p :: js)
        rw [z]
        omega
  · refine ⟨s, h1, h2, h3, ?_⟩
    unfold shownL readingL
    omega
theorem reading_mono {js : List Pr} (h : Ris 0 js) {s t : Int} (h0 : 0 ≤ s) (h1 : s ≤ t) : readingL js s ≤ readingL js t := by
  obtain ⟨u, u0, u1, _, e⟩ := reading_at h h0
  rw [← e]
  exact shown_le_reading h u0 (by omega)
theorem reading_zero {js : List Pr} (h : Ris 0 js) : readingL js 0 = 0 := by
  obtain ⟨u, u0, u1, _, e⟩ := reading_at h (Int.le_refl 0)
  obtain rfl : u = 0 := by omega
  rw [← e, shown_zero h]
theorem reading_next {js : List Pr} (h : Ris 0 js) {t : Int} (h0 : 1 ≤ t) : readingL js t = if shownL js t > readingL js (t - 1) then shownL js t else readingL js (t - 1) := by
  have a := reading_mono h (show 0 ≤ t - 1 by omega) (show t - 1 ≤ t by omega)
  have b := shown_le_reading h (show 0 ≤ t by omega) (Int.le_refl t)
  obtain ⟨u, u0, u1, _, e⟩ := reading_at h (show 0 ≤ t by omega)
  rcases Int.lt_or_le u t with z | z
  · have c := shown_le_reading h u0 (show u ≤ t - 1 by omega)
    split <;> omega
  · obtain rfl : u = t := by omega
    split <;> omega
theorem mo_spec (r : Int) : ∀ (js : List Pr) (lo over : Int), Ris lo js →
    lo ≤ moL r lo over js ∧ r ≤ moL r lo over js + over + sumLe js (moL r lo over js) ∧ ∀ s, lo ≤ s → s < moL r lo over js → s + over + sumLe js s < r
  | [], lo, over, _ => by
    unfold moL
    refine ⟨by split <;> omega, by rw [sumLe_nil]; split <;> omega, fun s h1 h2 => ?_⟩
    rw [sumLe_nil]
    split at h2 <;> omega
  | p :: js, lo, over, hr => by
    unfold moL
    have hp := hr.1
    by_cases h : (if r - over > lo then r - over else lo) < p.1
    · rw [if_pos h]
      have z : ∀ s, s < p.1 → sumLe (p :: js) s = 0 := fun s hs => by rw [sumLe_cons, if_neg (by omega), sumLe_ahead hr.2 (by omega)]; rfl
      refine ⟨by split <;> omega, ?_, fun s h1 h2 => ?_⟩
      · rw [z _ h]; split <;> omega
      · rw [z s (by omega)]
        split at h2 <;> omega
    · rw [if_neg h]
      obtain ⟨i1, i2, i3⟩ := mo_spec r js p.1 (over + p.2) hr.2
      refine ⟨by omega, ?_, fun s h1 h2 => ?_⟩
      · rw [sumLe_cons, if_pos i1]; omega
      · by_cases hs : p.1 ≤ s
        · have := i3 s hs h2
          rw [sumLe_cons, if_pos hs]
          omega
        · rw [sumLe_cons, if_neg hs, sumLe_ahead hr.2 (by omega)]
          split at h <;> omega
theorem mom_ge {js : List Pr} (h : Ris 0 js) {r : Int} : 0 ≤ momL js r := (mo_spec r js 0 0 h).1
theorem mom_shown {js : List Pr} (h : Ris 0 js) {r : Int} : r ≤ shownL js (momL js r) := by
  have := (mo_spec r js 0 0 h).2.1
  unfold shownL momL
  omega
theorem mom_first {js : List Pr} (h : Ris 0 js) {r s : Int} (h0 : 0 ≤ s) (h1 : s < momL js r) : shownL js s < r := by
  have := (mo_spec r js 0 0 h).2.2 s h0 h1
  unfold shownL
  omega
theorem mom_reading {js : List Pr} (h : Ris 0 js) {r : Int} : r ≤ readingL js (momL js r) := Int.le_trans (mom_shown h) (shown_le_reading h (mom_ge h) (Int.le_refl _))
theorem mom_before {js : List Pr} (h : Ris 0 js) {r s : Int} (h0 : 0 ≤ s) (h1 : s < momL js r) : readingL js s < r := by
  obtain ⟨u, u0, u1, _, e⟩ := reading_at h h0
  rw [← e]
  exact mom_first h u0 (by omega)
/-- no later than any moment with that reading -/
theorem mom_le {js : List Pr} (h : Ris 0 js) {r t : Int} (h0 : 0 ≤ t) (hr : r ≤ readingL js t) : momL js r ≤ t := by
  rcases Int.lt_or_le t (momL js r) with z | z
  · have := mom_before h h0 z
    omega
  · exact z
def JOk (js : List Pr) : Prop := Ris 0 js ∧ js.length ≤ 8 ∧ ∀ p ∈ js, p.1 < big ∧ p.2 ≠ 0 ∧ -1440 ≤ p.2 ∧ p.2 ≤ 1440

/-! ### promises -/
def S_shown : SpD := fun as Q _ => ∃ (js : List Pr) (t : Int), as = [.v (psD js), .v (.int t)] ∧ js.length ≤ 100 ∧ Q (.v (.int (shownL js t))) as
def S_reading : SpD := fun as Q _ => ∃ (js : List Pr) (t : Int), as = [.v (psD js), .v (.int t)] ∧ js.length ≤ 100 ∧ Q (.v (.int (readingL js t))) as
def S_moment_of : SpD := fun as Q _ => ∃ (js : List Pr) (t : Int), as = [.v (psD js), .v (.int t)] ∧ js.length ≤ 100 ∧ Q (.v (.int (momL js t))) as
theorem len_shown : ∀ as QD ED, S_shown as QD ED → as.length = 2 := by
  rintro as QD ED ⟨_, _, rfl, _⟩
  rfl
theorem len_reading : ∀ as QD ED, S_reading as QD ED → as.length = 2 := by
  rintro as QD ED ⟨_, _, rfl, _⟩
  rfl
theorem len_moment_of : ∀ as QD ED, S_moment_of as QD ED → as.length = 2 := by
  rintro as QD ED ⟨_, _, rfl, _⟩
  rfl
end CFCl

set_option Elab.async false
set_option linter.all false
set_option maxRecDepth 100000
set_option maxHeartbeats 4000000
/-! CFRu: the runs of the clock: promises and their mathematics -/
namespace CFRu
open PySem PySem.Spec PyProof.Rows L2 DL CFH CFCl
abbrev Rn := Int × Int × Int
@[reducible] def rnD (r : Rn) : D := .tuple [.int r.1, .int r.2.1, .int r.2.2]
@[reducible] def optD : Option Int → D
  | none => .none
  | some z => .int z
/-- below an end, if there is one -/
def Below (t : Int) : Option Int → Prop
  | none => True
  | some z => t < z
instance {t : Int} : ∀ e, Decidable (Below t e)
  | none => isTrue trivial
  | some z => inferInstanceAs (Decidable (t < z))
theorem Below.mono {s t : Int} : ∀ {e : Option Int}, s ≤ t → Below t e → Below s e
  | none, _, _ => trivial
  | some z, h, h' => Int.lt_of_le_of_lt h h'
def behW (last : Rn) (a over before : Int) (e : Option Int) : List Rn :=
  if before + 1 - over ≤ a then (if last.2.2 = 1 ∧ before + 1 - over = a then [] else [(a, a + over, 1)])
  else (if last.2.2 = 1 then [(a, before, 0)] else []) ++ (if Below (before + 1 - over) e then [(before + 1 - over, before + 1, 1)] else [])
def behL (last : Rn) (a over : Int) (e : Option Int) : List Rn := behW last a over (last.2.1 + last.2.2 * (a - 1 - last.1)) e
def lastOf (r : Rn) : List Rn → Rn
  | [] => r
  | x :: l => lastOf x l
def hdO : List Pr → Option Int
  | [] => none
  | p :: _ => some p.1
def rnG (over : Int) (last : Rn) : List Pr → List Rn
  | [] => []
  | p :: js => behL last p.1 (over + p.2) (hdO js) ++ rnG (over + p.2) (lastOf last (behL last p.1 (over + p.2) (hdO js))) js
def runsL (js : List Pr) : List Rn := (0, 0, 1) :: rnG 0 (0, 0, 1) js
/-! what is true of them -/
def St (R : Int → Int) (t : Int) : Prop := 0 < t ∧ R t = R (t - 1)
def Beg (R : Int → Int) (t : Int) : Prop := t = 0 ∨ ¬ (St R t ↔ St R (t - 1)) ∨ R t > R (t - 1) + 1
structure Seg (R : Int → Int) (r : Rn) (e : Option Int) : Prop where
  lt : Below r.1 e
  ge : 0 ≤ r.1
  st : r.2.2 = 0 ∨ r.2.2 = 1
  bg : Beg R r.1
  at_ : ∀ t, r.1 ≤ t → Below t e → R t = r.2.1 + r.2.2 * (t - r.1) ∧ (St R t ↔ r.2.2 = 0)
def Chain (R : Int → Int) : Rn → List Rn → Prop
  | r, [] => Seg R r none
  | r, r' :: l => Seg R r (some r'.1) ∧ Chain R r' l
/-- from a on, to the end, the reading is the greater of what was read ahead and of what is shown -/
theorem region {R : Int → Int} {a over : Int} {e : Option Int} (h : ∀ t, a ≤ t → Below t e → R t = if t + over > R (t - 1) then t + over else R (t - 1)) :
    ∀ (n : Nat), Below (a + n) e → R (a + n) = if a + n + over > R (a - 1) then a + n + over else R (a - 1)
  | 0, b => by
    have := h a (Int.le_refl _) (by simpa using b)
    simpa using this
  | n + 1, b => by
    have ih := region h n (Below.mono (by omega) b)
    have := h (a + (n + 1 : Nat)) (by omega) b
    rw [show a + ((n + 1 : Nat) : Int) - 1 = a + n by omega, ih] at this
    rw [this]
    (repeat' split) <;> omega
theorem region' {R : Int → Int} {a over : Int} {e : Option Int} (h : ∀ t, a ≤ t → Below t e → R t = if t + over > R (t - 1) then t + over else R (t - 1)) (t : Int) (ht : a ≤ t) (b : Below t e) : R t = if t + over > R (a - 1) then t + over else R (a - 1) := by
  have := region h (t - a).toNat (by rw [show a + ((t - a).toNat : Int) = t by omega]; exact b)
  rw [show a + ((t - a).toNat : Int) = t by omega] at this
  exact this
/-- one jump: the runs behind it, to the next one -/
theorem step {R : Int → Int} {last : Rn} {a over : Int} {e : Option Int} {rest : Rn → List Rn} (hs : Seg R last (some a)) (he : Below a e)
    (h : ∀ t, a ≤ t → Below t e → R t = if t + over > R (t - 1) then t + over else R (t - 1))
    (k : ∀ r, Seg R r e → Chain R r (rest r)) : Chain R last (behL last a over e ++ rest (lastOf last (behL last a over e))) := by
  have hc := region' h
  obtain ⟨lt, ge, st, bg, at_⟩ := hs
  obtain ⟨b, v, s⟩ := last
  simp only at lt ge st bg at_
  have lt : b < a := lt
  obtain ⟨e1, e2⟩ := at_ (a - 1) (by omega) (by show a - 1 < a; omega)
  have at0 : ∀ t, b ≤ t → t < a → R t = v + s * (t - b) ∧ (St R t ↔ s = 0) := fun t h1 h2 => at_ t h1 h2
  have hs : Seg R (b, v, s) (some a) := ⟨lt, ge, st, bg, at_⟩
  clear at_
  unfold behL
  simp only
  rw [← e1]
  generalize hB : R (a - 1) = B at *
  unfold behW
  simp only
  by_cases c1 : B + 1 - over ≤ a
  · rw [if_pos c1]
    by_cases c2 : s = 1 ∧ B + 1 - over = a
    · rw [if_pos c2]
      refine k (b, v, s) ⟨Below.mono (by omega) he, ge, st, bg, fun t h1 h2 => ?_⟩
      obtain ⟨rfl, c2⟩ := c2
      by_cases z : t < a
      · exact at0 t h1 z
      · have r1 := hc t (by omega) h2
        rw [if_pos (by omega)] at r1
        refine ⟨by show R t = v + 1 * (t - b); omega, fun q => ?_, fun q => by simp only at q; omega⟩
        have q2 := q.2
        by_cases z2 : t = a
        · subst z2; omega
        · have r2 := hc (t - 1) (by omega) (Below.mono (by omega) h2)
          rw [if_pos (by omega)] at r2
          omega
    · rw [if_neg c2]
      refine ⟨hs, k (a, a + over, 1) ⟨he, by show 0 ≤ a; omega, .inr rfl, ?_, fun t h1 h2 => ?_⟩⟩
      · have r1 := hc a (Int.le_refl _) he
        rw [if_pos (by omega)] at r1
        show Beg R a
        rcases st with rfl | rfl
        · refine .inr (.inl fun q => ?_)
          have := (q.mpr (e2.mpr rfl)).2
          omega
        · refine .inr (.inr ?_)
          have : B + 1 - over ≠ a := fun z => c2 ⟨rfl, z⟩
          omega
      · have h1 : a ≤ t := h1
        have r1 := hc t h1 h2
        rw [if_pos (by omega)] at r1
        refine ⟨by show R t = a + over + 1 * (t - a); omega, fun q => ?_, fun q => by simp only at q; omega⟩
        have q2 := q.2
        by_cases z2 : t = a
        · subst z2; omega
        · have r2 := hc (t - 1) (by omega) (Below.mono (by omega) h2)
          rw [if_pos (by omega)] at r2
          omega
  · rw [if_neg c1]
    have low : ∀ t, a - 1 ≤ t → t < B + 1 - over → Below t e → R t = B := fun t h1 h2 h3 => by
      by_cases z : t = a - 1
      · rw [z, hB]
      · have := hc t (by omega) h3
        rw [if_neg (by omega)] at this
        exact this
    have std : ∀ t, a ≤ t → t < B + 1 - over → Below t e → St R t := fun t h1 h2 h3 => ⟨by omega, by rw [low t (by omega) h2 h3, low (t - 1) (by omega) (by omega) (Below.mono (by omega) h3)]⟩
    have up : Below (B + 1 - over) e → Seg R (B + 1 - over, B + 1, 1) e := fun hb => by
      have r0 := hc (B + 1 - over) (by omega) hb
      rw [if_pos (by omega)] at r0
      have r1 := low (B + 1 - over - 1) (by omega) (by omega) (Below.mono (by omega) hb)
      refine ⟨hb, by show 0 ≤ B + 1 - over; omega, .inr rfl, .inr (.inl fun q => ?_), fun t h1 h2 => ?_⟩
      · have := (q.mpr (std (B + 1 - over - 1) (by omega) (by omega) (Below.mono (by omega) hb))).2
        simp only at this
        omega
      · have h1 : B + 1 - over ≤ t := h1
        have r2 := hc t (by omega) h2
        rw [if_pos (by omega)] at r2
        refine ⟨by show R t = B + 1 + 1 * (t - (B + 1 - over)); omega, fun q => ?_, fun q => by simp only at q; omega⟩
        have q2 := q.2
        by_cases z2 : t = B + 1 - over
        · subst z2; omega
        · have r3 := hc (t - 1) (by omega) (Below.mono (by omega) h2)
          rw [if_pos (by omega)] at r3
          omega
    by_cases c2 : s = 1
    · subst c2
      rw [if_pos rfl]
      have mid : ∀ e' : Option Int, Below a e' → (∀ t, Below t e' → Below t e) → (∀ t, a ≤ t → Below t e' → t < B + 1 - over) → Seg R (a, B, 0) e' := fun e' h1 h2 h3 => by
        refine ⟨h1, by show 0 ≤ a; omega, .inl rfl, .inr (.inl fun q => ?_), fun t g1 g2 => ?_⟩
        · have := e2.mp (q.mp (std a (Int.le_refl _) (by omega) he))
          omega
        · have g1 : a ≤ t := g1
          refine ⟨?_, fun _ => rfl, fun _ => std t g1 (h3 t g1 g2) (h2 t g2)⟩
          rw [low t (by omega) (h3 t g1 g2) (h2 t g2)]
          show B = B + 0 * _
          omega
      by_cases c3 : Below (B + 1 - over) e
      · rw [if_pos c3]
        exact ⟨hs, mid (some (B + 1 - over)) (by show a < _; omega) (fun t g => Below.mono (Int.le_of_lt g) c3) (fun t _ g => g), k _ (up c3)⟩
      · rw [if_neg c3]
        refine ⟨hs, k _ (mid e he (fun _ g => g) fun t _ g => ?_)⟩
        rcases Int.lt_or_le t (B + 1 - over) with z | z
        · exact z
        · exact (c3 (Below.mono z g)).elim
    · rw [if_neg c2]
      have c0 : s = 0 := st.resolve_right c2
      subst c0
      have ext : ∀ e' : Option Int, Below b e' → (∀ t, Below t e' → Below t e) → (∀ t, a ≤ t → Below t e' → t < B + 1 - over) → Seg R (b, v, 0) e' := fun e' h1 h2 h3 => by
        refine ⟨h1, ge, .inl rfl, bg, fun t g1 g2 => ?_⟩
        by_cases z : t < a
        · exact at0 t g1 z
        · refine ⟨?_, fun _ => rfl, fun _ => std t (by omega) (h3 t (by omega) g2) (h2 t g2)⟩
          rw [low t (by omega) (h3 t (by omega) g2) (h2 t g2)]
          show B = v + 0 * _
          omega
      by_cases c3 : Below (B + 1 - over) e
      · rw [if_pos c3]
        exact ⟨ext (some (B + 1 - over)) (by show b < _; omega) (fun t g => Below.mono (Int.le_of_lt g) c3) (fun t _ g => g), k _ (up c3)⟩
      · rw [if_neg c3]
        refine k _ (ext e (Below.mono (by omega) he) (fun _ g => g) fun t _ g => ?_)
        rcases Int.lt_or_le t (B + 1 - over) with z | z
        · exact z
        · exact (c3 (Below.mono z g)).elim
/-- what each jump does to the readings behind it -/
def Sh (R : Int → Int) : Int → List Pr → Prop
  | _, [] => True
  | over, p :: js => (∀ t, p.1 ≤ t → Below t (hdO js) → R t = if t + (over + p.2) > R (t - 1) then t + (over + p.2) else R (t - 1)) ∧ Sh R (over + p.2) js
theorem chain {R : Int → Int} : ∀ (js : List Pr) (over : Int) (last : Rn) (lo : Int), Ris lo js → Seg R last (hdO js) → Sh R over js → Chain R last (rnG over last js)
  | [], _, _, _, _, hs, _ => hs
  | p :: js, over, last, lo, hr, hs, hh => by
    have he : Below p.1 (hdO js) := by
      cases js with
      | nil => trivial
      | cons q js => exact hr.2.1
    exact step (rest := fun r => rnG (over + p.2) r js) hs he hh.1 fun r hr' => chain js (over + p.2) r p.1 hr.2 hr' hh.2
theorem sumLe_app {xs ys : List Pr} {t : Int} : sumLe (xs ++ ys) t = sumLe xs t + sumLe ys t := by
  unfold sumLe
  rw [List.filter_append, List.map_append, List.sum_append]
theorem ris_split : ∀ {lo : Int} {pre js : List Pr} {p : Pr}, Ris lo (pre ++ p :: js) → (∀ q ∈ pre, q.1 < p.1) ∧ Ris p.1 js ∧ lo < p.1
  | _, [], _, _, h => ⟨fun _ hq => (List.not_mem_nil hq).elim, h.2, h.1⟩
  | lo, q :: pre, js, p, h => by
    have ih := ris_split (pre := pre) h.2
    refine ⟨fun r hr => ?_, ih.2.1, by have := h.1; have := ih.2.2; omega⟩
    rcases List.mem_cons.mp hr with e | hr
    · rw [e]; exact ih.2.2
    · exact ih.1 r hr
theorem sumLe_all {t : Int} : ∀ {xs : List Pr}, (∀ p ∈ xs, p.1 ≤ t) → sumLe xs t = (xs.map (·.2)).sum
  | [], _ => rfl
  | p :: xs, h => by
    rw [sumLe_cons, if_pos (h p (.head _)), sumLe_all fun q hq => h q (.tail _ hq), List.map_cons, List.sum_cons]
theorem sumLe_behind {t lo : Int} : ∀ {js : List Pr}, Ris lo js → Below t (hdO js) → sumLe js t = 0
  | [], _, _ => rfl
  | q :: js, h, b => by
    have b : t < q.1 := b
    exact sumLe_ahead (lo := q.1 - 1) ⟨by omega, h.2⟩ (by omega)
theorem sh_reading {J : List Pr} (h : Ris 0 J) : ∀ (js pre : List Pr), J = pre ++ js → Sh (readingL J) (pre.map (·.2)).sum js
  | [], _, _ => trivial
  | p :: js, pre, e => by
    obtain ⟨h1, h2, h3⟩ := ris_split (e ▸ h)
    refine ⟨fun t ht b => ?_, ?_⟩
    · have s : shownL J t = t + ((pre.map (·.2)).sum + p.2) := by
        unfold shownL
        rw [e, sumLe_app, sumLe_cons, if_pos ht, sumLe_behind h2 b, sumLe_all fun q hq => by have := h1 q hq; omega, Int.add_zero]
      rw [← s]
      exact reading_next h (by omega)
    · have := sh_reading h js (pre ++ [p]) (by rw [e, List.append_assoc]; rfl)
      rw [List.map_append, List.sum_append] at this
      simpa using this
theorem runs_ok {J : List Pr} (h : Ris 0 J) : Chain (readingL J) (0, 0, 1) (rnG 0 (0, 0, 1) J) := by
  have s1 : ∀ t, 1 ≤ t → Below t (hdO J) → readingL J t = if t + 0 > readingL J (t - 1) then t + 0 else readingL J (t - 1) := fun t ht b => by
    have s : shownL J t = t + 0 := by unfold shownL; rw [sumLe_behind h b]
    rw [← s]
    exact reading_next h ht
  have z0 := reading_zero h
  have s2 : ∀ t, 0 ≤ t → Below t (hdO J) → readingL J t = t := fun t ht b => by
    by_cases z : t = 0
    · rw [z, z0]
    · have := region' s1 t (by omega) b
      rw [show (1 : Int) - 1 = 0 by rfl, z0, if_pos (by omega)] at this
      omega
  refine chain J 0 (0, 0, 1) 0 h ⟨?_, Int.le_refl _, .inr rfl, .inl rfl, fun t h1 h2 => ?_⟩ ?_
  · cases J with
    | nil => trivial
    | cons p js => exact h.1
  · have h1 : 0 ≤ t := h1
    have r1 := s2 t h1 h2
    refine ⟨by show readingL J t = 0 + 1 * (t - 0); omega, fun q => ?_, fun q => by simp only at q; omega⟩
    have q1 := q.1
    have q2 := q.2
    rw [r1, s2 (t - 1) (by omega) (Below.mono (by omega) h2)] at q2
    omega
  · exact sh_reading h J [] rfl
theorem behL_len {last : Rn} {a over : Int} {e : Option Int} : (behL last a over e).length ≤ 2 := by
  unfold behL behW
  (repeat' split) <;> simp
theorem behL_st {last : Rn} {a over : Int} {e : Option Int} : ∀ r ∈ behL last a over e, r.2.2 = 0 ∨ r.2.2 = 1 := by
  unfold behL behW
  intro r hr
  split at hr
  · split at hr
    · cases hr
    · rw [List.mem_singleton.mp hr]; exact .inr rfl
  · rcases List.mem_append.mp hr with z | z
    · split at z
      · rw [List.mem_singleton.mp z]; exact .inl rfl
      · cases z
    · split at z
      · rw [List.mem_singleton.mp z]; exact .inr rfl
      · cases z
/-- all but the last one, and the last one -/
theorem lastOf_split : ∀ (r : Rn) (l : List Rn), ∃ pre, r :: l = pre ++ [lastOf r l] ∧ pre.length = l.length
  | r, [] => ⟨[], rfl, rfl⟩
  | r, x :: l => by
    obtain ⟨pre, e, h⟩ := lastOf_split x l
    exact ⟨r :: pre, by show r :: x :: l = r :: (pre ++ [lastOf x l]); rw [e], by rw [List.length_cons, List.length_cons, h]⟩
theorem lastOf_mem : ∀ (r : Rn) (l : List Rn), lastOf r l = r ∨ lastOf r l ∈ l
  | r, [] => .inl rfl
  | r, x :: l => by
    rcases lastOf_mem x l with h | h
    · exact .inr (by show lastOf x l ∈ _; rw [h]; exact .head _)
    · exact .inr (.tail _ h)
/-! ### promises -/
def S_runs_behind : SpD := fun as Q _ => ∃ (pre : List Rn) (last : Rn) (a over : Int) (e : Option Int), as = [.v (.list (pre.map rnD ++ [rnD last])), .v (.int a), .v (.int over), .v (optD e)] ∧ pre.length ≤ 300 ∧ (last.2.2 = 0 ∨ last.2.2 = 1) ∧ Q (.own 0 (.lst ((behL last a over e).map rnD))) as
def S_runs : SpD := fun as Q _ => ∃ (js : List Pr), as = [.v (psD js)] ∧ js.length ≤ 100 ∧ Q (.v (.tuple ((runsL js).map rnD))) as
theorem len_runs_behind : ∀ as QD ED, S_runs_behind as QD ED → as.length = 4 := by
  rintro as QD ED ⟨_, _, _, _, _, rfl, _⟩
  rfl
theorem len_runs : ∀ as QD ED, S_runs as QD ED → as.length = 1 := by
  rintro as QD ED ⟨_, rfl, _⟩
  rfl
end CFRu

set_option Elab.async false
set_option linter.all false
set_option maxRecDepth 100000
set_option maxHeartbeats 4000000
/-! CFWd: words of the laws: the promise -/
namespace CFWd
open PySem PySem.Spec PyProof.Rows L2 DL CFH
def signs : Str := "abcdefghijklmnopqrstuvwxyz0123456789"
theorem sg_len : signs.cps.toList.length = 36 := by decide +kernel
theorem sg_nodup : signs.cps.toList.Nodup := by decide +kernel
theorem sg_sz : signs.length ≤ sizeLine := by
  have : signs.length = 36 := by decide +kernel
  rw [this, sizeLine_eq]; decide
/-- a word of one to eight letters and figures -/
structure WordOk (x : Str) : Prop where
  l1 : 1 ≤ x.length
  l8 : x.length ≤ 8
  sg : ∀ c ∈ x.cps.toList, c ∈ signs.cps.toList
/-- unlike words -/
structure WsOk (ws : List Str) : Prop where
  nd : ws.Nodup
  ok : ∀ w ∈ ws, WordOk w
def sgAt (j : Nat) : Nat := signs.cps.toList.getD j 0
theorem sg_at {j : Nat} (h : j < 36) : signs.cps.toList[j]? = some (sgAt j) := by
  unfold sgAt
  rw [List.getD_eq_getElem?_getD, List.getElem?_eq_getElem (by rw [sg_len]; exact h)]
  rfl
theorem sg_mem {j : Nat} (h : j < 36) : sgAt j ∈ signs.cps.toList := List.mem_of_getElem? (sg_at h)
theorem sg_inj' : ∀ i < 36, ∀ j < 36, sgAt i = sgAt j → i = j := by decide +kernel
theorem sg_inj {i j : Nat} (hi : i < 36) (hj : j < 36) (h : sgAt i = sgAt j) : i = j := sg_inj' i hi j hj h
/-- the word of a number: a signs ahead, one that the number tells, b behind or none -/
def wordL (c a b : Nat) (short : Bool) (b0 st k : Nat) : List Nat := List.replicate a c ++ [sgAt ((b0 + st * k) % 36)] ++ (if short = true ∧ k % 2 = 1 then [] else List.replicate b c)
theorem word_ok {c a b : Nat} {short : Bool} {b0 st k : Nat} (hc : c ∈ signs.cps.toList) (hl : a + b ≤ 7) : WordOk (T (wordL c a b short b0 st k)) := by
  unfold wordL
  refine ⟨?_, ?_, ?_⟩
  · rw [T_len]; simp only [List.length_append, List.length_cons, List.length_nil]; omega
  · rw [T_len]; split <;> simp <;> omega
  · rw [T_list]
    intro z hz
    rcases List.mem_append.mp hz with hz | hz
    · rcases List.mem_append.mp hz with hz | hz
      · rw [List.eq_of_mem_replicate hz]; exact hc
      · rw [List.mem_singleton.mp hz]; exact sg_mem (Nat.mod_lt _ (by decide))
    · split at hz
      · cases hz
      · rw [List.eq_of_mem_replicate hz]; exact hc
theorem word_inj {c a b : Nat} {short : Bool} {b0 st k k' : Nat} (hs : st = 1 ∨ st = 5 ∨ st = 7 ∨ st = 11 ∨ st = 13 ∨ st = 17) (hk : k < 36) (hk' : k' < 36) (h : wordL c a b short b0 st k = wordL c a b short b0 st k') : k = k' := by
  have g : ∀ k, (wordL c a b short b0 st k)[a]? = some (sgAt ((b0 + st * k) % 36)) := fun k => by
    unfold wordL
    rw [List.append_assoc, List.getElem?_append_right (by simp)]
    simp
  have e := g k
  rw [h, g k'] at e
  have e2 := sg_inj (Nat.mod_lt _ (by decide)) (Nat.mod_lt _ (by decide)) (Option.some.inj e)
  rcases hs with rfl | rfl | rfl | rfl | rfl | rfl <;> omega
theorem words_ok {c a b : Nat} {short : Bool} {b0 st n : Nat} (hs : st = 1 ∨ st = 5 ∨ st = 7 ∨ st = 11 ∨ st = 13 ∨ st = 17) (hn : n ≤ 36) (hc : c ∈ signs.cps.toList) (hl : a + b ≤ 7) : WsOk ((List.range n).map fun k => T (wordL c a b short b0 st k)) := by
  refine ⟨?_, fun w hw => ?_⟩
  · refine List.pairwise_map.mpr ((show (List.range n).Pairwise (· ≠ ·) from List.nodup_range).imp_of_mem fun {x y} hx hy z e => z (word_inj hs ?_ ?_ (T_inj e)))
    · have := List.mem_range.mp hx; omega
    · have := List.mem_range.mp hy; omega
  · obtain ⟨k, _, rfl⟩ := List.mem_map.mp hw
    exact word_ok hc hl
def S_law_words : SpD := fun as Q _ => ∃ (h : Hd) (n : Nat) (m : Int), as = [hc h, .v (.int m)] ∧ h.ok n ∧ n ≤ 800000 ∧ 0 ≤ m ∧ m ≤ 36 ∧ ∀ (h' : Hd) (ws : List Str), h'.ok (n + 10) → (ws.length : Int) = m → WsOk ws → Q (.own 0 (.lst (ws.map PyData.str))) [hc h', .v (.int m)]
theorem len_law_words : ∀ as QD ED, S_law_words as QD ED → as.length = 2 := by
  rintro as QD ED ⟨_, _, _, rfl, _⟩
  rfl
end CFWd

set_option Elab.async false
set_option linter.all false
set_option maxRecDepth 100000
set_option maxHeartbeats 4000000
/-! CFCh: the laws' helpers about the clock -/
namespace CFCh
open PySem PySem.Spec PyProof.Rows L2 DL CFH CFCl
theorem Ris_snoc : ∀ {lo : Int} {js : List Pr} {p : Pr}, Ris lo js → (∀ q ∈ js, q.1 < p.1) → lo < p.1 → Ris lo (js ++ [p])
  | _, [], _, _, _, h => ⟨h, trivial⟩
  | _, q :: js, p, h, h', _ => ⟨h.1, Ris_snoc h.2 (fun r hr => h' r (.tail _ hr)) (h' q (.head _))⟩
theorem pow60 : (10 : Int) ^ Int.toNat 60 = big := by decide
theorem lf_js {js : List Pr} : lfree (.tuple (js.map cplD)) = true := lfree_tup fun d hd => by
  obtain ⟨p, _, rfl⟩ := List.mem_map.mp hd
  rfl
def S_law_moment : SpD := fun as Q _ => ∃ (h : Hd) (n : Nat), as = [hc h] ∧ h.ok n ∧ n ≤ 800000 ∧ ∀ (h' : Hd) (x : Int), h'.ok (n + 5) → 0 ≤ x → x < big → Q (.v (.int x)) [hc h']
def S_law_jumps : SpD := fun as Q _ => ∃ (h : Hd) (n : Nat), as = [hc h] ∧ h.ok n ∧ n ≤ 700000 ∧ ∀ (h' : Hd) (js : List Pr), h'.ok (n + 200) → JOk js → Q (.v (psD js)) [hc h']
abbrev S_law_shown : SpD := S_shown
def S_law_reading : SpD := fun as Q _ => ∃ (js : List Pr) (t : Int), as = [.v (psD js), .v (.int t)] ∧ Ris 0 js ∧ js.length ≤ 100 ∧ 0 ≤ t ∧ Q (.v (.int (readingL js t))) as
def S_law_near : SpD := fun as Q _ => ∃ js : List Pr, as = [.v (psD js)] ∧ Ris 0 js ∧ js.length ≤ 8 ∧ ∀ ns : List Int, 0 < ns.length ∧ ns.length ≤ 100 → (∀ x ∈ ns, 0 ≤ x) → Q (.own 0 (.lst (ns.map PyData.int))) as
theorem moment_i {h : Hd} {n : Nat} {Q E} (o : h.ok n) (hn : n ≤ 800000) (q : ∀ (h' : Hd) (x : Int), h'.ok (n + 5) → 0 ≤ x → x < big → Q (.v (.int x)) [hc h']) : S_law_moment [hc h] Q E := ⟨h, n, rfl, o, hn, q⟩
theorem len_law_moment : ∀ as QD ED, S_law_moment as QD ED → as.length = 1 := by
  rintro as QD ED ⟨_, _, rfl, _⟩
  rfl
theorem len_law_jumps : ∀ as QD ED, S_law_jumps as QD ED → as.length = 1 := by
  rintro as QD ED ⟨_, _, rfl, _⟩
  rfl
theorem len_law_shown : ∀ as QD ED, S_law_shown as QD ED → as.length = 2 := len_shown
theorem len_law_reading : ∀ as QD ED, S_law_reading as QD ED → as.length = 2 := by
  rintro as QD ED ⟨_, _, rfl, _⟩
  rfl
theorem len_law_near : ∀ as QD ED, S_law_near as QD ED → as.length = 1 := by
  rintro as QD ED ⟨_, rfl, _⟩
  rfl
end CFCh

set_option Elab.async false
set_option linter.all false
set_option maxRecDepth 100000
set_option maxHeartbeats 4000000
/-! CFBk: turns, layers, changes, books as data -/
namespace CFBk
open PySem PySem.Spec PyProof.Rows L2 DL CFH CFCl CFRu CFWd
abbrev Trn := Int × Int × Str
@[reducible] def trnD (t : Trn) : D := .tuple [.int t.1, .int t.2.1, .str t.2.2]
@[reducible] def trnsD (ts : List Trn) : D := .tuple (ts.map trnD)
structure Lyr where
  word : Str
  start : Int
  days : Int
  turns : List Trn
@[reducible] def lyrD (l : Lyr) : D := .tuple [.str l.word, .int l.start, .int l.days, trnsD l.turns]
@[reducible] def lyrsD (ls : List Lyr) : D := .tuple (ls.map lyrD)
/-- turns from lo on, to most -/
def TrnsOk (most : Int) : Int → List Trn → Prop
  | _, [] => True
  | lo, t :: ts => lo ≤ t.1 ∧ t.1 < t.2.1 ∧ t.2.1 ≤ most ∧ WordOk t.2.2 ∧ TrnsOk most t.2.1 ts
structure LyrOk (l : Lyr) : Prop where
  wd : WordOk l.word
  d1 : 1 ≤ l.days
  d60 : l.days ≤ 60
  s0 : 0 ≤ l.start
  s1 : l.start < 1440 * l.days
  n12 : l.turns.length ≤ 12
  ts : TrnsOk (1440 * l.days) 0 l.turns
theorem lf_trns {ts : List Trn} : lfree (trnsD ts) = true := lfree_tup fun d hd => by
  obtain ⟨x, _, rfl⟩ := List.mem_map.mp hd
  rfl
theorem lf_lyr0 {l : Lyr} : lfree (lyrD l) = true := lfree_tup fun d hd => by
  simp only [List.mem_cons, List.not_mem_nil, or_false] at hd
  rcases hd with rfl | rfl | rfl | rfl
  · rfl
  · rfl
  · rfl
  · exact lf_trns
theorem lf_lyr {l : Lyr} : C.lf (.v (lyrD l)) = true := lf_lyr0
theorem lf_lyrs {ls : List Lyr} : lfree (lyrsD ls) = true := lfree_tup fun d hd => by
  obtain ⟨x, _, rfl⟩ := List.mem_map.mp hd
  exact lf_lyr0
inductive Chg where
  | away (h : Str) (b : Int) (e : Option Int)
  | on (h : Str) (b : Int) (e : Option Int)
  | stand (h o : Str) (b : Int) (e : Option Int)
def Chg.b : Chg → Int
  | away _ b _ => b
  | on _ b _ => b
  | stand _ _ b _ => b
def Chg.e : Chg → Option Int
  | away _ _ e => e
  | on _ _ e => e
  | stand _ _ _ e => e
def Chg.h : Chg → Str
  | away h _ _ => h
  | on h _ _ => h
  | stand h _ _ _ => h
def Chg.kind : Chg → Str
  | away _ _ _ => "away"
  | on _ _ _ => "on"
  | stand _ _ _ _ => "for"
def chgL : Chg → List D
  | .away h b e => [.str "away", .str h, .int b, optD e]
  | .on h b e => [.str "on", .str h, .int b, optD e]
  | .stand h o b e => [.str "for", .str h, .str o, .int b, optD e]
@[reducible] def chgD (c : Chg) : D := .tuple (chgL c)
@[reducible] def chgsD (cs : List Chg) : D := .tuple (cs.map chgD)
theorem lf_chg0 {c : Chg} : lfree (chgD c) = true := by
  cases c <;> (rename_i e; cases e <;> rfl)
theorem lf_chg {c : Chg} : C.lf (.v (chgD c)) = true := lf_chg0
theorem lf_chgs {cs : List Chg} : lfree (chgsD cs) = true := lfree_tup fun d hd => by
  obtain ⟨x, _, rfl⟩ := List.mem_map.mp hd
  exact lf_chg0
theorem chg_m1 {c : Chg} : atI (chgL c) (-1) = some (optD c.e) := by cases c <;> rfl
theorem chg_m2 {c : Chg} : atI (chgL c) (-2) = some (.int c.b) := by cases c <;> rfl
theorem chg_0 {c : Chg} : atI (chgL c) 0 = some (.str c.kind) := by cases c <;> rfl
theorem chg_1 {c : Chg} : atI (chgL c) 1 = some (.str c.h) := by cases c <;> rfl
def Chg.Hands (c : Chg) (p : Str → Prop) : Prop := match c with
  | away h _ _ => p h
  | on h _ _ => p h
  | stand h o _ _ => p h ∧ p o ∧ h ≠ o
structure ChgOk (c : Chg) : Prop where
  hs : c.Hands WordOk
  b0 : 0 ≤ c.b
  b1 : c.b < big
  e1 : ∀ e, c.e = some e → c.b < e ∧ e < big
structure Bk where
  js : List Pr
  ls : List Lyr
  cs : List Chg
@[reducible] def bkD (b : Bk) : D := .tuple [psD b.js, lyrsD b.ls, chgsD b.cs]
structure BkOk (b : Bk) : Prop where
  js : JOk b.js
  l4 : b.ls.length ≤ 4
  ls : ∀ l ∈ b.ls, LyrOk l
  wd : (b.ls.map (·.word)).Nodup
  c24 : b.cs.length ≤ 24
  cs : ∀ c ∈ b.cs, ChgOk c
end CFBk

set_option Elab.async false
set_option linter.all false
set_option maxRecDepth 100000
set_option maxHeartbeats 4000000
/-! CFTu: turns of numbers -/
namespace CFTu
open PySem PySem.Spec PyProof.Rows L2 DL CFH CFCl CFRu CFWd CFBk
/-- the first turn that has a place, counted from j -/
def turnG (p : Int) : Nat → List Trn → Option Nat
  | _, [] => none
  | j, t :: ts => if t.1 ≤ p ∧ p < t.2.1 then some j else turnG p (j + 1) ts
@[reducible] def optN : Option Nat → D
  | none => .none
  | some j => .int (j : Nat)
def placeL (l : Lyr) (r : Int) : Int := (r - l.start) % (1440 * l.days)
def turnL (l : Lyr) (r : Int) : Option Nat := turnG (placeL l r) 0 l.turns
theorem place_ge {l : Lyr} (h : 1 ≤ l.days) (r : Int) : 0 ≤ placeL l r := Int.emod_nonneg _ (by omega)
theorem place_lt {l : Lyr} (h : 1 ≤ l.days) (r : Int) : placeL l r < 1440 * l.days := Int.emod_lt_of_pos _ (by omega)
theorem turnG_some {p : Int} : ∀ {ts : List Trn} {j k : Nat}, turnG p j ts = some k → ∃ i t, k = j + i ∧ ts[i]? = some t ∧ t.1 ≤ p ∧ p < t.2.1
  | t :: ts, j, k, h => by
    unfold turnG at h
    split at h
    · rename_i z
      cases h
      exact ⟨0, t, rfl, rfl, z⟩
    · obtain ⟨i, t', e, g, z⟩ := turnG_some h
      exact ⟨i + 1, t', by omega, by simpa using g, z⟩
theorem turnG_none {p : Int} : ∀ {ts : List Trn} {j : Nat}, turnG p j ts = none → ∀ t ∈ ts, ¬ (t.1 ≤ p ∧ p < t.2.1)
  | t :: ts, j, h, u, hu => by
    unfold turnG at h
    split at h
    · cases h
    · rename_i z
      rcases List.mem_cons.mp hu with e | hu
      · rw [e]; exact z
      · exact turnG_none h u hu
def S_place_of : SpD := fun as Q _ => ∃ (l : Lyr) (r : Int), as = [.v (lyrD l), .v (.int r)] ∧ 1 ≤ l.days ∧ Q (.v (.int (placeL l r))) as
def S_turn_at : SpD := fun as Q _ => ∃ (l : Lyr) (r : Int), as = [.v (lyrD l), .v (.int r)] ∧ 1 ≤ l.days ∧ l.turns.length ≤ 1000 ∧ Q (.v (optN (turnL l r))) as
theorem place_i {l : Lyr} {r : Int} {Q E} (h : 1 ≤ l.days) (q : Q (.v (.int (placeL l r))) [.v (lyrD l), .v (.int r)]) : S_place_of [.v (lyrD l), .v (.int r)] Q E := ⟨l, r, rfl, h, q⟩
theorem turn_i {l : Lyr} {r : Int} {Q E} (h : 1 ≤ l.days) (hl : l.turns.length ≤ 1000) (q : Q (.v (optN (turnL l r))) [.v (lyrD l), .v (.int r)]) : S_turn_at [.v (lyrD l), .v (.int r)] Q E := ⟨l, r, rfl, h, hl, q⟩
theorem len_place_of : ∀ as QD ED, S_place_of as QD ED → as.length = 2 := by
  rintro as QD ED ⟨_, _, rfl, _⟩
  rfl
theorem len_turn_at : ∀ as QD ED, S_turn_at as QD ED → as.length = 2 := by
  rintro as QD ED ⟨_, _, rfl, _⟩
  rfl
end CFTu

set_option Elab.async false
set_option linter.all false
set_option maxRecDepth 100000
set_option maxHeartbeats 4000000
/-! CFRa: first_from, how_many -/
namespace CFRa
open PySem PySem.Spec PyProof.Rows L2 DL CFH
@[reducible] def ff (rest by_ low : Int) : Int := low + (rest - low) % by_
def hm (rest by_ low high : Int) : Int := if high ≤ ff rest by_ low then 0 else (high - 1 - ff rest by_ low) / by_ + 1
def cnt (rest by_ high : Int) : Int := (high - 1 - rest) / by_
def S_first_from : SpD := fun as Q _ => ∃ r m l : Int, as = [.v (.int r), .v (.int m), .v (.int l)] ∧ 0 < m ∧ Q (.v (.int (ff r m l))) as
def S_how_many : SpD := fun as Q _ => ∃ r m l u : Int, as = [.v (.int r), .v (.int m), .v (.int l), .v (.int u)] ∧ 0 < m ∧ m.natAbs.log2 < 9000 ∧ Q (.v (.int (hm r m l u))) as
theorem len_first_from : ∀ as QD ED, S_first_from as QD ED → as.length = 3 := by
  rintro as QD ED ⟨_, _, _, rfl, _⟩
  rfl
theorem len_how_many : ∀ as QD ED, S_how_many as QD ED → as.length = 4 := by
  rintro as QD ED ⟨_, _, _, _, rfl, _⟩
  rfl
/-! the plain law -/
theorem ff_ge {r m l : Int} (hm : 0 < m) : l ≤ ff r m l := by
  have := Int.emod_nonneg (r - l) (show m ≠ 0 by omega)
  unfold ff; omega
theorem ff_lt {r m l : Int} (hm : 0 < m) : ff r m l < l + m := by
  have := Int.emod_lt_of_pos (r - l) hm
  unfold ff; omega
theorem ff_mod {r m l : Int} (hm : 0 < m) (h0 : 0 ≤ r) (h1 : r < m) : ff r m l % m = r := by
  unfold ff
  rw [Int.add_emod, Int.emod_emod, ← Int.add_emod, show l + (r - l) = r by omega]
  exact Int.emod_eq_of_lt h0 h1
theorem ff_eq {r m l : Int} : ∃ k, ff r m l = r + m * k := by
  refine ⟨-((r - l) / m), ?_⟩
  have := Int.emod_add_mul_ediv (r - l) m
  unfold ff
  rw [Int.mul_neg]
  omega
theorem div_of {x m k : Int} (hm : 0 < m) (h0 : m * k ≤ x) (h1 : x < m * k + m) : x / m = k := by
  have e : x = (x - m * k) + m * k := by omega
  rw [e, Int.add_mul_ediv_left _ _ (by omega), Int.ediv_eq_zero_of_lt (by omega) (by omega)]
  omega
theorem cnt_of {r m u k : Int} (hm : 0 < m) (h0 : u ≤ r + m * k) (h1 : r + m * k < u + m) : cnt r m u = k - 1 := by
  unfold cnt
  refine div_of hm ?_ ?_ <;> rw [Int.mul_sub] <;> omega
theorem hm_le {r m l u : Int} (h : 0 < m) (hl : u ≤ l) : hm r m l u = 0 := by
  unfold hm
  rw [if_pos (Int.le_trans hl (ff_ge h))]
theorem hm_eq {r m l u : Int} (h : 0 < m) (hl : l ≤ u) : hm r m l u = cnt r m u - cnt r m l := by
  obtain ⟨k, e⟩ := ff_eq (r := r) (m := m) (l := l)
  have g1 := ff_ge (r := r) (l := l) h
  have g2 := ff_lt (r := r) (l := l) h
  have c1 : cnt r m l = k - 1 := cnt_of h (by omega) (by omega)
  unfold hm
  by_cases q : u ≤ ff r m l
  · rw [if_pos q]
    have c2 : cnt r m u = k - 1 := cnt_of h (by omega) (by omega)
    omega
  · rw [if_neg q, c1, e]
    unfold cnt
    have : u - 1 - (r + m * k) = (u - 1 - r) + m * (-k) := by rw [Int.mul_neg]; omega
    rw [this, Int.add_mul_ediv_left _ _ (by omega)]
    omega
theorem hm_here {r m l : Int} : hm r m l (ff r m l) = 0 := by
  unfold hm
  rw [if_pos (Int.le_refl _)]
theorem hm_next {r m l : Int} (h : 0 < m) : hm r m l (ff r m l + 1) = 1 := by
  unfold hm
  rw [if_neg (by omega), show ff r m l + 1 - 1 - ff r m l = 0 by omega, Int.zero_ediv]
  rfl
theorem hm_due {r m l u : Int} (h : 0 < m) : hm r m l u = if l < u then cnt r m u - cnt r m l else 0 := by
  split
  · exact hm_eq h (by omega)
  · exact hm_le h (by omega)
theorem hm_parts {r m l a u : Int} (h : 0 < m) (h1 : l ≤ a) (h2 : a ≤ u) : hm r m l a + hm r m a u = hm r m l u := by
  rw [hm_eq h h1, hm_eq h h2, hm_eq h (Int.le_trans h1 h2)]
  omega
end CFRa

set_option Elab.async false
set_option linter.all false
set_option maxRecDepth 100000
set_option maxHeartbeats 4000000
/-! CFRb: gcd, inverse, agree, clash_of, joined: promises and their mathematics -/
namespace CFRb
open PySem PySem.Spec PyProof.Rows L2 DL CFH
def zg (a b : Int) : Int := ((Int.gcd a b : Nat) : Int)
def zl (a b : Int) : Int := ((Int.lcm a b : Nat) : Int)
/-- numbers of at most 8900 bits -/
def Sm (x : Int) : Prop := x.natAbs < 2 ^ 8900
theorem Sm.log {x : Int} (h : Sm x) : x.natAbs.log2 < 9000 := log2_lt h (by decide) (by decide)
theorem Sm.of_le {x y : Int} (h : Sm y) (l : x.natAbs ≤ y.natAbs) : Sm x := Nat.lt_of_le_of_lt l h
theorem Sm.of {x y : Int} (h : Sm y) (h0 : 0 ≤ x) (l : x ≤ y) : Sm x := h.of_le (by omega)
theorem Sm.neg {x : Int} (h : Sm x) : Sm (-x) := h.of_le (by omega)
theorem bits_of {x : Int} {k : Nat} (h : x.natAbs < 2 ^ k) : Builtin.Int.intBits x ≤ k := intBits_le_iff.mpr h
theorem mul_of {a b : Int} {k l : Nat} (ha : a.natAbs < 2 ^ k) (hb : b.natAbs < 2 ^ l) (h : k ≤ 2 ^ 20) (h' : l ≤ 2 ^ 20) : MulOk a b := IntMulOk.of_bits (Nat.le_trans (bits_of ha) h) (Nat.le_trans (bits_of hb) h')
theorem Sm.mul {a b : Int} (ha : Sm a) (hb : Sm b) : MulOk a b := mul_of ha hb (by decide) (by decide)
theorem Sm.big {x : Int} (h0 : 0 ≤ x) (h : x ≤ big) : Sm x := by
  have e : (2 : Nat) ^ 200 ≤ 2 ^ 8900 := Nat.pow_le_pow_right (by decide) (by decide)
  refine Nat.lt_of_lt_of_le (m := 2 ^ 200) ?_ e
  unfold CFH.big at h
  omega

theorem zg_left (a b : Int) : zg a b ∣ a := Int.gcd_dvd_left a b
theorem zg_right (a b : Int) : zg a b ∣ b := Int.gcd_dvd_right a b
theorem zg_pos {a b : Int} (h : 0 < b) : 0 < zg a b := by
  have := Int.gcd_pos_of_ne_zero_right a (show b ≠ 0 by omega)
  unfold zg; omega
theorem zg_le {a b : Int} (h : 0 < b) : zg a b ≤ b := Int.le_of_dvd h (zg_right a b)
theorem zg_dvd {a b c : Int} (h : c ∣ a) (h' : c ∣ b) : c ∣ zg a b := Int.dvd_coe_gcd h h'
theorem zg_mod {a b : Int} : Int.gcd b (a % b) = Int.gcd a b := by
  have e : a % b = a - b * (a / b) := by have := Int.emod_add_mul_ediv a b; omega
  rw [e, Int.gcd_sub_mul_left_right, Int.gcd_comm]
theorem zl_left (a b : Int) : a ∣ zl a b := Int.dvd_lcm_left a b
theorem zl_right (a b : Int) : b ∣ zl a b := Int.dvd_lcm_right a b
theorem zl_dvd {a b c : Int} (h : a ∣ c) (h' : b ∣ c) : zl a b ∣ c := Int.coe_lcm_dvd h h'
theorem zl_pos {a b : Int} (h : 0 < a) (h' : 0 < b) : 0 < zl a b := by
  have e : zl a b ≠ 0 := fun z => by
    have q : Nat.lcm a.natAbs b.natAbs = 0 := by unfold zl at z; exact Int.ofNat.inj z
    have := Nat.lcm_pos (show 0 < a.natAbs by omega) (show 0 < b.natAbs by omega)
    omega
  unfold zl at e ⊢; omega
theorem zl_mul {a b : Int} (h : 0 < a) (h' : 0 < b) : zl a b = a / zg a b * b := by
  have p := zg_pos (a := a) h'
  have q : zg a b * zl a b = a * b := by
    have := Int.gcd_mul_lcm a b
    unfold zg zl
    have e : ((Int.gcd a b * Int.lcm a b : Nat) : Int) = ((a.natAbs * b.natAbs : Nat) : Int) := by rw [this]
    rw [Int.natCast_mul, Int.natCast_mul] at e
    rw [e, Int.natAbs_of_nonneg (by omega), Int.natAbs_of_nonneg (by omega)]
  obtain ⟨k, hk⟩ := zg_left a b
  have e1 : a / zg a b = k := by
    conv => lhs; lhs; rw [hk]
    exact Int.mul_ediv_cancel_left k (by omega)
  rw [e1]
  have : zg a b * zl a b = zg a b * (k * b) := by rw [q, ← Int.mul_assoc, ← hk]
  exact Int.eq_of_mul_eq_mul_left (by omega) this
theorem zl_mul2 {a b : Int} (h : 0 < a) (h' : 0 < b) : zl a b = a * (b / zg a b) := by
  have e : zl a b = zl b a := by unfold zl; rw [Int.lcm_comm]
  have e2 : zg a b = zg b a := by unfold zg; rw [Int.gcd_comm]
  rw [e, zl_mul h' h, e2, Int.mul_comm]
theorem zl_assoc_step {a b : Int} (h : 0 < a) (h' : 0 < b) : zl a b ≤ a * b := by
  rw [zl_mul2 h h']
  exact Int.mul_le_mul_of_nonneg_left (Int.ediv_le_self (zg a b) (by omega)) (by omega)
/-- what the greatest divisors with two numbers divide, that with their least multiple divides -/
theorem nat_distrib {a b c d : Nat} (hc : 0 < c) (h1 : Nat.gcd a c ∣ d) (h2 : Nat.gcd b c ∣ d) : Nat.gcd (Nat.lcm a b) c ∣ d := by
  have w0 : 0 < Nat.gcd (Nat.gcd a b) c := Nat.gcd_pos_of_pos_right _ hc
  have ew : Nat.gcd (Nat.gcd a c) (Nat.gcd b c) = Nat.gcd (Nat.gcd a b) c := by
    apply Nat.dvd_antisymm
    · refine Nat.dvd_gcd (Nat.dvd_gcd ?_ ?_) ?_
      · exact Nat.dvd_trans (Nat.gcd_dvd_left _ _) (Nat.gcd_dvd_left _ _)
      · exact Nat.dvd_trans (Nat.gcd_dvd_right _ _) (Nat.gcd_dvd_left _ _)
      · exact Nat.dvd_trans (Nat.gcd_dvd_right _ _) (Nat.gcd_dvd_right _ _)
    · refine Nat.dvd_gcd (Nat.dvd_gcd ?_ ?_) (Nat.dvd_gcd ?_ ?_)
      · exact Nat.dvd_trans (Nat.gcd_dvd_left _ _) (Nat.gcd_dvd_left _ _)
      · exact Nat.gcd_dvd_right _ _
      · exact Nat.dvd_trans (Nat.gcd_dvd_left _ _) (Nat.gcd_dvd_right _ _)
      · exact Nat.gcd_dvd_right _ _
  have l1 : Nat.gcd (Nat.lcm a b) c ∣ c := Nat.gcd_dvd_right _ _
  have l2 : Nat.gcd (Nat.lcm a b) c ∣ Nat.lcm a b := Nat.gcd_dvd_left _ _
  have g1 : Nat.gcd (Nat.gcd a b) c ∣ a := Nat.dvd_trans (Nat.gcd_dvd_left _ _) (Nat.gcd_dvd_left _ _)
  have g2 : Nat.gcd (Nat.gcd a b) c ∣ b := Nat.dvd_trans (Nat.gcd_dvd_left _ _) (Nat.gcd_dvd_right _ _)
  have g3 : Nat.gcd (Nat.gcd a b) c ∣ c := Nat.gcd_dvd_right _ _
  have key : Nat.gcd (Nat.lcm a b) c * Nat.gcd (Nat.gcd a b) c ∣ Nat.gcd a c * Nat.gcd b c := by
    have er : Nat.gcd a c * Nat.gcd b c = Nat.gcd (Nat.gcd (a * b) (c * b)) (Nat.gcd (a * c) (c * c)) := by rw [Nat.gcd_mul_right, Nat.gcd_mul_right, Nat.gcd_mul_left]
    rw [er]
    refine Nat.dvd_gcd (Nat.dvd_gcd ?_ ?_) (Nat.dvd_gcd ?_ ?_)
    · have := Nat.mul_dvd_mul l2 (Nat.gcd_dvd_left (Nat.gcd a b) c)
      rw [Nat.mul_comm (Nat.lcm a b), Nat.gcd_mul_lcm] at this
      exact this
    · exact Nat.mul_dvd_mul l1 g2
    · rw [Nat.mul_comm a c]; exact Nat.mul_dvd_mul l1 g1
    · exact Nat.mul_dvd_mul l1 g3
  rw [← Nat.gcd_mul_lcm (Nat.gcd a c) (Nat.gcd b c), ew, Nat.mul_comm] at key
  exact Nat.dvd_trans (Nat.dvd_of_mul_dvd_mul_left w0 key) (Nat.lcm_dvd h1 h2)
theorem zg_distrib {a b c d : Int} (hc : 0 < c) (h1 : zg a c ∣ d) (h2 : zg b c ∣ d) : zg (zl a b) c ∣ d := by
  unfold zg at h1 h2 ⊢
  rw [Int.ofNat_dvd_left] at h1 h2 ⊢
  exact nat_distrib (c := c.natAbs) (by omega) h1 h2

/-! ### pairs -/
abbrev Pr := Int × Int
@[reducible] def cplD (p : Pr) : D := .tuple [.int p.1, .int p.2]
@[reducible] def psD (ps : List Pr) : D := .tuple (ps.map cplD)
def Lf (l : Int) (ps : List Pr) : Int := ps.foldl (fun l p => zl l p.2) l
abbrev Lp (ps : List Pr) : Int := Lf 1 ps
def agr (p q : Pr) : Bool := decide ((p.1 - q.1) % zg p.2 q.2 = 0)
theorem agr_iff {p q : Pr} : agr p q = true ↔ zg p.2 q.2 ∣ p.1 - q.1 := by
  unfold agr
  rw [decide_eq_true_eq, ← Int.dvd_iff_emod_eq_zero]
def OkP (p : Pr) : Prop := 0 ≤ p.1 ∧ p.1 < p.2
def Sol (ps : List Pr) (r : Int) : Prop := ∀ p ∈ ps, p.2 ∣ r - p.1
theorem Lf_cons {l : Int} {p : Pr} {ps : List Pr} : Lf l (p :: ps) = Lf (zl l p.2) ps := rfl
theorem Lf_app {l : Int} {ps qs : List Pr} : Lf l (ps ++ qs) = Lf (Lf l ps) qs := List.foldl_append
theorem Lf_self : ∀ {l : Int} {ps : List Pr}, l ∣ Lf l ps
  | l, [] => Int.dvd_refl l
  | l, p :: ps => Int.dvd_trans (zl_left l p.2) Lf_self
theorem Lf_mem : ∀ {l : Int} {ps : List Pr}, ∀ p ∈ ps, p.2 ∣ Lf l ps
  | l, q :: ps, p, h => by
    rcases List.mem_cons.mp h with e | h
    · subst e; exact Int.dvd_trans (zl_right l p.2) Lf_self
    · exact Lf_mem (l := zl l q.2) p h
theorem Lf_pos : ∀ {l : Int} {ps : List Pr}, 0 < l → (∀ p ∈ ps, OkP p) → 0 < Lf l ps
  | l, [], h, _ => h
  | l, p :: ps, h, hp => Lf_pos (l := zl l p.2) (zl_pos h (by have := hp p (.head _); unfold OkP at this; omega)) fun q hq => hp q (.tail _ hq)
theorem Lf_least : ∀ {l x : Int} {ps : List Pr}, l ∣ x → (∀ p ∈ ps, p.2 ∣ x) → Lf l ps ∣ x
  | l, x, [], h, _ => h
  | l, x, p :: ps, h, hp => Lf_least (l := zl l p.2) (zl_dvd h (hp p (.head _))) fun q hq => hp q (.tail _ hq)
theorem Lf_zg : ∀ {l c d : Int} {ps : List Pr}, 0 < c → zg l c ∣ d → (∀ p ∈ ps, zg p.2 c ∣ d) → zg (Lf l ps) c ∣ d
  | l, c, d, [], _, h, _ => h
  | l, c, d, p :: ps, hc, h, hp => Lf_zg (l := zl l p.2) hc (zg_distrib hc h (hp p (.head _))) fun q hq => hp q (.tail _ hq)
theorem dvd_sub3 {g a b c : Int} (h : g ∣ a - b) (h' : g ∣ b - c) : g ∣ a - c := by
  have e : a - c = (a - b) + (b - c) := by omega
  rw [e]; exact Int.dvd_add h h'
theorem dvd_sub_comm {g a b : Int} (h : g ∣ a - b) : g ∣ b - a := by
  have e : b - a = -(a - b) := by omega
  rw [e]; exact Int.dvd_neg.mpr h
/-- pairs that agree with a further one, agree with it all together -/
theorem agree_all {ps : List Pr} {q : Pr} {r : Int} (hq : 0 < q.2) (hs : Sol ps r) (h : ∀ p ∈ ps, agr p q = true) : agr (r, Lp ps) q = true := by
  refine agr_iff.mpr (Lf_zg hq ?_ fun p hp => ?_)
  · have e : zg 1 q.2 = 1 := by unfold zg; rw [Int.one_gcd]; rfl
    rw [e]; exact Int.one_dvd _
  · exact dvd_sub3 (Int.dvd_trans (zg_left p.2 q.2) (hs p hp)) (agr_iff.mp (h p hp))
/-- one step of the joining -/
theorem step_sol {ps : List Pr} {q : Pr} {r o x : Int} (hs : Sol ps r) (ha : agr (r, Lp ps) q = true) (hl : 0 < Lp ps) (hq : OkP q)
    (hx : q.2 / zg (Lp ps) q.2 ∣ Lp ps / zg (Lp ps) q.2 * x - 1) (ho : q.2 / zg (Lp ps) q.2 ∣ (q.1 - r) / zg (Lp ps) q.2 * x - o) : Sol (ps ++ [q]) (r + Lp ps * o) := by
  have hq2 : 0 < q.2 := by unfold OkP at hq; omega
  have gp := zg_pos (a := Lp ps) hq2
  generalize hg : zg (Lp ps) q.2 = g at *
  obtain ⟨t, ht⟩ : g ∣ q.1 - r := dvd_sub_comm (by have := agr_iff.mp ha; rw [← hg]; exact this)
  obtain ⟨b, hb⟩ : g ∣ Lp ps := by rw [← hg]; exact zg_left _ _
  obtain ⟨s, hs2⟩ : g ∣ q.2 := by rw [← hg]; exact zg_right _ _
  have e1 : q.2 / g = s := by rw [hs2]; exact Int.mul_ediv_cancel_left s (by omega)
  have e2 : Lp ps / g = b := by rw [hb]; exact Int.mul_ediv_cancel_left b (by omega)
  have e3 : (q.1 - r) / g = t := by rw [ht]; exact Int.mul_ediv_cancel_left t (by omega)
  rw [e1, e2] at hx
  rw [e1, e3] at ho
  intro p hp
  rcases List.mem_append.mp hp with h | h
  · have e : r + Lp ps * o - p.1 = (r - p.1) + Lp ps * o := by omega
    rw [e]
    exact Int.dvd_add (hs p h) (Int.dvd_trans (Lf_mem p h) (Int.dvd_mul_right _ _))
  · rw [List.mem_singleton.mp h]
    obtain ⟨u, hu⟩ := hx
    obtain ⟨v, hv⟩ := ho
    -- b * o - t = s * (..)
    refine ⟨t * u - b * v, ?_⟩
    have k1 : r + Lp ps * o - q.1 = g * (b * o - t) := by
      rw [Int.mul_sub, ← ht, hb, Int.mul_assoc]; omega
    have k2 : b * o - t = s * (t * u - b * v) := by
      have m1 : t * (b * x - 1) = t * (s * u) := by rw [hu]
      have m2 : b * (t * x - o) = b * (s * v) := by rw [hv]
      have m3 : t * (b * x) = b * (t * x) := by rw [← Int.mul_assoc, ← Int.mul_assoc, Int.mul_comm t b]
      have m4 : s * (t * u - b * v) = t * (s * u) - b * (s * v) := by
        rw [Int.mul_sub, ← Int.mul_assoc, ← Int.mul_assoc, ← Int.mul_assoc, ← Int.mul_assoc, Int.mul_comm s t, Int.mul_comm s b]
      rw [Int.mul_sub, Int.mul_one] at m1
      rw [Int.mul_sub] at m2
      omega
    rw [k1, k2, ← Int.mul_assoc, ← hs2]
theorem Lp_snoc {ps : List Pr} {q : Pr} : Lp (ps ++ [q]) = zl (Lp ps) q.2 := by unfold Lp; rw [Lf_app]; rfl
theorem Lp_pre {ps qs : List Pr} : Lp ps ∣ Lp (ps ++ qs) := by unfold Lp; rw [Lf_app]; exact Lf_self
theorem gcd_parts {a b : Int} (h : 0 < b) : Int.gcd (a / zg a b) (b / zg a b) = 1 := by
  have := Int.gcd_pos_of_ne_zero_right a (show b ≠ 0 by omega)
  exact Int.gcd_ediv_gcd_ediv_gcd this
/-- a number with all the rests is told by one -/
theorem sol_uniq {ps : List Pr} {r x : Int} (hr : Sol ps r) (hx : Sol ps x) : Lp ps ∣ x - r :=
  Lf_least (Int.one_dvd _) fun p hp => dvd_sub3 (hx p hp) (dvd_sub_comm (hr p hp))
theorem sol_of {ps : List Pr} {r x : Int} (hr : Sol ps r) (h : Lp ps ∣ x - r) : Sol ps x := fun p hp => dvd_sub3 (Int.dvd_trans (Lf_mem p hp) h) (hr p hp)

/-! ### promises -/
def S_gcd : SpD := fun as Q _ => ∃ a b : Int, as = [.v (.int a), .v (.int b)] ∧ 0 ≤ a ∧ 0 ≤ b ∧ Q (.v (.int (zg a b))) as
def S_inverse : SpD := fun as Q _ => ∃ a m : Int, as = [.v (.int a), .v (.int m)] ∧ 0 < m ∧ Int.gcd a m = 1 ∧ Sm m ∧ ∀ x, 0 ≤ x → x < m → m ∣ a * x - 1 → Q (.v (.int x)) as
def S_agree : SpD := fun as Q _ => ∃ p q : Pr, as = [.v (cplD p), .v (cplD q)] ∧ 0 ≤ p.2 ∧ 0 < q.2 ∧ Q (.v (.bool (agr p q))) as
@[reducible] def clashD (i j : Int) : D := .tuple [.str "clash", .int i, .int j]
@[reducible] def allD (r m : Int) : D := .tuple [.str "all", .int r, .int m]
def S_clash_of : SpD := fun as Q _ => ∃ (ps : List Pr) (j i0 : Nat) (p q : Pr), as = [.v (psD ps), .v (.int (j : Nat))] ∧ (∀ p ∈ ps, OkP p) ∧ ps[j]? = some q ∧ ps[i0]? = some p ∧ i0 < j ∧ agr p q = false ∧
  ∀ (i : Nat) (p' : Pr), i < j → ps[i]? = some p' → agr p' q = false → Q (.v (clashD (i : Nat) (j : Nat))) as
def S_joined : SpD := fun as Q _ => ∃ (ps : List Pr), as = [.v (psD ps)] ∧ (∀ p ∈ ps, OkP p) ∧ Sm (Lp ps) ∧
  (∀ (i j : Nat) (p q : Pr), i < j → ps[i]? = some p → ps[j]? = some q → agr p q = false → Q (.v (clashD (i : Nat) (j : Nat))) as) ∧
  ∀ r, 0 ≤ r → r < Lp ps → Sol ps r → Q (.v (allD r (Lp ps))) as
theorem len_gcd : ∀ as QD ED, S_gcd as QD ED → as.length = 2 := by
  rintro as QD ED ⟨_, _, rfl, _⟩
  rfl
theorem len_inverse : ∀ as QD ED, S_inverse as QD ED → as.length = 2 := by
  rintro as QD ED ⟨_, _, rfl, _⟩
  rfl
theorem len_agree : ∀ as QD ED, S_agree as QD ED → as.length = 2 := by
  rintro as QD ED ⟨_, _, rfl, _⟩
  rfl
theorem len_clash_of : ∀ as QD ED, S_clash_of as QD ED → as.length = 2 := by
  rintro as QD ED ⟨_, _, _, _, _, rfl, _⟩
  rfl
theorem len_joined : ∀ as QD ED, S_joined as QD ED → as.length = 1 := by
  rintro as QD ED ⟨_, rfl, _⟩
  rfl
end CFRb

set_option Elab.async false
set_option linter.all false
set_option maxRecDepth 100000
set_option maxHeartbeats 4000000
/-! CFTd: who is called: told, stand, first -/
namespace CFTd
open PySem PySem.Spec PyProof.Rows L2 DL CFH CFCl CFRu CFWd CFBk CFTu
theorem sg_small : ∀ c ∈ signs.cps.toList, c < 0x110000 := by decide +kernel
theorem word_ok {x : Str} (h : WordOk x) : PyData.canLay0 (.str x) = true := by
  show x.cps.all (· < 0x110000) = true
  rw [Array.all_eq_true]
  intro i hi
  have := sg_small _ (h.sg x.cps[i] (by simp))
  simpa using this
theorem lay_w {k : Nat} {x : Str} (h : WordOk x) : Lay k (.str x) := Lay.str (word_ok h)
theorem sh_w {x : Str} (h : WordOk x) : SeqAt.shaped (.str x) = true := (lay_w (k := 0) h).shaped
theorem eqv_str {a b : Str} : PyData.eqv (.str a) (.str b) = decide (a = b) := by
  simp only [PyData.eqv]
  by_cases h : a = b
  · subst h; simp
  · simp [h]
inductive Rw where
  | non (w : Str)
  | turn (h w : Str) (j : Nat)
  | sub (h w : Str) (j k : Nat)
  | on (h : Str) (k : Nat)
  | away (m : Nat) (r : Rw)
def rwL : Rw → List D
  | .non w => [.str "none", .str w]
  | .turn h w j => [.str "turn", .str h, .str w, .int (j : Nat)]
  | .sub h w j k => [.str "for", .str h, .str w, .int (j : Nat), .int (k : Nat)]
  | .on h k => [.str "on", .str h, .int (k : Nat)]
  | .away m r => [.str "away", .int (m : Nat), .tuple (rwL r)]
@[reducible] def rwD (r : Rw) : D := .tuple (rwL r)
def Rw.hand : Rw → Option Str
  | .turn h _ _ => some h
  | .sub h _ _ _ => some h
  | .on h _ => some h
  | _ => none
def Rw.kind : Rw → Str
  | .non _ => "none"
  | .turn _ _ _ => "turn"
  | .sub _ _ _ _ => "for"
  | .on _ _ => "on"
  | .away _ _ => "away"
theorem rw_0 {r : Rw} : atI (rwL r) 0 = some (.str r.kind) := by cases r <;> rfl
theorem rw_1 {r : Rw} {h : Str} (e : r.hand = some h) : atI (rwL r) 1 = some (.str h) := by cases r <;> cases e <;> rfl
def Rw.Ok : Rw → Prop
  | .non w => WordOk w
  | .turn h w _ => WordOk h ∧ WordOk w
  | .sub h w _ _ => WordOk h ∧ WordOk w
  | .on h _ => WordOk h
  | .away _ r => r.Ok
theorem Rw.Ok.hand {r : Rw} {h : Str} (o : r.Ok) (e : r.hand = some h) : WordOk h := by
  cases r <;> cases e
  · exact o.1
  · exact o.1
  · exact o
def rwDep : Rw → Nat
  | .away _ r => rwDep r + 1
  | _ => 1
theorem lay_rw : ∀ {r : Rw}, r.Ok → Lay (rwDep r) (rwD r)
  | .non w, h => Lay.tuple (k := 0) fun d hd => by
    simp only [rwL, List.mem_cons, List.not_mem_nil, or_false] at hd
    rcases hd with rfl | rfl
    · exact Lay.str (by decide +kernel)
    · exact lay_w h
  | .turn a w j, h => Lay.tuple (k := 0) fun d hd => by
    simp only [rwL, List.mem_cons, List.not_mem_nil, or_false] at hd
    rcases hd with rfl | rfl | rfl | rfl
    · exact Lay.str (by decide +kernel)
    · exact lay_w h.1
    · exact lay_w h.2
    · exact Lay.int _
  | .sub a w j k, h => Lay.tuple (k := 0) fun d hd => by
    simp only [rwL, List.mem_cons, List.not_mem_nil, or_false] at hd
    rcases hd with rfl | rfl | rfl | rfl | rfl
    · exact Lay.str (by decide +kernel)
    · exact lay_w h.1
    · exact lay_w h.2
    · exact Lay.int _
    · exact Lay.int _
  | .on a k, h => Lay.tuple (k := 0) fun d hd => by
    simp only [rwL, List.mem_cons, List.not_mem_nil, or_false] at hd
    rcases hd with rfl | rfl | rfl
    · exact Lay.str (by decide +kernel)
    · exact lay_w h
    · exact Lay.int _
  | .away m r, h => Lay.tuple (k := rwDep r) fun d hd => by
    have ih := lay_rw (r := r) h
    simp only [rwL, List.mem_cons, List.not_mem_nil, or_false] at hd
    rcases hd with rfl | rfl | rfl
    · exact Lay.str (by decide +kernel)
    · exact Lay.int _
    · exact ih
theorem lf_rw : ∀ {r : Rw}, lfree (rwD r) = true
  | .non w => rfl
  | .turn _ _ _ => rfl
  | .sub _ _ _ _ => rfl
  | .on _ _ => rfl
  | .away m r => lfree_tup fun d hd => by
    have ih := lf_rw (r := r)
    simp only [rwL, List.mem_cons, List.not_mem_nil, or_false] at hd
    rcases hd with rfl | rfl | rfl
    · rfl
    · rfl
    · exact ih
/-! what is told -/
def coversL (c : Chg) (t : Int) : Bool := decide (c.b ≤ t) && (match c.e with
  | none => true
  | some e => decide (t < e))
def covAt (cs : List Chg) (t : Int) (k : Nat) : Bool := match cs[k]? with
  | some c => coversL c t
  | none => false
def coveringL (cs : List Chg) (t : Int) : List Nat := (List.range cs.length).reverse.filter (covAt cs t)
def isAway (cs : List Chg) (h : Str) (k : Nat) : Bool := match cs[k]? with
  | some (.away h' _ _) => decide (h' = h)
  | _ => false
def isStand (cs : List Chg) (h : Str) (k : Nat) : Bool := match cs[k]? with
  | some (.stand _ o _ _) => decide (o = h)
  | _ => false
def onHand (cs : List Chg) (k : Nat) : Option Str := match cs[k]? with
  | some (.on h _ _) => some h
  | _ => none
def handOf (cs : List Chg) (k : Nat) : Option Str := (cs[k]?).map Chg.h
def lookL (cs : List Chg) (ks : List Nat) (r : Rw) (h : Str) : Rw := match ks.find? (isAway cs h) with
  | none => r
  | some m => .away m r
def layerRowL (cs : List Chg) (ks : List Nat) (l : Lyr) (r : Int) : Rw := match turnL l r with
  | none => .non l.word
  | some j => match l.turns[j]? with
    | none => .non l.word
    | some t => match ks.find? (isStand cs t.2.2) with
      | none => lookL cs ks (.turn t.2.2 l.word j) t.2.2
      | some k => match handOf cs k with
        | none => .non l.word
        | some g => lookL cs ks (.sub g l.word j k) g
def onsL (cs : List Chg) (ks : List Nat) : List Rw := ks.filterMap fun k => (onHand cs k).map fun h => lookL cs ks (.on h k) h
def toldL (b : Bk) (t : Int) : List Rw := onsL b.cs (coveringL b.cs t) ++ b.ls.map fun l => layerRowL b.cs (coveringL b.cs t) l (readingL b.js t)
def standG : List Str → List Rw → List Rw
  | _, [] => []
  | hs, r :: rs => match r.hand with
    | none => standG hs rs
    | some h => if h ∈ hs then standG hs rs else r :: standG (hs ++ [h]) rs
def standL (b : Bk) (t : Int) : List Rw := standG [] (toldL b t)
def firstL (b : Bk) (t : Int) : Option Rw := (standL b t).head?
@[reducible] def optR : Option Rw → D
  | none => .none
  | some r => rwD r
@[reducible] def ksD (ks : List Nat) : List D := ks.map fun (k : Nat) => .int k
/-! facts -/
structure BkW (b : Bk) : Prop where
  js : b.js.length ≤ 100
  ls : ∀ l ∈ b.ls, LyrOk l
  l4 : b.ls.length ≤ 100
  cs : ∀ c ∈ b.cs, ChgOk c
  c24 : b.cs.length ≤ 200
theorem cov_lt {cs : List Chg} {t : Int} {k : Nat} (h : k ∈ coveringL cs t) : k < cs.length := by
  have := (List.mem_filter.mp h).1
  simpa using this
theorem cov_len {cs : List Chg} {t : Int} : (coveringL cs t).length ≤ cs.length := by
  have := List.length_filter_le (covAt cs t) (List.range cs.length).reverse
  rw [List.length_reverse, List.length_range] at this
  exact this
theorem look_ok {cs : List Chg} {ks : List Nat} {r : Rw} {h : Str} (o : r.Ok) : (lookL cs ks r h).Ok := by
  unfold lookL
  split
  · exact o
  · exact o
theorem look_dep {cs : List Chg} {ks : List Nat} {r : Rw} {h : Str} (d : rwDep r ≤ 1) : rwDep (lookL cs ks r h) ≤ 2 := by
  unfold lookL
  split
  · omega
  · show rwDep r + 1 ≤ 2; omega
theorem ch_h {c : Chg} (h : ChgOk c) : WordOk c.h := by
  have := h.hs
  cases c with
  | away h b e => exact this
  | on h b e => exact this
  | stand h o b e => exact this.1
theorem trns_hand {M : Int} : ∀ {lo : Int} {ts : List Trn}, TrnsOk M lo ts → ∀ t ∈ ts, WordOk t.2.2
  | _, u :: ts, h, t, ht => by
    rcases List.mem_cons.mp ht with z | z
    · rw [z]; exact h.2.2.2.1
    · exact trns_hand h.2.2.2.2 t z
theorem layerRow_ok {cs : List Chg} {ks : List Nat} {l : Lyr} {r : Int} (hl : LyrOk l) (hc : ∀ c ∈ cs, ChgOk c) : (layerRowL cs ks l r).Ok ∧ rwDep (layerRowL cs ks l r) ≤ 2 := by
  unfold layerRowL
  split
  · exact ⟨hl.wd, by show 1 ≤ 2; omega⟩
  · split
    · exact ⟨hl.wd, by show 1 ≤ 2; omega⟩
    · rename_i j _ t ht
      have w := trns_hand hl.ts t (List.mem_of_getElem? ht)
      split
      · exact ⟨look_ok ⟨w, hl.wd⟩, look_dep (Nat.le_refl 1)⟩
      · split
        · exact ⟨hl.wd, by show 1 ≤ 2; omega⟩
        · rename_i g hg
          have wg : WordOk g := by
            unfold handOf at hg
            obtain ⟨c, e, rfl⟩ := Option.map_eq_some_iff.mp hg
            exact ch_h (hc c (List.mem_of_getElem? e))
          exact ⟨look_ok ⟨wg, hl.wd⟩, look_dep (Nat.le_refl 1)⟩
theorem ons_ok {cs : List Chg} {ks ks' : List Nat} (hc : ∀ c ∈ cs, ChgOk c) : ∀ r ∈ ks'.filterMap (fun k => (onHand cs k).map fun h => lookL cs ks (.on h k) h), r.Ok ∧ rwDep r ≤ 2 := fun r hr => by
  obtain ⟨k, _, e⟩ := List.mem_filterMap.mp hr
  cases e1 : onHand cs k with
  | none => rw [e1] at e; cases e
  | some h =>
    rw [e1] at e
    cases e
    have w : WordOk h := by
      unfold onHand at e1
      cases e2 : cs[k]? with
      | none => rw [e2] at e1; cases e1
      | some c =>
        rw [e2] at e1
        cases c <;> cases e1
        exact ch_h (hc _ (List.mem_of_getElem? e2))
    exact ⟨look_ok w, look_dep (Nat.le_refl 1)⟩
theorem told_ok {b : Bk} (h : BkW b) {t : Int} : ∀ r ∈ toldL b t, r.Ok ∧ rwDep r ≤ 2 := fun r hr => by
  rcases List.mem_append.mp hr with z | z
  · exact ons_ok h.cs r z
  · obtain ⟨l, hl, rfl⟩ := List.mem_map.mp z
    exact layerRow_ok (h.ls l hl) h.cs
theorem told_len {b : Bk} {t : Int} : (toldL b t).length ≤ b.cs.length + b.ls.length := by
  unfold toldL onsL
  rw [List.length_append, List.length_map]
  have := List.length_filterMap_le (fun k => (onHand b.cs k).map fun h => lookL b.cs (coveringL b.cs t) (.on h k) h) (coveringL b.cs t)
  have := cov_len (cs := b.cs) (t := t)
  omega
theorem stand_sub : ∀ {rs : List Rw} {hs : List Str} {r : Rw}, r ∈ standG hs rs → r ∈ rs
  | x :: rs, hs, r, h => by
    unfold standG at h
    split at h
    · exact .tail _ (stand_sub h)
    · split at h
      · exact .tail _ (stand_sub h)
      · rcases List.mem_cons.mp h with z | z
        · rw [z]; exact .head _
        · exact .tail _ (stand_sub z)
/-! promises -/
def S_covers : SpD := fun as Q _ => ∃ (c : Chg) (t : Int), as = [.v (chgD c), .v (.int t)] ∧ Q (.v (.bool (coversL c t))) as
def S_covering : SpD := fun as Q _ => ∃ (J L : D) (cs : List Chg) (t : Int), as = [.v (.tuple [J, L, chgsD cs]), .v (.int t)] ∧ cs.length ≤ 1000 ∧ Q (.own 0 (.lst (ksD (coveringL cs t)))) as
def S_away_by : SpD := fun as Q _ => ∃ (J L : D) (cs : List Chg) (ks : List Nat) (h : Str), as = [.v (.tuple [J, L, chgsD cs]), .v (.list (ksD ks)), .v (.str h)] ∧ (∀ c ∈ cs, ChgOk c) ∧ (∀ k ∈ ks, k < cs.length) ∧ WordOk h ∧ Q (.v (optN (ks.find? (isAway cs h)))) as
def S_stood_for : SpD := fun as Q _ => ∃ (J L : D) (cs : List Chg) (ks : List Nat) (h : Str), as = [.v (.tuple [J, L, chgsD cs]), .v (.list (ksD ks)), .v (.str h)] ∧ (∀ c ∈ cs, ChgOk c) ∧ (∀ k ∈ ks, k < cs.length) ∧ WordOk h ∧ Q (.v (optN (ks.find? (isStand cs h)))) as
def S_looked_at : SpD := fun as Q _ => ∃ (J L : D) (cs : List Chg) (ks : List Nat) (r : Rw) (h : Str), as = [.v (.tuple [J, L, chgsD cs]), .v (.list (ksD ks)), .v (rwD r)] ∧ (∀ c ∈ cs, ChgOk c) ∧ (∀ k ∈ ks, k < cs.length) ∧ r.hand = some h ∧ WordOk h ∧ Q (.v (rwD (lookL cs ks r h))) as
def S_layer_row : SpD := fun as Q _ => ∃ (J L : D) (cs : List Chg) (ks : List Nat) (l : Lyr) (r : Int), as = [.v (.tuple [J, L, chgsD cs]), .v (.list (ksD ks)), .v (lyrD l), .v (.int r)] ∧ (∀ c ∈ cs, ChgOk c) ∧ (∀ k ∈ ks, k < cs.length) ∧ LyrOk l ∧ Q (.v (rwD (layerRowL cs ks l r))) as
def S_told : SpD := fun as Q _ => ∃ (b : Bk) (t : Int), as = [.v (bkD b), .v (.int t)] ∧ BkW b ∧ Q (.v (.tuple ((toldL b t).map rwD))) as
def S_stand : SpD := fun as Q _ => ∃ (b : Bk) (t : Int), as = [.v (bkD b), .v (.int t)] ∧ BkW b ∧ Q (.v (.tuple ((standL b t).map rwD))) as
def S_first : SpD := fun as Q _ => ∃ (b : Bk) (t : Int), as = [.v (bkD b), .v (.int t)] ∧ BkW b ∧ Q (.v (optR (firstL b t))) as
theorem told_i {b : Bk} {t : Int} {Q E} (h : BkW b) (q : Q (.v (.tuple ((toldL b t).map rwD))) [.v (bkD b), .v (.int t)]) : S_told [.v (bkD b), .v (.int t)] Q E := ⟨b, t, rfl, h, q⟩
theorem stand_i {b : Bk} {t : Int} {Q E} (h : BkW b) (q : Q (.v (.tuple ((standL b t).map rwD))) [.v (bkD b), .v (.int t)]) : S_stand [.v (bkD b), .v (.int t)] Q E := ⟨b, t, rfl, h, q⟩
theorem first_i {b : Bk} {t : Int} {Q E} (h : BkW b) (q : Q (.v (optR (firstL b t))) [.v (bkD b), .v (.int t)]) : S_first [.v (bkD b), .v (.int t)] Q E := ⟨b, t, rfl, h, q⟩
theorem len_covers : ∀ as QD ED, S_covers as QD ED → as.length = 2 := by
  rintro as QD ED ⟨_, _, rfl, _⟩
  rfl
theorem len_covering : ∀ as QD ED, S_covering as QD ED → as.length = 2 := by
  rintro as QD ED ⟨_, _, _, _, rfl, _⟩
  rfl
theorem len_away_by : ∀ as QD ED, S_away_by as QD ED → as.length = 3 := by
  rintro as QD ED ⟨_, _, _, _, _, rfl, _⟩
  rfl
theorem len_stood_for : ∀ as QD ED, S_stood_for as QD ED → as.length = 3 := by
  rintro as QD ED ⟨_, _, _, _, _, rfl, _⟩
  rfl
theorem len_looked_at : ∀ as QD ED, S_looked_at as QD ED → as.length = 3 := by
  rintro as QD ED ⟨_, _, _, _, _, _, rfl, _⟩
  rfl
theorem len_layer_row : ∀ as QD ED, S_layer_row as QD ED → as.length = 4 := by
  rintro as QD ED ⟨_, _, _, _, _, _, rfl, _⟩
  rfl
theorem len_told : ∀ as QD ED, S_told as QD ED → as.length = 2 := by
  rintro as QD ED ⟨_, _, rfl, _⟩
  rfl
theorem len_stand : ∀ as QD ED, S_stand as QD ED → as.length = 2 := by
  rintro as QD ED ⟨_, _, rfl, _⟩
  rfl
theorem len_first : ∀ as QD ED, S_first as QD ED → as.length = 2 := by
  rintro as QD ED ⟨_, _, rfl, _⟩
  rfl
end CFTd

set_option Elab.async false
set_option linter.all false
set_option maxRecDepth 100000
set_option maxHeartbeats 4000000
/-! CFRd: the laws' reading by the last moments ahead of jumps, one sum kept -/
namespace CFRd
open PySem PySem.Spec PyProof.Rows L2 DL CFH CFCl CFCh
def lawR (t : Int) : Int → Int → List Pr → Int
  | best, over, [] => if t + over > best then t + over else best
  | best, over, p :: ps => lawR t (if p.1 - 1 + over > best then p.1 - 1 + over else best) (over + p.2) ps
theorem rd_law (t : Int) : ∀ (js : List Pr) (best over : Int), rdL t best over js = lawR t best over (js.filter fun p => decide (p.1 ≤ t))
  | [], _, _ => rfl
  | p :: js, best, over => by
    unfold rdL
    by_cases h : p.1 ≤ t
    · rw [if_pos h, List.filter_cons_of_pos (by simpa using h), rd_law t js]
      rfl
    · rw [if_neg h, List.filter_cons_of_neg (by simpa using h), rd_law t js]
theorem pre_split (t : Int) : ∀ {lo : Int} {js : List Pr}, Ris lo js → ∃ rest, js = (js.filter fun p => decide (p.1 ≤ t)) ++ rest
  | _, [], _ => ⟨[], rfl⟩
  | lo, p :: js, h => by
    by_cases z : p.1 ≤ t
    · obtain ⟨rest, e⟩ := pre_split t h.2
      refine ⟨rest, ?_⟩
      rw [List.filter_cons_of_pos (by simpa using z), List.cons_append, ← e]
    · refine ⟨p :: js, ?_⟩
      have : (p :: js).filter (fun p => decide (p.1 ≤ t)) = [] := List.filter_eq_nil_iff.mpr fun q hq => by
        have : p.1 ≤ q.1 := by
          rcases List.mem_cons.mp hq with e | hq
          · rw [e]; exact Int.le_refl _
          · exact Int.le_of_lt (Ris.mem h.2 q hq)
        simp only [decide_eq_true_eq]
        omega
      rw [this]
      rfl
/-- begun at the first of the ends -/
theorem law_first {t : Int} {js : List Pr} (h : Ris 0 js) (h0 : 0 ≤ t) : readingL js t = match js.filter (fun p => decide (p.1 ≤ t)) with
    | [] => t
    | p :: ps => lawR t (p.1 - 1) 0 (p :: ps) := by
  unfold readingL
  rw [rd_law]
  split
  · rename_i e
    rw [e]
    unfold lawR
    split <;> omega
  · rename_i p ps e
    rw [e]
    have hp : p ∈ js := (List.mem_filter.mp (show p ∈ js.filter (fun p => decide (p.1 ≤ t)) by rw [e]; exact .head _)).1
    have := Ris.mem h p hp
    unfold lawR
    congr 1
    split <;> split <;> omega
def S_law_reading : SpD := CFCh.S_law_reading
theorem len_law_reading : ∀ as QD ED, S_law_reading as QD ED → as.length = 2 := CFCh.len_law_reading
end CFRd

set_option Elab.async false
set_option linter.all false
set_option maxRecDepth 100000
set_option maxHeartbeats 4000000
/-! CFRw: the laws' own rows -/
namespace CFRw
open PySem PySem.Spec PyProof.Rows L2 DL CFH CFCl CFRu CFWd CFBk CFTu CFTd
def gone (cs : List Chg) (ks : List Nat) (r : Rw) : Rw := match r.hand with
  | none => r
  | some h => lookL cs ks r h
def rowOf (cs : List Chg) (ks : List Nat) (w : Str) (t : Trn) (j : Nat) : Rw := match ks.find? (isStand cs t.2.2) with
  | none => .turn t.2.2 w j
  | some k => match handOf cs k with
    | none => .non w
    | some g => .sub g w j k
def rawG (cs : List Chg) (ks : List Nat) (w : Str) (p : Int) : Nat → List Trn → Rw
  | _, [] => .non w
  | j, t :: ts => if t.1 ≤ p ∧ p < t.2.1 then rowOf cs ks w t j else rawG cs ks w p (j + 1) ts
def rawRow (cs : List Chg) (ks : List Nat) (l : Lyr) (r : Int) : Rw := rawG cs ks l.word (placeL l r) 0 l.turns
def onsRaw (cs : List Chg) (ks : List Nat) : List Rw := ks.filterMap fun k => (onHand cs k).map fun h => .on h k
def rawL (b : Bk) (t : Int) : List Rw := onsRaw b.cs (coveringL b.cs t) ++ b.ls.map fun l => rawRow b.cs (coveringL b.cs t) l (readingL b.js t)
theorem raw_row {cs : List Chg} {ks : List Nat} {w : Str} {p : Int} : ∀ {ts : List Trn} {j : Nat}, rawG cs ks w p j ts = match turnG p j ts with
    | none => .non w
    | some k => match ts[k - j]? with
      | none => .non w
      | some t => rowOf cs ks w t k
  | [], _ => rfl
  | t :: ts, j => by
    unfold rawG turnG
    by_cases h : t.1 ≤ p ∧ p < t.2.1
    · rw [if_pos h, if_pos h]; simp
    · rw [if_neg h, if_neg h, raw_row]
      cases e : turnG p (j + 1) ts with
      | none => rfl
      | some k =>
        obtain ⟨i, t', e1, e2, _⟩ := turnG_some e
        show (match ts[k - (j + 1)]? with
          | none => Rw.non w
          | some t => rowOf cs ks w t k) = match (t :: ts)[k - j]? with
          | none => Rw.non w
          | some t => rowOf cs ks w t k
        rw [show k - j = (k - (j + 1)) + 1 by omega]
        rfl
theorem gone_row {cs : List Chg} {ks : List Nat} {l : Lyr} {r : Int} : layerRowL cs ks l r = gone cs ks (rawRow cs ks l r) := by
  unfold layerRowL rawRow turnL
  rw [raw_row]
  cases turnG (placeL l r) 0 l.turns with
  | none => rfl
  | some k =>
    show (match l.turns[k]? with
      | none => Rw.non l.word
      | some t => _) = gone cs ks (match l.turns[k - 0]? with
      | none => Rw.non l.word
      | some t => rowOf cs ks l.word t k)
    rw [Nat.sub_zero]
    cases l.turns[k]? with
    | none => rfl
    | some t =>
      show _ = gone cs ks (rowOf cs ks l.word t k)
      unfold rowOf
      show (match ks.find? (isStand cs t.2.2) with
        | none => _
        | some k => _) = _
      cases ks.find? (isStand cs t.2.2) with
      | none => rfl
      | some k2 =>
        show (match handOf cs k2 with
          | none => _
          | some g => _) = gone cs ks (match handOf cs k2 with
          | none => _
          | some g => _)
        cases handOf cs k2 <;> rfl
theorem gone_ons {cs : List Chg} {ks ks' : List Nat} : ks'.filterMap (fun k => (onHand cs k).map fun h => lookL cs ks (.on h k) h) = (ks'.filterMap fun k => (onHand cs k).map fun h => Rw.on h k).map (gone cs ks) := by
  rw [List.map_filterMap]
  congr 1
  funext k
  cases onHand cs k <;> rfl
theorem told_raw {b : Bk} {t : Int} : toldL b t = (rawL b t).map (gone b.cs (coveringL b.cs t)) := by
  unfold toldL rawL onsL onsRaw
  rw [List.map_append, List.map_map, gone_ons]
  congr 1
  refine List.map_congr_left fun l _ => ?_
  exact gone_row
theorem rowOf_hand {cs : List Chg} {ks : List Nat} {w : Str} {t : Trn} {j : Nat} (hk : ∀ k ∈ ks, k < cs.length) : ∃ h, (rowOf cs ks w t j).hand = some h := by
  unfold rowOf
  cases e : ks.find? (isStand cs t.2.2) with
  | none => exact ⟨_, rfl⟩
  | some k =>
    have := hk k (List.mem_of_find?_eq_some e)
    show ∃ h, Rw.hand (match handOf cs k with
      | none => _
      | some g => _) = some h
    have e2 : handOf cs k = some cs[k].h := by unfold handOf; rw [List.getElem?_eq_getElem this]; rfl
    rw [e2]
    exact ⟨_, rfl⟩
/-- what the laws' rows are ahead of those away -/
def Rw.Flat : Rw → Prop
  | .away _ _ => False
  | _ => True
theorem rowOf_ok {cs : List Chg} {ks : List Nat} {w : Str} {t : Trn} {j : Nat} (hw : WordOk w) (ht : WordOk t.2.2) (hc : ∀ c ∈ cs, ChgOk c) : (rowOf cs ks w t j).Ok ∧ Rw.Flat (rowOf cs ks w t j) := by
  unfold rowOf
  split
  · exact ⟨⟨ht, hw⟩, trivial⟩
  · split
    · exact ⟨hw, trivial⟩
    · rename_i g hg
      have wg : WordOk g := by
        unfold handOf at hg
        obtain ⟨c, e, rfl⟩ := Option.map_eq_some_iff.mp hg
        exact ch_h (hc c (List.mem_of_getElem? e))
      exact ⟨⟨wg, hw⟩, trivial⟩
theorem rawG_ok {cs : List Chg} {ks : List Nat} {w : Str} {p : Int} (hw : WordOk w) (hc : ∀ c ∈ cs, ChgOk c) : ∀ {ts : List Trn} {j : Nat}, (∀ t ∈ ts, WordOk t.2.2) → (rawG cs ks w p j ts).Ok ∧ Rw.Flat (rawG cs ks w p j ts)
  | [], _, _ => ⟨hw, trivial⟩
  | t :: ts, j, h => by
    unfold rawG
    split
    · exact rowOf_ok hw (h t (.head _)) hc
    · exact rawG_ok hw hc fun u hu => h u (.tail _ hu)
theorem raw_ok {b : Bk} (h : BkW b) {t : Int} : ∀ r ∈ rawL b t, r.Ok ∧ Rw.Flat r := fun r hr => by
  rcases List.mem_append.mp hr with z | z
  · obtain ⟨k, _, e⟩ := List.mem_filterMap.mp z
    obtain ⟨x, e1, rfl⟩ := Option.map_eq_some_iff.mp e
    refine ⟨?_, trivial⟩
    unfold onHand at e1
    cases e2 : b.cs[k]? with
    | none => rw [e2] at e1; cases e1
    | some c =>
      rw [e2] at e1
      cases c <;> cases e1
      exact ch_h (h.cs _ (List.mem_of_getElem? e2))
  · obtain ⟨l, hl, rfl⟩ := List.mem_map.mp z
    exact rawG_ok (h.ls l hl).wd h.cs (trns_hand (h.ls l hl).ts)
theorem raw_len {b : Bk} {t : Int} : (rawL b t).length ≤ b.cs.length + b.ls.length := by
  unfold rawL onsRaw
  rw [List.length_append, List.length_map]
  have := List.length_filterMap_le (fun k => (onHand b.cs k).map fun h => Rw.on h k) (coveringL b.cs t)
  have := cov_len (cs := b.cs) (t := t)
  omega
def S_law_covers : SpD := CFTd.S_covers
def S_law_rows : SpD := fun as Q _ => ∃ (b : Bk) (t : Int), as = [.v (bkD b), .v (.int t)] ∧ BkW b ∧ Ris 0 b.js ∧ 0 ≤ t ∧ Q (.v (.tuple ((toldL b t).map rwD))) as
def S_law_stand : SpD := fun as Q _ => ∃ (b : Bk) (t : Int), as = [.v (bkD b), .v (.int t)] ∧ BkW b ∧ Ris 0 b.js ∧ 0 ≤ t ∧ Q (.v (.tuple ((standL b t).map rwD))) as
theorem rows_i {b : Bk} {t : Int} {Q E} (h : BkW b) (hr : Ris 0 b.js) (h0 : 0 ≤ t) (q : Q (.v (.tuple ((toldL b t).map rwD))) [.v (bkD b), .v (.int t)]) : S_law_rows [.v (bkD b), .v (.int t)] Q E := ⟨b, t, rfl, h, hr, h0, q⟩
theorem lstand_i {b : Bk} {t : Int} {Q E} (h : BkW b) (hr : Ris 0 b.js) (h0 : 0 ≤ t) (q : Q (.v (.tuple ((standL b t).map rwD))) [.v (bkD b), .v (.int t)]) : S_law_stand [.v (bkD b), .v (.int t)] Q E := ⟨b, t, rfl, h, hr, h0, q⟩
theorem len_law_covers : ∀ as QD ED, S_law_covers as QD ED → as.length = 2 := CFTd.len_covers
theorem len_law_rows : ∀ as QD ED, S_law_rows as QD ED → as.length = 2 := by
  rintro as QD ED ⟨_, _, rfl, _⟩
  rfl
theorem len_law_stand : ∀ as QD ED, S_law_stand as QD ED → as.length = 2 := by
  rintro as QD ED ⟨_, _, rfl, _⟩
  rfl
end CFRw

set_option Elab.async false
set_option linter.all false
set_option maxRecDepth 100000
set_option maxHeartbeats 4000000
/-! CFCg: a drawn change -/
namespace CFCg
open PySem PySem.Spec PyProof.Rows L2 DL CFH CFCl CFRu CFWd CFBk
abbrev wsD (ws : List Str) : D := .list (ws.map PyData.str)
def S_law_change : SpD := fun as Q _ => ∃ (h : Hd) (n : Nat) (ws : List Str) (low : Int), as = [hc h, .v (wsD ws), .v (.int low)] ∧ h.ok n ∧ n ≤ 700000 ∧ WsOk ws ∧ 0 < ws.length ∧ ws.length ≤ 1000 ∧ 0 ≤ low ∧
  ∀ (h' : Hd) (c : Chg), h'.ok (n + 30) → ChgOk c → c.Hands (· ∈ ws) → Q (.v (chgD c)) [hc h', .v (wsD ws), .v (.int low)]
theorem len_law_change : ∀ as QD ED, S_law_change as QD ED → as.length = 3 := by
  rintro as QD ED ⟨_, _, _, _, rfl, _⟩
  rfl
end CFCg

set_option Elab.async false
set_option linter.all false
set_option maxRecDepth 100000
set_option maxHeartbeats 4000000
/-! CFLa: what can be laid: changes, rows, layers, books; kinds of changes -/
namespace CFLa
open PySem PySem.Spec PyProof.Rows L2 DL CFH CFCl CFRu CFWd CFBk CFCg CFTu CFTd CFRw
theorem s_away : PyData.canLay0 (.str "away") = true := by decide +kernel
theorem s_for : PyData.canLay0 (.str "for") = true := by decide +kernel
theorem s_on : PyData.canLay0 (.str "on") = true := by decide +kernel
theorem s_none : PyData.canLay0 (.str "none") = true := by decide +kernel
theorem s_turn : PyData.canLay0 (.str "turn") = true := by decide +kernel
theorem s_kind {c : Chg} : PyData.canLay0 (.str c.kind) = true := by
  cases c
  · exact s_away
  · exact s_on
  · exact s_for
theorem s_rkind {r : Rw} : PyData.canLay0 (.str r.kind) = true := by
  cases r
  · exact s_none
  · exact s_turn
  · exact s_for
  · exact s_on
  · exact s_away
theorem n_on_away : ("on" : Str) ≠ "away" := by decide +kernel
theorem n_for_away : ("for" : Str) ≠ "away" := by decide +kernel
theorem n_away_for : ("away" : Str) ≠ "for" := by decide +kernel
theorem n_on_for : ("on" : Str) ≠ "for" := by decide +kernel
theorem n_away_on : ("away" : Str) ≠ "on" := by decide +kernel
theorem n_for_on : ("for" : Str) ≠ "on" := by decide +kernel
theorem kind_for {c : Chg} (n : c.kind = "for") : ∃ h o b e, c = .stand h o b e := by
  cases c with
  | stand h' o b e => exact ⟨_, _, _, _, rfl⟩
  | away h b e => exact (n_away_for n).elim
  | on h b e => exact (n_on_for n).elim
theorem kind_on {c : Chg} : c.kind = "on" ↔ ∃ h b e, c = .on h b e := by
  cases c with
  | on h' b e => exact ⟨fun _ => ⟨_, _, _, rfl⟩, fun _ => rfl⟩
  | away h b e => exact ⟨fun n => (n_away_on n).elim, fun ⟨_, _, _, z⟩ => nomatch z⟩
  | stand h o b e => exact ⟨fun n => (n_for_on n).elim, fun ⟨_, _, _, z⟩ => nomatch z⟩
theorem chg_at {cs : List Chg} {k : Nat} (h : k < cs.length) : ∃ c, cs[k]? = some c ∧ (cs.map chgD)[k]? = some (chgD c) := ⟨cs[k], List.getElem?_eq_getElem h, by rw [List.getElem?_map, List.getElem?_eq_getElem h]; rfl⟩
theorem lay_chg {c : Chg} (h : ChgOk c) : Lay 1 (chgD c) := by
  have hs := h.hs
  cases c with
  | away x b e =>
    exact Lay.tuple (k := 0) fun d hd => by
      simp only [chgL, List.mem_cons, List.not_mem_nil, or_false] at hd
      rcases hd with rfl | rfl | rfl | rfl
      · exact Lay.str (by decide +kernel)
      · exact lay_w hs
      · exact Lay.int _
      · cases e
        · exact Lay.none
        · exact Lay.int _
  | on x b e =>
    exact Lay.tuple (k := 0) fun d hd => by
      simp only [chgL, List.mem_cons, List.not_mem_nil, or_false] at hd
      rcases hd with rfl | rfl | rfl | rfl
      · exact Lay.str (by decide +kernel)
      · exact lay_w hs
      · exact Lay.int _
      · cases e
        · exact Lay.none
        · exact Lay.int _
  | stand x o b e =>
    exact Lay.tuple (k := 0) fun d hd => by
      simp only [chgL, List.mem_cons, List.not_mem_nil, or_false] at hd
      rcases hd with rfl | rfl | rfl | rfl | rfl
      · exact Lay.str (by decide +kernel)
      · exact lay_w hs.1
      · exact lay_w hs.2.1
      · exact Lay.int _
      · cases e
        · exact Lay.none
        · exact Lay.int _
theorem lay_cs {cs : List Chg} (h : ∀ c ∈ cs, ChgOk c) : Lay 2 (chgsD cs) := Lay.tuple (k := 1) fun d hd => by
    obtain ⟨x, hx, rfl⟩ := List.mem_map.mp hd
    exact lay_chg (h x hx)
theorem sh_cs {cs : List Chg} (h : ∀ c ∈ cs, ChgOk c) : SeqAt.shaped (chgsD cs) = true := (lay_cs h).shaped
theorem lay_rows {rs : List Rw} (h : ∀ r ∈ rs, r.Ok ∧ rwDep r ≤ 2) : Lay 3 (.tuple (rs.map rwD)) := Lay.tuple (k := 2) fun d hd => by
    obtain ⟨x, hx, rfl⟩ := List.mem_map.mp hd
    exact (lay_rw (h x hx).1).up (h x hx).2
theorem lay_words {ws : List Str} (h : ∀ w ∈ ws, WordOk w) : Lay 1 (wsD ws) := Lay.list (k := 0) fun d hd => by
    obtain ⟨x, hx, rfl⟩ := List.mem_map.mp hd
    exact lay_w (h x hx)
theorem lay_nil : Lay 1 (.list []) := Lay.list (k := 0) fun d hd => by cases hd
theorem lay_tnil : Lay 1 (.tuple []) := Lay.tuple (k := 0) fun d hd => by cases hd
theorem lay_ps {ps : List Pr} : Lay 2 (psD ps) := Lay.tuple (k := 1) fun d hd => by
    obtain ⟨p, _, rfl⟩ := List.mem_map.mp hd
    exact Lay.tuple (k := 0) fun d hd => by
      simp only [List.mem_cons, List.not_mem_nil, or_false] at hd
      rcases hd with rfl | rfl <;> exact Lay.int _
theorem lay_trn {t : Trn} (h : WordOk t.2.2) : Lay 1 (trnD t) := Lay.tuple (k := 0) fun d hd => by
    simp only [List.mem_cons, List.not_mem_nil, or_false] at hd
    rcases hd with rfl | rfl | rfl
    · exact Lay.int _
    · exact Lay.int _
    · exact lay_w h
theorem lay_trns {ts : List Trn} (h : ∀ t ∈ ts, WordOk t.2.2) : Lay 2 (trnsD ts) := Lay.tuple (k := 1) fun d hd => by
    obtain ⟨t, ht, rfl⟩ := List.mem_map.mp hd
    exact lay_trn (h t ht)
theorem lay_lyr {l : Lyr} (h : WordOk l.word) (ht : ∀ t ∈ l.turns, WordOk t.2.2) : Lay 3 (lyrD l) := Lay.tuple (k := 2) fun d hd => by
    simp only [List.mem_cons, List.not_mem_nil, or_false] at hd
    rcases hd with rfl | rfl | rfl | rfl
    · exact lay_w h
    · exact Lay.int _
    · exact Lay.int _
    · exact lay_trns ht
theorem lay_lyrs {ls : List Lyr} (h : ∀ l ∈ ls, LyrOk l) : Lay 4 (lyrsD ls) := Lay.tuple (k := 3) fun d hd => by
    obtain ⟨l, hl, rfl⟩ := List.mem_map.mp hd
    exact lay_lyr (h l hl).wd (trns_hand (h l hl).ts)
theorem lay_bk {b : Bk} (hl : ∀ l ∈ b.ls, LyrOk l) (hc : ∀ c ∈ b.cs, ChgOk c) : Lay 5 (bkD b) := Lay.tuple (k := 4) fun d hd => by
    simp only [List.mem_cons, List.not_mem_nil, or_false] at hd
    rcases hd with rfl | rfl | rfl
    · exact lay_ps.up (by decide)
    · exact lay_lyrs hl
    · exact (lay_cs hc).up (by decide)
theorem lf_wsT {ws : List Str} : lfree (.tuple (ws.map PyData.str)) = true := lfree_tup fun d hd => by
    obtain ⟨x, _, rfl⟩ := List.mem_map.mp hd
    rfl
theorem lf_rows {rs : List Rw} : lfree (.tuple (rs.map rwD)) = true := lfree_tup fun d hd => by
    obtain ⟨x, _, rfl⟩ := List.mem_map.mp hd
    exact lf_rw
theorem lf_bk {b : Bk} : lfree (bkD b) = true := lfree_tup fun d hd => by
    simp only [List.mem_cons, List.not_mem_nil, or_false] at hd
    rcases hd with rfl | rfl | rfl
    · exact CFCh.lf_js
    · exact lf_lyrs
    · exact lf_chgs
end CFLa

set_option Elab.async false
set_option linter.all false
set_option maxRecDepth 100000
set_option maxHeartbeats 4000000
/-! CFPl: the plain layers of a moment's span -/
namespace CFPl
open PySem PySem.Spec PyProof.Rows L2 DL CFH CFCl CFRu CFWd CFBk CFCg CFTu CFTd CFLa
def stepG (t : Int) (s : Int) (r : Rn) : Int := if r.1 ≤ t then r.2.2 else s
def stepL (js : List Pr) (t : Int) : Int := (runsL js).foldl (stepG t) 1
def wdL (w : Str) (hs : List Str) : Lyr := ⟨w, 0, 1, hs.map fun h => (0, 1440, h)⟩
def subH (cs : List Chg) (ks : List Nat) (h : Str) : Str := match ks.find? (isStand cs h) with
  | none => h
  | some k => (handOf cs k).getD h
def putT (cs : List Chg) (ks : List Nat) (t : Trn) : Option Trn := match ks.find? (isAway cs (subH cs ks t.2.2)) with
  | none => some (t.1, t.2.1, subH cs ks t.2.2)
  | some _ => none
def putL (cs : List Chg) (ks : List Nat) (ts : List Trn) : List Trn := ts.filterMap (putT cs ks)
def onOf : Rw → Option Str
  | .on h _ => some h
  | _ => none
def herOf : Rw → List Str
  | .turn h _ _ => [h]
  | .sub h _ _ _ => [h]
  | _ => []
def onsP (b : Bk) (t : Int) : List Lyr := (toldL b t).filterMap fun r => (onOf r).map fun h => wdL "on" [h]
def plainL (b : Bk) (t : Int) : List Lyr := onsP b t ++ if stepL b.js t = 0 then b.ls.map fun l => wdL l.word (herOf (layerRowL b.cs (coveringL b.cs t) l (readingL b.js t)))
  else b.ls.map fun l => ⟨l.word, (l.start - (readingL b.js t - t)) % (1440 * l.days), l.days, putL b.cs (coveringL b.cs t) l.turns⟩
theorem sub_ok {cs : List Chg} {ks : List Nat} {h : Str} (hc : ∀ c ∈ cs, ChgOk c) (hw : WordOk h) : WordOk (subH cs ks h) := by
  unfold subH
  split
  · exact hw
  · rename_i k _
    unfold handOf
    cases e : cs[k]? with
    | none => exact hw
    | some c => exact ch_h (hc c (List.mem_of_getElem? e))
theorem on_ok {r : Rw} {h : Str} (o : r.Ok) (e : onOf r = some h) : WordOk h := by
  cases r <;> cases e
  exact o
theorem plain_len {b : Bk} {t : Int} : (plainL b t).length ≤ b.cs.length + 2 * b.ls.length := by
  unfold plainL onsP
  have a := List.length_filterMap_le (fun r => (onOf r).map fun h => wdL "on" [h]) (toldL b t)
  have c := told_len (b := b) (t := t)
  rw [List.length_append]
  split <;> (rw [List.length_map]; omega)
def S_step_at : SpD := fun as Q _ => ∃ (js : List Pr) (t : Int), as = [.v (psD js), .v (.int t)] ∧ js.length ≤ 100 ∧ Q (.v (.int (stepL js t))) as
def S_whole_day : SpD := fun as Q _ => ∃ (w : Str) (hs : List Str), as = [.v (.str w), .v (.list (hs.map PyData.str))] ∧ hs.length ≤ 1000 ∧ Q (.v (lyrD (wdL w hs))) as
def S_put_in : SpD := fun as Q _ => ∃ (J L : D) (cs : List Chg) (ks : List Nat) (ts : List Trn), as = [.v (.tuple [J, L, chgsD cs]), .v (.list (ksD ks)), .v (trnsD ts)] ∧ (∀ c ∈ cs, ChgOk c) ∧ (∀ k ∈ ks, k < cs.length) ∧ (∀ t ∈ ts, WordOk t.2.2) ∧ ts.length ≤ 1000 ∧ Q (.v (trnsD (putL cs ks ts))) as
def S_plain : SpD := fun as Q _ => ∃ (b : Bk) (t : Int), as = [.v (bkD b), .v (.int t)] ∧ BkW b ∧ Q (.v (lyrsD (plainL b t))) as
theorem plain_i {b : Bk} {t : Int} {Q E} (h : BkW b) (q : Q (.v (lyrsD (plainL b t))) [.v (bkD b), .v (.int t)]) : S_plain [.v (bkD b), .v (.int t)] Q E := ⟨b, t, rfl, h, q⟩
theorem len_step_at : ∀ as QD ED, S_step_at as QD ED → as.length = 2 := by
  rintro as QD ED ⟨_, _, rfl, _⟩
  rfl
theorem len_whole_day : ∀ as QD ED, S_whole_day as QD ED → as.length = 2 := by
  rintro as QD ED ⟨_, _, rfl, _⟩
  rfl
theorem len_put_in : ∀ as QD ED, S_put_in as QD ED → as.length = 3 := by
  rintro as QD ED ⟨_, _, _, _, _, rfl, _⟩
  rfl
theorem len_plain : ∀ as QD ED, S_plain as QD ED → as.length = 2 := by
  rintro as QD ED ⟨_, _, rfl, _⟩
  rfl
end CFPl

set_option Elab.async false
set_option linter.all false
set_option maxRecDepth 100000
set_option maxHeartbeats 4000000
/-! CFEd: edges -/
namespace CFEd
open PySem PySem.Spec PyProof.Rows L2 DL CFH CFCl CFRu CFWd CFBk
def ChE (cs : List Chg) (k : Int) : Prop := ∃ c ∈ cs, k = c.b ∨ c.e = some k
/-- just these edges, rising -/
structure EsOk (js : List Pr) (cs : List Chg) (es : List Int) : Prop where
  up : es.Pairwise (· < ·)
  mem : ∀ k, k ∈ es ↔ k ∈ (runsL js).map (·.1) ∨ ChE cs k
theorem up_uniq : ∀ {xs ys : List Int}, xs.Pairwise (· < ·) → ys.Pairwise (· < ·) → (∀ k, k ∈ xs ↔ k ∈ ys) → xs = ys
  | [], [], _, _, _ => rfl
  | [], y :: ys, _, _, h => by have := (h y).mpr (.head _); cases this
  | x :: xs, [], _, _, h => by have := (h x).mp (.head _); cases this
  | x :: xs, y :: ys, h1, h2, h => by
    obtain ⟨a1, a2⟩ := List.pairwise_cons.mp h1
    obtain ⟨b1, b2⟩ := List.pairwise_cons.mp h2
    have e : x = y := by
      rcases List.mem_cons.mp ((h x).mp (.head _)) with z | z
      · exact z
      · rcases List.mem_cons.mp ((h y).mpr (.head _)) with z2 | z2
        · exact z2.symm
        · have := b1 x z; have := a1 y z2; omega
    subst e
    rw [up_uniq a2 b2 fun k => ⟨fun hk => ?_, fun hk => ?_⟩]
    · rcases List.mem_cons.mp ((h k).mp (.tail _ hk)) with z | z
      · have := a1 k hk; omega
      · exact z
    · rcases List.mem_cons.mp ((h k).mpr (.tail _ hk)) with z | z
      · have := b1 k hk; omega
      · exact z
theorem EsOk.uniq {js : List Pr} {cs : List Chg} {es es' : List Int} (h : EsOk js cs es) (h' : EsOk js cs es') : es = es' := up_uniq h.up h'.up fun k => (h.mem k).trans (h'.mem k).symm
theorem rnG_len : ∀ (js : List Pr) (over : Int) (last : Rn), (rnG over last js).length ≤ 2 * js.length
  | [], _, _ => Nat.le_refl _
  | p :: js, over, last => by
    have a := behL_len (last := last) (a := p.1) (over := over + p.2) (e := hdO js)
    have b := rnG_len js (over + p.2) (lastOf last (behL last p.1 (over + p.2) (hdO js)))
    show (behL last p.1 (over + p.2) (hdO js) ++ rnG (over + p.2) (lastOf last (behL last p.1 (over + p.2) (hdO js))) js).length ≤ _
    rw [List.length_append, List.length_cons]
    omega
theorem runs_len (js : List Pr) : (runsL js).length ≤ 2 * js.length + 1 := by
  have := rnG_len js 0 (0, 0, 1)
  unfold runsL
  rw [List.length_cons]
  omega
def S_edges : SpD := fun as Q _ => ∃ (js : List Pr) (l : D) (cs : List Chg), as = [.v (.tuple [psD js, l, chgsD cs])] ∧ js.length ≤ 100 ∧ cs.length ≤ 100 ∧ ∀ es : List Int, EsOk js cs es → es.length ≤ 600 → Q (.v (.tuple (es.map PyData.int))) as
theorem len_edges : ∀ as QD ED, S_edges as QD ED → as.length = 1 := by
  rintro as QD ED ⟨_, _, _, rfl, _⟩
  rfl
end CFEd

set_option Elab.async false
set_option linter.all false
set_option maxRecDepth 100000
set_option maxHeartbeats 4000000
/-! CFLe: the laws' own edges; where runs begin -/
namespace CFLe
open PySem PySem.Spec PyProof.Rows L2 DL CFH CFCl CFRu CFWd CFBk CFEd
/-- where what was put back is caught up, for each jump -/
def capL (R : Int → Int) : Int → List Pr → List Int
  | _, [] => []
  | over, p :: js => (if R (p.1 - 1) + 1 - (over + p.2) > p.1 then R (p.1 - 1) + 1 - (over + p.2) else p.1) :: capL R (over + p.2) js
theorem beg_in {R : Int → Int} {a o : Int} {e : Option Int} (h : ∀ t, a ≤ t → Below t e → R t = if t + o > R (t - 1) then t + o else R (t - 1)) {t : Int} (ha : 0 < a) (ht : a < t) (b : Below t e) (hb : Beg R t) : t = R (a - 1) + 1 - o := by
  have r0 := region' h t (by omega) b
  have r1 := region' h (t - 1) (by omega) (Below.mono (by omega) b)
  rcases hb with z | z | z
  · omega
  · have r2 : t - 1 = a ∨ (a < t - 1 ∧ R (t - 1 - 1) = if t - 1 - 1 + o > R (a - 1) then t - 1 - 1 + o else R (a - 1)) := by
      by_cases q : t - 1 = a
      · exact .inl q
      · exact .inr ⟨by omega, region' h (t - 1 - 1) (by omega) (Below.mono (by omega) b)⟩
    unfold CFRu.St at z
    by_cases q1 : t + o > R (a - 1)
    · by_cases q2 : t - 1 + o > R (a - 1)
      · exfalso
        rw [if_pos q1] at r0
        rw [if_pos q2] at r1
        refine z ⟨fun w => by omega, fun w => ?_⟩
        rcases r2 with r2 | ⟨r2, r3⟩
        · have := w.2
          rw [r1, show t - 1 - 1 = a - 1 by omega] at this
          omega
        · have := w.2
          rw [r1, r3] at this
          split at this <;> omega
      · omega
    · exfalso
      rw [if_neg q1] at r0
      rw [if_neg (by omega)] at r1
      refine z ⟨fun w => ⟨by omega, ?_⟩, fun w => ⟨by omega, by omega⟩⟩
      rcases r2 with r2 | ⟨r2, r3⟩
      · rw [r1, show t - 1 - 1 = a - 1 by omega]
      · rw [r1, r3, if_neg (by omega)]
  · rw [r0, r1] at z
    split at z <;> split at z <;> omega
theorem beg_where {R : Int → Int} : ∀ (js : List Pr) (over : Int) (lo : Int), 0 ≤ lo → Ris lo js → Sh R over js → ∀ t, (∀ p, js.head? = some p → p.1 ≤ t) → js ≠ [] → Beg R t → t ∈ js.map (·.1) ∨ t ∈ capL R over js
  | [], _, _, _, _, _, t, _, hne, _ => absurd rfl hne
  | p :: js, over, lo, hlo, hr, hh, t, h1, _, hb => by
    have hp : p.1 ≤ t := h1 p rfl
    have p0 := hr.1
    cases js with
    | nil =>
      by_cases z : t = p.1
      · exact .inl (by rw [z]; exact .head _)
      · have := beg_in hh.1 (by omega) (show p.1 < t by omega) trivial hb
        refine .inr ?_
        unfold capL
        rw [if_pos (by omega), this]
        exact .head _
    | cons p' js =>
      by_cases z2 : p'.1 ≤ t
      · rcases beg_where (p' :: js) (over + p.2) p.1 (by omega) hr.2 hh.2 t (fun q hq => by cases hq; exact z2) (by simp) hb with w | w
        · exact .inl (.tail _ w)
        · refine .inr ?_
          unfold capL
          exact .tail _ w
      · by_cases z : t = p.1
        · exact .inl (by rw [z]; exact .head _)
        · have := beg_in hh.1 (by omega) (show p.1 < t by omega) (show t < p'.1 by omega) hb
          refine .inr ?_
          unfold capL
          rw [if_pos (by omega), this]
          exact .head _
theorem no_beg {R : Int → Int} {r : Rn} {e : Option Int} {t : Int} (h : Seg R r e) (h1 : r.1 < t) (h2 : Below t e) (hb : Beg R t) : False := by
  have a := h.at_ t (by omega) h2
  have b := h.at_ (t - 1) (by omega) (Below.mono (by omega) h2)
  have g := h.ge
  rcases hb with z | z | z
  · omega
  · exact z (a.2.trans b.2.symm)
  · have e1 := a.1
    have e2 := b.1
    rcases h.st with s | s <;> rw [s] at e1 e2 <;> omega
theorem chain_ge {R : Int → Int} : ∀ (l : List Rn) (r : Rn), Chain R r l → ∀ t ∈ (r :: l).map (·.1), r.1 ≤ t
  | [], r, _, t, z => by
    rcases List.mem_cons.mp z with z | z
    · rw [z]; exact Int.le_refl _
    · cases z
  | r' :: l, r, h, t, z => by
    rcases List.mem_cons.mp z with z | z
    · rw [z]; exact Int.le_refl _
    · have := chain_ge l r' h.2 t z
      have : r.1 < r'.1 := h.1.lt
      omega
/-- runs begin just where the reading leaps, or begins to stand or to go -/
theorem chain_begs {R : Int → Int} : ∀ (l : List Rn) (r : Rn), Chain R r l → ∀ t, r.1 ≤ t → (Beg R t ↔ t ∈ (r :: l).map (·.1))
  | [], r, h, t, ht => by
    have h : Seg R r none := h
    refine ⟨fun hb => ?_, fun z => ?_⟩
    · by_cases z : t = r.1
      · rw [z]; exact .head _
      · exact (no_beg h (by omega) trivial hb).elim
    · rcases List.mem_cons.mp z with z | z
      · rw [z]; exact h.bg
      · cases z
  | r' :: l, r, h, t, ht => by
    obtain ⟨h1, h2⟩ := h
    have lt : r.1 < r'.1 := h1.lt
    by_cases z : r'.1 ≤ t
    · rw [chain_begs l r' h2 t z]
      refine ⟨fun w => .tail _ w, fun w => ?_⟩
      rcases List.mem_cons.mp w with w | w
      · have w : t = r.1 := w
        omega
      · exact w
    · refine ⟨fun hb => ?_, fun w => ?_⟩
      · by_cases z2 : t = r.1
        · rw [z2]; exact .head _
        · exact (no_beg h1 (by omega) (show t < r'.1 by omega) hb).elim
      · rcases List.mem_cons.mp w with w | w
        · have w : t = r.1 := w
          rw [w]; exact h1.bg
        · have := chain_ge l r' h2 t w
          omega
theorem runs_begs {js : List Pr} (h : Ris 0 js) {t : Int} (h0 : 0 ≤ t) : Beg (readingL js) t ↔ t ∈ (runsL js).map (·.1) := chain_begs _ _ (runs_ok h) t h0
theorem runs_ge {js : List Pr} (h : Ris 0 js) {t : Int} (ht : t ∈ (runsL js).map (·.1)) : 0 ≤ t := chain_ge _ _ (runs_ok h) t ht
theorem rn_ge {p : Pr} {js : List Pr} (h : Ris 0 (p :: js)) {r : Rn} (hr : r ∈ rnG 0 (0, 0, 1) (p :: js)) : p.1 ≤ r.1 := by
  have c := runs_ok h
  cases e : rnG 0 (0, 0, 1) (p :: js) with
  | nil => rw [e] at hr; cases hr
  | cons r' l =>
    rw [e] at c hr
    have g : r'.1 ≤ r.1 := chain_ge l r' c.2 r.1 (List.mem_map.mpr ⟨r, hr, rfl⟩)
    have lt : (0 : Int) < r'.1 := c.1.lt
    by_cases z : p.1 ≤ r'.1
    · omega
    · exfalso
      have b : Beg (readingL (p :: js)) r'.1 := (runs_begs h (by omega)).mpr (by unfold runsL; rw [e]; exact .tail _ (.head _))
      have rt : ∀ t, 0 ≤ t → t < p.1 → readingL (p :: js) t = t := fun t t0 t1 => by
        unfold readingL
        have : ∀ (js : List Pr) (lo best : Int), Ris lo js → t ≤ lo → best ≤ t → rdL t best 0 js = t := by
          intro js
          induction js with
          | nil => intro lo best _ _ hb; unfold rdL; split <;> omega
          | cons q js ih =>
            intro lo best hr hl hb
            unfold rdL
            rw [if_neg (by have := hr.1; omega)]
            exact ih q.1 best hr.2 (by have := hr.1; omega) hb
        unfold rdL
        rw [if_neg (by omega)]
        exact this js p.1 0 h.2 (by omega) t0
      rcases b with z2 | z2 | z2
      · omega
      · refine z2 ⟨fun w => ?_, fun w => ?_⟩
        · have := w.2; rw [rt _ (by omega) (by omega), rt _ (by omega) (by omega)] at this; omega
        · have := w.2; have := w.1; rw [rt _ (by omega) (by omega), rt _ (by omega) (by omega)] at *; omega
      · rw [rt _ (by omega) (by omega), rt _ (by omega) (by omega)] at z2; omega
/-- among these alone -/
theorem begs_some {js : List Pr} (h : Ris 0 js) {t : Int} (h0 : 0 ≤ t) (hb : Beg (readingL js) t) : t = 0 ∨ t ∈ js.map (·.1) ∨ t ∈ capL (readingL js) 0 js := by
  cases js with
  | nil =>
    have z : t ∈ (runsL []).map (·.1) := (runs_begs h h0).mp hb
    rcases List.mem_cons.mp z with z | z
    · exact .inl z
    · cases z
  | cons p js =>
    by_cases z : p.1 ≤ t
    · exact .inr (beg_where (p :: js) 0 0 (Int.le_refl _) h (sh_reading h (p :: js) [] rfl) t (fun q hq => by cases hq; exact z) (by simp) hb)
    · refine .inl ?_
      have m := (runs_begs h h0).mp hb
      rcases List.mem_cons.mp m with m | m
      · exact m
      · exfalso
        obtain ⟨r, hr, e⟩ := List.mem_map.mp m
        have : p.1 ≤ r.1 := rn_ge h hr
        omega
theorem cap_pos {R : Int → Int} : ∀ {js : List Pr} {over lo : Int}, Ris lo js → ∀ t ∈ capL R over js, lo < t
  | p :: js, over, lo, h, t, ht => by
    have := h.1
    unfold capL at ht
    rcases List.mem_cons.mp ht with z | z
    · rw [z]; split <;> omega
    · have := cap_pos h.2 t z; omega
theorem cap_len {R : Int → Int} : ∀ {js : List Pr} {over : Int}, (capL R over js).length = js.length
  | [], _ => rfl
  | p :: js, over => by unfold capL; rw [List.length_cons, cap_len, List.length_cons]
instance {R : Int → Int} {t : Int} : Decidable (CFRu.St R t) := inferInstanceAs (Decidable (0 < t ∧ R t = R (t - 1)))
instance {R : Int → Int} {t : Int} : Decidable (Beg R t) := inferInstanceAs (Decidable (t = 0 ∨ ¬ (CFRu.St R t ↔ CFRu.St R (t - 1)) ∨ R t > R (t - 1) + 1))
def S_law_stands : SpD := fun as Q _ => ∃ (js : List Pr) (t : Int), as = [.v (psD js), .v (.int t)] ∧ Ris 0 js ∧ js.length ≤ 100 ∧ 0 ≤ t ∧ Q (.v (.bool (decide (CFRu.St (readingL js) t)))) as
def S_law_begins : SpD := fun as Q _ => ∃ (js : List Pr), as = [.v (psD js)] ∧ Ris 0 js ∧ js.length ≤ 100 ∧ ∀ ns : List Int, ns.Pairwise (· < ·) → (∀ k, k ∈ ns ↔ k ∈ (runsL js).map (·.1)) → ns.length ≤ 300 → Q (.own 0 (.lst (ns.map PyData.int))) as
def S_law_edges : SpD := fun as Q _ => ∃ (js : List Pr) (l : D) (cs : List Chg), as = [.v (.tuple [psD js, l, chgsD cs])] ∧ Ris 0 js ∧ js.length ≤ 100 ∧ cs.length ≤ 100 ∧ ∀ es : List Int, EsOk js cs es → es.length ≤ 600 → Q (.own 0 (.lst (es.map PyData.int))) as
theorem len_law_stands : ∀ as QD ED, S_law_stands as QD ED → as.length = 2 := by
  rintro as QD ED ⟨_, _, rfl, _⟩
  rfl
theorem len_law_begins : ∀ as QD ED, S_law_begins as QD ED → as.length = 1 := by
  rintro as QD ED ⟨_, rfl, _⟩
  rfl
theorem len_law_edges : ∀ as QD ED, S_law_edges as QD ED → as.length = 1 := by
  rintro as QD ED ⟨_, _, _, rfl, _⟩
  rfl
end CFLe

set_option Elab.async false
set_option linter.all false
set_option maxRecDepth 100000
set_option maxHeartbeats 4000000
/-! CFSp: plain spans: what stays alike from edge to edge -/
namespace CFSp
open PySem PySem.Spec PyProof.Rows L2 DL CFH CFCl CFRu CFWd CFBk CFCg CFTu CFTd CFLa CFPl CFEd CFLe
theorem fold_far {t : Int} : ∀ {l : List Rn} {x : Int}, (∀ r ∈ l, t < r.1) → l.foldl (stepG t) x = x
  | [], _, _ => rfl
  | r :: l, x, h => by
    rw [List.foldl_cons]
    unfold stepG
    rw [if_neg (by have := h r (.head _); omega)]
    exact fold_far fun r' hr => h r' (.tail _ hr)
theorem chain_step {R : Int → Int} {t : Int} : ∀ (l : List Rn) (r : Rn) (x : Int), Chain R r l → r.1 ≤ t →
    ∃ (s : Rn) (e : Option Int), s.1 ≤ t ∧ Below t e ∧ Seg R s e ∧ (r :: l).foldl (stepG t) x = s.2.2 ∧ ∀ m, t ≤ m → (∀ u ∈ (r :: l).map (·.1), t < u → m < u) → Below m e
  | [], r, x, h, ht => ⟨r, none, ht, trivial, h, by
      show stepG t x r = _
      unfold stepG
      rw [if_pos ht], fun _ _ _ => trivial⟩
  | r' :: l, r, x, h, ht => by
    obtain ⟨h1, h2⟩ := h
    by_cases z : r'.1 ≤ t
    · obtain ⟨s, e, a1, a2, a3, a4, a5⟩ := chain_step l r' (stepG t x r) h2 z
      exact ⟨s, e, a1, a2, a3, a4, fun m hm hu => a5 m hm fun u hu' => hu u (.tail _ hu')⟩
    · refine ⟨r, some r'.1, ht, by show t < r'.1; omega, h1, ?_, fun m hm hu => hu r'.1 (.tail _ (.head _)) (by omega)⟩
      rw [List.foldl_cons]
      rw [fold_far fun q hq => by
        have := chain_ge l r' h2 q.1 (List.mem_map_of_mem hq)
        omega]
      unfold stepG
      rw [if_pos ht]
theorem step_seg {js : List Pr} (h : Ris 0 js) {t : Int} (h0 : 0 ≤ t) : ∃ (s : Rn) (e : Option Int), s.1 ≤ t ∧ Below t e ∧ Seg (readingL js) s e ∧ stepL js t = s.2.2 ∧ ∀ m, t ≤ m → (∀ u ∈ (runsL js).map (·.1), t < u → m < u) → Below m e :=
  chain_step _ _ 1 (runs_ok h) h0
theorem step_01 {js : List Pr} (h : Ris 0 js) {t : Int} (h0 : 0 ≤ t) : stepL js t = 0 ∨ stepL js t = 1 := by
  obtain ⟨s, e, _, _, g, a, _⟩ := step_seg h h0
  rw [a]; exact g.st
theorem step_st {js : List Pr} (h : Ris 0 js) {t : Int} (h0 : 0 ≤ t) : stepL js t = 0 ↔ CFRu.St (readingL js) t := by
  obtain ⟨s, e, a1, a2, g, a, _⟩ := step_seg h h0
  rw [a]
  exact (g.at_ t a1 a2).2.symm
/-- no run begins behind t, up to m -/
def NoRun (js : List Pr) (t m : Int) : Prop := t ≤ m ∧ ∀ u ∈ (runsL js).map (·.1), t < u → m < u
theorem run_reading {js : List Pr} (h : Ris 0 js) {t m : Int} (h0 : 0 ≤ t) (n : NoRun js t m) : readingL js m = readingL js t + stepL js t * (m - t) ∧ stepL js m = stepL js t := by
  obtain ⟨s, e, a1, a2, g, a, b⟩ := step_seg h h0
  have bm := b m n.1 n.2
  have am := g.at_ m (by have := n.1; omega) bm
  have at_ := g.at_ t a1 a2
  have t1 := step_01 h h0
  have m1 := step_01 (t := m) h (by have := n.1; omega)
  have ms := step_st (t := m) h (by have := n.1; omega)
  have e1 : stepL js m = stepL js t := by
    rw [a]
    rcases g.st with z | z
    · rw [z]; exact ms.mpr (am.2.mpr z)
    · rcases m1 with y | y
      · have := am.2.mp (ms.mp y); omega
      · rw [z, y]
  refine ⟨?_, e1⟩
  rw [am.1, at_.1, a]
  rcases g.st with z | z <;> rw [z] <;> omega
/-- no edge of a book behind t, up to m -/
def NoEdge (b : Bk) (t m : Int) : Prop := NoRun b.js t m ∧ ∀ u, ChE b.cs u → t < u → m < u
theorem NoEdge.covers {b : Bk} {t m : Int} (n : NoEdge b t m) {c : Chg} (hc : c ∈ b.cs) : coversL c m = coversL c t := by
  have l := n.1.1
  have nb := n.2 c.b ⟨c, hc, .inl rfl⟩
  unfold coversL
  have e1 : decide (c.b ≤ m) = decide (c.b ≤ t) := by
    by_cases z : c.b ≤ t
    · rw [decide_eq_true z, decide_eq_true (by omega)]
    · rw [decide_eq_false z, decide_eq_false (by have := nb (by omega); omega)]
  rw [e1]
  congr 1
  cases e : c.e with
  | none => rfl
  | some x =>
    have ne := n.2 x ⟨c, hc, .inr e⟩
    show decide (m < x) = decide (t < x)
    by_cases z : t < x
    · rw [decide_eq_true z, decide_eq_true (ne z)]
    · rw [decide_eq_false z, decide_eq_false (by omega)]
theorem NoEdge.covering {b : Bk} {t m : Int} (n : NoEdge b t m) : coveringL b.cs m = coveringL b.cs t := by
  unfold coveringL
  refine List.filter_congr fun k hk => ?_
  have hk : k < b.cs.length := by simpa using hk
  unfold covAt
  rw [List.getElem?_eq_getElem hk]
  exact n.covers (List.getElem_mem _)
theorem onOf_layer {cs : List Chg} {ks : List Nat} {l : Lyr} {r : Int} : onOf (layerRowL cs ks l r) = none := by
  unfold layerRowL
  split
  · rfl
  · split
    · rfl
    · split
      · unfold lookL; split <;> rfl
      · split
        · rfl
        · unfold lookL; split <;> rfl
theorem onsP_eq {b : Bk} {t : Int} : onsP b t = (onsL b.cs (coveringL b.cs t)).filterMap fun r => (onOf r).map fun h => wdL "on" [h] := by
  unfold onsP toldL
  rw [List.filterMap_append, List.filterMap_map]
  have : b.ls.filterMap ((fun r => (onOf r).map fun h => wdL "on" [h]) ∘ fun l => layerRowL b.cs (coveringL b.cs t) l (readingL b.js t)) = [] := by
    rw [List.filterMap_eq_nil_iff]
    intro l _
    show (onOf (layerRowL _ _ _ _)).map _ = none
    rw [onOf_layer]
    rfl
  rw [this, List.append_nil]
/-- the plain layers stay the same from edge to edge -/
theorem plain_const {b : Bk} (h : Ris 0 b.js) {t m : Int} (h0 : 0 ≤ t) (n : NoEdge b t m) : plainL b m = plainL b t := by
  obtain ⟨e1, e2⟩ := run_reading h h0 n.1
  have e3 := n.covering
  unfold plainL
  rw [onsP_eq, onsP_eq, e3, e2]
  congr 1
  rcases step_01 h h0 with z | z
  · rw [if_pos z, if_pos z]
    rw [z] at e1
    rw [show readingL b.js m = readingL b.js t by omega]
  · rw [if_neg (by omega), if_neg (by omega)]
    rw [z] at e1
    rw [show readingL b.js m - m = readingL b.js t - t by omega]
def inP (p : Int) (t : Trn) : Bool := decide (t.1 ≤ p ∧ p < t.2.1)
theorem inP_yes {p : Int} {t : Trn} (h : t.1 ≤ p ∧ p < t.2.1) : inP p t = true := decide_eq_true h
theorem inP_no {p : Int} {t : Trn} (h : ¬ (t.1 ≤ p ∧ p < t.2.1)) : ¬ inP p t = true := by unfold inP; rw [decide_eq_false h]; exact Bool.false_ne_true
/-- hands of layers at a number, in order -/
def handsAt (ls : List Lyr) (m : Int) : List Str := ls.flatMap fun l => (l.turns.filter (inP (placeL l m))).map (·.2.2)
theorem handsAt_app {xs ys : List Lyr} {m : Int} : handsAt (xs ++ ys) m = handsAt xs m ++ handsAt ys m := by unfold handsAt; rw [List.flatMap_append]
theorem handsAt_wd {w : Str} {hs : List Str} {m : Int} : handsAt [wdL w hs] m = hs := by
  have p0 : 0 ≤ placeL (wdL w hs) m := place_ge (l := wdL w hs) (Int.le_refl 1) m
  have p1 : placeL (wdL w hs) m < 1440 := place_lt (l := wdL w hs) (Int.le_refl 1) m
  unfold handsAt
  rw [List.flatMap_cons, List.flatMap_nil, List.append_nil]
  rw [List.filter_eq_self.mpr]
  · show (hs.map fun h => ((0 : Int), (1440 : Int), h)).map (·.2.2) = hs
    rw [List.map_map]
    exact List.map_id _
  · intro t ht
    obtain ⟨h, _, rfl⟩ := List.mem_map.mp ht
    exact decide_eq_true ⟨p0, p1⟩
theorem handsAt_fm {α : Type} {f : α → Option Lyr} {g : α → Option Str} {m : Int} : ∀ {l : List α}, (∀ x ∈ l, handsAt ((f x).toList) m = (g x).toList) → handsAt (l.filterMap f) m = l.filterMap g
  | [], _ => rfl
  | x :: l, h => by
    have hx := h x (.head _)
    have ih := handsAt_fm (f := f) (g := g) (m := m) (l := l) fun y hy => h y (.tail _ hy)
    cases e1 : f x with
    | none =>
      rw [e1] at hx
      cases e2 : g x with
      | none => rw [List.filterMap_cons_none e1, List.filterMap_cons_none e2]; exact ih
      | some s => rw [e2] at hx; cases hx
    | some y =>
      rw [e1] at hx
      rw [List.filterMap_cons_some e1, show y :: l.filterMap f = [y] ++ l.filterMap f from rfl, handsAt_app, ih]
      have hx : handsAt [y] m = (g x).toList := hx
      rw [hx]
      cases e2 : g x with
      | none => rw [List.filterMap_cons_none e2]; rfl
      | some s => rw [List.filterMap_cons_some e2]; rfl
/-- the one turn with a place -/
theorem turns_one {M p : Int} : ∀ {lo : Int} {ts : List Trn} {j : Nat}, TrnsOk M lo ts → ts.filter (inP p) = match turnG p j ts with
    | none => []
    | some k => (ts[k - j]?).toList
  | _, [], _, _ => rfl
  | lo, t :: ts, j, h => by
    unfold turnG
    by_cases z : t.1 ≤ p ∧ p < t.2.1
    · rw [if_pos z, List.filter_cons_of_pos (inP_yes z)]
      have : ts.filter (inP p) = [] := by
        rw [List.filter_eq_nil_iff]
        intro u hu
        have := lo_le h.2.2.2.2 u hu
        exact fun y => by have := (of_decide_eq_true y).1; omega
      rw [this]
      simp
    · rw [if_neg z, List.filter_cons_of_neg (inP_no z), turns_one (j := j + 1) h.2.2.2.2]
      cases e : turnG p (j + 1) ts with
      | none => rfl
      | some k =>
        obtain ⟨i, t', e1, e2, _⟩ := turnG_some e
        show (ts[k - (j + 1)]?).toList = ((t :: ts)[k - j]?).toList
        rw [show k - j = (k - (j + 1)) + 1 by omega]
        rfl
where
  lo_le {M : Int} : ∀ {lo : Int} {ts : List Trn}, TrnsOk M lo ts → ∀ t ∈ ts, lo ≤ t.1
    | lo, u :: ts, h, t, ht => by
      rcases List.mem_cons.mp ht with z | z
      · rw [z]; exact h.1
      · have := lo_le h.2.2.2.2 t z
        have := h.1
        have := h.2.1
        omega
theorem put_filter {cs : List Chg} {ks : List Nat} {p : Int} : ∀ {ts : List Trn}, (putL cs ks ts).filter (inP p) = putL cs ks (ts.filter (inP p))
  | [] => rfl
  | t :: ts => by
    have ih := put_filter (cs := cs) (ks := ks) (p := p) (ts := ts)
    unfold putL at ih ⊢
    have same : ∀ u, putT cs ks t = some u → u.1 = t.1 ∧ u.2.1 = t.2.1 := fun u e => by
      unfold putT at e
      split at e
      · cases e; exact ⟨rfl, rfl⟩
      · cases e
    cases e : putT cs ks t with
    | none =>
      rw [List.filterMap_cons_none e, ih]
      by_cases z : t.1 ≤ p ∧ p < t.2.1
      · rw [List.filter_cons_of_pos (inP_yes z), List.filterMap_cons_none e]
      · rw [List.filter_cons_of_neg (inP_no z)]
    | some u =>
      obtain ⟨s1, s2⟩ := same u e
      rw [List.filterMap_cons_some e]
      by_cases z : t.1 ≤ p ∧ p < t.2.1
      · rw [List.filter_cons_of_pos (inP_yes z), List.filterMap_cons_some e, List.filter_cons_of_pos (inP_yes (t := u) (by rw [s1, s2]; exact z)), ih]
      · rw [List.filter_cons_of_neg (inP_no z), List.filter_cons_of_neg (inP_no (t := u) (by rw [s1, s2]; exact z)), ih]
/-- the hands of a layer's row, its turns put in -/
theorem layer_hand {cs : List Chg} {ks : List Nat} {l : Lyr} {r : Int} (hl : LyrOk l) (hk : ∀ k ∈ ks, k < cs.length) : ((putL cs ks l.turns).filter (inP (placeL l r))).map (·.2.2) = ((layerRowL cs ks l r).hand).toList := by
  rw [put_filter, turns_one (j := 0) hl.ts]
  unfold layerRowL turnL
  cases e : turnG (placeL l r) 0 l.turns with
  | none => rfl
  | some j =>
    show (putL cs ks (l.turns[j - 0]?).toList).map (·.2.2) = (Rw.hand (match l.turns[j]? with
      | none => Rw.non l.word
      | some t => _)).toList
    rw [Nat.sub_zero]
    cases e1 : l.turns[j]? with
    | none => rfl
    | some u =>
      show (putL cs ks [u]).map (·.2.2) = (Rw.hand (match ks.find? (isStand cs u.2.2) with
        | none => lookL cs ks (.turn u.2.2 l.word j) u.2.2
        | some k => match handOf cs k with
          | none => .non l.word
          | some g => lookL cs ks (.sub g l.word j k) g)).toList
      have ep : putL cs ks [u] = (putT cs ks u).toList := by
        unfold putL
        cases e : putT cs ks u with
        | none => rw [List.filterMap_cons_none e]; rfl
        | some v => rw [List.filterMap_cons_some e]; rfl
      rw [ep]
      unfold putT subH
      cases e2 : ks.find? (isStand cs u.2.2) with
      | none =>
        show List.map _ (Option.toList (match ks.find? (isAway cs u.2.2) with
          | none => some (u.1, u.2.1, u.2.2)
          | some _ => none)) = (Rw.hand (lookL cs ks (.turn u.2.2 l.word j) u.2.2)).toList
        unfold lookL
        cases ks.find? (isAway cs u.2.2) <;> rfl
      | some k =>
        have hkk := hk k (List.mem_of_find?_eq_some e2)
        have eh : handOf cs k = some cs[k].h := by unfold handOf; rw [List.getElem?_eq_getElem hkk]; rfl
        show List.map _ (Option.toList (match ks.find? (isAway cs ((handOf cs k).getD u.2.2)) with
          | none => some (u.1, u.2.1, (handOf cs k).getD u.2.2)
          | some _ => none)) = (Rw.hand (match handOf cs k with
          | none => .non l.word
          | some g => lookL cs ks (.sub g l.word j k) g)).toList
        rw [eh]
        show List.map _ (Option.toList (match ks.find? (isAway cs cs[k].h) with
          | none => some (u.1, u.2.1, cs[k].h)
          | some _ => none)) = (Rw.hand (lookL cs ks (.sub cs[k].h l.word j k) cs[k].h)).toList
        unfold lookL
        cases ks.find? (isAway cs cs[k].h) <;> rfl
theorem herOf_layer {cs : List Chg} {ks : List Nat} {l : Lyr} {r : Int} : herOf (layerRowL cs ks l r) = ((layerRowL cs ks l r).hand).toList := by
  have := onOf_layer (cs := cs) (ks := ks) (l := l) (r := r)
  cases e : layerRowL cs ks l r with
  | on h k => rw [e] at this; cases this
  | _ => rfl
theorem place_shift {l : Lyr} (d1 : 1 ≤ l.days) {t rd : Int} {ts : List Trn} : placeL ⟨l.word, (l.start - (rd - t)) % (1440 * l.days), l.days, ts⟩ t = placeL l rd := by
  show (t - (l.start - (rd - t)) % (1440 * l.days)) % (1440 * l.days) = (rd - l.start) % (1440 * l.days)
  rw [Int.sub_emod, Int.emod_emod, ← Int.sub_emod]
  congr 1
  omega
theorem handsAt_map {α : Type} {f : α → Lyr} {g : α → Option Str} {m : Int} : ∀ {l : List α}, (∀ x ∈ l, handsAt [f x] m = (g x).toList) → handsAt (l.map f) m = l.filterMap g
  | [], _ => rfl
  | x :: l, h => by
    have hx := h x (.head _)
    have ih := handsAt_map (f := f) (g := g) (m := m) (l := l) fun y hy => h y (.tail _ hy)
    rw [List.map_cons, show f x :: l.map f = [f x] ++ l.map f from rfl, handsAt_app, ih, hx]
    cases e2 : g x with
    | none => rw [List.filterMap_cons_none e2]; rfl
    | some s => rw [List.filterMap_cons_some e2]; rfl
/-- who is there by the plain layers, and by the rows -/
theorem plain_hands {b : Bk} (hb : BkW b) {t : Int} : handsAt (plainL b t) t = (toldL b t).filterMap Rw.hand := by
  have hlt : ∀ k ∈ coveringL b.cs t, k < b.cs.length := fun k hk => cov_lt hk
  unfold plainL
  rw [handsAt_app, onsP_eq]
  have e1 : handsAt ((onsL b.cs (coveringL b.cs t)).filterMap fun r => (onOf r).map fun h => wdL "on" [h]) t = (onsL b.cs (coveringL b.cs t)).filterMap Rw.hand := by
    refine handsAt_fm fun r hr => ?_
    obtain ⟨k, _, e⟩ := List.mem_filterMap.mp hr
    obtain ⟨x, _, rfl⟩ := Option.map_eq_some_iff.mp e
    unfold lookL
    split
    · exact handsAt_wd
    · rfl
  rw [e1]
  unfold toldL
  rw [List.filterMap_append]
  congr 1
  rw [List.filterMap_map]
  split
  · refine handsAt_map fun l hl => ?_
    rw [handsAt_wd]
    exact herOf_layer
  · refine handsAt_map fun l hl => ?_
    have hlo := hb.ls l hl
    have e := layer_hand (l := l) (r := readingL b.js t) hlo hlt
    have ps := place_shift hlo.d1 (t := t) (rd := readingL b.js t) (ts := putL b.cs (coveringL b.cs t) l.turns)
    show List.flatMap _ _ = ((layerRowL b.cs (coveringL b.cs t) l (readingL b.js t)).hand).toList
    rw [List.flatMap_cons, List.flatMap_nil, List.append_nil, ← e, ps]
/-- the same at any moment with no edge between -/
theorem plain_hands_at {b : Bk} (hb : BkW b) (h : Ris 0 b.js) {t m : Int} (h0 : 0 ≤ t) (n : NoEdge b t m) : handsAt (plainL b t) m = (toldL b m).filterMap Rw.hand := by
  rw [← plain_const h h0 n]
  exact plain_hands hb
theorem plain_hands_back {b : Bk} (hb : BkW b) (h : Ris 0 b.js) {t m : Int} (h0 : 0 ≤ m) (n : NoEdge b m t) : handsAt (plainL b t) m = (toldL b m).filterMap Rw.hand := by
  rw [plain_const h h0 n]
  exact plain_hands hb
end CFSp

set_option Elab.async false
set_option linter.all false
set_option maxRecDepth 100000
set_option maxHeartbeats 4000000
/-! CFLo: lots: who is called, by pieces of the day and rests of its number -/
namespace CFLo
open PySem PySem.Spec PyProof.Rows L2 DL CFH CFCl CFRu CFWd CFBk CFTu CFRb CFSp
/-! ### a layer's hand at a number -/
structure LoOk (l : Lyr) : Prop where
  wd : WordOk l.word
  hs : ∀ u ∈ l.turns, WordOk u.2.2
  d1 : 1 ≤ l.days
  d60 : l.days ≤ 60
  tl : l.turns.length ≤ 12
  bd : ∀ u ∈ l.turns, 0 ≤ u.1 ∧ u.1 < u.2.1 ∧ u.2.1 ≤ 1440 * l.days
def whoL (l : Lyr) (r : Int) : Option Str := (l.turns.find? (inP (placeL l r))).map (·.2.2)
theorem turn_who {l : Lyr} {r : Int} : whoL l r = match turnL l r with
  | none => none
  | some j => (l.turns[j]?).map (·.2.2) := by
  have go : ∀ (ts : List Trn) (j : Nat) (all : List Trn), all.drop j = ts → (ts.find? (inP (placeL l r))).map (·.2.2) = match turnG (placeL l r) j ts with
      | none => none
      | some j => (all[j]?).map (·.2.2) := by
    intro ts
    induction ts with
    | nil => intro j all _; rfl
    | cons t ts ih =>
      intro j all e
      have ej : all[j]? = some t := by
        have := congrArg (fun l => l[0]?) e
        simpa using this
      have et : all.drop (j + 1) = ts := by
        have := congrArg (List.drop 1) e
        rwa [List.drop_drop, List.drop_succ_cons, List.drop_zero] at this
      unfold turnG
      by_cases z : t.1 ≤ placeL l r ∧ placeL l r < t.2.1
      · rw [if_pos z, List.find?_cons_of_pos (inP_yes z)]
        show some t.2.2 = (all[j]?).map (·.2.2)
        rw [ej]
        rfl
      · rw [if_neg z, List.find?_cons_of_neg (inP_no z)]
        exact ih (j + 1) all et
  exact go l.turns 0 l.turns rfl
theorem who_ok {l : Lyr} (h : LoOk l) {r : Int} {w : Str} (e : whoL l r = some w) : WordOk w := by
  unfold whoL at e
  cases z : l.turns.find? (inP (placeL l r)) with
  | none => rw [z] at e; cases e
  | some u =>
    rw [z] at e
    cases e
    exact h.hs u (List.mem_of_find?_eq_some z)
theorem place_day {l : Lyr} {m d : Int} : placeL l (1440 * (d % l.days) + m) = placeL l (1440 * d + m) := by
  unfold placeL
  have e : 1440 * d + m - l.start = (1440 * (d % l.days) + m - l.start) + (1440 * l.days) * (d / l.days) := by
    have := Int.mul_ediv_add_emod d l.days
    have e2 : 1440 * l.days * (d / l.days) = 1440 * (l.days * (d / l.days)) := Int.mul_assoc _ _ _
    omega
  rw [e, Int.add_mul_emod_self_left]
theorem who_day {l : Lyr} {m d : Int} : whoL l (1440 * (d % l.days) + m) = whoL l (1440 * d + m) := by
  unfold whoL
  rw [place_day]
/-! ### the lot of a day -/
abbrev Lt := List Int × Option Str
def lotOf : List Lyr → Int → Int → Lt
  | [], _, _ => ([], none)
  | l :: ls, m, d => match whoL l (1440 * d + m) with
    | some h => ([d % l.days], some h)
    | none => (d % l.days :: (lotOf ls m d).1, (lotOf ls m d).2)
theorem lot_cons_some {l : Lyr} {ls : List Lyr} {m d : Int} {h : Str} (e : whoL l (1440 * d + m) = some h) : lotOf (l :: ls) m d = ([d % l.days], some h) := by
  show (match whoL l (1440 * d + m) with
    | some h => ([d % l.days], some h)
    | none => (d % l.days :: (lotOf ls m d).1, (lotOf ls m d).2)) = _
  rw [e]
theorem lot_cons_none {l : Lyr} {ls : List Lyr} {m d : Int} (e : whoL l (1440 * d + m) = none) : lotOf (l :: ls) m d = (d % l.days :: (lotOf ls m d).1, (lotOf ls m d).2) := by
  show (match whoL l (1440 * d + m) with
    | some h => ([d % l.days], some h)
    | none => (d % l.days :: (lotOf ls m d).1, (lotOf ls m d).2)) = _
  rw [e]
/-- with one layer more behind -/
theorem lot_snoc {l : Lyr} {m d : Int} : ∀ {ls : List Lyr}, lotOf (ls ++ [l]) m d = match (lotOf ls m d).2 with
    | some h => lotOf ls m d
    | none => ((lotOf ls m d).1 ++ [d % l.days], whoL l (1440 * d + m))
  | [] => by
    cases e : whoL l (1440 * d + m) with
    | some h => rw [List.nil_append, lot_cons_some e]; rfl
    | none => rw [List.nil_append, lot_cons_none e]; rfl
  | k :: ls => by
    rw [List.cons_append]
    cases e : whoL k (1440 * d + m) with
    | some h => rw [lot_cons_some e, lot_cons_some e]
    | none =>
      rw [lot_cons_none e, lot_cons_none e, lot_snoc (ls := ls)]
      cases e2 : (lotOf ls m d).2 with
      | some h => show (_, _) = (_, _); rw [e2]
      | none => rfl
/-- the same rests, the same hand -/
theorem lot_same {m d d' : Int} : ∀ {ls : List Lyr}, (lotOf ls m d).1 = (lotOf ls m d').1 → (lotOf ls m d).2 = (lotOf ls m d').2
  | [], _ => rfl
  | l :: ls, h => by
    have hd : d % l.days = d' % l.days := by
      cases e : whoL l (1440 * d + m) with
      | some w =>
        cases e' : whoL l (1440 * d' + m) with
        | some w' => rw [lot_cons_some e, lot_cons_some e'] at h; exact (List.cons.inj h).1
        | none => rw [lot_cons_some e, lot_cons_none e'] at h; exact (List.cons.inj h).1
      | none =>
        cases e' : whoL l (1440 * d' + m) with
        | some w' => rw [lot_cons_none e, lot_cons_some e'] at h; exact (List.cons.inj h).1
        | none => rw [lot_cons_none e, lot_cons_none e'] at h; exact (List.cons.inj h).1
    have ew : whoL l (1440 * d + m) = whoL l (1440 * d' + m) := by rw [← who_day (d := d), ← who_day (d := d'), hd]
    cases e : whoL l (1440 * d + m) with
    | some w => rw [lot_cons_some e, lot_cons_some (ew ▸ e)]
    | none =>
      have e' : whoL l (1440 * d' + m) = none := ew ▸ e
      rw [lot_cons_none e, lot_cons_none e'] at h ⊢
      exact lot_same (List.cons.inj h).2
theorem lot_ext {m d d' : Int} {ls : List Lyr} (h : (lotOf ls m d).1 = (lotOf ls m d').1) : lotOf ls m d = lotOf ls m d' := Prod.ext h (lot_same h)
/-- no lot's rests go on those of another one -/
theorem lot_pre {m d d' : Int} {x : Int} {xs : List Int} : ∀ {ls : List Lyr}, (lotOf ls m d).1 ≠ (lotOf ls m d').1 ++ x :: xs
  | [], h => by simp [lotOf] at h
  | l :: ls, h => by
    have key : d % l.days = d' % l.days → False := fun hd => by
      have ew : whoL l (1440 * d + m) = whoL l (1440 * d' + m) := by rw [← who_day (d := d), ← who_day (d := d'), hd]
      cases e : whoL l (1440 * d + m) with
      | some w =>
        rw [lot_cons_some e, lot_cons_some (ew ▸ e)] at h
        simp at h
      | none =>
        have e' : whoL l (1440 * d' + m) = none := ew ▸ e
        rw [lot_cons_none e, lot_cons_none e'] at h
        exact lot_pre (ls := ls) (List.cons.inj h).2
    cases e : whoL l (1440 * d + m) with
    | some w =>
      cases e' : whoL l (1440 * d' + m) with
      | some w' => rw [lot_cons_some e, lot_cons_some e'] at h; exact key (List.cons.inj h).1
      | none => rw [lot_cons_some e, lot_cons_none e'] at h; exact key (List.cons.inj h).1
    | none =>
      cases e' : whoL l (1440 * d' + m) with
      | some w' => rw [lot_cons_none e, lot_cons_some e'] at h; exact key (List.cons.inj h).1
      | none => rw [lot_cons_none e, lot_cons_none e'] at h; exact key (List.cons.inj h).1
theorem lot_len {m d : Int} : ∀ {ls : List Lyr}, (lotOf ls m d).1.length ≤ ls.length
  | [] => Nat.le_refl _
  | l :: ls => by
    cases e : whoL l (1440 * d + m) with
    | some w => rw [lot_cons_some e]; simp
    | none =>
      rw [lot_cons_none e]
      have := lot_len (m := m) (d := d) (ls := ls)
      simp only [List.length_cons]
      omega
/-- the common round -/
def rnd (ls : List Lyr) : Int := ls.foldl (fun n l => zl n l.days) 1
theorem rnd_snoc {ls : List Lyr} {l : Lyr} : rnd (ls ++ [l]) = zl (rnd ls) l.days := by
  unfold rnd
  rw [List.foldl_append]
  rfl
theorem rnd_pos' {ls : List Lyr} (h : ∀ l ∈ ls, 1 ≤ l.days) : ∀ {n : Int}, 0 < n → 0 < ls.foldl (fun n l => zl n l.days) n := by
  induction ls with
  | nil => exact fun h => h
  | cons l ls ih => exact fun {n} hn => ih (fun l hl => h l (.tail _ hl)) (zl_pos hn (by have := h l (.head _); omega))
theorem rnd_pos {ls : List Lyr} (h : ∀ l ∈ ls, 1 ≤ l.days) : 0 < rnd ls := rnd_pos' h (by decide)
theorem rnd_least' {x : Int} : ∀ {ls : List Lyr} {n : Int}, n ∣ x → (∀ l ∈ ls, l.days ∣ x) → ls.foldl (fun n l => zl n l.days) n ∣ x
  | [], _, h, _ => h
  | l :: ls, n, h, hl => rnd_least' (ls := ls) (zl_dvd h (hl l (.head _))) fun k hk => hl k (.tail _ hk)
theorem rnd_least {ls : List Lyr} {x : Int} (h : ∀ l ∈ ls, l.days ∣ x) : rnd ls ∣ x := rnd_least' (Int.one_dvd _) h
theorem rnd_self' : ∀ {ls : List Lyr} {n : Int}, n ∣ ls.foldl (fun n l => zl n l.days) n
  | [], n => Int.dvd_refl n
  | l :: ls, n => Int.dvd_trans (zl_left n l.days) rnd_self'
theorem rnd_mem' : ∀ {ls : List Lyr} {n : Int} {l : Lyr}, l ∈ ls → l.days ∣ ls.foldl (fun n l => zl n l.days) n
  | k :: ls, n, l, h => by
    rcases List.mem_cons.mp h with e | h
    · rw [e]; exact Int.dvd_trans (zl_right n k.days) rnd_self'
    · exact rnd_mem' (ls := ls) h
theorem rnd_mem {ls : List Lyr} {l : Lyr} (h : l ∈ ls) : l.days ∣ rnd ls := rnd_mem' h
/-- all numbers to 60 divide it -/
@[reducible] def L60 : Int := 9690712164777231700912800
theorem div60 {x : Int} (h : 1 ≤ x) (h' : x ≤ 60) : x ∣ L60 := by
  obtain ⟨n, rfl⟩ := Int.eq_ofNat_of_zero_le (show 0 ≤ x by omega)
  have h1 : n ≤ 60 := by omega
  have h0 : 1 ≤ n := by omega
  have all : ∀ n : Nat, n ≤ 60 → 1 ≤ n → L60 % (n : Int) = 0 := by decide
  exact Int.dvd_of_emod_eq_zero (all n h1 h0)
theorem rnd_60 {ls : List Lyr} (h : ∀ l ∈ ls, LoOk l) : rnd ls ∣ L60 := rnd_least fun l hl => div60 (h l hl).d1 (h l hl).d60
theorem sm60 {x : Int} (h0 : 0 ≤ x) (h : x ∣ L60) : Sm x := Sm.big h0 (Int.le_trans (Int.le_of_dvd (by decide) h) (by decide))
theorem lot_round {m d d' : Int} : ∀ {ls : List Lyr}, (∀ l ∈ ls, d % l.days = d' % l.days) → lotOf ls m d = lotOf ls m d'
  | [], _ => rfl
  | l :: ls, h => by
    have hd := h l (.head _)
    have ew : whoL l (1440 * d + m) = whoL l (1440 * d' + m) := by rw [← who_day (d := d), ← who_day (d := d'), hd]
    have ih := lot_round (m := m) (d := d) (d' := d') (ls := ls) fun k hk => h k (.tail _ hk)
    cases e : whoL l (1440 * d + m) with
    | some w => rw [lot_cons_some e, lot_cons_some (ew ▸ e), hd]
    | none => rw [lot_cons_none e, lot_cons_none (ew ▸ e), hd, ih]
theorem mod_dvd {d n k : Int} (h : k ∣ n) : (d % n) % k = d % k := Int.emod_emod_of_dvd d h
theorem lot_mod {m d n : Int} {ls : List Lyr} (h : ∀ l ∈ ls, l.days ∣ n) : lotOf ls m (d % n) = lotOf ls m d := lot_round fun l hl => mod_dvd (h l hl)
/-! ### the order of the rests -/
def rlt : List Int → List Int → Bool
  | [], [] => false
  | [], _ :: _ => true
  | _ :: _, [] => false
  | x :: xs, y :: ys => if x = y then rlt xs ys else decide (x < y)
theorem rlt_irr : ∀ {xs : List Int}, rlt xs xs = false
  | [] => rfl
  | x :: xs => by unfold rlt; rw [if_pos rfl]; exact rlt_irr
theorem rlt_trans : ∀ {xs ys zs : List Int}, rlt xs ys = true → rlt ys zs = true → rlt xs zs = true
  | [], [], _, h, _ => by cases h
  | [], _ :: _, [], _, h => by cases h
  | [], _ :: _, _ :: _, _, _ => rfl
  | _ :: _, [], _, h, _ => by cases h
  | _ :: _, _ :: _, [], _, h => by cases h
  | x :: xs, y :: ys, z :: zs, h, h' => by
    unfold rlt at h h' ⊢
    split at h
    · rename_i e
      subst e
      split at h'
      · rename_i e; subst e; rw [if_pos rfl]; exact rlt_trans h h'
      · rename_i e; rw [if_neg e]; exact h'
    · rename_i e
      have l1 := of_decide_eq_true h
      split at h'
      · rename_i e2; subst e2; rw [if_neg e]; exact h
      · rename_i e2
        have l2 := of_decide_eq_true h'
        rw [if_neg (by omega)]
        exact decide_eq_true (by omega)
theorem rlt_tri : ∀ {xs ys : List Int}, xs ≠ ys → rlt xs ys = true ∨ rlt ys xs = true
  | [], [], h => absurd rfl h
  | [], _ :: _, _ => .inl rfl
  | _ :: _, [], _ => .inr rfl
  | x :: xs, y :: ys, h => by
    by_cases e : x = y
    · subst e
      have := rlt_tri (xs := xs) (ys := ys) fun z => h (by rw [z])
      unfold rlt
      rw [if_pos rfl, if_pos rfl]
      exact this
    · unfold rlt
      rw [if_neg e, if_neg fun z => e z.symm]
      rcases Int.lt_or_gt_of_ne e with z | z
      · exact .inl (decide_eq_true z)
      · exact .inr (decide_eq_true z)
theorem rlt_asym {xs ys : List Int} (h : rlt xs ys = true) : rlt ys xs = false := by
  cases e : rlt ys xs with
  | false => rfl
  | true => have := rlt_trans h e; rw [rlt_irr] at this; cases this
def Up (xs : List Lt) : Prop := xs.Pairwise fun x y => rlt x.1 y.1 = true
theorem Up.uniq : ∀ {xs ys : List Lt}, Up xs → Up ys → (∀ k, k ∈ xs ↔ k ∈ ys) → xs = ys
  | [], [], _, _, _ => rfl
  | [], y :: ys, _, _, h => by have := (h y).mpr (.head _); cases this
  | x :: xs, [], _, _, h => by have := (h x).mp (.head _); cases this
  | x :: xs, y :: ys, h1, h2, h => by
    obtain ⟨a1, a2⟩ := List.pairwise_cons.mp h1
    obtain ⟨b1, b2⟩ := List.pairwise_cons.mp h2
    have e : x = y := by
      rcases List.mem_cons.mp ((h x).mp (.head _)) with z | z
      · exact z
      · rcases List.mem_cons.mp ((h y).mpr (.head _)) with z2 | z2
        · exact z2.symm
        · have q := rlt_trans (b1 x z) (a1 y z2); rw [rlt_irr] at q; cases q
    subst e
    rw [Up.uniq a2 b2 fun k => ⟨fun hk => ?_, fun hk => ?_⟩]
    · rcases List.mem_cons.mp ((h k).mp (.tail _ hk)) with z | z
      · have q := a1 k hk; rw [z, rlt_irr] at q; cases q
      · exact z
    · rcases List.mem_cons.mp ((h k).mpr (.tail _ hk)) with z | z
      · have q := b1 k hk; rw [z, rlt_irr] at q; cases q
      · exact z
/-- all lots of a piece, rising -/
structure IsPc (ls : List Lyr) (m : Int) (res : List Lt) : Prop where
  up : Up res
  mem : ∀ x, x ∈ res ↔ ∃ d, lotOf ls m d = x
theorem IsPc.uniq {ls : List Lyr} {m : Int} {r r' : List Lt} (h : IsPc ls m r) (h' : IsPc ls m r') : r = r' := Up.uniq h.up h'.up fun k => (h.mem k).trans (h'.mem k).symm
/-! ### joining -/
theorem bez (a b : Nat) : ∃ u v : Int, (a : Int) * u + b * v = (Nat.gcd a b : Nat) := by
  induction a, b using Nat.gcd.induction with
  | H0 n => exact ⟨0, 1, by rw [Nat.gcd_zero_left]; simp⟩
  | H1 m n h ih =>
    obtain ⟨u, v, e⟩ := ih
    refine ⟨v - (n / m : Nat) * u, u, ?_⟩
    rw [Nat.gcd_rec m n, ← e]
    have e1 : (n : Int) = m * (n / m : Nat) + (n % m : Nat) := by
      have := Nat.div_add_mod n m
      exact_mod_cast this.symm
    have e2 : (m : Int) * ((n / m : Nat) * u) = (m * (n / m : Nat)) * u := (Int.mul_assoc _ _ _).symm
    have e3 : (n : Int) * u = (m * (n / m : Nat)) * u + (n % m : Nat) * u := by rw [← Int.add_mul, ← e1]
    rw [Int.mul_sub, e2, e3]
    omega
theorem crt_ex {m n r s : Int} (hm : 0 < m) (hn : 0 < n) (h : zg m n ∣ r - s) : ∃ x, 0 ≤ x ∧ x < zl m n ∧ m ∣ x - r ∧ n ∣ x - s := by
  obtain ⟨t, ht⟩ := h
  obtain ⟨u, v, e⟩ : ∃ u v : Int, m * u + n * v = zg m n := by
    obtain ⟨a, rfl⟩ := Int.eq_ofNat_of_zero_le (Int.le_of_lt hm)
    obtain ⟨b, rfl⟩ := Int.eq_ofNat_of_zero_le (Int.le_of_lt hn)
    exact bez a b
  have lp := zl_pos hm hn
  have e1 : m * (u * t) + n * (v * t) = r - s := by rw [ht, ← e, Int.add_mul, Int.mul_assoc, Int.mul_assoc]
  refine ⟨(r - m * (u * t)) % zl m n, Int.emod_nonneg _ (by omega), Int.emod_lt_of_pos _ lp, ?_, ?_⟩
  · have d1 : zl m n ∣ (r - m * (u * t)) % zl m n - (r - m * (u * t)) := by
      refine dvd_sub_comm ⟨(r - m * (u * t)) / zl m n, ?_⟩
      have := Int.mul_ediv_add_emod (r - m * (u * t)) (zl m n)
      omega
    exact dvd_sub3 (Int.dvd_trans (zl_left m n) d1) ⟨-(u * t), by rw [Int.mul_neg]; omega⟩
  · have d1 : zl m n ∣ (r - m * (u * t)) % zl m n - (r - m * (u * t)) := by
      refine dvd_sub_comm ⟨(r - m * (u * t)) / zl m n, ?_⟩
      have := Int.mul_ediv_add_emod (r - m * (u * t)) (zl m n)
      omega
    exact dvd_sub3 (Int.dvd_trans (zl_right m n) d1) ⟨v * t, by omega⟩
noncomputable def crt (r m s n : Int) : Int := open Classical in if h : ∃ x, 0 ≤ x ∧ x < zl m n ∧ m ∣ x - r ∧ n ∣ x - s then h.choose else 0
theorem crt_ok {m n r s : Int} (hm : 0 < m) (hn : 0 < n) (h : zg m n ∣ r - s) : 0 ≤ crt r m s n ∧ crt r m s n < zl m n ∧ m ∣ crt r m s n - r ∧ n ∣ crt r m s n - s := by
  have e := crt_ex hm hn h
  unfold crt
  rw [dif_pos e]
  exact e.choose_spec
/-! ### layer by layer -/
structure Ah where
  rs : List Int
  r : Int
  n : Int
/-- a lot on its way, with one rest more -/
noncomputable def ahN (a : Ah) (n one : Int) : Ah := ⟨a.rs ++ [one], crt a.r a.n one n, zl a.n n⟩
/-- the rests that come into question -/
def onesL (r g n : Int) : List Int := (List.range ((n - r % g + g - 1) / g).toNat).map fun k => r % g + (k : Nat) * g
theorem ones_mem {r g n x : Int} (hg : 0 < g) (hn : g ∣ n) (n0 : 0 < n) : x ∈ onesL r g n ↔ 0 ≤ x ∧ x < n ∧ g ∣ r - x := by
  have e0 := Int.emod_nonneg r (b := g) (by omega)
  have e1 := Int.emod_lt_of_pos r hg
  have er := Int.mul_ediv_add_emod r g
  unfold onesL
  constructor
  · intro h
    obtain ⟨k, hk, rfl⟩ := List.mem_map.mp h
    have hk' := List.mem_range.mp hk
    have k0 : (0 : Int) ≤ (k : Nat) * g := Int.mul_nonneg (by omega) (by omega)
    have hq : ((k : Nat) : Int) < (n - r % g + g - 1) / g := by omega
    have hm : ((k : Nat) : Int) + 1 ≤ (n - r % g + g - 1) / g := hq
    have h2 : (((k : Nat) : Int) + 1) * g ≤ n - r % g + g - 1 := by
      have a := Int.mul_le_mul_of_nonneg_right hm (by omega : 0 ≤ g)
      have b := Int.ediv_mul_le (n - r % g + g - 1) (by omega : g ≠ 0)
      omega
    rw [Int.add_mul, Int.one_mul] at h2
    refine ⟨by omega, by omega, ⟨r / g - (k : Nat), ?_⟩⟩
    rw [Int.mul_sub, Int.mul_comm g ((k : Nat) : Int)]
    omega
  · rintro ⟨x0, x1, ⟨q, hq⟩⟩
    -- x = r - g q, and r % g ≤ x
    have ex : x = r % g + (r / g - q) * g := by rw [Int.sub_mul, Int.mul_comm (r / g) g, Int.mul_comm q g]; omega
    have hk0 : 0 ≤ r / g - q := by
      rcases Int.lt_or_le (r / g - q) 0 with z | z
      · have : (r / g - q) * g ≤ (-1) * g := Int.mul_le_mul_of_nonneg_right (by omega) (by omega)
        omega
      · exact z
    obtain ⟨k, ek⟩ := Int.eq_ofNat_of_zero_le hk0
    refine List.mem_map.mpr ⟨k, List.mem_range.mpr ?_, by rw [ex, ek]⟩
    have h3 : ((k : Nat) : Int) + 1 ≤ (n - r % g + g - 1) / g := by
      refine (Int.le_ediv_iff_mul_le hg).mpr ?_
      rw [Int.add_mul, Int.one_mul, ← ek]
      omega
    omega
theorem ones_nodup {r g n : Int} (hg : 0 < g) : (onesL r g n).Nodup := by
  unfold onesL
  refine List.pairwise_map.mpr (List.Pairwise.imp (fun {a b} ne e => ne ?_) List.nodup_range)
  have e2 : ((a : Nat) : Int) * g = (b : Nat) * g := by omega
  have := Int.eq_of_mul_eq_mul_right (by omega : g ≠ 0) e2
  omega
/-- the hand of a rest -/
def hdL (l : Lyr) (m one : Int) : Option Str := whoL l (1440 * one + m)
/-- what the rests of one lot on its way make: found, and on their way -/
noncomputable def fdL (l : Lyr) (m : Int) (a : Ah) : List Lt := ((onesL a.r (zg a.n l.days) l.days).filter fun o => (hdL l m o).isSome).map fun o => (a.rs ++ [o], hdL l m o)
noncomputable def bhL (l : Lyr) (m : Int) (a : Ah) : List Ah := ((onesL a.r (zg a.n l.days) l.days).filter fun o => (hdL l m o).isNone).map fun o => ahN a l.days o
/-- behind some layers -/
noncomputable def stgF (m : Int) : List Lyr → List Lt × List Ah → List Lt × List Ah
  | [], s => s
  | l :: ls, s => stgF m ls (s.1 ++ s.2.flatMap (fdL l m), s.2.flatMap (bhL l m))
structure Inv (ls : List Lyr) (m : Int) (s : List Lt × List Ah) : Prop where
  nd : (s.1.map (·.1) ++ s.2.map (·.rs)).Nodup
  fd : ∀ x ∈ s.1, x.2.isSome = true ∧ ∃ d, lotOf ls m d = x
  ah : ∀ a ∈ s.2, 0 ≤ a.r ∧ a.r < a.n ∧ a.n = rnd ls ∧ a.rs.length = ls.length ∧ ∀ d, d % a.n = a.r ↔ lotOf ls m d = (a.rs, none)
  al : ∀ d, lotOf ls m d ∈ s.1 ∨ ∃ a ∈ s.2, lotOf ls m d = (a.rs, none)
theorem inv_nil {m : Int} : Inv [] m ([], [⟨[], 0, 1⟩]) := by
  refine ⟨by simp, (fun x h => nomatch h), fun a h => ?_, fun d => .inr ⟨_, List.mem_singleton.mpr rfl, rfl⟩⟩
  rw [List.mem_singleton.mp h]
  exact ⟨Int.le_refl 0, by decide, rfl, rfl, fun d => ⟨fun _ => rfl, fun _ => by show d % 1 = 0; omega⟩⟩
theorem inv_step {ls : List Lyr} {l : Lyr} {m : Int} {s : List Lt × List Ah} (hl : 1 ≤ l.days) (h : Inv ls m s) (hls : ∀ l ∈ ls, 1 ≤ l.days) : Inv (ls ++ [l]) m (s.1 ++ s.2.flatMap (fdL l m), s.2.flatMap (bhL l m)) := by
  have np := rnd_pos hls
  -- a day of a lot on its way
  have day : ∀ a ∈ s.2, ∀ o ∈ onesL a.r (zg a.n l.days) l.days, ∀ d, (d % (zl a.n l.days) = crt a.r a.n o l.days ↔ lotOf ls m d = (a.rs, none) ∧ d % l.days = o) := by
    intro a ha o ho d
    obtain ⟨a0, a1, an, _, ad⟩ := h.ah a ha
    have np' : 0 < a.n := by omega
    have gp : 0 < zg a.n l.days := zg_pos (by omega)
    obtain ⟨o0, o1, og⟩ := (ones_mem gp (zg_right a.n l.days) (by omega)).mp ho
    obtain ⟨c0, c1, c2, c3⟩ := crt_ok np' (by omega : 0 < l.days) og
    rw [← ad d]
    have lp := zl_pos np' (by omega : 0 < l.days)
    constructor
    · intro e
      constructor
      · have e1 : d % a.n = crt a.r a.n o l.days % a.n := by rw [← e, mod_dvd (zl_left a.n l.days)]
        rw [e1]
        have e2 : crt a.r a.n o l.days % a.n = a.r % a.n := (Int.emod_eq_emod_iff_emod_sub_eq_zero).mpr (Int.emod_eq_zero_of_dvd c2)
        rw [e2, Int.emod_eq_of_lt a0 a1]
      · have e1 : d % l.days = crt a.r a.n o l.days % l.days := by rw [← e, mod_dvd (zl_right a.n l.days)]
        rw [e1]
        have e2 : crt a.r a.n o l.days % l.days = o % l.days := (Int.emod_eq_emod_iff_emod_sub_eq_zero).mpr (Int.emod_eq_zero_of_dvd c3)
        rw [e2, Int.emod_eq_of_lt o0 o1]
    · rintro ⟨e1, e2⟩
      have d1 : a.n ∣ d - crt a.r a.n o l.days := by
        have : a.n ∣ d - a.r := ⟨d / a.n, by have := Int.mul_ediv_add_emod d a.n; omega⟩
        exact dvd_sub3 this (dvd_sub_comm c2)
      have d2 : l.days ∣ d - crt a.r a.n o l.days := by
        have : l.days ∣ d - o := ⟨d / l.days, by have := Int.mul_ediv_add_emod d l.days; omega⟩
        exact dvd_sub3 this (dvd_sub_comm c3)
      have d3 : zl a.n l.days ∣ d - crt a.r a.n o l.days := zl_dvd d1 d2
      have e3 := (Int.emod_eq_emod_iff_emod_sub_eq_zero).mpr (Int.emod_eq_zero_of_dvd d3)
      rw [e3, Int.emod_eq_of_lt c0 c1]
  -- its first day
  have some_day : ∀ a ∈ s.2, ∀ o ∈ onesL a.r (zg a.n l.days) l.days, ∃ d, lotOf ls m d = (a.rs, none) ∧ d % l.days = o := by
    intro a ha o ho
    obtain ⟨a0, a1, an, _, ad⟩ := h.ah a ha
    have np' : 0 < a.n := by omega
    have gp : 0 < zg a.n l.days := zg_pos (by omega)
    obtain ⟨o0, o1, og⟩ := (ones_mem gp (zg_right a.n l.days) (by omega)).mp ho
    obtain ⟨c0, c1, _, _⟩ := crt_ok np' (by omega : 0 < l.days) og
    exact ⟨crt a.r a.n o l.days, (day a ha o ho _).mp (Int.emod_eq_of_lt c0 c1)⟩
  have snoc : ∀ d a, lotOf ls m d = (a, none) → lotOf (ls ++ [l]) m d = (a ++ [d % l.days], whoL l (1440 * d + m)) := fun d a e => by rw [lot_snoc, e]
  have inF : ∀ x ∈ s.2.flatMap (fdL l m), ∃ a ∈ s.2, ∃ o ∈ onesL a.r (zg a.n l.days) l.days, (hdL l m o).isSome = true ∧ x.1 = a.rs ++ [o] := fun x hx => by
    obtain ⟨a, ha, z⟩ := List.mem_flatMap.mp hx
    obtain ⟨o, ho, rfl⟩ := List.mem_map.mp z
    exact ⟨a, ha, o, (List.mem_filter.mp ho).1, (List.mem_filter.mp ho).2, rfl⟩
  have inB : ∀ x ∈ s.2.flatMap (bhL l m), ∃ a ∈ s.2, ∃ o ∈ onesL a.r (zg a.n l.days) l.days, (hdL l m o).isNone = true ∧ x.rs = a.rs ++ [o] := fun x hx => by
    obtain ⟨a, ha, z⟩ := List.mem_flatMap.mp hx
    obtain ⟨o, ho, rfl⟩ := List.mem_map.mp z
    exact ⟨a, ha, o, (List.mem_filter.mp ho).1, (List.mem_filter.mp ho).2, rfl⟩
  have out : ∀ x ∈ s.1, ∀ a ∈ s.2, ∀ o ∈ onesL a.r (zg a.n l.days) l.days, x.1 ≠ a.rs ++ [o] := fun x hx a ha o ho e => by
    obtain ⟨_, d, hd⟩ := h.fd x hx
    obtain ⟨d', hd', _⟩ := some_day a ha o ho
    refine lot_pre (ls := ls) (m := m) (d := d) (d' := d') (x := o) (xs := []) ?_
    rw [hd, hd', e]
  obtain ⟨n1, n2, n3⟩ := List.nodup_append.mp h.nd
  have nodT : ∀ (q : Int → Bool), (s.2.flatMap fun a => ((onesL a.r (zg a.n l.days) l.days).filter q).map fun o => a.rs ++ [o]).Nodup := fun q => by
    refine List.pairwise_flatMap.mpr ⟨fun a ha => ?_, ?_⟩
    · have nf : ((onesL a.r (zg a.n l.days) l.days).filter q).Nodup := List.Pairwise.filter q (ones_nodup (zg_pos (by omega)))
      exact List.pairwise_map.mpr (List.Pairwise.imp (fun {x y} ne e => ne (List.cons.inj (List.append_cancel_left e)).1) nf)
    · have := List.pairwise_map.mp n2
      refine List.Pairwise.imp (fun {a b} ne x hx y hy e => ?_) this
      obtain ⟨o, _, rfl⟩ := List.mem_map.mp hx
      obtain ⟨o', _, rfl⟩ := List.mem_map.mp hy
      exact ne (List.append_inj' e rfl).1
  refine ⟨?_, fun x hx => ?_, fun b hb => ?_, fun d => ?_⟩
  · have eF : (s.2.flatMap (fdL l m)).map (·.1) = s.2.flatMap fun a => ((onesL a.r (zg a.n l.days) l.days).filter fun o => (hdL l m o).isSome).map fun o => a.rs ++ [o] := by
      rw [List.map_flatMap]
      congr 1
      funext a
      unfold fdL
      rw [List.map_map]
      rfl
    have eB : (s.2.flatMap (bhL l m)).map (·.rs) = s.2.flatMap fun a => ((onesL a.r (zg a.n l.days) l.days).filter fun o => (hdL l m o).isNone).map fun o => a.rs ++ [o] := by
      rw [List.map_flatMap]
      congr 1
      funext a
      unfold bhL
      rw [List.map_map]
      rfl
    rw [List.map_append]
    refine List.nodup_append.mpr ⟨List.nodup_append.mpr ⟨n1, by rw [eF]; exact nodT _, fun x hx y hy e => ?_⟩, by rw [eB]; exact nodT _, fun x hx y hy e => ?_⟩
    · obtain ⟨u, hu, rfl⟩ := List.mem_map.mp hx
      obtain ⟨v, hv, rfl⟩ := List.mem_map.mp hy
      obtain ⟨a, ha, o, ho, _, ev⟩ := inF v hv
      exact out u hu a ha o ho (e.trans ev)
    · obtain ⟨v, hv, rfl⟩ := List.mem_map.mp hy
      obtain ⟨a, ha, o, ho, hn, ev⟩ := inB v hv
      rcases List.mem_append.mp hx with z | z
      · obtain ⟨u, hu, rfl⟩ := List.mem_map.mp z
        exact out u hu a ha o ho (e.trans ev)
      · obtain ⟨u, hu, rfl⟩ := List.mem_map.mp z
        obtain ⟨a', ha', o', ho', hn', ev'⟩ := inF u hu
        have e2 := (ev'.symm.trans e).trans ev
        have e3 := (List.cons.inj (List.append_inj' e2 rfl).2).1
        rw [e3] at hn'
        rw [Option.isNone_iff_eq_none.mp hn] at hn'
        cases hn'
  · rcases List.mem_append.mp hx with z | z
    · obtain ⟨e, d, hd⟩ := h.fd x z
      refine ⟨e, d, ?_⟩
      rw [lot_snoc, hd]
      cases ex : x.2 with
      | none => rw [ex] at e; cases e
      | some w => rfl
    · obtain ⟨a, ha, z⟩ := List.mem_flatMap.mp z
      obtain ⟨o, ho, rfl⟩ := List.mem_map.mp z
      obtain ⟨ho, hs⟩ := List.mem_filter.mp ho
      obtain ⟨d, hd, ed⟩ := some_day a ha o ho
      refine ⟨hs, d, ?_⟩
      rw [snoc d _ hd, ed]
      unfold hdL
      rw [← who_day (d := d), ed]
  · obtain ⟨a, ha, z⟩ := List.mem_flatMap.mp hb
    obtain ⟨o, ho, rfl⟩ := List.mem_map.mp z
    obtain ⟨ho, hs⟩ := List.mem_filter.mp ho
    obtain ⟨a0, a1, an, al, ad⟩ := h.ah a ha
    have np' : 0 < a.n := by omega
    have gp : 0 < zg a.n l.days := zg_pos (by omega)
    obtain ⟨o0, o1, og⟩ := (ones_mem gp (zg_right a.n l.days) (by omega)).mp ho
    obtain ⟨c0, c1, _, _⟩ := crt_ok np' (by omega : 0 < l.days) og
    refine ⟨c0, c1, by show zl a.n l.days = _; rw [rnd_snoc, an], by show (a.rs ++ [o]).length = _; rw [List.length_append, List.length_append, al]; rfl, fun d => ?_⟩
    show d % (zl a.n l.days) = crt a.r a.n o l.days ↔ lotOf (ls ++ [l]) m d = (a.rs ++ [o], none)
    rw [day a ha o ho d]
    constructor
    · rintro ⟨e1, e2⟩
      rw [snoc d _ e1, e2]
      have : whoL l (1440 * d + m) = none := by
        rw [← who_day (d := d), e2]
        exact Option.isNone_iff_eq_none.mp hs
      rw [this]
    · intro e
      rw [lot_snoc] at e
      cases e2 : (lotOf ls m d).2 with
      | some w =>
        rw [e2] at e
        have e' : lotOf ls m d = (a.rs ++ [o], none) := e
        rw [e'] at e2
        cases e2
      | none =>
        rw [e2] at e
        have e3 := (Prod.mk.inj e).1
        obtain ⟨e4, e5⟩ := List.append_inj' e3 rfl
        exact ⟨Prod.ext e4 e2, (List.cons.inj e5).1⟩
  · rcases h.al d with z | ⟨a, ha, z⟩
    · left
      have e := (h.fd _ z).1
      rw [lot_snoc]
      cases e2 : (lotOf ls m d).2 with
      | none => rw [e2] at e; cases e
      | some w => exact List.mem_append_left _ z
    · obtain ⟨a0, a1, an, al, ad⟩ := h.ah a ha
      have np' : 0 < a.n := by omega
      have gp : 0 < zg a.n l.days := zg_pos (by omega)
      have ho : d % l.days ∈ onesL a.r (zg a.n l.days) l.days := by
        refine (ones_mem gp (zg_right a.n l.days) (by omega)).mpr ⟨Int.emod_nonneg _ (by omega), Int.emod_lt_of_pos _ (by omega), ?_⟩
        have e1 := (ad d).mpr z
        have g1 : zg a.n l.days ∣ d - a.r := Int.dvd_trans (zg_left a.n l.days) ⟨d / a.n, by have := Int.mul_ediv_add_emod d a.n; omega⟩
        have g2 : zg a.n l.days ∣ d - d % l.days := Int.dvd_trans (zg_right a.n l.days) ⟨d / l.days, by have := Int.mul_ediv_add_emod d l.days; omega⟩
        exact dvd_sub3 (dvd_sub_comm g1) g2
      rw [snoc d _ z]
      cases e : whoL l (1440 * d + m) with
      | some w =>
        left
        refine List.mem_append_right _ (List.mem_flatMap.mpr ⟨a, ha, List.mem_map.mpr ⟨d % l.days, List.mem_filter.mpr ⟨ho, ?_⟩, ?_⟩⟩)
        · unfold hdL; rw [who_day, e]; rfl
        · unfold hdL; rw [who_day, e]
      | none =>
        right
        refine ⟨ahN a l.days (d % l.days), List.mem_flatMap.mpr ⟨a, ha, List.mem_map.mpr ⟨d % l.days, List.mem_filter.mpr ⟨ho, ?_⟩, rfl⟩⟩, rfl⟩
        unfold hdL; rw [who_day, e]; rfl
theorem inv_stg {m : Int} : ∀ {ls pre : List Lyr} {s : List Lt × List Ah}, (∀ l ∈ pre ++ ls, 1 ≤ l.days) → Inv pre m s → Inv (pre ++ ls) m (stgF m ls s)
  | [], pre, s, _, h => by rw [List.append_nil]; exact h
  | l :: ls, pre, s, hd, h => by
    have := inv_stg (ls := ls) (pre := pre ++ [l]) (s := (s.1 ++ s.2.flatMap (fdL l m), s.2.flatMap (bhL l m))) (by rw [List.append_assoc]; exact hd) (inv_step (hd l (List.mem_append_right _ (.head _))) h fun k hk => hd k (List.mem_append_left _ hk))
    rw [List.append_assoc] at this
    exact this
/-- all lots of a piece, in the order in which they are found -/
noncomputable def rawL (ls : List Lyr) (m : Int) : List Lt := (stgF m ls ([], [⟨[], 0, 1⟩])).1 ++ (stgF m ls ([], [⟨[], 0, 1⟩])).2.map fun a => (a.rs, none)
theorem raw_inv {ls : List Lyr} {m : Int} (hd : ∀ l ∈ ls, 1 ≤ l.days) : Inv ls m (stgF m ls ([], [⟨[], 0, 1⟩])) := inv_stg (pre := []) hd inv_nil
theorem raw_nodup {ls : List Lyr} {m : Int} (hd : ∀ l ∈ ls, 1 ≤ l.days) : ((rawL ls m).map (·.1)).Nodup := by
  have := (raw_inv (m := m) hd).nd
  unfold rawL
  rw [List.map_append, List.map_map]
  exact this
theorem raw_mem {ls : List Lyr} {m : Int} (hd : ∀ l ∈ ls, 1 ≤ l.days) (x : Lt) : x ∈ rawL ls m ↔ ∃ d, lotOf ls m d = x := by
  have v := raw_inv (m := m) hd
  unfold rawL
  constructor
  · intro h
    rcases List.mem_append.mp h with z | z
    · exact (v.fd x z).2
    · obtain ⟨a, ha, rfl⟩ := List.mem_map.mp z
      obtain ⟨a0, a1, _, _, ad⟩ := v.ah a ha
      exact ⟨a.r, (ad a.r).mp (Int.emod_eq_of_lt a0 a1)⟩
  · rintro ⟨d, rfl⟩
    rcases v.al d with z | ⟨a, ha, z⟩
    · exact List.mem_append_left _ z
    · rw [z]; exact List.mem_append_right _ (List.mem_map.mpr ⟨a, ha, rfl⟩)
theorem rlt_eq : ∀ {xs ys : List Int}, HT.lexLt xs ys = rlt xs ys
  | [], [] => rfl
  | [], _ :: _ => rfl
  | _ :: _, [] => rfl
  | x :: xs, y :: ys => by
    rw [HT.lexLt_cons]
    unfold rlt
    rw [rlt_eq]
/-- all lots of a piece, rising -/
noncomputable def pcL (ls : List Lyr) (m : Int) : List Lt := (rawL ls m).mergeSort fun x y => !rlt y.1 x.1
theorem pc_perm {ls : List Lyr} {m : Int} : (pcL ls m).Perm (rawL ls m) := List.mergeSort_perm _ _
theorem up_of {xs : List Lt} (h : xs.Pairwise fun x y => (!rlt y.1 x.1) = true) (n : (xs.map (·.1)).Nodup) : Up xs := by
  have n' : xs.Pairwise fun x y => x.1 ≠ y.1 := List.pairwise_map.mp n
  refine List.Pairwise.imp (fun {x y} hh => ?_) (h.and n')
  rcases rlt_tri hh.2 with z | z
  · exact z
  · have := hh.1
    rw [z] at this
    cases this
theorem pc_ok {ls : List Lyr} {m : Int} (hd : ∀ l ∈ ls, 1 ≤ l.days) : IsPc ls m (pcL ls m) := by
  have n : ((pcL ls m).map (·.1)).Nodup := (pc_perm.map (·.1)).nodup_iff.mpr (raw_nodup hd)
  refine ⟨up_of (List.pairwise_mergeSort (fun a b c h h' => ?_) (fun a b => ?_) _) n, fun x => (pc_perm.mem_iff).trans (raw_mem hd x)⟩
  · cases e : rlt c.1 a.1 with
    | false => rfl
    | true =>
      have h1 : rlt b.1 a.1 = false := by simpa using h
      have h2 : rlt c.1 b.1 = false := by simpa using h'
      by_cases z : a.1 = b.1
      · rw [z, h2] at e; cases e
      · rcases rlt_tri z with y | y
        · rw [rlt_trans e y] at h2; cases h2
        · rw [y] at h1; cases h1
  · cases e : rlt b.1 a.1 with
    | false => rfl
    | true => rw [rlt_asym e]; rfl
theorem pc_len {ls : List Lyr} {m : Int} : (pcL ls m).length = (rawL ls m).length := pc_perm.length_eq
/-- what is sorted so is it -/
theorem pc_of {ls : List Lyr} {m : Int} (hd : ∀ l ∈ ls, 1 ≤ l.days) {xs : List Lt} (p : xs.Perm (rawL ls m)) (h : xs.Pairwise fun x y => HT.lexLt x.1 y.1 = true) : xs = pcL ls m := by
  refine IsPc.uniq (ls := ls) (m := m) ⟨List.Pairwise.imp (fun {x y} z => by rw [← rlt_eq]; exact z) h, fun x => p.mem_iff.trans (raw_mem hd x)⟩ (pc_ok hd)
/-! ### how many at each time -/
def cntS (s : List Lt × List Ah) : Nat := s.1.length + s.2.length
theorem stg_app {m : Int} : ∀ {ls ks : List Lyr} {s : List Lt × List Ah}, stgF m (ls ++ ks) s = stgF m ks (stgF m ls s)
  | [], _, _ => rfl
  | l :: ls, ks, s => stg_app (ls := ls) (ks := ks)
/-- each one on its way goes on in one way at least -/
theorem fb_pos {l : Lyr} (hl : 1 ≤ l.days) {m : Int} {a : Ah} (hn : 0 < a.n) : 1 ≤ (fdL l m a).length + (bhL l m a).length := by
  have gp : 0 < zg a.n l.days := zg_pos (by omega)
  have e0 := Int.emod_nonneg a.r (b := zg a.n l.days) (by omega)
  have e1 := Int.emod_lt_of_pos a.r gp
  have e2 := zg_le (a := a.n) (b := l.days) (by omega)
  have mo : a.r % zg a.n l.days ∈ onesL a.r (zg a.n l.days) l.days := (ones_mem gp (zg_right _ _) (by omega)).mpr ⟨e0, by omega, ⟨a.r / zg a.n l.days, by have := Int.mul_ediv_add_emod a.r (zg a.n l.days); omega⟩⟩
  unfold fdL bhL
  rw [List.length_map, List.length_map]
  cases e : hdL l m (a.r % zg a.n l.days) with
  | some w =>
    have : 0 < ((onesL a.r (zg a.n l.days) l.days).filter fun o => (hdL l m o).isSome).length := List.length_pos_of_mem (List.mem_filter.mpr ⟨mo, by rw [e]; rfl⟩)
    omega
  | none =>
    have : 0 < ((onesL a.r (zg a.n l.days) l.days).filter fun o => (hdL l m o).isNone).length := List.length_pos_of_mem (List.mem_filter.mpr ⟨mo, by rw [e]; rfl⟩)
    omega
theorem flat_len {α β γ : Type} {f : α → List β} {g : α → List γ} : ∀ {xs : List α}, (∀ x ∈ xs, 1 ≤ (f x).length + (g x).length) → xs.length ≤ (xs.flatMap f).length + (xs.flatMap g).length
  | [], _ => Nat.zero_le _
  | x :: xs, h => by
    have ih := flat_len (f := f) (g := g) (xs := xs) fun y hy => h y (.tail _ hy)
    have := h x (.head _)
    rw [List.flatMap_cons, List.flatMap_cons, List.length_append, List.length_append, List.length_cons]
    omega
/-- within a layer: a part of those on their way gone on -/
theorem cnt_part {l : Lyr} (hl : 1 ≤ l.days) {m : Int} {s : List Lt × List Ah} (hn : ∀ a ∈ s.2, 0 < a.n) {A B : List Ah} (e : s.2 = A ++ B) :
    (s.1 ++ A.flatMap (fdL l m)).length + (A.flatMap (bhL l m)).length ≤ cntS (s.1 ++ s.2.flatMap (fdL l m), s.2.flatMap (bhL l m)) := by
  unfold cntS
  rw [e, List.flatMap_append, List.flatMap_append]
  simp only [List.length_append]
  omega
theorem cnt_step {l : Lyr} (hl : 1 ≤ l.days) {m : Int} {s : List Lt × List Ah} (hn : ∀ a ∈ s.2, 0 < a.n) : cntS s ≤ cntS (s.1 ++ s.2.flatMap (fdL l m), s.2.flatMap (bhL l m)) := by
  have := flat_len (f := fdL l m) (g := bhL l m) (xs := s.2) fun a ha => fb_pos hl (hn a ha)
  unfold cntS
  simp only [List.length_append]
  omega
theorem bh_pos {l : Lyr} (hl : 1 ≤ l.days) {m : Int} {s : List Ah} (hn : ∀ a ∈ s, 0 < a.n) : ∀ a ∈ s.flatMap (bhL l m), 0 < a.n := fun b hb => by
  obtain ⟨a, ha, z⟩ := List.mem_flatMap.mp hb
  obtain ⟨o, _, rfl⟩ := List.mem_map.mp z
  exact zl_pos (hn a ha) (by omega)
theorem cnt_mono {m : Int} : ∀ {ls : List Lyr} {s : List Lt × List Ah}, (∀ l ∈ ls, 1 ≤ l.days) → (∀ a ∈ s.2, 0 < a.n) → cntS s ≤ cntS (stgF m ls s)
  | [], _, _, _ => Nat.le_refl _
  | l :: ls, s, hd, hn => Nat.le_trans (cnt_step (hd l (.head _)) hn) (cnt_mono (ls := ls) (fun k hk => hd k (.tail _ hk)) (bh_pos (hd l (.head _)) hn))
abbrev s0 : List Lt × List Ah := ([], [⟨[], 0, 1⟩])
theorem s0_pos : ∀ a ∈ s0.2, 0 < a.n := fun a ha => by rw [List.mem_singleton.mp ha]; decide
theorem raw_cnt {ls : List Lyr} {m : Int} : (rawL ls m).length = cntS (stgF m ls s0) := by
  unfold rawL cntS
  rw [List.length_append, List.length_map]
theorem pc_cnt {ls : List Lyr} {m : Int} : (pcL ls m).length = cntS (stgF m ls s0) := pc_len.trans raw_cnt
/-! ### data -/
@[reducible] def optS : Option Str → D
  | none => .none
  | some h => .str h
@[reducible] def intsD (ns : List Int) : D := .tuple (ns.map PyData.int)
@[reducible] def ltD (x : Lt) : D := .tuple [intsD x.1, optS x.2]
@[reducible] def ahD (a : Ah) : D := .tuple [intsD a.rs, .int a.r, .int a.n]
def hdsL (l : Lyr) (m : Int) : List D := (List.range l.days.toNat).map fun k => optS (hdL l m (k : Nat))
@[reducible] noncomputable def lgD (a : Ah) (l : Lyr) (m o : Int) : D := .tuple [intsD (a.rs ++ [o]), .int (crt a.r a.n o l.days), .int (zl a.n l.days), optS (hdL l m o)]
structure Lot where
  lo : Int
  hi : Int
  x : Lt
@[reducible] def lotD (q : Lot) : D := .tuple [.int q.lo, .int q.hi, intsD q.x.1, optS q.x.2]
theorem lf_optS {o : Option Str} : lfree (optS o) = true := by cases o <;> rfl
theorem lf_intsD {ns : List Int} : lfree (intsD ns) = true := lfree_tup fun d hd => by
  obtain ⟨x, _, rfl⟩ := List.mem_map.mp hd
  rfl
theorem lf_lot {q : Lot} : lfree (lotD q) = true := lfree_tup fun d hd => by
  simp only [List.mem_cons, List.not_mem_nil, or_false] at hd
  rcases hd with rfl | rfl | rfl | rfl
  · rfl
  · rfl
  · exact lf_intsD
  · exact lf_optS
theorem lf_lots {qs : List Lot} : lfree (.tuple (qs.map lotD)) = true := lfree_tup fun d hd => by
  obtain ⟨x, _, rfl⟩ := List.mem_map.mp hd
  exact lf_lot
/-! ### cuts -/
structure CutsOk (ls : List Lyr) (cs : List Int) : Prop where
  up : cs.Pairwise (· < ·)
  mem : ∀ k, k ∈ cs ↔ k = 0 ∨ k = 1440 ∨ ∃ l ∈ ls, ∃ u ∈ l.turns, k = (l.start + u.1) % 1440 ∨ k = (l.start + u.2.1) % 1440
theorem CutsOk.uniq {ls : List Lyr} {cs cs' : List Int} (h : CutsOk ls cs) (h' : CutsOk ls cs') : cs = cs' := CFEd.up_uniq h.up h'.up fun k => (h.mem k).trans (h'.mem k).symm
/-- in the order in which they are found -/
def cutsR (ls : List Lyr) : List Int := [0, 1440] ++ ls.flatMap fun l => l.turns.flatMap fun u => [(l.start + u.1) % 1440, (l.start + u.2.1) % 1440]
theorem cutsR_mem {ls : List Lyr} {k : Int} : k ∈ cutsR ls ↔ k = 0 ∨ k = 1440 ∨ ∃ l ∈ ls, ∃ u ∈ l.turns, k = (l.start + u.1) % 1440 ∨ k = (l.start + u.2.1) % 1440 := by
  unfold cutsR
  simp only [List.mem_append, List.mem_cons, List.not_mem_nil, or_false, List.mem_flatMap, or_assoc]
theorem cutsR_len {ls : List Lyr} (h : ∀ l ∈ ls, l.turns.length ≤ 12) : (cutsR ls).length ≤ 2 + 24 * ls.length := by
  unfold cutsR
  rw [List.length_append]
  have a : ∀ ts : List Trn, ∀ s : Int, (ts.flatMap fun u => [(s + u.1) % 1440, (s + u.2.1) % 1440]).length = 2 * ts.length := fun ts s => by
    induction ts with
    | nil => rfl
    | cons t ts ih => rw [List.flatMap_cons, List.length_append, ih, List.length_cons]; simp only [List.length_cons, List.length_nil]; omega
  have b : (ls.flatMap fun l => l.turns.flatMap fun u => [(l.start + u.1) % 1440, (l.start + u.2.1) % 1440]).length ≤ 24 * ls.length := by
    induction ls with
    | nil => exact Nat.zero_le _
    | cons l ls ih =>
      rw [List.flatMap_cons, List.length_append, a, List.length_cons]
      have := ih fun k hk => h k (.tail _ hk)
      have := h l (.head _)
      omega
  simp only [List.length_cons, List.length_nil]
  omega
/-! ### all pieces -/
noncomputable def cellL (ls : List Lyr) : List Int → List Lot
  | a :: b :: cs => (pcL ls a).map (fun x => ⟨a, b, x⟩) ++ cellL ls (b :: cs)
  | _ => []
/-- the rest of a lot's days, and their round -/
def clsN (ls : List Lyr) (k : Nat) : Int := rnd (ls.take k)
theorem lot_rests {m d : Int} : ∀ {ls : List Lyr}, (lotOf ls m d).1 = (ls.take (lotOf ls m d).1.length).map fun l => d % l.days
  | [] => rfl
  | l :: ls => by
    cases e : whoL l (1440 * d + m) with
    | some w => rw [lot_cons_some e]; rfl
    | none =>
      rw [lot_cons_none e]
      show _ :: _ = _ :: _
      exact congrArg _ lot_rests
theorem lot_class {ls : List Lyr} (hd : ∀ l ∈ ls, 1 ≤ l.days) {m d d' : Int} : d' % clsN ls (lotOf ls m d).1.length = d % clsN ls (lotOf ls m d).1.length ↔ lotOf ls m d' = lotOf ls m d := by
  have key : ∀ (ls : List Lyr), (∀ l ∈ ls, 1 ≤ l.days) → ((∀ l ∈ ls.take (lotOf ls m d).1.length, d' % l.days = d % l.days) ↔ lotOf ls m d' = lotOf ls m d) := by
    intro ls
    induction ls with
    | nil => intro _; exact ⟨fun _ => rfl, fun _ l hl => nomatch hl⟩
    | cons l ls ih =>
      intro hd
      cases e : whoL l (1440 * d + m) with
      | some w =>
        rw [lot_cons_some e]
        constructor
        · intro h
          have h1 := h l (.head _)
          have e' : whoL l (1440 * d' + m) = some w := by rw [← who_day (d := d'), h1, who_day, e]
          rw [lot_cons_some e', h1]
        · intro h k hk
          have ek : k = l := List.mem_singleton.mp hk
          rw [ek]
          cases e' : whoL l (1440 * d' + m) with
          | some w' => rw [lot_cons_some e'] at h; exact (List.cons.inj (Prod.mk.inj h).1).1
          | none => rw [lot_cons_none e'] at h; exact (List.cons.inj (Prod.mk.inj h).1).1
      | none =>
        rw [lot_cons_none e]
        constructor
        · intro h
          have h1 := h l (.head _)
          have e' : whoL l (1440 * d' + m) = none := by rw [← who_day (d := d'), h1, who_day, e]
          have := (ih fun k hk => hd k (.tail _ hk)).mp fun k hk => h k (.tail _ hk)
          rw [lot_cons_none e', h1, this]
        · intro h k hk
          have e0 : d' % l.days = d % l.days := by
            cases e' : whoL l (1440 * d' + m) with
            | some w' => rw [lot_cons_some e'] at h; exact (List.cons.inj (Prod.mk.inj h).1).1
            | none => rw [lot_cons_none e'] at h; exact (List.cons.inj (Prod.mk.inj h).1).1
          rcases List.mem_cons.mp hk with z | z
          · rw [z]; exact e0
          · have e' : whoL l (1440 * d' + m) = none := by rw [← who_day (d := d'), e0, who_day, e]
            rw [lot_cons_none e'] at h
            obtain ⟨h1, h2⟩ := Prod.mk.inj h
            exact (ih fun k hk => hd k (.tail _ hk)).mpr (Prod.ext (List.cons.inj h1).2 h2) k z
  rw [← key ls hd]
  generalize (lotOf ls m d).1.length = k
  have hp : 0 < clsN ls k := rnd_pos fun l hl => hd l (List.mem_of_mem_take hl)
  constructor
  · intro h l hl
    have dv : l.days ∣ clsN ls k := rnd_mem hl
    rw [← mod_dvd dv (d := d'), h, mod_dvd dv]
  · intro h
    refine (Int.emod_eq_emod_iff_emod_sub_eq_zero).mpr (Int.emod_eq_zero_of_dvd (rnd_least fun l hl => ?_))
    exact Int.dvd_of_emod_eq_zero ((Int.emod_eq_emod_iff_emod_sub_eq_zero).mp (h l hl))
/-! ### promises -/
def S_hand_at : SpD := fun as Q _ => ∃ (l : Lyr) (r : Int), as = [.v (lyrD l), .v (.int r)] ∧ 1 ≤ l.days ∧ l.turns.length ≤ 1000 ∧ Q (.v (optS (whoL l r))) as
def S_cuts_of : SpD := fun as Q _ => ∃ (ls : List Lyr), as = [.v (lyrsD ls)] ∧ (∀ l ∈ ls, l.turns.length ≤ 12) ∧ ls.length ≤ 100 ∧ ∀ cs : List Int, CutsOk ls cs → cs.length ≤ 2402 → cs.length ≤ 2 + 24 * ls.length → Q (.own 0 (.lst (cs.map PyData.int))) as
def S_rests_of : SpD := fun as Q _ => ∃ (l : Lyr) (m : Int), as = [.v (lyrD l), .v (.int m)] ∧ LoOk l ∧ Q (.own 0 (.lst (hdsL l m))) as
def S_longer : SpD := fun as Q _ => ∃ (a : Ah) (l : Lyr) (m : Int), as = [.v (ahD a), .v (.list (hdsL l m))] ∧ LoOk l ∧ 0 ≤ a.r ∧ a.r < a.n ∧ a.n ∣ L60 ∧ a.rs.length ≤ 500 ∧
  Q (.own 0 (.lst ((onesL a.r (zg a.n l.days) l.days).map (lgD a l m)))) as
def S_in_piece : SpD := fun as Q E => ∃ (ls : List Lyr) (m room : Int), as = [.v (lyrsD ls), .v (.int m), .v (.int room)] ∧ (∀ l ∈ ls, LoOk l) ∧ ls.length ≤ 200 ∧ (ls ≠ [] ∨ 0 < room) ∧ room ≤ 2000 ∧
  (((pcL ls m).length : Int) ≤ room → Q (.own 0 (.lst ((pcL ls m).map ltD))) as) ∧ (room < ((pcL ls m).length : Int) → E ⟨"TooMany", []⟩ as)
def S_cells : SpD := fun as Q E => ∃ (ls : List Lyr) (cs : List Int), as = [.v (lyrsD ls), .v (.list (cs.map PyData.int))] ∧ (∀ l ∈ ls, LoOk l) ∧ ls.length ≤ 200 ∧ (ls ≠ [] ∨ cs.length ≤ 2000) ∧ cs.length ≤ 10000 ∧ 1 ≤ cs.length ∧
  ((cellL ls cs).length ≤ 2000 → Q (.v (.tuple ((cellL ls cs).map lotD))) as) ∧ (2000 < (cellL ls cs).length → E ⟨"TooMany", []⟩ as)
def S_lots : SpD := fun as Q E => ∃ (ls : List Lyr), as = [.v (lyrsD ls)] ∧ (∀ l ∈ ls, LoOk l) ∧ ls.length ≤ 100 ∧ ∀ cs : List Int, CutsOk ls cs →
  ((cellL ls cs).length ≤ 2000 → Q (.v (.tuple ((cellL ls cs).map lotD))) as) ∧ (2000 < (cellL ls cs).length → E ⟨"TooMany", []⟩ as)
def S_class_of : SpD := fun as Q _ => ∃ (ls : List Lyr) (m d : Int), as = [.v (lyrsD ls), .v (intsD (lotOf ls m d).1)] ∧ (∀ l ∈ ls, LoOk l) ∧ ls.length ≤ 500 ∧
  Q (.v (.tuple [.int (d % clsN ls (lotOf ls m d).1.length), .int (clsN ls (lotOf ls m d).1.length)])) as
theorem hand_at_i {l : Lyr} {r : Int} {Q E} (h : 1 ≤ l.days) (ht : l.turns.length ≤ 1000) (q : Q (.v (optS (whoL l r))) [.v (lyrD l), .v (.int r)]) : S_hand_at [.v (lyrD l), .v (.int r)] Q E := ⟨l, r, rfl, h, ht, q⟩
theorem len_hand_at : ∀ as QD ED, S_hand_at as QD ED → as.length = 2 := by
  rintro as QD ED ⟨_, _, rfl, _⟩
  rfl
theorem len_cuts_of : ∀ as QD ED, S_cuts_of as QD ED → as.length = 1 := by
  rintro as QD ED ⟨_, rfl, _⟩
  rfl
theorem len_rests_of : ∀ as QD ED, S_rests_of as QD ED → as.length = 2 := by
  rintro as QD ED ⟨_, _, rfl, _⟩
  rfl
theorem len_longer : ∀ as QD ED, S_longer as QD ED → as.length = 2 := by
  rintro as QD ED ⟨_, _, _, rfl, _⟩
  rfl
theorem len_in_piece : ∀ as QD ED, S_in_piece as QD ED → as.length = 3 := by
  rintro as QD ED ⟨_, _, _, rfl, _⟩
  rfl
theorem len_cells : ∀ as QD ED, S_cells as QD ED → as.length = 2 := by
  rintro as QD ED ⟨_, _, rfl, _⟩
  rfl
theorem len_lots : ∀ as QD ED, S_lots as QD ED → as.length = 1 := by
  rintro as QD ED ⟨_, rfl, _⟩
  rfl
theorem len_class_of : ∀ as QD ED, S_class_of as QD ED → as.length = 2 := by
  rintro as QD ED ⟨_, _, _, rfl, _⟩
  rfl
end CFLo

set_option Elab.async false
set_option linter.all false
set_option maxRecDepth 100000
set_option maxHeartbeats 4000000
/-! CFLc: the laws' own cuts of the day; within a piece a layer has one turn -/
namespace CFLc
open PySem PySem.Spec PyProof.Rows L2 DL CFH CFCl CFRu CFWd CFBk CFTu CFRb CFSp CFLo
def S_law_cuts : SpD := fun as Q _ => ∃ (ls : List Lyr), as = [.v (lyrsD ls)] ∧ (∀ l ∈ ls, l.turns.length ≤ 12) ∧ ls.length ≤ 100 ∧ ∀ cs : List Int, CutsOk ls cs → cs.length ≤ 2402 → cs.length ≤ 2 + 24 * ls.length → Q (.own 0 (.lst (cs.map PyData.int))) as
theorem len_law_cuts : ∀ as QD ED, S_law_cuts as QD ED → as.length = 1 := by
  rintro as QD ED ⟨_, rfl, _⟩
  rfl
/-- turns within a round -/
def TrnIn (M : Int) (u : Trn) : Prop := 0 ≤ u.1 ∧ u.1 < u.2.1 ∧ u.2.1 ≤ M
theorem lo_of {l : Lyr} (h : LyrOk l) : LoOk l := by
  have go : ∀ (ts : List Trn) (lo : Int), 0 ≤ lo → TrnsOk (1440 * l.days) lo ts → (∀ u ∈ ts, WordOk u.2.2) ∧ ∀ u ∈ ts, TrnIn (1440 * l.days) u := by
    intro ts
    induction ts with
    | nil => exact fun lo _ _ => ⟨(fun u hu => nomatch hu), (fun u hu => nomatch hu)⟩
    | cons t ts ih =>
      rintro lo h0 ⟨a1, a2, a3, a4, a5⟩
      obtain ⟨b1, b2⟩ := ih t.2.1 (by omega) a5
      refine ⟨fun u hu => ?_, fun u hu => ?_⟩
      · rcases List.mem_cons.mp hu with e | hu
        · rw [e]; exact a4
        · exact b1 u hu
      · rcases List.mem_cons.mp hu with e | hu
        · rw [e]; exact ⟨by omega, a2, a3⟩
        · exact b2 u hu
  obtain ⟨b1, b2⟩ := go l.turns 0 (Int.le_refl 0) h.ts
  exact ⟨h.wd, b1, h.d1, h.d60, h.n12, b2⟩
theorem place_next {l : Lyr} (hd : 1 ≤ l.days) (x : Int) : placeL l (x + 1) = if placeL l x + 1 = 1440 * l.days then 0 else placeL l x + 1 := by
  have e := place_ge hd x
  have f := place_lt hd x
  unfold placeL at *
  have e1 : x + 1 - l.start = (x - l.start) + 1 := by omega
  rw [e1, Int.add_emod]
  have e2 : (1 : Int) % (1440 * l.days) = 1 := Int.emod_eq_of_lt (by omega) (by omega)
  rw [e2]
  split
  · rename_i z
    rw [z, Int.emod_self]
  · exact Int.emod_eq_of_lt (by omega) (by omega)
/-- where a turn begins or ends, there a cut lies -/
theorem turn_edge {l : Lyr} (hd : 1 ≤ l.days) {u : Trn} (hu : TrnIn (1440 * l.days) u) {x : Int} (h : inP (placeL l (x + 1)) u ≠ inP (placeL l x) u) : (x + 1) % 1440 = (l.start + u.1) % 1440 ∨ (x + 1) % 1440 = (l.start + u.2.1) % 1440 := by
  obtain ⟨u0, u1, u2⟩ := hu
  have e := place_ge hd x
  have f := place_lt hd x
  have key : placeL l (x + 1) = u.1 ∨ placeL l (x + 1) = u.2.1 ∨ (placeL l (x + 1) = 0 ∧ u.2.1 = 1440 * l.days) := by
    rw [place_next hd] at h ⊢
    unfold inP at h
    split at h
    · rename_i z
      rw [if_pos z]
      by_cases a : u.1 = 0
      · left; omega
      · by_cases b : u.2.1 = 1440 * l.days
        · right; right; exact ⟨rfl, b⟩
        · exfalso
          apply h
          rw [decide_eq_decide]
          omega
    · rename_i z
      rw [if_neg z]
      by_cases a : placeL l x + 1 = u.1
      · left; exact a
      · by_cases b : placeL l x + 1 = u.2.1
        · right; left; exact b
        · exfalso
          apply h
          rw [decide_eq_decide]
          omega
  have pm : (x + 1) % 1440 = (l.start + placeL l (x + 1)) % 1440 := by
    have : (x + 1 - l.start) = 1440 * l.days * ((x + 1 - l.start) / (1440 * l.days)) + placeL l (x + 1) := by
      unfold placeL
      have := Int.mul_ediv_add_emod (x + 1 - l.start) (1440 * l.days)
      omega
    rw [Int.mul_assoc] at this
    generalize l.days * ((x + 1 - l.start) / (1440 * l.days)) = q at this
    omega
  rcases key with z | z | ⟨z, z2⟩
  · left; rw [pm, z]
  · right; rw [pm, z]
  · right
    rw [pm, z, z2]
    omega
/-- consecutive cuts -/
def Next (cs : List Int) (a b : Int) : Prop := a ∈ cs ∧ b ∈ cs ∧ a < b ∧ ∀ c ∈ cs, ¬ (a < c ∧ c < b)
theorem cuts_bd {ls : List Lyr} {cs : List Int} (h : CutsOk ls cs) : ∀ c ∈ cs, 0 ≤ c ∧ c ≤ 1440 := fun c hc => by
  rcases (h.mem c).mp hc with e | e | ⟨l, _, u, _, e | e⟩
  · omega
  · omega
  · rw [e]; have := Int.emod_nonneg (l.start + u.1) (b := 1440) (by decide); have := Int.emod_lt_of_pos (l.start + u.1) (b := 1440) (by decide); omega
  · rw [e]; have := Int.emod_nonneg (l.start + u.2.1) (b := 1440) (by decide); have := Int.emod_lt_of_pos (l.start + u.2.1) (b := 1440) (by decide); omega
theorem zip_next : ∀ {cs : List Int}, cs.Pairwise (· < ·) → ∀ p ∈ cs.zip (cs.drop 1), Next cs p.1 p.2
  | [], _, p, h => by cases h
  | [_], _, p, h => by cases h
  | a :: b :: cs, hp, p, h => by
    obtain ⟨h1, h2⟩ := List.pairwise_cons.mp hp
    obtain ⟨h3, h4⟩ := List.pairwise_cons.mp h2
    rcases List.mem_cons.mp (show p ∈ (a, b) :: (b :: cs).zip ((b :: cs).drop 1) from h) with e | h
    · rw [e]
      refine ⟨.head _, .tail _ (.head _), h1 b (.head _), fun c hc z => ?_⟩
      rcases List.mem_cons.mp hc with y | hc
      · have := z.1; omega
      · rcases List.mem_cons.mp hc with y | hc
        · have := z.2; omega
        · have := h3 c hc; have := z.2; show False; omega
    · obtain ⟨n1, n2, n3, n4⟩ := zip_next (cs := b :: cs) h2 p h
      refine ⟨.tail _ n1, .tail _ n2, n3, fun c hc z => ?_⟩
      rcases List.mem_cons.mp hc with y | hc
      · have : a < p.1 := h1 _ n1
        have := z.1
        omega
      · exact n4 c hc z
/-- within a piece each turn is there, or not -/
theorem piece_in {ls : List Lyr} {cs : List Int} (hc : CutsOk ls cs) {a b : Int} (hn : Next cs a b) {l : Lyr} (hl : l ∈ ls) (hd : 1 ≤ l.days) {u : Trn} (hu : u ∈ l.turns) (ht : TrnIn (1440 * l.days) u) (d : Int) :
    ∀ (k : Nat), a + (k : Nat) < b → inP (placeL l (1440 * d + (a + (k : Nat)))) u = inP (placeL l (1440 * d + a)) u
  | 0, _ => by rw [show a + ((0 : Nat) : Int) = a by omega]
  | k + 1, h => by
    have ih := piece_in hc hn hl hd hu ht d k (by omega)
    obtain ⟨n1, n2, n3, n4⟩ := hn
    have ba := cuts_bd hc a n1
    have bb := cuts_bd hc b n2
    rw [← ih]
    by_cases z : inP (placeL l (1440 * d + (a + ((k + 1 : Nat) : Int)))) u = inP (placeL l (1440 * d + (a + (k : Nat)))) u
    · exact z
    · exfalso
      have e : 1440 * d + (a + ((k + 1 : Nat) : Int)) = (1440 * d + (a + (k : Nat))) + 1 := by omega
      rw [e] at z
      have m0 : (1440 * d + (a + (k : Nat)) + 1) % 1440 = a + (k : Nat) + 1 := by omega
      have tm := turn_edge hd ht z
      rw [m0] at tm
      have inC : a + (k : Nat) + 1 ∈ cs := (hc.mem _).mpr (.inr (.inr ⟨l, hl, u, hu, tm⟩))
      exact n4 _ inC ⟨by omega, by omega⟩
theorem turnG_congr {p q : Int} : ∀ {ts : List Trn} {j : Nat}, (∀ u ∈ ts, inP p u = inP q u) → turnG p j ts = turnG q j ts
  | [], _, _ => rfl
  | t :: ts, j, h => by
    have h1 := h t (.head _)
    unfold inP at h1
    rw [decide_eq_decide] at h1
    unfold turnG
    rw [turnG_congr (ts := ts) fun u hu => h u (.tail _ hu)]
    by_cases z : t.1 ≤ p ∧ p < t.2.1
    · rw [if_pos z, if_pos (h1.mp z)]
    · rw [if_neg z, if_neg fun y => z (h1.mpr y)]
theorem piece_turn {ls : List Lyr} {cs : List Int} (hc : CutsOk ls cs) {a b : Int} (hn : Next cs a b) {l : Lyr} (hl : l ∈ ls) (ho : LoOk l) {d m : Int} (h0 : a ≤ m) (h1 : m < b) : turnL l (1440 * d + m) = turnL l (1440 * d + a) := by
  obtain ⟨k, hk⟩ := Int.eq_ofNat_of_zero_le (show 0 ≤ m - a by omega)
  have e : m = a + (k : Nat) := by omega
  subst e
  exact turnG_congr fun u hu => piece_in hc hn hl ho.d1 hu (ho.bd u hu) d k h1
theorem piece_who {ls : List Lyr} {cs : List Int} (hc : CutsOk ls cs) {a b : Int} (hn : Next cs a b) {l : Lyr} (hl : l ∈ ls) (ho : LoOk l) {d m : Int} (h0 : a ≤ m) (h1 : m < b) : whoL l (1440 * d + m) = whoL l (1440 * d + a) := by
  rw [turn_who, turn_who, piece_turn hc hn hl ho h0 h1]
theorem words_at {ws : List Str} {j : Int} (h0 : 0 ≤ j) (h1 : j < ws.length) : ∃ w, atI (ws.map PyData.str) j = some (.str w) ∧ w ∈ ws := by
  obtain ⟨d, e, m⟩ := atI_mem (ds := ws.map PyData.str) h0 (by rw [List.length_map]; exact h1)
  obtain ⟨w, hw, rfl⟩ := List.mem_map.mp m
  exact ⟨w, e, hw⟩
/-- the pieces, by their numbers -/
theorem pairs_range {cs : List Int} {f : Int × Int → D} : (List.range (cs.length - 1)).map (fun k => f (cs.getD k 0, cs.getD (k + 1) 0)) = (cs.zip (cs.drop 1)).map f := by
  refine List.ext_getElem? fun i => ?_
  rw [List.getElem?_map, List.getElem?_map]
  by_cases h : i < cs.length - 1
  · rw [List.getElem?_range h, List.getElem?_eq_getElem (l := cs.zip (cs.drop 1)) (by rw [List.length_zip, List.length_drop]; omega)]
    rw [List.getElem_zip, List.getElem_drop, Option.map_some, Option.map_some]
    have e1 : cs.getD i 0 = cs[i] := by rw [List.getD_eq_getElem?_getD, List.getElem?_eq_getElem (by omega)]; rfl
    have e2 : cs.getD (i + 1) 0 = cs[1 + i] := by rw [List.getD_eq_getElem?_getD, List.getElem?_eq_getElem (by omega)]; show cs[i + 1] = _; congr 1; omega
    rw [e1, e2]
  · rw [List.getElem?_eq_none (by rw [List.length_range]; omega), List.getElem?_eq_none (by rw [List.length_zip, List.length_drop]; omega)]
    rfl
theorem cs_at {cs : List Int} {k : Nat} (h : k < cs.length) : atI (cs.map PyData.int) (k : Int) = some (.int (cs.getD k 0)) := by
  refine L2.atI_nat ?_
  rw [List.getElem?_map, List.getD_eq_getElem?_getD, List.getElem?_eq_getElem h]
  rfl
end CFLc

set_option Elab.async false
set_option linter.all false
set_option maxRecDepth 100000
set_option maxHeartbeats 4000000
/-! CFLy: a drawn layer -/
namespace CFLy
open PySem PySem.Spec PyProof.Rows L2 DL CFH CFCl CFRu CFWd CFBk CFCg
def S_law_minute : SpD := fun as Q _ => ∃ (h : Hd) (n : Nat) (m : Int), as = [hc h, .v (.int m)] ∧ h.ok n ∧ n ≤ 800000 ∧ 1 ≤ m ∧ m ≤ 1000 ∧ ∀ (h' : Hd) (x : Int), h'.ok (n + 4) → 0 ≤ x → x ≤ 1440 * m → Q (.v (.int x)) [hc h', .v (.int m)]
def S_law_layer : SpD := fun as Q _ => ∃ (h : Hd) (n : Nat) (wd : Str) (ws : List Str) (days most : Int), as = [hc h, .v (.str wd), .v (wsD ws), .v (.int days), .v (.int most)] ∧ h.ok n ∧ n ≤ 600000 ∧ WordOk wd ∧ 0 < ws.length ∧ ws.length ≤ 1000 ∧ (∀ w ∈ ws, WordOk w) ∧ 1 ≤ days ∧ days ≤ 60 ∧ 0 ≤ most ∧ most ≤ 12 ∧
  ∀ (h' : Hd) (l : Lyr), h'.ok (n + 200) → LyrOk l → l.word = wd → l.days = days → (∀ t ∈ l.turns, t.2.2 ∈ ws) → ((l.turns.length : Int) ≤ most ∨ l.turns.length ≤ 1) → Q (.v (lyrD l)) [hc h', .v (.str wd), .v (wsD ws), .v (.int days), .v (.int most)]
theorem minute_i {h : Hd} {n : Nat} {m : Int} {Q E} (o : h.ok n) (hn : n ≤ 800000) (m1 : 1 ≤ m) (m2 : m ≤ 1000) (q : ∀ (h' : Hd) (x : Int), h'.ok (n + 4) → 0 ≤ x → x ≤ 1440 * m → Q (.v (.int x)) [hc h', .v (.int m)]) : S_law_minute [hc h, .v (.int m)] Q E := ⟨h, n, m, rfl, o, hn, m1, m2, q⟩
theorem layer_i {h : Hd} {n : Nat} {wd : Str} {ws : List Str} {days most : Int} {Q E} (o : h.ok n) (hn : n ≤ 600000) (hw : WordOk wd) (w0 : 0 < ws.length) (w1 : ws.length ≤ 1000) (hws : ∀ w ∈ ws, WordOk w) (d1 : 1 ≤ days) (d2 : days ≤ 60) (m0 : 0 ≤ most) (m1 : most ≤ 12)
  (q : ∀ (h' : Hd) (l : Lyr), h'.ok (n + 200) → LyrOk l → l.word = wd → l.days = days → (∀ t ∈ l.turns, t.2.2 ∈ ws) → ((l.turns.length : Int) ≤ most ∨ l.turns.length ≤ 1) → Q (.v (lyrD l)) [hc h', .v (.str wd), .v (wsD ws), .v (.int days), .v (.int most)]) : S_law_layer [hc h, .v (.str wd), .v (wsD ws), .v (.int days), .v (.int most)] Q E := ⟨h, n, wd, ws, days, most, rfl, o, hn, hw, w0, w1, hws, d1, d2, m0, m1, q⟩
theorem len_law_minute : ∀ as QD ED, S_law_minute as QD ED → as.length = 2 := by
  rintro as QD ED ⟨_, _, _, rfl, _⟩
  rfl
theorem len_law_layer : ∀ as QD ED, S_law_layer as QD ED → as.length = 5 := by
  rintro as QD ED ⟨_, _, _, _, _, _, rfl, _⟩
  rfl
theorem trns_app {most : Int} : ∀ {lo : Int} {ts : List Trn} {t : Trn}, TrnsOk most lo ts → (∀ u ∈ ts, u.2.1 ≤ t.1) → lo ≤ t.1 → t.1 < t.2.1 → t.2.1 ≤ most → WordOk t.2.2 → TrnsOk most lo (ts ++ [t])
  | _, [], _, _, _, h1, h2, h3, h4 => ⟨h1, h2, h3, h4, trivial⟩
  | _, u :: ts, t, h, hu, h1, h2, h3, h4 => ⟨h.1, h.2.1, h.2.2.1, h.2.2.2.1, trns_app h.2.2.2.2 (fun v hv => hu v (.tail _ hv)) (hu u (.head _)) h2 h3 h4⟩
end CFLy

set_option Elab.async false
set_option linter.all false
set_option maxRecDepth 100000
set_option maxHeartbeats 4000000
/-! k39: the promises -/
namespace K39
open PySem PySem.Spec PyProof.Rows L2 DL CFH CFCl CFRu CFWd CFBk CFTu CFRb CFSp CFLo CFLc
@[reducible] def pcD (p : Int × Int) : D := .tuple [.int p.1, .int p.2]
def S_pieces : SpD := fun as Q _ => ∃ (ls : List Lyr), as = [.v (lyrsD ls)] ∧ (∀ l ∈ ls, l.turns.length ≤ 12) ∧ ls.length ≤ 100 ∧ ∀ cs : List Int, CutsOk ls cs → cs.length ≤ 2402 → Q (.v (.tuple ((cs.zip (cs.drop 1)).map pcD))) as
def S_law_drawn : SpD := fun as Q _ => ∃ (h : Hd) (n : Nat), as = [hc h] ∧ h.ok n ∧ n ≤ 100 ∧ ∀ (h' : Hd) (ls : List Lyr), h'.ok (n + 40000) → (∀ l ∈ ls, LyrOk l) → ls.length ≤ 80 → Q (.v (lyrsD ls)) [hc h']
def S_law_one_turn : SpD := fun as Q _ => ∃ (h : Hd) (n : Nat) (l : Lyr) (a b : Int), as = [hc h, .v (lyrD l), .v (.int a), .v (.int b)] ∧ h.ok n ∧ n ≤ 200000 ∧ LyrOk l ∧ (∀ d, turnL l (1440 * d + b - 1) = turnL l (1440 * d + a)) ∧
  ∀ h' : Hd, h'.ok (n + 10) → Q (.v (.bool true)) [hc h', .v (lyrD l), .v (.int a), .v (.int b)]
def S_law : SpD := fun as Q _ => ∃ ns : List Int, as = [.v (.list (ns.map PyData.int))] ∧ ns.length ≤ 63 ∧ ∀ rs, Q (.v (.bool true)) rs
theorem law_in : ∀ ns : List Int, ns.length ≤ 63 → S_law [.v (.list (ns.map PyData.int))] (fun c _ => c = .v (.bool true)) (fun _ _ => False) := fun ns h => ⟨ns, rfl, h, fun _ => rfl⟩
theorem len_pieces : ∀ as QD ED, S_pieces as QD ED → as.length = 1 := by
  rintro as QD ED ⟨_, rfl, _⟩
  rfl
theorem len_law_drawn : ∀ as QD ED, S_law_drawn as QD ED → as.length = 1 := by
  rintro as QD ED ⟨_, _, rfl, _⟩
  rfl
theorem len_law_one_turn : ∀ as QD ED, S_law_one_turn as QD ED → as.length = 4 := by
  rintro as QD ED ⟨_, _, _, _, _, rfl, _⟩
  rfl
theorem len_law : ∀ as QD ED, S_law as QD ED → as.length = 1 := by
  rintro as QD ED ⟨_, rfl, _⟩
  rfl
end K39

set_option Elab.async false
set_option linter.all false
set_option maxRecDepth 100000
set_option maxHeartbeats 4000000
/-! DL: a, b, c = x, y, z -/
namespace DL
open PySem PySem.Spec PyProof.Rows L2
section
variable {X : Cx} {g : G} {W : WX}
/-- a, b, c = x, y, z (plain names) -/
@[reducible] def wPar3 (i j l : Nat) (wa : WA) : WS := fun DD ρ => wa ρ (fun cs ρ1 => match frzs cs with
  | [.v d1, .v d2, .v d3] => DD.nx (rset (rset (rset ρ1 l (.v d3)) j (.v d2)) i (.v d1))
  | _ => False) DD.ex
theorem es_par3 {i j l : Nat} {x y z : Str} {a b c : Expr} {wa : WA} {px py pz pt spos : Pos} {kt k2 pt2} (hc : X.calm = true) (hN : X.N.Nodup) (hi : X.N[i]? = some x) (hj : X.N[j]? = some y) (hl : X.N[l]? = some z) (hij : i ≠ j) (hil : i ≠ l) (hjl : j ≠ l)
    (hx : X.env.scope.names.lookup x = some .local) (hy : X.env.scope.names.lookup y = some .local) (hz : X.env.scope.names.lookup z = some .local) (ha : EA X g W [a, b, c] wa)
    (hw : swappedStores [.Tuple [.Name x px, .Name y py, .Name z pz] kt pt] (.Tuple [a, b, c] k2 pt2) X.env = pure (some [x, y, z]))
    (hs : swapsWithSole [.Tuple [.Name x px, .Name y py, .Name z pz] kt pt] (.Tuple [a, b, c] k2 pt2) spos.line X.env = pure false := by rfl) :
    ES X g W (.Assign [.Tuple [.Name x px, .Name y py, .Name z pz] kt pt] (.Tuple [a, b, c] k2 pt2) spos) (wPar3 i j l wa) := by
  obtain ⟨t, q, s⟩ := ha.ex
  refine ⟨_, ps_par3 hc hN hi hj hl hij hil hjl hx hy hz q hw hs, fun σ vs H ρ cs DD D hS hp hw hE => ?_⟩
  refine s σ vs H ρ cs _ _ _ hS hw (hE.ex σ) fun xs H1 ccs ρ1 hl S1 q1 => ?_
  split at q1
  · rename_i d1 d2 d3 ec
    rw [frzs_eq] at ec
    have S2 := S1.frzArgs hl
    rw [ec] at S2
    have hlen : ccs.length = 3 := by have := congrArg List.length ec; simpa using this
    match xs, hl with
    | [u, v, w], _ =>
      refine ⟨u, v, w, rfl, ?_⟩
      have S3 : SR X.K g σ (w :: (u :: v :: vs)) H1 ρ1 (.v d3 :: (.v d1 :: .v d2 :: cs)) := SR.rot (xs := [u, v]) (ccs := [.v d1, .v d2]) rfl S2
      have S4 := S3.store (i := l) rfl (fun k z => ((hp.cons (c := .v d2) rfl).cons (c := .v d1) rfl).nopk z)
      have S5 := (SR.rot (xs := [u]) (ccs := [.v d1]) rfl S4).store (i := j) rfl (fun k z => (hp.cons (c := .v d1) rfl).nopk z)
      have S6 := S5.store (i := i) rfl (fun k z => hp.nopk z)
      rw [List.set_comm _ _ (Ne.symm hjl), List.set_comm _ _ (Ne.symm hil), List.set_comm _ _ (Ne.symm hij)] at S6
      exact hE.nx _ H1 _ S6 q1
    | [], h => simp at h; omega
    | [_], h => simp at h; omega
    | [_, _], h => simp at h; omega
    | _ :: _ :: _ :: _ :: _, h => simp at h; omega
  · exact q1.elim
@[reducible] def kc : Bool → C → C
  | true, c => c
  | false, c => frzC c
theorem SR.kcTop {K : PySem.W.Frag} {σ : L2.St} {vs : List V} {H : Hp} {ρ : Rho} {cs : List C} {x : V} {c : C} (o : Bool) (h : SR K g σ (x :: vs) H ρ (c :: cs)) : SR K g σ (x :: vs) H ρ (kc o c :: cs) := by
  cases o
  · exact h.frzTop
  · exact h
/-- a, b = x, y (plain names), what is made here stays an own object where it is wanted -/
@[reducible] def wParO (oi oj : Bool) (i j : Nat) (wa : WA) : WS := fun DD ρ => wa ρ (fun cs ρ1 => match cs with
  | [c1, c2] => (kc oi c1).plain = true ∧ (kc oj c2).plain = true ∧ DD.nx (rset (rset ρ1 j (kc oj c2)) i (kc oi c1))
  | _ => False) DD.ex
theorem es_parO {oi oj : Bool} {i j : Nat} {x y : Str} {a b : Expr} {wa : WA} {px py pt spos : Pos} {kt k2 pt2} (hc : X.calm = true) (hN : X.N.Nodup) (hi : X.N[i]? = some x) (hj : X.N[j]? = some y) (hij : i ≠ j)
    (hx : X.env.scope.names.lookup x = some .local) (hy : X.env.scope.names.lookup y = some .local) (ha : EA X g W [a, b] wa)
    (hw : swappedStores [.Tuple [.Name x px, .Name y py] kt pt] (.Tuple [a, b] k2 pt2) X.env = pure (some [x, y]))
    (hs : swapsWithSole [.Tuple [.Name x px, .Name y py] kt pt] (.Tuple [a, b] k2 pt2) spos.line X.env = pure false := by rfl) :
    ES X g W (.Assign [.Tuple [.Name x px, .Name y py] kt pt] (.Tuple [a, b] k2 pt2) spos) (wParO oi oj i j wa) := by
  obtain ⟨t, q, s⟩ := ha.ex
  refine ⟨_, ps_par hc hN hi hj hij hx hy q hw hs, fun σ vs H ρ cs DD D hS hp hw hE => ?_⟩
  refine s σ vs H ρ cs _ _ _ hS hw (hE.ex σ) fun xs H1 ccs ρ1 hl S1 q1 => ?_
  split at q1
  · rename_i c1 c2
    match xs, hl with
    | [u, v], _ =>
      refine ⟨u, v, rfl, ?_⟩
      obtain ⟨p1, p2, q1⟩ := q1
      have S2 := S1.kcTop oi
      have S3 : SR X.K g σ (v :: (u :: vs)) H1 ρ1 (c2 :: (kc oi c1 :: cs)) := SR.rot (xs := [u]) (ccs := [kc oi c1]) rfl S2
      have S4 := (S3.kcTop oj).store (i := j) p2 (fun k z => (hp.cons p1).nopk z)
      have S5 := S4.store (i := i) p1 (fun k z => hp.nopk z)
      rw [List.set_comm _ _ (Ne.symm hij)] at S5
      exact hE.nx _ H1 _ S5 q1
  · exact q1.elim
/-- the same of three -/
@[reducible] def wPar3O (oi oj ol : Bool) (i j l : Nat) (wa : WA) : WS := fun DD ρ => wa ρ (fun cs ρ1 => match cs with
  | [c1, c2, c3] => (kc oi c1).plain = true ∧ (kc oj c2).plain = true ∧ (kc ol c3).plain = true ∧ DD.nx (rset (rset (rset ρ1 l (kc ol c3)) j (kc oj c2)) i (kc oi c1))
  | _ => False) DD.ex
theorem es_par3O {oi oj ol : Bool} {i j l : Nat} {x y z : Str} {a b c : Expr} {wa : WA} {px py pz pt spos : Pos} {kt k2 pt2} (hc : X.calm = true) (hN : X.N.Nodup) (hi : X.N[i]? = some x) (hj : X.N[j]? = some y) (hl : X.N[l]? = some z) (hij : i ≠ j) (hil : i ≠ l) (hjl : j ≠ l)
    (hx : X.env.scope.names.lookup x = some .local) (hy : X.env.scope.names.lookup y = some .local) (hz : X.env.scope.names.lookup z = some .local) (ha : EA X g W [a, b, c] wa)
    (hw : swappedStores [.Tuple [.Name x px, .Name y py, .Name z pz] kt pt] (.Tuple [a, b, c] k2 pt2) X.env = pure (some [x, y, z]))
    (hs : swapsWithSole [.Tuple [.Name x px, .Name y py, .Name z pz] kt pt] (.Tuple [a, b, c] k2 pt2) spos.line X.env = pure false := by rfl) :
    ES X g W (.Assign [.Tuple [.Name x px, .Name y py, .Name z pz] kt pt] (.Tuple [a, b, c] k2 pt2) spos) (wPar3O oi oj ol i j l wa) := by
  obtain ⟨t, q, s⟩ := ha.ex
  refine ⟨_, ps_par3 hc hN hi hj hl hij hil hjl hx hy hz q hw hs, fun σ vs H ρ cs DD D hS hp hw hE => ?_⟩
  refine s σ vs H ρ cs _ _ _ hS hw (hE.ex σ) fun xs H1 ccs ρ1 hl S1 q1 => ?_
  split at q1
  · rename_i c1 c2 c3
    match xs, hl with
    | [u, v, w], _ =>
      refine ⟨u, v, w, rfl, ?_⟩
      obtain ⟨p1, p2, p3, q1⟩ := q1
      have S2 : SR X.K g σ (v :: (u :: w :: vs)) H1 ρ1 (c2 :: (kc oi c1 :: c3 :: cs)) := SR.rot (xs := [u]) (ccs := [kc oi c1]) rfl (S1.kcTop oi)
      have S3 : SR X.K g σ (w :: (v :: u :: vs)) H1 ρ1 (c3 :: (kc oj c2 :: kc oi c1 :: cs)) := SR.rot (xs := [v, u]) (ccs := [kc oj c2, kc oi c1]) rfl (S2.kcTop oj)
      have S4 := (S3.kcTop ol).store (i := l) p3 (fun k z => ((hp.cons p1).cons p2).nopk z)
      have S5 := S4.store (i := j) p2 (fun k z => (hp.cons p1).nopk z)
      have S6 := S5.store (i := i) p1 (fun k z => hp.nopk z)
      rw [List.set_comm _ _ (Ne.symm hjl), List.set_comm _ _ (Ne.symm hil), List.set_comm _ _ (Ne.symm hij)] at S6
      exact hE.nx _ H1 _ S6 q1
  · exact q1.elim
end
end DL

set_option Elab.async false
set_option linter.all false
set_option maxRecDepth 100000
set_option maxHeartbeats 4000000

/-! generated: the readings of the defs of k39 -/
namespace K39
open PySem PySem.Spec PyProof.Rows L2 DL CFTu CFLo CFH CFWd CFLy CFLc
def L_pieces : Nat → Bool := fun j => ([] : List Nat).contains j
/-- pieces: 0 layers, 1 cuts, 2 #0, 3 low, 4 high -/
def w_pieces : WS := wSeq (wSetF 1 (wCall CFLo.S_cuts_of (wCons (wVar 0) wNil)))
    (wRet (wL oTuple (wCons (wLcB [3, 4] (wIZip (wCons (wVar 1) (wCons (wSl (wVar 1) (wPart (wC (.int 1))) wNoPart) wNil))) (wgTup 2 (wgCons (wgName 3) (wgCons (wgName 4) wgNil))) wYes (wL oTup (wCons (wVar 3) (wCons (wVar 4) wNil)))) wNil)))
def n_pieces : Nat := 5
def L_law_drawn : Nat → Bool := fun j => [0, 5].contains j
/-- _law_drawn: 0 _law_hand_here, 1 _law_names, 2 _law_words_here, 3 _law_most, 4 _law_many, 5 _law_found, 6 _law_k, 7 _law_days -/
def w_law_drawn : WS := wSeq (wSetF 1 (wCall CFWd.S_law_words (wCons (wPk 0) (wCons (wC (.int 6)) wNil))))
    (wSeq (wPar 2 3 (wCons (wL oLst (wCons (wB oIx (wVar 1) (wC (.int 0))) (wCons (wB oIx (wVar 1) (wC (.int 0))) (wCons (wB oIx (wVar 1) (wC (.int 1))) (wCons (wB oIx (wVar 1) (wC (.int 2))) wNil))))) (wCons (wCall CFH.S_law_pick (wCons (wPk 0) (wCons (wL oLst (wCons (wC (.int 1)) (wCons (wC (.int 3)) (wCons (wC (.int 6)) (wCons (wC (.int 12)) wNil))))) wNil))) wNil)))
    (wSeq (wSetF 4 (wCall CFH.S_law_pick (wCons (wPk 0) (wCons (wL oLst (wCons (wC (.int 0)) (wCons (wC (.int 1)) (wCons (wC (.int 2)) (wCons (wC (.int 3)) (wCons (wC (.int 4)) (wCons (wC (.int 80)) wNil))))))) wNil))))
    (wSeq (wIf (wTst (wB oEq (wVar 4) (wC (.int 80))))
    (wSetF 3 (wCall CFH.S_law_pick (wCons (wPk 0) (wCons (wL oLst (wCons (wC (.int 1)) (wCons (wC (.int 3)) wNil))) wNil))))
    wNext)
    (wSeq (wSet 5 (wL oLst wNil))
    (wSeq (wFor (wIR1 (wCons (wVar 4) wNil)) (wgName 6)
    (wSeq (wSetF 7 (wCall CFH.S_law_pick (wCons (wPk 0) (wCons (wL oLst (wCons (wC (.int 1)) (wCons (wC (.int 7)) (wCons (wC (.int 60)) (wCons (wB oAdd (wC (.int 1)) (wCall CFH.S_law_take (wCons (wPk 0) (wCons (wC (.int 60)) wNil)))) wNil))))) wNil))))
    (wDrop (wApp 5 (wCall CFLy.S_law_layer (wCons (wPk 0) (wCons (wB oIx (wVar 2) (wB oMod (wVar 6) (wC (.int 4)))) (wCons (wVar 1) (wCons (wVar 7) (wCons (wVar 3) wNil))))))))))
    (wRet (wL oTuple (wCons (wLn 5) wNil))))))))
def n_law_drawn : Nat := 8
def L_law_one_turn : Nat → Bool := fun j => [0].contains j
/-- _law_one_turn: 0 _law_hand_here, 1 _law_layer_here, 2 _law_low, 3 _law_high, 4 _law_day -/
def w_law_one_turn : WS := wSeq (wSetF 4 (wB oMul (wC (.int 1440)) (wCall CFH.S_law_pick (wCons (wPk 0) (wCons (wL oLst (wCons (wCall CFH.S_law_take (wCons (wPk 0) (wCons (wC (.int 200)) wNil))) (wCons (wCall CFH.S_law_great (wCons (wPk 0) wNil)) wNil))) wNil)))))
    (wRet (wB oEq (wCall CFTu.S_turn_at (wCons (wVar 1) (wCons (wB oAdd (wVar 4) (wVar 2)) wNil))) (wCall CFTu.S_turn_at (wCons (wVar 1) (wCons (wB oSub (wB oAdd (wVar 4) (wVar 3)) (wC (.int 1))) wNil)))))
def n_law_one_turn : Nat := 5
def L_law : Nat → Bool := fun j => [2].contains j
/-- law: 0 _law_script, 1 _law_k, 2 _law_hand_here, 3 _law_layers, 4 _law_cuts_here, 5 _law_found, 6 _law_low, 7 _law_high, 8 #0 -/
def w_law : WS := wSeq (wFor (wIR1 (wCons (wL oMax2 (wCons (wC (.int 1)) (wCons (wL oMin2 (wCons (wC (.int 3)) (wCons (wL oLen (wCons (wVar 0) wNil)) wNil))) wNil))) wNil)) (wgName 1)
    (wSeq (wSet 2 (wCall CFH.S_law_hand (wCons (wVar 0) (wCons (wVar 1) wNil))))
    (wSeq (wSetF 3 (wCall S_law_drawn (wCons (wPk 2) wNil)))
    (wSeq (wSetF 4 (wCall CFLc.S_law_cuts (wCons (wVar 3) wNil)))
    (wSeq (wSetF 5 (wCall S_pieces (wCons (wVar 3) wNil)))
    (wSeq (wIf (wTst (wB oNeS (wL oRepr (wCons (wVar 5) wNil)) (wL oRepr (wCons (wL oTuple (wCons (wLcB [1] (wIR1 (wCons (wB oSub (wL oLen (wCons (wVar 4) wNil)) (wC (.int 1))) wNil)) (wgName 1) wYes (wL oTup (wCons (wB oIx (wVar 4) (wVar 1)) (wCons (wB oIx (wVar 4) (wB oAdd (wVar 1) (wC (.int 1)))) wNil)))) wNil)) wNil))))
    (wRet (wC (.bool false)))
    wNext)
    (wFor (wISeq (wSl (wVar 5) wNoPart (wPart (wC (.int 40))))) (wgTup 2 (wgCons (wgName 6) (wgCons (wgName 7) wgNil)))
    (wIf (wAnd (wTst (wB oNe (wVar 3) (wL oTup wNil))) (wNot (wTst (wCall S_law_one_turn (wCons (wPk 2) (wCons (wCall CFH.S_law_pick (wCons (wPk 2) (wCons (wVar 3) wNil))) (wCons (wVar 6) (wCons (wVar 7) wNil))))))))
    (wRet (wC (.bool false)))
    wNext))))))))
    (wRet (wC (.bool true)))
def n_law : Nat := 9
end K39

set_option Elab.async false
set_option linter.all false
set_option maxRecDepth 100000
set_option maxHeartbeats 4000000

/-! generated: readings shared by laws -/
namespace CFLo
open PySem PySem.Spec PyProof.Rows L2 DL CFTu CFRb
def L_hand_at : Nat → Bool := fun j => ([] : List Nat).contains j
/-- hand_at: 0 layer, 1 r, 2 j -/
def w_hand_at : WS := wSeq (wSetF 2 (wCall CFTu.S_turn_at (wCons (wVar 0) (wCons (wVar 1) wNil))))
    (wSeq (wIf (wTst (wU oIsN (wVar 2)))
    (wRet (wC .none))
    wNext)
    (wRet (wB oIx (wB oIx (wB oIx (wVar 0) (wC (.int 3))) (wVar 2)) (wC (.int 2)))))
def n_hand_at : Nat := 3
def L_cuts_of : Nat → Bool := fun j => [1].contains j
/-- cuts_of: 0 layers, 1 found, 2 word, 3 start, 4 days, 5 turns, 6 begin, 7 end, 8 hand -/
def w_cuts_of : WS := wSeq (wSet 1 (wL oLst (wCons (wC (.int 0)) (wCons (wC (.int 1440)) wNil))))
    (wSeq (wFor (wISeq (wVar 0)) (wgTup 4 (wgCons (wgName 2) (wgCons (wgName 3) (wgCons (wgName 4) (wgCons (wgName 5) wgNil)))))
    (wFor (wISeq (wVar 5)) (wgTup 3 (wgCons (wgName 6) (wgCons (wgName 7) (wgCons (wgName 8) wgNil))))
    (wSeq (wDrop (wApp 1 (wB oMod (wB oAdd (wVar 3) (wVar 6)) (wC (.int 1440)))))
    (wDrop (wApp 1 (wB oMod (wB oAdd (wVar 3) (wVar 7)) (wC (.int 1440))))))))
    (wRet (wU oSortSet (wLn 1))))
def n_cuts_of : Nat := 9
def L_rests_of : Nat → Bool := fun j => ([] : List Nat).contains j
/-- rests_of: 0 layer, 1 minute, 2 #0, 3 rest -/
def w_rests_of : WS := wRet (wLcB [3] (wIR1 (wCons (wB oIx (wVar 0) (wC (.int 2))) wNil)) (wgName 3) wYes (wCall S_hand_at (wCons (wVar 0) (wCons (wB oAdd (wB oMul (wC (.int 1440)) (wVar 3)) (wVar 1)) wNil))))
def n_rests_of : Nat := 4
def L_longer : Nat → Bool := fun j => [6].contains j
/-- longer: 0 begun, 1 hands, 2 rests, 3 rest, 4 by, 5 step, 6 found, 7 one, 8 both -/
def w_longer : WS := wSeq (wAsg (wVar 0) (wgTup 3 (wgCons (wgName 2) (wgCons (wgName 3) (wgCons (wgName 4) wgNil)))))
    (wSeq (wSetF 5 (wCall CFRb.S_gcd (wCons (wVar 4) (wCons (wL oLen (wCons (wVar 1) wNil)) wNil))))
    (wSeq (wSet 6 (wL oLst wNil))
    (wSeq (wFor (wIR3 (wCons (wB oMod (wVar 3) (wVar 5)) (wCons (wL oLen (wCons (wVar 1) wNil)) (wCons (wVar 5) wNil)))) (wgName 7)
    (wSeq (wSetF 8 (wCall CFRb.S_joined (wCons (wL oTup (wCons (wL oTup (wCons (wVar 3) (wCons (wVar 4) wNil))) (wCons (wL oTup (wCons (wVar 7) (wCons (wL oLen (wCons (wVar 1) wNil)) wNil))) wNil))) wNil)))
    (wDrop (wApp 6 (wL oTup (wCons (wB oPlus (wVar 2) (wL oTup (wCons (wVar 7) wNil))) (wCons (wB oIx (wVar 8) (wC (.int 1))) (wCons (wB oIx (wVar 8) (wC (.int 2))) (wCons (wB oIx (wVar 1) (wVar 7)) wNil)))))))))
    (wRetO 6))))
def n_longer : Nat := 9
def L_in_piece : Nat → Bool := fun j => [4, 7].contains j
/-- in_piece: 0 layers, 1 minute, 2 room, 3 ahead, 4 found, 5 layer, 6 hands, 7 behind, 8 begun, 9 rests, 10 rest, 11 by, 12 hand, 13 #0 -/
def w_in_piece : WS := wSeq (wParO false true 3 4 (wCons (wL oLst (wCons (wL oTup (wCons (wL oTup wNil) (wCons (wC (.int 0)) (wCons (wC (.int 1)) wNil)))) wNil)) (wCons (wL oLst wNil) wNil)))
    (wSeq (wFor (wISeq (wVar 0)) (wgName 5)
    (wSeq (wSetF 6 (wCall S_rests_of (wCons (wVar 5) (wCons (wVar 1) wNil))))
    (wSeq (wSet 7 (wL oLst wNil))
    (wSeq (wFor (wISeq (wVar 3)) (wgName 8)
    (wSeq (wFor (wISeq (wCall S_longer (wCons (wVar 8) (wCons (wVar 6) wNil)))) (wgTup 4 (wgCons (wgName 9) (wgCons (wgName 10) (wgCons (wgName 11) (wgCons (wgName 12) wgNil)))))
    (wIf (wTst (wU oIsN (wVar 12)))
    (wDrop (wApp 7 (wL oTup (wCons (wVar 9) (wCons (wVar 10) (wCons (wVar 11) wNil))))))
    (wDrop (wApp 4 (wL oTup (wCons (wVar 9) (wCons (wVar 12) wNil)))))))
    (wIf (wTst (wB oGt (wB oAdd (wL oLen (wCons (wLn 4) wNil)) (wL oLen (wCons (wLn 7) wNil))) (wVar 2)))
    (wRaise "TooMany")
    wNext)))
    (wSetF 3 (wFrz 7))))))
    (wRet (wL oSortF (wCons (wCat (wLn 4) (wLcB [9, 10, 11] (wISeq (wVar 3)) (wgTup 3 (wgCons (wgName 9) (wgCons (wgName 10) (wgCons (wgName 11) wgNil)))) wYes (wL oTup (wCons (wVar 9) (wCons (wC .none) wNil))))) wNil))))
def n_in_piece : Nat := 14
def L_cells : Nat → Bool := fun j => [2].contains j
/-- cells: 0 layers, 1 cuts, 2 found, 3 low, 4 high, 5 rests, 6 hand -/
def w_cells : WS := wSeq (wSet 2 (wL oLst wNil))
    (wSeq (wFor (wIZip (wCons (wVar 1) (wCons (wSl (wVar 1) (wPart (wC (.int 1))) wNoPart) wNil))) (wgTup 2 (wgCons (wgName 3) (wgCons (wgName 4) wgNil)))
    (wFor (wISeq (wCall S_in_piece (wCons (wVar 0) (wCons (wVar 3) (wCons (wB oSub (wC (.int 2000)) (wL oLen (wCons (wLn 2) wNil))) wNil))))) (wgTup 2 (wgCons (wgName 5) (wgCons (wgName 6) wgNil)))
    (wDrop (wApp 2 (wL oTup (wCons (wVar 3) (wCons (wVar 4) (wCons (wVar 5) (wCons (wVar 6) wNil)))))))))
    (wRet (wL oTuple (wCons (wLn 2) wNil))))
def n_cells : Nat := 7
def L_lots : Nat → Bool := fun j => ([] : List Nat).contains j
/-- lots: 0 layers -/
def w_lots : WS := wRet (wCall S_cells (wCons (wVar 0) (wCons (wCall S_cuts_of (wCons (wVar 0) wNil)) wNil)))
def n_lots : Nat := 1
def L_class_of : Nat → Bool := fun j => ([] : List Nat).contains j
/-- class_of: 0 layers, 1 rests, 2 both, 3 #0, 4 rest, 5 layer -/
def w_class_of : WS := wSeq (wSetF 2 (wCall CFRb.S_joined (wCons (wL oTuple (wCons (wLcB [4, 5] (wIZip (wCons (wVar 1) (wCons (wVar 0) wNil))) (wgTup 2 (wgCons (wgName 4) (wgCons (wgName 5) wgNil))) wYes (wL oTup (wCons (wVar 4) (wCons (wB oIx (wVar 5) (wC (.int 2))) wNil)))) wNil)) wNil)))
    (wRet (wSl (wVar 2) (wPart (wC (.int 1))) wNoPart))
def n_class_of : Nat := 6
end CFLo

section
set_option Elab.async false
set_option linter.all false
set_option maxRecDepth 100000
set_option maxHeartbeats 4000000
namespace CFLo
open PySem PySem.Spec PyProof.Rows L2 DL CFH CFCl CFRu CFWd CFBk CFTu CFRb CFSp
local macro_rules | `(tactic| tm_at "dw") => `(tactic| with_reducible (conv => whnf))
local macro_rules | `(tactic| tm_at "dside") => `(tactic| first | with_reducible assumption | ((with_reducible show CDivW _ _); exact ⟨by omega, log2_sm (by omega)⟩) | exact rfl | exact True.intro | exact Nat.le_of_ble_eq_true rfl | (intro z; first | exact rfl | exact (Bool.false_ne_true z).elim) | (intro _; (with_reducible refine And.intro ?_ ?_) <;> first | exact rfl | assumption) | (intro _; assumption) | (intro _; with_reducible exact lf_ints) | (intro _; with_reducible exact lf_strs) | ((with_reducible show SeqAt.shaped (PyData.str _) = true); exact (Lay.str (k := 0) (by first | assumption | decide +kernel)).shaped) | omega | (simp only [List.length_map, List.length_reverse, List.length_append, List.length_cons, List.length_nil]; omega) | exact And.intro (by omega) (by with_reducible assumption) | exact And.intro (by omega) (by decide +kernel) | exact And.intro (by omega) (And.intro (by omega) (by omega)) | exact MulOk.left ⟨by omega, by omega⟩ | exact MulOk.right ⟨by omega, by omega⟩ | exact le1000 (by first | omega | (simp only [List.length_map, List.length_reverse, List.length_append, List.length_cons, List.length_nil, rangeD_len, enumF_len]; omega)) | with_reducible exact lf_ints | with_reducible exact lf_strs | assumption | decide)
local macro_rules | `(tactic| tm_at "do") => `(tactic| first | with_reducible exact intsOf_map _ | with_reducible exact boolsOf_map _ | ((with_reducible show lstOf _ _ = _); with_unfolding_all exact rfl) | ((with_reducible show intsOf _ = _); with_unfolding_all exact rfl) | ((with_reducible show itemsD _ = _); with_unfolding_all exact rfl) | ((with_reducible show itemsLT _ = _); with_unfolding_all exact rfl) | ((with_reducible show boolsOf _ = _); with_unfolding_all exact rfl) | ((with_reducible show strsOf _ = _); with_unfolding_all exact rfl) | with_reducible exact atI_0 | with_reducible exact atI_1 | with_reducible exact atI_2 | with_reducible exact atI_3 | with_reducible exact atI_4 | with_reducible exact setI_0 | with_reducible exact setI_1 | with_reducible exact setI_2 | with_reducible exact setI_3)
local macro_rules | `(tactic| tm_at "dz") => `(tactic| (intro z; (try simp only [decide_eq_true_eq, decide_eq_false_iff_not, eqv_int, Bool.not_eq_true', Bool.not_eq_false', Bool.not_not, Bool.false_eq_true, reduceCtorEq, Int.not_lt, Int.not_le, wholeD, List.length_cons, List.length_nil, List.length_map, isT_tuple_none, isT_tuple_bool, isT_tuple_int, isT_tuple_str, isT_tuple_list, isT_tuple_tuple, isT_int_none, isT_int_bool, isT_int_int, isT_int_str, isT_int_list, isT_int_tuple, isT_bool_none, isT_bool_bool, isT_bool_int, isT_bool_str, isT_bool_list, isT_bool_tuple, isT_str_none, isT_str_bool, isT_str_int, isT_str_str, isT_str_list, isT_str_tuple, isT_list_none, isT_list_bool, isT_list_int, isT_list_str, isT_list_list, isT_list_tuple] at z); try (first | (exfalso; omega) | exact (Bool.false_ne_true z).elim | (cases z; done))))
local macro_rules | `(tactic| tm_at "dnorm") => `(tactic| first | ((simp only [rset, rget, frzC, retag, clr, back]); done) | ((simp only [rset, rget, frzC, retag, clr, back]); exact rfl) | exact rfl)
local macro_rules | `(tactic| tm_at "dh") => `(tactic| first | ((with_reducible show wSeq _ _ _ _); with_reducible refine wSeq_i (by tm_at "dnorm") ?_) | ((with_reducible show optK _ _); with_reducible refine optK_of (by tm_at "do") ?_) | (with_reducible refine ifb ?_ ?_) <;> tm_at "dz" | ((with_reducible refine And.intro ?_ ?_); tm_at "dside") | fail "dh")
local macro_rules | `(tactic| tm_at "dc") => `(tactic| fail "dc")
local macro_rules | `(tactic| tm_at "dt") => `(tactic| first | (tm_at "dh" <;> (try tm_at "dw")) | (tm_at "dc" <;> (try tm_at "dw")))
local macro_rules | `(tactic| tm_at "dstart") => `(tactic| simp only [startD, List.length_cons, List.length_nil, Nat.reduceAdd, Nat.reduceSub, List.replicate, List.cons_append, List.nil_append])
local macro_rules | `(tactic| tm_at "dl") => `(tactic| ((try tm_at "dw"); repeat' tm_at "dt"))
local macro_rules | `(tactic| tm_at "dlc") => `(tactic| first | with_reducible refine lcK_eq (by tm_at "dnorm") ?_ | with_reducible refine forK_eq (by tm_at "dnorm") ?_)
local macro_rules | `(tactic| tm_at "do") => `(tactic| with_reducible assumption)
theorem ok_hand_at : ∀ as QD ED, S_hand_at as QD ED → w_hand_at (bodyEnds as QD fun _ _ => False) (startD n_hand_at as) := by
  rintro as QD ED ⟨l, r, rfl, hd, ht, q⟩
  unfold n_hand_at w_hand_at
  tm_at "dstart"
  tm_at "dl"
  refine turn_i hd ht ?_
  have e := turn_who (l := l) (r := r)
  cases ej : turnL l r with
  | none =>
    rw [ej] at e
    rw [e] at q
    tm_at "dl"
    exact q
  | some j =>
    rw [ej] at e
    obtain ⟨i, t, e1, e2, _⟩ := turnG_some (show turnG (placeL l r) 0 l.turns = some j from ej)
    rw [Nat.zero_add] at e1
    subst e1
    rw [show whoL l r = some t.2.2 from by rw [e]; show (l.turns[j]?).map (·.2.2) = _; rw [e2]; rfl] at q
    have g1 : atI (l.turns.map trnD) (j : Int) = some (trnD t) := L2.atI_nat (by rw [List.getElem?_map, e2]; rfl)
    tm_at "dl"
    exact q
theorem ok_cuts_of : ∀ as QD ED, S_cuts_of as QD ED → w_cuts_of (bodyEnds as QD fun _ _ => False) (startD n_cuts_of as) := by
  rintro as QD ED ⟨ls, rfl, ht, hl, q⟩
  unfold n_cuts_of w_cuts_of
  tm_at "dstart"
  tm_at "dl"
  refine forK_xs ls (fun done ρ => ∃ c2 c3 c4 c5 c6 c7 c8 : C, ρ = [.v (lyrsD ls), .own 0 (.lst ((cutsR done).map PyData.int)), c2, c3, c4, c5, c6, c7, c8]) ⟨_, _, _, _, _, _, _, rfl⟩ ?_ ?_
  · rintro ρ ⟨c2, c3, c4, c5, c6, c7, c8, rfl⟩
    have cl := cutsR_len ht
    have sz : (cutsR ls).length ≤ 4000 := by omega
    tm_at "dl"
    intro ms up mem ml
    tm_at "dl"
    exact q ms ⟨up, fun k => (mem k).trans cutsR_mem⟩ (by omega) (by omega)
  · rintro done l rest ρ next e hnx ⟨c2, c3, c4, c5, c6, c7, c8, rfl⟩
    clear q
    have dl : done.length < ls.length := by rw [e, List.length_append, List.length_cons]; omega
    have hld : ∀ k ∈ done, k.turns.length ≤ 12 := fun k hk => ht k (by rw [e]; exact List.mem_append_left _ hk)
    have hlt := ht l (by rw [e]; exact List.mem_append_right _ (.head _))
    have cl := cutsR_len hld
    tm_at "dl"
    refine forK_xs l.turns (fun dn ρ => ∃ c6 c7 c8 : C, ρ = [.v (lyrsD ls), .own 0 (.lst ((cutsR done ++ dn.flatMap fun u => [(l.start + u.1) % 1440, (l.start + u.2.1) % 1440]).map PyData.int)), .v (.str l.word), .v (.int l.start), .v (.int l.days), .v (trnsD l.turns), c6, c7, c8]) ⟨_, _, _, by rw [List.flatMap_nil, List.append_nil]⟩ ?_ ?_
    · rintro ρ ⟨c6, c7, c8, rfl⟩
      have ee : cutsR (done ++ [l]) = cutsR done ++ l.turns.flatMap fun u => [(l.start + u.1) % 1440, (l.start + u.2.1) % 1440] := by
        unfold cutsR
        rw [List.flatMap_append, List.flatMap_singleton, List.append_assoc]
      rw [← ee]
      exact hnx _ ⟨_, _, _, _, _, _, _, rfl⟩
    · rintro dn u rs ρ next2 e2 hnx2 ⟨c6, c7, c8, rfl⟩
      have dl2 : dn.length < l.turns.length := by rw [e2, List.length_append, List.length_cons]; omega
      have sl : (dn.flatMap fun u : Trn => [(l.start + u.1) % 1440, (l.start + u.2.1) % 1440]).length = 2 * dn.length := by
        clear e2 hnx2 dl2
        induction dn with
        | nil => rfl
        | cons t ts ih => rw [List.flatMap_cons, List.length_append, ih, List.length_cons]; simp only [List.length_cons, List.length_nil]; omega
      have s1 : ((cutsR done ++ dn.flatMap fun u => [(l.start + u.1) % 1440, (l.start + u.2.1) % 1440]).map PyData.int).length < 3000 := by rw [List.length_map, List.length_append, sl]; omega
      have sz1 := Nat.lt_of_lt_of_le s1 (show 3000 ≤ sizeLine by rw [sizeLine_eq]; decide)
      have sz2 : ((cutsR done ++ dn.flatMap fun u => [(l.start + u.1) % 1440, (l.start + u.2.1) % 1440]).map PyData.int ++ [PyData.int ((l.start + u.1) % 1440)]).length < sizeLine := by rw [List.length_append, sizeLine_eq]; simp only [List.length_cons, List.length_nil]; omega
      tm_at "dl"
      have ee : (cutsR done ++ (dn ++ [u]).flatMap fun u => [(l.start + u.1) % 1440, (l.start + u.2.1) % 1440]).map PyData.int = (cutsR done ++ dn.flatMap fun u => [(l.start + u.1) % 1440, (l.start + u.2.1) % 1440]).map PyData.int ++ [PyData.int ((l.start + u.1) % 1440)] ++ [PyData.int ((l.start + u.2.1) % 1440)] := by
        rw [List.flatMap_append, List.flatMap_singleton, ← List.append_assoc, List.map_append, List.append_assoc]
        rfl
      rw [← ee]
      exact hnx2 _ ⟨_, _, _, rfl⟩
theorem ok_rests_of : ∀ as QD ED, S_rests_of as QD ED → w_rests_of (bodyEnds as QD fun _ _ => False) (startD n_rests_of as) := by
  rintro as QD ED ⟨l, m, rfl, hl, q⟩
  have d1 := hl.d1
  have d60 := hl.d60
  unfold n_rests_of w_rests_of
  tm_at "dstart"
  tm_at "dl"
  tm_at "dlc"
  refine lcK_r0 (fun k => some (optS (hdL l m (k : Nat)))) l.days.toNat ?_ ?_
  · intro x hx next nx
    clear q
    tm_at "dl"
    refine hand_at_i d1 (by have := hl.tl; omega) ?_
    have lf : lfree (optS (whoL l (1440 * (x : Int) + m))) = true := lf_optS
    tm_at "dl"
    exact nx
  · have e : (List.range l.days.toNat).filterMap (fun k => some (optS (hdL l m (k : Nat)))) = hdsL l m := by
      unfold hdsL
      rw [List.filterMap_eq_map']
    rw [e]
    tm_at "dl"
    exact q
theorem hds_len {l : Lyr} {m : Int} : (hdsL l m).length = l.days.toNat := by unfold hdsL; rw [List.length_map, List.length_range]
theorem hds_at {l : Lyr} {m o : Int} (h0 : 0 ≤ o) (h1 : o < l.days) : atI (hdsL l m) o = some (optS (hdL l m o)) := by
  obtain ⟨k, rfl⟩ := Int.eq_ofNat_of_zero_le h0
  refine L2.atI_nat ?_
  unfold hdsL
  rw [List.getElem?_map, List.getElem?_range (by omega)]
  rfl
theorem rgc_up {a b c : Int} (ha : -(2 ^ 40) ≤ a) (ha' : a < 2 ^ 40) (hb : -(2 ^ 40) ≤ b) (hb' : b < 2 ^ 40) (hc : 0 < c) (hc' : c < 2 ^ 29) : RgC a b c ((b - a + c - 1) / c).toNat := by
  have e : Builtin.Range.rangeSize a b c = (((b - a + c - 1) / c).toNat : Int) := by
    unfold Builtin.Range.rangeSize
    rw [if_pos (by omega)]
    split
    · have e1 : b - a + c - 1 = (b - a - 1) + 1 * c := by omega
      have p : 0 ≤ (b - a - 1) / c := Int.ediv_nonneg (by omega) (by omega)
      rw [e1, Int.add_mul_ediv_right _ _ (by omega)]
      omega
    · have p : (b - a + c - 1) / c < 1 := Int.ediv_lt_of_lt_mul hc (by omega)
      omega
  have bd : (b - a + c - 1) / c < 2 ^ 42 := Int.ediv_lt_of_lt_mul hc (by
    have : (2 : Int) ^ 42 * 1 ≤ 2 ^ 42 * c := Int.mul_le_mul_of_nonneg_left (by omega) (by decide)
    omega)
  refine ⟨by omega, by omega, ?_, e⟩
  unfold Builtin.Range.small
  rw [e]
  simp only [Builtin.Range.rangeFitsLong, Bool.and_eq_true, Bool.or_eq_true, decide_eq_true_eq, beq_iff_eq, if_pos (show c > 0 by omega)]
  omega
theorem stepD_ones {r g n : Int} : stepD (r % g) g (((n - r % g + g - 1) / g).toNat) = (onesL r g n).map PyData.int := by
  unfold stepD onesL
  rw [List.map_map]
  rfl
theorem zl_one {n : Int} (h : 0 < n) : zl 1 n = n := by
  unfold zl
  obtain ⟨k, rfl⟩ := Int.eq_ofNat_of_zero_le (Int.le_of_lt h)
  show ((Nat.lcm 1 k : Nat) : Int) = k
  rw [Nat.lcm_one_left]
theorem crt_uniq {m n r s x : Int} (hm : 0 < m) (hn : 0 < n) (h : zg m n ∣ r - s) (x0 : 0 ≤ x) (x1 : x < zl m n) (h1 : m ∣ x - r) (h2 : n ∣ x - s) : x = crt r m s n := by
  obtain ⟨c0, c1, c2, c3⟩ := crt_ok hm hn h
  have d1 : zl m n ∣ x - crt r m s n := zl_dvd (dvd_sub3 h1 (dvd_sub_comm c2)) (dvd_sub3 h2 (dvd_sub_comm c3))
  have e := (Int.emod_eq_emod_iff_emod_sub_eq_zero).mpr (Int.emod_eq_zero_of_dvd d1)
  rwa [Int.emod_eq_of_lt x0 x1, Int.emod_eq_of_lt c0 c1] at e
theorem ones_len {r g n : Int} (hg : 0 < g) (hn : g ∣ n) (n0 : 0 < n) : (onesL r g n).length ≤ n.toNat := by
  have e0 := Int.emod_nonneg r (b := g) (by omega)
  have bd : (n - r % g + g - 1) / g < n + 1 := Int.ediv_lt_of_lt_mul hg (by
    have : n + 1 ≤ (n + 1) * g - g + 1 := by
      rw [Int.add_mul, Int.one_mul]
      have : n * 1 ≤ n * g := Int.mul_le_mul_of_nonneg_left (by omega) (by omega)
      omega
    omega)
  unfold onesL
  rw [List.length_map, List.length_range]
  omega
theorem ok_longer : ∀ as QD ED, S_longer as QD ED → w_longer (bodyEnds as QD fun _ _ => False) (startD n_longer as) := by
  rintro as QD ED ⟨a, l, m, rfl, hl, r0, r1, an, ars, q⟩
  have d1 := hl.d1
  have d60 := hl.d60
  have np : 0 < a.n := by omega
  have gp : 0 < zg a.n l.days := zg_pos (by omega)
  have hlen : ((hdsL l m).length : Int) = l.days := by rw [hds_len]; omega
  unfold n_longer w_longer
  tm_at "dstart"
  tm_at "dl"
  refine ⟨a.n, ((hdsL l m).length : Nat), rfl, by omega, by omega, ?_⟩
  rw [hlen]
  tm_at "dl"
  rw [hlen]
  have gl := zg_le (a := a.n) (b := l.days) (by omega)
  have q0 := Int.emod_nonneg a.r (b := zg a.n l.days) (by omega)
  have q1 := Int.emod_lt_of_pos a.r gp
  refine ⟨_, rgc_up (by omega) (by omega) (by omega) (by omega) gp (by omega), ?_⟩
  rw [stepD_ones]
  tm_at "dl"
  refine forK_xs (inj := PyData.int) (onesL a.r (zg a.n l.days) l.days) (fun done ρ => ∃ c7 c8 : C, ρ = [.v (ahD a), .v (.list (hdsL l m)), .v (intsD a.rs), .v (.int a.r), .v (.int a.n), .v (.int (zg a.n l.days)), .own 0 (.lst (done.map (lgD a l m))), c7, c8]) ⟨_, _, rfl⟩ ?_ ?_
  · rintro ρ ⟨c7, c8, rfl⟩
    tm_at "dl"
    exact q
  rintro done o rest ρ next e hnx ⟨c7, c8, rfl⟩
  have om : o ∈ onesL a.r (zg a.n l.days) l.days := by rw [e]; exact List.mem_append_right _ (.head _)
  obtain ⟨o0, o1, og⟩ := (ones_mem gp (zg_right a.n l.days) (by omega)).mp om
  have dlen : done.length < l.days.toNat := by
    have : (onesL a.r (zg a.n l.days) l.days).length ≤ l.days.toNat := ones_len gp (zg_right a.n l.days) (by omega)
    rw [e, List.length_append, List.length_cons] at this
    omega
  have sz : (done.map (lgD a l m)).length < sizeLine := by rw [List.length_map, sizeLine_eq]; omega
  have at1 := hds_at (m := m) o0 o1
  have sz2 : (a.rs.map PyData.int).length + [PyData.int o].length ≤ sizeLine := by rw [List.length_map, sizeLine_eq]; simp only [List.length_cons, List.length_nil]; omega
  clear q e
  tm_at "dl"
  rw [hlen]
  have lp2 : Lp [(a.r, a.n), (o, l.days)] = zl a.n l.days := by
    show zl (zl 1 a.n) l.days = _
    rw [zl_one np]
  refine ⟨[(a.r, a.n), (o, l.days)], rfl, fun p hp => ?_, ?_, fun i j p q' hij hi hj hagr => ?_, fun x x0 x1 hs => ?_⟩
  · simp only [List.mem_cons, List.not_mem_nil, or_false] at hp
    rcases hp with rfl | rfl
    · exact ⟨r0, r1⟩
    · exact ⟨o0, o1⟩
  · rw [lp2]
    exact sm60 (by have := zl_pos np (by omega : 0 < l.days); omega) (zl_dvd an (div60 d1 d60))
  · exfalso
    have ag : agr (a.r, a.n) (o, l.days) = true := agr_iff.mpr og
    match i, j, hij, hi, hj with
    | 0, 1, _, hi, hj =>
      cases hi
      cases hj
      rw [ag] at hagr
      cases hagr
    | 0, j + 2, _, _, hj => cases hj
    | 1, j + 2, _, _, hj => cases hj
    | i + 2, _, _, hi, _ => cases hi
  · rw [lp2] at x1 ⊢
    have ec : x = crt a.r a.n o l.days := crt_uniq np (by omega) og x0 x1 (hs (a.r, a.n) (.head _)) (hs (o, l.days) (.tail _ (.head _)))
    subst ec
    have lfo : lfree (optS (hdL l m o)) = true := lf_optS
    tm_at "dl"
    have ee : (done ++ [o]).map (lgD a l m) = done.map (lgD a l m) ++ [PyData.tuple [PyData.tuple (a.rs.map PyData.int ++ [PyData.int o]), PyData.int (crt a.r a.n o l.days), PyData.int (zl a.n l.days), optS (hdL l m o)]] := by
      rw [List.map_append]
      unfold lgD intsD
      rw [List.map_cons, List.map_nil, List.map_append]
      rfl
    rw [← ee]
    exact hnx _ ⟨_, _, rfl⟩
theorem ltD_ok {x : Lt} : FstOk (ltD x) := by
  show (intsOf (x.1.map PyData.int)).isSome = true
  rw [intsOf_map]
  rfl
theorem ltD_fst {x : Lt} : fstI (ltD x) = x.1 := by
  show (intsOf (x.1.map PyData.int)).getD [] = x.1
  rw [intsOf_map]
  rfl
theorem ok_in_piece : ∀ as QD ED, S_in_piece as QD ED → w_in_piece (bodyEnds as QD ED) (startD n_in_piece as) := by
  rintro as QD ED ⟨ls, m, room, rfl, hls, l200, hne, r2, q, qe⟩
  have hd : ∀ l ∈ ls, 1 ≤ l.days := fun l hl => (hls l hl).d1
  unfold n_in_piece w_in_piece
  tm_at "dstart"
  tm_at "dl"
  refine forK_xs ls (fun done ρ => ∃ c5 c6 c7 c8 c9 c10 c11 c12 : C, (done ≠ [] → (cntS (stgF m done s0) : Int) ≤ room) ∧ ρ = [.v (lyrsD ls), .v (.int m), .v (.int room), .v (.list ((stgF m done s0).2.map ahD)), .own 0 (.lst ((stgF m done s0).1.map ltD)), c5, c6, c7, c8, c9, c10, c11, c12, .no]) ⟨_, _, _, _, _, _, _, _, fun z => absurd rfl z, rfl⟩ ?_ ?_
  · rintro ρ ⟨c5, c6, c7, c8, c9, c10, c11, c12, hr, rfl⟩
    have l2 : ((stgF m ls s0).2.map ahD).length = (stgF m ls s0).2.length := List.length_map ..
    have cb : cntS (stgF m ls s0) ≤ 2000 := by
      by_cases z : ls = []
      · subst z; exact Nat.le_of_ble_eq_true rfl
      · have := hr z; omega
    have pl : ((pcL ls m).length : Int) ≤ room := by
      rw [pc_cnt]
      by_cases z : ls = []
      · subst z
        have : cntS (stgF m [] s0) = 1 := rfl
        rcases hne with y | y
        · exact absurd rfl y
        · omega
      · exact hr z
    have qq := q pl
    have szL : ((stgF m ls s0).2.map ahD).length ≤ sizeLine := by
      rw [l2, sizeLine_eq]
      unfold cntS at cb
      omega
    clear q qe hr
    tm_at "dl"
    tm_at "dlc"
    refine lcK_ys (inj := ahD) (fun a => ltD (a.rs, none)) (stgF m ls s0).2 (fun x hx nx hnx => ?_) ?_
    · clear qq
      tm_at "dl"
      exact hnx
    have sz : ((stgF m ls s0).1.map ltD).length + ((stgF m ls s0).2.map fun a => ltD (a.rs, none)).length ≤ sizeLine := by
      rw [List.length_map, List.length_map, sizeLine_eq]
      unfold cntS at cb
      omega
    have er : (stgF m ls s0).1.map ltD ++ (stgF m ls s0).2.map (fun a => ltD (a.rs, none)) = (rawL ls m).map ltD := by
      unfold rawL
      rw [List.map_append, List.map_map]
      rfl
    tm_at "dl"
    rw [er]
    refine ⟨fun d hd' => ?_, ?_, fun es' p pw => ?_⟩
    · obtain ⟨x, _, rfl⟩ := List.mem_map.mp hd'
      exact ltD_ok
    · rw [List.map_map]
      have := raw_nodup (m := m) hd
      refine Eq.mpr ?_ this
      congr 1
      refine List.map_congr_left fun x _ => ?_
      exact ltD_fst
    · obtain ⟨xs, p1, p2⟩ := perm_lift p (rawL ls m) rfl
      have e := pc_of hd p1 (List.Pairwise.imp (fun {x y} z => by rw [ltD_fst, ltD_fst] at z; exact z) (List.pairwise_map.mp (p2.symm ▸ pw)))
      rw [← p2, e]
      tm_at "dl"
      exact qq
  rintro done l rest ρ next e hnx ⟨c5, c6, c7, c8, c9, c10, c11, c12, hr, rfl⟩
  have hl := hls l (by rw [e]; exact List.mem_append_right _ (.head _))
  have hld : ∀ k ∈ done, LoOk k := fun k hk => hls k (by rw [e]; exact List.mem_append_left _ hk)
  have d1 := hl.d1
  have d60 := hl.d60
  have dl : done.length < ls.length := by rw [e, List.length_append, List.length_cons]; omega
  have inv : CFLo.Inv done m (stgF m done s0) := inv_stg (pre := []) (fun k hk => (hld k hk).d1) inv_nil
  have es : stgF m (done ++ [l]) s0 = ((stgF m done s0).1 ++ (stgF m done s0).2.flatMap (fdL l m), (stgF m done s0).2.flatMap (bhL l m)) := stg_app
  have pos : ∀ a ∈ (stgF m done s0).2, 0 < a.n := fun a ha => by have := inv.ah a ha; omega
  have tot : cntS (stgF m (done ++ [l]) s0) ≤ (pcL ls m).length := by
    rw [pc_cnt, e, show done ++ l :: rest = (done ++ [l]) ++ rest by rw [List.append_assoc]; rfl, stg_app (ls := done ++ [l])]
    refine cnt_mono (fun k hk => hd k (by rw [e]; exact List.mem_append_right _ (.tail _ hk))) ?_
    rw [es]
    exact bh_pos d1 pos
  have n60 : rnd done ∣ L60 := rnd_60 hld
  have sb : cntS (stgF m done s0) ≤ 2000 := by
    by_cases z : done = []
    · subst z; exact Nat.le_of_ble_eq_true rfl
    · have := hr z; omega
  have ne2 : (stgF m done s0).2 = [] → done ≠ [] := fun z y => by
    subst y
    cases z
  generalize stgF m done s0 = s at *
  clear q hne e
  tm_at "dl"
  refine ⟨l, m, rfl, hl, ?_⟩
  tm_at "dl"
  refine forK_xs (inj := ahD) s.2 (fun dn ρ => ∃ c8 c9 c10 c11 c12 : C, (dn ≠ [] → (((s.1 ++ dn.flatMap (fdL l m)).length + (dn.flatMap (bhL l m)).length : Nat) : Int) ≤ room) ∧ ρ = [.v (lyrsD ls), .v (.int m), .v (.int room), .v (.list (s.2.map ahD)), .own 0 (.lst ((s.1 ++ dn.flatMap (fdL l m)).map ltD)), .v (lyrD l), .v (.list (hdsL l m)), .own 0 (.lst ((dn.flatMap (bhL l m)).map ahD)), c8, c9, c10, c11, c12, .no]) ⟨_, _, _, _, _, fun z => absurd rfl z, by rw [List.flatMap_nil, List.append_nil]; rfl⟩ ?_ ?_
  · rintro ρ ⟨c8, c9, c10, c11, c12, hr2, rfl⟩
    clear qe
    tm_at "dl"
    refine hnx _ ⟨_, _, _, _, _, _, _, _, fun _ => ?_, by rw [es]⟩
    rw [es]
    unfold cntS
    by_cases z : s.2 = []
    · have := hr (ne2 z)
      unfold cntS at this
      rw [z] at this ⊢
      rw [List.flatMap_nil, List.flatMap_nil, List.append_nil]
      exact this
    · exact hr2 z
  rintro dn a rs ρ next2 e2 hnx2 ⟨c8, c9, c10, c11, c12, hr2, rfl⟩
  have am : a ∈ s.2 := by rw [e2]; exact List.mem_append_right _ (.head _)
  obtain ⟨a0, a1, an, al, _⟩ := inv.ah a am
  have gp : 0 < zg a.n l.days := zg_pos (by omega)
  have ol := ones_len (r := a.r) gp (zg_right a.n l.days) (by omega)
  have part := cnt_part d1 pos (A := dn ++ [a]) (B := rs) (m := m) (by rw [e2, List.append_assoc]; rfl)
  rw [← es] at part
  have cb : (s.1 ++ dn.flatMap (fdL l m)).length + (dn.flatMap (bhL l m)).length ≤ 2000 := by
    by_cases z : dn = []
    · subst z
      rw [List.flatMap_nil, List.flatMap_nil, List.append_nil]
      unfold cntS at sb
      show s.1.length + 0 ≤ 2000
      omega
    · have := hr2 z; omega
  clear hr2 e2 hnx
  tm_at "dl"
  refine ⟨a, l, m, rfl, hl, a0, a1, by rw [an]; exact n60, by omega, ?_⟩
  tm_at "dl"
  refine forK_xs (inj := lgD a l m) (onesL a.r (zg a.n l.days) l.days) (fun os ρ => ∃ c9 c10 c11 c12 : C, ρ = [.v (lyrsD ls), .v (.int m), .v (.int room), .v (.list (s.2.map ahD)), .own 0 (.lst ((s.1 ++ dn.flatMap (fdL l m) ++ (os.filter fun o => (hdL l m o).isSome).map fun o => (a.rs ++ [o], hdL l m o)).map ltD)), .v (lyrD l), .v (.list (hdsL l m)), .own 0 (.lst ((dn.flatMap (bhL l m) ++ (os.filter fun o => (hdL l m o).isNone).map (ahN a l.days)).map ahD)), .v (ahD a), c9, c10, c11, c12, .no]) ⟨_, _, _, _, by rw [List.filter_nil, List.map_nil, List.append_nil, List.filter_nil, List.map_nil, List.append_nil]⟩ ?_ ?_
  · rintro ρ ⟨c9, c10, c11, c12, rfl⟩
    have ef : (dn ++ [a]).flatMap (fdL l m) = dn.flatMap (fdL l m) ++ (((onesL a.r (zg a.n l.days) l.days).filter fun o => (hdL l m o).isSome).map fun o => (a.rs ++ [o], hdL l m o)) := by rw [List.flatMap_append, List.flatMap_singleton]; rfl
    have eb : (dn ++ [a]).flatMap (bhL l m) = dn.flatMap (bhL l m) ++ (((onesL a.r (zg a.n l.days) l.days).filter fun o => (hdL l m o).isNone).map (ahN a l.days)) := by rw [List.flatMap_append, List.flatMap_singleton]; rfl
    rw [← eb, List.append_assoc, ← ef]
    generalize hx : s.1 ++ (dn ++ [a]).flatMap (fdL l m) = X at *
    generalize hy : (dn ++ [a]).flatMap (bhL l m) = Y at *
    have cX : ((X.map ltD).length : Int) = X.length := by rw [List.length_map]
    have cY : ((Y.map ahD).length : Int) = Y.length := by rw [List.length_map]
    have cc : ((X.length + Y.length : Nat) : Int) = ((X.map ltD).length : Int) + ((Y.map ahD).length : Int) := by rw [cX, cY]; omega
    tm_at "dl"
    · exact qe (by omega)
    · refine hnx2 _ ⟨_, _, _, _, _, fun _ => ?_, rfl⟩
      (try rw [hx, hy])
      omega
  rintro os o os2 ρ next3 e3 hnx3 ⟨c9, c10, c11, c12, rfl⟩
  have ol2 : os.length < l.days.toNat := by
    rw [e3, List.length_append, List.length_cons] at ol
    omega
  have fl1 := List.length_filter_le (fun o => (hdL l m o).isSome) os
  have fl2 := List.length_filter_le (fun o => (hdL l m o).isNone) os
  have sz4 : ((s.1 ++ dn.flatMap (fdL l m) ++ (os.filter fun o => (hdL l m o).isSome).map fun o => (a.rs ++ [o], hdL l m o)).map ltD).length < sizeLine := by
    rw [List.length_map, List.length_append, List.length_map, sizeLine_eq]; omega
  have sz7 : ((dn.flatMap (bhL l m) ++ (os.filter fun o => (hdL l m o).isNone).map (ahN a l.days)).map ahD).length < sizeLine := by
    rw [List.length_map, List.length_append, List.length_map, sizeLine_eq]; omega
  clear qe hnx2 part tot e3
  cases eh : hdL l m o with
  | some w =>
    have e1 : ((os ++ [o]).filter fun o => (hdL l m o).isSome) = (os.filter fun o => (hdL l m o).isSome) ++ [o] := by rw [List.filter_append]; simp [eh]
    have e2 : ((os ++ [o]).filter fun o => (hdL l m o).isNone) = os.filter fun o => (hdL l m o).isNone := by rw [List.filter_append]; simp [eh]
    have e4 : (s.1 ++ dn.flatMap (fdL l m) ++ ((os ++ [o]).filter fun o => (hdL l m o).isSome).map fun o => (a.rs ++ [o], hdL l m o)).map ltD = (s.1 ++ dn.flatMap (fdL l m) ++ (os.filter fun o => (hdL l m o).isSome).map fun o => (a.rs ++ [o], hdL l m o)).map ltD ++ [.tuple [intsD (a.rs ++ [o]), .str w]] := by
      rw [e1, List.map_append (f := fun o => (a.rs ++ [o], hdL l m o)), ← List.append_assoc, List.map_append (f := ltD)]
      show _ ++ [ltD (a.rs ++ [o], hdL l m o)] = _
      rw [eh]
    rw [e4, e2] at hnx3
    have el : lgD a l m o = .tuple [intsD (a.rs ++ [o]), .int (crt a.r a.n o l.days), .int (zl a.n l.days), .str w] := by unfold lgD; rw [eh]
    rw [el]
    tm_at "dl"
    exact hnx3 _ ⟨_, _, _, _, rfl⟩
  | none =>
    have e1 : ((os ++ [o]).filter fun o => (hdL l m o).isSome) = os.filter fun o => (hdL l m o).isSome := by rw [List.filter_append]; simp [eh]
    have e2 : ((os ++ [o]).filter fun o => (hdL l m o).isNone) = (os.filter fun o => (hdL l m o).isNone) ++ [o] := by rw [List.filter_append]; simp [eh]
    have e7 : (dn.flatMap (bhL l m) ++ ((os ++ [o]).filter fun o => (hdL l m o).isNone).map (ahN a l.days)).map ahD = (dn.flatMap (bhL l m) ++ (os.filter fun o => (hdL l m o).isNone).map (ahN a l.days)).map ahD ++ [.tuple [intsD (a.rs ++ [o]), .int (crt a.r a.n o l.days), .int (zl a.n l.days)]] := by
      rw [e2, List.map_append (f := ahN a l.days), ← List.append_assoc, List.map_append (f := ahD)]
      rfl
    rw [e7, e1] at hnx3
    have el : lgD a l m o = .tuple [intsD (a.rs ++ [o]), .int (crt a.r a.n o l.days), .int (zl a.n l.days), .none] := by unfold lgD; rw [eh]
    rw [el]
    tm_at "dl"
    exact hnx3 _ ⟨_, _, _, _, rfl⟩
theorem zipF_map {α β : Type} {f : α → D} {g : β → D} : ∀ {xs : List α} {ys : List β}, zipF (xs.map f) (ys.map g) = (xs.zip ys).map fun p => .tuple [f p.1, g p.2]
  | [], _ => by cases ‹List β› <;> rfl
  | _ :: _, [] => rfl
  | x :: xs, y :: ys => by
    show _ :: zipF (xs.map f) (ys.map g) = _
    rw [zipF_map]
    rfl
noncomputable def cellG (ls : List Lyr) (p : Int × Int) : List Lot := (pcL ls p.1).map fun x => ⟨p.1, p.2, x⟩
theorem cell_eq {ls : List Lyr} : ∀ {cs : List Int}, cellL ls cs = (cs.zip (cs.drop 1)).flatMap (cellG ls)
  | [] => rfl
  | [_] => rfl
  | a :: b :: cs => by
    show (pcL ls a).map (fun x => ⟨a, b, x⟩) ++ cellL ls (b :: cs) = _
    rw [cell_eq (cs := b :: cs)]
    rfl
theorem pc_nil {m : Int} : (pcL [] m).length = 1 := pc_cnt
theorem ok_cells : ∀ as QD ED, S_cells as QD ED → w_cells (bodyEnds as QD ED) (startD n_cells as) := by
  rintro as QD ED ⟨ls, cs, rfl, hls, l200, hne, c4, c1, q, qe⟩
  rw [cell_eq] at q qe
  have cl : (cs.map PyData.int).length ≤ 10000 := by rw [List.length_map]; exact c4
  unfold n_cells w_cells
  tm_at "dstart"
  tm_at "dl"
  rw [cut_from (by decide) (by rw [List.length_map]; omega), show Int.toNat 1 = 1 from rfl, ← List.map_drop, zipF_map]
  have zl' : (cs.zip (cs.drop 1)).length ≤ cs.length - 1 := by rw [List.length_zip, List.length_drop]; omega
  generalize cs.zip (cs.drop 1) = ps at q qe zl' ⊢
  refine forK_xs ps (fun done ρ => ∃ c3 c4 c5 c6 : C, (done.flatMap (cellG ls)).length ≤ 2000 ∧ ρ = [.v (lyrsD ls), .v (.list (cs.map PyData.int)), .own 0 (.lst ((done.flatMap (cellG ls)).map lotD)), c3, c4, c5, c6]) ⟨_, _, _, _, Nat.zero_le _, rfl⟩ ?_ ?_
  · rintro ρ ⟨c3, c4, c5, c6, hb, rfl⟩
    have qq := q hb
    have lf := lf_lots (qs := ps.flatMap (cellG ls))
    tm_at "dl"
    exact qq
  rintro done p rest ρ next e hnx ⟨c3, c4, c5, c6, hb, rfl⟩
  have lm : ((done.flatMap (cellG ls)).map lotD).length = (done.flatMap (cellG ls)).length := List.length_map ..
  have dn : done.length < ps.length := by rw [e, List.length_append, List.length_cons]; omega
  have ep : ps.flatMap (cellG ls) = done.flatMap (cellG ls) ++ cellG ls p ++ rest.flatMap (cellG ls) := by rw [e, List.flatMap_append, List.flatMap_cons, List.append_assoc]
  have gl : (cellG ls p).length = (pcL ls p.1).length := List.length_map ..
  rw [ep, List.length_append, List.length_append, gl] at qe
  have pos : ls ≠ [] ∨ (0 : Int) < 2000 - (((done.flatMap (cellG ls)).map lotD).length : Nat) := by
    rcases hne with z | z
    · exact .inl z
    · by_cases y : ls = []
      · right
        subst y
        have : (done.flatMap (cellG [])).length = done.length := by
          clear e hb lm dn hnx ep gl qe
          induction done with
          | nil => rfl
          | cons x xs ih => rw [List.flatMap_cons, List.length_append, ih, List.length_cons]; unfold cellG; rw [List.length_map, pc_nil]; omega
        rw [lm]
        omega
      · exact .inl y
  clear q ep
  tm_at "dl"
  refine ⟨ls, p.1, 2000 - (((done.flatMap (cellG ls)).map lotD).length : Nat), rfl, hls, by omega, pos, by omega, fun hp => ?_, fun hp => ?_⟩
  · have hb2 : (done.flatMap (cellG ls)).length + (pcL ls p.1).length ≤ 2000 := by rw [lm] at hp; omega
    clear qe
    tm_at "dl"
    refine forK_xs (inj := ltD) (pcL ls p.1) (fun xs ρ => ∃ c5 c6 : C, ρ = [.v (lyrsD ls), .v (.list (cs.map PyData.int)), .own 0 (.lst ((done.flatMap (cellG ls) ++ xs.map fun x => (⟨p.1, p.2, x⟩ : Lot)).map lotD)), .v (.int p.1), .v (.int p.2), c5, c6]) ⟨_, _, by rw [List.map_nil, List.append_nil]⟩ ?_ ?_
    · rintro ρ ⟨c5, c6, rfl⟩
      have ee : (done ++ [p]).flatMap (cellG ls) = done.flatMap (cellG ls) ++ (pcL ls p.1).map fun x => (⟨p.1, p.2, x⟩ : Lot) := by rw [List.flatMap_append, List.flatMap_singleton]; rfl
      rw [← ee]
      refine hnx _ ⟨_, _, _, _, ?_, rfl⟩
      rw [ee, List.length_append, List.length_map]
      exact hb2
    rintro xs x ys ρ next2 e2 hnx2 ⟨c5, c6, rfl⟩
    have xl : xs.length < (pcL ls p.1).length := by rw [e2, List.length_append, List.length_cons]; omega
    have sz : ((done.flatMap (cellG ls) ++ xs.map fun x => (⟨p.1, p.2, x⟩ : Lot)).map lotD).length < sizeLine := by rw [List.length_map, List.length_append, List.length_map, sizeLine_eq]; omega
    have ee : (done.flatMap (cellG ls) ++ (xs ++ [x]).map fun x => (⟨p.1, p.2, x⟩ : Lot)).map lotD = (done.flatMap (cellG ls) ++ xs.map fun x => (⟨p.1, p.2, x⟩ : Lot)).map lotD ++ [.tuple [.int p.1, .int p.2, intsD x.1, optS x.2]] := by
      rw [List.map_append (l₁ := xs), ← List.append_assoc, List.map_append (f := lotD)]
      rfl
    rw [ee] at hnx2
    have lfo : lfree (optS x.2) = true := lf_optS
    clear e2 hnx
    tm_at "dl"
    exact hnx2 _ ⟨_, _, rfl⟩
  · tm_at "dl"
    exact qe (by rw [lm] at hp; omega)
theorem ok_lots : ∀ as QD ED, S_lots as QD ED → w_lots (bodyEnds as QD ED) (startD n_lots as) := by
  rintro as QD ED ⟨ls, rfl, hls, l100, q⟩
  unfold n_lots w_lots
  tm_at "dstart"
  tm_at "dl"
  refine ⟨ls, rfl, fun l hl => (hls l hl).tl, l100, fun cs hc c1 c2 => ?_⟩
  obtain ⟨q1, q2⟩ := q cs hc
  have c0 : 1 ≤ cs.length := List.length_pos_of_mem ((hc.mem 0).mpr (.inl rfl))
  tm_at "dl"
  have ne : ls ≠ [] ∨ cs.length ≤ 2000 := by
    by_cases z : ls = []
    · right
      subst z
      exact Nat.le_trans c2 (by decide)
    · exact .inl z
  refine ⟨ls, cs, rfl, hls, by omega, ne, by omega, c0, fun h => ?_, fun h => ?_⟩
  · have qq := q1 h
    tm_at "dl"
    exact qq
  · tm_at "dl"
    exact q2 h
theorem lf_zip : ∀ {n : Int} {rs : List Int} {ls : List Lyr}, rs.length ≤ ls.length → Lf n ((rs.zip ls).map fun p => (p.1, p.2.days)) = (ls.take rs.length).foldl (fun n l => zl n l.days) n
  | _, [], _, _ => rfl
  | _, _ :: _, [], h => by simp at h
  | n, r :: rs, l :: ls, h => lf_zip (n := zl n l.days) (rs := rs) (ls := ls) (by simpa using h)
theorem zip_mem {d : Int} : ∀ {ls : List Lyr} {k : Nat} {p : Int × Lyr}, p ∈ (((ls.take k).map fun l => d % l.days).zip ls) → p.1 = d % p.2.days ∧ p.2 ∈ ls.take k
  | [], k, p, h => by cases k <;> cases h
  | l :: ls, 0, p, h => by cases h
  | l :: ls, k + 1, p, h => by
    rcases List.mem_cons.mp h with e | h
    · rw [e]; exact ⟨rfl, .head _⟩
    · obtain ⟨a, b⟩ := zip_mem (ls := ls) (k := k) h
      exact ⟨a, .tail _ b⟩
theorem ok_class_of : ∀ as QD ED, S_class_of as QD ED → w_class_of (bodyEnds as QD fun _ _ => False) (startD n_class_of as) := by
  rintro as QD ED ⟨ls, m, d, rfl, hls, l500, q⟩
  have hd : ∀ l ∈ ls, 1 ≤ l.days := fun l hl => (hls l hl).d1
  have er := lot_rests (ls := ls) (m := m) (d := d)
  have el := lot_len (ls := ls) (m := m) (d := d)
  generalize (lotOf ls m d).1 = rs at *
  have hz : ∀ p ∈ rs.zip ls, p.1 = d % p.2.days ∧ p.2 ∈ ls := fun p hp => by
    rw [er] at hp
    obtain ⟨a, b⟩ := zip_mem hp
    exact ⟨a, List.mem_of_mem_take b⟩
  have lp : Lp ((rs.zip ls).map fun p => (p.1, p.2.days)) = clsN ls rs.length := lf_zip el
  have np : 0 < clsN ls rs.length := rnd_pos fun l hl => hd l (List.mem_of_mem_take hl)
  unfold n_class_of w_class_of
  tm_at "dstart"
  tm_at "dl"
  rw [zipF_map]
  have zlen : (rs.zip ls).length ≤ 500 := by rw [List.length_zip]; omega
  have zl2 : ((rs.zip ls).map fun p : Int × Lyr => PyData.tuple [.int p.1, lyrD p.2]).length ≤ sizeLine := by rw [List.length_map, sizeLine_eq]; omega
  tm_at "dl"
  tm_at "dlc"
  refine lcK_ys (inj := fun p : Int × Lyr => PyData.tuple [.int p.1, lyrD p.2]) (fun p => CFRb.cplD (p.1, p.2.days)) (rs.zip ls) (fun x hx nx hnx => ?_) ?_
  · clear q
    tm_at "dl"
    exact hnx
  have zlen : (rs.zip ls).length ≤ 500 := by rw [List.length_zip]; omega
  tm_at "dl"
  refine ⟨(rs.zip ls).map fun p => (p.1, p.2.days), ?_, fun p hp => ?_, ?_, fun i j p p' hij hi hj hagr => ?_, fun x x0 x1 hs => ?_⟩
  · show [C.v (.tuple ((rs.zip ls).map fun p => CFRb.cplD (p.1, p.2.days)))] = [C.v (.tuple (((rs.zip ls).map fun p => (p.1, p.2.days)).map CFRb.cplD))]
    rw [List.map_map]
    rfl
  · obtain ⟨y, hy, rfl⟩ := List.mem_map.mp hp
    obtain ⟨a, b⟩ := hz y hy
    have := hd _ b
    exact ⟨by show 0 ≤ y.1; rw [a]; exact Int.emod_nonneg _ (by omega), by show y.1 < y.2.days; rw [a]; exact Int.emod_lt_of_pos _ (by omega)⟩
  · rw [lp]
    exact sm60 (by omega) (rnd_60 fun l hl => hls l (List.mem_of_mem_take hl))
  · exfalso
    obtain ⟨y, hy, rfl⟩ := List.mem_map.mp (List.mem_of_getElem? hi)
    obtain ⟨y', hy', rfl⟩ := List.mem_map.mp (List.mem_of_getElem? hj)
    obtain ⟨a, b⟩ := hz y hy
    obtain ⟨a', b'⟩ := hz y' hy'
    have ag : agr (y.1, y.2.days) (y'.1, y'.2.days) = true := agr_iff.mpr (by
      show zg y.2.days y'.2.days ∣ y.1 - y'.1
      rw [a, a']
      have d1 : zg y.2.days y'.2.days ∣ d % y.2.days - d := Int.dvd_trans (zg_left _ _) (dvd_sub_comm ⟨d / y.2.days, by have := Int.mul_ediv_add_emod d y.2.days; omega⟩)
      have d2 : zg y.2.days y'.2.days ∣ d - d % y'.2.days := Int.dvd_trans (zg_right _ _) ⟨d / y'.2.days, by have := Int.mul_ediv_add_emod d y'.2.days; omega⟩
      exact dvd_sub3 d1 d2)
    rw [ag] at hagr
    cases hagr
  · have sd : Sol ((rs.zip ls).map fun p => (p.1, p.2.days)) d := fun p hp => by
      obtain ⟨y, hy, rfl⟩ := List.mem_map.mp hp
      obtain ⟨a, b⟩ := hz y hy
      show y.2.days ∣ d - y.1
      rw [a]
      exact ⟨d / y.2.days, by have := Int.mul_ediv_add_emod d y.2.days; omega⟩
    have dv := sol_uniq sd hs
    rw [lp] at x1 dv ⊢
    have e := (Int.emod_eq_emod_iff_emod_sub_eq_zero).mpr (Int.emod_eq_zero_of_dvd dv)
    rw [Int.emod_eq_of_lt x0 x1] at e
    subst e
    tm_at "dl"
    rw [cut_from (by decide) (by simp)]
    exact q
end CFLo
end

section
set_option Elab.async false
set_option linter.all false
set_option maxRecDepth 100000
set_option maxHeartbeats 4000000
namespace K39
open PySem PySem.Spec PyProof.Rows L2 DL CFH CFCl CFRu CFWd CFBk CFTu CFRb CFSp CFLo CFLc CFCg CFLy CFLa
local macro_rules | `(tactic| tm_at "dw") => `(tactic| with_reducible (conv => whnf))
local macro_rules | `(tactic| tm_at "dside") => `(tactic| first | with_reducible assumption | ((with_reducible show CDivW _ _); exact ⟨by omega, log2_sm (by omega)⟩) | exact rfl | exact True.intro | exact Nat.le_of_ble_eq_true rfl | (intro z; first | exact rfl | exact (Bool.false_ne_true z).elim) | (intro _; (with_reducible refine And.intro ?_ ?_) <;> first | exact rfl | assumption) | (intro _; assumption) | (intro _; with_reducible exact lf_ints) | (intro _; with_reducible exact lf_strs) | ((with_reducible show SeqAt.shaped (PyData.str _) = true); exact (Lay.str (k := 0) (by first | assumption | decide +kernel)).shaped) | omega | (simp only [List.length_map, List.length_reverse, List.length_append, List.length_cons, List.length_nil]; omega) | exact And.intro (by omega) (by with_reducible assumption) | exact And.intro (by omega) (by decide +kernel) | exact And.intro (by omega) (And.intro (by omega) (by omega)) | exact MulOk.left ⟨by omega, by omega⟩ | exact MulOk.right ⟨by omega, by omega⟩ | exact le1000 (by first | omega | (simp only [List.length_map, List.length_reverse, List.length_append, List.length_cons, List.length_nil, rangeD_len, enumF_len]; omega)) | with_reducible exact lf_ints | with_reducible exact lf_strs | assumption | decide)
local macro_rules | `(tactic| tm_at "do") => `(tactic| first | with_reducible exact intsOf_map _ | with_reducible exact boolsOf_map _ | ((with_reducible show lstOf _ _ = _); with_unfolding_all exact rfl) | ((with_reducible show intsOf _ = _); with_unfolding_all exact rfl) | ((with_reducible show itemsD _ = _); with_unfolding_all exact rfl) | ((with_reducible show itemsLT _ = _); with_unfolding_all exact rfl) | ((with_reducible show boolsOf _ = _); with_unfolding_all exact rfl) | ((with_reducible show strsOf _ = _); with_unfolding_all exact rfl) | with_reducible exact atI_0 | with_reducible exact atI_1 | with_reducible exact atI_2 | with_reducible exact atI_3 | with_reducible exact atI_4 | with_reducible exact setI_0 | with_reducible exact setI_1 | with_reducible exact setI_2 | with_reducible exact setI_3)
local macro_rules | `(tactic| tm_at "dz") => `(tactic| (intro z; (try simp only [decide_eq_true_eq, decide_eq_false_iff_not, eqv_int, Bool.not_eq_true', Bool.not_eq_false', Bool.not_not, Bool.false_eq_true, reduceCtorEq, Int.not_lt, Int.not_le, wholeD, List.length_cons, List.length_nil, List.length_map, isT_tuple_none, isT_tuple_bool, isT_tuple_int, isT_tuple_str, isT_tuple_list, isT_tuple_tuple, isT_int_none, isT_int_bool, isT_int_int, isT_int_str, isT_int_list, isT_int_tuple, isT_bool_none, isT_bool_bool, isT_bool_int, isT_bool_str, isT_bool_list, isT_bool_tuple, isT_str_none, isT_str_bool, isT_str_int, isT_str_str, isT_str_list, isT_str_tuple, isT_list_none, isT_list_bool, isT_list_int, isT_list_str, isT_list_list, isT_list_tuple] at z); try (first | (exfalso; omega) | exact (Bool.false_ne_true z).elim | (cases z; done))))
local macro_rules | `(tactic| tm_at "dnorm") => `(tactic| first | ((simp only [rset, rget, frzC, retag, clr, back]); done) | ((simp only [rset, rget, frzC, retag, clr, back]); exact rfl) | exact rfl)
local macro_rules | `(tactic| tm_at "dh") => `(tactic| first | ((with_reducible show wSeq _ _ _ _); with_reducible refine wSeq_i (by tm_at "dnorm") ?_) | ((with_reducible show optK _ _); with_reducible refine optK_of (by tm_at "do") ?_) | (with_reducible refine ifb ?_ ?_) <;> tm_at "dz" | ((with_reducible refine And.intro ?_ ?_); tm_at "dside") | fail "dh")
local macro_rules | `(tactic| tm_at "dc") => `(tactic| fail "dc")
local macro_rules | `(tactic| tm_at "dt") => `(tactic| first | (tm_at "dh" <;> (try tm_at "dw")) | (tm_at "dc" <;> (try tm_at "dw")))
local macro_rules | `(tactic| tm_at "dstart") => `(tactic| simp only [startD, List.length_cons, List.length_nil, Nat.reduceAdd, Nat.reduceSub, List.replicate, List.cons_append, List.nil_append])
local macro_rules | `(tactic| tm_at "dl") => `(tactic| ((try tm_at "dw"); repeat' tm_at "dt"))
local macro_rules | `(tactic| tm_at "dlc") => `(tactic| first | with_reducible refine lcK_eq (by tm_at "dnorm") ?_ | with_reducible refine forK_eq (by tm_at "dnorm") ?_)
local macro_rules | `(tactic| tm_at "dpos") => `(tactic| first | omega | decide)
local macro_rules | `(tactic| tm_at "dlog") => `(tactic| first | exact log2_sm (by omega) | exact CFH.big_log (by omega) (by omega) | assumption | exact log2_sm (by decide))
local macro_rules | `(tactic| tm_at "dc") => `(tactic| ((with_reducible show CFH.S_law_take _ _ _); refine CFH.take_i (by assumption) (by omega) (by tm_at "dpos") (by tm_at "dlog") (fun _ _ _ _ _ => ?_)))
local macro_rules | `(tactic| tm_at "dc") => `(tactic| ((with_reducible show CFH.S_law_great _ _ _); refine CFH.great_i (by assumption) (by omega) (fun _ _ _ _ _ => ?_)))
local macro_rules | `(tactic| tm_at "dc") => `(tactic| ((with_reducible show CFH.S_law_whole _ _ _); refine CFH.whole_i ?_))
local macro_rules | `(tactic| tm_at "dh") => `(tactic| first | ((with_reducible show ite _ _ _); first | (with_reducible refine DL.ifb_t (by with_reducible assumption) ?_) | (with_reducible refine DL.ifb_f (by with_reducible assumption) ?_)) | fail "dk")
local macro_rules | `(tactic| tm_at "do") => `(tactic| with_reducible assumption)
theorem ok_pieces : ∀ as QD ED, S_pieces as QD ED → w_pieces (bodyEnds as QD fun _ _ => False) (startD n_pieces as) := by
  rintro as QD ED ⟨ls, rfl, ht, l100, q⟩
  unfold n_pieces w_pieces
  tm_at "dstart"
  tm_at "dl"
  refine ⟨ls, rfl, ht, l100, fun cs hc c1 c2 => ?_⟩
  have c0 : 1 ≤ cs.length := List.length_pos_of_mem ((hc.mem 0).mpr (.inl rfl))
  have cl : (cs.map PyData.int).length ≤ 2402 := by rw [List.length_map]; exact c1
  have qq := q cs hc c1
  clear q
  tm_at "dl"
  rw [cut_from (by decide) (by rw [List.length_map]; omega), show Int.toNat 1 = 1 from rfl, ← List.map_drop, zipF_map]
  have zl' : (cs.zip (cs.drop 1)).length ≤ 2402 := by rw [List.length_zip, List.length_drop]; omega
  have zl2 : ((cs.zip (cs.drop 1)).map fun p : Int × Int => PyData.tuple [.int p.1, .int p.2]).length ≤ sizeLine := by rw [List.length_map, sizeLine_eq]; omega
  tm_at "dl"
  tm_at "dlc"
  refine lcK_ys (inj := fun p : Int × Int => PyData.tuple [.int p.1, .int p.2]) pcD (cs.zip (cs.drop 1)) (fun x hx nx hnx => ?_) ?_
  · clear qq
    tm_at "dl"
    exact hnx
  tm_at "dl"
  exact qq
theorem ok_law_one_turn : ∀ as QD ED, S_law_one_turn as QD ED → w_law_one_turn (bodyEnds as QD fun _ _ => False) (startD n_law_one_turn as) := by
  rintro as QD ED ⟨h, n, l, a, b, rfl, ho, hn, hl, he, q⟩
  unfold n_law_one_turn w_law_one_turn
  have lf := lf_lyr (l := l)
  tm_at "dstart"
  tm_at "dl"
  rename_i h1 x o1 x0 x1 h2 y o2 y0 y1
  refine pick_z [x, y] rfl o2 (by omega) (Nat.le_of_ble_eq_true rfl) (Nat.le_of_ble_eq_true rfl) fun h3 d o3 _ => ?_
  tm_at "dl"
  refine turn_i hl.d1 (by have := hl.n12; omega) ?_
  have lo : lfree (optN (turnL l (1440 * d + a))) = true := by cases turnL l (1440 * d + a) <;> rfl
  tm_at "dl"
  refine turn_i hl.d1 (by have := hl.n12; omega) ?_
  rw [he d]
  have er : PyData.eqv (optN (turnL l (1440 * d + a))) (optN (turnL l (1440 * d + a))) = true := by
    cases turnL l (1440 * d + a) <;> simp [optN, PyData.eqv]
  have sh : SeqAt.shaped (optN (turnL l (1440 * d + a))) = true := by cases turnL l (1440 * d + a) <;> rfl
  tm_at "dl"
  rw [er]
  exact q h3 (o3.up (by omega))
def drawnW : WS := (wSeq (wSetF 7 (wCall CFH.S_law_pick (wCons (wPk 0) (wCons (wL oLst (wCons (wC (.int 1)) (wCons (wC (.int 7)) (wCons (wC (.int 60)) (wCons (wB oAdd (wC (.int 1)) (wCall CFH.S_law_take (wCons (wPk 0) (wCons (wC (.int 60)) wNil)))) wNil))))) wNil))))
    (wDrop (wApp 5 (wCall CFLy.S_law_layer (wCons (wPk 0) (wCons (wB oIx (wVar 2) (wB oMod (wVar 6) (wC (.int 4)))) (wCons (wVar 1) (wCons (wVar 7) (wCons (wVar 3) wNil)))))))))
theorem ok_law_drawn : ∀ as QD ED, S_law_drawn as QD ED → w_law_drawn (bodyEnds as QD fun _ _ => False) (startD n_law_drawn as) := by
  rintro as QD ED ⟨h, n, rfl, ho, hn, q⟩
  unfold n_law_drawn w_law_drawn
  tm_at "dstart"
  tm_at "dl"
  refine ⟨h, n, 6, rfl, ho, by omega, by omega, by omega, fun h1 ws o1 wl hw => ?_⟩
  have wwl : (ws.map PyData.str).length ≤ 6 := by rw [List.length_map]; omega
  obtain ⟨w0, g0, m0⟩ := words_at (ws := ws) (j := 0) (by omega) (by omega)
  obtain ⟨w1, g1, m1⟩ := words_at (ws := ws) (j := 1) (by omega) (by omega)
  obtain ⟨w2, g2, m2⟩ := words_at (ws := ws) (j := 2) (by omega) (by omega)
  have fin : ∀ (h2 : Hd) (most many : Int) (DD : EndsD), h2.ok (n + 13) → 0 ≤ most → most ≤ 12 → 0 ≤ many → many ≤ 80 → (∀ (h' : Hd) (ls : List Lyr) (c6 c7 : C), h'.ok (n + 30000) → (∀ l ∈ ls, LyrOk l) → ls.length ≤ 80 → DD.nx [.own 1 (.lst (CFH.hd h')), .v (wsD ws), .v (.list [.str w0, .str w0, .str w1, .str w2]), .v (.int most), .v (.int many), .own 0 (.lst (ls.map lyrD)), c6, c7]) →
      forK (wgName 6) drawnW (rangeD 0 many.toNat) DD [.own 1 (.lst (CFH.hd h2)), .v (wsD ws), .v (.list [.str w0, .str w0, .str w1, .str w2]), .v (.int most), .v (.int many), .own 0 (.lst []), .no, .no] := by
    intro h2 most many DD o2 t0 t1 y0 y1 fin
    cases DD
    unfold drawnW
    clear q
    refine forK_n _ (fun k ρ => ∃ (h : Hd) (ls : List Lyr) (c6 c7 : C), h.ok (n + 13 + 310 * k) ∧ (∀ l ∈ ls, LyrOk l) ∧ ls.length = k ∧ ρ = [.own 1 (.lst (CFH.hd h)), .v (wsD ws), .v (.list [.str w0, .str w0, .str w1, .str w2]), .v (.int most), .v (.int many), .own 0 (.lst (ls.map lyrD)), c6, c7]) ⟨h2, [], _, _, o2, (fun l h => nomatch h), rfl, rfl⟩ ?_ ?_
    · rintro ρ ⟨h3, ls, c6, c7, o3, hls, hl, rfl⟩
      rw [rangeD_len] at o3 hl
      exact fin h3 ls c6 c7 (o3.up (by omega)) hls (by omega)
    rintro k d ρ next hk hd hnx ⟨h3, ls, c6, c7, o3, hls, hl, rfl⟩
    rw [rangeD_len] at hk
    obtain ⟨j, rfl, j0, j1⟩ := mem_range hd
    clear fin hd
    have jm : 0 ≤ j % 4 ∧ j % 4 < 4 := ⟨Int.emod_nonneg _ (by decide), Int.emod_lt_of_pos _ (by decide)⟩
    obtain ⟨wj, gj, kj⟩ : ∃ w, atI [PyData.str w0, .str w0, .str w1, .str w2] (j % 4) = some (.str w) ∧ WordOk w := by
      rcases (show j % 4 = 0 ∨ j % 4 = 1 ∨ j % 4 = 2 ∨ j % 4 = 3 by omega) with e | e | e | e <;> rw [e]
      · exact ⟨w0, rfl, hw.ok _ m0⟩
      · exact ⟨w0, rfl, hw.ok _ m0⟩
      · exact ⟨w1, rfl, hw.ok _ m1⟩
      · exact ⟨w2, rfl, hw.ok _ m2⟩
    have sz : (ls.map lyrD).length < sizeLine := by rw [List.length_map, sizeLine_eq]; omega
    tm_at "dl"
    rename_i h4 x o4 x0 x1
    refine pick_z [1, 7, 60, 1 + x] rfl o4 (by omega) (Nat.le_of_ble_eq_true rfl) (Nat.le_of_ble_eq_true rfl) fun h5 days o5 hdays => ?_
    have dd : 1 ≤ days ∧ days ≤ 60 := by
      simp only [List.mem_cons, List.not_mem_nil, or_false] at hdays
      omega
    clear hdays
    tm_at "dl"
    refine layer_i (ws := ws) o5 (by omega) kj (by omega) (by omega) hw.ok dd.1 dd.2 t0 t1 fun h6 l o6 ok ew ed eh et => ?_
    have lf := lf_lyr (l := l)
    tm_at "dl"
    have em : (ls ++ [l]).map lyrD = ls.map lyrD ++ [lyrD l] := by rw [List.map_append]; rfl
    rw [← em]
    refine hnx _ ⟨h6, ls ++ [l], _, _, o6.up (by omega), fun l' h' => ?_, by rw [List.length_append, List.length_singleton, hl], rfl⟩
    rcases List.mem_append.mp h' with z | z
    · exact hls l' z
    · rw [List.mem_singleton.mp z]; exact ok
  tm_at "dl"
  refine pick_z [1, 3, 6, 12] rfl o1 (by omega) (by decide) (by decide) fun h2 most o2 hmost => ?_
  have mb : 0 ≤ most ∧ most ≤ 12 := by simp only [List.mem_cons, List.not_mem_nil, or_false] at hmost; omega
  tm_at "dl"
  refine pick_z [0, 1, 2, 3, 4, 80] rfl o2 (by omega) (by decide) (by decide) fun h3 many o3 hmany => ?_
  have nb : 0 ≤ many ∧ many ≤ 80 := by simp only [List.mem_cons, List.not_mem_nil, or_false] at hmany; omega
  clear hmost hmany
  by_cases z : many = 80
  · have ez : PyData.eqv (.int many) (.int 80) = true := eqv_intV z
    tm_at "dl"
    refine pick_z [1, 3] rfl o3 (by omega) (by decide) (by decide) fun h4 most2 o4 hmost => ?_
    have mb2 : 0 ≤ most2 ∧ most2 ≤ 12 := by simp only [List.mem_cons, List.not_mem_nil, or_false] at hmost; omega
    clear hmost
    tm_at "dl"
    refine fin h4 most2 many _ (by exact o4) mb2.1 mb2.2 nb.1 nb.2 fun h5 ls c6 c7 o5 hls l80 => ?_
    have lfl := lf_lyrs (ls := ls)
    clear fin
    tm_at "dl"
    exact q h5 ls (o5.up (by omega)) hls l80
  · have ez : PyData.eqv (.int many) (.int 80) = false := by rw [eqv_int]; exact decide_eq_false z
    tm_at "dl"
    refine fin h3 most many _ (o3.up (by omega)) mb.1 mb.2 nb.1 nb.2 fun h5 ls c6 c7 o5 hls l80 => ?_
    have lfl := lf_lyrs (ls := ls)
    clear fin
    tm_at "dl"
    exact q h5 ls (o5.up (by omega)) hls l80
theorem ok_law : ∀ as QD ED, S_law as QD ED → w_law (bodyEnds as QD fun _ _ => False) (startD n_law as) := by
  rintro as QD ED ⟨ns, rfl, hns, q⟩
  unfold n_law w_law
  tm_at "dstart"
  tm_at "dl"
  refine forK_st _ (fun ρ => ∃ c1 c2 c3 c4 c5 c6 c7 : C, ρ = [.v (.list (ns.map PyData.int)), c1, c2, c3, c4, c5, c6, c7, .no]) ⟨_, _, _, _, _, _, _, rfl⟩ ?_ ?_
  · rintro ρ ⟨c1, c2, c3, c4, c5, c6, c7, rfl⟩
    tm_at "dl"
    exact q _
  rintro d hd ρ next hn ⟨c1, c2, c3, c4, c5, c6, c7, rfl⟩
  obtain ⟨k, rfl, k0, k1⟩ : ∃ k : Int, d = .int k ∧ 0 ≤ k ∧ k ≤ 1000 := by
    obtain ⟨k, e, k0, k1⟩ := mem_range hd
    exact ⟨k, e, k0, by omega⟩
  clear hd q
  tm_at "dl"
  refine hand_i k0 k1 fun h0 o0 => ?_
  tm_at "dl"
  refine ⟨h0, 0, rfl, o0, by omega, fun h1 ls o1 hls l80 => ?_⟩
  have lfl := lf_lyrs (ls := ls)
  have ht : ∀ l ∈ ls, l.turns.length ≤ 12 := fun l hl => (hls l hl).n12
  have llm : (ls.map lyrD).length ≤ 80 := by rw [List.length_map]; exact l80
  tm_at "dl"
  refine ⟨ls, rfl, ht, by omega, fun cs hc c1 c2 => ?_⟩
  have c0 : 1 ≤ cs.length := List.length_pos_of_mem ((hc.mem 0).mpr (.inl rfl))
  have cl : (cs.map PyData.int).length ≤ 2402 := by rw [List.length_map]; exact c1
  tm_at "dl"
  refine ⟨ls, rfl, ht, by omega, fun cs' hc' _ => ?_⟩
  cases hc'.uniq hc
  tm_at "dl"
  have c2403 : (cs.length - 1 : Int) = ((cs.length - 1 : Nat) : Int) := by omega
  have zl : (cs.zip (cs.drop 1)).length ≤ 2402 := by rw [List.length_zip, List.length_drop]; omega
  have bd := cuts_bd hc
  have shw : Shw (.tuple ((cs.zip (cs.drop 1)).map pcD)) := by
    refine (Sh.tuple (n := 1) (m := 17) fun d hd => ?_).shw (by decide) (by rw [List.length_map]; omega)
    obtain ⟨p, hp, rfl⟩ := List.mem_map.mp hd
    have z := zip_next hc.up p hp
    have b1 := bd _ z.1
    have b2 := bd _ z.2.1
    refine (Sh.tuple (n := 0) (m := 5) fun d hd => ?_).up (by decide) (Nat.le_of_ble_eq_true rfl)
    simp only [List.mem_cons, List.not_mem_nil, or_false] at hd
    rcases hd with rfl | rfl
    · exact Sh.int (k := 4) (by decide) (by omega) (by decide)
    · exact Sh.int (k := 4) (by decide) (by omega) (by decide)
  have lfp : lfree (.tuple ((cs.zip (cs.drop 1)).map pcD)) = true := lfree_tup fun d hd => by
    obtain ⟨p, _, rfl⟩ := List.mem_map.mp hd
    rfl
  tm_at "dl"
  rw [show (((cs.map PyData.int).length : Int) - 1).toNat = cs.length - 1 by rw [List.length_map]; omega]
  refine ⟨by rw [rangeD_len, sizeLine_eq]; omega, ?_⟩
  tm_at "dlc"
  refine lcK_r0 (fun k => some (pcD (cs.getD k 0, cs.getD (k + 1) 0))) (cs.length - 1) (fun x hx nx hnx => ?_) ?_
  · have g1 := cs_at (cs := cs) (k := x) (by omega)
    have g2 : atI (cs.map PyData.int) ((x : Int) + 1) = some (.int (cs.getD (x + 1) 0)) := cs_at (cs := cs) (k := x + 1) (by omega)
    tm_at "dl"
    exact hnx
  have er : (List.range (cs.length - 1)).filterMap (fun k => some (pcD (cs.getD k 0, cs.getD (k + 1) 0))) = (cs.zip (cs.drop 1)).map pcD := by
    rw [List.filterMap_eq_map', pairs_range (f := pcD)]
  rw [er]
  have en : ((PyData.tuple ((cs.zip (cs.drop 1)).map pcD)).shown != (PyData.tuple ((cs.zip (cs.drop 1)).map pcD)).shown) = false := str_ne_self
  tm_at "dl"
  rw [show (some (40 : Int)) = some ((40 : Nat) : Int) from rfl, cut_take, ← List.map_take]
  tm_at "dl"
  refine forK_n _ (fun j ρ => ∃ (h : Hd) (c6 c7 : C), h.ok (40000 + 11 * j) ∧ ρ = [.v (.list (ns.map PyData.int)), .v (.int k), .own 0 (.lst (CFH.hd h)), .v (lyrsD ls), .v (.list (cs.map PyData.int)), .v (.tuple ((cs.zip (cs.drop 1)).map pcD)), c6, c7, .no]) ⟨h1, _, _, o1.up (by omega), rfl⟩ ?_ ?_
  · rintro ρ ⟨h2, c6, c7, o2, rfl⟩
    exact hn _ ⟨_, _, _, _, _, _, _, rfl⟩
  rintro j d ρ next2 hj hd hnx ⟨h2, c6, c7, o2, rfl⟩
  obtain ⟨p, hp, rfl⟩ := List.mem_map.mp hd
  have hp' := List.mem_of_mem_take hp
  have nx := zip_next hc.up p hp'
  rw [List.length_map, List.length_take] at hj
  have shl := (lay_lyrs hls).shaped
  have sh0 : SeqAt.shaped (.tuple []) = true := lay_tnil.shaped
  cases ls with
  | nil =>
    have e0 : (!PyData.eqv (.tuple (([] : List Lyr).map lyrD)) (.tuple [])) = false := by rw [eqv_tnil]; rfl
    tm_at "dl"
    exact hnx _ ⟨h2, _, _, o2.up (by omega), rfl⟩
  | cons l0 lr =>
    have e0 : (!PyData.eqv (.tuple ((l0 :: lr).map lyrD)) (.tuple [])) = true := by rw [eqv_tnil]; rfl
    generalize hl0 : l0 :: lr = lz at *
    have lz0 : 0 < (lz.map lyrD).length := by rw [← hl0]; exact Nat.succ_pos _
    tm_at "dl"
    refine pick_t o2 (by omega) lz0 (by omega) fun h3 d o3 hd3 => ?_
    obtain ⟨l, hl, rfl⟩ := List.mem_map.mp hd3
    have lf := lf_lyr (l := l)
    have hlk := hls l hl
    tm_at "dl"
    refine ⟨h3, _, l, p.1, p.2, rfl, o3, by omega, hlk, fun d => ?_, fun h4 o4 => ?_⟩
    · have z := nx.2.2.1
      rw [show 1440 * d + p.2 - 1 = 1440 * d + (p.2 - 1) by omega]
      exact piece_turn hc nx hl (lo_of hlk) (by omega) (by omega)
    tm_at "dl"
    exact hnx _ ⟨h4, _, _, o4.up (by omega), rfl⟩
end K39
end

set_option Elab.async false
set_option linter.all false
set_option maxRecDepth 100000
set_option maxHeartbeats 4000000

/-! generated: readings shared by laws -/
namespace CFTu
open PySem PySem.Spec PyProof.Rows L2 DL CFWd CFBk
def L_place_of : Nat → Bool := fun j => ([] : List Nat).contains j
/-- place_of: 0 layer, 1 r -/
def w_place_of : WS := wRet (wB oMod (wB oSub (wVar 1) (wB oIx (wVar 0) (wC (.int 1)))) (wB oMul (wC (.int 1440)) (wB oIx (wVar 0) (wC (.int 2)))))
def n_place_of : Nat := 2
def L_turn_at : Nat → Bool := fun j => ([] : List Nat).contains j
/-- turn_at: 0 layer, 1 r, 2 place, 3 j, 4 turn -/
def w_turn_at : WS := wSeq (wSetF 2 (wCall S_place_of (wCons (wVar 0) (wCons (wVar 1) wNil))))
    (wSeq (wFor (wIEnum (wCons (wB oIx (wVar 0) (wC (.int 3))) wNil)) (wgTup 2 (wgCons (wgName 3) (wgCons (wgName 4) wgNil)))
    (wIf (wTst (wCh (oI fun i j => .bool ((fun i j => decide (i ≤ j)) i j)) (oI fun i j => .bool ((fun i j => decide (i < j)) i j)) (wB oIx (wVar 4) (wC (.int 0))) (wVar 2) (wB oIx (wVar 4) (wC (.int 1)))))
    (wRet (wVar 3))
    wNext))
    (wRet (wC .none)))
def n_turn_at : Nat := 5
end CFTu

section
set_option Elab.async false
set_option linter.all false
set_option maxRecDepth 100000
set_option maxHeartbeats 4000000
namespace CFTu
open PySem PySem.Spec PyProof.Rows L2 DL CFH CFCl CFRu CFWd CFBk
local macro_rules | `(tactic| tm_at "dw") => `(tactic| with_reducible (conv => whnf))
local macro_rules | `(tactic| tm_at "dside") => `(tactic| first | with_reducible assumption | ((with_reducible show CDivW _ _); exact ⟨by omega, log2_sm (by omega)⟩) | exact rfl | exact True.intro | exact Nat.le_of_ble_eq_true rfl | (intro z; first | exact rfl | exact (Bool.false_ne_true z).elim) | (intro _; (with_reducible refine And.intro ?_ ?_) <;> first | exact rfl | assumption) | (intro _; assumption) | (intro _; with_reducible exact lf_ints) | (intro _; with_reducible exact lf_strs) | ((with_reducible show SeqAt.shaped (PyData.str _) = true); exact (Lay.str (k := 0) (by first | assumption | decide +kernel)).shaped) | omega | (simp only [List.length_map, List.length_reverse, List.length_append, List.length_cons, List.length_nil]; omega) | exact And.intro (by omega) (by with_reducible assumption) | exact And.intro (by omega) (by decide +kernel) | exact And.intro (by omega) (And.intro (by omega) (by omega)) | exact MulOk.left ⟨by omega, by omega⟩ | exact MulOk.right ⟨by omega, by omega⟩ | exact le1000 (by first | omega | (simp only [List.length_map, List.length_reverse, List.length_append, List.length_cons, List.length_nil, rangeD_len, enumF_len]; omega)) | with_reducible exact lf_ints | with_reducible exact lf_strs | assumption | decide)
local macro_rules | `(tactic| tm_at "do") => `(tactic| first | with_reducible exact intsOf_map _ | with_reducible exact boolsOf_map _ | ((with_reducible show lstOf _ _ = _); with_unfolding_all exact rfl) | ((with_reducible show intsOf _ = _); with_unfolding_all exact rfl) | ((with_reducible show itemsD _ = _); with_unfolding_all exact rfl) | ((with_reducible show itemsLT _ = _); with_unfolding_all exact rfl) | ((with_reducible show boolsOf _ = _); with_unfolding_all exact rfl) | ((with_reducible show strsOf _ = _); with_unfolding_all exact rfl) | with_reducible exact atI_0 | with_reducible exact atI_1 | with_reducible exact atI_2 | with_reducible exact atI_3 | with_reducible exact atI_4 | with_reducible exact setI_0 | with_reducible exact setI_1 | with_reducible exact setI_2 | with_reducible exact setI_3)
local macro_rules | `(tactic| tm_at "dz") => `(tactic| (intro z; (try simp only [decide_eq_true_eq, decide_eq_false_iff_not, eqv_int, Bool.not_eq_true', Bool.not_eq_false', Bool.not_not, Bool.false_eq_true, reduceCtorEq, Int.not_lt, Int.not_le, wholeD, List.length_cons, List.length_nil, List.length_map, isT_tuple_none, isT_tuple_bool, isT_tuple_int, isT_tuple_str, isT_tuple_list, isT_tuple_tuple, isT_int_none, isT_int_bool, isT_int_int, isT_int_str, isT_int_list, isT_int_tuple, isT_bool_none, isT_bool_bool, isT_bool_int, isT_bool_str, isT_bool_list, isT_bool_tuple, isT_str_none, isT_str_bool, isT_str_int, isT_str_str, isT_str_list, isT_str_tuple, isT_list_none, isT_list_bool, isT_list_int, isT_list_str, isT_list_list, isT_list_tuple] at z); try (first | (exfalso; omega) | exact (Bool.false_ne_true z).elim | (cases z; done))))
local macro_rules | `(tactic| tm_at "dnorm") => `(tactic| first | ((simp only [rset, rget, frzC, retag, clr, back]); done) | ((simp only [rset, rget, frzC, retag, clr, back]); exact rfl) | exact rfl)
local macro_rules | `(tactic| tm_at "dh") => `(tactic| first | ((with_reducible show wSeq _ _ _ _); with_reducible refine wSeq_i (by tm_at "dnorm") ?_) | ((with_reducible show optK _ _); with_reducible refine optK_of (by tm_at "do") ?_) | (with_reducible refine ifb ?_ ?_) <;> tm_at "dz" | ((with_reducible refine And.intro ?_ ?_); tm_at "dside") | fail "dh")
local macro_rules | `(tactic| tm_at "dc") => `(tactic| fail "dc")
local macro_rules | `(tactic| tm_at "dt") => `(tactic| first | (tm_at "dh" <;> (try tm_at "dw")) | (tm_at "dc" <;> (try tm_at "dw")))
local macro_rules | `(tactic| tm_at "dstart") => `(tactic| simp only [startD, List.length_cons, List.length_nil, Nat.reduceAdd, Nat.reduceSub, List.replicate, List.cons_append, List.nil_append])
local macro_rules | `(tactic| tm_at "dl") => `(tactic| ((try tm_at "dw"); repeat' tm_at "dt"))
local macro_rules | `(tactic| tm_at "dlc") => `(tactic| first | with_reducible refine lcK_eq (by tm_at "dnorm") ?_ | with_reducible refine forK_eq (by tm_at "dnorm") ?_)
theorem ok_place_of : ∀ as QD ED, S_place_of as QD ED → w_place_of (bodyEnds as QD fun _ _ => False) (startD n_place_of as) := by
  rintro as QD ED ⟨l, r, rfl, h1, q⟩
  unfold n_place_of w_place_of
  have mo : ∀ x : Int, MulOk 1440 x := fun x => MulOk.left (by decide)
  have mo1 := mo l.days
  tm_at "dstart"
  tm_at "dl"
  exact q
theorem ok_turn_at : ∀ as QD ED, S_turn_at as QD ED → w_turn_at (bodyEnds as QD fun _ _ => False) (startD n_turn_at as) := by
  rintro as QD ED ⟨l, r, rfl, h1, hl, q⟩
  unfold n_turn_at w_turn_at
  unfold turnL at q
  tm_at "dstart"
  tm_at "dl"
  refine place_i h1 ?_
  tm_at "dl"
  revert q
  generalize placeL l r = p
  intro q
  generalize eR : turnG p 0 l.turns = R at q
  refine forK_ind (fun ds ρ => ∃ (j : Nat) (rest : List Trn) (c3 c4 : C), ds = enumF j (rest.map trnD) ∧ turnG p j rest = R ∧ ρ = [.v (lyrD l), .v (.int r), .v (.int p), c3, c4]) ?_ ?_ _ _ ⟨0, l.turns, _, _, rfl, eR, rfl⟩
  · rintro ρ ⟨j, rest, c3, c4, hd, he, rfl⟩
    have e1 : rest = [] := by cases rest with
      | nil => rfl
      | cons _ _ => cases hd
    subst e1
    rw [← he] at q
    tm_at "dl"
    exact q
  · rintro d ds ρ next hnx ⟨j, rest, c3, c4, hd, he, rfl⟩
    cases rest with
    | nil => cases hd
    | cons t rest =>
      obtain ⟨rfl, rfl⟩ : d = .tuple [.int (j : Nat), trnD t] ∧ ds = enumF (j + 1) (rest.map trnD) := by
        cases hd
        exact ⟨rfl, rfl⟩
      unfold turnG at he
      tm_at "dl"
      · rename_i z1 z2
        rw [if_pos (by omega)] at he
        rw [← he] at q
        exact q
      · rw [if_neg (by omega)] at he
        exact hnx _ ⟨j + 1, rest, _, _, rfl, he, rfl⟩
      · rw [if_neg (by omega)] at he
        exact hnx _ ⟨j + 1, rest, _, _, rfl, he, rfl⟩
end CFTu
end

set_option Elab.async false
set_option linter.all false
set_option maxRecDepth 100000
set_option maxHeartbeats 4000000

/-! generated: readings shared by laws -/
namespace CFH
open PySem PySem.Spec PyProof.Rows L2 DL
def L_law_hand : Nat → Bool := fun j => ([] : List Nat).contains j
/-- _law_hand: 0 _law_script, 1 _law_k, 2 _law_cell -/
def w_law_hand : WS := wSeq (wSetF 2 (wC (.int 0)))
    (wSeq (wIf (wTst (wB oLt (wVar 1) (wL oLen (wCons (wVar 0) wNil))))
    (wSetF 2 (wB oIx (wVar 0) (wVar 1)))
    wNext)
    (wRet (wL oLst (wCons (wB oMul (wVar 2) (wL oInt1 (wCons (wB oGe (wVar 2) (wB oPow (wC (.int 10)) (wC (.int 18)))) wNil))) (wCons (wB oAdd (wB oAdd (wB oMod (wVar 2) (wC (.int 2305843009213693951))) (wB oMul (wC (.int 7919)) (wVar 1))) (wC (.int 3))) (wCons (wC (.int 0)) wNil))))))
def n_law_hand : Nat := 3
def L_law_take : Nat → Bool := fun j => [0].contains j
/-- _law_take: 0 _law_hand_here, 1 _law_many, 2 _law_digit, 3 _law_turn, 4 _law_more, 5 _law_mixed, 6 _law_other -/
def w_law_take : WS := wSeq (wIf (wTst (wB oGt (wB oIx (wLn 0) (wC (.int 0))) (wC (.int 0))))
    (wSeq (wSetF 2 (wB oMod (wB oIx (wLn 0) (wC (.int 0))) (wVar 1)))
    (wSeq (wSetIx 0 (wB oDiv (wB oIx (wLn 0) (wC (.int 0))) (wVar 1)) (wC (.int 0)))
    (wRet (wVar 2))))
    wNext)
    (wSeq (wSetIx 0 (wB oAdd (wB oIx (wLn 0) (wC (.int 2))) (wC (.int 1))) (wC (.int 2)))
    (wSeq (wSetF 3 (wB oIx (wLn 0) (wC (.int 2))))
    (wSeq (wSetF 4 (wB oAdd (wB oAdd (wC (.int 48271)) (wB oMul (wB oMul (wC (.int 2)) (wVar 3)) (wVar 3))) (wB oMul (wC (.int 65537)) (wVar 3))))
    (wSeq (wSetF 5 (wB oMod (wB oMul (wB oAdd (wB oIx (wLn 0) (wC (.int 1))) (wB oMul (wC (.int 1299709)) (wVar 3))) (wVar 4)) (wC (.int 2305843009213693921))))
    (wSeq (wSetF 6 (wB oAdd (wB oAdd (wB oMod (wVar 5) (wC (.int 1000003))) (wB oMul (wVar 3) (wC (.int 99991)))) (wC (.int 11))))
    (wSeq (wSetF 5 (wB oMod (wB oMul (wVar 5) (wVar 6)) (wC (.int 2305843009213693907))))
    (wRet (wB oMod (wB oAdd (wB oDiv (wVar 5) (wC (.int 97))) (wB oDiv (wVar 5) (wC (.int 1000033)))) (wVar 1)))))))))
def n_law_take : Nat := 7
def L_law_pick : Nat → Bool := fun j => [0].contains j
/-- _law_pick: 0 _law_hand_here, 1 _law_some -/
def w_law_pick : WS := wRet (wB oIx (wVar 1) (wCall S_law_take (wCons (wPk 0) (wCons (wL oLen (wCons (wVar 1) wNil)) wNil))))
def n_law_pick : Nat := 2
def L_law_whole : Nat → Bool := fun j => ([] : List Nat).contains j
/-- _law_whole: 0 _law_found -/
def w_law_whole : WS := wRet (wAndV (wU (oIsi "int") (wVar 0)) (wNotV (wU (oIsi "bool") (wVar 0))))
def n_law_whole : Nat := 1
def L_law_great : Nat → Bool := fun j => [0].contains j
/-- _law_great: 0 _law_hand_here, 1 _law_found, 2 _law_k -/
def w_law_great : WS := wSeq (wSetF 1 (wC (.int 0)))
    (wSeq (wFor (wIR1 (wCons (wC (.int 4)) wNil)) (wgName 2)
    (wSetF 1 (wB oAdd (wB oMul (wVar 1) (wB oPow (wC (.int 10)) (wC (.int 15)))) (wCall S_law_take (wCons (wPk 0) (wCons (wB oPow (wC (.int 10)) (wC (.int 15))) wNil))))))
    (wRet (wVar 1)))
def n_law_great : Nat := 3
end CFH

section
set_option Elab.async false
set_option linter.all false
set_option maxRecDepth 100000
set_option maxHeartbeats 4000000
namespace CFH
open PySem PySem.Spec PyProof.Rows L2 DL
local macro_rules | `(tactic| tm_at "dw") => `(tactic| with_reducible (conv => whnf))
local macro_rules | `(tactic| tm_at "dside") => `(tactic| first | with_reducible assumption | ((with_reducible show CDivW _ _); exact ⟨by omega, log2_sm (by omega)⟩) | exact rfl | exact True.intro | exact Nat.le_of_ble_eq_true rfl | (intro z; first | exact rfl | exact (Bool.false_ne_true z).elim) | (intro _; (with_reducible refine And.intro ?_ ?_) <;> first | exact rfl | assumption) | (intro _; assumption) | (intro _; with_reducible exact lf_ints) | (intro _; with_reducible exact lf_strs) | ((with_reducible show SeqAt.shaped (PyData.str _) = true); exact (Lay.str (k := 0) (by first | assumption | decide +kernel)).shaped) | omega | (simp only [List.length_map, List.length_reverse, List.length_append, List.length_cons, List.length_nil]; omega) | exact And.intro (by omega) (by with_reducible assumption) | exact And.intro (by omega) (by decide +kernel) | exact And.intro (by omega) (And.intro (by omega) (by omega)) | exact MulOk.left ⟨by omega, by omega⟩ | exact MulOk.right ⟨by omega, by omega⟩ | exact le1000 (by first | omega | (simp only [List.length_map, List.length_reverse, List.length_append, List.length_cons, List.length_nil, rangeD_len, enumF_len]; omega)) | with_reducible exact lf_ints | with_reducible exact lf_strs | assumption | decide)
local macro_rules | `(tactic| tm_at "do") => `(tactic| first | with_reducible exact intsOf_map _ | with_reducible exact boolsOf_map _ | ((with_reducible show lstOf _ _ = _); with_unfolding_all exact rfl) | ((with_reducible show intsOf _ = _); with_unfolding_all exact rfl) | ((with_reducible show itemsD _ = _); with_unfolding_all exact rfl) | ((with_reducible show itemsLT _ = _); with_unfolding_all exact rfl) | ((with_reducible show boolsOf _ = _); with_unfolding_all exact rfl) | ((with_reducible show strsOf _ = _); with_unfolding_all exact rfl) | with_reducible exact atI_0 | with_reducible exact atI_1 | with_reducible exact atI_2 | with_reducible exact atI_3 | with_reducible exact atI_4 | with_reducible exact setI_0 | with_reducible exact setI_1 | with_reducible exact setI_2 | with_reducible exact setI_3)
local macro_rules | `(tactic| tm_at "dz") => `(tactic| (intro z; (try simp only [decide_eq_true_eq, decide_eq_false_iff_not, eqv_int, Bool.not_eq_true', Bool.not_eq_false', Bool.not_not, Bool.false_eq_true, reduceCtorEq, Int.not_lt, Int.not_le, wholeD, List.length_cons, List.length_nil, List.length_map, isT_tuple_none, isT_tuple_bool, isT_tuple_int, isT_tuple_str, isT_tuple_list, isT_tuple_tuple, isT_int_none, isT_int_bool, isT_int_int, isT_int_str, isT_int_list, isT_int_tuple, isT_bool_none, isT_bool_bool, isT_bool_int, isT_bool_str, isT_bool_list, isT_bool_tuple, isT_str_none, isT_str_bool, isT_str_int, isT_str_str, isT_str_list, isT_str_tuple, isT_list_none, isT_list_bool, isT_list_int, isT_list_str, isT_list_list, isT_list_tuple] at z); try (first | (exfalso; omega) | exact (Bool.false_ne_true z).elim | (cases z; done))))
local macro_rules | `(tactic| tm_at "dnorm") => `(tactic| first | ((simp only [rset, rget, frzC, retag, clr, back]); done) | ((simp only [rset, rget, frzC, retag, clr, back]); exact rfl) | exact rfl)
local macro_rules | `(tactic| tm_at "dh") => `(tactic| first | ((with_reducible show wSeq _ _ _ _); with_reducible refine wSeq_i (by tm_at "dnorm") ?_) | ((with_reducible show optK _ _); with_reducible refine optK_of (by tm_at "do") ?_) | (with_reducible refine ifb ?_ ?_) <;> tm_at "dz" | ((with_reducible refine And.intro ?_ ?_); tm_at "dside") | fail "dh")
local macro_rules | `(tactic| tm_at "dc") => `(tactic| fail "dc")
local macro_rules | `(tactic| tm_at "dt") => `(tactic| first | (tm_at "dh" <;> (try tm_at "dw")) | (tm_at "dc" <;> (try tm_at "dw")))
local macro_rules | `(tactic| tm_at "dstart") => `(tactic| simp only [startD, List.length_cons, List.length_nil, Nat.reduceAdd, Nat.reduceSub, List.replicate, List.cons_append, List.nil_append])
local macro_rules | `(tactic| tm_at "dl") => `(tactic| ((try tm_at "dw"); repeat' tm_at "dt"))
local macro_rules | `(tactic| tm_at "dlc") => `(tactic| first | with_reducible refine lcK_eq (by tm_at "dnorm") ?_ | with_reducible refine forK_eq (by tm_at "dnorm") ?_)
theorem ok_law_take : ∀ as QD ED, S_law_take as QD ED → w_law_take (bodyEnds as QD fun _ _ => False) (startD n_law_take as) := by
  rintro as QD ED ⟨h, n, m, rfl, ho, hn, hm, hl, q⟩
  obtain ⟨a0, b0, b1, c0, c1⟩ := ho
  unfold n_law_take w_law_take
  tm_at "dstart"
  tm_at "dl"
  · exact q ⟨h.a / m, h.b, h.c⟩ (h.a % m) ⟨Int.ediv_nonneg a0 (by omega), b0, b1, c0, by show h.c ≤ _; omega⟩ (Int.emod_nonneg _ (by omega)) (Int.emod_lt_of_pos _ hm)
  · exact q ⟨h.a, h.b, h.c + 1⟩ _ ⟨a0, b0, b1, by show 0 ≤ h.c + 1; omega, by show h.c + 1 ≤ _; omega⟩ (Int.emod_nonneg _ (by omega)) (Int.emod_lt_of_pos _ hm)
theorem ok_law_pick : ∀ as QD ED, S_law_pick as QD ED → w_law_pick (bodyEnds as QD fun _ _ => False) (startD n_law_pick as) := by
  rintro as QD ED ⟨h, n, t, ds, rfl, ho, hn, h0, h1, q⟩
  unfold n_law_pick w_law_pick
  cases t
  all_goals
    tm_at "dstart"
    tm_at "dl"
    refine ⟨h, n, ds.length, rfl, ho, hn, by omega, log2_sm (by omega), fun h' x ho' x0 x1 => ?_⟩
    tm_at "dl"
    obtain ⟨d, e, hd⟩ := atI_mem x0 x1
    refine optK_of e ?_
    tm_at "dl"
    exact q h' d ho' hd
theorem ok_law_whole : ∀ as QD ED, S_law_whole as QD ED → w_law_whole (bodyEnds as QD fun _ _ => False) (startD n_law_whole as) := by
  rintro as QD ED ⟨d, rfl, q⟩
  unfold n_law_whole w_law_whole
  tm_at "dstart"
  cases d <;> (tm_at "dl" <;> exact q)
theorem ok_law_hand : ∀ as QD ED, S_law_hand as QD ED → w_law_hand (bodyEnds as QD fun _ _ => False) (startD n_law_hand as) := by
  rintro as QD ED ⟨ns, k, rfl, h0, h1, q⟩
  unfold n_law_hand w_law_hand
  tm_at "dstart"
  have e : ∀ c : Int, (0 ≤ c * (if decide ((10:Int) ^ Int.toNat 18 ≤ c) = true then 1 else 0)) := by
    intro c
    by_cases h : (10:Int) ^ Int.toNat 18 ≤ c
    · rw [if_pos (decide_eq_true h), Int.mul_one]
      exact Int.le_trans (by decide) h
    · rw [if_neg (fun z => h (of_decide_eq_true z)), Int.mul_zero]
      exact Int.le_refl 0
  have mo : ∀ c : Int, MulOk c (if decide ((10:Int) ^ Int.toNat 18 ≤ c) = true then 1 else 0) := by
    intro c
    refine MulOk.right ?_
    split <;> decide
  have fin : ∀ c : Int, (Hd.mk (c * (if decide ((10:Int) ^ Int.toNat 18 ≤ c) = true then 1 else 0)) (c % 2305843009213693951 + 7919 * k + 3) 0).ok 0 := fun c => ⟨e c, by show 0 ≤ c % 2305843009213693951 + 7919 * k + 3; omega, by show c % 2305843009213693951 + 7919 * k + 3 < _; omega, Int.le_refl 0, Int.le_refl 0⟩
  tm_at "dl"
  · obtain ⟨d, e1, e2⟩ := atI_mem (ds := ns.map PyData.int) h0 (by rename_i z; first | exact z | exact of_decide_eq_true z | (rw [List.length_map]; exact z) | (rw [List.length_map]; exact of_decide_eq_true z) | (simp only [decide_eq_true_eq, List.length_map] at z; rw [List.length_map]; exact z))
    obtain ⟨c, _, rfl⟩ := List.mem_map.mp e2
    refine optK_of e1 ?_
    have m := mo c
    tm_at "dl"
    exact q _ (fin c)
  · have m := mo 0
    tm_at "dl"
    exact q _ (fin 0)
theorem ok_law_great : ∀ as QD ED, S_law_great as QD ED → w_law_great (bodyEnds as QD fun _ _ => False) (startD n_law_great as) := by
  rintro as QD ED ⟨h, n, rfl, ho, hn, q⟩
  unfold n_law_great w_law_great
  tm_at "dstart"
  tm_at "dl"
  show forK _ _ [.int 0, .int 1, .int 2, .int 3] _ _
  have m0 : MulOk 0 ((10:Int) ^ Int.toNat 15) := MulOk.left (by decide)
  tm_at "dl"
  refine ⟨h, n, 1000000000000000, rfl, ho, by omega, by decide, log2_sm (by decide), fun h1 x1 o1 a1 b1 => ?_⟩
  have m1 := MulOk.right (i := 0 * (10:Int) ^ Int.toNat 15 + x1) (j := (10:Int) ^ Int.toNat 15) (by decide)
  tm_at "dl"
  refine ⟨h1, n + 1, 1000000000000000, rfl, o1, by omega, by decide, log2_sm (by decide), fun h2 x2 o2 a2 b2 => ?_⟩
  have m2 := MulOk.right (i := (0 * (10:Int) ^ Int.toNat 15 + x1) * (10:Int) ^ Int.toNat 15 + x2) (j := (10:Int) ^ Int.toNat 15) (by decide)
  tm_at "dl"
  refine ⟨h2, n + 2, 1000000000000000, rfl, o2, by omega, by decide, log2_sm (by decide), fun h3 x3 o3 a3 b3 => ?_⟩
  have m3 := MulOk.right (i := ((0 * (10:Int) ^ Int.toNat 15 + x1) * (10:Int) ^ Int.toNat 15 + x2) * (10:Int) ^ Int.toNat 15 + x3) (j := (10:Int) ^ Int.toNat 15) (by decide)
  tm_at "dl"
  refine ⟨h3, n + 3, 1000000000000000, rfl, o3, by omega, by decide, log2_sm (by decide), fun h4 x4 o4 a4 b4 => ?_⟩
  tm_at "dl"
  have e : (10:Int) ^ Int.toNat 15 = 1000000000000000 := by decide
  rw [e] at *
  exact q h4 ((((0 * 1000000000000000 + x1) * 1000000000000000 + x2) * 1000000000000000 + x3) * 1000000000000000 + x4) o4 (by omega) (by omega)
end CFH
end

set_option Elab.async false
set_option linter.all false
set_option maxRecDepth 100000
set_option maxHeartbeats 4000000

/-! generated: readings shared by laws -/
namespace CFWd
open PySem PySem.Spec PyProof.Rows L2 DL CFH
def L_law_words : Nat → Bool := fun j => [0, 8].contains j
/-- _law_words: 0 _law_hand_here, 1 _law_many, 2 _law_signs, 3 _law_begin, 4 _law_step, 5 _law_stem, 6 _law_at, 7 _law_short, 8 _law_words_here, 9 _law_k, 10 _law_behind, 11 _law_sign -/
def w_law_words : WS := wSeq (wSetF 2 (wC (.str "abcdefghijklmnopqrstuvwxyz0123456789")))
    (wSeq (wPar 3 4 (wCons (wCall CFH.S_law_take (wCons (wPk 0) (wCons (wC (.int 36)) wNil))) (wCons (wCall CFH.S_law_pick (wCons (wPk 0) (wCons (wL oLst (wCons (wC (.int 1)) (wCons (wC (.int 5)) (wCons (wC (.int 7)) (wCons (wC (.int 11)) (wCons (wC (.int 13)) (wCons (wC (.int 17)) wNil))))))) wNil))) wNil)))
    (wSeq (wSetF 5 (wB oMulS (wB oIx (wVar 2) (wCall CFH.S_law_take (wCons (wPk 0) (wCons (wC (.int 36)) wNil)))) (wCall CFH.S_law_pick (wCons (wPk 0) (wCons (wL oLst (wCons (wC (.int 0)) (wCons (wC (.int 1)) (wCons (wC (.int 0)) (wCons (wC (.int 2)) (wCons (wC (.int 7)) wNil)))))) wNil)))))
    (wSeq (wSetF 6 (wCall CFH.S_law_take (wCons (wPk 0) (wCons (wB oAdd (wL oLen (wCons (wVar 5) wNil)) (wC (.int 1))) wNil))))
    (wSeq (wSetF 7 (wCall CFH.S_law_take (wCons (wPk 0) (wCons (wC (.int 2)) wNil))))
    (wSeq (wSet 8 (wL oLst wNil))
    (wSeq (wFor (wIR1 (wCons (wVar 1) wNil)) (wgName 9)
    (wSeq (wSetF 10 (wSl (wVar 5) (wPart (wVar 6)) wNoPart))
    (wSeq (wIf (wAnd (wTst (wB oEq (wVar 7) (wC (.int 1)))) (wTst (wB oEq (wB oMod (wVar 9) (wC (.int 2))) (wC (.int 1)))))
    (wSetF 10 (wC (.str "")))
    wNext)
    (wSeq (wSetF 11 (wB oIx (wVar 2) (wB oMod (wB oAdd (wVar 3) (wB oMul (wVar 4) (wVar 9))) (wC (.int 36)))))
    (wDrop (wApp 8 (wB oPlus (wB oPlus (wSl (wVar 5) wNoPart (wPart (wVar 6))) (wVar 11)) (wVar 10))))))))
    (wRetO 8)))))))
def n_law_words : Nat := 12
end CFWd

section
set_option Elab.async false
set_option linter.all false
set_option maxRecDepth 100000
set_option maxHeartbeats 4000000
namespace CFWd
open PySem PySem.Spec PyProof.Rows L2 DL CFH
local macro_rules | `(tactic| tm_at "dw") => `(tactic| with_reducible (conv => whnf))
local macro_rules | `(tactic| tm_at "dside") => `(tactic| first | with_reducible assumption | ((with_reducible show CDivW _ _); exact ⟨by omega, log2_sm (by omega)⟩) | exact rfl | exact True.intro | exact Nat.le_of_ble_eq_true rfl | (intro z; first | exact rfl | exact (Bool.false_ne_true z).elim) | (intro _; (with_reducible refine And.intro ?_ ?_) <;> first | exact rfl | assumption) | (intro _; assumption) | (intro _; with_reducible exact lf_ints) | (intro _; with_reducible exact lf_strs) | ((with_reducible show SeqAt.shaped (PyData.str _) = true); exact (Lay.str (k := 0) (by first | assumption | decide +kernel)).shaped) | omega | (simp only [List.length_map, List.length_reverse, List.length_append, List.length_cons, List.length_nil]; omega) | exact And.intro (by omega) (by with_reducible assumption) | exact And.intro (by omega) (by decide +kernel) | exact And.intro (by omega) (And.intro (by omega) (by omega)) | exact MulOk.left ⟨by omega, by omega⟩ | exact MulOk.right ⟨by omega, by omega⟩ | exact le1000 (by first | omega | (simp only [List.length_map, List.length_reverse, List.length_append, List.length_cons, List.length_nil, rangeD_len, enumF_len]; omega)) | with_reducible exact lf_ints | with_reducible exact lf_strs | assumption | decide)
local macro_rules | `(tactic| tm_at "do") => `(tactic| first | with_reducible exact intsOf_map _ | with_reducible exact boolsOf_map _ | ((with_reducible show lstOf _ _ = _); with_unfolding_all exact rfl) | ((with_reducible show intsOf _ = _); with_unfolding_all exact rfl) | ((with_reducible show itemsD _ = _); with_unfolding_all exact rfl) | ((with_reducible show itemsLT _ = _); with_unfolding_all exact rfl) | ((with_reducible show boolsOf _ = _); with_unfolding_all exact rfl) | ((with_reducible show strsOf _ = _); with_unfolding_all exact rfl) | with_reducible exact atI_0 | with_reducible exact atI_1 | with_reducible exact atI_2 | with_reducible exact atI_3 | with_reducible exact atI_4 | with_reducible exact setI_0 | with_reducible exact setI_1 | with_reducible exact setI_2 | with_reducible exact setI_3)
local macro_rules | `(tactic| tm_at "dz") => `(tactic| (intro z; (try simp only [decide_eq_true_eq, decide_eq_false_iff_not, eqv_int, Bool.not_eq_true', Bool.not_eq_false', Bool.not_not, Bool.false_eq_true, reduceCtorEq, Int.not_lt, Int.not_le, wholeD, List.length_cons, List.length_nil, List.length_map, isT_tuple_none, isT_tuple_bool, isT_tuple_int, isT_tuple_str, isT_tuple_list, isT_tuple_tuple, isT_int_none, isT_int_bool, isT_int_int, isT_int_str, isT_int_list, isT_int_tuple, isT_bool_none, isT_bool_bool, isT_bool_int, isT_bool_str, isT_bool_list, isT_bool_tuple, isT_str_none, isT_str_bool, isT_str_int, isT_str_str, isT_str_list, isT_str_tuple, isT_list_none, isT_list_bool, isT_list_int, isT_list_str, isT_list_list, isT_list_tuple] at z); try (first | (exfalso; omega) | exact (Bool.false_ne_true z).elim | (cases z; done))))
local macro_rules | `(tactic| tm_at "dnorm") => `(tactic| first | ((simp only [rset, rget, frzC, retag, clr, back]); done) | ((simp only [rset, rget, frzC, retag, clr, back]); exact rfl) | exact rfl)
local macro_rules | `(tactic| tm_at "dh") => `(tactic| first | ((with_reducible show wSeq _ _ _ _); with_reducible refine wSeq_i (by tm_at "dnorm") ?_) | ((with_reducible show optK _ _); with_reducible refine optK_of (by tm_at "do") ?_) | (with_reducible refine ifb ?_ ?_) <;> tm_at "dz" | ((with_reducible refine And.intro ?_ ?_); tm_at "dside") | fail "dh")
local macro_rules | `(tactic| tm_at "dc") => `(tactic| fail "dc")
local macro_rules | `(tactic| tm_at "dt") => `(tactic| first | (tm_at "dh" <;> (try tm_at "dw")) | (tm_at "dc" <;> (try tm_at "dw")))
local macro_rules | `(tactic| tm_at "dstart") => `(tactic| simp only [startD, List.length_cons, List.length_nil, Nat.reduceAdd, Nat.reduceSub, List.replicate, List.cons_append, List.nil_append])
local macro_rules | `(tactic| tm_at "dl") => `(tactic| ((try tm_at "dw"); repeat' tm_at "dt"))
local macro_rules | `(tactic| tm_at "dlc") => `(tactic| first | with_reducible refine lcK_eq (by tm_at "dnorm") ?_ | with_reducible refine forK_eq (by tm_at "dnorm") ?_)
local macro_rules | `(tactic| tm_at "dpos") => `(tactic| first | omega | decide)
local macro_rules | `(tactic| tm_at "dlog") => `(tactic| first | exact log2_sm (by omega) | exact CFH.big_log (by omega) (by omega) | assumption | exact log2_sm (by decide))
local macro_rules | `(tactic| tm_at "dc") => `(tactic| ((with_reducible show CFH.S_law_take _ _ _); refine CFH.take_i (by assumption) (by omega) (by tm_at "dpos") (by tm_at "dlog") (fun _ _ _ _ _ => ?_)))
local macro_rules | `(tactic| tm_at "dc") => `(tactic| ((with_reducible show CFH.S_law_great _ _ _); refine CFH.great_i (by assumption) (by omega) (fun _ _ _ _ _ => ?_)))
local macro_rules | `(tactic| tm_at "dc") => `(tactic| ((with_reducible show CFH.S_law_whole _ _ _); refine CFH.whole_i ?_))
theorem ok_law_words : ∀ as QD ED, S_law_words as QD ED → w_law_words (bodyEnds as QD fun _ _ => False) (startD n_law_words as) := by
  rintro as QD ED ⟨h, n, m, rfl, ho, hn, m0, m1, q⟩
  unfold n_law_words w_law_words
  have sz : (Str.ofString "abcdefghijklmnopqrstuvwxyz0123456789").length ≤ sizeLine := sg_sz
  tm_at "dstart"
  tm_at "dl"
  rename_i h1 b0 o1 b00 b01
  refine pick_z [1, 5, 7, 11, 13, 17] rfl o1 (by omega) (by decide) (by decide) fun h2 st o2 hst => ?_
  obtain ⟨st, rfl, hs6, st17⟩ : ∃ k : Nat, st = k ∧ (fun k : Nat => k = 1 ∨ k = 5 ∨ k = 7 ∨ k = 11 ∨ k = 13 ∨ k = 17) k ∧ k ≤ 17 := by
    have hst : st = 1 ∨ st = 5 ∨ st = 7 ∨ st = 11 ∨ st = 13 ∨ st = 17 := by simpa using hst
    exact ⟨st.toNat, by omega, by show _ ∨ _; omega, by omega⟩
  clear hst
  tm_at "dl"
  rename_i h3 x o3 x0 x1
  obtain ⟨x, rfl⟩ := Int.eq_ofNat_of_zero_le x0
  have hx : x < 36 := by omega
  refine optK_of (L2.atI_nat (sg_at hx)) ?_
  have hc := sg_mem hx
  generalize sgAt x = c at hc
  tm_at "dl"
  refine pick_z [0, 1, 0, 2, 7] rfl o3 (by omega) (by decide) (by decide) fun h4 r o4 hr => ?_
  obtain ⟨r, rfl, hr7⟩ : ∃ k : Nat, r = k ∧ k ≤ 7 := by
    simp only [List.mem_cons, List.not_mem_nil, or_false] at hr
    exact ⟨r.toNat, by omega, by omega⟩
  clear hr
  have l1 : (⟨#[c]⟩ : Str).length ≤ 1000 := by show (T [c]).length ≤ 1000; rw [T_len]; exact Nat.le_of_ble_eq_true rfl
  have er : repS ⟨#[c]⟩ (r : Int).toNat = T (List.replicate r c) := by
    rw [Int.toNat_natCast]
    show repS (T [c]) r = _
    rw [T_rep, flat_rep]
  have el : (T (List.replicate r c)).length = r := by rw [T_len, List.length_replicate]
  tm_at "dl"
  rw [er, el]
  tm_at "dl"
  rename_i h5 a o5 a0 a1 h6 s o6 s0 s1
  obtain ⟨a, rfl⟩ := Int.eq_ofNat_of_zero_le a0
  have har : a ≤ r := by omega
  have sz2 : (T (List.replicate r c)).length ≤ sizeLine := by rw [el, sizeLine_eq]; omega
  have ea : cutS (T (List.replicate r c)) (some (a : Int)) none = T (List.replicate (r - a) c) := by
    rw [T_drop (by rw [List.length_replicate]; exact har), List.drop_replicate]
  have eb : cutS (T (List.replicate r c)) none (some (a : Int)) = T (List.replicate a c) := by
    rw [T_take (by rw [List.length_replicate]; exact har), List.take_replicate, Nat.min_eq_left har]
  obtain ⟨b0, rfl⟩ := Int.eq_ofNat_of_zero_le b00
  obtain ⟨m, rfl⟩ := Int.eq_ofNat_of_zero_le m0
  have fin := fun k (hk : k ≤ 36) => words_ok (c := c) (a := a) (b := r - a) (short := decide (s = 1)) (b0 := b0) (st := st) (n := k) hs6 hk hc (by omega)
  refine forK_ind (fun ds ρ => ∃ (k : Nat) (c9 c10 c11 : C), ds = rangeD (k : Int) (m - k) ∧ k ≤ m ∧ ρ = [CFH.hc h6, .v (.int m), .v (.str (Str.ofString "abcdefghijklmnopqrstuvwxyz0123456789")), .v (.int b0), .v (.int st), .v (.str (T (List.replicate r c))), .v (.int a), .v (.int s), .own 0 (.lst (((List.range k).map fun i => T (wordL c a (r - a) (decide (s = 1)) b0 st i)).map PyData.str)), c9, c10, c11]) ?_ ?_ _ _ ⟨0, _, _, _, by rw [Int.toNat_natCast]; rfl, Nat.zero_le _, rfl⟩
  · rintro ρ ⟨k, c9, c10, c11, hd, hk, rfl⟩
    have : k = m := by
      rcases Nat.lt_or_ge k m with z | z
      · rw [show m - k = (m - k - 1) + 1 by omega, rangeD_cons] at hd; cases hd
      · omega
    subst this
    tm_at "dl"
    exact q h6 _ (o6.up (by omega)) (by simp) (fin k (by omega))
  · rintro d ds ρ next hnx ⟨k, c9, c10, c11, hd, hk, rfl⟩
    have hkm : k < m := by
      rcases Nat.lt_or_ge k m with z | z
      · exact z
      · rw [show m - k = 0 by omega, rangeD_zero] at hd; cases hd
    rw [show m - k = (m - (k + 1)) + 1 by omega, rangeD_cons] at hd
    obtain ⟨rfl, rfl⟩ : d = .int (k : Nat) ∧ ds = rangeD ((k : Int) + 1) (m - (k + 1)) := by
      cases hd
      exact ⟨rfl, rfl⟩
    clear hd
    have mo : MulOk (st : Int) (k : Int) := MulOk.left ⟨by omega, by omega⟩
    have ei : ((b0 : Int) + (st : Int) * (k : Int)) % 36 = (((b0 + st * k) % 36 : Nat) : Int) := by push_cast; rfl
    have hj : (b0 + st * k) % 36 < 36 := Nat.mod_lt _ (by decide)
    have hsg := sg_at hj
    have leaf : ∀ (c9 c10 c11 : C) (w : Str), w = T (wordL c a (r - a) (decide (s = 1)) b0 st k) → next [CFH.hc h6, .v (.int m), .v (.str (Str.ofString "abcdefghijklmnopqrstuvwxyz0123456789")), .v (.int b0), .v (.int st), .v (.str (T (List.replicate r c))), .v (.int a), .v (.int s), .own 0 (.lst (((List.range k).map fun i => T (wordL c a (r - a) (decide (s = 1)) b0 st i)).map PyData.str ++ [.str w])), c9, c10, c11] := fun c9 c10 c11 w hw => hnx _ ⟨k + 1, c9, c10, c11, by push_cast; rfl, hkm, by rw [List.range_succ, List.map_append, List.map_append, hw]; rfl⟩
    clear hnx fin q
    have lf : (((List.range k).map fun i => T (wordL c a (r - a) (decide (s = 1)) b0 st i)).map PyData.str).length < sizeLine := by
      rw [List.length_map, List.length_map, List.length_range, sizeLine_eq]
      omega
    tm_at "dl"
    all_goals
      refine optK_of (by rw [ei]; exact L2.atI_nat hsg) ?_
      tm_at "dl"
    all_goals
      rw [eb]
      refine ⟨le1000 (by show (T (List.replicate a c)).length + (T [sgAt ((b0 + st * k) % 36)]).length ≤ 1000; rw [T_len, T_len, List.length_replicate]; show a + 1 ≤ 1000; omega), ?_⟩
      have e1 : T (List.replicate a c) ++ (⟨#[sgAt ((b0 + st * k) % 36)]⟩ : Str) = T (List.replicate a c ++ [sgAt ((b0 + st * k) % 36)]) := T_app
      tm_at "dl"
      rw [e1]
      try rw [ea]
      refine ⟨le1000 ?_, ?_⟩
    · show (T _).length + (T []).length ≤ 1000
      rw [T_len, T_len, List.length_append, List.length_replicate]
      show a + 1 + 0 ≤ 1000
      omega
    rotate_left
    · rw [T_len, T_len, List.length_append, List.length_replicate, List.length_replicate]
      show a + 1 + (r - a) ≤ 1000
      omega
    rotate_left
    · rw [T_len, T_len, List.length_append, List.length_replicate, List.length_replicate]
      show a + 1 + (r - a) ≤ 1000
      omega
    rotate_left
    all_goals
      tm_at "dl"
      refine leaf _ _ _ _ ?_
      unfold wordL
    · rename_i z1 z2
      have e2 : k % 2 = 1 := by omega
      rw [if_pos ⟨decide_eq_true z1, e2⟩]
      exact T_app
    · rename_i z1 z2
      rw [if_neg (fun z => by omega)]
      exact T_app
    · rename_i z1 _
      rw [if_neg (fun z => z1 (of_decide_eq_true z.1))]
      exact T_app
end CFWd
end

set_option Elab.async false
set_option linter.all false
set_option maxRecDepth 100000
set_option maxHeartbeats 4000000

/-! generated: readings shared by laws -/
namespace CFLy
open PySem PySem.Spec PyProof.Rows L2 DL CFH CFWd CFCg
def L_law_minute : Nat → Bool := fun j => [0].contains j
/-- _law_minute: 0 _law_hand_here, 1 _law_days, 2 _law_way, 3 _law_day -/
def w_law_minute : WS := wSeq (wSetF 2 (wCall CFH.S_law_take (wCons (wPk 0) (wCons (wC (.int 3)) wNil))))
    (wSeq (wSetF 3 (wCall CFH.S_law_take (wCons (wPk 0) (wCons (wVar 1) wNil))))
    (wSeq (wIf (wTst (wB oEq (wVar 2) (wC (.int 0))))
    (wRet (wB oMul (wC (.int 1440)) (wB oAdd (wVar 3) (wCall CFH.S_law_take (wCons (wPk 0) (wCons (wC (.int 2)) wNil))))))
    wNext)
    (wSeq (wIf (wTst (wB oEq (wVar 2) (wC (.int 1))))
    (wRet (wB oAdd (wB oMul (wC (.int 1440)) (wVar 3)) (wCall CFH.S_law_pick (wCons (wPk 0) (wCons (wL oLst (wCons (wC (.int 480)) (wCons (wC (.int 540)) (wCons (wC (.int 1020)) (wCons (wC (.int 1080)) (wCons (wC (.int 1320)) (wCons (wC (.int 360)) wNil))))))) wNil)))))
    wNext)
    (wRet (wB oAdd (wB oMul (wC (.int 1440)) (wVar 3)) (wCall CFH.S_law_take (wCons (wPk 0) (wCons (wC (.int 1441)) wNil))))))))
def n_law_minute : Nat := 4
def L_law_layer : Nat → Bool := fun j => [0, 8].contains j
/-- _law_layer: 0 _law_hand_here, 1 _law_word, 2 _law_names, 3 _law_days, 4 _law_most, 5 _law_start, 6 _law_k, 7 _law_ends, 8 _law_turns, 9 #0 -/
def w_law_layer : WS := wSeq (wSetF 5 (wB oMul (wCall CFH.S_law_take (wCons (wPk 0) (wCons (wB oMul (wC (.int 1440)) (wVar 3)) wNil))) (wCall CFH.S_law_take (wCons (wPk 0) (wCons (wC (.int 2)) wNil)))))
    (wSeq (wIf (wTst (wB oEq (wCall CFH.S_law_take (wCons (wPk 0) (wCons (wC (.int 8)) wNil))) (wC (.int 0))))
    (wRet (wL oTup (wCons (wVar 1) (wCons (wVar 5) (wCons (wVar 3) (wCons (wL oTup (wCons (wL oTup (wCons (wC (.int 0)) (wCons (wB oMul (wC (.int 1440)) (wVar 3)) (wCons (wCall CFH.S_law_pick (wCons (wPk 0) (wCons (wVar 2) wNil))) wNil)))) wNil)) wNil))))))
    wNext)
    (wSeq (wSetF 7 (wU oSortSet (wLcB [6] (wIR1 (wCons (wB oAdd (wC (.int 1)) (wVar 4)) wNil)) (wgName 6) wYes (wCall S_law_minute (wCons (wPk 0) (wCons (wVar 3) wNil))))))
    (wSeq (wSet 8 (wL oLst wNil))
    (wSeq (wFor (wIR1 (wCons (wB oSub (wL oLen (wCons (wVar 7) wNil)) (wC (.int 1))) wNil)) (wgName 6)
    (wIf (wTst (wB oGt (wCall CFH.S_law_take (wCons (wPk 0) (wCons (wC (.int 4)) wNil))) (wC (.int 0))))
    (wDrop (wApp 8 (wL oTup (wCons (wB oIx (wVar 7) (wVar 6)) (wCons (wB oIx (wVar 7) (wB oAdd (wVar 6) (wC (.int 1)))) (wCons (wCall CFH.S_law_pick (wCons (wPk 0) (wCons (wVar 2) wNil))) wNil))))))
    wNext))
    (wRet (wL oTup (wCons (wVar 1) (wCons (wVar 5) (wCons (wVar 3) (wCons (wL oTuple (wCons (wLn 8) wNil)) wNil))))))))))
def n_law_layer : Nat := 10
end CFLy

section
set_option Elab.async false
set_option linter.all false
set_option maxRecDepth 100000
set_option maxHeartbeats 4000000
namespace CFLy
open PySem PySem.Spec PyProof.Rows L2 DL CFH CFCl CFRu CFWd CFBk CFCg
local macro_rules | `(tactic| tm_at "dw") => `(tactic| with_reducible (conv => whnf))
local macro_rules | `(tactic| tm_at "dside") => `(tactic| first | with_reducible assumption | ((with_reducible show CDivW _ _); exact ⟨by omega, log2_sm (by omega)⟩) | exact rfl | exact True.intro | exact Nat.le_of_ble_eq_true rfl | (intro z; first | exact rfl | exact (Bool.false_ne_true z).elim) | (intro _; (with_reducible refine And.intro ?_ ?_) <;> first | exact rfl | assumption) | (intro _; assumption) | (intro _; with_reducible exact lf_ints) | (intro _; with_reducible exact lf_strs) | ((with_reducible show SeqAt.shaped (PyData.str _) = true); exact (Lay.str (k := 0) (by first | assumption | decide +kernel)).shaped) | omega | (simp only [List.length_map, List.length_reverse, List.length_append, List.length_cons, List.length_nil]; omega) | exact And.intro (by omega) (by with_reducible assumption) | exact And.intro (by omega) (by decide +kernel) | exact And.intro (by omega) (And.intro (by omega) (by omega)) | exact MulOk.left ⟨by omega, by omega⟩ | exact MulOk.right ⟨by omega, by omega⟩ | exact le1000 (by first | omega | (simp only [List.length_map, List.length_reverse, List.length_append, List.length_cons, List.length_nil, rangeD_len, enumF_len]; omega)) | with_reducible exact lf_ints | with_reducible exact lf_strs | assumption | decide)
local macro_rules | `(tactic| tm_at "do") => `(tactic| first | with_reducible exact intsOf_map _ | with_reducible exact boolsOf_map _ | ((with_reducible show lstOf _ _ = _); with_unfolding_all exact rfl) | ((with_reducible show intsOf _ = _); with_unfolding_all exact rfl) | ((with_reducible show itemsD _ = _); with_unfolding_all exact rfl) | ((with_reducible show itemsLT _ = _); with_unfolding_all exact rfl) | ((with_reducible show boolsOf _ = _); with_unfolding_all exact rfl) | ((with_reducible show strsOf _ = _); with_unfolding_all exact rfl) | with_reducible exact atI_0 | with_reducible exact atI_1 | with_reducible exact atI_2 | with_reducible exact atI_3 | with_reducible exact atI_4 | with_reducible exact setI_0 | with_reducible exact setI_1 | with_reducible exact setI_2 | with_reducible exact setI_3)
local macro_rules | `(tactic| tm_at "dz") => `(tactic| (intro z; (try simp only [decide_eq_true_eq, decide_eq_false_iff_not, eqv_int, Bool.not_eq_true', Bool.not_eq_false', Bool.not_not, Bool.false_eq_true, reduceCtorEq, Int.not_lt, Int.not_le, wholeD, List.length_cons, List.length_nil, List.length_map, isT_tuple_none, isT_tuple_bool, isT_tuple_int, isT_tuple_str, isT_tuple_list, isT_tuple_tuple, isT_int_none, isT_int_bool, isT_int_int, isT_int_str, isT_int_list, isT_int_tuple, isT_bool_none, isT_bool_bool, isT_bool_int, isT_bool_str, isT_bool_list, isT_bool_tuple, isT_str_none, isT_str_bool, isT_str_int, isT_str_str, isT_str_list, isT_str_tuple, isT_list_none, isT_list_bool, isT_list_int, isT_list_str, isT_list_list, isT_list_tuple] at z); try (first | (exfalso; omega) | exact (Bool.false_ne_true z).elim | (cases z; done))))
local macro_rules | `(tactic| tm_at "dnorm") => `(tactic| first | ((simp only [rset, rget, frzC, retag, clr, back]); done) | ((simp only [rset, rget, frzC, retag, clr, back]); exact rfl) | exact rfl)
local macro_rules | `(tactic| tm_at "dh") => `(tactic| first | ((with_reducible show wSeq _ _ _ _); with_reducible refine wSeq_i (by tm_at "dnorm") ?_) | ((with_reducible show optK _ _); with_reducible refine optK_of (by tm_at "do") ?_) | (with_reducible refine ifb ?_ ?_) <;> tm_at "dz" | ((with_reducible refine And.intro ?_ ?_); tm_at "dside") | fail "dh")
local macro_rules | `(tactic| tm_at "dc") => `(tactic| fail "dc")
local macro_rules | `(tactic| tm_at "dt") => `(tactic| first | (tm_at "dh" <;> (try tm_at "dw")) | (tm_at "dc" <;> (try tm_at "dw")))
local macro_rules | `(tactic| tm_at "dstart") => `(tactic| simp only [startD, List.length_cons, List.length_nil, Nat.reduceAdd, Nat.reduceSub, List.replicate, List.cons_append, List.nil_append])
local macro_rules | `(tactic| tm_at "dl") => `(tactic| ((try tm_at "dw"); repeat' tm_at "dt"))
local macro_rules | `(tactic| tm_at "dlc") => `(tactic| first | with_reducible refine lcK_eq (by tm_at "dnorm") ?_ | with_reducible refine forK_eq (by tm_at "dnorm") ?_)
local macro_rules | `(tactic| tm_at "dpos") => `(tactic| first | omega | decide)
local macro_rules | `(tactic| tm_at "dlog") => `(tactic| first | exact log2_sm (by omega) | exact CFH.big_log (by omega) (by omega) | assumption | exact log2_sm (by decide))
local macro_rules | `(tactic| tm_at "dc") => `(tactic| ((with_reducible show CFH.S_law_take _ _ _); refine CFH.take_i (by assumption) (by omega) (by tm_at "dpos") (by tm_at "dlog") (fun _ _ _ _ _ => ?_)))
local macro_rules | `(tactic| tm_at "dc") => `(tactic| ((with_reducible show CFH.S_law_great _ _ _); refine CFH.great_i (by assumption) (by omega) (fun _ _ _ _ _ => ?_)))
local macro_rules | `(tactic| tm_at "dc") => `(tactic| ((with_reducible show CFH.S_law_whole _ _ _); refine CFH.whole_i ?_))
theorem ok_law_minute : ∀ as QD ED, S_law_minute as QD ED → w_law_minute (bodyEnds as QD fun _ _ => False) (startD n_law_minute as) := by
  rintro as QD ED ⟨h, n, m, rfl, ho, hn, m1, m2, q⟩
  unfold n_law_minute w_law_minute
  have mo : ∀ x : Int, MulOk 1440 x := fun x => MulOk.left (by decide)
  tm_at "dstart"
  tm_at "dl"
  · exact q _ _ (Hd.ok.up (by assumption) (by omega)) (by omega) (by omega)
  · refine pick_z [480, 540, 1020, 1080, 1320, 360] rfl (by assumption) (by omega) (by decide) (by decide) fun h4 r o4 e4 => ?_
    obtain ⟨r0, r1⟩ : 0 ≤ r ∧ r ≤ 1440 := by
      simp only [List.mem_cons, List.not_mem_nil, or_false] at e4
      omega
    clear e4
    tm_at "dl"
    exact q _ _ (Hd.ok.up (by assumption) (by omega)) (by omega) (by omega)
  · exact q _ _ (Hd.ok.up (by assumption) (by omega)) (by omega) (by omega)
theorem ok_law_layer : ∀ as QD ED, S_law_layer as QD ED → w_law_layer (bodyEnds as QD fun _ _ => False) (startD n_law_layer as) := by
  rintro as QD ED ⟨h, n, wd, ws, days, most, rfl, ho, hn, hw, w0, w1, hws, d1, d2, m0, m1, q⟩
  unfold n_law_layer w_law_layer
  have mo : ∀ x : Int, MulOk 1440 x := fun x => MulOk.left (by decide)
  tm_at "dstart"
  tm_at "dl"
  · rename_i h1 x o1 x0 x1 h2 y o2 y0 y1 h3 w o3 w2 w3 z
    obtain ⟨s0, s1⟩ : 0 ≤ x * y ∧ x * y < 1440 * days := by
      rcases (show y = 0 ∨ y = 1 by omega) with rfl | rfl
      · rw [Int.mul_zero]; omega
      · rw [Int.mul_one]; omega
    generalize x * y = st at s0 s1 ⊢
    refine pick_i o3 (by omega) (by rw [List.length_map]; exact w0) (by rw [List.length_map]; omega) fun h4 nm o4 hnm => ?_
    obtain ⟨v, hv, rfl⟩ := List.mem_map.mp hnm
    tm_at "dl"
    exact q h4 ⟨wd, st, days, [(0, 1440 * days, v)]⟩ (o4.up (by omega)) ⟨hw, d1, d2, s0, s1, Nat.le_of_ble_eq_true rfl, ⟨Int.le_refl _, by show (0 : Int) < 1440 * days; omega, Int.le_refl _, hws v hv, trivial⟩⟩ rfl rfl (fun t ht => by rw [List.mem_singleton.mp ht]; exact hv) (.inr (Nat.le_refl 1))
  · rename_i h1 x o1 x0 x1 h2 y o2 y0 y1 h3 w o3 w2 w3 z
    obtain ⟨s0, s1⟩ : 0 ≤ x * y ∧ x * y < 1440 * days := by
      rcases (show y = 0 ∨ y = 1 by omega) with rfl | rfl
      · rw [Int.mul_zero]; omega
      · rw [Int.mul_one]; omega
    generalize x * y = st at s0 s1 ⊢
    tm_at "dlc"
    have rl : (rangeD 0 (1 + most).toNat).length = (1 + most).toNat := rangeD_len
    refine lcK_ind (fun es acc ρ => ∃ (h : Hd) (kk : Nat) (ms : List Int), h.ok kk ∧ kk + 4 * es.length ≤ n + 60 ∧ acc = ms.map PyData.int ∧ ((ms.length + es.length : Nat) : Int) = 1 + most ∧ (∀ m ∈ ms, 0 ≤ m ∧ m ≤ 1440 * days) ∧ ρ = [.own 1 (.lst (CFH.hd h)), .v (.str wd), .v (wsD ws), .v (.int days), .v (.int most), .v (.int st), .no, .no, .no, .no]) ?_ ?_ _ _ _ ⟨h3, _, [], o3, by omega, rfl, by rw [List.length_nil]; omega, (fun m hm => by cases hm), rfl⟩
    · rintro acc ρ ⟨h4, kk, ms, o4, hk, rfl, hms, hb, rfl⟩
      rw [List.length_nil] at hms hk
      have lm : ms.length ≤ 4000 := by omega
      tm_at "dl"
      intro es p1 p2 p3
      have eb : ∀ m ∈ es, 0 ≤ m ∧ m ≤ 1440 * days := fun m hm => hb m ((p2 m).mp hm)
      have el : ((es.length : Nat) : Int) ≤ 1 + most := by omega
      have em : (es.map PyData.int).length = es.length := List.length_map ..
      have g : ∀ k, k + 1 < es.length → ∃ a b, (es.map PyData.int)[k]? = some (.int a) ∧ (es.map PyData.int)[k + 1]? = some (.int b) ∧ a < b ∧ 0 ≤ a ∧ b ≤ 1440 * days ∧ es[k]? = some a ∧ es[k + 1]? = some b := fun k hk => by
        refine ⟨es[k], es[k + 1], ?_, ?_, List.pairwise_iff_getElem.mp p1 k (k + 1) (by omega) hk (by omega), (eb _ (List.getElem_mem _)).1, (eb _ (List.getElem_mem _)).2, List.getElem?_eq_getElem (by omega), List.getElem?_eq_getElem hk⟩
        · rw [List.getElem?_map, List.getElem?_eq_getElem (by omega)]; rfl
        · rw [List.getElem?_map, List.getElem?_eq_getElem hk]; rfl
      clear p1 p2 p3 hb eb
      tm_at "dl"
      refine forK_ind (fun ds ρ => ∃ (h : Hd) (kk k : Nat) (ts : List Trn) (c6 : C), ds = rangeD (k : Int) (es.length - 1 - k) ∧ k ≤ es.length - 1 ∧ h.ok kk ∧ kk + 2 * (es.length - 1 - k) ≤ n + 190 ∧ TrnsOk (1440 * days) 0 ts ∧ (∀ a, es[k]? = some a → ∀ u ∈ ts, u.2.1 ≤ a) ∧ ts.length ≤ k ∧ (∀ t ∈ ts, t.2.2 ∈ ws) ∧ ρ = [.own 1 (.lst (CFH.hd h)), .v (.str wd), .v (wsD ws), .v (.int days), .v (.int most), .v (.int st), c6, .v (.list (es.map PyData.int)), .own 0 (.lst (ts.map trnD)), .no]) ?_ ?_ _ _ ⟨h4, kk, 0, [], _, ?_, Nat.zero_le _, o4, by omega, trivial, (fun a _ u hu => by cases hu), Nat.zero_le _, (fun u hu => by cases hu), rfl⟩
      · rintro ρ ⟨h5, kk5, k, ts, c6, hd, hk5, o5, hkk, ht, _, hl, hh, rfl⟩
        have lf : C.lf (.own 0 (.lst (ts.map trnD))) = true := lfreeAll_of fun d hd => by
          obtain ⟨x, _, rfl⟩ := List.mem_map.mp hd
          rfl
        clear g
        tm_at "dl"
        exact q h5 ⟨wd, st, days, ts⟩ (o5.up (by omega)) ⟨hw, d1, d2, s0, s1, by show ts.length ≤ 12; omega, ht⟩ rfl rfl hh (.inl (by show ((ts.length : Nat) : Int) ≤ most; omega))
      · rintro d ds ρ next hnx ⟨h5, kk5, k, ts, c6, hd, hk5, o5, hkk, ht, hu, hl, hh, rfl⟩
        have hkl : k + 1 < es.length := by
          rcases Nat.lt_or_ge (k + 1) es.length with z | z
          · exact z
          · rw [show es.length - 1 - k = 0 by omega, rangeD_zero] at hd; cases hd
        rw [show es.length - 1 - k = (es.length - 1 - (k + 1)) + 1 by omega, rangeD_cons] at hd
        obtain ⟨rfl, rfl⟩ : d = .int (k : Nat) ∧ ds = rangeD ((k : Int) + 1) (es.length - 1 - (k + 1)) := by
          cases hd
          exact ⟨rfl, rfl⟩
        clear hd q
        obtain ⟨a, b, g1, g2, ab, a0, b1, ea, eb⟩ := g k hkl
        have leaf : ∀ (h6 : Hd) (k6 : Nat) (v : Str) (c6 : C), h6.ok k6 → k6 ≤ kk5 + 2 → (v ∈ ws → next [.own 1 (.lst (CFH.hd h6)), .v (.str wd), .v (wsD ws), .v (.int days), .v (.int most), .v (.int st), c6, .v (.list (es.map PyData.int)), .own 0 (.lst (ts.map trnD ++ [.tuple [.int a, .int b, .str v]])), .no]) ∧ next [.own 1 (.lst (CFH.hd h6)), .v (.str wd), .v (wsD ws), .v (.int days), .v (.int most), .v (.int st), c6, .v (.list (es.map PyData.int)), .own 0 (.lst (ts.map trnD)), .no] := fun h6 k6 v c6 o6 hk6 => by
          refine ⟨fun hv => hnx _ ⟨h6, k6, k + 1, ts ++ [(a, b, v)], c6, by push_cast; rfl, by omega, o6, by omega, trns_app ht (hu a ea) a0 ab b1 (hws v hv), fun a' e' u hu' => ?_, by rw [List.length_append, List.length_singleton]; omega, fun t ht' => ?_, by rw [List.map_append]; rfl⟩, hnx _ ⟨h6, k6, k + 1, ts, c6, by push_cast; rfl, by omega, o6, by omega, ht, fun a' e' u hu' => ?_, by omega, hh, rfl⟩⟩
          · rw [eb] at e'
            cases e'
            rcases List.mem_append.mp hu' with z | z
            · have := hu a ea u z; omega
            · rw [List.mem_singleton.mp z]; exact Int.le_refl _
          · rcases List.mem_append.mp ht' with z | z
            · exact hh t z
            · rw [List.mem_singleton.mp z]; exact hv
          · rw [eb] at e'
            cases e'
            have := hu a ea u hu'
            omega
        have sz : (ts.map trnD).length < sizeLine := by rw [List.length_map, sizeLine_eq]; omega
        clear hnx g hu ht hh
        tm_at "dl"
        · refine optK_of (L2.atI_nat g1) ?_
          tm_at "dl"
          refine optK_of (show atI (es.map PyData.int) ((k : Int) + 1) = some (.int b) from L2.atI_nat g2) ?_
          tm_at "dl"
          refine pick_i (by assumption) (by omega) (by rw [List.length_map]; exact w0) (by rw [List.length_map]; omega) fun h7 nm o7 hnm => ?_
          obtain ⟨v, hv, rfl⟩ := List.mem_map.mp hnm
          tm_at "dl"
          exact (leaf h7 _ v _ o7 (by omega)).1 hv
        · exact (leaf _ _ wd _ (by assumption) (by omega)).2
      · rw [em]
        show rangeD 0 _ = _
        congr 1
        omega
    · rintro d es acc ρ nx hnx ⟨h4, kk, ms, o4, hk, rfl, hms, hb, rfl⟩
      rw [List.length_cons] at hms hk
      tm_at "dl"
      refine minute_i o4 (by omega) d1 (by omega) fun h5 x5 o5 x50 x51 => ?_
      tm_at "dl"
      refine hnx _ _ ⟨h5, _, ms ++ [x5], o5, by omega, by rw [List.map_append]; rfl, by rw [List.length_append, List.length_singleton]; omega, fun m hm => ?_, rfl⟩
      rcases List.mem_append.mp hm with z | z
      · exact hb m z
      · rw [List.mem_singleton.mp z]; exact ⟨x50, x51⟩
end CFLy
end

set_option Elab.async false
set_option linter.all false
set_option maxRecDepth 100000
set_option maxHeartbeats 4000000

/-! generated: readings shared by laws -/
namespace CFLc
open PySem PySem.Spec PyProof.Rows L2 DL CFLo
def L_law_cuts : Nat → Bool := fun j => [1].contains j
/-- _law_cuts: 0 _law_layers, 1 _law_found, 2 _law_word, 3 _law_start, 4 _law_days, 5 _law_turns, 6 _law_begin, 7 _law_end, 8 _law_one -/
def w_law_cuts : WS := wSeq (wSet 1 (wL oLst (wCons (wC (.int 0)) (wCons (wC (.int 1440)) wNil))))
    (wSeq (wFor (wISeq (wVar 0)) (wgTup 4 (wgCons (wgName 2) (wgCons (wgName 3) (wgCons (wgName 4) (wgCons (wgName 5) wgNil)))))
    (wFor (wISeq (wVar 5)) (wgTup 3 (wgCons (wgName 6) (wgCons (wgName 7) (wgCons (wgName 8) wgNil))))
    (wDrop (wExt 1 (wL oLst (wCons (wB oMod (wB oAdd (wVar 3) (wVar 6)) (wC (.int 1440))) (wCons (wB oMod (wB oAdd (wVar 3) (wVar 7)) (wC (.int 1440))) wNil)))))))
    (wRet (wU oSortSet (wLn 1))))
def n_law_cuts : Nat := 9
end CFLc

section
set_option Elab.async false
set_option linter.all false
set_option maxRecDepth 100000
set_option maxHeartbeats 4000000
namespace CFLc
open PySem PySem.Spec PyProof.Rows L2 DL CFH CFCl CFRu CFWd CFBk CFTu CFRb CFSp CFLo
local macro_rules | `(tactic| tm_at "dw") => `(tactic| with_reducible (conv => whnf))
local macro_rules | `(tactic| tm_at "dside") => `(tactic| first | with_reducible assumption | ((with_reducible show CDivW _ _); exact ⟨by omega, log2_sm (by omega)⟩) | exact rfl | exact True.intro | exact Nat.le_of_ble_eq_true rfl | (intro z; first | exact rfl | exact (Bool.false_ne_true z).elim) | (intro _; (with_reducible refine And.intro ?_ ?_) <;> first | exact rfl | assumption) | (intro _; assumption) | (intro _; with_reducible exact lf_ints) | (intro _; with_reducible exact lf_strs) | ((with_reducible show SeqAt.shaped (PyData.str _) = true); exact (Lay.str (k := 0) (by first | assumption | decide +kernel)).shaped) | omega | (simp only [List.length_map, List.length_reverse, List.length_append, List.length_cons, List.length_nil]; omega) | exact And.intro (by omega) (by with_reducible assumption) | exact And.intro (by omega) (by decide +kernel) | exact And.intro (by omega) (And.intro (by omega) (by omega)) | exact MulOk.left ⟨by omega, by omega⟩ | exact MulOk.right ⟨by omega, by omega⟩ | exact le1000 (by first | omega | (simp only [List.length_map, List.length_reverse, List.length_append, List.length_cons, List.length_nil, rangeD_len, enumF_len]; omega)) | with_reducible exact lf_ints | with_reducible exact lf_strs | assumption | decide)
local macro_rules | `(tactic| tm_at "do") => `(tactic| first | with_reducible exact intsOf_map _ | with_reducible exact boolsOf_map _ | ((with_reducible show lstOf _ _ = _); with_unfolding_all exact rfl) | ((with_reducible show intsOf _ = _); with_unfolding_all exact rfl) | ((with_reducible show itemsD _ = _); with_unfolding_all exact rfl) | ((with_reducible show itemsLT _ = _); with_unfolding_all exact rfl) | ((with_reducible show boolsOf _ = _); with_unfolding_all exact rfl) | ((with_reducible show strsOf _ = _); with_unfolding_all exact rfl) | with_reducible exact atI_0 | with_reducible exact atI_1 | with_reducible exact atI_2 | with_reducible exact atI_3 | with_reducible exact atI_4 | with_reducible exact setI_0 | with_reducible exact setI_1 | with_reducible exact setI_2 | with_reducible exact setI_3)
local macro_rules | `(tactic| tm_at "dz") => `(tactic| (intro z; (try simp only [decide_eq_true_eq, decide_eq_false_iff_not, eqv_int, Bool.not_eq_true', Bool.not_eq_false', Bool.not_not, Bool.false_eq_true, reduceCtorEq, Int.not_lt, Int.not_le, wholeD, List.length_cons, List.length_nil, List.length_map, isT_tuple_none, isT_tuple_bool, isT_tuple_int, isT_tuple_str, isT_tuple_list, isT_tuple_tuple, isT_int_none, isT_int_bool, isT_int_int, isT_int_str, isT_int_list, isT_int_tuple, isT_bool_none, isT_bool_bool, isT_bool_int, isT_bool_str, isT_bool_list, isT_bool_tuple, isT_str_none, isT_str_bool, isT_str_int, isT_str_str, isT_str_list, isT_str_tuple, isT_list_none, isT_list_bool, isT_list_int, isT_list_str, isT_list_list, isT_list_tuple] at z); try (first | (exfalso; omega) | exact (Bool.false_ne_true z).elim | (cases z; done))))
local macro_rules | `(tactic| tm_at "dnorm") => `(tactic| first | ((simp only [rset, rget, frzC, retag, clr, back]); done) | ((simp only [rset, rget, frzC, retag, clr, back]); exact rfl) | exact rfl)
local macro_rules | `(tactic| tm_at "dh") => `(tactic| first | ((with_reducible show wSeq _ _ _ _); with_reducible refine wSeq_i (by tm_at "dnorm") ?_) | ((with_reducible show optK _ _); with_reducible refine optK_of (by tm_at "do") ?_) | (with_reducible refine ifb ?_ ?_) <;> tm_at "dz" | ((with_reducible refine And.intro ?_ ?_); tm_at "dside") | fail "dh")
local macro_rules | `(tactic| tm_at "dc") => `(tactic| fail "dc")
local macro_rules | `(tactic| tm_at "dt") => `(tactic| first | (tm_at "dh" <;> (try tm_at "dw")) | (tm_at "dc" <;> (try tm_at "dw")))
local macro_rules | `(tactic| tm_at "dstart") => `(tactic| simp only [startD, List.length_cons, List.length_nil, Nat.reduceAdd, Nat.reduceSub, List.replicate, List.cons_append, List.nil_append])
local macro_rules | `(tactic| tm_at "dl") => `(tactic| ((try tm_at "dw"); repeat' tm_at "dt"))
local macro_rules | `(tactic| tm_at "dlc") => `(tactic| first | with_reducible refine lcK_eq (by tm_at "dnorm") ?_ | with_reducible refine forK_eq (by tm_at "dnorm") ?_)
local macro_rules | `(tactic| tm_at "do") => `(tactic| with_reducible assumption)
theorem ok_law_cuts : ∀ as QD ED, S_law_cuts as QD ED → w_law_cuts (bodyEnds as QD fun _ _ => False) (startD n_law_cuts as) := by
  rintro as QD ED ⟨ls, rfl, ht, hl, q⟩
  unfold n_law_cuts w_law_cuts
  tm_at "dstart"
  tm_at "dl"
  refine forK_xs ls (fun done ρ => ∃ c2 c3 c4 c5 c6 c7 c8 : C, ρ = [.v (lyrsD ls), .own 0 (.lst ((cutsR done).map PyData.int)), c2, c3, c4, c5, c6, c7, c8]) ⟨_, _, _, _, _, _, _, rfl⟩ ?_ ?_
  · rintro ρ ⟨c2, c3, c4, c5, c6, c7, c8, rfl⟩
    have cl := cutsR_len ht
    have sz : (cutsR ls).length ≤ 4000 := by omega
    tm_at "dl"
    intro ms up mem ml
    tm_at "dl"
    exact q ms ⟨up, fun k => (mem k).trans cutsR_mem⟩ (by omega) (by omega)
  · rintro done l rest ρ next e hnx ⟨c2, c3, c4, c5, c6, c7, c8, rfl⟩
    clear q
    have dl : done.length < ls.length := by rw [e, List.length_append, List.length_cons]; omega
    have hld : ∀ k ∈ done, k.turns.length ≤ 12 := fun k hk => ht k (by rw [e]; exact List.mem_append_left _ hk)
    have hlt := ht l (by rw [e]; exact List.mem_append_right _ (.head _))
    have cl := cutsR_len hld
    tm_at "dl"
    refine forK_xs l.turns (fun dn ρ => ∃ c6 c7 c8 : C, ρ = [.v (lyrsD ls), .own 0 (.lst ((cutsR done ++ dn.flatMap fun u => [(l.start + u.1) % 1440, (l.start + u.2.1) % 1440]).map PyData.int)), .v (.str l.word), .v (.int l.start), .v (.int l.days), .v (trnsD l.turns), c6, c7, c8]) ⟨_, _, _, by rw [List.flatMap_nil, List.append_nil]⟩ ?_ ?_
    · rintro ρ ⟨c6, c7, c8, rfl⟩
      have ee : cutsR (done ++ [l]) = cutsR done ++ l.turns.flatMap fun u => [(l.start + u.1) % 1440, (l.start + u.2.1) % 1440] := by
        unfold cutsR
        rw [List.flatMap_append, List.flatMap_singleton, List.append_assoc]
      rw [← ee]
      exact hnx _ ⟨_, _, _, _, _, _, _, rfl⟩
    · rintro dn u rs ρ next2 e2 hnx2 ⟨c6, c7, c8, rfl⟩
      have dl2 : dn.length < l.turns.length := by rw [e2, List.length_append, List.length_cons]; omega
      have sl : (dn.flatMap fun u : Trn => [(l.start + u.1) % 1440, (l.start + u.2.1) % 1440]).length = 2 * dn.length := by
        clear e2 hnx2 dl2
        induction dn with
        | nil => rfl
        | cons t ts ih => rw [List.flatMap_cons, List.length_append, ih, List.length_cons]; simp only [List.length_cons, List.length_nil]; omega
      have s1 : ((cutsR done ++ dn.flatMap fun u => [(l.start + u.1) % 1440, (l.start + u.2.1) % 1440]).map PyData.int).length < 3000 := by rw [List.length_map, List.length_append, sl]; omega
      have sz1 : ((cutsR done ++ dn.flatMap fun u => [(l.start + u.1) % 1440, (l.start + u.2.1) % 1440]).map PyData.int).length + [PyData.int ((l.start + u.1) % 1440), PyData.int ((l.start + u.2.1) % 1440)].length ≤ sizeLine := by rw [sizeLine_eq]; simp only [List.length_cons, List.length_nil]; omega
      tm_at "dl"
      have ee : (cutsR done ++ (dn ++ [u]).flatMap fun u => [(l.start + u.1) % 1440, (l.start + u.2.1) % 1440]).map PyData.int = (cutsR done ++ dn.flatMap fun u => [(l.start + u.1) % 1440, (l.start + u.2.1) % 1440]).map PyData.int ++ [PyData.int ((l.start + u.1) % 1440), PyData.int ((l.start + u.2.1) % 1440)] := by
        rw [List.flatMap_append, List.flatMap_singleton, ← List.append_assoc, List.map_append]
        rfl
      rw [← ee]
      exact hnx2 _ ⟨_, _, _, rfl⟩
end CFLc
end

set_option Elab.async false
set_option linter.all false
set_option maxRecDepth 100000
set_option maxHeartbeats 4000000

/-! generated: the derivations, the end -/
namespace K39
open PySem PySem.Spec PyProof.Rows L2 DL CFTu CFLo CFH CFWd CFLy CFLc
def topS (i : Nat) : Stmt := PySem.Challenge.pw_calledfirst_k39_pieces_of_the_day.main.body.getD i (.Pass ⟨0, 0, 0, 0⟩)
abbrev st_place_of : Stmt := topS 2
abbrev N_place_of : List Str := ["layer", "r"]
abbrev P_place_of : List Str := ["layer", "r"]
theorem sc_place_of : FnScope N_place_of P_place_of (defScope st_place_of) := ⟨rfl, rfl, rfl, by decide +kernel, rfl, by decide +kernel, by decide +kernel⟩
abbrev st_turn_at : Stmt := topS 3
abbrev N_turn_at : List Str := ["layer", "r", "place", "j", "turn"]
abbrev P_turn_at : List Str := ["layer", "r"]
theorem sc_turn_at : FnScope N_turn_at P_turn_at (defScope st_turn_at) := ⟨rfl, rfl, rfl, by decide +kernel, rfl, by decide +kernel, by decide +kernel⟩
abbrev st_cuts_of : Stmt := topS 5
abbrev N_cuts_of : List Str := ["layers", "found", "word", "start", "days", "turns", "begin", "end", "hand"]
abbrev P_cuts_of : List Str := ["layers"]
theorem sc_cuts_of : FnScope N_cuts_of P_cuts_of (defScope st_cuts_of) := ⟨rfl, rfl, rfl, by decide +kernel, rfl, by decide +kernel, by decide +kernel⟩
abbrev st_pieces : Stmt := topS 6
abbrev N_pieces : List Str := ["layers", "cuts", "#0", "low", "high"]
abbrev P_pieces : List Str := ["layers"]
theorem sc_pieces : FnScope N_pieces P_pieces (defScope st_pieces) := ⟨rfl, rfl, rfl, by decide +kernel, rfl, by decide +kernel, by decide +kernel⟩
abbrev st_law_hand : Stmt := topS 8
abbrev N_law_hand : List Str := ["_law_script", "_law_k", "_law_cell"]
abbrev P_law_hand : List Str := ["_law_script", "_law_k"]
theorem sc_law_hand : FnScope N_law_hand P_law_hand (defScope st_law_hand) := ⟨rfl, rfl, rfl, by decide +kernel, rfl, by decide +kernel, by decide +kernel⟩
abbrev st_law_take : Stmt := topS 9
abbrev N_law_take : List Str := ["_law_hand_here", "_law_many", "_law_digit", "_law_turn", "_law_factor", "_law_mixed", "_law_other"]
abbrev P_law_take : List Str := ["_law_hand_here", "_law_many"]
theorem sc_law_take : FnScope N_law_take P_law_take (defScope st_law_take) := ⟨rfl, rfl, rfl, by decide +kernel, rfl, by decide +kernel, by decide +kernel⟩
abbrev st_law_pick : Stmt := topS 10
abbrev N_law_pick : List Str := ["_law_hand_here", "_law_some"]
abbrev P_law_pick : List Str := ["_law_hand_here", "_law_some"]
theorem sc_law_pick : FnScope N_law_pick P_law_pick (defScope st_law_pick) := ⟨rfl, rfl, rfl, by decide +kernel, rfl, by decide +kernel, by decide +kernel⟩
abbrev st_law_great : Stmt := topS 11
abbrev N_law_great : List Str := ["_law_hand_here", "_law_found", "_law_k"]
abbrev P_law_great : List Str := ["_law_hand_here"]
theorem sc_law_great : FnScope N_law_great P_law_great (defScope st_law_great) := ⟨rfl, rfl, rfl, by decide +kernel, rfl, by decide +kernel, by decide +kernel⟩
abbrev st_law_words : Stmt := topS 12
abbrev N_law_words : List Str := ["_law_hand_here", "_law_many", "_law_signs", "_law_start", "_law_step", "_law_stem", "_law_at", "_law_short", "_law_words_here", "_law_k", "_law_rest", "_law_sign"]
abbrev P_law_words : List Str := ["_law_hand_here", "_law_many"]
theorem sc_law_words : FnScope N_law_words P_law_words (defScope st_law_words) := ⟨rfl, rfl, rfl, by decide +kernel, rfl, by decide +kernel, by decide +kernel⟩
abbrev st_law_minute : Stmt := topS 13
abbrev N_law_minute : List Str := ["_law_hand_here", "_law_days", "_law_way", "_law_day"]
abbrev P_law_minute : List Str := ["_law_hand_here", "_law_days"]
theorem sc_law_minute : FnScope N_law_minute P_law_minute (defScope st_law_minute) := ⟨rfl, rfl, rfl, by decide +kernel, rfl, by decide +kernel, by decide +kernel⟩
abbrev st_law_layer : Stmt := topS 14
abbrev N_law_layer : List Str := ["_law_hand_here", "_law_word", "_law_names", "_law_days", "_law_most", "_law_start", "_law_k", "_law_ends", "_law_turns", "#0"]
abbrev P_law_layer : List Str := ["_law_hand_here", "_law_word", "_law_names", "_law_days", "_law_most"]
theorem sc_law_layer : FnScope N_law_layer P_law_layer (defScope st_law_layer) := ⟨rfl, rfl, rfl, by decide +kernel, rfl, by decide +kernel, by decide +kernel⟩
abbrev st_law_cuts : Stmt := topS 15
abbrev N_law_cuts : List Str := ["_law_layers", "_law_found", "_law_word", "_law_start", "_law_days", "_law_turns", "_law_begin", "_law_end", "_law_one"]
abbrev P_law_cuts : List Str := ["_law_layers"]
theorem sc_law_cuts : FnScope N_law_cuts P_law_cuts (defScope st_law_cuts) := ⟨rfl, rfl, rfl, by decide +kernel, rfl, by decide +kernel, by decide +kernel⟩
abbrev st_law_drawn : Stmt := topS 16
abbrev N_law_drawn : List Str := ["_law_hand_here", "_law_names", "_law_words_here", "_law_most", "_law_many", "_law_found", "_law_k", "_law_days"]
abbrev P_law_drawn : List Str := ["_law_hand_here"]
theorem sc_law_drawn : FnScope N_law_drawn P_law_drawn (defScope st_law_drawn) := ⟨rfl, rfl, rfl, by decide +kernel, rfl, by decide +kernel, by decide +kernel⟩
abbrev st_law_one_turn : Stmt := topS 17
abbrev N_law_one_turn : List Str := ["_law_hand_here", "_law_layer_here", "_law_low", "_law_high", "_law_day"]
abbrev P_law_one_turn : List Str := ["_law_hand_here", "_law_layer_here", "_law_low", "_law_high"]
theorem sc_law_one_turn : FnScope N_law_one_turn P_law_one_turn (defScope st_law_one_turn) := ⟨rfl, rfl, rfl, by decide +kernel, rfl, by decide +kernel, by decide +kernel⟩
abbrev st_law : Stmt := topS 18
abbrev N_law : List Str := ["_law_script", "_law_k", "_law_hand_here", "_law_layers", "_law_cuts_here", "_law_found", "_law_low", "_law_high", "#0"]
abbrev P_law : List Str := ["_law_script"]
theorem sc_law : FnScope N_law P_law (defScope st_law) := ⟨rfl, rfl, rfl, by decide +kernel, rfl, by decide +kernel, by decide +kernel⟩
section
variable {P : Program} {w : World} {K : PySem.W.Frag} {mg : Str → Option Value} {base : Heap}
theorem has_place_of {a : Addr} {fd : FuncData} (F : FunD K "place_of" "place_of" (defArgs st_place_of) (defBody st_place_of) (defScope st_place_of) [] [] a fd) (gl : mg "place_of" = some (.ref a)) (c_DAY : ∃ t, mg "DAY" = some (.int 1440 t)) : Has P w K mg base 1 "place_of" CFTu.S_place_of :=
  ⟨a, fd, P_place_of, fn0 (k := 0) (L := CFTu.L_place_of) (ww := CFTu.w_place_of) F sc_place_of rfl CFTu.len_place_of (by
      intro cdv A outer s H E hr g hgL
      unfold CFTu.w_place_of
      refine eb_one ?_
      refine es_ret ?_
      refine ee_mod ?_ ?_
      refine ee_sub ?_ ?_
      exact ee_var (pv 1)
      refine ee_ix ?_ ?_
      exact ee_var (pv 0)
      exact ee_int
      refine ee_mul ?_ ?_
      exact ee_gint (by rfl) c_DAY.choose_spec
      refine ee_ix ?_ ?_
      exact ee_var (pv 0)
      exact ee_int) CFTu.ok_place_of, gl, F.kp, F.bindsN (fun _ _ _ _ _ _ us hl => match us, hl with | [_, _], _ => rfl)⟩
theorem has_turn_at {a : Addr} {fd : FuncData} (F : FunD K "turn_at" "turn_at" (defArgs st_turn_at) (defBody st_turn_at) (defScope st_turn_at) [] [] a fd) (gl : mg "turn_at" = some (.ref a)) (h_place_of : Has P w K mg base 1 "place_of" CFTu.S_place_of) (m_enumerate : mg "enumerate" = none) : Has P w K mg base 2 "turn_at" CFTu.S_turn_at :=
  ⟨a, fd, P_turn_at, fn0 (k := 1) (L := CFTu.L_turn_at) (ww := CFTu.w_turn_at) F sc_turn_at rfl CFTu.len_turn_at (by
      intro cdv A outer s H E hr g hgL
      unfold CFTu.w_turn_at
      refine eb_cons ?_ ?_
      refine es_setF (i := 2) sc_turn_at.nd rfl (Or.inl rfl) ?_
      refine ee_has h_place_of (hr.mono (by decide)) (by rfl) ?_
      refine ea_cons ?_ ?_
      exact ee_var (pv 0)
      refine ea_cons ?_ ?_
      exact ee_var (pv 1)
      exact ea_nil
      refine eb_cons ?_ ?_
      refine es_for PassesOwn.never rfl ?_ (eg_tup rfl (egs_cons (eg_name (i := 3) sc_turn_at.nd rfl (Or.inl rfl)) (egs_cons (eg_name (i := 4) sc_turn_at.nd rfl (Or.inl rfl)) egs_nil))) ?_
      refine ei_enumerate (by rfl) m_enumerate ?_
      refine ea_cons ?_ ?_
      refine ee_ix ?_ ?_
      exact ee_var (pv 0)
      exact ee_int
      exact ea_nil
      refine eb_one ?_
      refine es_if ?_ ?_ ?_
      refine et_chain (f := fun i j => decide (i ≤ j)) (f' := fun i j => decide (i < j)) op_le op_lt ?_ ?_ ?_
      refine ee_ix ?_ ?_
      exact ee_var (pv 4)
      exact ee_int
      exact ee_var (pv 2)
      refine ee_ix ?_ ?_
      exact ee_var (pv 4)
      exact ee_int
      refine eb_one ?_
      refine es_ret ?_
      exact ee_var (pv 3)
      exact eb_nil
      refine eb_one ?_
      refine es_ret ?_
      exact ee_non) CFTu.ok_turn_at, gl, F.kp, F.bindsN (fun _ _ _ _ _ _ us hl => match us, hl with | [_, _], _ => rfl)⟩
theorem has_cuts_of {a : Addr} {fd : FuncData} (F : FunD K "cuts_of" "cuts_of" (defArgs st_cuts_of) (defBody st_cuts_of) (defScope st_cuts_of) [] [] a fd) (gl : mg "cuts_of" = some (.ref a)) (c_DAY : ∃ t, mg "DAY" = some (.int 1440 t)) (m_sorted : mg "sorted" = none) (m_set : mg "set" = none) : Has P w K mg base 1 "cuts_of" CFLo.S_cuts_of :=
  ⟨a, fd, P_cuts_of, fn0 (k := 0) (L := CFLo.L_cuts_of) (ww := CFLo.w_cuts_of) F sc_cuts_of rfl CFLo.len_cuts_of (by
      intro cdv A outer s H E hr g hgL
      unfold CFLo.w_cuts_of
      refine eb_cons ?_ ?_
      refine es_set (i := 1) sc_cuts_of.nd rfl (Or.inl rfl) ?_
      refine ee_lst ?_
      refine ea_cons ?_ ?_
      exact ee_int
      refine ea_cons ?_ ?_
      exact ee_gint (by rfl) c_DAY.choose_spec
      exact ea_nil
      refine eb_cons ?_ ?_
      refine es_for PassesOwn.never rfl ?_ (eg_tup rfl (egs_cons (eg_name (i := 2) sc_cuts_of.nd rfl (Or.inl rfl)) (egs_cons (eg_name (i := 3) sc_cuts_of.nd rfl (Or.inl rfl)) (egs_cons (eg_name (i := 4) sc_cuts_of.nd rfl (Or.inl rfl)) (egs_cons (eg_name (i := 5) sc_cuts_of.nd rfl (Or.inl rfl)) egs_nil))))) ?_
      refine ei_seq ?_
      exact ee_var (pv 0)
      refine eb_one ?_
      refine es_for PassesOwn.never rfl ?_ (eg_tup rfl (egs_cons (eg_name (i := 6) sc_cuts_of.nd rfl (Or.inl rfl)) (egs_cons (eg_name (i := 7) sc_cuts_of.nd rfl (Or.inl rfl)) (egs_cons (eg_name (i := 8) sc_cuts_of.nd rfl (Or.inl rfl)) egs_nil)))) ?_
      refine ei_seq ?_
      exact ee_var (pv 5)
      refine eb_cons ?_ ?_
      refine es_expr ?_
      refine ee_app (i := 1) (lt_ hgL rfl) (pv 1) ?_
      refine ee_mod ?_ ?_
      refine ee_add ?_ ?_
      exact ee_var (pv 3)
      exact ee_var (pv 6)
      exact ee_gint (by rfl) c_DAY.choose_spec
      refine eb_one ?_
      refine es_expr ?_
      refine ee_app (i := 1) (lt_ hgL rfl) (pv 1) ?_
      refine ee_mod ?_ ?_
      refine ee_add ?_ ?_
      exact ee_var (pv 3)
      exact ee_var (pv 7)
      exact ee_gint (by rfl) c_DAY.choose_spec
      refine eb_one ?_
      refine es_ret ?_
      refine ee_sortSet rfl (by rfl) m_sorted (by rfl) m_set ?_
      exact ee_ln (i := 1) (lt_ hgL rfl) (pv 1)) CFLo.ok_cuts_of, gl, F.kp, F.bindsN (fun _ _ _ _ _ _ us hl => match us, hl with | [_], _ => rfl)⟩
theorem has_pieces {a : Addr} {fd : FuncData} (F : FunD K "pieces" "pieces" (defArgs st_pieces) (defBody st_pieces) (defScope st_pieces) [] [] a fd) (gl : mg "pieces" = some (.ref a)) (h_cuts_of : Has P w K mg base 1 "cuts_of" CFLo.S_cuts_of) (m_tuple : mg "tuple" = none) (m_zip : mg "zip" = none) : Has P w K mg base 2 "pieces" S_pieces :=
  ⟨a, fd, P_pieces, fn0 (k := 1) (L := L_pieces) (ww := w_pieces) F sc_pieces rfl len_pieces (by
      intro cdv A outer s H E hr g hgL
      unfold w_pieces
      refine eb_cons ?_ ?_
      refine es_setF (i := 1) sc_pieces.nd rfl (Or.inl rfl) ?_
      refine ee_has h_cuts_of (hr.mono (by decide)) (by rfl) ?_
      refine ea_cons ?_ ?_
      exact ee_var (pv 0)
      exact ea_nil
      refine eb_one ?_
      refine es_ret ?_
      refine ee_tuple (by rfl) m_tuple ?_
      refine ea_cons ?_ ?_
      refine ee_lc (own := [("low", 3), ("high", 4)]) rfl sc_pieces.nd (lf_ hgL rfl) ?_ (blkOk_by (own := [("low", 3), ("high", 4)]) (N := N_pieces) (sc := defScope st_pieces) (by decide +kernel)) (fun _ _ _ _ _ => eg_tup rfl (egs_cons (eg_name (i := 3) sc_pieces.nd rfl (Or.inl rfl)) (egs_cons (eg_name (i := 4) sc_pieces.nd rfl (Or.inl rfl)) egs_nil))) (fun _ _ _ _ _ => ets_nil) (fun _ _ _ _ _ => ee_tup (ea_cons (ee_var (pv 3)) (ea_cons (ee_var (pv 4)) ea_nil)))
      refine ei_zip (by rfl) m_zip ?_
      refine ea_cons ?_ ?_
      exact ee_var (pv 1)
      refine ea_cons ?_ ?_
      refine ee_sl ?_ ?_ ?_
      exact ee_var (pv 1)
      refine eo_some ?_
      exact ee_int
      exact eo_none
      exact ea_nil
      exact ea_nil) ok_pieces, gl, F.kp, F.bindsN (fun _ _ _ _ _ _ us hl => match us, hl with | [_], _ => rfl)⟩
theorem has_law_hand {a : Addr} {fd : FuncData} (F : FunD K "_law_hand" "_law_hand" (defArgs st_law_hand) (defBody st_law_hand) (defScope st_law_hand) [] [] a fd) (gl : mg "_law_hand" = some (.ref a)) (m_len : mg "len" = none) (m_int : mg "int" = none) : Has P w K mg base 1 "_law_hand" CFH.S_law_hand :=
  ⟨a, fd, P_law_hand, fn0 (k := 0) (L := CFH.L_law_hand) (ww := CFH.w_law_hand) F sc_law_hand rfl CFH.len_law_hand (by
      intro cdv A outer s H E hr g hgL
      unfold CFH.w_law_hand
      refine eb_cons ?_ ?_
      refine es_setF (i := 2) sc_law_hand.nd rfl (Or.inl rfl) ?_
      exact ee_int
      refine eb_cons ?_ ?_
      refine es_if ?_ ?_ ?_
      refine et_lt ?_ ?_
      exact ee_var (pv 1)
      refine ee_len (by rfl) m_len ?_
      refine ea_cons ?_ ?_
      exact ee_var (pv 0)
      exact ea_nil
      refine eb_one ?_
      refine es_setF (i := 2) sc_law_hand.nd rfl (Or.inl rfl) ?_
      refine ee_ix ?_ ?_
      exact ee_var (pv 0)
      exact ee_var (pv 1)
      exact eb_nil
      refine eb_one ?_
      refine es_ret ?_
      refine ee_lst ?_
      refine ea_cons ?_ ?_
      refine ee_mul ?_ ?_
      exact ee_var (pv 2)
      refine ee_int1 (by rfl) m_int ?_
      refine ea_cons ?_ ?_
      refine ee_ge ?_ ?_
      exact ee_var (pv 2)
      refine ee_pow ?_ ?_
      exact ee_int
      exact ee_int
      exact ea_nil
      refine ea_cons ?_ ?_
      refine ee_add ?_ ?_
      refine ee_add ?_ ?_
      refine ee_mod ?_ ?_
      exact ee_var (pv 2)
      exact ee_int
      refine ee_mul ?_ ?_
      exact ee_int
      exact ee_var (pv 1)
      exact ee_int
      refine ea_cons ?_ ?_
      exact ee_int
      exact ea_nil) CFH.ok_law_hand, gl, F.kp, F.bindsN (fun _ _ _ _ _ _ us hl => match us, hl with | [_, _], _ => rfl)⟩
theorem has_law_take {a : Addr} {fd : FuncData} (F : FunD K "_law_take" "_law_take" (defArgs st_law_take) (defBody st_law_take) (defScope st_law_take) [] [] a fd) (gl : mg "_law_take" = some (.ref a))  : Has P w K mg base 1 "_law_take" CFH.S_law_take :=
  ⟨a, fd, P_law_take, fn0 (k := 0) (L := CFH.L_law_take) (ww := CFH.w_law_take) F sc_law_take rfl CFH.len_law_take (by
      intro cdv A outer s H E hr g hgL
      unfold CFH.w_law_take
      refine eb_cons ?_ ?_
      refine es_if ?_ ?_ ?_
      refine et_gt ?_ ?_
      refine ee_ix ?_ ?_
      exact ee_ln (i := 0) (lt_ hgL rfl) (pv 0)
      exact ee_int
      exact ee_int
      refine eb_cons ?_ ?_
      refine es_setF (i := 2) sc_law_take.nd rfl (Or.inl rfl) ?_
      refine ee_mod ?_ ?_
      refine ee_ix ?_ ?_
      exact ee_ln (i := 0) (lt_ hgL rfl) (pv 0)
      exact ee_int
      exact ee_var (pv 1)
      refine eb_cons ?_ ?_
      refine es_setIx (i := 0) (lt_ hgL rfl) (pv 0) ?_ ?_
      refine ee_div ?_ ?_
      refine ee_ix ?_ ?_
      exact ee_ln (i := 0) (lt_ hgL rfl) (pv 0)
      exact ee_int
      exact ee_var (pv 1)
      exact ee_int
      refine eb_one ?_
      refine es_ret ?_
      exact ee_var (pv 2)
      exact eb_nil
      refine eb_cons ?_ ?_
      refine es_setIx (i := 0) (lt_ hgL rfl) (pv 0) ?_ ?_
      refine ee_add ?_ ?_
      refine ee_ix ?_ ?_
      exact ee_ln (i := 0) (lt_ hgL rfl) (pv 0)
      exact ee_int
      exact ee_int
      exact ee_int
      refine eb_cons ?_ ?_
      refine es_setF (i := 3) sc_law_take.nd rfl (Or.inl rfl) ?_
      refine ee_ix ?_ ?_
      exact ee_ln (i := 0) (lt_ hgL rfl) (pv 0)
      exact ee_int
      refine eb_cons ?_ ?_
      refine es_setF (i := 4) sc_law_take.nd rfl (Or.inl rfl) ?_
      refine ee_add ?_ ?_
      refine ee_add ?_ ?_
      exact ee_int
      refine ee_mul ?_ ?_
      refine ee_mul ?_ ?_
      exact ee_int
      exact ee_var (pv 3)
      exact ee_var (pv 3)
      refine ee_mul ?_ ?_
      exact ee_int
      exact ee_var (pv 3)
      refine eb_cons ?_ ?_
      refine es_setF (i := 5) sc_law_take.nd rfl (Or.inl rfl) ?_
      refine ee_mod ?_ ?_
      refine ee_mul ?_ ?_
      refine ee_add ?_ ?_
      refine ee_ix ?_ ?_
      exact ee_ln (i := 0) (lt_ hgL rfl) (pv 0)
      exact ee_int
      refine ee_mul ?_ ?_
      exact ee_int
      exact ee_var (pv 3)
      exact ee_var (pv 4)
      exact ee_int
      refine eb_cons ?_ ?_
      refine es_setF (i := 6) sc_law_take.nd rfl (Or.inl rfl) ?_
      refine ee_add ?_ ?_
      refine ee_add ?_ ?_
      refine ee_mod ?_ ?_
      exact ee_var (pv 5)
      exact ee_int
      refine ee_mul ?_ ?_
      exact ee_var (pv 3)
      exact ee_int
      exact ee_int
      refine eb_cons ?_ ?_
      refine es_setF (i := 5) sc_law_take.nd rfl (Or.inl rfl) ?_
      refine ee_mod ?_ ?_
      refine ee_mul ?_ ?_
      exact ee_var (pv 5)
      exact ee_var (pv 6)
      exact ee_int
      refine eb_one ?_
      refine es_ret ?_
      refine ee_mod ?_ ?_
      refine ee_add ?_ ?_
      refine ee_div ?_ ?_
      exact ee_var (pv 5)
      exact ee_int
      refine ee_div ?_ ?_
      exact ee_var (pv 5)
      exact ee_int
      exact ee_var (pv 1)) CFH.ok_law_take, gl, F.kp, F.bindsN (fun _ _ _ _ _ _ us hl => match us, hl with | [_, _], _ => rfl)⟩
theorem has_law_pick {a : Addr} {fd : FuncData} (F : FunD K "_law_pick" "_law_pick" (defArgs st_law_pick) (defBody st_law_pick) (defScope st_law_pick) [] [] a fd) (gl : mg "_law_pick" = some (.ref a)) (h_law_take : Has P w K mg base 1 "_law_take" CFH.S_law_take) (m_len : mg "len" = none) : Has P w K mg base 2 "_law_pick" CFH.S_law_pick :=
  ⟨a, fd, P_law_pick, fn0 (k := 1) (L := CFH.L_law_pick) (ww := CFH.w_law_pick) F sc_law_pick rfl CFH.len_law_pick (by
      intro cdv A outer s H E hr g hgL
      unfold CFH.w_law_pick
      refine eb_one ?_
      refine es_ret ?_
      refine ee_ix ?_ ?_
      exact ee_var (pv 1)
      refine ee_has h_law_take (hr.mono (by decide)) (by rfl) ?_
      refine ea_cons ?_ ?_
      exact ee_pk (i := 0) (lt_ hgL rfl) (pv 0)
      refine ea_cons ?_ ?_
      refine ee_len (by rfl) m_len ?_
      refine ea_cons ?_ ?_
      exact ee_var (pv 1)
      exact ea_nil
      exact ea_nil) CFH.ok_law_pick, gl, F.kp, F.bindsN (fun _ _ _ _ _ _ us hl => match us, hl with | [_, _], _ => rfl)⟩
theorem has_law_great {a : Addr} {fd : FuncData} (F : FunD K "_law_great" "_law_great" (defArgs st_law_great) (defBody st_law_great) (defScope st_law_great) [] [] a fd) (gl : mg "_law_great" = some (.ref a)) (m_range : mg "range" = none) (h_law_take : Has P w K mg base 1 "_law_take" CFH.S_law_take) : Has P w K mg base 2 "_law_great" CFH.S_law_great :=
  ⟨a, fd, P_law_great, fn0 (k := 1) (L := CFH.L_law_great) (ww := CFH.w_law_great) F sc_law_great rfl CFH.len_law_great (by
      intro cdv A outer s H E hr g hgL
      unfold CFH.w_law_great
      refine eb_cons ?_ ?_
      refine es_setF (i := 1) sc_law_great.nd rfl (Or.inl rfl) ?_
      exact ee_int
      refine eb_cons ?_ ?_
      refine es_for PassesOwn.never rfl ?_ (eg_name (i := 2) sc_law_great.nd rfl (Or.inl rfl)) ?_
      refine ei_range1 (by rfl) m_range ?_
      refine ea_cons ?_ ?_
      exact ee_int
      exact ea_nil
      refine eb_one ?_
      refine es_setF (i := 1) sc_law_great.nd rfl (Or.inl rfl) ?_
      refine ee_add ?_ ?_
      refine ee_mul ?_ ?_
      exact ee_var (pv 1)
      refine ee_pow ?_ ?_
      exact ee_int
      exact ee_int
      refine ee_has h_law_take (hr.mono (by decide)) (by rfl) ?_
      refine ea_cons ?_ ?_
      exact ee_pk (i := 0) (lt_ hgL rfl) (pv 0)
      refine ea_cons ?_ ?_
      refine ee_pow ?_ ?_
      exact ee_int
      exact ee_int
      exact ea_nil
      refine eb_one ?_
      refine es_ret ?_
      exact ee_var (pv 1)) CFH.ok_law_great, gl, F.kp, F.bindsN (fun _ _ _ _ _ _ us hl => match us, hl with | [_], _ => rfl)⟩
theorem has_law_words {a : Addr} {fd : FuncData} (F : FunD K "_law_words" "_law_words" (defArgs st_law_words) (defBody st_law_words) (defScope st_law_words) [] [] a fd) (gl : mg "_law_words" = some (.ref a)) (h_law_pick : Has P w K mg base 2 "_law_pick" CFH.S_law_pick) (h_law_take : Has P w K mg base 1 "_law_take" CFH.S_law_take) (m_len : mg "len" = none) (m_range : mg "range" = none) : Has P w K mg base 3 "_law_words" CFWd.S_law_words :=
  ⟨a, fd, P_law_words, fn0 (k := 2) (L := CFWd.L_law_words) (ww := CFWd.w_law_words) F sc_law_words rfl CFWd.len_law_words (by
      intro cdv A outer s H E hr g hgL
      unfold CFWd.w_law_words
      refine eb_cons ?_ ?_
      refine es_setF (i := 2) sc_law_words.nd rfl (Or.inl rfl) ?_
      exact ee_str
      refine eb_cons ?_ ?_
      refine es_par (i := 3) (j := 4) rfl sc_law_words.nd rfl rfl (by decide) rfl rfl ?_ (by rfl)
      refine ea_cons ?_ ?_
      refine ee_has h_law_take (hr.mono (by decide)) (by rfl) ?_
      refine ea_cons ?_ ?_
      exact ee_pk (i := 0) (lt_ hgL rfl) (pv 0)
      refine ea_cons ?_ ?_
      exact ee_int
      exact ea_nil
      refine ea_cons ?_ ?_
      refine ee_has h_law_pick (hr.mono (by decide)) (by rfl) ?_
      refine ea_cons ?_ ?_
      exact ee_pk (i := 0) (lt_ hgL rfl) (pv 0)
      refine ea_cons ?_ ?_
      refine ee_lst ?_
      refine ea_cons ?_ ?_
      exact ee_int
      refine ea_cons ?_ ?_
      exact ee_int
      refine ea_cons ?_ ?_
      exact ee_int
      refine ea_cons ?_ ?_
      exact ee_int
      refine ea_cons ?_ ?_
      exact ee_int
      refine ea_cons ?_ ?_
      exact ee_int
      exact ea_nil
      exact ea_nil
      exact ea_nil
      refine eb_cons ?_ ?_
      refine es_setF (i := 5) sc_law_words.nd rfl (Or.inl rfl) ?_
      refine ee_mulS ?_ ?_
      refine ee_ix ?_ ?_
      exact ee_var (pv 2)
      refine ee_has h_law_take (hr.mono (by decide)) (by rfl) ?_
      refine ea_cons ?_ ?_
      exact ee_pk (i := 0) (lt_ hgL rfl) (pv 0)
      refine ea_cons ?_ ?_
      exact ee_int
      exact ea_nil
      refine ee_has h_law_pick (hr.mono (by decide)) (by rfl) ?_
      refine ea_cons ?_ ?_
      exact ee_pk (i := 0) (lt_ hgL rfl) (pv 0)
      refine ea_cons ?_ ?_
      refine ee_lst ?_
      refine ea_cons ?_ ?_
      exact ee_int
      refine ea_cons ?_ ?_
      exact ee_int
      refine ea_cons ?_ ?_
      exact ee_int
      refine ea_cons ?_ ?_
      exact ee_int
      refine ea_cons ?_ ?_
      exact ee_int
      exact ea_nil
      exact ea_nil
      refine eb_cons ?_ ?_
      refine es_setF (i := 6) sc_law_words.nd rfl (Or.inl rfl) ?_
      refine ee_has h_law_take (hr.mono (by decide)) (by rfl) ?_
      refine ea_cons ?_ ?_
      exact ee_pk (i := 0) (lt_ hgL rfl) (pv 0)
      refine ea_cons ?_ ?_
      refine ee_add ?_ ?_
      refine ee_len (by rfl) m_len ?_
      refine ea_cons ?_ ?_
      exact ee_var (pv 5)
      exact ea_nil
      exact ee_int
      exact ea_nil
      refine eb_cons ?_ ?_
      refine es_setF (i := 7) sc_law_words.nd rfl (Or.inl rfl) ?_
      refine ee_has h_law_take (hr.mono (by decide)) (by rfl) ?_
      refine ea_cons ?_ ?_
      exact ee_pk (i := 0) (lt_ hgL rfl) (pv 0)
      refine ea_cons ?_ ?_
      exact ee_int
      exact ea_nil
      refine eb_cons ?_ ?_
      refine es_set (i := 8) sc_law_words.nd rfl (Or.inl rfl) ?_
      refine ee_lst ?_
      exact ea_nil
      refine eb_cons ?_ ?_
      refine es_for PassesOwn.never rfl ?_ (eg_name (i := 9) sc_law_words.nd rfl (Or.inl rfl)) ?_
      refine ei_range1 (by rfl) m_range ?_
      refine ea_cons ?_ ?_
      exact ee_var (pv 1)
      exact ea_nil
      refine eb_cons ?_ ?_
      refine es_setF (i := 10) sc_law_words.nd rfl (Or.inl rfl) ?_
      refine ee_sl ?_ ?_ ?_
      exact ee_var (pv 5)
      refine eo_some ?_
      exact ee_var (pv 6)
      exact eo_none
      refine eb_cons ?_ ?_
      refine es_if ?_ ?_ ?_
      refine et_w ?_
      refine ew_and ?_ ?_
      refine et_eq hr.units ?_ ?_
      exact ee_var (pv 7)
      exact ee_int
      refine ew_and1 ?_
      refine et_eq hr.units ?_ ?_
      refine ee_mod ?_ ?_
      exact ee_var (pv 9)
      exact ee_int
      exact ee_int
      refine eb_one ?_
      refine es_setF (i := 10) sc_law_words.nd rfl (Or.inl rfl) ?_
      exact ee_str
      exact eb_nil
      refine eb_cons ?_ ?_
      refine es_setF (i := 11) sc_law_words.nd rfl (Or.inl rfl) ?_
      refine ee_ix ?_ ?_
      exact ee_var (pv 2)
      refine ee_mod ?_ ?_
      refine ee_add ?_ ?_
      exact ee_var (pv 3)
      refine ee_mul ?_ ?_
      exact ee_var (pv 4)
      exact ee_var (pv 9)
      exact ee_int
      refine eb_one ?_
      refine es_expr ?_
      refine ee_app (i := 8) (lt_ hgL rfl) (pv 8) ?_
      refine ee_plus hr.units ?_ ?_
      refine ee_plus hr.units ?_ ?_
      refine ee_sl ?_ ?_ ?_
      exact ee_var (pv 5)
      exact eo_none
      refine eo_some ?_
      exact ee_var (pv 6)
      exact ee_var (pv 11)
      exact ee_var (pv 10)
      refine eb_one ?_
      exact es_retO (i := 8) (lt_ hgL rfl) (pv 8)) CFWd.ok_law_words, gl, F.kp, F.bindsN (fun _ _ _ _ _ _ us hl => match us, hl with | [_, _], _ => rfl)⟩
theorem has_law_minute {a : Addr} {fd : FuncData} (F : FunD K "_law_minute" "_law_minute" (defArgs st_law_minute) (defBody st_law_minute) (defScope st_law_minute) [] [] a fd) (gl : mg "_law_minute" = some (.ref a)) (h_law_take : Has P w K mg base 1 "_law_take" CFH.S_law_take) (h_law_pick : Has P w K mg base 2 "_law_pick" CFH.S_law_pick) : Has P w K mg base 3 "_law_minute" CFLy.S_law_minute :=
  ⟨a, fd, P_law_minute, fn0 (k := 2) (L := CFLy.L_law_minute) (ww := CFLy.w_law_minute) F sc_law_minute rfl CFLy.len_law_minute (by
      intro cdv A outer s H E hr g hgL
      unfold CFLy.w_law_minute
      refine eb_cons ?_ ?_
      refine es_setF (i := 2) sc_law_minute.nd rfl (Or.inl rfl) ?_
      refine ee_has h_law_take (hr.mono (by decide)) (by rfl) ?_
      refine ea_cons ?_ ?_
      exact ee_pk (i := 0) (lt_ hgL rfl) (pv 0)
      refine ea_cons ?_ ?_
      exact ee_int
      exact ea_nil
      refine eb_cons ?_ ?_
      refine es_setF (i := 3) sc_law_minute.nd rfl (Or.inl rfl) ?_
      refine ee_has h_law_take (hr.mono (by decide)) (by rfl) ?_
      refine ea_cons ?_ ?_
      exact ee_pk (i := 0) (lt_ hgL rfl) (pv 0)
      refine ea_cons ?_ ?_
      exact ee_var (pv 1)
      exact ea_nil
      refine eb_cons ?_ ?_
      refine es_if ?_ ?_ ?_
      refine et_eq hr.units ?_ ?_
      exact ee_var (pv 2)
      exact ee_int
      refine eb_one ?_
      refine es_ret ?_
      refine ee_mul ?_ ?_
      exact ee_int
      refine ee_add ?_ ?_
      exact ee_var (pv 3)
      refine ee_has h_law_take (hr.mono (by decide)) (by rfl) ?_
      refine ea_cons ?_ ?_
      exact ee_pk (i := 0) (lt_ hgL rfl) (pv 0)
      refine ea_cons ?_ ?_
      exact ee_int
      exact ea_nil
      exact eb_nil
      refine eb_cons ?_ ?_
      refine es_if ?_ ?_ ?_
      refine et_eq hr.units ?_ ?_
      exact ee_var (pv 2)
      exact ee_int
      refine eb_one ?_
      refine es_ret ?_
      refine ee_add ?_ ?_
      refine ee_mul ?_ ?_
      exact ee_int
      exact ee_var (pv 3)
      refine ee_has h_law_pick (hr.mono (by decide)) (by rfl) ?_
      refine ea_cons ?_ ?_
      exact ee_pk (i := 0) (lt_ hgL rfl) (pv 0)
      refine ea_cons ?_ ?_
      refine ee_lst ?_
      refine ea_cons ?_ ?_
      exact ee_int
      refine ea_cons ?_ ?_
      exact ee_int
      refine ea_cons ?_ ?_
      exact ee_int
      refine ea_cons ?_ ?_
      exact ee_int
      refine ea_cons ?_ ?_
      exact ee_int
      refine ea_cons ?_ ?_
      exact ee_int
      exact ea_nil
      exact ea_nil
      exact eb_nil
      refine eb_one ?_
      refine es_ret ?_
      refine ee_add ?_ ?_
      refine ee_mul ?_ ?_
      exact ee_int
      exact ee_var (pv 3)
      refine ee_has h_law_take (hr.mono (by decide)) (by rfl) ?_
      refine ea_cons ?_ ?_
      exact ee_pk (i := 0) (lt_ hgL rfl) (pv 0)
      refine ea_cons ?_ ?_
      exact ee_int
      exact ea_nil) CFLy.ok_law_minute, gl, F.kp, F.bindsN (fun _ _ _ _ _ _ us hl => match us, hl with | [_, _], _ => rfl)⟩
theorem has_law_layer {a : Addr} {fd : FuncData} (F : FunD K "_law_layer" "_law_layer" (defArgs st_law_layer) (defBody st_law_layer) (defScope st_law_layer) [] [] a fd) (gl : mg "_law_layer" = some (.ref a)) (h_law_take : Has P w K mg base 1 "_law_take" CFH.S_law_take) (h_law_pick : Has P w K mg base 2 "_law_pick" CFH.S_law_pick) (m_sorted : mg "sorted" = none) (m_set : mg "set" = none) (m_range : mg "range" = none) (h_law_minute : Has P w K mg base 3 "_law_minute" CFLy.S_law_minute) (m_len : mg "len" = none) (m_tuple : mg "tuple" = none) : Has P w K mg base 4 "_law_layer" CFLy.S_law_layer :=
  ⟨a, fd, P_law_layer, fn0 (k := 3) (L := CFLy.L_law_layer) (ww := CFLy.w_law_layer) F sc_law_layer rfl CFLy.len_law_layer (by
      intro cdv A outer s H E hr g hgL
      unfold CFLy.w_law_layer
      refine eb_cons ?_ ?_
      refine es_setF (i := 5) sc_law_layer.nd rfl (Or.inl rfl) ?_
      refine ee_mul ?_ ?_
      refine ee_has h_law_take (hr.mono (by decide)) (by rfl) ?_
      refine ea_cons ?_ ?_
      exact ee_pk (i := 0) (lt_ hgL rfl) (pv 0)
      refine ea_cons ?_ ?_
      refine ee_mul ?_ ?_
      exact ee_int
      exact ee_var (pv 3)
      exact ea_nil
      refine ee_has h_law_take (hr.mono (by decide)) (by rfl) ?_
      refine ea_cons ?_ ?_
      exact ee_pk (i := 0) (lt_ hgL rfl) (pv 0)
      refine ea_cons ?_ ?_
      exact ee_int
      exact ea_nil
      refine eb_cons ?_ ?_
      refine es_if ?_ ?_ ?_
      refine et_eq hr.units ?_ ?_
      refine ee_has h_law_take (hr.mono (by decide)) (by rfl) ?_
      refine ea_cons ?_ ?_
      exact ee_pk (i := 0) (lt_ hgL rfl) (pv 0)
      refine ea_cons ?_ ?_
      exact ee_int
      exact ea_nil
      exact ee_int
      refine eb_one ?_
      refine es_ret ?_
      refine ee_tup ?_
      refine ea_cons ?_ ?_
      exact ee_var (pv 1)
      refine ea_cons ?_ ?_
      exact ee_var (pv 5)
      refine ea_cons ?_ ?_
      exact ee_var (pv 3)
      refine ea_cons ?_ ?_
      refine ee_tup ?_
      refine ea_cons ?_ ?_
      refine ee_tup ?_
      refine ea_cons ?_ ?_
      exact ee_int
      refine ea_cons ?_ ?_
      refine ee_mul ?_ ?_
      exact ee_int
      exact ee_var (pv 3)
      refine ea_cons ?_ ?_
      refine ee_has h_law_pick (hr.mono (by decide)) (by rfl) ?_
      refine ea_cons ?_ ?_
      exact ee_pk (i := 0) (lt_ hgL rfl) (pv 0)
      refine ea_cons ?_ ?_
      exact ee_var (pv 2)
      exact ea_nil
      exact ea_nil
      exact ea_nil
      exact ea_nil
      exact eb_nil
      refine eb_cons ?_ ?_
      refine es_setF (i := 7) sc_law_layer.nd rfl (Or.inl rfl) ?_
      refine ee_sortSet rfl (by rfl) m_sorted (by rfl) m_set ?_
      refine ee_lc (own := [("_law_k", 6)]) rfl sc_law_layer.nd (lf_ hgL rfl) ?_ (blkOk_by (own := [("_law_k", 6)]) (N := N_law_layer) (sc := defScope st_law_layer) (by decide +kernel)) (fun _ _ _ _ _ => eg_name (i := 6) sc_law_layer.nd rfl (Or.inl rfl)) (fun _ _ _ _ _ => ets_nil) (fun _ _ _ _ _ => ee_has h_law_minute (hr.mono (by decide)) (by rfl) (ea_cons (ee_pk (i := 0) (lt_ hgL rfl) (pv 0)) (ea_cons (ee_var (pv 3)) ea_nil)))
      refine ei_range1 (by rfl) m_range ?_
      refine ea_cons ?_ ?_
      refine ee_add ?_ ?_
      exact ee_int
      exact ee_var (pv 4)
      exact ea_nil
      refine eb_cons ?_ ?_
      refine es_set (i := 8) sc_law_layer.nd rfl (Or.inl rfl) ?_
      refine ee_lst ?_
      exact ea_nil
      refine eb_cons ?_ ?_
      refine es_for PassesOwn.never rfl ?_ (eg_name (i := 6) sc_law_layer.nd rfl (Or.inl rfl)) ?_
      refine ei_range1 (by rfl) m_range ?_
      refine ea_cons ?_ ?_
      refine ee_sub ?_ ?_
      refine ee_len (by rfl) m_len ?_
      refine ea_cons ?_ ?_
      exact ee_var (pv 7)
      exact ea_nil
      exact ee_int
      exact ea_nil
      refine eb_one ?_
      refine es_if ?_ ?_ ?_
      refine et_gt ?_ ?_
      refine ee_has h_law_take (hr.mono (by decide)) (by rfl) ?_
      refine ea_cons ?_ ?_
      exact ee_pk (i := 0) (lt_ hgL rfl) (pv 0)
      refine ea_cons ?_ ?_
      exact ee_int
      exact ea_nil
      exact ee_int
      refine eb_one ?_
      refine es_expr ?_
      refine ee_app (i := 8) (lt_ hgL rfl) (pv 8) ?_
      refine ee_tup ?_
      refine ea_cons ?_ ?_
      refine ee_ix ?_ ?_
      exact ee_var (pv 7)
      exact ee_var (pv 6)
      refine ea_cons ?_ ?_
      refine ee_ix ?_ ?_
      exact ee_var (pv 7)
      refine ee_add ?_ ?_
      exact ee_var (pv 6)
      exact ee_int
      refine ea_cons ?_ ?_
      refine ee_has h_law_pick (hr.mono (by decide)) (by rfl) ?_
      refine ea_cons ?_ ?_
      exact ee_pk (i := 0) (lt_ hgL rfl) (pv 0)
      refine ea_cons ?_ ?_
      exact ee_var (pv 2)
      exact ea_nil
      exact ea_nil
      exact eb_nil
      refine eb_one ?_
      refine es_ret ?_
      refine ee_tup ?_
      refine ea_cons ?_ ?_
      exact ee_var (pv 1)
      refine ea_cons ?_ ?_
      exact ee_var (pv 5)
      refine ea_cons ?_ ?_
      exact ee_var (pv 3)
      refine ea_cons ?_ ?_
      refine ee_tuple (by rfl) m_tuple ?_
      refine ea_cons ?_ ?_
      exact ee_ln (i := 8) (lt_ hgL rfl) (pv 8)
      exact ea_nil
      exact ea_nil) CFLy.ok_law_layer, gl, F.kp, F.bindsN (fun _ _ _ _ _ _ us hl => match us, hl with | [_, _, _, _, _], _ => rfl)⟩
theorem has_law_cuts {a : Addr} {fd : FuncData} (F : FunD K "_law_cuts" "_law_cuts" (defArgs st_law_cuts) (defBody st_law_cuts) (defScope st_law_cuts) [] [] a fd) (gl : mg "_law_cuts" = some (.ref a)) (m_sorted : mg "sorted" = none) (m_set : mg "set" = none) : Has P w K mg base 1 "_law_cuts" CFLc.S_law_cuts :=
  ⟨a, fd, P_law_cuts, fn0 (k := 0) (L := CFLc.L_law_cuts) (ww := CFLc.w_law_cuts) F sc_law_cuts rfl CFLc.len_law_cuts (by
      intro cdv A outer s H E hr g hgL
      unfold CFLc.w_law_cuts
      refine eb_cons ?_ ?_
      refine es_set (i := 1) sc_law_cuts.nd rfl (Or.inl rfl) ?_
      refine ee_lst ?_
      refine ea_cons ?_ ?_
      exact ee_int
      refine ea_cons ?_ ?_
      exact ee_int
      exact ea_nil
      refine eb_cons ?_ ?_
      refine es_for PassesOwn.never rfl ?_ (eg_tup rfl (egs_cons (eg_name (i := 2) sc_law_cuts.nd rfl (Or.inl rfl)) (egs_cons (eg_name (i := 3) sc_law_cuts.nd rfl (Or.inl rfl)) (egs_cons (eg_name (i := 4) sc_law_cuts.nd rfl (Or.inl rfl)) (egs_cons (eg_name (i := 5) sc_law_cuts.nd rfl (Or.inl rfl)) egs_nil))))) ?_
      refine ei_seq ?_
      exact ee_var (pv 0)
      refine eb_one ?_
      refine es_for PassesOwn.never rfl ?_ (eg_tup rfl (egs_cons (eg_name (i := 6) sc_law_cuts.nd rfl (Or.inl rfl)) (egs_cons (eg_name (i := 7) sc_law_cuts.nd rfl (Or.inl rfl)) (egs_cons (eg_name (i := 8) sc_law_cuts.nd rfl (Or.inl rfl)) egs_nil)))) ?_
      refine ei_seq ?_
      exact ee_var (pv 5)
      refine eb_one ?_
      refine es_expr ?_
      refine ee_ext (i := 1) (lt_ hgL rfl) (pv 1) ?_
      refine ee_lst ?_
      refine ea_cons ?_ ?_
      refine ee_mod ?_ ?_
      refine ee_add ?_ ?_
      exact ee_var (pv 3)
      exact ee_var (pv 6)
      exact ee_int
      refine ea_cons ?_ ?_
      refine ee_mod ?_ ?_
      refine ee_add ?_ ?_
      exact ee_var (pv 3)
      exact ee_var (pv 7)
      exact ee_int
      exact ea_nil
      refine eb_one ?_
      refine es_ret ?_
      refine ee_sortSet rfl (by rfl) m_sorted (by rfl) m_set ?_
      exact ee_ln (i := 1) (lt_ hgL rfl) (pv 1)) CFLc.ok_law_cuts, gl, F.kp, F.bindsN (fun _ _ _ _ _ _ us hl => match us, hl with | [_], _ => rfl)⟩
theorem has_law_drawn {a : Addr} {fd : FuncData} (F : FunD K "_law_drawn" "_law_drawn" (defArgs st_law_drawn) (defBody st_law_drawn) (defScope st_law_drawn) [] [] a fd) (gl : mg "_law_drawn" = some (.ref a)) (h_law_words : Has P w K mg base 3 "_law_words" CFWd.S_law_words) (h_law_pick : Has P w K mg base 2 "_law_pick" CFH.S_law_pick) (m_range : mg "range" = none) (h_law_take : Has P w K mg base 1 "_law_take" CFH.S_law_take) (h_law_layer : Has P w K mg base 4 "_law_layer" CFLy.S_law_layer) (m_tuple : mg "tuple" = none) : Has P w K mg base 5 "_law_drawn" S_law_drawn :=
  ⟨a, fd, P_law_drawn, fn0 (k := 4) (L := L_law_drawn) (ww := w_law_drawn) F sc_law_drawn rfl len_law_drawn (by
      intro cdv A outer s H E hr g hgL
      unfold w_law_drawn
      refine eb_cons ?_ ?_
      refine es_setF (i := 1) sc_law_drawn.nd rfl (Or.inl rfl) ?_
      refine ee_has h_law_words (hr.mono (by decide)) (by rfl) ?_
      refine ea_cons ?_ ?_
      exact ee_pk (i := 0) (lt_ hgL rfl) (pv 0)
      refine ea_cons ?_ ?_
      exact ee_int
      exact ea_nil
      refine eb_cons ?_ ?_
      refine es_par (i := 2) (j := 3) rfl sc_law_drawn.nd rfl rfl (by decide) rfl rfl ?_ (by rfl)
      refine ea_cons ?_ ?_
      refine ee_lst ?_
      refine ea_cons ?_ ?_
      refine ee_ix ?_ ?_
      exact ee_var (pv 1)
      exact ee_int
      refine ea_cons ?_ ?_
      refine ee_ix ?_ ?_
      exact ee_var (pv 1)
      exact ee_int
      refine ea_cons ?_ ?_
      refine ee_ix ?_ ?_
      exact ee_var (pv 1)
      exact ee_int
      refine ea_cons ?_ ?_
      refine ee_ix ?_ ?_
      exact ee_var (pv 1)
      exact ee_int
      exact ea_nil
      refine ea_cons ?_ ?_
      refine ee_has h_law_pick (hr.mono (by decide)) (by rfl) ?_
      refine ea_cons ?_ ?_
      exact ee_pk (i := 0) (lt_ hgL rfl) (pv 0)
      refine ea_cons ?_ ?_
      refine ee_lst ?_
      refine ea_cons ?_ ?_
      exact ee_int
      refine ea_cons ?_ ?_
      exact ee_int
      refine ea_cons ?_ ?_
      exact ee_int
      refine ea_cons ?_ ?_
      exact ee_int
      exact ea_nil
      exact ea_nil
      exact ea_nil
      refine eb_cons ?_ ?_
      refine es_setF (i := 4) sc_law_drawn.nd rfl (Or.inl rfl) ?_
      refine ee_has h_law_pick (hr.mono (by decide)) (by rfl) ?_
      refine ea_cons ?_ ?_
      exact ee_pk (i := 0) (lt_ hgL rfl) (pv 0)
      refine ea_cons ?_ ?_
      refine ee_lst ?_
      refine ea_cons ?_ ?_
      exact ee_int
      refine ea_cons ?_ ?_
      exact ee_int
      refine ea_cons ?_ ?_
      exact ee_int
      refine ea_cons ?_ ?_
      exact ee_int
      refine ea_cons ?_ ?_
      exact ee_int
      refine ea_cons ?_ ?_
      exact ee_int
      exact ea_nil
      exact ea_nil
      refine eb_cons ?_ ?_
      refine es_if ?_ ?_ ?_
      refine et_eq hr.units ?_ ?_
      exact ee_var (pv 4)
      exact ee_int
      refine eb_one ?_
      refine es_setF (i := 3) sc_law_drawn.nd rfl (Or.inl rfl) ?_
      refine ee_has h_law_pick (hr.mono (by decide)) (by rfl) ?_
      refine ea_cons ?_ ?_
      exact ee_pk (i := 0) (lt_ hgL rfl) (pv 0)
      refine ea_cons ?_ ?_
      refine ee_lst ?_
      refine ea_cons ?_ ?_
      exact ee_int
      refine ea_cons ?_ ?_
      exact ee_int
      exact ea_nil
      exact ea_nil
      exact eb_nil
      refine eb_cons ?_ ?_
      refine es_set (i := 5) sc_law_drawn.nd rfl (Or.inl rfl) ?_
      refine ee_lst ?_
      exact ea_nil
      refine eb_cons ?_ ?_
      refine es_for PassesOwn.never rfl ?_ (eg_name (i := 6) sc_law_drawn.nd rfl (Or.inl rfl)) ?_
      refine ei_range1 (by rfl) m_range ?_
      refine ea_cons ?_ ?_
      exact ee_var (pv 4)
      exact ea_nil
      refine eb_cons ?_ ?_
      refine es_setF (i := 7) sc_law_drawn.nd rfl (Or.inl rfl) ?_
      refine ee_has h_law_pick (hr.mono (by decide)) (by rfl) ?_
      refine ea_cons ?_ ?_
      exact ee_pk (i := 0) (lt_ hgL rfl) (pv 0)
      refine ea_cons ?_ ?_
      refine ee_lst ?_
      refine ea_cons ?_ ?_
      exact ee_int
      refine ea_cons ?_ ?_
      exact ee_int
      refine ea_cons ?_ ?_
      exact ee_int
      refine ea_cons ?_ ?_
      refine ee_add ?_ ?_
      exact ee_int
      refine ee_has h_law_take (hr.mono (by decide)) (by rfl) ?_
      refine ea_cons ?_ ?_
      exact ee_pk (i := 0) (lt_ hgL rfl) (pv 0)
      refine ea_cons ?_ ?_
      exact ee_int
      exact ea_nil
      exact ea_nil
      exact ea_nil
      refine eb_one ?_
      refine es_expr ?_
      refine ee_app (i := 5) (lt_ hgL rfl) (pv 5) ?_
      refine ee_has h_law_layer (hr.mono (by decide)) (by rfl) ?_
      refine ea_cons ?_ ?_
      exact ee_pk (i := 0) (lt_ hgL rfl) (pv 0)
      refine ea_cons ?_ ?_
      refine ee_ix ?_ ?_
      exact ee_var (pv 2)
      refine ee_mod ?_ ?_
      exact ee_var (pv 6)
      exact ee_int
      refine ea_cons ?_ ?_
      exact ee_var (pv 1)
      refine ea_cons ?_ ?_
      exact ee_var (pv 7)
      refine ea_cons ?_ ?_
      exact ee_var (pv 3)
      exact ea_nil
      refine eb_one ?_
      refine es_ret ?_
      refine ee_tuple (by rfl) m_tuple ?_
      refine ea_cons ?_ ?_
      exact ee_ln (i := 5) (lt_ hgL rfl) (pv 5)
      exact ea_nil) ok_law_drawn, gl, F.kp, F.bindsN (fun _ _ _ _ _ _ us hl => match us, hl with | [_], _ => rfl)⟩
theorem has_law_one_turn {a : Addr} {fd : FuncData} (F : FunD K "_law_one_turn" "_law_one_turn" (defArgs st_law_one_turn) (defBody st_law_one_turn) (defScope st_law_one_turn) [] [] a fd) (gl : mg "_law_one_turn" = some (.ref a)) (h_law_pick : Has P w K mg base 2 "_law_pick" CFH.S_law_pick) (h_law_great : Has P w K mg base 2 "_law_great" CFH.S_law_great) (h_law_take : Has P w K mg base 1 "_law_take" CFH.S_law_take) (h_turn_at : Has P w K mg base 2 "turn_at" CFTu.S_turn_at) : Has P w K mg base 3 "_law_one_turn" S_law_one_turn :=
  ⟨a, fd, P_law_one_turn, fn0 (k := 2) (L := L_law_one_turn) (ww := w_law_one_turn) F sc_law_one_turn rfl len_law_one_turn (by
      intro cdv A outer s H E hr g hgL
      unfold w_law_one_turn
      refine eb_cons ?_ ?_
      refine es_setF (i := 4) sc_law_one_turn.nd rfl (Or.inl rfl) ?_
      refine ee_mul ?_ ?_
      exact ee_int
      refine ee_has h_law_pick (hr.mono (by decide)) (by rfl) ?_
      refine ea_cons ?_ ?_
      exact ee_pk (i := 0) (lt_ hgL rfl) (pv 0)
      refine ea_cons ?_ ?_
      refine ee_lst ?_
      refine ea_cons ?_ ?_
      refine ee_has h_law_take (hr.mono (by decide)) (by rfl) ?_
      refine ea_cons ?_ ?_
      exact ee_pk (i := 0) (lt_ hgL rfl) (pv 0)
      refine ea_cons ?_ ?_
      exact ee_int
      exact ea_nil
      refine ea_cons ?_ ?_
      refine ee_has h_law_great (hr.mono (by decide)) (by rfl) ?_
      refine ea_cons ?_ ?_
      exact ee_pk (i := 0) (lt_ hgL rfl) (pv 0)
      exact ea_nil
      exact ea_nil
      exact ea_nil
      refine eb_one ?_
      refine es_ret ?_
      refine ee_eq hr.units ?_ ?_
      refine ee_has h_turn_at (hr.mono (by decide)) (by rfl) ?_
      refine ea_cons ?_ ?_
      exact ee_var (pv 1)
      refine ea_cons ?_ ?_
      refine ee_add ?_ ?_
      exact ee_var (pv 4)
      exact ee_var (pv 2)
      exact ea_nil
      refine ee_has h_turn_at (hr.mono (by decide)) (by rfl) ?_
      refine ea_cons ?_ ?_
      exact ee_var (pv 1)
      refine ea_cons ?_ ?_
      refine ee_sub ?_ ?_
      refine ee_add ?_ ?_
      exact ee_var (pv 4)
      exact ee_var (pv 3)
      exact ee_int
      exact ea_nil) ok_law_one_turn, gl, F.kp, F.bindsN (fun _ _ _ _ _ _ us hl => match us, hl with | [_, _, _, _], _ => rfl)⟩
theorem fn_law {a : Addr} {fd : FuncData} (F : FunD K "law" "law" (defArgs st_law) (defBody st_law) (defScope st_law) [] [] a fd) (m_range : mg "range" = none) (m_max : mg "max" = none) (m_min : mg "min" = none) (m_len : mg "len" = none) (h_law_hand : Has P w K mg base 1 "_law_hand" CFH.S_law_hand) (h_law_drawn : Has P w K mg base 5 "_law_drawn" S_law_drawn) (h_law_cuts : Has P w K mg base 1 "_law_cuts" CFLc.S_law_cuts) (h_pieces : Has P w K mg base 2 "pieces" S_pieces) (m_repr : mg "repr" = none) (m_tuple : mg "tuple" = none) (h_law_one_turn : Has P w K mg base 3 "_law_one_turn" S_law_one_turn) (h_law_pick : Has P w K mg base 2 "_law_pick" CFH.S_law_pick) : FnG P w K mg base (L2.CX P w) 6 a fd P_law (spOf K S_law) :=
  fnG0 (k := 5) (L := L_law) (ww := w_law) F sc_law rfl len_law (by
      intro cdv A outer s H E gd hr g hgL
      unfold w_law
      refine eb_cons ?_ ?_
      refine es_for PassesOwn.never rfl ?_ (eg_name (i := 1) sc_law.nd rfl (Or.inl rfl)) ?_
      refine ei_range1 (by rfl) m_range ?_
      refine ea_cons ?_ ?_
      refine ee_max2 rfl (by rfl) m_max ?_
      refine ea_cons ?_ ?_
      exact ee_int
      refine ea_cons ?_ ?_
      refine ee_min2 rfl (by rfl) m_min ?_
      refine ea_cons ?_ ?_
      exact ee_int
      refine ea_cons ?_ ?_
      refine ee_len (by rfl) m_len ?_
      refine ea_cons ?_ ?_
      exact ee_var (pv 0)
      exact ea_nil
      exact ea_nil
      exact ea_nil
      exact ea_nil
      refine eb_cons ?_ ?_
      refine es_set (i := 2) sc_law.nd rfl (Or.inl rfl) ?_
      refine ee_has h_law_hand (hr.mono (by decide)) (by rfl) ?_
      refine ea_cons ?_ ?_
      exact ee_var (pv 0)
      refine ea_cons ?_ ?_
      exact ee_var (pv 1)
      exact ea_nil
      refine eb_cons ?_ ?_
      refine es_setF (i := 3) sc_law.nd rfl (Or.inl rfl) ?_
      refine ee_has h_law_drawn (hr.mono (by decide)) (by rfl) ?_
      refine ea_cons ?_ ?_
      exact ee_pk (i := 2) (lt_ hgL rfl) (pv 2)
      exact ea_nil
      refine eb_cons ?_ ?_
      refine es_setF (i := 4) sc_law.nd rfl (Or.inr rfl) ?_
      refine ee_has h_law_cuts (hr.mono (by decide)) (by rfl) ?_
      refine ea_cons ?_ ?_
      exact ee_var (pv 3)
      exact ea_nil
      refine eb_cons ?_ ?_
      refine es_setF (i := 5) sc_law.nd rfl (Or.inl rfl) ?_
      refine ee_has h_pieces (hr.mono (by decide)) (by rfl) ?_
      refine ea_cons ?_ ?_
      exact ee_var (pv 3)
      exact ea_nil
      refine eb_cons ?_ ?_
      refine es_if ?_ ?_ ?_
      refine et_neS ?_ ?_
      refine ee_repr gd hr.units (by rfl) m_repr ?_
      refine ea_cons ?_ ?_
      exact ee_var (pv 5)
      exact ea_nil
      refine ee_repr gd hr.units (by rfl) m_repr ?_
      refine ea_cons ?_ ?_
      refine ee_tuple (by rfl) m_tuple ?_
      refine ea_cons ?_ ?_
      refine ee_lc (own := [("_law_k", 1)]) rfl sc_law.nd (lf_ hgL rfl) ?_ (blkOk_by (own := [("_law_k", 1)]) (N := N_law) (sc := defScope st_law) (by decide +kernel)) (fun _ _ _ _ _ => eg_name (i := 1) sc_law.nd rfl (Or.inl rfl)) (fun _ _ _ _ _ => ets_nil) (fun _ _ _ _ _ => ee_tup (ea_cons (ee_ix (ee_var (pv 4)) (ee_var (pv 1))) (ea_cons (ee_ix (ee_var (pv 4)) (ee_add (ee_var (pv 1)) ee_int)) ea_nil)))
      refine ei_range1 (by rfl) m_range ?_
      refine ea_cons ?_ ?_
      refine ee_sub ?_ ?_
      refine ee_len (by rfl) m_len ?_
      refine ea_cons ?_ ?_
      exact ee_var (pv 4)
      exact ea_nil
      exact ee_int
      exact ea_nil
      exact ea_nil
      exact ea_nil
      refine eb_one ?_
      refine es_ret ?_
      exact ee_bl
      exact eb_nil
      refine eb_one ?_
      refine es_for PassesOwn.never rfl ?_ (eg_tup rfl (egs_cons (eg_name (i := 6) sc_law.nd rfl (Or.inl rfl)) (egs_cons (eg_name (i := 7) sc_law.nd rfl (Or.inl rfl)) egs_nil))) ?_
      refine ei_seq ?_
      refine ee_sl ?_ ?_ ?_
      exact ee_var (pv 5)
      exact eo_none
      refine eo_some ?_
      exact ee_int
      refine eb_one ?_
      refine es_if ?_ ?_ ?_
      refine et_w ?_
      refine ew_and ?_ ?_
      refine et_ne hr.units ?_ ?_
      exact ee_var (pv 3)
      refine ee_tup ?_
      exact ea_nil
      refine ew_and1 ?_
      refine et_not ?_
      refine et_val ?_
      refine ee_has h_law_one_turn (hr.mono (by decide)) (by rfl) ?_
      refine ea_cons ?_ ?_
      exact ee_pk (i := 2) (lt_ hgL rfl) (pv 2)
      refine ea_cons ?_ ?_
      refine ee_has h_law_pick (hr.mono (by decide)) (by rfl) ?_
      refine ea_cons ?_ ?_
      exact ee_pk (i := 2) (lt_ hgL rfl) (pv 2)
      refine ea_cons ?_ ?_
      exact ee_var (pv 3)
      exact ea_nil
      refine ea_cons ?_ ?_
      exact ee_var (pv 6)
      refine ea_cons ?_ ?_
      exact ee_var (pv 7)
      exact ea_nil
      refine eb_one ?_
      refine es_ret ?_
      exact ee_bl
      exact eb_nil
      refine eb_one ?_
      refine es_ret ?_
      exact ee_bl) ok_law
end
def dd_place_of : He.DefD := ⟨("place_of", none), "place_of", "place_of", defArgs st_place_of, defBody st_place_of, defScope st_place_of, [], []⟩
def dd_turn_at : He.DefD := ⟨("turn_at", none), "turn_at", "turn_at", defArgs st_turn_at, defBody st_turn_at, defScope st_turn_at, [], []⟩
def dd_cuts_of : He.DefD := ⟨("cuts_of", none), "cuts_of", "cuts_of", defArgs st_cuts_of, defBody st_cuts_of, defScope st_cuts_of, [], []⟩
def dd_pieces : He.DefD := ⟨("pieces", none), "pieces", "pieces", defArgs st_pieces, defBody st_pieces, defScope st_pieces, [], []⟩
def dd_law_hand : He.DefD := ⟨("_law_hand", none), "_law_hand", "_law_hand", defArgs st_law_hand, defBody st_law_hand, defScope st_law_hand, [], []⟩
def dd_law_take : He.DefD := ⟨("_law_take", none), "_law_take", "_law_take", defArgs st_law_take, defBody st_law_take, defScope st_law_take, [], []⟩
def dd_law_pick : He.DefD := ⟨("_law_pick", none), "_law_pick", "_law_pick", defArgs st_law_pick, defBody st_law_pick, defScope st_law_pick, [], []⟩
def dd_law_great : He.DefD := ⟨("_law_great", none), "_law_great", "_law_great", defArgs st_law_great, defBody st_law_great, defScope st_law_great, [], []⟩
def dd_law_words : He.DefD := ⟨("_law_words", none), "_law_words", "_law_words", defArgs st_law_words, defBody st_law_words, defScope st_law_words, [], []⟩
def dd_law_minute : He.DefD := ⟨("_law_minute", none), "_law_minute", "_law_minute", defArgs st_law_minute, defBody st_law_minute, defScope st_law_minute, [], []⟩
def dd_law_layer : He.DefD := ⟨("_law_layer", none), "_law_layer", "_law_layer", defArgs st_law_layer, defBody st_law_layer, defScope st_law_layer, [], []⟩
def dd_law_cuts : He.DefD := ⟨("_law_cuts", none), "_law_cuts", "_law_cuts", defArgs st_law_cuts, defBody st_law_cuts, defScope st_law_cuts, [], []⟩
def dd_law_drawn : He.DefD := ⟨("_law_drawn", none), "_law_drawn", "_law_drawn", defArgs st_law_drawn, defBody st_law_drawn, defScope st_law_drawn, [], []⟩
def dd_law_one_turn : He.DefD := ⟨("_law_one_turn", none), "_law_one_turn", "_law_one_turn", defArgs st_law_one_turn, defBody st_law_one_turn, defScope st_law_one_turn, [], []⟩
def dd_law : He.DefD := ⟨("law", none), "law", "law", defArgs st_law, defBody st_law, defScope st_law, [], []⟩
def fn : List He.DefD := [dd_place_of, dd_turn_at, dd_cuts_of, dd_pieces, dd_law_hand, dd_law_take, dd_law_pick, dd_law_great, dd_law_words, dd_law_minute, dd_law_layer, dd_law_cuts, dd_law_drawn, dd_law_one_turn, dd_law]
def fa : List He.Fa := [.glo "place_of", .glo "turn_at", .glo "cuts_of", .glo "pieces", .glo "_law_hand", .glo "_law_take", .glo "_law_pick", .glo "_law_great", .glo "_law_words", .glo "_law_minute", .glo "_law_layer", .glo "_law_cuts", .glo "_law_drawn", .glo "_law_one_turn", .glo "law", .free "enumerate", .free "sorted", .free "set", .free "tuple", .free "zip", .free "len", .free "int", .free "range", .free "max", .free "min", .free "repr", .int "DAY" 1440]
abbrev R : PySem.W.OpenRow := PySem.W.OpenLaw.row PySem.Challenge.rw_calledfirst_k39_pieces_of_the_day
abbrev hk : PySem.W.Hook := He.hookD 4 fa fn
def ob (s : PySem.W.SharedT) : He.AlD := He.obsDG 4 fa fn (HandSHeadRun.getT s)
theorem ob_eq (s : PySem.W.SharedT) : ob s = hk.obs s.abs := He.obsDG_eq (HandSHeadRun.getT_eq s)
def loose : List Str := (["DAY", "place_of", "turn_at", "cuts_of", "pieces", "_law_hand", "_law_take", "_law_pick", "_law_great", "_law_words", "_law_minute", "_law_layer", "_law_cuts", "_law_drawn", "_law_one_turn"] : List Str)
theorem run (w : World) : HandSHeadRun.RunEq R (PySem.W.view R.prog [18]) hk ob 1160 loose w := by
  intro os
  kernel_rfl
theorem facts {P : Program} {w : World} {K : PySem.W.Frag} {h : Heap} {mg : Str → Option Value} {f : Addr} (X : K.In h) (G : h.Ns mainGlobals mg) (hfa : mg ("law" : Str) = some (.ref f)) (c : He.SaysD fa fn K) :
    ∃ fd : FuncData, (∀ (s : Shared) (v : Value), BindsTo s fd ⟨[v], []⟩ [("_law_script", v)]) ∧ ∀ base : Heap, K.In base → base.Ns mainGlobals mg → FnG P w K mg base (L2.CX P w) 6 f fd ["_law_script"] (spOf K S_law) := by
  obtain ⟨fd_place_of, F_place_of⟩ := c.def_ 0 (d := dd_place_of) rfl
  obtain ⟨fd_turn_at, F_turn_at⟩ := c.def_ 1 (d := dd_turn_at) rfl
  obtain ⟨fd_cuts_of, F_cuts_of⟩ := c.def_ 2 (d := dd_cuts_of) rfl
  obtain ⟨fd_pieces, F_pieces⟩ := c.def_ 3 (d := dd_pieces) rfl
  obtain ⟨fd_law_hand, F_law_hand⟩ := c.def_ 4 (d := dd_law_hand) rfl
  obtain ⟨fd_law_take, F_law_take⟩ := c.def_ 5 (d := dd_law_take) rfl
  obtain ⟨fd_law_pick, F_law_pick⟩ := c.def_ 6 (d := dd_law_pick) rfl
  obtain ⟨fd_law_great, F_law_great⟩ := c.def_ 7 (d := dd_law_great) rfl
  obtain ⟨fd_law_words, F_law_words⟩ := c.def_ 8 (d := dd_law_words) rfl
  obtain ⟨fd_law_minute, F_law_minute⟩ := c.def_ 9 (d := dd_law_minute) rfl
  obtain ⟨fd_law_layer, F_law_layer⟩ := c.def_ 10 (d := dd_law_layer) rfl
  obtain ⟨fd_law_cuts, F_law_cuts⟩ := c.def_ 11 (d := dd_law_cuts) rfl
  obtain ⟨fd_law_drawn, F_law_drawn⟩ := c.def_ 12 (d := dd_law_drawn) rfl
  obtain ⟨fd_law_one_turn, F_law_one_turn⟩ := c.def_ 13 (d := dd_law_one_turn) rfl
  obtain ⟨fd_law, F_law⟩ := c.def_ 14 (d := dd_law) rfl
  have g_place_of := He.glo_ok X G (c.fact 0 (f := .glo "place_of") rfl)
  have g_turn_at := He.glo_ok X G (c.fact 1 (f := .glo "turn_at") rfl)
  have g_cuts_of := He.glo_ok X G (c.fact 2 (f := .glo "cuts_of") rfl)
  have g_pieces := He.glo_ok X G (c.fact 3 (f := .glo "pieces") rfl)
  have g_law_hand := He.glo_ok X G (c.fact 4 (f := .glo "_law_hand") rfl)
  have g_law_take := He.glo_ok X G (c.fact 5 (f := .glo "_law_take") rfl)
  have g_law_pick := He.glo_ok X G (c.fact 6 (f := .glo "_law_pick") rfl)
  have g_law_great := He.glo_ok X G (c.fact 7 (f := .glo "_law_great") rfl)
  have g_law_words := He.glo_ok X G (c.fact 8 (f := .glo "_law_words") rfl)
  have g_law_minute := He.glo_ok X G (c.fact 9 (f := .glo "_law_minute") rfl)
  have g_law_layer := He.glo_ok X G (c.fact 10 (f := .glo "_law_layer") rfl)
  have g_law_cuts := He.glo_ok X G (c.fact 11 (f := .glo "_law_cuts") rfl)
  have g_law_drawn := He.glo_ok X G (c.fact 12 (f := .glo "_law_drawn") rfl)
  have g_law_one_turn := He.glo_ok X G (c.fact 13 (f := .glo "_law_one_turn") rfl)
  have g_law := He.glo_ok X G (c.fact 14 (f := .glo "law") rfl)
  have m_enumerate := He.free_ok X G (c.fact 15 (f := .free "enumerate") rfl)
  have m_sorted := He.free_ok X G (c.fact 16 (f := .free "sorted") rfl)
  have m_set := He.free_ok X G (c.fact 17 (f := .free "set") rfl)
  have m_tuple := He.free_ok X G (c.fact 18 (f := .free "tuple") rfl)
  have m_zip := He.free_ok X G (c.fact 19 (f := .free "zip") rfl)
  have m_len := He.free_ok X G (c.fact 20 (f := .free "len") rfl)
  have m_int := He.free_ok X G (c.fact 21 (f := .free "int") rfl)
  have m_range := He.free_ok X G (c.fact 22 (f := .free "range") rfl)
  have m_max := He.free_ok X G (c.fact 23 (f := .free "max") rfl)
  have m_min := He.free_ok X G (c.fact 24 (f := .free "min") rfl)
  have m_repr := He.free_ok X G (c.fact 25 (f := .free "repr") rfl)
  have c_DAY := He.int_ok X G (c.fact 26 (f := .int "DAY" 1440) rfl)
  have e := hfa.symm.trans g_law
  cases e
  have b := FunD.bindsA (ps := ["_law_script"]) F_law fun _ _ _ _ _ _ us hl => match us, hl with | [_], _ => rfl
  refine ⟨fd_law, fun s v => b s [v] rfl, fun base _ _ => ?_⟩
  have h_place_of : Has P w K mg base 1 "place_of" CFTu.S_place_of := has_place_of F_place_of g_place_of c_DAY
  have h_turn_at : Has P w K mg base 2 "turn_at" CFTu.S_turn_at := has_turn_at F_turn_at g_turn_at h_place_of m_enumerate
  have h_cuts_of : Has P w K mg base 1 "cuts_of" CFLo.S_cuts_of := has_cuts_of F_cuts_of g_cuts_of c_DAY m_sorted m_set
  have h_pieces : Has P w K mg base 2 "pieces" S_pieces := has_pieces F_pieces g_pieces h_cuts_of m_tuple m_zip
  have h_law_hand : Has P w K mg base 1 "_law_hand" CFH.S_law_hand := has_law_hand F_law_hand g_law_hand m_len m_int
  have h_law_take : Has P w K mg base 1 "_law_take" CFH.S_law_take := has_law_take F_law_take g_law_take 
  have h_law_pick : Has P w K mg base 2 "_law_pick" CFH.S_law_pick := has_law_pick F_law_pick g_law_pick h_law_take m_len
  have h_law_great : Has P w K mg base 2 "_law_great" CFH.S_law_great := has_law_great F_law_great g_law_great m_range h_law_take
  have h_law_words : Has P w K mg base 3 "_law_words" CFWd.S_law_words := has_law_words F_law_words g_law_words h_law_pick h_law_take m_len m_range
  have h_law_minute : Has P w K mg base 3 "_law_minute" CFLy.S_law_minute := has_law_minute F_law_minute g_law_minute h_law_take h_law_pick
  have h_law_layer : Has P w K mg base 4 "_law_layer" CFLy.S_law_layer := has_law_layer F_law_layer g_law_layer h_law_take h_law_pick m_sorted m_set m_range h_law_minute m_len m_tuple
  have h_law_cuts : Has P w K mg base 1 "_law_cuts" CFLc.S_law_cuts := has_law_cuts F_law_cuts g_law_cuts m_sorted m_set
  have h_law_drawn : Has P w K mg base 5 "_law_drawn" S_law_drawn := has_law_drawn F_law_drawn g_law_drawn h_law_words h_law_pick m_range h_law_take h_law_layer m_tuple
  have h_law_one_turn : Has P w K mg base 3 "_law_one_turn" S_law_one_turn := has_law_one_turn F_law_one_turn g_law_one_turn h_law_pick h_law_great h_law_take h_turn_at
  exact fn_law F_law m_range m_max m_min m_len h_law_hand h_law_drawn h_law_cuts h_pieces m_repr m_tuple h_law_one_turn h_law_pick
end K39
open PySem PySem.W PySem.Calls PyProof.Rows
set_option maxHeartbeats 0 in
theorem PySem.Challenge.cw_calledfirst_k39_pieces_of_the_day_holds : PySem.Challenge.rw_calledfirst_k39_pieces_of_the_day.Holds := by
  w_on; o_law
  refine HandSHeadRun.head_any (r := OpenLaw.row PySem.Challenge.rw_calledfirst_k39_pieces_of_the_day) (q := view (OpenLaw.row PySem.Challenge.rw_calledfirst_k39_pieces_of_the_day).prog [18]) (H := K39.hk) (ob := K39.ob) (M := 1160) (loose := K39.loose) (d := HandSHeadRun.topDef (OpenLaw.row PySem.Challenge.rw_calledfirst_k39_pieces_of_the_day).prog 18) (kwd := []) K39.ob_eq
    (by kernel_rfl) (fun s => by kernel_rfl) K39.run (by kernel_rfl) (by kernel_rfl) (by kernel_rfl) (by rfl) (by first | assumption | decide +kernel) (by decide +kernel) ⟨rfl, rfl, rfl, rfl, rfl, by decide +kernel⟩ ?hw ?hc
  case hw => w_witness2
  case hc =>
    refine DL.walk_dlG (l := PySem.Challenge.rw_calledfirst_k39_pieces_of_the_day) (n := 63) (k := 6) (x := "_law_script") rfl (by decide) (by kernel_rfl) ⟨rfl, by decide, by decide⟩ (S := K39.S_law) ?F K39.law_in
    intro w mg fa h Y G hmg0
    obtain ⟨K, KX, c⟩ := Y
    have hmg : mg ("law" : PySem.Str) = some (.ref fa) := by
      have e : (HandSHeadRun.topDef (OpenLaw.row PySem.Challenge.rw_calledfirst_k39_pieces_of_the_day).prog 18).name = ("law" : PySem.Str) := by kernel_rfl
      rw [← e]
      exact hmg0
    obtain ⟨fd, hb, hF⟩ := K39.facts (P := (PySem.Challenge.rw_calledfirst_k39_pieces_of_the_day).prog) (w := w) KX G hmg c
    exact ⟨K, fd, KX, hb, hF⟩
