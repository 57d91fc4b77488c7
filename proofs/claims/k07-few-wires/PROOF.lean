import PyProof.Rows.All
import Wide.All
import OpenK.AllK
import Wide.FinOn
import HandS.ForMost
import HandS.Evl
import HandS.Defaults
import HandS.HeadHook4
import HandS.TupAny
import HandS.Style
import HandS.IsInst
import HandS.Conv
import HandS.Deep
import HandS.Walk
import HandS.Strs
import KE.GoesMore
import KE.GoesEnum
import PyProof.P3In
import PyProof.ReprRoads
import PyProof.ReprReads
import HandS.TupSets
import HandS.Text
import PySem.Challenge.RW_neverboth_k07_whole_all_functions_of_few
import KE.KExcLine
import HandS.ExcSuper
import HandS.ExcInit
import HandS.ExcOwn
import HandS.ExcField
import HandS.Lambda
import KE.KTupSum
import HandS.EndTab
import HandS.HeadWalk
import HandS.Head0
import HandS.Head1
import HandS.Head2
import HandS.HeadEnd
import HandS.HeadHook1
import HandS.HeadHook2
import HandS.HeadHook3
section
set_option Elab.async false
set_option linter.all false
set_option maxRecDepth 100000
set_option maxHeartbeats 4000000
/-! The calculus: a known heap G within the actual heap H, data in the slots, worlds. -/
namespace Nb
open PySem L2
abbrev Kx := PySem.W.Frag
abbrev Ex := Evl.Ex

/-! ### data -/
/-- data, an object as it is, a Make with its gates -/
inductive Da where
  | d (x : PyData)
  | ob (a : Addr)
  | mk (gs : PyData)

mutual
theorem dp_ex {K : Kx} {G G' : Hp} (e : Ex G G') : ∀ (d : PyData) (v : V), Dp K G v d → Dp K G' v d
  | .none, _, h => by cases h; exact .non
  | .bool b, _, h => by cases h; exact .bl b
  | .int i, _, h => by cases h; exact .int i
  | .str x, _, h => by cases h; exact .str x
  | .list ds, _, h => by
    cases h with
    | lst h1 h2 => exact .lst (Evl.ex_l e h1) (dp_exs e ds _ h2)
  | .tuple ds, _, h => by
    cases h with
    | tup h1 h2 => exact .tup (Evl.ex_t e h1) (dp_exs e ds _ h2)
  | .dict ks, _, h => by cases h
theorem dp_exs {K : Kx} {G G' : Hp} (e : Ex G G') : ∀ (ds : List PyData) (vs : List V), DpAll K G vs ds → DpAll K G' vs ds
  | [], _, h => by cases h; exact .nil
  | d :: ds, _, h => by
    cases h with
    | cons h1 h2 => exact .cons (dp_ex e d _ h1) (dp_exs e ds _ h2)
end

/-- a value is that datum, by the known heap -/
def Dr (K : Kx) (G : Hp) (v : V) : Da → Prop
  | .d x => Dp K G v x
  | .ob a => v = .ref a
  | .mk gs => ∃ x dx u, v = .ref x ∧ G x = some (.ins (He.ga K "Make") dx [("gates", u)]) ∧ Dp K G u gs
theorem Dr.ex {K : Kx} {G G' : Hp} {v : V} {d : Da} (h : Dr K G v d) (e : Ex G G') : Dr K G' v d := by
  cases d with
  | d x => exact dp_ex e x v h
  | ob a => exact h
  | mk gs =>
    obtain ⟨x, dx, u, h1, h2, h3⟩ := h
    exact ⟨x, dx, u, h1, e _ _ h2, dp_ex e gs u h3⟩
abbrev DrAll (K : Kx) (G : Hp) : List V → List Da → Prop := Paired (Dr K G)
theorem DrAll.ex {K : Kx} {G G' : Hp} (e : Ex G G') : ∀ {vs : List V} {ds : List Da}, DrAll K G vs ds → DrAll K G' vs ds
  | _, _, .nil => .nil
  | _, _, .cons h t => .cons (h.ex e) (DrAll.ex e t)
theorem dpAll_get {K : Kx} {G : Hp} : ∀ {vs : List V} {ds : List PyData} {i : Nat} {d : PyData}, DpAll K G vs ds → ds[i]? = some d → ∃ v, vs[i]? = some v ∧ Dp K G v d
  | _, _, i, d, .nil, h => by simp at h
  | v :: vs, x :: ds, 0, d, .cons h1 h2, h => by
    simp at h
    subst h
    exact ⟨v, rfl, h1⟩
  | v :: vs, x :: ds, i + 1, d, .cons h1 h2, h => by
    obtain ⟨u, a, b⟩ := dpAll_get (i := i) h2 (by simpa using h)
    exact ⟨u, by simpa using a, b⟩
theorem dpAll_get' {K : Kx} {G : Hp} : ∀ {vs : List V} {ds : List PyData} {i : Nat} {v : V}, DpAll K G vs ds → vs[i]? = some v → ∃ d, ds[i]? = some d ∧ Dp K G v d
  | _, _, i, d, .nil, h => by simp at h
  | v :: vs, x :: ds, 0, d, .cons h1 h2, h => by
    simp at h
    subst h
    exact ⟨x, rfl, h1⟩
  | v :: vs, x :: ds, i + 1, d, .cons h1 h2, h => by
    obtain ⟨u, a, b⟩ := dpAll_get' (i := i) h2 (by simpa using h)
    exact ⟨u, by simpa using a, b⟩
theorem dpAll_len {K : Kx} {G : Hp} : ∀ {vs : List V} {ds : List PyData}, DpAll K G vs ds → vs.length = ds.length
  | _, _, .nil => rfl
  | _, _, .cons _ t => by simp [dpAll_len t]
theorem dpAll_app {K : Kx} {G : Hp} : ∀ {vs us : List V} {ds es : List PyData}, DpAll K G vs ds → DpAll K G us es → DpAll K G (vs ++ us) (ds ++ es)
  | _, _, _, _, .nil, h => h
  | _, _, _, _, .cons a t, h => .cons a (dpAll_app t h)
theorem dpAll_one {K : Kx} {G : Hp} {v : V} {d : PyData} (h : Dp K G v d) : DpAll K G [v] [d] := .cons h .nil
theorem dpAll_rev {K : Kx} {G : Hp} : ∀ {vs : List V} {ds : List PyData}, DpAll K G vs ds → DpAll K G vs.reverse ds.reverse
  | _, _, .nil => .nil
  | v :: vs, d :: ds, .cons a t => by
    rw [List.reverse_cons, List.reverse_cons]
    exact dpAll_app (dpAll_rev t) (dpAll_one a)
theorem dpAll_drop {K : Kx} {G : Hp} : ∀ {vs : List V} {ds : List PyData} (n : Nat), DpAll K G vs ds → DpAll K G (vs.drop n) (ds.drop n)
  | _, _, 0, h => h
  | _, _, _ + 1, .nil => .nil
  | _, _, n + 1, .cons _ t => dpAll_drop n t
theorem dpAll_take {K : Kx} {G : Hp} : ∀ {vs : List V} {ds : List PyData} (n : Nat), DpAll K G vs ds → DpAll K G (vs.take n) (ds.take n)
  | _, _, 0, _ => .nil
  | _, _, _ + 1, .nil => .nil
  | _, _, n + 1, .cons a t => .cons a (dpAll_take n t)
theorem dpAll_ints {K : Kx} {G : Hp} : ∀ ns : List Int, DpAll K G (ns.map V.int) (ns.map PyData.int)
  | [] => .nil
  | n :: ns => .cons (.int n) (dpAll_ints ns)
theorem ints_dpAll {K : Kx} {G : Hp} : ∀ {ns : List Int} {vs : List V}, DpAll K G vs (ns.map PyData.int) → vs = ns.map V.int
  | [], _, h => by cases h; rfl
  | n :: ns, _, h => by
    cases h with
    | cons h1 h2 =>
      cases h1
      rw [ints_dpAll h2]
      rfl
theorem bls_dpAll {K : Kx} {G : Hp} : ∀ {ns : List Bool} {vs : List V}, DpAll K G vs (ns.map PyData.bool) → vs = ns.map V.bl
  | [], _, h => by cases h; rfl
  | n :: ns, _, h => by
    cases h with
    | cons h1 h2 =>
      cases h1
      rw [bls_dpAll h2]
      rfl

/-! ### worlds -/
/-- a hidden cell: what stands there, or a list of such data -/
inductive Ce where
  | raw (o : HO)
  | lst (ys : List PyData)
def CeAt (K : Kx) (G H : Hp) (p : Addr) : Ce → Prop
  | .raw o => H p = some o
  | .lst ys => ∃ acc, H p = some (.lst acc) ∧ DpAll K G acc ys
/-- the drawing state: its list, the list of cells in it; what they hold, if it is told -/
structure Rn where
  h : Addr
  l : Addr
  kn : Option (Int × List Int)
/-- fix: cells of the actual heap that the known heap does not hold, and what stands there; rnd: the drawing state (its list, the list of cells in it) -/
structure Wd where
  fix : List (Addr × Ce)
  rnd : Option Rn
def RandAt (r : Rn) (H : Hp) : Prop := ∃ (z : Int) (cs : List Int), H r.h = some (.lst [.ref r.l, .int z]) ∧ H r.l = some (.lst (cs.map V.int)) ∧ (∀ k, r.kn = some k → k = (z, cs)) ∧ 0 ≤ z ∧ z < 2147483647 ∧ (∀ c ∈ cs, 0 ≤ c) ∧ cs.length ≤ 63
structure At (K : Kx) (w : Wd) (G H : Hp) : Prop where
  ex : Ex G H
  hid : ∀ p ∈ w.fix, G p.1 = none ∧ CeAt K G H p.1 p.2
  nd : (w.fix.map (·.1)).Nodup
  rn : ∀ q, w.rnd = some q → G q.h = none ∧ G q.l = none ∧ q.h ≠ q.l ∧ q.h ∉ w.fix.map (·.1) ∧ q.l ∉ w.fix.map (·.1) ∧ RandAt q H
abbrev Wd.add (w : Wd) (p : Addr) (o : Ce) : Wd := ⟨(p, o) :: w.fix, w.rnd⟩
theorem RandAt.keep {q : Rn} {H H' : Hp} (r : RandAt q H) (h1 : H' q.h = H q.h) (h2 : H' q.l = H q.l) : RandAt q H' := by
  obtain ⟨z, cs, a, b, c⟩ := r
  exact ⟨z, cs, h1.trans a, h2.trans b, c⟩
theorem RandAt.some {q : Rn} {H : Hp} (r : RandAt q H) : H q.h ≠ none ∧ H q.l ≠ none := by
  obtain ⟨z, cs, a, b, c⟩ := r
  exact ⟨by rw [a]; simp, by rw [b]; simp⟩
section
variable {K : Kx} {w : Wd} {G G' H H' : Hp} {p : Addr} {o : HO} {c c' : Ce}
theorem CeAt.some (h : CeAt K G H p c) : H p ≠ none := by
  cases c with
  | raw o => rw [show H p = some o from h]; simp
  | lst ys =>
    obtain ⟨acc, h, _⟩ := h
    rw [h]
    simp
theorem CeAt.keep (h : CeAt K G H p c) (e : Ex G G') (k : H' p = H p) : CeAt K G' H' p c := by
  cases c with
  | raw o => exact k.trans h
  | lst ys =>
    obtain ⟨acc, h1, h2⟩ := h
    exact ⟨acc, k.trans h1, dp_exs e _ _ h2⟩
/-- no hidden cell is at a free place -/
theorem At.out (a : At K w G H) (h : H p = none) : p ∉ w.fix.map (·.1) := fun z => by
  obtain ⟨q, hq, e⟩ := List.mem_map.mp z
  exact (a.hid q hq).2.some (by rw [e]; exact h)
theorem At.outR (a : At K w G H) (h : H p = none) {q : Rn} (hq : w.rnd = some q) : p ≠ q.h ∧ p ≠ q.l := by
  obtain ⟨_, _, _, _, _, r⟩ := a.rn q hq
  refine ⟨fun e => ?_, fun e => ?_⟩
  · exact r.some.1 (e ▸ h)
  · exact r.some.2 (e ▸ h)
theorem At.freeG (a : At K w G H) (h : H p = none) : G p = none := Evl.fresh_back a.ex h
/-- a new object, known -/
theorem At.new (a : At K w G H) (h : H p = none) : At K w (upd G p o) (upd H p o) := by
  have eg : Ex G (upd G p o) := Evl.Ex.new (a.freeG h)
  refine ⟨fun b u e => ?_, fun q hq => ?_, a.nd, fun q hq => ?_⟩
  · by_cases hb : b = p
    · subst hb
      rw [upd_same] at e ⊢
      exact e
    · rw [upd_ne hb] at e ⊢
      exact a.ex b u e
  · have n : q.1 ≠ p := fun e => a.out h (List.mem_map.mpr ⟨q, hq, e⟩)
    obtain ⟨h1, h2⟩ := a.hid q hq
    exact ⟨by rw [upd_ne n]; exact h1, h2.keep eg (upd_ne n)⟩
  · obtain ⟨g1, g2, g3, g4, g5, r⟩ := a.rn q hq
    obtain ⟨n1, n2⟩ := a.outR h hq
    refine ⟨by rw [upd_ne n1.symm]; exact g1, by rw [upd_ne n2.symm]; exact g2, g3, g4, g5, r.keep (upd_ne n1.symm) (upd_ne n2.symm)⟩
/-- a new object, hidden -/
theorem At.push (a : At K w G H) (h : H p = none) (hc : CeAt K G (upd H p o) p c) : At K (w.add p c) G (upd H p o) := by
  refine ⟨fun b u e => ?_, fun q hq => ?_, ?_, fun q hq => ?_⟩
  · rw [upd_ne (ne_of_none e (a.freeG h))]
    exact a.ex b u e
  · rcases List.mem_cons.mp hq with e | hq
    · subst e
      exact ⟨a.freeG h, hc⟩
    · have n : q.1 ≠ p := fun e => a.out h (List.mem_map.mpr ⟨q, hq, e⟩)
      obtain ⟨h1, h2⟩ := a.hid q hq
      exact ⟨h1, h2.keep (Evl.Ex.refl G) (upd_ne n)⟩
  · exact List.nodup_cons.mpr ⟨a.out h, a.nd⟩
  · obtain ⟨g1, g2, g3, g4, g5, r⟩ := a.rn q hq
    obtain ⟨n1, n2⟩ := a.outR h hq
    refine ⟨g1, g2, g3, fun z => ?_, fun z => ?_, r.keep (upd_ne n1.symm) (upd_ne n2.symm)⟩
    · rcases List.mem_cons.mp z with e | z
      · exact n1 e.symm
      · exact g4 z
    · rcases List.mem_cons.mp z with e | z
      · exact n2 e.symm
      · exact g5 z
theorem At.top (a : At K (w.add p c) G H) : CeAt K G H p c := (a.hid _ List.mem_cons_self).2
theorem At.topG (a : At K (w.add p c) G H) : G p = none := (a.hid _ List.mem_cons_self).1
theorem At.pop (a : At K (w.add p c) G H) : At K w G H :=
  ⟨a.ex, fun q hq => a.hid q (List.mem_cons_of_mem _ hq), (List.nodup_cons.mp a.nd).2, fun q hq => by
    obtain ⟨g1, g2, g3, g4, g5, r⟩ := a.rn q hq
    exact ⟨g1, g2, g3, fun z => g4 (List.mem_cons_of_mem _ z), fun z => g5 (List.mem_cons_of_mem _ z), r⟩⟩
theorem At.topOut (a : At K (w.add p c) G H) : p ∉ w.fix.map (·.1) := (List.nodup_cons.mp a.nd).1
theorem At.topR (a : At K (w.add p c) G H) {q : Rn} (hq : w.rnd = some q) : p ≠ q.h ∧ p ≠ q.l := by
  obtain ⟨g1, g2, g3, g4, g5, r⟩ := a.rn q hq
  exact ⟨fun e => g4 (e ▸ List.mem_cons_self), fun e => g5 (e ▸ List.mem_cons_self)⟩
/-- the top hidden cell is written -/
theorem At.set (a : At K (w.add p c) G H) (hc : CeAt K G (upd H p o) p c') : At K (w.add p c') G (upd H p o) := by
  refine ⟨fun b u e => ?_, fun q hq => ?_, a.nd, fun q hq => ?_⟩
  · rw [upd_ne (ne_of_none e a.topG)]
    exact a.ex b u e
  · rcases List.mem_cons.mp hq with e | hq
    · subst e
      exact ⟨a.topG, hc⟩
    · have n : q.1 ≠ p := fun e => a.topOut (List.mem_map.mpr ⟨q, hq, e⟩)
      obtain ⟨h1, h2⟩ := a.hid q (List.mem_cons_of_mem _ hq)
      exact ⟨h1, h2.keep (Evl.Ex.refl G) (upd_ne n)⟩
  · obtain ⟨g1, g2, g3, g4, g5, r⟩ := a.rn q hq
    obtain ⟨n1, n2⟩ := a.topR hq
    exact ⟨g1, g2, g3, g4, g5, r.keep (upd_ne n1.symm) (upd_ne n2.symm)⟩
/-- the top hidden cell becomes known (it is not written any more) -/
theorem At.freeze (a : At K (w.add p c) G H) (ho : H p = some o) : At K w (upd G p o) H := by
  have eg : Ex G (upd G p o) := Evl.Ex.new a.topG
  refine ⟨fun b u e => ?_, fun q hq => ?_, a.pop.nd, fun q hq => ?_⟩
  · by_cases hb : b = p
    · subst hb
      rw [upd_same] at e
      rw [ho, ← e]
    · rw [upd_ne hb] at e
      exact a.ex b u e
  · have n : q.1 ≠ p := fun e => a.topOut (List.mem_map.mpr ⟨q, hq, e⟩)
    obtain ⟨h1, h2⟩ := a.pop.hid q hq
    exact ⟨by rw [upd_ne n]; exact h1, h2.keep eg rfl⟩
  · obtain ⟨g1, g2, g3, g4, g5, r⟩ := a.pop.rn q hq
    obtain ⟨n1, n2⟩ := a.topR hq
    exact ⟨by rw [upd_ne n1.symm]; exact g1, by rw [upd_ne n2.symm]; exact g2, g3, g4, g5, r⟩
theorem ex_upd (h : G p = none) : Ex G (upd G p o) := Evl.Ex.new h
/-- the drawing state is written -/
theorem At.rset {q q' : Rn} (a : At K w G H) (hw : w.rnd = some q) (e1 : q'.h = q.h) (e2 : q'.l = q.l) (k : ∀ b, b ≠ q.h → b ≠ q.l → H' b = H b) (r : RandAt q' H') : At K ⟨w.fix, some q'⟩ G H' := by
  obtain ⟨g1, g2, g3, g4, g5, _⟩ := a.rn _ hw
  refine ⟨fun b u e => ?_, fun p hp => ?_, a.nd, fun p hp => ?_⟩
  · rw [k b (ne_of_none e g1) (ne_of_none e g2)]
    exact a.ex b u e
  · have n1 : p.1 ≠ q.h := fun e => g4 (List.mem_map.mpr ⟨p, hp, e⟩)
    have n2 : p.1 ≠ q.l := fun e => g5 (List.mem_map.mpr ⟨p, hp, e⟩)
    obtain ⟨h1, h2⟩ := a.hid p hp
    exact ⟨h1, h2.keep (Evl.Ex.refl G) (k _ n1 n2)⟩
  · cases hp
    rw [e1, e2]
    exact ⟨g1, g2, g3, g4, g5, r⟩
end

/-! ### slots -/
abbrev Ds := List (Option Da)
structure Sl (K : Kx) (G : Hp) (σ : L2.St) (δ : Ds) : Prop where
  len : σ.length = δ.length
  at_ : ∀ (i : Nat) (d : Da), δ[i]? = some (some d) → ∃ v, σ[i]? = some (some v) ∧ Dr K G v d
theorem Sl.ex {K : Kx} {G G' : Hp} {σ : L2.St} {δ : Ds} (s : Sl K G σ δ) (e : Ex G G') : Sl K G' σ δ :=
  ⟨s.len, fun i d h => let ⟨v, a, b⟩ := s.at_ i d h; ⟨v, a, b.ex e⟩⟩
theorem Sl.set {K : Kx} {G : Hp} {σ : L2.St} {δ : Ds} {v : V} {d : Da} (s : Sl K G σ δ) (i : Nat) (r : Dr K G v d) : Sl K G (σ.set i (some v)) (δ.set i (some d)) := by
  refine ⟨by simp [s.len], fun j e h => ?_⟩
  by_cases hj : i = j
  · subst hj
    by_cases hl : i < δ.length
    · rw [List.getElem?_set_self hl] at h
      cases h
      exact ⟨v, List.getElem?_set_self (by rw [s.len]; exact hl), r⟩
    · rw [List.getElem?_eq_none (by simpa using hl)] at h
      cases h
  · rw [List.getElem?_set_ne hj] at h ⊢
    exact s.at_ j e h
theorem Sl.setN {K : Kx} {G : Hp} {σ : L2.St} {δ : Ds} {o : Option V} (s : Sl K G σ δ) (i : Nat) : Sl K G (σ.set i o) (δ.set i none) := by
  refine ⟨by simp [s.len], fun j e h => ?_⟩
  by_cases hj : i = j
  · subst hj
    by_cases hl : i < δ.length
    · rw [List.getElem?_set_self hl] at h
      cases h
    · rw [List.getElem?_eq_none (by simpa using hl)] at h
      cases h
  · rw [List.getElem?_set_ne hj] at h ⊢
    exact s.at_ j e h
def wipeD (δ : Ds) : List Nat → Ds
  | [] => δ
  | v :: vs => (wipeD δ vs).set v none
theorem Sl.wipe {K : Kx} {G : Hp} {σ : L2.St} {δ : Ds} (s : Sl K G σ δ) : ∀ vs : List Nat, Sl K G (L2.wipe σ vs) (wipeD δ vs)
  | [] => s
  | v :: vs => (Sl.wipe s vs).setN v
def startD (N : List Str) (ds : List Da) : Ds := ds.map some ++ List.replicate (N.length - ds.length) none
theorem sl_start {K : Kx} {G : Hp} {N : List Str} {vs : List V} {ds : List Da} (h : DrAll K G vs ds) : Sl K G (L2.start N vs) (startD N ds) := by
  have hl := Paired.length h
  refine ⟨by simp [L2.start, startD, hl], fun i d e => ?_⟩
  unfold startD at e
  unfold L2.start
  by_cases hi : i < ds.length
  · rw [List.getElem?_append_left (by simpa using hi)] at e
    rw [List.getElem?_append_left (by simpa [hl] using hi)]
    clear hi hl
    induction h generalizing i with
    | nil => simp at e
    | cons r t ih =>
      cases i with
      | zero =>
        simp at e
        subst e
        exact ⟨_, rfl, r⟩
      | succ i =>
        obtain ⟨v, a, b⟩ := ih i (by simpa using e)
        exact ⟨v, by simpa using a, b⟩
  · rw [List.getElem?_append_right (by simpa using hi)] at e
    rw [List.getElem?_replicate] at e
    split at e <;> cases e

/-! ### what evaluates to what -/
def Ev (K : Kx) (w : Wd) (te : TE) (δ : Ds) (R : Da → Prop) : Prop :=
  ∀ σ G H, Sl K G σ δ → At K w G H → ∀ Q : VK, (∀ v G2 H2 d, Ex G G2 → At K w G2 H2 → Dr K G2 v d → R d → Q v H2) → te σ H Q
abbrev Ev1 (K : Kx) (w : Wd) (te : TE) (δ : Ds) (d : Da) : Prop := Ev K w te δ (fun x => x = d)
def EvT (K : Kx) (w : Wd) (tt : TT) (δ : Ds) (R : Bool → Prop) : Prop :=
  ∀ σ G H, Sl K G σ δ → At K w G H → ∀ Q : Bool → Hp → Prop, (∀ b G2 H2, Ex G G2 → At K w G2 H2 → R b → Q b H2) → tt σ H Q
abbrev EvT1 (K : Kx) (w : Wd) (tt : TT) (δ : Ds) (b : Bool) : Prop := EvT K w tt δ (fun x => x = b)
def EvA (K : Kx) (w : Wd) (ta : TA) (δ : Ds) (R : List Da → Prop) : Prop :=
  ∀ σ G H, Sl K G σ δ → At K w G H → ∀ Q : List V → Hp → Prop, (∀ vs G2 H2 ds, Ex G G2 → At K w G2 H2 → DrAll K G2 vs ds → R ds → Q vs H2) → ta σ H Q
abbrev EvA1 (K : Kx) (w : Wd) (ta : TA) (δ : Ds) (ds : List Da) : Prop := EvA K w ta δ (fun x => x = ds)
def Run (K : Kx) (b : Hp) (w : Wd) (D : Ends) (ts : TS) (δ : Ds) : Prop :=
  ∀ σ G H, Ex b G → Sl K G σ δ → At K w G H → ts D σ H
/-- what is wanted at a return -/
def RetO (K : Kx) (b : Hp) (w : Wd) (D : Ends) (R : Da → Prop) : Prop :=
  ∀ v G H d, Ex b G → At K w G H → Dr K G v d → R d → D.rt v H
theorem RetO.mono {K : Kx} {b b' : Hp} {w : Wd} {D : Ends} {R : Da → Prop} (h : RetO K b w D R) (e : Ex b b') : RetO K b' w D R :=
  fun v G H d e2 => h v G H d (Evl.Ex.trans e e2)
/-- what a turn (or a branch) is to reach -/
def Nx (K : Kx) (b : Hp) (J : Wd → Ds → Prop) : L2.St → Hp → Prop := fun σ H => ∃ w δ G, Ex b G ∧ J w δ ∧ Sl K G σ δ ∧ At K w G H

section
variable {K : Kx} {w : Wd} {te ta tb : TE} {tt tu : TT} {δ : Ds} {R R' S : Da → Prop} {d d' : Da} {B B' : Bool → Prop} {b : Bool}
theorem Ev.imp (h : Ev K w te δ R) (k : ∀ d, R d → R' d) : Ev K w te δ R' := fun σ G H s a Q q => h σ G H s a Q fun v G2 H2 d e a2 r hr => q v G2 H2 d e a2 r (k d hr)
theorem Ev.is (h : Ev1 K w te δ d) (e : d = d') : Ev1 K w te δ d' := by
  subst e
  exact h
theorem EvT.imp (h : EvT K w tt δ B) (k : ∀ d, B d → B' d) : EvT K w tt δ B' := fun σ G H s a Q q => h σ G H s a Q fun b G2 H2 e a2 hr => q b G2 H2 e a2 (k b hr)
theorem EvT.is {b' : Bool} (h : EvT1 K w tt δ b) (e : b = b') : EvT1 K w tt δ b' := by
  subst e
  exact h
theorem ev_var {i : Nat} (h : δ[i]? = some (some d)) : Ev1 K w (tVar i) δ d := fun σ G H s a Q q => by
  obtain ⟨v, e, r⟩ := s.at_ i d h
  exact ⟨v, e, q v G H d (Evl.Ex.refl G) a r rfl⟩
/-- a constant -/
theorem ev_c {v : V} {x : PyData} (h : ∀ G, Dp K G v x) : Ev1 K w (tC v) δ (.d x) := fun σ G H s a Q q => q v G H (.d x) (Evl.Ex.refl G) a (h G) rfl
theorem ev_int {i : Int} : Ev1 K w (tC (.int i)) δ (.d (.int i)) := ev_c fun _ => .int i
theorem ev_str {x : Str} : Ev1 K w (tC (.str x)) δ (.d (.str x)) := ev_c fun _ => .str x
theorem ev_bl {x : Bool} : Ev1 K w (tC (.bl x)) δ (.d (.bool x)) := ev_c fun _ => .bl x
theorem ev_non : Ev1 K w (tC .non) δ (.d .none) := ev_c fun _ => .non
/-- a two-place operation on data -/
def OpD (K : Kx) (w : Wd) (r : R2) (x y : Da) (R : Da → Prop) : Prop :=
  ∀ v u G H, Dr K G v x → Dr K G u y → At K w G H → ∀ Q : VK, (∀ z G2 H2 d, Ex G G2 → At K w G2 H2 → Dr K G2 z d → R d → Q z H2) → r v u H Q
theorem ev_op {r : R2} (ha : Ev K w ta δ R) (hb : Ev K w tb δ R') (ho : ∀ x y, R x → R' y → OpD K w r x y S) : Ev K w (tOp r ta tb) δ S := fun σ G H s a Q q =>
  ha σ G H s a _ fun v G1 H1 x e1 a1 r1 h1 => hb σ G1 H1 (s.ex e1) a1 _ fun u G2 H2 y e2 a2 r2 h2 =>
    ho x y h1 h2 v u G2 H2 (r1.ex e2) r2 a2 Q fun z G3 H3 d e3 a3 r3 h3 => q z G3 H3 d (Evl.Ex.trans (Evl.Ex.trans e1 e2) e3) a3 r3 h3
theorem ev_op1 {r : R2} {x y : Da} (ha : Ev1 K w ta δ x) (hb : Ev1 K w tb δ y) (ho : OpD K w r x y S) : Ev K w (tOp r ta tb) δ S :=
  ev_op ha hb fun x' y' e1 e2 => by
    subst e1 e2
    exact ho
/-- a one-place operation on data -/
def UnD (K : Kx) (w : Wd) (r : V → Hp → VK → Prop) (x : Da) (R : Da → Prop) : Prop :=
  ∀ v G H, Dr K G v x → At K w G H → ∀ Q : VK, (∀ z G2 H2 d, Ex G G2 → At K w G2 H2 → Dr K G2 z d → R d → Q z H2) → r v H Q
theorem ev_un {r : V → Hp → VK → Prop} (ha : Ev K w ta δ R) (ho : ∀ x, R x → UnD K w r x S) : Ev K w (tUn r ta) δ S := fun σ G H s a Q q =>
  ha σ G H s a _ fun v G1 H1 x e1 a1 r1 h1 => ho x h1 v G1 H1 r1 a1 Q fun z G3 H3 d e3 a3 r3 h3 => q z G3 H3 d (Evl.Ex.trans e1 e3) a3 r3 h3
theorem odI {C : Int → Int → Prop} {g : Int → Int → V} {x : PyData} {i j : Int} (hc : C i j) (hg : ∀ G, Dp K G (g i j) x) : OpD K w (rI C g) (.d (.int i)) (.d (.int j)) (fun z => z = .d x) := fun v u G H hv hu a Q q => by
  cases (show Dp K G v (.int i) from hv)
  cases (show Dp K G u (.int j) from hu)
  exact ⟨i, j, rfl, rfl, hc, q _ G H (.d x) (Evl.Ex.refl G) a (hg G) rfl⟩
theorem odI0 {g : Int → Int → V} {x : PyData} {i j : Int} (hg : ∀ G, Dp K G (g i j) x) : OpD K w (rI0 g) (.d (.int i)) (.d (.int j)) (fun z => z = .d x) := fun v u G H hv hu a Q q => by
  cases (show Dp K G v (.int i) from hv)
  cases (show Dp K G u (.int j) from hu)
  exact ⟨i, j, rfl, rfl, q _ G H (.d x) (Evl.Ex.refl G) a (hg G) rfl⟩
variable {i j : Int}
theorem ev_ii {f : Int → Int → Int} (ha : Ev1 K w ta δ (.d (.int i))) (hb : Ev1 K w tb δ (.d (.int j))) : Ev1 K w (tOp (rI0 fun i j => .int (f i j)) ta tb) δ (.d (.int (f i j))) := ev_op1 ha hb (odI0 fun _ => .int _)
theorem ev_iiC {C : Int → Int → Prop} {f : Int → Int → Int} (ha : Ev1 K w ta δ (.d (.int i))) (hb : Ev1 K w tb δ (.d (.int j))) (hc : C i j) : Ev1 K w (tOp (rI C fun i j => .int (f i j)) ta tb) δ (.d (.int (f i j))) := ev_op1 ha hb (odI hc fun _ => .int _)
theorem ev_ib {f : Int → Int → Bool} (ha : Ev1 K w ta δ (.d (.int i))) (hb : Ev1 K w tb δ (.d (.int j))) : Ev1 K w (tOp (rI0 fun i j => .bl (f i j)) ta tb) δ (.d (.bool (f i j))) := ev_op1 ha hb (odI0 fun _ => .bl _)
theorem ev_neg (ha : Ev1 K w ta δ (.d (.int i))) : Ev1 K w (tUn (rU fun i => .int (-i)) ta) δ (.d (.int (-i))) := ev_un ha fun x e => by
  subst e
  intro v G H hv a Q q
  cases (show Dp K G v (.int i) from hv)
  exact ⟨i, rfl, q _ G H (.d (.int (-i))) (Evl.Ex.refl G) a (Dp.int (-i)) rfl⟩
/-- == of scalars -/
theorem od_eqI : OpD K w rEq (.d (.int i)) (.d (.int j)) (fun z => z = .d (.bool (decide (i = j)))) := fun v u G H hv hu a Q q => by
  cases (show Dp K G v (.int i) from hv)
  cases (show Dp K G u (.int j) from hu)
  refine ⟨rfl, q _ G H (.d (.bool (decide (i = j)))) (Evl.Ex.refl G) a (show Dp K G _ (.bool (decide (i = j))) from ?_) rfl⟩
  rw [dec_int, Bool.beq_eq_decide_eq]
  exact .bl _
theorem od_neI : OpD K w rNe (.d (.int i)) (.d (.int j)) (fun z => z = .d (.bool (!decide (i = j)))) := fun v u G H hv hu a Q q => by
  cases (show Dp K G v (.int i) from hv)
  cases (show Dp K G u (.int j) from hu)
  refine ⟨rfl, q _ G H (.d (.bool (!decide (i = j)))) (Evl.Ex.refl G) a (show Dp K G _ (.bool (!decide (i = j))) from ?_) rfl⟩
  rw [dec_int, Bool.beq_eq_decide_eq]
  exact .bl _
theorem ev_eqI (ha : Ev1 K w ta δ (.d (.int i))) (hb : Ev1 K w tb δ (.d (.int j))) : Ev1 K w (tOp rEq ta tb) δ (.d (.bool (decide (i = j)))) := ev_op1 ha hb od_eqI
theorem ev_neI (ha : Ev1 K w ta δ (.d (.int i))) (hb : Ev1 K w tb δ (.d (.int j))) : Ev1 K w (tOp rNe ta tb) δ (.d (.bool (!decide (i = j)))) := ev_op1 ha hb od_neI
theorem ev_eqS {x y : Str} (ha : Ev1 K w ta δ (.d (.str x))) (hb : Ev1 K w tb δ (.d (.str y))) : Ev1 K w (tOp rEq ta tb) δ (.d (.bool (decide (x = y)))) := ev_op1 ha hb fun v u G H hv hu a Q q => by
  cases (show Dp K G v (.str x) from hv)
  cases (show Dp K G u (.str y) from hu)
  refine ⟨rfl, q _ G H (.d (.bool (decide (x = y)))) (Evl.Ex.refl G) a (show Dp K G _ (.bool (decide (x = y))) from ?_) rfl⟩
  rw [dec_str, Bool.beq_eq_decide_eq]
  exact .bl _
theorem ev_neS {x y : Str} (ha : Ev1 K w ta δ (.d (.str x))) (hb : Ev1 K w tb δ (.d (.str y))) : Ev1 K w (tOp rNe ta tb) δ (.d (.bool (!decide (x = y)))) := ev_op1 ha hb fun v u G H hv hu a Q q => by
  cases (show Dp K G v (.str x) from hv)
  cases (show Dp K G u (.str y) from hu)
  refine ⟨rfl, q _ G H (.d (.bool (!decide (x = y)))) (Evl.Ex.refl G) a (show Dp K G _ (.bool (!decide (x = y))) from ?_) rfl⟩
  rw [dec_str, Bool.beq_eq_decide_eq]
  exact .bl _
/-! tests -/
theorem et_test (h : Ev K w te δ R) (k : ∀ d, R d → ∃ b, d = .d (.bool b) ∧ B b) : EvT K w (tTest te) δ B := fun σ G H s a Q q => h σ G H s a _ fun v G2 H2 d e a2 r hr => by
  obtain ⟨b, e1, hb⟩ := k d hr
  subst e1
  cases (show Dp K G2 v (.bool b) from r)
  exact ⟨b, rfl, q b G2 H2 e a2 hb⟩
theorem et_test1 (h : Ev1 K w te δ (.d (.bool b))) : EvT1 K w (tTest te) δ b := et_test h fun d e => ⟨b, e, rfl⟩
theorem et_B (h : Ev K w te δ R) (k : ∀ d, R d → ∃ b, d = .d (.bool b) ∧ B b) : EvT K w (tB te) δ B := fun σ G H s a Q q => h σ G H s a _ fun v G2 H2 d e a2 r hr => by
  obtain ⟨b, e1, hb⟩ := k d hr
  subst e1
  cases (show Dp K G2 v (.bool b) from r)
  exact ⟨b, rfl, q b G2 H2 e a2 hb⟩
theorem et_B1 (h : Ev1 K w te δ (.d (.bool b))) : EvT1 K w (tB te) δ b := et_B h fun d e => ⟨b, e, rfl⟩
theorem et_yes : EvT1 K w tYes δ true := fun σ G H s a Q q => q true G H (Evl.Ex.refl G) a rfl
theorem et_not (h : EvT1 K w tt δ b) : EvT1 K w (tNot tt) δ (!b) := fun σ G H s a Q q => h σ G H s a _ fun c G2 H2 e a2 hc => q (!c) G2 H2 e a2 (by rw [hc])
theorem et_and {c : Bool} (h : EvT1 K w tt δ b) (h2 : b = true → EvT1 K w tu δ c) : EvT1 K w (tAnd tt tu) δ (b && c) := fun σ G H s a Q q => h σ G H s a _ fun x G2 H2 e a2 hx => by
  subst hx
  cases x with
  | true => exact h2 rfl σ G2 H2 (s.ex e) a2 Q fun y G3 H3 e3 a3 hy => q y G3 H3 (Evl.Ex.trans e e3) a3 (by rw [hy]; rfl)
  | false => exact q false G2 H2 e a2 rfl
theorem et_or {c : Bool} (h : EvT1 K w tt δ b) (h2 : b = false → EvT1 K w tu δ c) : EvT1 K w (tOr tt tu) δ (b || c) := fun σ G H s a Q q => h σ G H s a _ fun x G2 H2 e a2 hx => by
  subst hx
  cases x with
  | false => exact h2 rfl σ G2 H2 (s.ex e) a2 Q fun y G3 H3 e3 a3 hy => q y G3 H3 (Evl.Ex.trans e e3) a3 (by rw [hy]; rfl)
  | true => exact q true G2 H2 e a2 rfl
theorem et_andN (h : EvT K w tt δ B) (h2 : B true → EvT K w tu δ B') (hf : B false → B' false) : EvT K w (tAnd tt tu) δ B' := fun σ G H s a Q q => h σ G H s a _ fun x G2 H2 e a2 hx => by
  cases x with
  | true => exact h2 hx σ G2 H2 (s.ex e) a2 Q fun y G3 H3 e3 a3 hy => q y G3 H3 (Evl.Ex.trans e e3) a3 hy
  | false => exact q false G2 H2 e a2 (hf hx)
theorem et_orN (h : EvT K w tt δ B) (h2 : B false → EvT K w tu δ B') (hf : B true → B' true) : EvT K w (tOr tt tu) δ B' := fun σ G H s a Q q => h σ G H s a _ fun x G2 H2 e a2 hx => by
  cases x with
  | false => exact h2 hx σ G2 H2 (s.ex e) a2 Q fun y G3 H3 e3 a3 hy => q y G3 H3 (Evl.Ex.trans e e3) a3 hy
  | true => exact q true G2 H2 e a2 (hf hx)
theorem ev_andV {c : Bool} (h : Ev1 K w ta δ (.d (.bool b))) (h2 : b = true → Ev1 K w tb δ (.d (.bool c))) : Ev1 K w (tAndV ta tb) δ (.d (.bool (b && c))) := fun σ G H s a Q q => h σ G H s a _ fun v G2 H2 d e a2 r hr => by
  subst hr
  cases (show Dp K G2 v (.bool b) from r)
  refine ⟨b, rfl, ?_⟩
  cases b with
  | true => exact h2 rfl σ G2 H2 (s.ex e) a2 Q fun y G3 H3 d3 e3 a3 r3 hy => q y G3 H3 d3 (Evl.Ex.trans e e3) a3 r3 (by rw [hy]; rfl)
  | false => exact q _ G2 H2 (.d (.bool false)) e a2 (Dp.bl false) rfl
theorem ev_orV {c : Bool} (h : Ev1 K w ta δ (.d (.bool b))) (h2 : b = false → Ev1 K w tb δ (.d (.bool c))) : Ev1 K w (tOrV ta tb) δ (.d (.bool (b || c))) := fun σ G H s a Q q => h σ G H s a _ fun v G2 H2 d e a2 r hr => by
  subst hr
  cases (show Dp K G2 v (.bool b) from r)
  refine ⟨b, rfl, ?_⟩
  cases b with
  | false => exact h2 rfl σ G2 H2 (s.ex e) a2 Q fun y G3 H3 d3 e3 a3 r3 hy => q y G3 H3 d3 (Evl.Ex.trans e e3) a3 r3 (by rw [hy]; rfl)
  | true => exact q _ G2 H2 (.d (.bool true)) e a2 (Dp.bl true) rfl
theorem ev_notV (h : Ev1 K w ta δ (.d (.bool b))) : Ev1 K w (tNotV ta) δ (.d (.bool (!b))) := fun σ G H s a Q q => h σ G H s a _ fun v G2 H2 d e a2 r hr => by
  subst hr
  cases (show Dp K G2 v (.bool b) from r)
  exact ⟨b, rfl, q _ G2 H2 (.d (.bool (!b))) e a2 (Dp.bl (!b)) rfl⟩
theorem ev_if (h : EvT K w tt δ B) (h1 : B true → Ev K w ta δ R) (h2 : B false → Ev K w tb δ R) : Ev K w (tIf tt ta tb) δ R := fun σ G H s a Q q => h σ G H s a _ fun x G2 H2 e a2 hx => by
  cases x with
  | true => exact h1 hx σ G2 H2 (s.ex e) a2 Q fun y G3 H3 d3 e3 a3 r3 hy => q y G3 H3 d3 (Evl.Ex.trans e e3) a3 r3 hy
  | false => exact h2 hx σ G2 H2 (s.ex e) a2 Q fun y G3 H3 d3 e3 a3 r3 hy => q y G3 H3 d3 (Evl.Ex.trans e e3) a3 r3 hy
/-! argument lists, displays -/
theorem ea_nil : EvA1 K w tNil δ [] := fun σ G H s a Q q => q [] G H [] (Evl.Ex.refl G) a .nil rfl
theorem ea_consN {tr : TA} {L L' : List Da → Prop} (h : Ev K w te δ R) (hr : EvA K w tr δ L) (k : ∀ x r, R x → L r → L' (x :: r)) : EvA K w (tCons te tr) δ L' := fun σ G H s a Q q =>
  h σ G H s a _ fun v G1 H1 x e1 a1 r1 h1 => hr σ G1 H1 (s.ex e1) a1 _ fun vs G2 H2 ds e2 a2 r2 h2 => q _ G2 H2 _ (Evl.Ex.trans e1 e2) a2 (.cons (r1.ex e2) r2) (k x ds h1 h2)
theorem ea_cons {tr : TA} {ds : List Da} (h : Ev1 K w te δ d) (hr : EvA1 K w tr δ ds) : EvA1 K w (tCons te tr) δ (d :: ds) := ea_consN h hr fun x r e1 e2 => by rw [e1, e2]
theorem drAll_dp {G : Hp} : ∀ {vs : List V} {xs : List PyData}, DrAll K G vs (xs.map Da.d) → DpAll K G vs xs
  | _, [], h => by cases h; exact .nil
  | _, x :: xs, h => by
    cases h with
    | cons h1 h2 => exact .cons h1 (drAll_dp h2)
theorem dp_drAll {G : Hp} : ∀ {vs : List V} {xs : List PyData}, DpAll K G vs xs → DrAll K G vs (xs.map Da.d)
  | _, _, .nil => .nil
  | _, _, .cons h1 h2 => .cons h1 (dp_drAll h2)
theorem ev_tupN {tr : TA} {L : List PyData → Prop} (h : EvA K w tr δ fun ds => ∃ xs, ds = xs.map Da.d ∧ xs.length ≤ 100000 ∧ L xs) : Ev K w (tTup tr) δ (fun z => ∃ xs, z = .d (.tuple xs) ∧ L xs) := fun σ G H s a Q q =>
  h σ G H s a _ fun vs G1 H1 ds e1 a1 r1 ⟨xs, e, hl, hL⟩ => by
    subst e
    have hd := drAll_dp r1
    refine ⟨Evl.sz_of (by rw [dpAll_len hd]; exact hl), fun p hp => q _ (upd G1 p (.tup vs)) _ (.d (.tuple xs)) (Evl.Ex.trans e1 (ex_upd (a1.freeG hp))) (a1.new hp) (Dp.tup (Evl.st_of upd_same) (dp_exs (ex_upd (a1.freeG hp)) _ _ hd)) ⟨xs, rfl, hL⟩⟩
theorem ev_lstN {tr : TA} {L : List PyData → Prop} (h : EvA K w tr δ fun ds => ∃ xs, ds = xs.map Da.d ∧ xs.length ≤ 100000 ∧ L xs) : Ev K w (tLst tr) δ (fun z => ∃ xs, z = .d (.list xs) ∧ L xs) := fun σ G H s a Q q =>
  h σ G H s a _ fun vs G1 H1 ds e1 a1 r1 ⟨xs, e, hl, hL⟩ => by
    subst e
    have hd := drAll_dp r1
    refine ⟨Evl.sz_of (by rw [dpAll_len hd]; exact hl), fun p hp => q _ (upd G1 p (.lst vs)) _ (.d (.list xs)) (Evl.Ex.trans e1 (ex_upd (a1.freeG hp))) (a1.new hp) (Dp.lst (Evl.sq_of upd_same) (dp_exs (ex_upd (a1.freeG hp)) _ _ hd)) ⟨xs, rfl, hL⟩⟩
theorem ev_tup {tr : TA} {xs : List PyData} (h : EvA1 K w tr δ (xs.map Da.d)) (hl : xs.length ≤ 100000 := by decide) : Ev1 K w (tTup tr) δ (.d (.tuple xs)) :=
  Ev.imp (ev_tupN (L := fun z => z = xs) fun σ G H s a Q q => h σ G H s a Q fun vs G2 H2 ds e a2 r hr => q vs G2 H2 ds e a2 r ⟨xs, hr, hl, rfl⟩) fun z ⟨ys, e1, e2⟩ => by rw [e1, e2]
theorem ev_lst {tr : TA} {xs : List PyData} (h : EvA1 K w tr δ (xs.map Da.d)) (hl : xs.length ≤ 100000 := by decide) : Ev1 K w (tLst tr) δ (.d (.list xs)) :=
  Ev.imp (ev_lstN (L := fun z => z = xs) fun σ G H s a Q q => h σ G H s a Q fun vs G2 H2 ds e a2 r hr => q vs G2 H2 ds e a2 r ⟨xs, hr, hl, rfl⟩) fun z ⟨ys, e1, e2⟩ => by rw [e1, e2]
end
end Nb
end
section
set_option Elab.async false
set_option linter.all false
set_option maxRecDepth 100000
set_option maxHeartbeats 4000000
/-! The calculus: subscripts, slices, calls, comprehensions, statements, loops, defs. -/
namespace Nb
open PySem L2
section
variable {K : Kx} {w : Wd} {te ta tb tc : TE} {tt tu : TT} {δ : Ds} {R R' S : Da → Prop} {d d' : Da} {B B' : Bool → Prop} {b : Bool}

/-! ### subscripts -/
theorem atI_dp {G : Hp} {vs : List V} {xs : List PyData} {i : Int} {x : PyData} (h : DpAll K G vs xs) (e : atI xs i = some x) : ∃ v, atI vs i = some v ∧ Dp K G v x := by
  unfold atI at e ⊢
  rw [dpAll_len h]
  cases q : ixN xs.length i with
  | none =>
    rw [q] at e
    cases e
  | some j =>
    rw [q] at e
    obtain ⟨v, h1, h2⟩ := dpAll_get h e
    exact ⟨v, h1, h2⟩
theorem od_ixL {xs : List PyData} {i : Int} {x : PyData} (e : atI xs i = some x) : OpD K w (rIxL K) (.d (.list xs)) (.d (.int i)) (fun z => z = .d x) := fun v u G H hv hu a Q q => by
  cases (show Dp K G u (.int i) from hu)
  cases (show Dp K G v (.list xs) from hv) with
  | lst h1 h2 =>
    obtain ⟨z, e1, e2⟩ := atI_dp h2 e
    exact ⟨_, _, i, z, rfl, rfl, Evl.ex_l a.ex h1, e1, q z G H (.d x) (Evl.Ex.refl G) a e2 rfl⟩
theorem od_ixT {xs : List PyData} {i : Int} {x : PyData} (e : atI xs i = some x) : OpD K w (rIxT K) (.d (.tuple xs)) (.d (.int i)) (fun z => z = .d x) := fun v u G H hv hu a Q q => by
  cases (show Dp K G u (.int i) from hu)
  cases (show Dp K G v (.tuple xs) from hv) with
  | tup h1 h2 =>
    obtain ⟨z, e1, e2⟩ := atI_dp h2 e
    exact ⟨_, _, i, z, rfl, rfl, Evl.ex_t a.ex h1, e1, q z G H (.d x) (Evl.Ex.refl G) a e2 rfl⟩
theorem od_ixS {z : Str} {i : Int} {c : Nat} (hz : z.length ≤ 100000) (e : atI z.cps.toList i = some c) : OpD K w rIxS (.d (.str z)) (.d (.int i)) (fun y => y = .d (.str ⟨#[c]⟩)) := fun v u G H hv hu a Q q => by
  cases (show Dp K G u (.int i) from hu)
  cases (show Dp K G v (.str z) from hv)
  exact ⟨z, i, c, rfl, rfl, Evl.sz_of hz, e, q _ G H (.d (.str ⟨#[c]⟩)) (Evl.Ex.refl G) a (Dp.str _) rfl⟩
theorem ev_ixL {xs : List PyData} {i : Int} {x : PyData} (ha : Ev1 K w ta δ (.d (.list xs))) (hb : Ev1 K w tb δ (.d (.int i))) (e : atI xs i = some x) : Ev1 K w (tOp (rIxL K) ta tb) δ (.d x) := ev_op1 ha hb (od_ixL e)
theorem ev_ixT {xs : List PyData} {i : Int} {x : PyData} (ha : Ev1 K w ta δ (.d (.tuple xs))) (hb : Ev1 K w tb δ (.d (.int i))) (e : atI xs i = some x) : Ev1 K w (tOp (rIxT K) ta tb) δ (.d x) := ev_op1 ha hb (od_ixT e)
theorem ev_ixS {z : Str} {i : Int} {c : Nat} (ha : Ev1 K w ta δ (.d (.str z))) (hb : Ev1 K w tb δ (.d (.int i))) (hz : z.length ≤ 100000) (e : atI z.cps.toList i = some c) : Ev1 K w (tOp rIxS ta tb) δ (.d (.str ⟨#[c]⟩)) := ev_op1 ha hb (od_ixS hz e)
/-- any of the three, by the kind of the datum -/
theorem od_ix {x y : Da} (h : OpD K w (rIxL K) x y S ∨ OpD K w (rIxT K) x y S ∨ OpD K w rIxS x y S) : OpD K w (rIx K) x y S := fun v u G H hv hu a Q q => by
  rcases h with h | h | h
  · exact .inl (h v u G H hv hu a Q q)
  · exact .inr (.inl (h v u G H hv hu a Q q))
  · exact .inr (.inr (h v u G H hv hu a Q q))
theorem atI_mem {α : Type} {xs : List α} {i : Int} {x : α} (h : atI xs i = some x) : x ∈ xs := by
  obtain ⟨j, _, e, _⟩ := atI_get h
  exact List.mem_of_getElem? e
theorem atI_lt {α : Type} {xs : List α} {i : Int} (h0 : 0 ≤ i) (h1 : i < xs.length) : ∃ x, atI xs i = some x ∧ xs[i.toNat]? = some x := by
  have h2 : i.toNat < xs.length := by omega
  refine ⟨xs[i.toNat], ?_, List.getElem?_eq_getElem h2⟩
  unfold atI ixN
  rw [if_pos h0, if_pos h1]
  exact List.getElem?_eq_getElem h2

/-! ### slices -/
/-- xs[lo:hi] of data -/
def cutD {α : Type} (xs : List α) (lo hi : Option Int) : List α := (xs.drop (HT.sIx xs.length 0 lo)).take (HT.sIx xs.length xs.length hi - HT.sIx xs.length 0 lo)
theorem dpAll_cut {G : Hp} {vs : List V} {xs : List PyData} (lo hi : Option Int) (h : DpAll K G vs xs) : DpAll K G (cutV vs lo hi) (cutD xs lo hi) := by
  unfold cutV cutD
  rw [dpAll_len h]
  exact dpAll_take _ (dpAll_drop _ h)
def EvO (K : Kx) (w : Wd) (to : TO) (δ : Ds) (o : Option Int) : Prop :=
  ∀ σ G H, Sl K G σ δ → At K w G H → ∀ Q : Option Int → Hp → Prop, (∀ G2 H2, Ex G G2 → At K w G2 H2 → Q o H2) → to σ H Q
theorem eo_no : EvO K w tNoPart δ none := fun σ G H s a Q q => q G H (Evl.Ex.refl G) a
theorem eo_part {i : Int} (h : Ev1 K w te δ (.d (.int i))) : EvO K w (tPart te) δ (some i) := fun σ G H s a Q q => h σ G H s a _ fun v G2 H2 d e a2 r hr => by
  subst hr
  cases (show Dp K G2 v (.int i) from r)
  exact ⟨i, rfl, q G2 H2 e a2⟩
theorem ev_slL {xs : List PyData} {tl th : TO} {lo hi : Option Int} (h : Ev1 K w te δ (.d (.list xs))) (hl : EvO K w tl δ lo) (hh : EvO K w th δ hi) : Ev1 K w (tSl (rSlL K) te tl th) δ (.d (.list (cutD xs lo hi))) := fun σ G H s a Q q =>
  h σ G H s a _ fun v G1 H1 d e1 a1 r1 h1 => hl σ G1 H1 (s.ex e1) a1 _ fun G2 H2 e2 a2 => hh σ G2 H2 (s.ex (Evl.Ex.trans e1 e2)) a2 _ fun G3 H3 e3 a3 => by
    subst h1
    cases (show Dp K G1 v (.list xs) from r1) with
    | lst x1 x2 =>
      rename_i p0 vs
      refine ⟨_, _, rfl, Evl.ex_l (Evl.Ex.trans (Evl.Ex.trans e2 e3) a3.ex) x1, fun p hp => ?_⟩
      have e4 := ex_upd (a3.freeG hp) (o := .lst (cutV vs lo hi))
      exact q _ _ _ (.d (.list (cutD xs lo hi))) (Evl.Ex.trans (Evl.Ex.trans (Evl.Ex.trans e1 e2) e3) e4) (a3.new hp) (Dp.lst (Evl.sq_of upd_same) (dpAll_cut lo hi (dp_exs (Evl.Ex.trans (Evl.Ex.trans e2 e3) e4) _ _ x2))) rfl
theorem ev_revL {xs : List PyData} (h : Ev1 K w te δ (.d (.list xs))) : Ev1 K w (tRevL K te) δ (.d (.list xs.reverse)) := fun σ G H s a Q q =>
  h σ G H s a _ fun v G1 H1 d e1 a1 r1 h1 => by
    subst h1
    cases (show Dp K G1 v (.list xs) from r1) with
    | lst x1 x2 =>
      rename_i p0 vs
      refine ⟨_, _, rfl, Evl.ex_l a1.ex x1, fun p hp => ?_⟩
      have e4 := ex_upd (a1.freeG hp) (o := .lst vs.reverse)
      exact q _ _ _ (.d (.list xs.reverse)) (Evl.Ex.trans e1 e4) (a1.new hp) (Dp.lst (Evl.sq_of upd_same) (dpAll_rev (dp_exs e4 _ _ x2))) rfl

/-! ### chains -/
theorem ev_chain {r r' : R2} {x y z : Da} {c : Bool} (ha : Ev1 K w ta δ x) (hb : Ev1 K w tb δ y) (h1 : OpD K w r x y (fun q => q = .d (.bool b))) (hc : b = true → Ev1 K w tc δ z) (h2 : b = true → OpD K w r' y z (fun q => q = .d (.bool c))) :
    Ev1 K w (tChain r r' ta tb tc) δ (.d (.bool (b && c))) := fun σ G H s a Q q =>
  ha σ G H s a _ fun v G1 H1 d1 e1 a1 r1 k1 => hb σ G1 H1 (s.ex e1) a1 _ fun u G2 H2 d2 e2 a2 r2 k2 => by
    subst k1 k2
    refine h1 v u G2 H2 (r1.ex e2) r2 a2 _ fun m G3 H3 d3 e3 a3 r3 k3 => ?_
    subst k3
    cases (show Dp K G3 m (.bool b) from r3)
    refine ⟨b, rfl, ?_⟩
    have e123 := Evl.Ex.trans (Evl.Ex.trans e1 e2) e3
    cases b with
    | true =>
      refine hc rfl σ G3 H3 (s.ex e123) a3 _ fun p G4 H4 d4 e4 a4 r4 k4 => ?_
      subst k4
      exact h2 rfl u p G4 H4 ((r2.ex e3).ex e4) r4 a4 Q fun t G5 H5 d5 e5 a5 r5 k5 => q t G5 H5 d5 (Evl.Ex.trans (Evl.Ex.trans e123 e4) e5) a5 r5 (by rw [k5]; rfl)
    | false => exact q _ G3 H3 (.d (.bool false)) e123 a3 (Dp.bl false) rfl
theorem od_ib {i j : Int} {f : Int → Int → Bool} : OpD K w (rI0 fun i j => .bl (f i j)) (.d (.int i)) (.d (.int j)) (fun z => z = .d (.bool (f i j))) := odI0 fun _ => Dp.bl _

/-! ### calls of built-ins -/
/-- a call on data -/
def CaD (K : Kx) (w : Wd) (r : List V → Hp → VK → Prop) (xs : List Da) (R : Da → Prop) : Prop :=
  ∀ vs G H, DrAll K G vs xs → At K w G H → ∀ Q : VK, (∀ z G2 H2 d, Ex G G2 → At K w G2 H2 → Dr K G2 z d → R d → Q z H2) → r vs H Q
theorem ev_CB {r : List V → Hp → VK → Prop} {tr : TA} {L : List Da → Prop} (h : EvA K w tr δ L) (k : ∀ xs, L xs → CaD K w r xs R) : Ev K w (tCB r tr) δ R := fun σ G H s a Q q =>
  h σ G H s a _ fun vs G1 H1 xs e1 a1 r1 h1 => k xs h1 vs G1 H1 r1 a1 Q fun z G2 H2 d e2 a2 r2 h2 => q z G2 H2 d (Evl.Ex.trans e1 e2) a2 r2 h2
theorem ev_CB1 {r : List V → Hp → VK → Prop} {tr : TA} {xs : List Da} (h : EvA1 K w tr δ xs) (k : CaD K w r xs R) : Ev K w (tCB r tr) δ R := ev_CB h fun ys e => by
  rw [e]
  exact k
theorem drAll1 {G : Hp} {vs : List V} {x : Da} (h : DrAll K G vs [x]) : ∃ v, vs = [v] ∧ Dr K G v x := by
  cases h with
  | cons h1 h2 =>
    cases h2
    exact ⟨_, rfl, h1⟩
theorem drAll2 {G : Hp} {vs : List V} {x y : Da} (h : DrAll K G vs [x, y]) : ∃ v u, vs = [v, u] ∧ Dr K G v x ∧ Dr K G u y := by
  cases h with
  | cons h1 h2 =>
    obtain ⟨u, e, h3⟩ := drAll1 h2
    subst e
    exact ⟨_, _, rfl, h1, h3⟩
/-- length of a datum -/
inductive LenD : PyData → Nat → Prop
  | list (xs : List PyData) : LenD (.list xs) xs.length
  | tuple (xs : List PyData) : LenD (.tuple xs) xs.length
  | str (z : Str) (h : z.length ≤ 100000) : LenD (.str z) z.length
def rLenA (K : Kx) : List V → Hp → VK → Prop := fun xs H Q => ∃ x n, xs = [x] ∧ LenV K x H n ∧ Q (.int n) H
theorem ca_len {x : PyData} {n : Nat} (hn : LenD x n) : CaD K w (fun xs H Q => ∃ x n, xs = [x] ∧ LenV K x H n ∧ Q (.int n) H) [.d x] (fun z => z = .d (.int (n : Int))) := fun vs G H h a Q q => by
  obtain ⟨v, e, hv⟩ := drAll1 h
  subst e
  refine ⟨v, n, rfl, ?_, q _ G H (.d (.int (n : Int))) (Evl.Ex.refl G) a (Dp.int _) rfl⟩
  cases hn with
  | list xs =>
    cases (show Dp K G v (.list xs) from hv) with
    | lst h1 h2 => exact .inl ⟨_, Evl.ex_l a.ex h1, (dpAll_len h2).symm⟩
  | tuple xs =>
    cases (show Dp K G v (.tuple xs) from hv) with
    | tup h1 h2 => exact .inr ⟨_, Evl.ex_t a.ex h1, (dpAll_len h2).symm⟩
  | str z hz =>
    cases (show Dp K G v (.str z) from hv)
    exact ⟨Evl.sz_of hz, rfl⟩
theorem ca_all {bs : List Bool} : CaD K w (rAll K) [.d (.list (bs.map PyData.bool))] (fun z => z = .d (.bool (bs.all id))) := fun vs G H h a Q q => by
  obtain ⟨v, e, hv⟩ := drAll1 h
  subst e
  cases (show Dp K G v (.list _) from hv) with
  | lst h1 h2 =>
    rw [bls_dpAll h2] at h1
    exact ⟨_, bs, rfl, Evl.ex_l a.ex h1, q _ G H (.d (.bool (bs.all id))) (Evl.Ex.refl G) a (Dp.bl _) rfl⟩
theorem ca_any {bs : List Bool} : CaD K w (rAny K) [.d (.list (bs.map PyData.bool))] (fun z => z = .d (.bool (bs.any id))) := fun vs G H h a Q q => by
  obtain ⟨v, e, hv⟩ := drAll1 h
  subst e
  cases (show Dp K G v (.list _) from hv) with
  | lst h1 h2 =>
    rw [bls_dpAll h2] at h1
    exact ⟨_, bs, rfl, Evl.ex_l a.ex h1, q _ G H (.d (.bool (bs.any id))) (Evl.Ex.refl G) a (Dp.bl _) rfl⟩
theorem ca_sum {ns : List Int} : CaD K w (rSum K) [.d (.list (ns.map PyData.int))] (fun z => z = .d (.int ns.sum)) := fun vs G H h a Q q => by
  obtain ⟨v, e, hv⟩ := drAll1 h
  subst e
  cases (show Dp K G v (.list _) from hv) with
  | lst h1 h2 =>
    rw [ints_dpAll h2] at h1
    exact ⟨_, ns, rfl, Evl.ex_l a.ex h1, q _ G H (.d (.int ns.sum)) (Evl.Ex.refl G) a (Dp.int _) rfl⟩
theorem ca_maxL {ns : List Int} (hn : 0 < ns.length) : CaD K w (rMax K) [.d (.list (ns.map PyData.int))] (fun z => ∃ m, z = .d (.int m) ∧ m ∈ ns ∧ ∀ y ∈ ns, y ≤ m) := fun vs G H h a Q q => by
  obtain ⟨v, e, hv⟩ := drAll1 h
  subst e
  cases (show Dp K G v (.list _) from hv) with
  | lst h1 h2 =>
    rw [ints_dpAll h2] at h1
    exact ⟨_, ns, rfl, Evl.ex_l a.ex h1, hn, fun m hm hy => q _ G H (.d (.int m)) (Evl.Ex.refl G) a (Dp.int _) ⟨m, rfl, hm, hy⟩⟩
theorem ca_minL {ns : List Int} (hn : 0 < ns.length) : CaD K w (rMin K) [.d (.list (ns.map PyData.int))] (fun z => ∃ m, z = .d (.int m) ∧ m ∈ ns ∧ ∀ y ∈ ns, m ≤ y) := fun vs G H h a Q q => by
  obtain ⟨v, e, hv⟩ := drAll1 h
  subst e
  cases (show Dp K G v (.list _) from hv) with
  | lst h1 h2 =>
    rw [ints_dpAll h2] at h1
    exact ⟨_, ns, rfl, Evl.ex_l a.ex h1, hn, fun m hm hy => q _ G H (.d (.int m)) (Evl.Ex.refl G) a (Dp.int _) ⟨m, rfl, hm, hy⟩⟩
theorem ca_int {i : Int} : CaD K w (fun xs H Q => (∃ i, xs = [V.int i] ∧ Q (.int i) H) ∨ ∃ k, xs = [V.bl k] ∧ Q (.int (if k then 1 else 0)) H) [.d (.int i)] (fun z => z = .d (.int i)) := fun vs G H h a Q q => by
  obtain ⟨v, e, hv⟩ := drAll1 h
  subst e
  cases (show Dp K G v (.int i) from hv)
  exact .inl ⟨i, rfl, q _ G H (.d (.int i)) (Evl.Ex.refl G) a (Dp.int _) rfl⟩
theorem ca_abs {i : Int} : CaD K w (fun xs H Q => ∃ i, xs = [V.int i] ∧ Q (.int (if i < 0 then -i else i)) H) [.d (.int i)] (fun z => z = .d (.int (if i < 0 then -i else i))) := fun vs G H h a Q q => by
  obtain ⟨v, e, hv⟩ := drAll1 h
  subst e
  cases (show Dp K G v (.int i) from hv)
  exact ⟨i, rfl, q _ G H (.d (.int _)) (Evl.Ex.refl G) a (Dp.int _) rfl⟩
theorem ca_max2 {i j : Int} : CaD K w (fun xs H Q => ∃ i j, xs = [V.int i, V.int j] ∧ Q (.int (if j > i then j else i)) H) [.d (.int i), .d (.int j)] (fun z => z = .d (.int (if j > i then j else i))) := fun vs G H h a Q q => by
  obtain ⟨v, u, e, hv, hu⟩ := drAll2 h
  subst e
  cases (show Dp K G v (.int i) from hv)
  cases (show Dp K G u (.int j) from hu)
  exact ⟨i, j, rfl, q _ G H (.d (.int _)) (Evl.Ex.refl G) a (Dp.int _) rfl⟩
theorem ca_min2 {i j : Int} : CaD K w (fun xs H Q => ∃ i j, xs = [V.int i, V.int j] ∧ Q (.int (if j < i then j else i)) H) [.d (.int i), .d (.int j)] (fun z => z = .d (.int (if j < i then j else i))) := fun vs G H h a Q q => by
  obtain ⟨v, u, e, hv, hu⟩ := drAll2 h
  subst e
  cases (show Dp K G v (.int i) from hv)
  cases (show Dp K G u (.int j) from hu)
  exact ⟨i, j, rfl, q _ G H (.d (.int _)) (Evl.Ex.refl G) a (Dp.int _) rfl⟩
/-- tuple(list): a new tuple; tuple(tuple): itself -/
theorem ev_tuple {xs : List PyData} (h : Ev1 K w te δ (.d (.list xs))) : Ev1 K w (tThen te (kTup K)) δ (.d (.tuple xs)) := fun σ G H s a Q q =>
  h σ G H s a _ fun v G1 H1 d e1 a1 r1 h1 => by
    subst h1
    cases (show Dp K G1 v (.list xs) from r1) with
    | lst x1 x2 =>
      rename_i p0 vs
      refine .inl ⟨_, _, rfl, Evl.ex_l a1.ex x1, fun p hp => ?_⟩
      have e4 := ex_upd (a1.freeG hp) (o := .tup vs)
      exact q _ _ _ (.d (.tuple xs)) (Evl.Ex.trans e1 e4) (a1.new hp) (Dp.tup (Evl.st_of upd_same) (dp_exs e4 _ _ x2)) rfl
theorem ev_tupleN {L : List PyData → Prop} (h : Ev K w te δ fun z => ∃ xs, z = .d (.list xs) ∧ L xs) : Ev K w (tThen te (kTup K)) δ (fun z => ∃ xs, z = .d (.tuple xs) ∧ L xs) := fun σ G H s a Q q =>
  h σ G H s a _ fun v G1 H1 d e1 a1 r1 ⟨xs, h1, hL⟩ => by
    subst h1
    cases (show Dp K G1 v (.list xs) from r1) with
    | lst x1 x2 =>
      rename_i p0 vs
      refine .inl ⟨_, _, rfl, Evl.ex_l a1.ex x1, fun p hp => ?_⟩
      have e4 := ex_upd (a1.freeG hp) (o := .tup vs)
      exact q _ _ _ (.d (.tuple xs)) (Evl.Ex.trans e1 e4) (a1.new hp) (Dp.tup (Evl.st_of upd_same) (dp_exs e4 _ _ x2)) ⟨xs, rfl, hL⟩

/-! ### promises -/
/-- from the data enc a for which pre holds (in that world) some datum z with R a z comes back; what was known stays -/
def spW {α : Type} (K : Kx) (enc : α → List Da) (pre : Wd → α → Prop) (R : α → Da → Prop) : Sp := fun vs H Q _ => ∃ w G a, At K w G H ∧ DrAll K G vs (enc a) ∧ pre w a ∧ ∀ v G1 H1 z, Ex G G1 → At K w G1 H1 → Dr K G1 v z → R a z → Q v H1
theorem ev_call {α : Type} {enc : α → List Da} {pre : Wd → α → Prop} {P : α → Da → Prop} {E : XK} {tr : TA} {L : List Da → Prop} (h : EvA K w tr δ L) (hp : ∀ xs, L xs → ∃ a, xs = enc a ∧ pre w a ∧ ∀ z, P a z → R z) : Ev K w (tCall (spW K enc pre P) [] E tr) δ R := fun σ G H s a Q q =>
  h σ G H s a _ fun vs G1 H1 xs e1 a1 r1 h1 => by
    rw [List.append_nil]
    obtain ⟨a, ea, hpa, hR⟩ := hp xs h1
    subst ea
    exact ⟨w, G1, a, a1, r1, hpa, fun v G2 H2 z e2 a2 r2 h2 => q v G2 H2 z (Evl.Ex.trans e1 e2) a2 r2 (hR z h2)⟩
theorem ev_call1 {α : Type} {enc : α → List Da} {pre : Wd → α → Prop} {P : α → Da → Prop} {E : XK} {tr : TA} (a : α) (h : EvA1 K w tr δ (enc a)) (hp : pre w a) (hR : ∀ z, P a z → R z) : Ev K w (tCall (spW K enc pre P) [] E tr) δ R :=
  ev_call h fun xs e => ⟨a, e, hp, hR⟩
end

/-! ### statements -/
section
variable {K : Kx} {b : Hp} {w : Wd} {D : Ends} {te : TE} {tt : TT} {ts tu tr : TS} {δ : Ds} {R : Da → Prop} {B : Bool → Prop} {i : Nat}
theorem run_next (h : ∀ σ G H, Ex b G → Sl K G σ δ → At K w G H → D.nx σ H) : Run K b w D tNext δ := h
theorem run_end (h : ∀ σ G H, Ex b G → At K w G H → D.nx σ H) : Run K b w D tNext δ := fun σ G H e _ a => h σ G H e a
theorem run_nx {J : Wd → Ds → Prop} {rt : VK} {bk ct : L2.St → Hp → Prop} (h : J w δ) : Run K b w ⟨Nx K b J, rt, bk, ct⟩ tNext δ := fun σ G H e s a => ⟨w, δ, G, e, h, s, a⟩
theorem run_tail (h : Run K b w D (tSeq ts tNext) δ) : Run K b w D ts δ := h
theorem run_assoc (h : Run K b w D (tSeq ts (tSeq tu tr)) δ) : Run K b w D (tSeq (tSeq ts tu) tr) δ := h
theorem run_skip (h : Run K b w D ts δ) : Run K b w D (tSeq tNext ts) δ := h
theorem run_asg (h : Ev K w te δ R) (k : ∀ d, R d → Run K b w D tr (δ.set i (some d))) : Run K b w D (tSeq (tAsg te (gName i)) tr) δ := fun σ G H e s a =>
  h σ G H s a _ fun v G1 H1 d e1 a1 r1 h1 => k d h1 (σ.set i (some v)) G1 H1 (Evl.Ex.trans e e1) ((s.ex e1).set i r1) a1
theorem run_asg1 {d : Da} (h : Ev1 K w te δ d) (k : Run K b w D tr (δ.set i (some d))) : Run K b w D (tSeq (tAsg te (gName i)) tr) δ := run_asg h fun x e => by
  rw [e]
  exact k
theorem run_ret (h : Ev K w te δ R) (k : RetO K b w D R) : Run K b w D (tRet te) δ := fun σ G H e s a => h σ G H s a _ fun v G1 H1 d e1 a1 r1 h1 => k v G1 H1 d (Evl.Ex.trans e e1) a1 r1 h1
theorem run_ret' (h : Ev K w te δ R) (k : RetO K b w D R) : Run K b w D (tSeq (tRet te) tr) δ := fun σ G H e s a => h σ G H s a _ fun v G1 H1 d e1 a1 r1 h1 => k v G1 H1 d (Evl.Ex.trans e e1) a1 r1 h1
theorem run_drop (h : Ev K w te δ R) (k : Run K b w D tr δ) : Run K b w D (tSeq (tDrop te) tr) δ := fun σ G H e s a => h σ G H s a _ fun v G1 H1 d e1 a1 r1 h1 => k σ G1 H1 (Evl.Ex.trans e e1) (s.ex e1) a1
theorem run_if (h : EvT K w tt δ B) (h1 : B true → Run K b w D (tSeq ts tr) δ) (h2 : B false → Run K b w D (tSeq tu tr) δ) : Run K b w D (tSeq (tIfS tt ts tu) tr) δ := fun σ G H e s a =>
  h σ G H s a _ fun x G1 H1 e1 a1 hx => by
    cases x with
    | true => exact h1 hx σ G1 H1 (Evl.Ex.trans e e1) (s.ex e1) a1
    | false => exact h2 hx σ G1 H1 (Evl.Ex.trans e e1) (s.ex e1) a1
theorem run_if' (h : EvT K w tt δ B) (h1 : B true → Run K b w D ts δ) (h2 : B false → Run K b w D tu δ) : Run K b w D (tIfS tt ts tu) δ := run_if (tr := tNext) h h1 h2
theorem run_ifT (h : EvT1 K w tt δ true) (h1 : Run K b w D (tSeq ts tr) δ) : Run K b w D (tSeq (tIfS tt ts tu) tr) δ := run_if h (fun _ => h1) fun x => nomatch x
theorem run_ifF (h : EvT1 K w tt δ false) (h1 : Run K b w D (tSeq tu tr) δ) : Run K b w D (tSeq (tIfS tt ts tu) tr) δ := run_if h (fun x => nomatch x) fun _ => h1
theorem run_aug {x : Da} {r : R2} {R' : Da → Prop} (hx : δ[i]? = some (some x)) (h : Ev K w te δ R) (ho : ∀ y, R y → OpD K w r x y R') (k : ∀ d, R' d → Run K b w D tr (δ.set i (some d))) : Run K b w D (tSeq (tAug i te r) tr) δ := fun σ G H e s a => by
  obtain ⟨v, e0, r0⟩ := s.at_ i x hx
  refine ⟨v, e0, h σ G H s a _ fun u G1 H1 y e1 a1 r1 h1 => ?_⟩
  exact ho y h1 v u G1 H1 (r0.ex e1) r1 a1 _ fun z G2 H2 d e2 a2 r2 h2 => k d h2 (σ.set i (some z)) G2 H2 (Evl.Ex.trans e (Evl.Ex.trans e1 e2)) ((s.ex (Evl.Ex.trans e1 e2)).set i r2) a2
theorem run_aug1 {x y z : Da} {r : R2} (hx : δ[i]? = some (some x)) (h : Ev1 K w te δ y) (ho : OpD K w r x y (fun q => q = z)) (k : Run K b w D tr (δ.set i (some z))) : Run K b w D (tSeq (tAug i te r) tr) δ := run_aug hx h (fun y' e => by rw [e]; exact ho) fun d e => by
  rw [e]
  exact k
theorem run_par {j : Nat} {ta : TA} {L : List Da → Prop} (h : EvA K w ta δ L) (k : ∀ xs, L xs → ∃ x y, xs = [x, y] ∧ Run K b w D tr ((δ.set i (some x)).set j (some y))) : Run K b w D (tSeq (tPar i j ta) tr) δ := fun σ G H e s a =>
  h σ G H s a _ fun vs G1 H1 xs e1 a1 r1 h1 => by
    obtain ⟨x, y, e2, k2⟩ := k xs h1
    subst e2
    obtain ⟨v, u, e3, hv, hu⟩ := drAll2 r1
    exact ⟨v, u, e3, k2 _ G1 H1 (Evl.Ex.trans e e1) (((s.ex e1).set i hv).set j hu) a1⟩
theorem run_par1 {j : Nat} {ta : TA} {x y : Da} (h : EvA1 K w ta δ [x, y]) (k : Run K b w D tr ((δ.set i (some x)).set j (some y))) : Run K b w D (tSeq (tPar i j ta) tr) δ := run_par h fun xs e => ⟨x, y, e, k⟩
theorem run_par3 {j l : Nat} {ta : TA} {L : List Da → Prop} (h : EvA K w ta δ L) (k : ∀ xs, L xs → ∃ x y z, xs = [x, y, z] ∧ Run K b w D tr (((δ.set i (some x)).set j (some y)).set l (some z))) : Run K b w D (tSeq (tPar3 i j l ta) tr) δ := fun σ G H e s a =>
  h σ G H s a _ fun vs G1 H1 xs e1 a1 r1 h1 => by
    obtain ⟨x, y, z, e2, k2⟩ := k xs h1
    subst e2
    cases r1 with
    | cons q1 q2 =>
      obtain ⟨v, u, e3, hv, hu⟩ := drAll2 q2
      subst e3
      exact ⟨_, v, u, rfl, k2 _ G1 H1 (Evl.Ex.trans e e1) ((((s.ex e1).set i q1).set j hv).set l hu) a1⟩
theorem run_base (h : ∀ b', Ex b b' → Run K b' w D ts δ) : Run K b w D ts δ := fun σ G H e s a => h G e σ G H (Evl.Ex.refl G) s a
theorem run_mono {b' : Hp} (h : Run K b w D ts δ) (e : Ex b b') : Run K b' w D ts δ := fun σ G H e2 s a => h σ G H (Evl.Ex.trans e e2) s a

/-! ### targets of a loop -/
/-- the target g, given the datum x, brings the slots from δ to δ' -/
def TgD (K : Kx) (g : TG) (x : Da) (δ δ' : Ds) : Prop := ∀ v σ G H w, Dr K G v x → Sl K G σ δ → At K w G H → ∀ Q : L2.St → Hp → Prop, (∀ σ', Sl K G σ' δ' → Q σ' H) → g v σ H Q
theorem tg_name {x : Da} {i : Nat} : TgD K (gName i) x δ (δ.set i (some x)) := fun v σ G H w r s a Q q => q _ (s.set i r)
theorem tg_tup2 {x y : PyData} {i j : Nat} : TgD K (gTup K 2 (gCons (gName i) (gCons (gName j) gNil))) (.d (.tuple [x, y])) δ ((δ.set i (some (.d x))).set j (some (.d y))) := fun v σ G H w r s a Q q => by
  cases (show Dp K G v (.tuple [x, y]) from r) with
  | tup h1 h2 =>
    cases h2 with
    | cons p1 h2 =>
      cases h2 with
      | cons p2 h2 =>
        cases h2
        exact ⟨_, _, rfl, Evl.ex_t a.ex h1, rfl, _, _, rfl, _, _, rfl, rfl, q _ ((s.set i (show Dr K G _ (.d x) from p1)).set j (show Dr K G _ (.d y) from p2))⟩
theorem tg_tup3 {x y z : PyData} {i j l : Nat} : TgD K (gTup K 3 (gCons (gName i) (gCons (gName j) (gCons (gName l) gNil)))) (.d (.tuple [x, y, z])) δ (((δ.set i (some (.d x))).set j (some (.d y))).set l (some (.d z))) := fun v σ G H w r s a Q q => by
  cases (show Dp K G v (.tuple [x, y, z]) from r) with
  | tup h1 h2 =>
    cases h2 with
    | cons p1 h2 =>
      cases h2 with
      | cons p2 h2 =>
        cases h2 with
        | cons p3 h2 =>
          cases h2
          exact ⟨_, _, rfl, Evl.ex_t a.ex h1, rfl, _, _, rfl, _, _, rfl, _, _, rfl, rfl, q _ (((s.set i (show Dr K G _ (.d x) from p1)).set j (show Dr K G _ (.d y) from p2)).set l (show Dr K G _ (.d z) from p3))⟩
theorem run_unpack {g : TG} {δ' : Da → Ds} (h : Ev K w te δ R) (ht : ∀ d, R d → TgD K g d δ (δ' d)) (k : ∀ d, R d → Run K b w D tr (δ' d)) : Run K b w D (tSeq (tAsg te g) tr) δ := fun σ G H e s a =>
  h σ G H s a _ fun v G1 H1 d e1 a1 r1 h1 => ht d h1 v σ G1 H1 w r1 (s.ex e1) a1 _ fun σ' s' => k d h1 σ' G1 H1 (Evl.Ex.trans e e1) s' a1

/-! ### loops -/
theorem run_forL {tl : TE} {g : TG} {xs : List PyData} (J : Nat → Wd → Ds → Prop) (h : Ev1 K w tl δ (.d (.list xs))) (h0 : J 0 w δ)
    (hs : ∀ (i : Nat) (x : PyData) w' δ' b', xs[i]? = some x → J i w' δ' → Ex b b' → ∃ δ2, TgD K g (.d x) δ' δ2 ∧ Run K b' w' { D with nx := Nx K b' (J (i + 1)), ct := Nx K b' (J (i + 1)), bk := tr D } ts δ2)
    (hd : ∀ w' δ', J xs.length w' δ' → Run K b w' D tr δ') : Run K b w D (tSeq (tFor (iList K tl) g ts) tr) δ := fun σ G H e s a =>
  h σ G H s a _ fun v G1 H1 d e1 a1 r1 h1 => by
    subst h1
    cases (show Dp K G1 v (.list xs) from r1) with
    | lst x1 x2 =>
      rename_i p vs
      have hl := dpAll_len x2
      refine ⟨p, rfl, ⟨vs, Evl.ex_l a1.ex x1⟩, for_list (K := K) (a := p) (xs := vs) (D := { D with nx := tr D }) (fun i => Nx K G1 (J i)) ⟨w, δ, G1, Evl.Ex.refl G1, h0, s.ex e1, a1⟩ (fun i σ' H' _ ⟨w', δ', G', e', _, _, a'⟩ => Evl.ex_l (Evl.Ex.trans e' a'.ex) x1) (fun i y σ' H' hy ⟨w', δ', G', e', j', s', a'⟩ => ?_) fun σ' H' ⟨w', δ', G', e', j', s', a'⟩ => ?_⟩
      · obtain ⟨x, hx, rx⟩ := dpAll_get' x2 hy
        obtain ⟨δ2, ht, hr⟩ := hs i x w' δ' G1 hx j' (Evl.Ex.trans e e1)
        exact ht y σ' G' H' w' (show Dr K G' y (.d x) from dp_ex e' x y rx) s' a' _ fun σ2 s2 => hr σ2 G' H' e' s2 a'
      · rw [hl] at j'
        exact hd w' δ' j' σ' G' H' (Evl.Ex.trans (Evl.Ex.trans e e1) e') s' a'
theorem run_forT {tl : TE} {g : TG} {xs : List PyData} (J : Nat → Wd → Ds → Prop) (h : Ev1 K w tl δ (.d (.tuple xs))) (h0 : J 0 w δ)
    (hs : ∀ (i : Nat) (x : PyData) w' δ' b', xs[i]? = some x → J i w' δ' → Ex b b' → ∃ δ2, TgD K g (.d x) δ' δ2 ∧ Run K b' w' { D with nx := Nx K b' (J (i + 1)), ct := Nx K b' (J (i + 1)), bk := tr D } ts δ2)
    (hd : ∀ w' δ', J xs.length w' δ' → Run K b w' D tr δ') : Run K b w D (tSeq (tFor (iTup K tl) g ts) tr) δ := fun σ G H e s a =>
  h σ G H s a _ fun v G1 H1 d e1 a1 r1 h1 => by
    subst h1
    cases (show Dp K G1 v (.tuple xs) from r1) with
    | tup x1 x2 =>
      rename_i p vs
      have hl := dpAll_len x2
      refine ⟨p, rfl, ⟨vs, Evl.ex_t a1.ex x1⟩, for_tup (K := K) (a := p) (xs := vs) (D := { D with nx := tr D }) (fun i => Nx K G1 (J i)) ⟨w, δ, G1, Evl.Ex.refl G1, h0, s.ex e1, a1⟩ (fun i σ' H' _ ⟨w', δ', G', e', _, _, a'⟩ => Evl.ex_t (Evl.Ex.trans e' a'.ex) x1) (fun i y σ' H' hy ⟨w', δ', G', e', j', s', a'⟩ => ?_) fun σ' H' ⟨w', δ', G', e', j', s', a'⟩ => ?_⟩
      · obtain ⟨x, hx, rx⟩ := dpAll_get' x2 hy
        obtain ⟨δ2, ht, hr⟩ := hs i x w' δ' G1 hx j' (Evl.Ex.trans e e1)
        exact ht y σ' G' H' w' (show Dr K G' y (.d x) from dp_ex e' x y rx) s' a' _ fun σ2 s2 => hr σ2 G' H' e' s2 a'
      · rw [hl] at j'
        exact hd w' δ' j' σ' G' H' (Evl.Ex.trans (Evl.Ex.trans e e1) e') s' a'
theorem run_forR {ta : TA} {g : TG} {n : Int} (J : Nat → Wd → Ds → Prop) (h : EvA1 K w ta δ [.d (.int n)]) (hn : -1000000 ≤ n ∧ n ≤ 1000000) (h0 : J 0 w δ)
    (hs : ∀ (i : Nat) w' δ' b', (i : Int) < n → J i w' δ' → Ex b b' → ∃ δ2, TgD K g (.d (.int (i : Int))) δ' δ2 ∧ Run K b' w' { D with nx := Nx K b' (J (i + 1)), ct := Nx K b' (J (i + 1)), bk := tr D } ts δ2)
    (hd : ∀ w' δ', J n.toNat w' δ' → Run K b w' D tr δ') : Run K b w D (tSeq (tFor (iRng1 ta) g ts) tr) δ := fun σ G H e s a =>
  h σ G H s a _ fun vs G1 H1 d e1 a1 r1 h1 => by
    subst h1
    obtain ⟨v, e2, hv⟩ := drAll1 r1
    subst e2
    cases (show Dp K G1 v (.int n) from hv)
    refine ⟨n, rfl, by omega, by omega, for_range (lo := 0) (n := n.toNat) (D := { D with nx := tr D }) (fun i => Nx K G1 (J i)) ⟨w, δ, G1, Evl.Ex.refl G1, h0, s.ex e1, a1⟩ (fun i σ' H' hi ⟨w', δ', G', e', j', s', a'⟩ => ?_) fun σ' H' ⟨w', δ', G', e', j', s', a'⟩ => ?_⟩
    · obtain ⟨δ2, ht, hr⟩ := hs i w' δ' G1 (by omega) j' (Evl.Ex.trans e e1)
      have e0 : (0 : Int) + (i : Int) = (i : Int) := Int.zero_add _
      rw [e0]
      exact ht (.int (i : Int)) σ' G' H' w' (show Dr K G' _ (.d (.int (i : Int))) from Dp.int _) s' a' _ fun σ2 s2 => hr σ2 G' H' e' s2 a'
    · exact hd w' δ' j' σ' G' H' (Evl.Ex.trans (Evl.Ex.trans e e1) e') s' a'
/-- while: each turn lowers the measure -/
theorem run_while (J : Nat → Wd → Ds → Prop) (m0 : Nat) (h0 : J m0 w δ)
    (hs : ∀ m w' δ' b', J m w' δ' → Ex b b' → ∃ B : Bool → Prop, EvT K w' tt δ' B ∧ (B true → Run K b' w' { D with nx := Nx K b' (fun w2 δ2 => ∃ m', m' < m ∧ J m' w2 δ2), ct := Nx K b' (fun w2 δ2 => ∃ m', m' < m ∧ J m' w2 δ2), bk := tr D } ts δ') ∧ (B false → Run K b' w' D tr δ')) :
    Run K b w D (tSeq (tWhile tt ts) tr) δ := fun σ G H e s a => by
  refine ⟨fun m => Nx K G (J m), ⟨m0, w, δ, G, Evl.Ex.refl G, h0, s, a⟩, fun m σ' H' ⟨w', δ', G', e', j', s', a'⟩ => ?_⟩
  obtain ⟨B, hB, h1, h2⟩ := hs m w' δ' G j' e
  refine hB σ' G' H' s' a' _ fun x G2 H2 e2 a2 hx => ?_
  cases x with
  | true =>
    refine ⟨Nx K G (fun w2 δ2 => ∃ m', m' < m ∧ J m' w2 δ2), fun σ3 H3 ⟨w3, δ3, G3, e3, ⟨m', hm, j3⟩, s3, a3⟩ => ⟨m', hm, w3, δ3, G3, e3, j3, s3, a3⟩, h1 hx σ' G2 H2 (Evl.Ex.trans e' e2) (s'.ex e2) a2⟩
  | false => exact h2 hx σ' G2 H2 (Evl.Ex.trans e' e2) (s'.ex e2) a2
end

/-! ### comprehensions -/
section
variable {K : Kx} {w : Wd} {tl te : TE} {tt : TT} {δ : Ds} {g : TG} {vs : List Nat}
theorem wipeD_set {δ : Ds} {i : Nat} {o : Option Da} : ∀ {vs : List Nat}, i ∈ vs → wipeD (δ.set i o) vs = wipeD δ vs
  | [], h => by cases h
  | v :: vs, h => by
    show (wipeD (δ.set i o) vs).set v none = (wipeD δ vs).set v none
    by_cases hm : i ∈ vs
    · rw [wipeD_set hm]
    · have e : i = v := by
        rcases List.mem_cons.mp h with e | e
        · exact e
        · exact absurd e hm
      subst e
      have q : ∀ (us : List Nat), i ∉ us → wipeD (δ.set i o) us = (wipeD δ us).set i o := fun us => by
        induction us with
        | nil => intro _; rfl
        | cons u us ih =>
          intro hu
          have h1 : u ≠ i := fun e => hu (by rw [e]; exact List.mem_cons_self)
          have h2 : i ∉ us := fun e => hu (List.mem_cons_of_mem _ e)
          show (wipeD (δ.set i o) us).set u none = ((wipeD δ us).set u none).set i o
          rw [ih h2, List.set_comm _ _ h1.symm]
      rw [q vs hm, List.set_set]
/-- the block's own names are forgotten behind its target's store -/
def Wipes (g : TG) (vs : List Nat) : Prop := ∀ v (σ : L2.St) H (Q : L2.St → Hp → Prop), g v (L2.wipe σ vs) H Q → g v (L2.wipe σ vs) H fun σ' H' => L2.wipe σ' vs = L2.wipe σ vs ∧ Q σ' H'
theorem wipe_set {σ : L2.St} {i : Nat} {o : Option V} : ∀ {vs : List Nat}, i ∈ vs → L2.wipe (σ.set i o) vs = L2.wipe σ vs
  | [], h => by cases h
  | v :: vs, h => by
    show (L2.wipe (σ.set i o) vs).set v none = (L2.wipe σ vs).set v none
    by_cases hm : i ∈ vs
    · rw [wipe_set hm]
    · have e : i = v := by
        rcases List.mem_cons.mp h with e | e
        · exact e
        · exact absurd e hm
      subst e
      have q : ∀ (us : List Nat), i ∉ us → L2.wipe (σ.set i o) us = (L2.wipe σ us).set i o := fun us => by
        induction us with
        | nil => intro _; rfl
        | cons u us ih =>
          intro hu
          have h1 : u ≠ i := fun e => hu (by rw [e]; exact List.mem_cons_self)
          have h2 : i ∉ us := fun e => hu (List.mem_cons_of_mem _ e)
          show (L2.wipe (σ.set i o) us).set u none = ((L2.wipe σ us).set u none).set i o
          rw [ih h2, List.set_comm _ _ h1.symm]
      rw [q vs hm, List.set_set]
theorem wipe_wipe {σ : L2.St} : ∀ (vs us : List Nat), (∀ v ∈ vs, v ∈ us) → L2.wipe (L2.wipe σ vs) us = L2.wipe σ us
  | [], _, _ => rfl
  | v :: vs, us, h => by
    show L2.wipe ((L2.wipe σ vs).set v none) us = L2.wipe σ us
    rw [wipe_set (h v List.mem_cons_self), wipe_wipe vs us fun u hu => h u (List.mem_cons_of_mem _ hu)]
theorem wipes_name {i : Nat} (h : i ∈ vs := by decide) : Wipes (gName i) vs := fun v σ H Q q => ⟨by rw [wipe_set h, wipe_wipe vs vs fun _ z => z], q⟩
theorem wipes_tup2 {K : Kx} {i j : Nat} (h : i ∈ vs := by decide) (h2 : j ∈ vs := by decide) : Wipes (gTup K 2 (gCons (gName i) (gCons (gName j) gNil))) vs := fun v σ H Q q => by
  obtain ⟨a, xs, e1, e2, e3, x, r, e4, y, r2, e5, e6, q⟩ := q
  exact ⟨a, xs, e1, e2, e3, x, r, e4, y, r2, e5, e6, by rw [wipe_set h2, wipe_set h, wipe_wipe vs vs fun _ z => z], q⟩
/-- one turn's end: the list so far, the item put behind -/
theorem ev_lcL {xs : List PyData} (J : Nat → List PyData → Prop) (hw : Wipes g vs) (h : Ev1 K w tl δ (.d (.list xs))) (hz : xs.length ≤ 100000) (h0 : J 0 [])
    (hs : ∀ (i : Nat) (x : PyData) acc w', xs[i]? = some x → J i acc → w'.rnd = w.rnd → ∃ δ2 B, TgD K g (.d x) (wipeD δ vs) δ2 ∧ EvT K w' tt δ2 B ∧ (B false → J (i + 1) acc) ∧ (B true → Ev K w' te δ2 fun z => ∃ y, z = .d y ∧ J (i + 1) (acc ++ [y]))) :
    Ev K w (tLc (iList K tl) g tt te vs) δ (fun z => ∃ ys, z = .d (.list ys) ∧ J xs.length ys) := fun σ G H s a Q q =>
  h σ G H s a _ fun v G1 H1 d e1 a1 r1 h1 => by
    subst h1
    cases (show Dp K G1 v (.list xs) from r1) with
    | lst x1 x2 =>
      rename_i p us
      have hl := dpAll_len x2
      refine ⟨p, rfl, ⟨us, Evl.ex_l a1.ex x1⟩, fun D hD => lc_list (K := K) (a := p) (xs := us) (fun i H' => ∃ G' acc ys, Ex G1 G' ∧ At K (w.add D (.raw (.lst acc))) G' H' ∧ DpAll K G' acc ys ∧ J i ys ∧ ys.length ≤ i) ⟨G1, [], [], Evl.Ex.refl G1, a1.push hD upd_same, .nil, h0, Nat.le_refl _⟩ (fun i H' _ ⟨G', acc, ys, e', a', _⟩ => Evl.ex_l (Evl.Ex.trans e' a'.ex) x1) (fun i y H' hy ⟨G', acc, ys, e', a', da, j', hn⟩ => ?_) fun H' ⟨G', acc, ys, e', a', da, j', hn⟩ => ?_⟩
      · obtain ⟨x, hx, rx⟩ := dpAll_get' x2 hy
        have hi : i < us.length := (List.getElem?_eq_some_iff.mp hy).1
        obtain ⟨δ2, B, ht, hb, hf, he⟩ := hs i x ys (w.add D (.raw (.lst acc))) hx j' rfl
        refine (hw y σ H' _ (ht y (L2.wipe σ vs) G' H' (w.add D (.raw (.lst acc))) (show Dr K G' y (.d x) from dp_ex e' x y rx) ((s.ex (Evl.Ex.trans e1 e')).wipe vs) a' _ fun σ2 s2 => ?_))
        refine hb σ2 G' H' s2 a' _ fun c G2 H2 e2 a2 hc => ?_
        cases c with
        | false => exact ⟨G2, acc, ys, Evl.Ex.trans e' e2, a2, dp_exs e2 _ _ da, hf hc, Nat.le_succ_of_le hn⟩
        | true =>
          refine he hc σ2 G2 H2 (s2.ex e2) a2 _ fun z G3 H3 d3 e3 a3 r3 ⟨t, e4, j4⟩ => ?_
          subst e4
          refine ⟨acc, a3.top, Evl.sz_lt (by rw [dpAll_len da]; omega), G3, acc ++ [z], ys ++ [t], Evl.Ex.trans e' (Evl.Ex.trans e2 e3), a3.set upd_same, dpAll_app (dp_exs (Evl.Ex.trans e2 e3) _ _ da) (dpAll_one r3), j4, by rw [List.length_append]; exact Nat.succ_le_succ hn⟩
      · rw [hl] at j'
        exact q _ _ _ (.d (.list ys)) (Evl.Ex.trans (Evl.Ex.trans e1 e') (ex_upd a'.topG)) (a'.freeze a'.top) (Dp.lst (Evl.sq_of upd_same) (dp_exs (ex_upd a'.topG) _ _ da)) ⟨ys, rfl, j'⟩
theorem ev_lcT {xs : List PyData} (J : Nat → List PyData → Prop) (hw : Wipes g vs) (h : Ev1 K w tl δ (.d (.tuple xs))) (hz : xs.length ≤ 100000) (h0 : J 0 [])
    (hs : ∀ (i : Nat) (x : PyData) acc w', xs[i]? = some x → J i acc → w'.rnd = w.rnd → ∃ δ2 B, TgD K g (.d x) (wipeD δ vs) δ2 ∧ EvT K w' tt δ2 B ∧ (B false → J (i + 1) acc) ∧ (B true → Ev K w' te δ2 fun z => ∃ y, z = .d y ∧ J (i + 1) (acc ++ [y]))) :
    Ev K w (tLc (iTup K tl) g tt te vs) δ (fun z => ∃ ys, z = .d (.list ys) ∧ J xs.length ys) := fun σ G H s a Q q =>
  h σ G H s a _ fun v G1 H1 d e1 a1 r1 h1 => by
    subst h1
    cases (show Dp K G1 v (.tuple xs) from r1) with
    | tup x1 x2 =>
      rename_i p us
      have hl := dpAll_len x2
      refine ⟨p, rfl, ⟨us, Evl.ex_t a1.ex x1⟩, fun D hD => lc_tup (K := K) (a := p) (xs := us) (fun i H' => ∃ G' acc ys, Ex G1 G' ∧ At K (w.add D (.raw (.lst acc))) G' H' ∧ DpAll K G' acc ys ∧ J i ys ∧ ys.length ≤ i) ⟨G1, [], [], Evl.Ex.refl G1, a1.push hD upd_same, .nil, h0, Nat.le_refl _⟩ (fun i H' _ ⟨G', acc, ys, e', a', _⟩ => Evl.ex_t (Evl.Ex.trans e' a'.ex) x1) (fun i y H' hy ⟨G', acc, ys, e', a', da, j', hn⟩ => ?_) fun H' ⟨G', acc, ys, e', a', da, j', hn⟩ => ?_⟩
      · obtain ⟨x, hx, rx⟩ := dpAll_get' x2 hy
        have hi : i < us.length := (List.getElem?_eq_some_iff.mp hy).1
        obtain ⟨δ2, B, ht, hb, hf, he⟩ := hs i x ys (w.add D (.raw (.lst acc))) hx j' rfl
        refine (hw y σ H' _ (ht y (L2.wipe σ vs) G' H' (w.add D (.raw (.lst acc))) (show Dr K G' y (.d x) from dp_ex e' x y rx) ((s.ex (Evl.Ex.trans e1 e')).wipe vs) a' _ fun σ2 s2 => ?_))
        refine hb σ2 G' H' s2 a' _ fun c G2 H2 e2 a2 hc => ?_
        cases c with
        | false => exact ⟨G2, acc, ys, Evl.Ex.trans e' e2, a2, dp_exs e2 _ _ da, hf hc, Nat.le_succ_of_le hn⟩
        | true =>
          refine he hc σ2 G2 H2 (s2.ex e2) a2 _ fun z G3 H3 d3 e3 a3 r3 ⟨t, e4, j4⟩ => ?_
          subst e4
          refine ⟨acc, a3.top, Evl.sz_lt (by rw [dpAll_len da]; omega), G3, acc ++ [z], ys ++ [t], Evl.Ex.trans e' (Evl.Ex.trans e2 e3), a3.set upd_same, dpAll_app (dp_exs (Evl.Ex.trans e2 e3) _ _ da) (dpAll_one r3), j4, by rw [List.length_append]; exact Nat.succ_le_succ hn⟩
      · rw [hl] at j'
        exact q _ _ _ (.d (.list ys)) (Evl.Ex.trans (Evl.Ex.trans e1 e') (ex_upd a'.topG)) (a'.freeze a'.top) (Dp.lst (Evl.sq_of upd_same) (dp_exs (ex_upd a'.topG) _ _ da)) ⟨ys, rfl, j'⟩
theorem ev_lcR {ta : TA} {n : Int} (J : Nat → List PyData → Prop) (hw : Wipes g vs) (h : EvA1 K w ta δ [.d (.int n)]) (hn : -1000000 ≤ n ∧ n ≤ 100000) (h0 : J 0 [])
    (hs : ∀ (i : Nat) acc w', (i : Int) < n → J i acc → w'.rnd = w.rnd → ∃ δ2 B, TgD K g (.d (.int (i : Int))) (wipeD δ vs) δ2 ∧ EvT K w' tt δ2 B ∧ (B false → J (i + 1) acc) ∧ (B true → Ev K w' te δ2 fun z => ∃ y, z = .d y ∧ J (i + 1) (acc ++ [y]))) :
    Ev K w (tLc (iRng1 ta) g tt te vs) δ (fun z => ∃ ys, z = .d (.list ys) ∧ J n.toNat ys) := fun σ G H s a Q q =>
  h σ G H s a _ fun vs' G1 H1 d e1 a1 r1 h1 => by
    subst h1
    obtain ⟨v, e2, hv⟩ := drAll1 r1
    subst e2
    cases (show Dp K G1 v (.int n) from hv)
    refine ⟨n, rfl, by omega, by omega, fun D hD => lc_range (lo := 0) (n := n.toNat) (fun i H' => ∃ G' acc ys, Ex G1 G' ∧ At K (w.add D (.raw (.lst acc))) G' H' ∧ DpAll K G' acc ys ∧ J i ys ∧ ys.length ≤ i) ⟨G1, [], [], Evl.Ex.refl G1, a1.push hD upd_same, .nil, h0, Nat.le_refl _⟩ (fun i H' hi ⟨G', acc, ys, e', a', da, j', hn⟩ => ?_) fun H' ⟨G', acc, ys, e', a', da, j', hn⟩ => ?_⟩
    · obtain ⟨δ2, B, ht, hb, hf, he⟩ := hs i ys (w.add D (.raw (.lst acc))) (by omega) j' rfl
      have e0 : (0 : Int) + (i : Int) = (i : Int) := Int.zero_add _
      rw [e0]
      refine (hw _ σ H' _ (ht (.int (i : Int)) (L2.wipe σ vs) G' H' (w.add D (.raw (.lst acc))) (show Dr K G' _ (.d (.int (i : Int))) from Dp.int _) ((s.ex (Evl.Ex.trans e1 e')).wipe vs) a' _ fun σ2 s2 => ?_))
      refine hb σ2 G' H' s2 a' _ fun c G2 H2 e2 a2 hc => ?_
      cases c with
      | false => exact ⟨G2, acc, ys, Evl.Ex.trans e' e2, a2, dp_exs e2 _ _ da, hf hc, Nat.le_succ_of_le hn⟩
      | true =>
        refine he hc σ2 G2 H2 (s2.ex e2) a2 _ fun z G3 H3 d3 e3 a3 r3 ⟨t, e4, j4⟩ => ?_
        subst e4
        refine ⟨acc, a3.top, Evl.sz_lt (by rw [dpAll_len da]; omega), G3, acc ++ [z], ys ++ [t], Evl.Ex.trans e' (Evl.Ex.trans e2 e3), a3.set upd_same, dpAll_app (dp_exs (Evl.Ex.trans e2 e3) _ _ da) (dpAll_one r3), j4, by rw [List.length_append]; exact Nat.succ_le_succ hn⟩
    · exact q _ _ _ (.d (.list ys)) (Evl.Ex.trans (Evl.Ex.trans e1 e') (ex_upd a'.topG)) (a'.freeze a'.top) (Dp.lst (Evl.sq_of upd_same) (dp_exs (ex_upd a'.topG) _ _ da)) ⟨ys, rfl, j'⟩
end
end Nb
end
section
set_option Elab.async false
set_option linter.all false
set_option maxRecDepth 100000
set_option maxHeartbeats 4000000
/-! Own rules: x in a tuple of data, t[::-1], list + list, t.index(int), enumerate(tuple), repr of data. -/
namespace NbR
open PySem PySem.Spec PyProof.Rows L2
section
variable {X : Cx}
/-! ### in, not in: a list or tuple of data -/
def rInA (K : PySem.W.Frag) (neg : Bool) : R2 := fun x y H Q => ∃ d ds, Dp K H x d ∧ (Dp K H y (.list ds) ∨ Dp K H y (.tuple ds)) ∧ SeqAt.shaped d = true ∧ SeqAt.shaped (.list ds) = true ∧ Q (.bl (if neg then !ds.any fun z => PyData.eqv z d else ds.any fun z => PyData.eqv z d)) H
theorem op_inA (hu : X.A.units + 65 < cLine) : OpR X (compareOp .In) (rInA X.K false) := by
  intro pins s σ H x y v u Q I rx ry h
  obtain ⟨d, ds, hd, he, sd, se, q⟩ := h
  obtain ⟨as, r1⟩ := Dp.reads I d x v hd rx
  rcases he with he | he
  · obtain ⟨bs, r2⟩ := Dp.reads I (.list ds) y u he ry
    exact SeqAt.in_list_reads r2 r1 (SeqAt.canLay_of_shaped se) (SeqAt.canLay_of_shaped sd) (room_in_shaped sd hu) ⟨.bl _, H, I, rfl, q⟩
  · obtain ⟨bs, r2⟩ := Dp.reads I (.tuple ds) y u he ry
    exact SeqAt.in_tuple_reads r2 r1 (SeqAt.canLay_of_shaped se) (SeqAt.canLay_of_shaped sd) (room_in_shaped sd hu) ⟨.bl _, H, I, rfl, q⟩
theorem op_notInA (hu : X.A.units + 65 < cLine) : OpR X (compareOp .NotIn) (rInA X.K true) := by
  intro pins s σ H x y v u Q I rx ry h
  obtain ⟨d, ds, hd, he, sd, se, q⟩ := h
  obtain ⟨as, r1⟩ := Dp.reads I d x v hd rx
  rcases he with he | he
  · obtain ⟨bs, r2⟩ := Dp.reads I (.list ds) y u he ry
    exact SeqAt.notIn_list_reads r2 r1 (SeqAt.canLay_of_shaped se) (SeqAt.canLay_of_shaped sd) (room_in_shaped sd hu) ⟨.bl _, H, I, rfl, q⟩
  · obtain ⟨bs, r2⟩ := Dp.reads I (.tuple ds) y u he ry
    exact SeqAt.notIn_tuple_reads r2 r1 (SeqAt.canLay_of_shaped se) (SeqAt.canLay_of_shaped sd) (room_in_shaped sd hu) ⟨.bl _, H, I, rfl, q⟩
/-! ### list + list, whatever they are -/
def rCatL (K : PySem.W.Frag) : R2 := fun x y H Q => ∃ l b xs zs, x = .ref l ∧ y = .ref b ∧ SqL K H l xs ∧ SqL K H b zs ∧ xs.length + zs.length ≤ sizeLine ∧ ∀ p, H p = none → Q (.ref p) (upd H p (.lst (xs ++ zs)))
theorem op_catL : OpR X (binaryOp .Add) (rCatL X.K) := by
  intro pins s σ H x y v u Q I rx ry h
  obtain ⟨l, b, xs, zs, rfl, rfl, h1, h2, hz, q⟩ := h
  cases rx
  cases ry
  obtain ⟨its, r, ⟨⟨c1, d1, t1, s1⟩, n1, e1, hc1, hd1, ht1⟩, z1⟩ := I.list h1
  obtain ⟨its2, r2, ⟨⟨c2, d2, t2, s2⟩, n2, e2, hc2, hd2, ht2⟩, z2⟩ := I.list h2
  simp only at hc1 hd1 ht1 hc2 hd2 ht2
  subst hc1 hd1 ht1 hc2 hd2 ht2
  have l1 := r.length
  have l2 := r2.length
  refine concat_meets ⟨_, e1, rfl⟩ ⟨_, e2, rfl⟩ noFill_list_add seq_list_add PySem.F.slot_list_add PySem.F.entry_list_add (PySem.F.args_list_add_2 _ _) (list_addW l b its.toArray its2.toArray n1 n2 none none s1 s2 (by simpa using (show its.length + its2.length ≤ sizeLine by omega))) ⟨e1, e2, ?_⟩
  have ea : its.toArray ++ its2.toArray = (its ++ its2).toArray := by simp
  rw [ea]
  exact ⟨.ref _, _, I.lnew (t' := s.toks) (r.append r2) (by rw [List.length_append]; omega), rfl, q _ I.fresh⟩
/-! ### t.index(k), ints -/
theorem flat_ints : ∀ ys : List Int, (ys.map V.int).all flatV = true
  | [] => rfl
  | y :: ys => by
    rw [List.map_cons, List.all_cons, flat_ints ys]
    rfl
def rTIx (K : PySem.W.Frag) : V → List V → Hp → VK → Prop := fun x xs H Q => ∃ (p : Addr) (ys : List Int) (z : Int) (j : Nat), x = .ref p ∧ xs = [.int z] ∧ SqT K H p (ys.map V.int) ∧ ys[j]? = some z ∧ (∀ m, m < j → ys[m]? ≠ some z) ∧ Q (.int (j : Nat)) H
theorem mt_tixI : MtR X "tuple.index" (rTIx X.K) := by
  intro pins s σ H x xs v us Q I rx rs h
  obtain ⟨p, ys, z, j, rfl, rfl, hq, hy, hno, q⟩ := h
  cases rx
  obtain ⟨u, rfl, t, rfl⟩ := vals1 rs
  obtain ⟨its, r, ⟨⟨cls, dd, dt, sl⟩, ho, hc, n, hd⟩, hz⟩ := I.tuple hq
  simp only at hc hd
  subst hc
  subst hd
  have hl : its.toArray.size = ys.length := by rw [List.size_toArray, ← r.length, List.length_map]
  have hj : j < its.toArray.size := by rw [hl]; exact (List.getElem?_eq_some_iff.mp hy).1
  have at' : ∀ (m : Nat) (hm : m < its.toArray.size), ∃ y t', ys[m]? = some y ∧ its.toArray[m] = Value.int y t' := fun m hm => by
    have hm' : m < ys.length := by rw [← hl]; exact hm
    obtain ⟨w, hw, t', hw'⟩ := r.get (i := m) (x := .int ys[m]) (by simp [hm'])
    refine ⟨ys[m], t', List.getElem?_eq_getElem hm', ?_⟩
    have e := (List.getElem?_eq_some_iff.mp hw).2
    rw [← hw', ← e]
    simp
  refine call_meets PySem.F.slot_tuple_index ⟨_, ho, rfl⟩ PySem.F.entry_tuple_index (PySem.F.args_tuple_index_2 _ _) (TI.tuple_indexAt p its.toArray n dd sl (.int z t) (eqU (.int z)) j hj ?_ ?_)
    ⟨ho, fun w hw => mem_eqAt (x := .int z) ⟨t, rfl⟩ rfl r (flat_ints ys) w (by simpa using hw), ⟨.int (j : Nat), H, I.tok _, ⟨_, rfl⟩, q⟩⟩
  · obtain ⟨y, t', a1, a2⟩ := at' j hj
    rw [hy] at a1
    cases a1
    rw [a2]
    show (z == z) = true
    exact beq_self_eq_true z
  · intro m hm hmj
    obtain ⟨y, t', a1, a2⟩ := at' m hm
    rw [a2]
    show (y == z) = false
    refine beq_eq_false_iff_ne.mpr fun e => hno m hmj ?_
    rw [a1, e]
/-- SIZES.index(..): the tuple stands in the written part -/
theorem tyV_tupK {K : PySem.W.Frag} {p : Addr} {o : Obj} {H : Hp} (h : K.lookup p = some o) (hc : o.cls = .type "tuple") (hd : o.dict = none) : tyV K "tuple" (.ref p) H := .inr (.inl ⟨rfl, o, h, hc, hd⟩)
end
/-! ### t[::-1] -/
section
variable {prog : Program} {w : World} {A : Around} {E : Value → Shared → Prop} {s : Shared}
theorem applied_back {sl : Addr} {vl vu vs : Value} {n : Nat} {Q : Int × Int × Nat → Shared → Prop} (hs : s.heap.IsSliceOf sl vl vu vs) (pl : IsPart vl none) (pu : IsPart vu none) (ps : IsPart vs (some (-1)))
    (h : Q ((n : Int) - 1, -1, n) s) : wpAny (model prog w) A (Builtin.Slice.sliceApplied (.ref sl) (pure (n : Int))) Q E s := by
  obtain ⟨os, hos, hcs, hds⟩ := id hs
  unfold Builtin.Slice.sliceApplied Builtin.Slice.sliceFields
  refine wpAny_bind (wpAny_bind (wpAny_field hos hds (x := vl) rfl (wpAny_bind (wpAny_field hos hds (x := vu) rfl (wpAny_bind (wpAny_field hos hds (x := vs) rfl (wpAny_pure ?_)))))))
  refine wpAny_bind (HT.slicePart_ ps ?_)
  show wpAny _ _ (if ((-1 : Int) == 0) = true then _ else _) _ _ s
  rw [if_neg (by decide)]
  refine wpAny_bind (HT.slicePart_ pl (wpAny_bind (HT.slicePart_ pu (wpAny_bind (wpAny_pure ?_)))))
  have ea : Builtin.Slice.sliceAdjust none none (-1) (n : Int) = ((n : Int) - 1, -1) := by
    unfold Builtin.Slice.sliceAdjust
    simp
  have eb : Builtin.Slice.slicePlaces ((n : Int) - 1) (-1) (-1) = n := by
    unfold Builtin.Slice.slicePlaces
    rw [if_neg (by decide)]
    by_cases hn : n = 0
    · subst hn
      rfl
    · rw [if_pos (by omega)]
      have : ((n : Int) - 1 - (-1) - 1) / (- (-1)) + 1 = (n : Int) := by
        have e : (- (-1 : Int)) = 1 := rfl
        rw [e, Int.ediv_one]
        omega
      rw [this]
      rfl
  show wpAny _ _ (match Builtin.Slice.sliceAdjust none none (-1) (n : Int) with | (lo, hi) => pure (lo, (-1 : Int), Builtin.Slice.slicePlaces lo hi (-1))) _ _ s
  rw [ea]
  show wpAny _ _ (pure ((n : Int) - 1, (-1 : Int), Builtin.Slice.slicePlaces ((n : Int) - 1) (-1) (-1))) _ _ s
  rw [eb]
  exact wpAny_pure h
theorem fm_congr {α β : Type} {f g : α → Option β} : ∀ l : List α, (∀ m ∈ l, f m = g m) → l.filterMap f = l.filterMap g
  | [], _ => rfl
  | a :: l, h => by
    rw [List.filterMap_cons, List.filterMap_cons, h a List.mem_cons_self, fm_congr l fun m hm => h m (List.mem_cons_of_mem _ hm)]
theorem pick_back (xs : Array Value) : ((List.range xs.size).filterMap fun (m : Nat) => xs[(((xs.size : Nat) : Int) - 1 + (m : Int) * (-1)).toNat]?).toArray = xs.toList.reverse.toArray := by
  congr 1
  have e : ((List.range xs.size).filterMap fun (m : Nat) => xs[(((xs.size : Nat) : Int) - 1 + (m : Int) * (-1)).toNat]?) = (List.range xs.size).filterMap fun m => xs.toList.reverse[m]? := by
    refine fm_congr _ fun m hm => ?_
    have hm' : m < xs.size := List.mem_range.mp hm
    have e1 : (((xs.size : Nat) : Int) - 1 + (m : Int) * (-1)).toNat = xs.size - 1 - m := by omega
    rw [e1, List.getElem?_reverse (by simpa using hm')]
    simp
  rw [e]
  have hl : xs.size = xs.toList.reverse.length := by simp
  rw [hl]
  have all : ∀ l : List Value, (List.range l.length).filterMap (fun m => l[m]?) = l := fun l => by
    induction l with
    | nil => rfl
    | cons a l ih =>
      rw [List.length_cons, List.range_succ_eq_map, List.filterMap_cons]
      show a :: ((List.range l.length).map Nat.succ).filterMap (fun m => (a :: l)[m]?) = a :: l
      rw [List.filterMap_map]
      congr 1
  exact all _
theorem getItem_back {t sl : Addr} {items : Array Value} {vl vu vs : Value} {Q : Value → Shared → Prop} (ht : IsTup s.heap t items) (hs : s.heap.IsSliceOf sl vl vu vs) (pl : IsPart vl none) (pu : IsPart vu none) (ps : IsPart vs (some (-1)))
    (h : Q (.ref s.heap.objs.size) { s with heap := s.heap.push { cls := .type "tuple", data := .seq items.toList.reverse.toArray } }) (hsz : items.size ≤ sizeLine) : wpAny (model prog w) A (getItem (.ref t) (.ref sl)) Q E s := by
  have htake : sizeOk (.seq items.toList.reverse.toArray) := by
    show items.toList.reverse.toArray.size ≤ sizeLine
    simpa using hsz
  obtain ⟨os, hos, hcs, hds⟩ := id hs
  have hTs : s.TypeIs (.ref sl) "slice" := ⟨os, hos, hcs⟩
  unfold getItem
  try with_reducible refine wpAny_holding ?_
  first | refine wpAny_bind (wpAny_pure ?_) | skip
  refine wpAny_bind (wpAny_sequenceKey ht.typeIs (by decide) ?_)
  refine wpAny_bind (wpAny_callSpecial?_slot (name := Str.ofString "__getitem__") ht.typeIs PyProof.Rows.slot_tuple_getitem (wpAny_call_entry PyProof.Rows.slot_tuple_getitem ht.typeIs entry_tuple_getitem ?_ (args_tuple_getitem _ _)))
  show wpAny _ _ (Builtin.Tuple.tupleItemsOf (.ref t) >>= _) _ _ s
  refine wpAny_bind (tupleItemsOf_ ht ?_)
  refine wpAny_bind (wpAny_typeOf hTs ?_)
  rw [if_pos (by decide)]
  refine wpAny_bind (applied_back hs pl pu ps ?_)
  have hno : ¬ ((((items.size : Nat) : Int) - 1 == 0 && (-1 : Int) == 1 && items.size == items.size) = true) := by
    intro q
    rw [Bool.and_eq_true, Bool.and_eq_true] at q
    exact absurd q.1.2 (by decide)
  show wpAny _ _ (if (((items.size : Nat) : Int) - 1 == 0 && (-1 : Int) == 1 && items.size == items.size) = true then _ else _) _ _ s
  rw [if_neg hno, pick_back]
  first
    | exact wpAny_bind (m := Builtin.Tuple.tupleExact _) (wpAny_newObj_type (wpAny_pure ⟨_, rfl, wpAny_pure h⟩) htake)
    | exact wpAny_bind (m := Builtin.Tuple.tupleExact _) (wpAny_newObj_type (wpAny_bind (wpAny_pure (wpAny_pure ⟨_, rfl, wpAny_pure h⟩))) htake)
    | exact wpAny_bind (wpAny_bind (m := Builtin.Tuple.tupleExact _) (wpAny_newObj_type (wpAny_pure (wpAny_pure ⟨_, rfl, wpAny_pure h⟩)) htake))
    | exact wpAny_bind (wpAny_bind (m := Builtin.Tuple.tupleExact _) (wpAny_newObj_type (wpAny_pure ⟨_, rfl, wpAny_pure h⟩) htake))
end
section
variable {X : Cx}
def tRevT (K : PySem.W.Frag) (te : TE) : TE := fun σ H Q => te σ H fun x H1 => ∃ a xs, x = .ref a ∧ SqT K H1 a xs ∧ ∀ p, H1 p = none → Q (.ref p) (upd H1 p (.tup xs.reverse))
theorem pe_revT {e : Expr} {te : TE} {k : Nat} {p1 p2 p3 pos : Pos} (he : PE X e te) : PE X (.Subscript e (.Slice none none (some (.UnaryOp .USub (.Constant (.int 1) k p1) p2)) p3) pos) (tRevT X.K te) := by
  refine ⟨fun pins s σ H Q I h => ?_⟩
  refine Subscript_ (thn (he.run pins s σ H _ I h) fun v s1 ⟨x, H1, I1, r1, q1⟩ => ?_)
  obtain ⟨a, xs, ex, hx, q⟩ := q1
  subst ex
  cases r1
  have hst : PO X (some (.UnaryOp .USub (.Constant (.int 1) k p1) p2)) (tPart (tUn (rU fun i => .int (-i)) (tC (.int 1)))) := po_some (pe_un un_neg pe_int)
  refine wpAny_Slice (thn (po_none.run pins s1 σ H1 (fun o H2 => o = none ∧ H2 = H1) I1 ⟨rfl, rfl⟩) fun vl s2 ⟨l, H2, I2, pl, el, e2⟩ => ?_)
  subst el e2
  refine thn (po_none.run pins s2 σ H2 (fun o H3 => o = none ∧ H3 = H2) I2 ⟨rfl, rfl⟩) fun vu s3 ⟨u, H3, I3, pu, eu, e3⟩ => ?_
  subst eu e3
  refine thn (hst.run pins s3 σ H3 (fun o H4 => o = some (-1) ∧ H4 = H3) I3 ⟨1, rfl, -1, rfl, rfl, rfl⟩) fun vs s4 ⟨o, H4, I4, ps, eo, e4⟩ => ?_
  subst eo e4
  have I5 : Inv X pins σ H4 { s4 with heap := s4.heap.push { cls := .type "slice", data := .fields #[vl, vu, vs] } } := I4.kept (t' := s4.toks) fun b ob q => Heap.get?_push_of_some _ q
  obtain ⟨its, r, ht, hz⟩ := I5.tuple hx
  have hlen := r.length
  show wpAny (model X.prog X.w) X.A (subscriptTail e (.Slice none none (some (.UnaryOp .USub (.Constant (.int 1) k p1) p2)) p3) (.ref a) (.ref s4.heap.objs.size)) (EP X pins σ Q) X.xe { s4 with heap := s4.heap.push { cls := .type "slice", data := .fields #[vl, vu, vs] } }
  refine tail_any (ops := [.ref a, .ref s4.heap.objs.size]) ht.typeIs (PyProof.Rows.slot_tuple_getitem.lookup) ?_ (by with_unfolding_all rfl)
  refine getItem_back ht (Heap.IsSliceOf.new _ vl vu vs) pl pu ps ?_ (by rw [List.size_toArray]; omega)
  refine ⟨.ref _, _, I5.laid (t' := s4.toks) (o := .tup xs.reverse) (fun b ob q => Heap.get?_push_of_some _ q) (Nat.le_refl _) ?_, rfl, q _ (I5.hok.fresh (Nat.le_refl _))⟩
  exact ⟨by rw [List.length_reverse]; exact hz, _, r.reverse, IsTup.new _ _⟩
/-! ### repr of data -/
def rRepr (K : PySem.W.Frag) : List V → Hp → VK → Prop := fun xs H Q => ∃ x d, xs = [x] ∧ Dp K H x d ∧ ((∃ a, x = V.ref a) ∨ ∃ b, x = V.bl b) ∧ d.showable = true ∧ d.hasDict = false ∧ d.shown.length ≤ sizeLine ∧ d.depth ≤ 62 ∧ Q (.str d.shown) H
theorem call_repr (hg : X.A.guards = some []) (hu : X.A.units + 64 < cLine) : CallR X (.builtin "repr") (rRepr X.K) := by
  intro pins s σ H xs us Q I r h
  obtain ⟨x, d, rfl, hd, hx, h1, h2, h3, h4, q⟩ := h
  obtain ⟨u, rfl, ru⟩ := vals1 r
  obtain ⟨as, rd⟩ := Dp.reads I d x u hd ru
  rcases hx with ⟨a, rfl⟩ | ⟨b, rfl⟩
  · cases ru
    exact repr_of_reads' rd h1 (PyData.noDict_hsm h2) hg (by omega) (fun _ _ e => e) (fun h' u tk hk => ⟨.str d.shown, H, I.kept hk, ⟨u, rfl⟩, q⟩) h3
  · cases ru
    cases hd
    exact PySem.P.repr_of_bool ⟨.str _, H, I.tok _, ⟨_, rfl⟩, q⟩
end
/-! ### enumerate(t), t a tuple -/
section
theorem meets_enumT {l : Addr} {items : Array Value} {o : Obj} (B : Begins (.ref l) o fun h => h.IsTuple l items) :
    Meets (Builtin.«enumerate.__new__» ⟨[.type "enumerate", .ref l], []⟩) (fun _ R s => s.heap.IsTuple l items ∧
      R (.ok (.ret (.ref (s.heap.push o).objs.size))) { s with heap := (s.heap.push o).push { cls := .type "enumerate", data := .fields #[.none, .bool false, .ref s.heap.objs.size, rawInt 0, .none, .none] } }) :=
  .of_wp fun prog w A R s h => by
    obtain ⟨hp, g, d, tk, os⟩ := s
    obtain ⟨h1, h⟩ := h
    have hsub := sub_enumerate
    have q1 : ∀ {A' : Around} {E : Value → Shared → Prop} {Q : Value → Shared → Prop}, Q (.ref hp.objs.size) ⟨hp.push o, g, d, tk, os⟩ → wpAny (model prog w) A' (pyIter (.ref l)) Q E ⟨hp, g, d, tk, os⟩ :=
      fun q => B.iter prog w _ _ ⟨hp, g, d, tk, os⟩ _ h1 q
    wp_walk using q1
    refine wpAny_stack_any fun st => wpAny_pure ?_
    split
    · rename_i c _ _ _ _ _
      cases (c == Value.type "enumerate")
      · wp_walk using q1
        exact ⟨_, rfl, h⟩
      · wp_walk using q1
        exact ⟨_, rfl, h⟩
    · wp_walk using q1
      exact ⟨_, rfl, h⟩
end
end NbR
end
section
set_option Elab.async false
set_option linter.all false
set_option maxRecDepth 100000
set_option maxHeartbeats 4000000
/-! enumerate over a tuple: the iterable, its turns; data rules of NbR's readings. -/
namespace NbR
open PySem PySem.Spec PyProof.Rows L2
theorem call_enumT {prog : Program} {w : World} {A : Around} {E : Value → Shared → Prop} {s : Shared} {l : Addr} {items : Array Value} {Q : Value → Shared → Prop} (hL : s.heap.IsTuple l items)
    (h : ∀ h', IsEnum h' (s.heap.objs.size + 1) s.heap.objs.size 0 .none → h'.IsTupleIter s.heap.objs.size l 0 → (∀ b o, s.heap.get? b = some o → h'.get? b = some o) → Q (.ref (s.heap.objs.size + 1)) { s with heap := h' }) :
    wpAny (model prog w) A (call (.type "enumerate") [.ref l]) Q E s := by
  refine callType_new PySem.F.called_enumerate (by decide) (PySem.F.typeCall_enumerate_1 _) (PySem.F.newCall_enumerate_1 _) (fun obj => PySem.F.args_object_init_2 obj _) PySem.F.entry_enumerate_new (meets_enumT (begins_tuple l items)) ⟨hL, ?_⟩
  have hz : (s.heap.push { cls := .type "tuple_iterator", data := .fields #[.ref l, .int 0 0] }).objs.size = s.heap.objs.size + 1 := Heap.size_push ..
  show _ ∧ _
  rw [hz]
  have he : IsEnum ((s.heap.push { cls := .type "tuple_iterator", data := .fields #[.ref l, .int 0 0] }).push { cls := .type "enumerate", data := .fields #[.none, .bool false, .ref s.heap.objs.size, rawInt 0, .none, .none] }) (s.heap.objs.size + 1) s.heap.objs.size 0 .none := by
    have q := Heap.get?_push_size (s.heap.push { cls := .type "tuple_iterator", data := .fields #[.ref l, .int 0 0] }) (o := { cls := .type "enumerate", data := .fields #[.none, .bool false, .ref s.heap.objs.size, rawInt 0, .none, .none] }) rfl
    rw [hz] at q
    exact q
  exact ⟨⟨_, he, rfl⟩, h _ he ⟨_, Heap.get?_push_of_some _ (Heap.get?_push_size _ rfl), rfl, rfl⟩ fun b o x => Heap.get?_push_of_some _ (Heap.get?_push_of_some _ x)⟩
/-- the tuple at a, each item in a new pair with its place -/
def IteT (K : PySem.W.Frag) (a : Addr) : It :=
  ⟨fun i H => ∃ (xs : List V) (x : V), SqT K H a xs ∧ xs[i]? = some x, fun i H v H' => ∃ T x, v = .ref T ∧ H T = none ∧ H' = upd H T (.tup [.int (i : Nat), x]) ∧ ∀ xs, SqT K H a xs → xs[i]? = some x, fun i H => ∃ xs : List V, SqT K H a xs ∧ xs.length = i⟩
theorem turn_enumT {P : Program} {w : World} {K : PySem.W.Frag} {elts : List Expr} {kk : Nat} {tpos : Pos} (a e it : Addr) :
    Turn P w K (.Tuple elts kk tpos) (IteT K a) [e, it] e (fun i h => (∃ old, IsEnum h e it ((i : Nat) : Int) old) ∧ h.IsTupleIter it a i ∧ e ≠ it) where
  mem := by simp
  obj := fun i h st b hb => by
    obtain ⟨⟨old, he⟩, ⟨o, ho, hc, hd⟩, _⟩ := st
    have e' : b = e ∨ b = it := by simpa using hb
    rcases e' with z | z
    · rw [z]
      exact ⟨_, he, fun v q => nomatch q⟩
    · rw [z]
      exact ⟨o, ho, fun v q => by rw [hd] at q; cases q⟩
  keep := fun i h h' st k => let ⟨⟨old, he⟩, hi, hne⟩ := st; ⟨⟨old, k e (by simp) _ he⟩, hi.at fun o q => k it (by simp) o q, hne⟩
  item := by
    intro X hP hw hK hc i pins s σ H E I hf st hg
    subst hP hw hK
    obtain ⟨⟨old, he⟩, hit, hne⟩ := st
    obtain ⟨xs, x, hq, hx⟩ := hg
    obtain ⟨its, rv, p, hz⟩ := I.tuple hq
    obtain ⟨u, hu, ru⟩ := rv.get hx
    have hel : e < s.heap.objs.size := Heap.lt_size he
    have hil : it < s.heap.objs.size := by
      obtain ⟨_, q, _⟩ := hit
      exact Heap.lt_size q
    have hai : a ≠ it := by
      rintro rfl
      obtain ⟨o1, q1, c1, _⟩ := hit
      obtain ⟨o2, q2, c2, _⟩ := p
      rw [q1] at q2
      cases q2
      rw [c1] at c2
      exact absurd c2 (by decide)
    have hil2 : i < its.toArray.size := by
      have := (List.getElem?_eq_some_iff.mp hu).1
      simpa using this
    have D := Draws.tuple (prog := X.prog) (w := X.w) (A := X.A.in1) (I.ok.hd hc) it a hai its.toArray
    have hef : e ∉ [it, a] := by
      intro hm
      rcases List.mem_cons.mp hm with z | z
      · exact hne z
      · have z' : e = a := by simpa using z
        obtain ⟨o2, q2, c2, _⟩ := p
        rw [← z', he] at q2
        cases q2
        exact absurd (show (Value.type "enumerate" : Value) = Value.type "tuple" from c2) (by decide)
    refine wpAny_pyNext_enum_itemC D he (show s.heap.IsTupleIter it a i ∧ s.heap.IsTuple a its.toArray from ⟨hit, p⟩) hil2 hne hef fun y h' tk hy ho hit' hT hsz hk => ?_
    have ey : y = u := by
      have hy' : its.toArray[i]? = some y := hy
      have hu' : its.toArray[i]? = some u := by simpa using hu
      rw [hu'] at hy'
      exact (Option.some.inj hy').symm
    subst ey
    refine ⟨_, rfl, wpAny_letOwnedTupleGo_enum (s := { s with heap := h', toks := tk + 1 }) ho fun h'' he' sb => ?_⟩
    have hT2 : h''.get? s.heap.objs.size = some { cls := .type "tuple", data := .seq #[.int i tk, y] } := (sb.2 _ (Nat.ne_of_gt hel)).trans hT
    have new : ObjOk X.prog X.w (upd H s.heap.objs.size (.tup [.int (i : Nat), x])) h'' s.heap.objs.size (.tup [.int (i : Nat), x]) :=
      ⟨by show 2 ≤ sizeLine; decide, [.int i tk, y], .cons ⟨_, rfl⟩ (.cons ru .nil), ⟨_, hT2, rfl, _, rfl⟩⟩
    have I1 : Inv X pins σ (upd H s.heap.objs.size (.tup [.int (i : Nat), x])) { s with heap := h'', toks := tk + 1 } :=
      I.turnedNew (ch := [e, it]) (fun b ob hb q => (sb.2 b (fun z => hb (by simp [z]))).trans (hk b ob (fun z => hb (by simp [z])) (fun z => hb (by simp [z])) q)) hf (Nat.le_refl _) new
    refine ⟨.ref s.heap.objs.size, _, I1, rfl, ⟨_, x, rfl, I.hok.fresh (Nat.le_refl _), rfl, fun ys hy => by rw [I.tuple_inj hy hq]; exact hx⟩, ⟨⟨y, ?_⟩, hit'.1.at fun o q => (sb.2 it (Ne.symm hne)).trans q, hne⟩, fun b hb => ?_⟩
    · have e1 : ((i + 1 : Nat) : Int) = (i : Int) + 1 := by omega
      rw [e1]
      exact he'
    · have hb' : b < s.heap.objs.size := by
        have e' : b = e ∨ b = it := by simpa using hb
        rcases e' with z | z
        · rw [z]
          exact hel
        · rw [z]
          exact hil
      rw [upd_ne (Nat.ne_of_lt hb')]
      exact (hf b hb).1
  done := by
    intro X hP hw hK hc i pins s σ H E I hf st hg
    subst hP hw hK
    obtain ⟨⟨old, he⟩, hit, hne⟩ := st
    obtain ⟨xs, hq, hx⟩ := hg
    obtain ⟨its, rv, p, hz⟩ := I.tuple hq
    have hl := rv.length
    have hai : a ≠ it := by
      rintro rfl
      obtain ⟨o1, q1, c1, _⟩ := hit
      obtain ⟨o2, q2, c2, _⟩ := p
      rw [q1] at q2
      cases q2
      rw [c1] at c2
      exact absurd c2 (by decide)
    have hn : its.toArray.size = i := by
      rw [List.size_toArray]
      omega
    subst hn
    obtain ⟨f0, f1, f2, f3, f4, f5⟩ := hf it (by simp)
    have D := Draws.tuple (prog := X.prog) (w := X.w) (A := X.A.in1) (I.ok.hd hc) it a hai its.toArray
    exact wpAny_pyNext_enum_endD D he (show s.heap.IsTupleIter it a its.toArray.size ∧ s.heap.IsTuple a its.toArray from ⟨hit, p⟩) fun h' eb => ⟨rfl, I.turned (t' := s.toks) (fun b o hb q => eb b o hb q) f0 f1 f3 f4 f5⟩
  self := fun A i s Q E st h => let ⟨⟨_, he⟩, _⟩ := st; wpAny_pyIter_enum he h
def iEnumT (K : PySem.W.Frag) (ta : TA) : TI := fun σ H R => ta σ H fun vs H1 => ∃ a xs, vs = [.ref a] ∧ SqT K H1 a xs ∧ R (IteT K a) H1
theorem pi_enumT {X : Cx} {e : Expr} {ta : TA} {p pos tpos : Pos} {elts : List Expr} {kk : Nat} (hg : Gl X "enumerate") (hm : X.mg "enumerate" = none) (ha : PA X [e] ta) (hs : starEach [e] X.env = [(false, eval e X.env)] := by rfl) :
    PI X (.Tuple elts kk tpos) (.Call (.Name "enumerate" p) [e] [] pos) (iEnumT X.K ta) := by
  refine ⟨fun pins s σ H R I h => ?_⟩
  refine Call_ (ld_blt I hg hm boot_enumerate (PyProof.Rows.callWith_type1 (thn (ha.run pos pins s σ H _ I h) fun us s1 ⟨vs, H1, I1, r1, q1⟩ => ?_) hs rfl))
  obtain ⟨a, xs, ex, hq, q⟩ := q1
  subst ex
  cases r1 with
  | cons r rr =>
    cases rr
    cases r
    obtain ⟨its, rv, p', hz⟩ := I1.tuple hq
    refine call_enumT p' fun h' he hit hk => wpAny_pyIter_enum he ?_
    have I2 : Inv X pins σ H1 { s1 with heap := h' } := I1.kept (t' := s1.toks) hk
    refine ⟨s1.heap.objs.size + 1, [s1.heap.objs.size + 1, s1.heap.objs.size], _, _, H1, rfl, I2, turn_enumT a (s1.heap.objs.size + 1) s1.heap.objs.size, ⟨⟨.none, he⟩, hit, Nat.succ_ne_self _⟩, fun b hb => ?_, q⟩
    have e' : b = s1.heap.objs.size + 1 ∨ b = s1.heap.objs.size := by simpa using hb
    have hle : s1.heap.objs.size ≤ b := by
      rcases e' with z | z
      · rw [z]
        exact Nat.le_add_right _ _
      · rw [z]
        exact Nat.le_refl _
    exact I1.fpOk hle (I1.hok.fresh hle)
theorem walk_enumT {K : PySem.W.Frag} {a : Addr} {xs : List V} : Walk (IteT K a) xs.length (fun H => SqT K H a xs) (YPair (fun i => some (.int (i : Nat))) (fun i => xs[i]?)) where
  goes := fun i H hi g => ⟨xs, xs[i], g, by simp [hi]⟩
  stops := fun H g => ⟨xs, g, rfl⟩
  yields := fun i H v H' hi g y => by
    obtain ⟨T, x, e1, e2, e3, e4⟩ := y
    exact ⟨T, _, x, e1, e2, e3, rfl, e4 xs g⟩
end NbR
end
section
set_option Elab.async false
set_option linter.all false
set_option maxRecDepth 100000
set_option maxHeartbeats 4000000
/-! The calculus: rules on data of further readings; a def from its body; a call of a def by its name. -/
namespace Nb
open PySem L2
section
variable {K : Kx} {w : Wd} {te ta tb tc : TE} {tt tu : TT} {δ : Ds} {R R' S : Da → Prop} {d d' : Da} {B B' : Bool → Prop} {b : Bool}
/-! ### in, ==, +, reversed -/
theorem od_in {x y : PyData} {ds : List PyData} (hy : y = .list ds ∨ y = .tuple ds) (h1 : SeqAt.shaped x = true) (h2 : SeqAt.shaped (.list ds) = true) : OpD K w (NbR.rInA K false) (.d x) (.d y) (fun z => z = .d (.bool (ds.any fun z => PyData.eqv z x))) := fun v u G H hv hu a Q q => by
  refine ⟨x, ds, dp_ex a.ex _ _ hv, ?_, h1, h2, q _ G H (.d (.bool _)) (Evl.Ex.refl G) a (Dp.bl _) rfl⟩
  rcases hy with e | e
  · subst e
    exact .inl (dp_ex a.ex _ _ hu)
  · subst e
    exact .inr (dp_ex a.ex _ _ hu)
theorem od_notIn {x y : PyData} {ds : List PyData} (hy : y = .list ds ∨ y = .tuple ds) (h1 : SeqAt.shaped x = true) (h2 : SeqAt.shaped (.list ds) = true) : OpD K w (NbR.rInA K true) (.d x) (.d y) (fun z => z = .d (.bool (!ds.any fun z => PyData.eqv z x))) := fun v u G H hv hu a Q q => by
  refine ⟨x, ds, dp_ex a.ex _ _ hv, ?_, h1, h2, q _ G H (.d (.bool _)) (Evl.Ex.refl G) a (Dp.bl _) rfl⟩
  rcases hy with e | e
  · subst e
    exact .inl (dp_ex a.ex _ _ hu)
  · subst e
    exact .inr (dp_ex a.ex _ _ hu)
theorem od_eqD {x y : PyData} (h1 : SeqAt.shaped x = true) (h2 : SeqAt.shaped y = true) : OpD K w (rEqD K) (.d x) (.d y) (fun z => z = .d (.bool (PyData.eqv x y))) := fun v u G H hv hu a Q q =>
  ⟨x, y, dp_ex a.ex _ _ hv, dp_ex a.ex _ _ hu, h1, h2, q _ G H (.d (.bool _)) (Evl.Ex.refl G) a (Dp.bl _) rfl⟩
theorem od_neD {x y : PyData} (h1 : SeqAt.shaped x = true) (h2 : SeqAt.shaped y = true) : OpD K w (rNeD K) (.d x) (.d y) (fun z => z = .d (.bool (!PyData.eqv x y))) := fun v u G H hv hu a Q q =>
  ⟨x, y, dp_ex a.ex _ _ hv, dp_ex a.ex _ _ hu, h1, h2, q _ G H (.d (.bool _)) (Evl.Ex.refl G) a (Dp.bl _) rfl⟩
theorem od_sign {c : Nat} {z : Str} : OpD K w (fun x y H Q => ∃ (c : Nat) (z : Str), x = .str ⟨#[c]⟩ ∧ y = .str z ∧ Q (.bl (decide (c ∈ z.cps.toList))) H) (.d (.str ⟨#[c]⟩)) (.d (.str z)) (fun q => q = .d (.bool (decide (c ∈ z.cps.toList)))) := fun v u G H hv hu a Q q => by
  cases (show Dp K G v (.str ⟨#[c]⟩) from hv)
  cases (show Dp K G u (.str z) from hu)
  exact ⟨c, z, rfl, rfl, q _ G H (.d (.bool _)) (Evl.Ex.refl G) a (Dp.bl _) rfl⟩
theorem od_isN {x : PyData} : OpD K w (fun x y H Q => y = V.non ∧ Q (.bl (decide (x = .non))) H) (.d x) (.d .none) (fun q => q = .d (.bool (match x with | .none => true | _ => false))) := fun v u G H hv hu a Q q => by
  cases (show Dp K G u .none from hu)
  refine ⟨rfl, q _ G H (.d (.bool _)) (Evl.Ex.refl G) a (show Dp K G _ (.bool _) from ?_) rfl⟩
  cases (show Dp K G v x from hv) <;> exact .bl _
theorem od_catL {xs ys : List PyData} (hz : xs.length + ys.length ≤ 100000) : OpD K w (NbR.rCatL K) (.d (.list xs)) (.d (.list ys)) (fun z => z = .d (.list (xs ++ ys))) := fun v u G H hv hu a Q q => by
  cases (show Dp K G v (.list xs) from hv) with
  | lst h1 h2 =>
    cases (show Dp K G u (.list ys) from hu) with
    | lst k1 k2 =>
      rename_i p1 vs p2 us
      refine ⟨p1, p2, vs, us, rfl, rfl, Evl.ex_l a.ex h1, Evl.ex_l a.ex k1, Evl.sz_of (by rw [dpAll_len h2, dpAll_len k2]; exact hz), fun p hp => ?_⟩
      have e4 := ex_upd (a.freeG hp) (o := .lst (vs ++ us))
      exact q _ _ _ (.d (.list (xs ++ ys))) e4 (a.new hp) (Dp.lst (Evl.sq_of upd_same) (dpAll_app (dp_exs e4 _ _ h2) (dp_exs e4 _ _ k2))) rfl
theorem od_catT {xs ys : List PyData} (hz : xs.length + ys.length ≤ 100000) : OpD K w (rCatA K) (.d (.tuple xs)) (.d (.tuple ys)) (fun z => z = .d (.tuple (xs ++ ys))) := fun v u G H hv hu a Q q => by
  cases (show Dp K G v (.tuple xs) from hv) with
  | tup h1 h2 =>
    cases (show Dp K G u (.tuple ys) from hu) with
    | tup k1 k2 =>
      rename_i p1 vs p2 us
      have l1 := dpAll_len h2
      have l2 := dpAll_len k2
      refine ⟨p1, p2, vs, us, rfl, rfl, Evl.ex_t a.ex h1, Evl.ex_t a.ex k1, Evl.sz_of (by rw [l1, l2]; exact hz), fun e => ?_, fun e1 e2 => ?_, fun _ _ p hp => ?_⟩
      · subst e
        have : xs = [] := List.length_eq_zero_iff.mp l1.symm
        subst this
        exact q _ G H (.d (.tuple ([] ++ ys))) (Evl.Ex.refl G) a (show Dp K G _ _ from Dp.tup k1 k2) rfl
      · subst e2
        have : ys = [] := List.length_eq_zero_iff.mp l2.symm
        subst this
        refine q _ G H (.d (.tuple (xs ++ []))) (Evl.Ex.refl G) a (show Dp K G _ _ from ?_) rfl
        rw [List.append_nil]
        exact Dp.tup h1 h2
      · have e4 := ex_upd (a.freeG hp) (o := .tup (vs ++ us))
        exact q _ _ _ (.d (.tuple (xs ++ ys))) e4 (a.new hp) (Dp.tup (Evl.st_of upd_same) (dpAll_app (dp_exs e4 _ _ h2) (dp_exs e4 _ _ k2))) rfl
theorem ev_revT {xs : List PyData} (h : Ev1 K w te δ (.d (.tuple xs))) : Ev1 K w (NbR.tRevT K te) δ (.d (.tuple xs.reverse)) := fun σ G H s a Q q =>
  h σ G H s a _ fun v G1 H1 d e1 a1 r1 h1 => by
    subst h1
    cases (show Dp K G1 v (.tuple xs) from r1) with
    | tup x1 x2 =>
      rename_i p0 vs
      refine ⟨_, _, rfl, Evl.ex_t a1.ex x1, fun p hp => ?_⟩
      have e4 := ex_upd (a1.freeG hp) (o := .tup vs.reverse)
      exact q _ _ _ (.d (.tuple xs.reverse)) (Evl.Ex.trans e1 e4) (a1.new hp) (Dp.tup (Evl.st_of upd_same) (dpAll_rev (dp_exs e4 _ _ x2))) rfl
/-! ### truth of an int -/
theorem et_truth {i : Int} (h : Ev1 K w te δ (.d (.int i))) : EvT1 K w (fun σ H Q => te σ H fun x H' => ∃ k, TruV K x H' k ∧ Q k H') δ (i != 0) := fun σ G H s a Q q =>
  h σ G H s a _ fun v G1 H1 d e1 a1 r1 h1 => by
    subst h1
    cases (show Dp K G1 v (.int i) from r1)
    exact ⟨i != 0, rfl, q _ G1 H1 e1 a1 rfl⟩
/-! ### repr -/
theorem ca_repr {x : PyData} (hx : (∃ xs, x = .tuple xs) ∨ ∃ b, x = .bool b) (h1 : x.showable = true) (h2 : x.hasDict = false) (h3 : x.shown.length ≤ sizeLine) (h4 : x.depth ≤ 62) : CaD K w (NbR.rRepr K) [.d x] (fun z => z = .d (.str x.shown)) := fun vs G H h a Q q => by
  obtain ⟨v, e, hv⟩ := drAll1 h
  subst e
  refine ⟨v, x, rfl, dp_ex a.ex _ _ hv, ?_, h1, h2, h3, h4, q _ G H (.d (.str _)) (Evl.Ex.refl G) a (Dp.str _) rfl⟩
  rcases hx with ⟨xs, rfl⟩ | ⟨b, rfl⟩
  · cases (show Dp K G v (.tuple xs) from hv)
    exact .inl ⟨_, rfl⟩
  · cases (show Dp K G v (.bool b) from hv)
    exact .inr ⟨_, rfl⟩
/-! ### isinstance -/
/-- the type of a datum -/
def tyD : PyData → String
  | .none => "NoneType"
  | .bool _ => "bool"
  | .int _ => "int"
  | .str _ => "str"
  | .list _ => "list"
  | .tuple _ => "tuple"
  | .dict _ => "dict"
theorem tyX_of {G H : Hp} {v : V} {x : PyData} (h : Dp K G v x) (e : Ex G H) : TyX K H v (.type (tyD x)) := by
  cases h with
  | non => exact .base .non
  | bl b => exact .base (.bl b)
  | int i => exact .base (.int i)
  | str z => exact .base (.str z)
  | lst h1 h2 =>
    rcases Evl.ex_l e h1 with (h | ⟨o, h⟩) | ⟨o, its, n, k, c, _⟩
    · exact .base (.lst h)
    · exact .base (.frz h)
    · exact .kList k c
  | tup h1 h2 =>
    rcases Evl.ex_t e h1 with (h | ⟨o, h⟩) | ⟨o, its, n, k, c, _⟩
    · exact .base (.tup h)
    · exact .fTuple h
    · exact .kTuple k c
/-- a built-in class as an argument -/
theorem ev_isi {n : String} {x : PyData} {r : Bool} (ha : Ev1 K w ta δ (.d x)) (hk : kitB (tyD x) n = some r) : Ev1 K w (tCB (rIsi K) (tCons ta (tCons (tC (.ty n)) tNil))) δ (.d (.bool r)) := fun σ G H s a Q q =>
  ha σ G H s a _ fun v G1 H1 d e1 a1 r1 h1 => by
    subst h1
    exact ⟨v, .ty n, .type (tyD x), .type n, r, rfl, .ty n, tyX_of (show Dp K G1 v x from r1) a1.ex, kit_ty hk, q _ G1 H1 (.d (.bool r)) e1 a1 (Dp.bl r) rfl⟩
theorem ev_isi2 {n m : String} {x : PyData} {r1 r2 : Bool} (ha : Ev1 K w ta δ (.d x)) (h1 : kitB (tyD x) n = some r1) (h2 : kitB (tyD x) m = some r2) : Ev1 K w (tCB (rIsiT K) (tCons ta (tCons (tTup (tCons (tC (.ty n)) (tCons (tC (.ty m)) tNil))) tNil))) δ (.d (.bool (r1 || r2))) := fun σ G H s a Q q =>
  ha σ G H s a _ fun v G1 H1 d e1 a1 rr1 hh1 => by
    subst hh1
    refine ⟨by show 2 ≤ sizeLine; decide, fun p hp => ?_⟩
    have e4 := ex_upd (a1.freeG hp) (o := .tup [.ty n, .ty m])
    refine ⟨v, p, [.ty n, .ty m], .type (tyD x), [.type n, .type m], r1 || r2, rfl, upd_same, .cons (.ty n) (.cons (.ty m) .nil), tyX_of (dp_ex e4 x v rr1) (a1.new hp).ex, ?_, q _ _ _ (.d (.bool (r1 || r2))) (Evl.Ex.trans e1 e4) (a1.new hp) (Dp.bl _) rfl⟩
    refine kitAny_cons (b := r1) (kit_ty h1) (fun e => ?_) fun e => by rw [e]; rfl
    refine kitAny_cons (b := r2) (kit_ty h2) (fun e' => ?_) fun e' => by rw [e']; simp
    rw [e, e']
    exact kitAny_nil
/-! ### index -/
theorem ev_tixK {p : Addr} {o : Obj} {ys : List Int} {z : Int} {j : Nat} (hl : K.lookup p = some o) (hc : o.cls = .type "tuple") (hd : o.dict = none) (hs : ∀ H, SqT K H p (ys.map V.int)) (hz : Ev1 K w te δ (.d (.int z))) (h1 : ys[j]? = some z) (h2 : ∀ m, m < j → ys[m]? ≠ some z) :
    Ev1 K w (tBM K "tuple" (NbR.rTIx K) (tC (.ref p)) (tCons te tNil)) δ (.d (.int (j : Int))) := fun σ G H s a Q q =>
  ⟨NbR.tyV_tupK hl hc hd, hz σ G H s a _ fun v G1 H1 d e1 a1 r1 hh => by
    subst hh
    cases (show Dp K G1 v (.int z) from r1)
    exact ⟨p, ys, z, j, rfl, rfl, hs H1, h1, h2, q _ G1 H1 (.d (.int (j : Int))) e1 a1 (Dp.int _) rfl⟩⟩
/-- [..].index(k) -/
theorem ev_lixI {ys : List Int} {z : Int} {j : Nat} (hl : Ev1 K w ta δ (.d (.list (ys.map PyData.int)))) (hz : Ev1 K w te δ (.d (.int z))) (h1 : ys[j]? = some z) (h2 : ∀ m, m < j → ys[m]? ≠ some z) :
    Ev1 K w (tBM K "list" (rIndex K) ta (tCons te tNil)) δ (.d (.int (j : Int))) := fun σ G H s a Q q =>
  hl σ G H s a _ fun v G1 H1 d e1 a1 r1 hh => by
    subst hh
    cases (show Dp K G1 v (.list _) from r1) with
    | lst x1 x2 =>
      rw [ints_dpAll x2] at x1
      refine ⟨.inl ⟨rfl, _, Evl.ex_l a1.ex x1⟩, hz σ G1 H1 (s.ex e1) a1 _ fun u G2 H2 d2 e2 a2 r2 hh => ?_⟩
      subst hh
      cases (show Dp K G2 u (.int z) from r2)
      refine ⟨_, ys.map V.int, .int z, j, .int z, rfl, rfl, Evl.ex_l (Evl.Ex.trans e2 a2.ex) x1, rfl, NbR.flat_ints ys, by rw [List.getElem?_map, h1]; rfl, by show (z == z) = true; exact beq_self_eq_true z, fun m z' hm hz' => ?_, q _ G2 H2 (.d (.int (j : Int))) (Evl.Ex.trans e1 e2) a2 (Dp.int _) rfl⟩
      rw [List.getElem?_map] at hz'
      cases e : ys[m]? with
      | none =>
        rw [e] at hz'
        cases hz'
      | some y =>
        rw [e] at hz'
        cases hz'
        show (y == z) = false
        refine beq_eq_false_iff_ne.mpr fun q' => h2 m hm ?_
        rw [e, q']
/-! ### join -/
theorem strs_dpAll {G : Hp} : ∀ {ns : List Str} {vs : List V}, DpAll K G vs (ns.map PyData.str) → vs = ns.map V.str
  | [], _, h => by cases h; rfl
  | n :: ns, _, h => by
    cases h with
    | cons h1 h2 =>
      cases h1
      rw [strs_dpAll h2]
      rfl
theorem ev_join {ys : List Str} {z : Str} (ha : Ev1 K w ta δ (.d (.str z))) (hl : Ev1 K w te δ (.d (.list (ys.map PyData.str)))) (hz : (ys.map (·.length)).sum + ys.length * z.length ≤ 100000) :
    Ev1 K w (tM1 (fun x xs H Q => ∃ a p, ∃ ys : List Str, x = .str a ∧ xs = [.ref p] ∧ (SqL K H p (ys.map V.str) ∨ SqT K H p (ys.map V.str)) ∧ (ys.map (·.length)).sum + ys.length * a.length ≤ 16777216 ∧ Q (.str (Txt.join a ys)) H) ta te) δ (.d (.str (Txt.join z ys))) := fun σ G H s a Q q =>
  ha σ G H s a _ fun v G1 H1 d e1 a1 r1 hh => by
    subst hh
    cases (show Dp K G1 v (.str z) from r1)
    refine ⟨⟨z, rfl⟩, hl σ G1 H1 (s.ex e1) a1 _ fun u G2 H2 d2 e2 a2 r2 hh => ?_⟩
    subst hh
    cases (show Dp K G2 u (.list _) from r2) with
    | lst x1 x2 =>
      rw [strs_dpAll x2] at x1
      exact ⟨z, _, ys, rfl, rfl, .inl (Evl.ex_l a2.ex x1), Nat.le_trans hz (by decide), q _ G2 H2 (.d (.str _)) (Evl.Ex.trans e1 e2) a2 (Dp.str _) rfl⟩
/-! ### a field of a Make -/
theorem ev_gates {gs : PyData} (ha : Ev1 K w ta δ (.mk gs)) (hc : Cls K (He.ga K "Make")) (hn : NoAttr K (He.ga K "Make") "gates") : Ev1 K w (tFld K ta "gates") δ (.d gs) := fun σ G H s a Q q =>
  ha σ G H s a _ fun v G1 H1 d e1 a1 r1 hh => by
    subst hh
    obtain ⟨x, dx, u, rfl, g1, g2⟩ := r1
    exact ⟨x, _, dx, _, u, rfl, a1.ex _ _ g1, hc, hn, by simp [List.lookup], q u G1 H1 (.d gs) e1 a1 g2 rfl⟩
/-! ### sorted tuples of ints -/
abbrev iT (ns : List Int) : PyData := .tuple (ns.map PyData.int)
theorem perm_dp {G : Hp} {vs us : List V} (h : us.Perm vs) : ∀ {xs : List PyData}, DpAll K G vs xs → ∃ ys : List PyData, ys.Perm xs ∧ DpAll K G us ys := by
  induction h with
  | nil =>
    intro xs hx
    exact ⟨xs, .refl _, hx⟩
  | cons a _ ih =>
    intro xs hx
    cases hx with
    | cons h1 h2 =>
      obtain ⟨ys, p, k⟩ := ih h2
      exact ⟨_, p.cons _, .cons h1 k⟩
  | swap a c l =>
    intro xs hx
    cases hx with
    | cons h1 h2 =>
      cases h2 with
      | cons h2 h3 => exact ⟨_, List.Perm.swap _ _ _, .cons h2 (.cons h1 h3)⟩
  | trans _ _ ih1 ih2 =>
    intro xs hx
    obtain ⟨ys, p, k⟩ := ih2 hx
    obtain ⟨zs, p2, k2⟩ := ih1 k
    exact ⟨zs, p2.trans p, k2⟩
theorem tupI_of {G H : Hp} {v : V} {ns : List Int} (h : Dp K G v (iT ns)) (e : Ex G H) : TupI K H v ns := by
  cases h with
  | tup h1 h2 =>
    rw [ints_dpAll h2] at h1
    exact ⟨_, rfl, Evl.ex_t e h1⟩
theorem pw_dp {G H : Hp} {B : Int} (e : Ex G H) : ∀ {us : List V} {rows : List (List Int)}, DpAll K G us (rows.map iT) → us.Pairwise (fun x y => ∀ n m, TupI K H x n → TupI K H y m → TS.code B n ≤ TS.code B m) → rows.Pairwise fun n m => TS.code B n ≤ TS.code B m
  | _, [], _, _ => .nil
  | _, n :: rows, h, p => by
    cases h with
    | cons h1 h2 =>
      obtain ⟨p1, p2⟩ := List.pairwise_cons.mp p
      refine List.pairwise_cons.mpr ⟨fun m hm => ?_, pw_dp e h2 p2⟩
      obtain ⟨j, hj⟩ := List.getElem?_of_mem hm
      obtain ⟨u, e1, e2⟩ := dpAll_get h2 (show (rows.map iT)[j]? = some (iT m) by rw [List.getElem?_map, hj]; rfl)
      exact p1 u (List.mem_of_getElem? e1) n m (tupI_of h1 e) (tupI_of e2 e)
theorem ca_sortT {d : Nat} {B : Int} {rows : List (List Int)} (hl : rows.length < 64) (hr : ∀ n ∈ rows, n.length = d ∧ TS.Bd B n) :
    CaD K w (rSortU K d B) [.d (.list (rows.map iT))] (fun z => ∃ rows' : List (List Int), rows'.Perm rows ∧ (rows'.Pairwise fun n m => TS.code B n ≤ TS.code B m) ∧ z = .d (.list (rows'.map iT))) := fun vs G H h a Q q => by
  obtain ⟨v, e, hv⟩ := drAll1 h
  subst e
  cases (show Dp K G v (.list _) from hv) with
  | lst h1 h2 =>
    rename_i p0 us
    have hlen := dpAll_len h2
    refine ⟨_, us, rfl, Evl.ex_l a.ex h1, by rw [hlen, List.length_map]; exact hl, fun x hx => ?_, fun ys p hp hs hn => ?_⟩
    · obtain ⟨j, hj⟩ := List.getElem?_of_mem hx
      obtain ⟨y, e1, e2⟩ := dpAll_get' h2 hj
      rw [List.getElem?_map] at e1
      cases e3 : rows[j]? with
      | none =>
        rw [e3] at e1
        cases e1
      | some n =>
        rw [e3] at e1
        cases e1
        have := hr n (List.mem_of_getElem? e3)
        exact ⟨n, tupI_of e2 a.ex, this.1, this.2⟩
    · obtain ⟨zs, pz, kz⟩ := perm_dp hp h2
      obtain ⟨rows', e5, p5⟩ : ∃ rows' : List (List Int), zs = rows'.map iT ∧ rows'.Perm rows := by
        have hm : ∀ z ∈ zs, ∃ n ∈ rows, z = iT n := fun z hz => by
          have := pz.mem_iff.mp hz
          obtain ⟨n, hn, e⟩ := List.mem_map.mp this
          exact ⟨n, hn, e.symm⟩
        let un : PyData → List Int := fun z => match z with | .tuple xs => xs.map (fun y => match y with | .int i => i | _ => 0) | _ => []
        have un_i : ∀ n : List Int, un (iT n) = n := fun n => by
          show (n.map PyData.int).map (fun y => match y with | .int i => i | _ => 0) = n
          rw [List.map_map]
          exact List.map_id'' (fun _ => rfl) n
        refine ⟨zs.map un, ?_, ?_⟩
        · rw [List.map_map]
          have : ∀ l : List PyData, (∀ z ∈ l, ∃ n ∈ rows, z = iT n) → l.map (iT ∘ un) = l := fun l => by
            induction l with
            | nil => intro _; rfl
            | cons z l ih =>
              intro h
              obtain ⟨n, _, e⟩ := h z List.mem_cons_self
              rw [List.map_cons, ih fun y hy => h y (List.mem_cons_of_mem _ hy)]
              subst e
              show iT (un (iT n)) :: l = iT n :: l
              rw [un_i]
          exact (this zs hm).symm
        · have := pz.map un
          rw [List.map_map, show rows.map (un ∘ iT) = rows from List.map_id'' (fun n => un_i n) rows] at this
          exact this
      subst e5
      have e4 := ex_upd (a.freeG hn) (o := .lst ys)
      exact q _ _ _ (.d (.list (rows'.map iT))) e4 (a.new hn) (Dp.lst (Evl.sq_of upd_same) (dp_exs e4 _ _ kz)) ⟨rows', p5, pw_dp a.ex kz hs, rfl⟩
end

/-! ### loops over enumerate -/
section
variable {K : Kx} {b : Hp} {w : Wd} {D : Ends} {ts tr : TS} {δ : Ds}
theorem run_enumT {ta : TA} {i j : Nat} {xs : List PyData} (J : Nat → Wd → Ds → Prop) (h : EvA1 K w ta δ [.d (.tuple xs)]) (h0 : J 0 w δ)
    (hs : ∀ (n : Nat) (x : PyData) w' δ' b', xs[n]? = some x → J n w' δ' → Ex b b' → Run K b' w' { D with nx := Nx K b' (J (n + 1)), ct := Nx K b' (J (n + 1)), bk := tr D } ts ((δ'.set i (some (.d (.int (n : Int))))).set j (some (.d x))))
    (hd : ∀ w' δ', J xs.length w' δ' → Run K b w' D tr δ') : Run K b w D (tSeq (tFor (NbR.iEnumT K ta) (gTup K 2 (gCons (gName i) (gCons (gName j) gNil))) ts) tr) δ := fun σ G H e s a =>
  h σ G H s a _ fun vs G1 H1 d e1 a1 r1 h1 => by
    subst h1
    obtain ⟨v, e2, hv⟩ := drAll1 r1
    subst e2
    cases (show Dp K G1 v (.tuple xs) from hv) with
    | tup x1 x2 =>
      rename_i p us
      have hl := dpAll_len x2
      refine ⟨p, us, rfl, Evl.ex_t a1.ex x1, for_it (NbR.walk_enumT (K := K) (a := p) (xs := us)) (D := { D with nx := tr D }) (fun n => Nx K G1 (J n)) ⟨w, δ, G1, Evl.Ex.refl G1, h0, s.ex e1, a1⟩ (fun n σ' H' _ ⟨w', δ', G', e', _, _, a'⟩ => Evl.ex_t (Evl.Ex.trans e' a'.ex) x1) (fun n y σ' H' H'' hn ⟨w', δ', G', e', j', s', a'⟩ hy => ?_) fun σ' H' ⟨w', δ', G', e', j', s', a'⟩ => ?_⟩
      · obtain ⟨T, x', y', rfl, hT, rfl, hx', hy'⟩ := hy
        cases hx'
        obtain ⟨x, hx, rx⟩ := dpAll_get' x2 hy'
        have e4 := ex_upd (a'.freeG hT) (o := .tup [.int (n : Int), y'])
        have hr := hs n x w' δ' G1 hx j' (Evl.Ex.trans e e1)
        exact ⟨T, _, rfl, Or.inl (Or.inl upd_same), rfl, _, _, rfl, _, _, rfl, rfl, hr _ _ _ (Evl.Ex.trans e' e4) (((s'.ex e4).set i (show Dr K _ _ (.d (.int (n : Int))) from Dp.int _)).set j (show Dr K _ _ (.d x) from dp_ex (Evl.Ex.trans e' e4) x y' rx)) (a'.new hT)⟩
      · rw [hl] at j'
        exact hd w' δ' j' σ' G' H' (Evl.Ex.trans (Evl.Ex.trans e e1) e') s' a'
theorem run_enumL {ta : TA} {i j : Nat} {xs : List PyData} (J : Nat → Wd → Ds → Prop) (h : EvA1 K w ta δ [.d (.list xs)]) (h0 : J 0 w δ)
    (hs : ∀ (n : Nat) (x : PyData) w' δ' b', xs[n]? = some x → J n w' δ' → Ex b b' → Run K b' w' { D with nx := Nx K b' (J (n + 1)), ct := Nx K b' (J (n + 1)), bk := tr D } ts ((δ'.set i (some (.d (.int (n : Int))))).set j (some (.d x))))
    (hd : ∀ w' δ', J xs.length w' δ' → Run K b w' D tr δ') : Run K b w D (tSeq (tFor (iEnum K ta) (gTup K 2 (gCons (gName i) (gCons (gName j) gNil))) ts) tr) δ := fun σ G H e s a =>
  h σ G H s a _ fun vs G1 H1 d e1 a1 r1 h1 => by
    subst h1
    obtain ⟨v, e2, hv⟩ := drAll1 r1
    subst e2
    cases (show Dp K G1 v (.list xs) from hv) with
    | lst x1 x2 =>
      rename_i p us
      have hl := dpAll_len x2
      refine ⟨p, us, rfl, Evl.ex_l a1.ex x1, for_it (walk_enum (K := K) (a := p) (xs := us)) (D := { D with nx := tr D }) (fun n => Nx K G1 (J n)) ⟨w, δ, G1, Evl.Ex.refl G1, h0, s.ex e1, a1⟩ (fun n σ' H' _ ⟨w', δ', G', e', _, _, a'⟩ => Evl.ex_l (Evl.Ex.trans e' a'.ex) x1) (fun n y σ' H' H'' hn ⟨w', δ', G', e', j', s', a'⟩ hy => ?_) fun σ' H' ⟨w', δ', G', e', j', s', a'⟩ => ?_⟩
      · obtain ⟨T, x', y', rfl, hT, rfl, hx', hy'⟩ := hy
        cases hx'
        obtain ⟨x, hx, rx⟩ := dpAll_get' x2 hy'
        have e4 := ex_upd (a'.freeG hT) (o := .tup [.int (n : Int), y'])
        have hr := hs n x w' δ' G1 hx j' (Evl.Ex.trans e e1)
        exact ⟨T, _, rfl, Or.inl (Or.inl upd_same), rfl, _, _, rfl, _, _, rfl, rfl, hr _ _ _ (Evl.Ex.trans e' e4) (((s'.ex e4).set i (show Dr K _ _ (.d (.int (n : Int))) from Dp.int _)).set j (show Dr K _ _ (.d x) from dp_ex (Evl.Ex.trans e' e4) x y' rx)) (a'.new hT)⟩
      · rw [hl] at j'
        exact hd w' δ' j' σ' G' H' (Evl.Ex.trans (Evl.Ex.trans e e1) e') s' a'
end

/-! ### a def, and its call -/
section
variable {P : Program} {w0 : World} {K : Kx} {mg : Str → Option Value} {base : Heap}
/-- the def x of the top stands, at its name's address -/
structure Df (K : Kx) (mg : Str → Option Value) (x : Str) (st : Stmt) : Prop where
  at_ : mg x = some (.ref (He.ga K x))
  fn : ∃ fd, FunD K x x (defArgs st) (defBody st) (defScope st) [] [] (He.ga K x) fd
/-- the function object at f -/
def FdAt (K : Kx) (f : Addr) (fd : FuncData) : Prop := ∃ oc od osl, K.lookup f = some ⟨oc, od, .func fd, osl⟩
theorem FdAt.of {K : Kx} {x qual : Str} {params : Arguments} {body : List Stmt} {scope : Scope} {dvs : List V} {kws : List (Str × V)} {f : Addr} {fd : FuncData} (F : FunD K x qual params body scope dvs kws f fd) : FdAt K f fd := by
  obtain ⟨oc, od, dV, kV, doc, pm, an, cdv, ct, osl, rfl, lk, _⟩ := F.ex
  exact ⟨oc, od, osl, lk⟩
/-- it keeps a promise; nothing leaves it -/
def Ok (P : Program) (w0 : World) (K : Kx) (mg : Str → Option Value) (base : Heap) (k : Nat) (x : Str) (ps : List Str) (sp : Sp) : Prop :=
  mg x = some (.ref (He.ga K x)) ∧ PySem.W.keepIn K (.ref (He.ga K x)) = true ∧ ∃ fd, FnOk P w0 K mg base CX0 k (He.ga K x) fd ps sp ∧ Binds K fd ps [] ∧ FdAt K (He.ga K x) fd
theorem fn_ok {α : Type} {x : Str} {st : Stmt} {N ps : List Str} {k : Nat} {enc : α → List Da} {pre : Wd → α → Prop} {R : α → Da → Prop} (F : Df K mg x st) (S : FnScope N ps (defScope st)) (len : ∀ a, (enc a).length = ps.length)
    (hb : ∀ (kV doc pm : Value) (an : Option Addr) (cdv ct : Value) (us : List Value), us.length = ps.length → bindArgs (PySem.W.fnOf x x (defArgs st) (defBody st) (defScope st) .none kV doc pm an cdv ct) ⟨us, []⟩ = pure (ps.zip us))
    (body : ∀ (f : Addr) (cdv : Value) (A : Around) (outer : List Env) (s : Shared) (H : Hp) (E : XK), Room k (A.deeper (PyProof.Rows.envOfC x (defScope st) s.heap.objs.size f cdv)) →
      ∃ t, PSs (cxOf CX0 P w0 K mg base N x (defScope st) f cdv A outer s H E).nox (defBody st) t ∧
        ∀ b w D a, pre w a → RetO K b w D (R a) → (R a (.d .none) → ∀ σ G H1, Ex b G → At K w G H1 → D.nx σ H1) → Run K b w D t (startD N (enc a))) :
    Ok P w0 K mg base (k + 1) x ps (spW K enc pre R) := by
  obtain ⟨fd, FD⟩ := F.fn
  refine ⟨F.at_, FD.kp, fd, FunD.ok FD S (fun vs H Q E h => ?_) (fun cdv A outer s H vs Q E hr h => ?_), FD.bindsN hb, .of FD⟩
  · obtain ⟨w, G, a, at_, r, p, _⟩ := h
    rw [Paired.length r]
    exact len a
  · obtain ⟨t, ht, hrun⟩ := body (He.ga K x) cdv A outer s H E hr
    refine ⟨t, PSs.nox ht, ?_⟩
    obtain ⟨w, G, a, at_, r, p, q⟩ := h
    refine hrun G w _ a p (fun v G1 H1 z e1 a1 r1 h1 => q v G1 H1 z e1 a1 r1 h1) (fun hn σ G1 H1 e1 a1 => q .non G1 H1 (.d .none) e1 a1 Dp.non hn) _ G H (Evl.Ex.refl G) (sl_start r) at_
/-- f(e, ..) -/
theorem pe_f {X : Cx} {x : Str} {ps : List Str} {sp : Sp} {j k : Nat} {e : Expr} {es : List Expr} {t : TA} {p pos : Pos} (O : Ok X.prog X.w X.K X.mg X.base j x ps sp) (hr : Room k X.A) (ha : PA X (e :: es) t) (hj : j ≤ k := by decide) (hg : Gl X x := by rfl)
    (hdb : (x == ("__debug__" : Str)) = false := by decide) (he : starEach (e :: es) X.env = (false, eval e X.env) :: starEach es X.env := by rfl) (hpl : (backTo pos (starEach es X.env)).any (·.1) = false := by rfl) :
    PE X (.Call (.Name x p) (e :: es) [] pos) (tCall sp [] E0 t) := by
  obtain ⟨h1, h2, fd, F, B, _⟩ := O
  exact pe_call (F.mono hj) hr hg h1 h2 B .nil pass0 ha hdb he hpl
end
end Nb
end
section
set_option Elab.async false
set_option linter.all false
set_option maxRecDepth 100000
set_option maxHeartbeats 4000000
/-! Short rules for derivations; hidden lists. -/
namespace Nb
open PySem L2
theorem isi_ii : kitB "int" "int" = some true := by decide +kernel
theorem isi_ib : kitB "int" "bool" = some false := by decide +kernel
theorem isi_ss : kitB "str" "str" = some true := by decide +kernel
theorem isi_tt : kitB "tuple" "tuple" = some true := by decide +kernel
theorem isi_ll : kitB "list" "list" = some true := by decide +kernel
theorem isi_lt : kitB "list" "tuple" = some false := by decide +kernel
section
variable {X : Cx}
theorem u65 {k : Nat} {A : Around} (r : Room k A) : A.units + 65 < cLine := by
  have := r.un
  omega
theorem pe_gi {x : Str} {i : Int} {pos : Pos} (h : ∃ t, X.mg x = some (.int i t)) (hg : Gl X x := by rfl) (hd : (x == ("__debug__" : Str)) = false := by decide) : PE X (.Name x pos) (tC (.int i)) := by
  obtain ⟨t, h⟩ := h
  exact pe_glob hg h ⟨t, rfl⟩ hd
theorem pe_gs {x z : Str} {pos : Pos} (h : ∃ t, X.mg x = some (.str z t)) (hg : Gl X x := by rfl) (hd : (x == ("__debug__" : Str)) = false := by decide) : PE X (.Name x pos) (tC (.str z)) := by
  obtain ⟨t, h⟩ := h
  exact pe_glob hg h ⟨t, rfl⟩ hd
theorem pe_gt {x : Str} {a : Addr} {pos : Pos} (h : X.mg x = some (.ref a)) (hg : Gl X x := by rfl) (hd : (x == ("__debug__" : Str)) = false := by decide) : PE X (.Name x pos) (tC (.ref a)) := pe_glob hg h rfl hd
theorem pe_ty {x : Str} {n : String} {pos : Pos} (h : X.mg x = none) (hg : Gl X x := by rfl) (hv : PySem.bootBuiltins x = some (.type n) := by decide +kernel) (hn : x ≠ "__name__" := by decide) (hd : (x == ("__debug__" : Str)) = false := by decide) : PE X (.Name x pos) (tC (.ty n)) := pe_bltn hg h hv rfl hn hd
def tNevE : TE := fun _ _ _ => False
theorem pe_nev {e : Expr} : PE X e tNevE := ⟨fun _ _ _ _ _ _ h => h.elim⟩
end
section
variable {K : Kx} {w : Wd} {te ta tl : TE} {tt : TT} {δ : Ds} {g : TG} {vs : List Nat}
/-! ### a new list that stays hidden -/
/-- te gives a new list of data ys, J ys; it is hidden behind it -/
def EvH (K : Kx) (w : Wd) (te : TE) (δ : Ds) (J : List PyData → Prop) : Prop :=
  ∀ σ G H, Sl K G σ δ → At K w G H → ∀ Q : VK, (∀ p G2 H2 ys, Ex G G2 → At K (w.add p (.lst ys)) G2 H2 → J ys → Q (.ref p) H2) → te σ H Q
theorem eh_lst0 : EvH K w (tLst tNil) δ (fun z => z = []) := fun σ G H s a Q q => ⟨Nat.zero_le _, fun p hp => q p G _ [] (Evl.Ex.refl G) (a.push hp ⟨[], upd_same, .nil⟩) rfl⟩
theorem eh_lst {tr : TA} {xs : List PyData} (h : EvA1 K w tr δ (xs.map Da.d)) (hl : xs.length ≤ 100000 := by decide) : EvH K w (tLst tr) δ (fun z => z = xs) := fun σ G H s a Q q =>
  h σ G H s a _ fun vs G1 H1 ds e1 a1 r1 h1 => by
    subst h1
    have hd := drAll_dp r1
    exact ⟨Evl.sz_of (by rw [dpAll_len hd]; exact hl), fun p hp => q p G1 _ xs e1 (a1.push hp ⟨vs, upd_same, hd⟩) rfl⟩
theorem eh_lcR {ta : TA} {n : Int} (J : Nat → List PyData → Prop) (hw : Wipes g vs) (h : EvA1 K w ta δ [.d (.int n)]) (hn : -1000000 ≤ n ∧ n ≤ 100000) (h0 : J 0 [])
    (hs : ∀ (i : Nat) acc w', (i : Int) < n → J i acc → w'.rnd = w.rnd → ∃ δ2 B, TgD K g (.d (.int (i : Int))) (wipeD δ vs) δ2 ∧ EvT K w' tt δ2 B ∧ (B false → J (i + 1) acc) ∧ (B true → Ev K w' te δ2 fun z => ∃ y, z = .d y ∧ J (i + 1) (acc ++ [y]))) :
    EvH K w (tLc (iRng1 ta) g tt te vs) δ (fun ys => J n.toNat ys) := fun σ G H s a Q q =>
  h σ G H s a _ fun vs' G1 H1 d e1 a1 r1 h1 => by
    subst h1
    obtain ⟨v, e2, hv⟩ := drAll1 r1
    subst e2
    cases (show Dp K G1 v (.int n) from hv)
    refine ⟨n, rfl, by omega, by omega, fun D hD => lc_range (lo := 0) (n := n.toNat) (fun i H' => ∃ G' ys, Ex G1 G' ∧ At K (w.add D (.lst ys)) G' H' ∧ J i ys ∧ ys.length ≤ i) ⟨G1, [], Evl.Ex.refl G1, a1.push hD ⟨[], upd_same, .nil⟩, h0, Nat.le_refl _⟩ (fun i H' hi ⟨G', ys, e', a', j', hn⟩ => ?_) fun H' ⟨G', ys, e', a', j', hn⟩ => ?_⟩
    · obtain ⟨δ2, B, ht, hb, hf, he⟩ := hs i ys (w.add D (.lst ys)) (by omega) j' rfl
      have e0 : (0 : Int) + (i : Int) = (i : Int) := Int.zero_add _
      rw [e0]
      refine (hw _ σ H' _ (ht (.int (i : Int)) (L2.wipe σ vs) G' H' (w.add D (.lst ys)) (show Dr K G' _ (.d (.int (i : Int))) from Dp.int _) ((s.ex (Evl.Ex.trans e1 e')).wipe vs) a' _ fun σ2 s2 => ?_))
      refine hb σ2 G' H' s2 a' _ fun c G2 H2 e2 a2 hc => ?_
      cases c with
      | false => exact ⟨G2, ys, Evl.Ex.trans e' e2, a2, hf hc, Nat.le_succ_of_le hn⟩
      | true =>
        refine he hc σ2 G2 H2 (s2.ex e2) a2 _ fun z G3 H3 d3 e3 a3 r3 ⟨t, e4, j4⟩ => ?_
        subst e4
        obtain ⟨acc, top, da⟩ := a3.top
        refine ⟨acc, top, Evl.sz_lt (by rw [dpAll_len da]; omega), G3, ys ++ [t], Evl.Ex.trans e' (Evl.Ex.trans e2 e3), a3.set ⟨acc ++ [z], upd_same, dpAll_app da (dpAll_one r3)⟩, j4, by rw [List.length_append]; exact Nat.succ_le_succ hn⟩
    · exact q D G' H' ys (Evl.Ex.trans e1 e') a' j'
end
section
variable {K : Kx} {b : Hp} {w : Wd} {D : Ends} {te : TE} {tr : TS} {δ : Ds} {i : Nat} {R : Da → Prop}
theorem run_asgH {J : List PyData → Prop} (h : EvH K w te δ J) (k : ∀ p ys, J ys → Run K b (w.add p (.lst ys)) D tr (δ.set i (some (.ob p)))) : Run K b w D (tSeq (tAsg te (gName i)) tr) δ := fun σ G H e s a =>
  h σ G H s a _ fun p G1 H1 ys e1 a1 h1 => k p ys h1 (σ.set i (some (.ref p))) G1 H1 (Evl.Ex.trans e e1) ((s.ex e1).set i rfl) a1
/-- xs.append(e), xs hidden on top -/
theorem run_app {to : TE} {p : Addr} {ys : List PyData} (ho : Ev1 K (w.add p (.lst ys)) to δ (.ob p)) (h : Ev K (w.add p (.lst ys)) te δ R) (hz : ys.length ≤ 100000) (k : ∀ d, R d → ∃ y, d = .d y ∧ Run K b (w.add p (.lst (ys ++ [y]))) D tr δ) :
    Run K b (w.add p (.lst ys)) D (tSeq (tDrop (tBM K "list" rAppend to (tCons te tNil))) tr) δ := fun σ G H e s a =>
  ho σ G H s a _ fun v G1 H1 d e1 a1 r1 h1 => by
    subst h1
    have ev : v = .ref p := r1
    subst ev
    obtain ⟨acc1, t1, _⟩ := a1.top
    refine ⟨.inl ⟨rfl, acc1, SqL.of t1⟩, h σ G1 H1 (s.ex e1) a1 _ fun u G2 H2 d2 e2 a2 r2 h2 => ?_⟩
    obtain ⟨y, ey, hr⟩ := k d2 h2
    subst ey
    obtain ⟨acc, top, da⟩ := a2.top
    exact ⟨p, acc, u, rfl, rfl, top, Nat.lt_of_le_of_lt (by rw [dpAll_len da]; exact hz) (by decide), hr σ G2 _ (Evl.Ex.trans e (Evl.Ex.trans e1 e2)) (s.ex (Evl.Ex.trans e1 e2)) (a2.set ⟨acc ++ [u], upd_same, dpAll_app da (dpAll_one r2)⟩)⟩
/-- the hidden list on top is written no more: slot i holds it as data from now on -/
theorem run_freeze {ts : TS} {p : Addr} {ys : List PyData} (hi : δ[i]? = some (some (.ob p))) (k : Run K b w D ts (δ.set i (some (.d (.list ys))))) : Run K b (w.add p (.lst ys)) D ts δ := fun σ G H e s a => by
  obtain ⟨acc, top, da⟩ := a.top
  have e4 := ex_upd a.topG (o := .lst acc)
  refine k σ (upd G p (.lst acc)) H (Evl.Ex.trans e e4) ⟨by simp [s.len], fun j d hj => ?_⟩ (a.freeze top)
  by_cases hij : i = j
  · subst hij
    have hl : i < δ.length := (List.getElem?_eq_some_iff.mp hi).1
    rw [List.getElem?_set_self hl] at hj
    cases hj
    obtain ⟨v, h1, h2⟩ := s.at_ i _ hi
    have ev : v = .ref p := h2
    subst ev
    exact ⟨_, h1, Dp.lst (Evl.sq_of upd_same) (dp_exs e4 _ _ da)⟩
  · rw [List.getElem?_set_ne hij] at hj
    obtain ⟨v, h1, h2⟩ := s.at_ j d hj
    exact ⟨v, h1, h2.ex e4⟩
end
/-! ### reading a hidden list -/
section
variable {K : Kx} {w : Wd} {te ta tb : TE} {δ : Ds} {R S : Da → Prop} {p : Addr} {ys : List PyData}
theorem dpL_top {G H : Hp} (a : At K (w.add p (.lst ys)) G H) : Dp K H (.ref p) (.list ys) := by
  obtain ⟨acc, top, da⟩ := a.top
  exact .lst (SqL.of top) (dp_exs a.ex _ _ da)
theorem od_ixH {i : Int} {x : PyData} (e : atI ys i = some x) : OpD K (w.add p (.lst ys)) (rIxL K) (.ob p) (.d (.int i)) (fun z => z = .d x) := fun v u G H hv hu a Q q => by
  cases (show Dp K G u (.int i) from hu)
  have ev : v = .ref p := hv
  subst ev
  obtain ⟨acc, top, da⟩ := a.top
  obtain ⟨z, e1, e2⟩ := atI_dp da e
  exact ⟨p, acc, i, z, rfl, rfl, SqL.of top, e1, q z G H (.d x) (Evl.Ex.refl G) a e2 rfl⟩
theorem od_inH {x : PyData} (h1 : SeqAt.shaped x = true) (h2 : SeqAt.shaped (.list ys) = true) : OpD K (w.add p (.lst ys)) (NbR.rInA K false) (.d x) (.ob p) (fun z => z = .d (.bool (ys.any fun z => PyData.eqv z x))) := fun v u G H hv hu a Q q => by
  have ev : u = .ref p := hu
  subst ev
  exact ⟨x, ys, dp_ex a.ex _ _ hv, .inl (dpL_top a), h1, h2, q _ G H (.d (.bool _)) (Evl.Ex.refl G) a (Dp.bl _) rfl⟩
theorem od_notInH {x : PyData} (h1 : SeqAt.shaped x = true) (h2 : SeqAt.shaped (.list ys) = true) : OpD K (w.add p (.lst ys)) (NbR.rInA K true) (.d x) (.ob p) (fun z => z = .d (.bool (!ys.any fun z => PyData.eqv z x))) := fun v u G H hv hu a Q q => by
  have ev : u = .ref p := hu
  subst ev
  exact ⟨x, ys, dp_ex a.ex _ _ hv, .inl (dpL_top a), h1, h2, q _ G H (.d (.bool _)) (Evl.Ex.refl G) a (Dp.bl _) rfl⟩
theorem ca_lenH : CaD K (w.add p (.lst ys)) (fun xs H Q => ∃ x n, xs = [x] ∧ LenV K x H n ∧ Q (.int n) H) [.ob p] (fun z => z = .d (.int (ys.length : Int))) := fun vs G H h a Q q => by
  obtain ⟨v, e, hv⟩ := drAll1 h
  subst e
  have ev : v = .ref p := hv
  subst ev
  obtain ⟨acc, top, da⟩ := a.top
  exact ⟨_, ys.length, rfl, .inl ⟨acc, SqL.of top, (dpAll_len da).symm⟩, q _ G H (.d (.int _)) (Evl.Ex.refl G) a (Dp.int _) rfl⟩
end
/-! ### rules inside a block: the frozen heap is named -/
section
variable {X : Cx} {K : Kx}
theorem ix_listK (h : X.K = K) : IxR X (rIxL K) := h ▸ ix_list
theorem ix_tupK (h : X.K = K) : IxR X (rIxT K) := h ▸ ix_tup
theorem ix_seqK (h : X.K = K) : IxR X (rIx K) := h ▸ ix_seq
theorem call_lenK (h : X.K = K) : CallR X (.builtin "len") (fun xs H Q => ∃ x n, xs = [x] ∧ LenV K x H n ∧ Q (.int n) H) := h ▸ call_len
theorem cr_allK (h : X.K = K) (hc : X.calm = true) : CallR X (.builtin "all") (rAll K) := h ▸ cr_all hc
theorem cr_anyK (h : X.K = K) (hc : X.calm = true) : CallR X (.builtin "any") (rAny K) := h ▸ cr_any hc
theorem pi_listK {tg l : Expr} {tl : TE} (h : X.K = K) (hl : PE X l tl) : PI X tg l (iList K tl) := h ▸ pi_list hl
theorem pi_tupK {tg l : Expr} {tl : TE} (h : X.K = K) (hl : PE X l tl) : PI X tg l (iTup K tl) := h ▸ pi_tup hl
theorem sl_listK (h : X.K = K) : SlR X (rSlL K) := h ▸ sl_list
theorem op_catLK (h : X.K = K) : OpR X (binaryOp .Add) (NbR.rCatL K) := h ▸ NbR.op_catL
theorem op_catAK (h : X.K = K) : OpR X (binaryOp .Add) (rCatA K) := h ▸ op_catA
theorem pe_tupleOfK {a : Expr} {ta : TE} {p pos : Pos} (h : X.K = K) (hg : Gl X "tuple") (hm : X.mg "tuple" = none) (ha : PE X a ta) (na : starEach [a] X.env = (false, eval a X.env) :: starEach [] X.env := by rfl) :
    PE X (.Call (.Name "tuple" p) [a] [] pos) (tThen ta (kTup K)) := h ▸ pe_tupleOf hg hm ha na
theorem pt_truthK {a : Expr} {ta : TE} (h : X.K = K) (ha : PE X a ta) (he : ∀ whole, isTrue a X.env whole = (do let v ← whole; standAt a.pos; holding [v] (truthy v))) :
    PT X a (fun σ H Q => ta σ H fun x H' => ∃ k, TruV K x H' k ∧ Q k H') := h ▸ pt_truth ha he
end
/-! ### comprehensions whose answer is known -/
section
variable {K : Kx} {w : Wd} {tl te : TE} {tt : TT} {δ : Ds} {g : TG} {vs : List Nat} {α : Type}
theorem take_one {l : List α} {i : Nat} {a : α} (h : l[i]? = some a) : l.take (i + 1) = l.take i ++ [a] := by
  rw [List.take_succ, h]
  rfl
theorem fil_step {l : List α} {i : Nat} {a : α} (p : α → Bool) (f : α → PyData) (h : l[i]? = some a) : ((l.take (i + 1)).filter p).map f = ((l.take i).filter p).map f ++ (if p a = true then [f a] else []) := by
  rw [take_one h, List.filter_append, List.map_append]
  congr 1
  by_cases hp : p a = true
  · rw [if_pos hp]
    simp [hp]
  · rw [if_neg hp]
    simp [hp]
theorem ev_filT (l : List α) (enc f : α → PyData) (p : α → Bool) (hw : Wipes g vs) (h : Ev1 K w tl δ (.d (.tuple (l.map enc)))) (hz : l.length ≤ 100000)
    (hs : ∀ a ∈ l, ∀ w', w'.rnd = w.rnd → ∃ δ2, TgD K g (.d (enc a)) (wipeD δ vs) δ2 ∧ EvT1 K w' tt δ2 (p a) ∧ (p a = true → Ev1 K w' te δ2 (.d (f a)))) : Ev1 K w (tLc (iTup K tl) g tt te vs) δ (.d (.list ((l.filter p).map f))) := by
  refine Ev.imp (ev_lcT (fun i acc => acc = ((l.take i).filter p).map f) hw h (by simpa using hz) rfl ?_) ?_
  · rintro i x acc w' hx rfl hr
    rw [List.getElem?_map] at hx
    cases e : l[i]? with
    | none =>
      rw [e] at hx
      cases hx
    | some a =>
      rw [e] at hx
      cases hx
      obtain ⟨δ2, h1, h2, h3⟩ := hs a (List.mem_of_getElem? e) w' hr
      refine ⟨δ2, fun x => x = p a, h1, h2, fun hf => ?_, fun ht => ?_⟩
      · rw [fil_step p f e, if_neg (by rw [← hf]; decide), List.append_nil]
      · refine Ev.imp (h3 ht.symm) fun z ez => ⟨f a, ez, ?_⟩
        rw [fil_step p f e, if_pos ht.symm]
  · rintro z ⟨ys, rfl, rfl⟩
    rw [List.length_map, List.take_length]
theorem ev_filL (l : List α) (enc f : α → PyData) (p : α → Bool) (hw : Wipes g vs) (h : Ev1 K w tl δ (.d (.list (l.map enc)))) (hz : l.length ≤ 100000)
    (hs : ∀ a ∈ l, ∀ w', w'.rnd = w.rnd → ∃ δ2, TgD K g (.d (enc a)) (wipeD δ vs) δ2 ∧ EvT1 K w' tt δ2 (p a) ∧ (p a = true → Ev1 K w' te δ2 (.d (f a)))) : Ev1 K w (tLc (iList K tl) g tt te vs) δ (.d (.list ((l.filter p).map f))) := by
  refine Ev.imp (ev_lcL (fun i acc => acc = ((l.take i).filter p).map f) hw h (by simpa using hz) rfl ?_) ?_
  · rintro i x acc w' hx rfl hr
    rw [List.getElem?_map] at hx
    cases e : l[i]? with
    | none =>
      rw [e] at hx
      cases hx
    | some a =>
      rw [e] at hx
      cases hx
      obtain ⟨δ2, h1, h2, h3⟩ := hs a (List.mem_of_getElem? e) w' hr
      refine ⟨δ2, fun x => x = p a, h1, h2, fun hf => ?_, fun ht => ?_⟩
      · rw [fil_step p f e, if_neg (by rw [← hf]; decide), List.append_nil]
      · refine Ev.imp (h3 ht.symm) fun z ez => ⟨f a, ez, ?_⟩
        rw [fil_step p f e, if_pos ht.symm]
  · rintro z ⟨ys, rfl, rfl⟩
    rw [List.length_map, List.take_length]
theorem fil_true (l : List α) : l.filter (fun _ => true) = l := List.filter_eq_self.mpr fun _ _ => rfl
theorem ev_mapT (l : List α) (enc f : α → PyData) (hw : Wipes g vs) (h : Ev1 K w tl δ (.d (.tuple (l.map enc)))) (hz : l.length ≤ 100000)
    (hs : ∀ a ∈ l, ∀ w', w'.rnd = w.rnd → ∃ δ2, TgD K g (.d (enc a)) (wipeD δ vs) δ2 ∧ Ev1 K w' te δ2 (.d (f a))) : Ev1 K w (tLc (iTup K tl) g tYes te vs) δ (.d (.list (l.map f))) := by
  have := ev_filT (te := te) (tt := tYes) l enc f (fun _ => true) hw h hz fun a ha w' hr => by
    obtain ⟨δ2, h1, h2⟩ := hs a ha w' hr
    exact ⟨δ2, h1, et_yes, fun _ => h2⟩
  rwa [fil_true] at this
theorem ev_mapL (l : List α) (enc f : α → PyData) (hw : Wipes g vs) (h : Ev1 K w tl δ (.d (.list (l.map enc)))) (hz : l.length ≤ 100000)
    (hs : ∀ a ∈ l, ∀ w', w'.rnd = w.rnd → ∃ δ2, TgD K g (.d (enc a)) (wipeD δ vs) δ2 ∧ Ev1 K w' te δ2 (.d (f a))) : Ev1 K w (tLc (iList K tl) g tYes te vs) δ (.d (.list (l.map f))) := by
  have := ev_filL (te := te) (tt := tYes) l enc f (fun _ => true) hw h hz fun a ha w' hr => by
    obtain ⟨δ2, h1, h2⟩ := hs a ha w' hr
    exact ⟨δ2, h1, et_yes, fun _ => h2⟩
  rwa [fil_true] at this
theorem ev_mapR {ta : TA} (n : Nat) (f : Nat → PyData) (hw : Wipes g vs) (h : EvA1 K w ta δ [.d (.int (n : Int))]) (hz : n ≤ 100000)
    (hs : ∀ i, i < n → ∀ w', w'.rnd = w.rnd → ∃ δ2, TgD K g (.d (.int (i : Int))) (wipeD δ vs) δ2 ∧ Ev1 K w' te δ2 (.d (f i))) : Ev1 K w (tLc (iRng1 ta) g tYes te vs) δ (.d (.list ((List.range n).map f))) := by
  refine Ev.imp (ev_lcR (fun i acc => acc = (List.range i).map f) hw h ⟨by omega, by omega⟩ rfl ?_) ?_
  · rintro i acc w' hi rfl hr
    obtain ⟨δ2, h1, h2⟩ := hs i (by omega) w' hr
    refine ⟨δ2, _, h1, et_yes, (fun e => nomatch e), fun _ => Ev.imp h2 fun z ez => ⟨f i, ez, ?_⟩⟩
    rw [List.range_succ, List.map_append]
    rfl
  · rintro z ⟨ys, rfl, rfl⟩
    rw [Int.toNat_natCast]
/-- all([..]), any([..]) -/
theorem ev_all {l : List α} (p : α → Bool) (h : Ev1 K w te δ (.d (.list (l.map fun a => .bool (p a))))) : Ev1 K w (tCB (rAll K) (tCons te tNil)) δ (.d (.bool (l.all p))) := by
  have e : l.map (fun a => PyData.bool (p a)) = (l.map p).map PyData.bool := by rw [List.map_map]; rfl
  rw [e] at h
  refine Ev.is (ev_CB1 (ea_cons h ea_nil) ca_all) ?_
  rw [List.all_map]
  rfl
theorem ev_any {l : List α} (p : α → Bool) (h : Ev1 K w te δ (.d (.list (l.map fun a => .bool (p a))))) : Ev1 K w (tCB (rAny K) (tCons te tNil)) δ (.d (.bool (l.any p))) := by
  have e : l.map (fun a => PyData.bool (p a)) = (l.map p).map PyData.bool := by rw [List.map_map]; rfl
  rw [e] at h
  refine Ev.is (ev_CB1 (ea_cons h ea_nil) ca_any) ?_
  rw [List.any_map]
  rfl
end
end Nb
end
section
set_option Elab.async false
set_option linter.all false
set_option maxRecDepth 100000
set_option maxHeartbeats 4000000
/-! Tables in plain Lean; their data. -/
namespace Nb
open PySem L2
/-- a table of k inputs -/
structure Tb where
  k : Nat
  t : List Bool
  hk : k ≤ 3
  hl : t.length = 2 ^ k
def bi (b : Bool) : Int := if b then 1 else 0
abbrev bT (t : List Bool) : PyData := iT (t.map bi)
/-- the number whose bits are the worths, the first one lowest -/
def bN : List Bool → Nat
  | [] => 0
  | b :: t => (if b then 1 else 0) + 2 * bN t
def fullN (k : Nat) : Nat := 2 ^ 2 ^ k - 1
/-- the number at s of k wires has a 1 at the wire -/
def wbN (k w : Nat) : Nat := bN ((List.range (2 ^ k)).map fun i => i.testBit (k - 1 - w))
def nT (n k : Nat) : List Bool := (List.range (2 ^ k)).map n.testBit
def lowN (k w : Nat) : Nat := fullN k ^^^ wbN k w
def needsN (k b : Nat) : List Nat := (List.range k).filter fun w => (b &&& lowN k w) != ((b >>> 2 ^ (k - 1 - w)) &&& lowN k w)
def raiseN (k b w : Nat) : Nat := b ||| ((b &&& lowN k w) <<< 2 ^ (k - 1 - w))
def raisedN (k b : Nat) : Nat := (List.range k).foldl (raiseN k) b
theorem bi_nat (b : Bool) : bi b = ((if b then 1 else 0 : Nat) : Int) := by cases b <;> rfl
theorem bi_01 (b : Bool) : 0 ≤ bi b ∧ bi b < 2 := by cases b <;> decide
theorem bi_not (b : Bool) : 1 - bi b = bi (!b) := by cases b <;> rfl
theorem bN_lt : ∀ t : List Bool, bN t < 2 ^ t.length
  | [] => by decide
  | b :: t => by
    have h := bN_lt t
    rw [List.length_cons, Nat.pow_succ]
    unfold bN
    split <;> omega
theorem bN_bit : ∀ (t : List Bool) (i : Nat), (bN t).testBit i = t.getD i false
  | [], i => by simp [bN]
  | b :: t, 0 => by
    unfold bN
    rw [Nat.testBit_zero]
    cases b <;> simp <;> omega
  | b :: t, i + 1 => by
    unfold bN
    rw [Nat.testBit_succ]
    have : ((if b then 1 else 0) + 2 * bN t) / 2 = bN t := by split <;> omega
    rw [this, bN_bit t i]
    simp
theorem bN_step (b : Bool) (t : List Bool) : ((bN t : Nat) : Int) * 2 + bi b = ((bN (b :: t) : Nat) : Int) := by
  cases b
  · show ((bN t : Nat) : Int) * 2 + 0 = ((0 + 2 * bN t : Nat) : Int)
    omega
  · show ((bN t : Nat) : Int) * 2 + 1 = ((1 + 2 * bN t : Nat) : Int)
    omega
theorem nT_len (n k : Nat) : (nT n k).length = 2 ^ k := by simp [nT]
def tbOf (k n : Nat) (hk : k ≤ 3) : Tb := ⟨k, nT n k, hk, nT_len n k⟩
theorem nT_bN {t : List Bool} {k : Nat} (h : t.length = 2 ^ k) : nT (bN t) k = t := by
  unfold nT
  refine List.ext_getElem (by simp [h]) fun i h1 h2 => ?_
  simp only [List.getElem_map, List.getElem_range]
  rw [bN_bit]
  simp [List.getD, List.getElem?_eq_getElem h2]
def Tb.mirror (t : Tb) : Tb := ⟨t.k, (t.t.map (!·)).reverse, t.hk, by simp [t.hl]⟩
theorem tb_len (t : Tb) : t.t.length ≤ 8 := by
  rw [t.hl]
  have := t.hk
  have : t.k = 0 ∨ t.k = 1 ∨ t.k = 2 ∨ t.k = 3 := by omega
  rcases this with h | h | h | h <;> rw [h] <;> decide
/-! ### a gate over bits -/
def pairUp (op full : Nat) : List Nat → List Nat
  | x :: y :: r => ((x &&& (full ^^^ op)) ||| (y &&& op)) :: pairUp op full r
  | _ => []
def gateN (t : List Bool) (ops : List Nat) (full : Nat) : Nat := (ops.reverse.foldl (fun rows op => pairUp op full rows) (t.map fun b => if b then full else 0)).headD 0
/-! ### shapes -/
theorem lay_ints : ∀ ns : List Int, PyData.canLayAll0 (ns.map PyData.int) = true
  | [] => by simp [PyData.canLayAll0]
  | n :: ns => by simp [PyData.canLayAll0, PyData.canLay0, lay_ints ns]
theorem dep_ints : ∀ ns : List Int, PyData.depthAll (ns.map PyData.int) = 0
  | [] => by simp [PyData.depthAll]
  | n :: ns => by simp [PyData.depthAll, PyData.depth, dep_ints ns]
theorem shaped_int (i : Int) : SeqAt.shaped (.int i) = true := rfl
theorem shaped_of {d : PyData} (h1 : d.canLay0 = true) (h2 : d.depth ≤ 64) : SeqAt.shaped d = true := by
  show (d.canLay0 && decide (d.depth ≤ 64)) = true
  rw [h1, decide_eq_true h2]
  rfl
theorem shaped_iT (ns : List Int) : SeqAt.shaped (iT ns) = true := shaped_of (by simp only [iT, PyData.canLay0]; exact lay_ints ns) (by simp only [iT, PyData.depth, dep_ints]; decide)
theorem shaped_iL (ns : List Int) : SeqAt.shaped (.list (ns.map PyData.int)) = true := shaped_of (by simp only [PyData.canLay0]; exact lay_ints ns) (by simp only [PyData.depth, dep_ints]; decide)
theorem eqvAll_ints : ∀ ns ms : List Int, PyData.eqvAll (ns.map PyData.int) (ms.map PyData.int) = decide (ns = ms)
  | [], [] => rfl
  | [], m :: ms => rfl
  | n :: ns, [] => rfl
  | n :: ns, m :: ms => by
    show ((n == m) && PyData.eqvAll (ns.map PyData.int) (ms.map PyData.int)) = decide (n :: ns = m :: ms)
    rw [eqvAll_ints ns ms]
    by_cases h : n = m
    · subst h
      simp
    · simp [h]
theorem eqv_iT (ns ms : List Int) : PyData.eqv (iT ns) (iT ms) = decide (ns = ms) := eqvAll_ints ns ms
theorem any_ints (ns : List Int) (i : Int) : ((ns.map PyData.int).any fun z => PyData.eqv z (.int i)) = decide (i ∈ ns) := by
  rw [List.any_map]
  rw [Bool.eq_iff_iff, List.any_eq_true, decide_eq_true_iff]
  constructor
  · rintro ⟨x, hx, h⟩
    have : x = i := by simpa [PyData.eqv] using h
    rw [← this]
    exact hx
  · intro h
    exact ⟨i, h, by simp [PyData.eqv]⟩
theorem map_bi_inj : ∀ {s t : List Bool}, s.map bi = t.map bi → s = t
  | [], [], _ => rfl
  | [], b :: t, h => by cases h
  | b :: s, [], h => by cases h
  | b :: s, c :: t, h => by
    rw [List.map_cons, List.map_cons] at h
    injection h with h1 h2
    rw [map_bi_inj h2]
    cases b <;> cases c <;> first | rfl | exact absurd h1 (by decide)
theorem eqv_bT (s t : List Bool) : PyData.eqv (bT s) (bT t) = decide (s = t) := by
  rw [eqv_iT]
  by_cases h : s = t
  · subst h
    simp
  · have : ¬ s.map bi = t.map bi := fun e => h (map_bi_inj e)
    simp [h, this]
/-! ### the kinds -/
def isRising (t : Tb) : Bool := decide (raisedN t.k (bN t.t) = bN t.t)
def oddN (t : Tb) : Nat := (needsN t.k (bN t.t)).foldl (fun b w => b ^^^ wbN t.k w) (if t.t.headD false then fullN t.k else 0)
def isOdd (t : Tb) : Bool := decide (oddN t = bN t.t)
def meetN (t : Tb) : Nat := (needsN t.k (bN t.t)).foldl (fun b w => b &&& wbN t.k w) (fullN t.k)
def isMeet (t : Tb) : Bool := decide (needsN t.k (bN t.t) = []) || decide (meetN t = bN t.t)
def isSingle (t : Tb) : Bool := decide ((needsN t.k (bN t.t)).length ≤ 1)
def hasPairs (t : Tb) : Bool := decide (bN t.t &&& bN (nT (raisedN t.k (bN t.t)) t.k).reverse = 0)
def hasCommon (t : Tb) : Bool := decide (bN t.t = 0) || (List.range t.k).any fun w => decide (bN t.t &&& lowN t.k w = 0)
def isOf (t : Tb) (s : Str) : Bool :=
  if s = "zero" then !t.t.headD false else
  if s = "one" then t.t.getLastD false else
  if s = "rising" then isRising t else
  if s = "turning" then decide (t.mirror.t = t.t) else
  if s = "odd" then isOdd t else
  if s = "meet" then isMeet t else
  if s = "join" then isMeet t.mirror else
  if s = "single" then isSingle t else
  if s = "pairs" then hasPairs t else
  if s = "copairs" then hasPairs t.mirror else
  if s = "common" then hasCommon t else
  hasCommon t.mirror
def kindL : List Str := ["cocommon", "common", "copairs", "join", "meet", "odd", "one", "pairs", "rising", "single", "turning", "zero"]
/-- the kinds that all the tables are of -/
def kindsAll (ts : List Tb) : List Str := kindL.filter fun s => ts.all fun t => isOf t s
/-- all tables of k inputs, ascending -/
def tbL (k : Nat) (hk : k ≤ 3) : List Tb := (List.range (2 ^ 2 ^ k)).map fun n => ⟨k, (nT n k).reverse, hk, by rw [List.length_reverse]; exact nT_len n k⟩
/-- a gate: its name, its table -/
abbrev Gt := Str × Tb
abbrev gD (g : Gt) : PyData := .tuple [.str g.1, bT g.2.t]
end Nb
end
section
set_option Elab.async false
set_option linter.all false
set_option maxRecDepth 100000
set_option maxHeartbeats 4000000
namespace Nb
open PySem L2
/-! the text by places, scopes, bindings (printed by gen.py) -/
def top (i : Nat) : Stmt := PySem.Challenge.pw_neverboth_k07_whole_all_functions_of_few.main.body.getD i (.Pass ⟨0, 0, 0, 0⟩)
abbrev s_is_integer : Stmt := top 8
abbrev N_is_integer : List Str := ["value"]
theorem sc_is_integer : FnScope N_is_integer ["value"] (defScope s_is_integer) := ⟨rfl, rfl, rfl, by decide +kernel, rfl, by decide +kernel, by decide +kernel⟩
theorem bi_is_integer : ∀ (kV doc pm : Value) (an : Option Addr) (cdv ct : Value) (us : List Value), us.length = (["value"] : List Str).length → bindArgs (PySem.W.fnOf "is_integer" "is_integer" (defArgs s_is_integer) (defBody s_is_integer) (defScope s_is_integer) .none kV doc pm an cdv ct) ⟨us, []⟩ = pure ((["value"] : List Str).zip us) := fun _ _ _ _ _ _ us hl => match us, hl with | [_], _ => rfl
abbrev s_is_below : Stmt := top 9
abbrev N_is_below : List Str := ["value", "bound"]
theorem sc_is_below : FnScope N_is_below ["value", "bound"] (defScope s_is_below) := ⟨rfl, rfl, rfl, by decide +kernel, rfl, by decide +kernel, by decide +kernel⟩
theorem bi_is_below : ∀ (kV doc pm : Value) (an : Option Addr) (cdv ct : Value) (us : List Value), us.length = (["value", "bound"] : List Str).length → bindArgs (PySem.W.fnOf "is_below" "is_below" (defArgs s_is_below) (defBody s_is_below) (defScope s_is_below) .none kV doc pm an cdv ct) ⟨us, []⟩ = pure ((["value", "bound"] : List Str).zip us) := fun _ _ _ _ _ _ us hl => match us, hl with | [_, _], _ => rfl
abbrev s_is_text : Stmt := top 10
abbrev N_is_text : List Str := ["value"]
theorem sc_is_text : FnScope N_is_text ["value"] (defScope s_is_text) := ⟨rfl, rfl, rfl, by decide +kernel, rfl, by decide +kernel, by decide +kernel⟩
theorem bi_is_text : ∀ (kV doc pm : Value) (an : Option Addr) (cdv ct : Value) (us : List Value), us.length = (["value"] : List Str).length → bindArgs (PySem.W.fnOf "is_text" "is_text" (defArgs s_is_text) (defBody s_is_text) (defScope s_is_text) .none kV doc pm an cdv ct) ⟨us, []⟩ = pure ((["value"] : List Str).zip us) := fun _ _ _ _ _ _ us hl => match us, hl with | [_], _ => rfl
abbrev s_is_sequence : Stmt := top 11
abbrev N_is_sequence : List Str := ["value"]
theorem sc_is_sequence : FnScope N_is_sequence ["value"] (defScope s_is_sequence) := ⟨rfl, rfl, rfl, by decide +kernel, rfl, by decide +kernel, by decide +kernel⟩
theorem bi_is_sequence : ∀ (kV doc pm : Value) (an : Option Addr) (cdv ct : Value) (us : List Value), us.length = (["value"] : List Str).length → bindArgs (PySem.W.fnOf "is_sequence" "is_sequence" (defArgs s_is_sequence) (defBody s_is_sequence) (defScope s_is_sequence) .none kV doc pm an cdv ct) ⟨us, []⟩ = pure ((["value"] : List Str).zip us) := fun _ _ _ _ _ _ us hl => match us, hl with | [_], _ => rfl
abbrev s_is_pair : Stmt := top 12
abbrev N_is_pair : List Str := ["value"]
theorem sc_is_pair : FnScope N_is_pair ["value"] (defScope s_is_pair) := ⟨rfl, rfl, rfl, by decide +kernel, rfl, by decide +kernel, by decide +kernel⟩
theorem bi_is_pair : ∀ (kV doc pm : Value) (an : Option Addr) (cdv ct : Value) (us : List Value), us.length = (["value"] : List Str).length → bindArgs (PySem.W.fnOf "is_pair" "is_pair" (defArgs s_is_pair) (defBody s_is_pair) (defScope s_is_pair) .none kV doc pm an cdv ct) ⟨us, []⟩ = pure ((["value"] : List Str).zip us) := fun _ _ _ _ _ _ us hl => match us, hl with | [_], _ => rfl
abbrev s_is_name : Stmt := top 13
abbrev N_is_name : List Str := ["value", "sign"]
theorem sc_is_name : FnScope N_is_name ["value"] (defScope s_is_name) := ⟨rfl, rfl, rfl, by decide +kernel, rfl, by decide +kernel, by decide +kernel⟩
theorem bi_is_name : ∀ (kV doc pm : Value) (an : Option Addr) (cdv ct : Value) (us : List Value), us.length = (["value"] : List Str).length → bindArgs (PySem.W.fnOf "is_name" "is_name" (defArgs s_is_name) (defBody s_is_name) (defScope s_is_name) .none kV doc pm an cdv ct) ⟨us, []⟩ = pure ((["value"] : List Str).zip us) := fun _ _ _ _ _ _ us hl => match us, hl with | [_], _ => rfl
abbrev s_is_bit : Stmt := top 14
abbrev N_is_bit : List Str := ["value"]
theorem sc_is_bit : FnScope N_is_bit ["value"] (defScope s_is_bit) := ⟨rfl, rfl, rfl, by decide +kernel, rfl, by decide +kernel, by decide +kernel⟩
theorem bi_is_bit : ∀ (kV doc pm : Value) (an : Option Addr) (cdv ct : Value) (us : List Value), us.length = (["value"] : List Str).length → bindArgs (PySem.W.fnOf "is_bit" "is_bit" (defArgs s_is_bit) (defBody s_is_bit) (defScope s_is_bit) .none kV doc pm an cdv ct) ⟨us, []⟩ = pure ((["value"] : List Str).zip us) := fun _ _ _ _ _ _ us hl => match us, hl with | [_], _ => rfl
abbrev s_need_between : Stmt := top 15
abbrev N_need_between : List Str := ["value", "least", "most", "word"]
theorem sc_need_between : FnScope N_need_between ["value", "least", "most", "word"] (defScope s_need_between) := ⟨rfl, rfl, rfl, by decide +kernel, rfl, by decide +kernel, by decide +kernel⟩
theorem bi_need_between : ∀ (kV doc pm : Value) (an : Option Addr) (cdv ct : Value) (us : List Value), us.length = (["value", "least", "most", "word"] : List Str).length → bindArgs (PySem.W.fnOf "need_between" "need_between" (defArgs s_need_between) (defBody s_need_between) (defScope s_need_between) .none kV doc pm an cdv ct) ⟨us, []⟩ = pure ((["value", "least", "most", "word"] : List Str).zip us) := fun _ _ _ _ _ _ us hl => match us, hl with | [_, _, _, _], _ => rfl
abbrev s_is_table : Stmt := top 18
abbrev N_is_table : List Str := ["value", "worth"]
theorem sc_is_table : FnScope N_is_table ["value"] (defScope s_is_table) := ⟨rfl, rfl, rfl, by decide +kernel, rfl, by decide +kernel, by decide +kernel⟩
theorem bi_is_table : ∀ (kV doc pm : Value) (an : Option Addr) (cdv ct : Value) (us : List Value), us.length = (["value"] : List Str).length → bindArgs (PySem.W.fnOf "is_table" "is_table" (defArgs s_is_table) (defBody s_is_table) (defScope s_is_table) .none kV doc pm an cdv ct) ⟨us, []⟩ = pure ((["value"] : List Str).zip us) := fun _ _ _ _ _ _ us hl => match us, hl with | [_], _ => rfl
abbrev s_need_table : Stmt := top 19
abbrev N_need_table : List Str := ["value", "at", "worth"]
theorem sc_need_table : FnScope N_need_table ["value"] (defScope s_need_table) := ⟨rfl, rfl, rfl, by decide +kernel, rfl, by decide +kernel, by decide +kernel⟩
theorem bi_need_table : ∀ (kV doc pm : Value) (an : Option Addr) (cdv ct : Value) (us : List Value), us.length = (["value"] : List Str).length → bindArgs (PySem.W.fnOf "need_table" "need_table" (defArgs s_need_table) (defBody s_need_table) (defScope s_need_table) .none kV doc pm an cdv ct) ⟨us, []⟩ = pure ((["value"] : List Str).zip us) := fun _ _ _ _ _ _ us hl => match us, hl with | [_], _ => rfl
abbrev s_width_of : Stmt := top 20
abbrev N_width_of : List Str := ["table"]
theorem sc_width_of : FnScope N_width_of ["table"] (defScope s_width_of) := ⟨rfl, rfl, rfl, by decide +kernel, rfl, by decide +kernel, by decide +kernel⟩
theorem bi_width_of : ∀ (kV doc pm : Value) (an : Option Addr) (cdv ct : Value) (us : List Value), us.length = (["table"] : List Str).length → bindArgs (PySem.W.fnOf "width_of" "width_of" (defArgs s_width_of) (defBody s_width_of) (defScope s_width_of) .none kV doc pm an cdv ct) ⟨us, []⟩ = pure ((["table"] : List Str).zip us) := fun _ _ _ _ _ _ us hl => match us, hl with | [_], _ => rfl
abbrev s_mirror_table : Stmt := top 21
abbrev N_mirror_table : List Str := ["table", "worth"]
theorem sc_mirror_table : FnScope N_mirror_table ["table"] (defScope s_mirror_table) := ⟨rfl, rfl, rfl, by decide +kernel, rfl, by decide +kernel, by decide +kernel⟩
theorem bi_mirror_table : ∀ (kV doc pm : Value) (an : Option Addr) (cdv ct : Value) (us : List Value), us.length = (["table"] : List Str).length → bindArgs (PySem.W.fnOf "mirror_table" "mirror_table" (defArgs s_mirror_table) (defBody s_mirror_table) (defScope s_mirror_table) .none kV doc pm an cdv ct) ⟨us, []⟩ = pure ((["table"] : List Str).zip us) := fun _ _ _ _ _ _ us hl => match us, hl with | [_], _ => rfl
abbrev s_needs_of : Stmt := top 22
abbrev N_needs_of : List Str := ["table", "many", "bits", "result", "wire", "low"]
theorem sc_needs_of : FnScope N_needs_of ["table"] (defScope s_needs_of) := ⟨rfl, rfl, rfl, by decide +kernel, rfl, by decide +kernel, by decide +kernel⟩
theorem bi_needs_of : ∀ (kV doc pm : Value) (an : Option Addr) (cdv ct : Value) (us : List Value), us.length = (["table"] : List Str).length → bindArgs (PySem.W.fnOf "needs_of" "needs_of" (defArgs s_needs_of) (defBody s_needs_of) (defScope s_needs_of) .none kV doc pm an cdv ct) ⟨us, []⟩ = pure ((["table"] : List Str).zip us) := fun _ _ _ _ _ _ us hl => match us, hl with | [_], _ => rfl
abbrev s_put_table : Stmt := top 23
abbrev N_put_table : List Str := ["table", "tables", "other", "many"]
theorem sc_put_table : FnScope N_put_table ["table", "tables"] (defScope s_put_table) := ⟨rfl, rfl, rfl, by decide +kernel, rfl, by decide +kernel, by decide +kernel⟩
theorem bi_put_table : ∀ (kV doc pm : Value) (an : Option Addr) (cdv ct : Value) (us : List Value), us.length = (["table", "tables"] : List Str).length → bindArgs (PySem.W.fnOf "put_table" "put_table" (defArgs s_put_table) (defBody s_put_table) (defScope s_put_table) .none kV doc pm an cdv ct) ⟨us, []⟩ = pure ((["table", "tables"] : List Str).zip us) := fun _ _ _ _ _ _ us hl => match us, hl with | [_, _], _ => rfl
abbrev s_bits_of : Stmt := top 24
abbrev N_bits_of : List Str := ["table", "result", "worth"]
theorem sc_bits_of : FnScope N_bits_of ["table"] (defScope s_bits_of) := ⟨rfl, rfl, rfl, by decide +kernel, rfl, by decide +kernel, by decide +kernel⟩
theorem bi_bits_of : ∀ (kV doc pm : Value) (an : Option Addr) (cdv ct : Value) (us : List Value), us.length = (["table"] : List Str).length → bindArgs (PySem.W.fnOf "bits_of" "bits_of" (defArgs s_bits_of) (defBody s_bits_of) (defScope s_bits_of) .none kV doc pm an cdv ct) ⟨us, []⟩ = pure ((["table"] : List Str).zip us) := fun _ _ _ _ _ _ us hl => match us, hl with | [_], _ => rfl
abbrev s_table_of : Stmt := top 25
abbrev N_table_of : List Str := ["bits", "many", "at"]
theorem sc_table_of : FnScope N_table_of ["bits", "many"] (defScope s_table_of) := ⟨rfl, rfl, rfl, by decide +kernel, rfl, by decide +kernel, by decide +kernel⟩
theorem bi_table_of : ∀ (kV doc pm : Value) (an : Option Addr) (cdv ct : Value) (us : List Value), us.length = (["bits", "many"] : List Str).length → bindArgs (PySem.W.fnOf "table_of" "table_of" (defArgs s_table_of) (defBody s_table_of) (defScope s_table_of) .none kV doc pm an cdv ct) ⟨us, []⟩ = pure ((["bits", "many"] : List Str).zip us) := fun _ _ _ _ _ _ us hl => match us, hl with | [_, _], _ => rfl
abbrev s_full_bits : Stmt := top 26
abbrev N_full_bits : List Str := ["many"]
theorem sc_full_bits : FnScope N_full_bits ["many"] (defScope s_full_bits) := ⟨rfl, rfl, rfl, by decide +kernel, rfl, by decide +kernel, by decide +kernel⟩
theorem bi_full_bits : ∀ (kV doc pm : Value) (an : Option Addr) (cdv ct : Value) (us : List Value), us.length = (["many"] : List Str).length → bindArgs (PySem.W.fnOf "full_bits" "full_bits" (defArgs s_full_bits) (defBody s_full_bits) (defScope s_full_bits) .none kV doc pm an cdv ct) ⟨us, []⟩ = pure ((["many"] : List Str).zip us) := fun _ _ _ _ _ _ us hl => match us, hl with | [_], _ => rfl
abbrev s_wire_bits : Stmt := top 27
abbrev N_wire_bits : List Str := ["many", "wire", "size", "result", "width"]
theorem sc_wire_bits : FnScope N_wire_bits ["many", "wire"] (defScope s_wire_bits) := ⟨rfl, rfl, rfl, by decide +kernel, rfl, by decide +kernel, by decide +kernel⟩
theorem bi_wire_bits : ∀ (kV doc pm : Value) (an : Option Addr) (cdv ct : Value) (us : List Value), us.length = (["many", "wire"] : List Str).length → bindArgs (PySem.W.fnOf "wire_bits" "wire_bits" (defArgs s_wire_bits) (defBody s_wire_bits) (defScope s_wire_bits) .none kV doc pm an cdv ct) ⟨us, []⟩ = pure ((["many", "wire"] : List Str).zip us) := fun _ _ _ _ _ _ us hl => match us, hl with | [_, _], _ => rfl
abbrev s_gate_bits : Stmt := top 28
abbrev N_gate_bits : List Str := ["table", "operands", "full", "rows", "operand", "worth", "at"]
theorem sc_gate_bits : FnScope N_gate_bits ["table", "operands", "full"] (defScope s_gate_bits) := ⟨rfl, rfl, rfl, by decide +kernel, rfl, by decide +kernel, by decide +kernel⟩
theorem bi_gate_bits : ∀ (kV doc pm : Value) (an : Option Addr) (cdv ct : Value) (us : List Value), us.length = (["table", "operands", "full"] : List Str).length → bindArgs (PySem.W.fnOf "gate_bits" "gate_bits" (defArgs s_gate_bits) (defBody s_gate_bits) (defScope s_gate_bits) .none kV doc pm an cdv ct) ⟨us, []⟩ = pure ((["table", "operands", "full"] : List Str).zip us) := fun _ _ _ _ _ _ us hl => match us, hl with | [_, _, _], _ => rfl
abbrev s_is_of : Stmt := top 31
abbrev N_is_of : List Str := ["table", "kind"]
theorem sc_is_of : FnScope N_is_of ["table", "kind"] (defScope s_is_of) := ⟨rfl, rfl, rfl, by decide +kernel, rfl, by decide +kernel, by decide +kernel⟩
theorem bi_is_of : ∀ (kV doc pm : Value) (an : Option Addr) (cdv ct : Value) (us : List Value), us.length = (["table", "kind"] : List Str).length → bindArgs (PySem.W.fnOf "is_of" "is_of" (defArgs s_is_of) (defBody s_is_of) (defScope s_is_of) .none kV doc pm an cdv ct) ⟨us, []⟩ = pure ((["table", "kind"] : List Str).zip us) := fun _ _ _ _ _ _ us hl => match us, hl with | [_, _], _ => rfl
abbrev s_raised : Stmt := top 32
abbrev N_raised : List Str := ["bits", "many", "wire"]
theorem sc_raised : FnScope N_raised ["bits", "many"] (defScope s_raised) := ⟨rfl, rfl, rfl, by decide +kernel, rfl, by decide +kernel, by decide +kernel⟩
theorem bi_raised : ∀ (kV doc pm : Value) (an : Option Addr) (cdv ct : Value) (us : List Value), us.length = (["bits", "many"] : List Str).length → bindArgs (PySem.W.fnOf "raised" "raised" (defArgs s_raised) (defBody s_raised) (defScope s_raised) .none kV doc pm an cdv ct) ⟨us, []⟩ = pure ((["bits", "many"] : List Str).zip us) := fun _ _ _ _ _ _ us hl => match us, hl with | [_, _], _ => rfl
abbrev s_is_rising_table : Stmt := top 33
abbrev N_is_rising_table : List Str := ["table"]
theorem sc_is_rising_table : FnScope N_is_rising_table ["table"] (defScope s_is_rising_table) := ⟨rfl, rfl, rfl, by decide +kernel, rfl, by decide +kernel, by decide +kernel⟩
theorem bi_is_rising_table : ∀ (kV doc pm : Value) (an : Option Addr) (cdv ct : Value) (us : List Value), us.length = (["table"] : List Str).length → bindArgs (PySem.W.fnOf "is_rising_table" "is_rising_table" (defArgs s_is_rising_table) (defBody s_is_rising_table) (defScope s_is_rising_table) .none kV doc pm an cdv ct) ⟨us, []⟩ = pure ((["table"] : List Str).zip us) := fun _ _ _ _ _ _ us hl => match us, hl with | [_], _ => rfl
abbrev s_is_odd : Stmt := top 34
abbrev N_is_odd : List Str := ["table", "many", "bits", "wire"]
theorem sc_is_odd : FnScope N_is_odd ["table"] (defScope s_is_odd) := ⟨rfl, rfl, rfl, by decide +kernel, rfl, by decide +kernel, by decide +kernel⟩
theorem bi_is_odd : ∀ (kV doc pm : Value) (an : Option Addr) (cdv ct : Value) (us : List Value), us.length = (["table"] : List Str).length → bindArgs (PySem.W.fnOf "is_odd" "is_odd" (defArgs s_is_odd) (defBody s_is_odd) (defScope s_is_odd) .none kV doc pm an cdv ct) ⟨us, []⟩ = pure ((["table"] : List Str).zip us) := fun _ _ _ _ _ _ us hl => match us, hl with | [_], _ => rfl
abbrev s_is_meet : Stmt := top 35
abbrev N_is_meet : List Str := ["table", "many", "needs", "bits", "wire"]
theorem sc_is_meet : FnScope N_is_meet ["table"] (defScope s_is_meet) := ⟨rfl, rfl, rfl, by decide +kernel, rfl, by decide +kernel, by decide +kernel⟩
theorem bi_is_meet : ∀ (kV doc pm : Value) (an : Option Addr) (cdv ct : Value) (us : List Value), us.length = (["table"] : List Str).length → bindArgs (PySem.W.fnOf "is_meet" "is_meet" (defArgs s_is_meet) (defBody s_is_meet) (defScope s_is_meet) .none kV doc pm an cdv ct) ⟨us, []⟩ = pure ((["table"] : List Str).zip us) := fun _ _ _ _ _ _ us hl => match us, hl with | [_], _ => rfl
abbrev s_has_pairs : Stmt := top 36
abbrev N_has_pairs : List Str := ["table", "many", "bits", "above"]
theorem sc_has_pairs : FnScope N_has_pairs ["table"] (defScope s_has_pairs) := ⟨rfl, rfl, rfl, by decide +kernel, rfl, by decide +kernel, by decide +kernel⟩
theorem bi_has_pairs : ∀ (kV doc pm : Value) (an : Option Addr) (cdv ct : Value) (us : List Value), us.length = (["table"] : List Str).length → bindArgs (PySem.W.fnOf "has_pairs" "has_pairs" (defArgs s_has_pairs) (defBody s_has_pairs) (defScope s_has_pairs) .none kV doc pm an cdv ct) ⟨us, []⟩ = pure ((["table"] : List Str).zip us) := fun _ _ _ _ _ _ us hl => match us, hl with | [_], _ => rfl
abbrev s_has_common : Stmt := top 37
abbrev N_has_common : List Str := ["table", "many", "bits", "wire"]
theorem sc_has_common : FnScope N_has_common ["table"] (defScope s_has_common) := ⟨rfl, rfl, rfl, by decide +kernel, rfl, by decide +kernel, by decide +kernel⟩
theorem bi_has_common : ∀ (kV doc pm : Value) (an : Option Addr) (cdv ct : Value) (us : List Value), us.length = (["table"] : List Str).length → bindArgs (PySem.W.fnOf "has_common" "has_common" (defArgs s_has_common) (defBody s_has_common) (defScope s_has_common) .none kV doc pm an cdv ct) ⟨us, []⟩ = pure ((["table"] : List Str).zip us) := fun _ _ _ _ _ _ us hl => match us, hl with | [_], _ => rfl
abbrev s_is_gate : Stmt := top 42
abbrev N_is_gate : List Str := ["value"]
theorem sc_is_gate : FnScope N_is_gate ["value"] (defScope s_is_gate) := ⟨rfl, rfl, rfl, by decide +kernel, rfl, by decide +kernel, by decide +kernel⟩
theorem bi_is_gate : ∀ (kV doc pm : Value) (an : Option Addr) (cdv ct : Value) (us : List Value), us.length = (["value"] : List Str).length → bindArgs (PySem.W.fnOf "is_gate" "is_gate" (defArgs s_is_gate) (defBody s_is_gate) (defScope s_is_gate) .none kV doc pm an cdv ct) ⟨us, []⟩ = pure ((["value"] : List Str).zip us) := fun _ _ _ _ _ _ us hl => match us, hl with | [_], _ => rfl
abbrev s_make_kinds : Stmt := top 43
abbrev N_make_kinds : List Str := ["make", "name", "table"]
theorem sc_make_kinds : FnScope N_make_kinds ["make"] (defScope s_make_kinds) := ⟨rfl, rfl, rfl, by decide +kernel, rfl, by decide +kernel, by decide +kernel⟩
theorem bi_make_kinds : ∀ (kV doc pm : Value) (an : Option Addr) (cdv ct : Value) (us : List Value), us.length = (["make"] : List Str).length → bindArgs (PySem.W.fnOf "make_kinds" "make_kinds" (defArgs s_make_kinds) (defBody s_make_kinds) (defScope s_make_kinds) .none kV doc pm an cdv ct) ⟨us, []⟩ = pure ((["make"] : List Str).zip us) := fun _ _ _ _ _ _ us hl => match us, hl with | [_], _ => rfl
abbrev s_kinds_of_all : Stmt := top 44
abbrev N_kinds_of_all : List Str := ["tables", "kind", "table"]
theorem sc_kinds_of_all : FnScope N_kinds_of_all ["tables"] (defScope s_kinds_of_all) := ⟨rfl, rfl, rfl, by decide +kernel, rfl, by decide +kernel, by decide +kernel⟩
theorem bi_kinds_of_all : ∀ (kV doc pm : Value) (an : Option Addr) (cdv ct : Value) (us : List Value), us.length = (["tables"] : List Str).length → bindArgs (PySem.W.fnOf "kinds_of_all" "kinds_of_all" (defArgs s_kinds_of_all) (defBody s_kinds_of_all) (defScope s_kinds_of_all) .none kV doc pm an cdv ct) ⟨us, []⟩ = pure ((["tables"] : List Str).zip us) := fun _ _ _ _ _ _ us hl => match us, hl with | [_], _ => rfl
abbrev s_missing_kind : Stmt := top 45
abbrev N_missing_kind : List Str := ["make", "table", "kind"]
theorem sc_missing_kind : FnScope N_missing_kind ["make", "table"] (defScope s_missing_kind) := ⟨rfl, rfl, rfl, by decide +kernel, rfl, by decide +kernel, by decide +kernel⟩
theorem bi_missing_kind : ∀ (kV doc pm : Value) (an : Option Addr) (cdv ct : Value) (us : List Value), us.length = (["make", "table"] : List Str).length → bindArgs (PySem.W.fnOf "missing_kind" "missing_kind" (defArgs s_missing_kind) (defBody s_missing_kind) (defScope s_missing_kind) .none kV doc pm an cdv ct) ⟨us, []⟩ = pure ((["make", "table"] : List Str).zip us) := fun _ _ _ _ _ _ us hl => match us, hl with | [_, _], _ => rfl
abbrev s_can_make : Stmt := top 46
abbrev N_can_make : List Str := ["make", "table"]
theorem sc_can_make : FnScope N_can_make ["make", "table"] (defScope s_can_make) := ⟨rfl, rfl, rfl, by decide +kernel, rfl, by decide +kernel, by decide +kernel⟩
theorem bi_can_make : ∀ (kV doc pm : Value) (an : Option Addr) (cdv ct : Value) (us : List Value), us.length = (["make", "table"] : List Str).length → bindArgs (PySem.W.fnOf "can_make" "can_make" (defArgs s_can_make) (defBody s_can_make) (defScope s_can_make) .none kV doc pm an cdv ct) ⟨us, []⟩ = pure ((["make", "table"] : List Str).zip us) := fun _ _ _ _ _ _ us hl => match us, hl with | [_, _], _ => rfl
abbrev s_made_tables : Stmt := top 47
abbrev N_made_tables : List Str := ["make", "many", "kinds", "size", "tables", "bits", "table", "kind"]
theorem sc_made_tables : FnScope N_made_tables ["make", "many"] (defScope s_made_tables) := ⟨rfl, rfl, rfl, by decide +kernel, rfl, by decide +kernel, by decide +kernel⟩
theorem bi_made_tables : ∀ (kV doc pm : Value) (an : Option Addr) (cdv ct : Value) (us : List Value), us.length = (["make", "many"] : List Str).length → bindArgs (PySem.W.fnOf "made_tables" "made_tables" (defArgs s_made_tables) (defBody s_made_tables) (defScope s_made_tables) .none kV doc pm an cdv ct) ⟨us, []⟩ = pure ((["make", "many"] : List Str).zip us) := fun _ _ _ _ _ _ us hl => match us, hl with | [_, _], _ => rfl
abbrev s_law_heap : Stmt := top 49
abbrev N_law_heap : List Str := ["_law_script", "_law_base", "_law_cells", "_law_stir", "_law_cell"]
theorem sc_law_heap : FnScope N_law_heap ["_law_script", "_law_base"] (defScope s_law_heap) := ⟨rfl, rfl, rfl, by decide +kernel, rfl, by decide +kernel, by decide +kernel⟩
theorem bi_law_heap : ∀ (kV doc pm : Value) (an : Option Addr) (cdv ct : Value) (us : List Value), us.length = (["_law_script", "_law_base"] : List Str).length → bindArgs (PySem.W.fnOf "_law_heap" "_law_heap" (defArgs s_law_heap) (defBody s_law_heap) (defScope s_law_heap) .none kV doc pm an cdv ct) ⟨us, []⟩ = pure ((["_law_script", "_law_base"] : List Str).zip us) := fun _ _ _ _ _ _ us hl => match us, hl with | [_, _], _ => rfl
abbrev s_law_draw : Stmt := top 50
abbrev N_law_draw : List Str := ["_law_heap_here", "_law_many", "_law_rest"]
theorem sc_law_draw : FnScope N_law_draw ["_law_heap_here", "_law_many"] (defScope s_law_draw) := ⟨rfl, rfl, rfl, by decide +kernel, rfl, by decide +kernel, by decide +kernel⟩
theorem bi_law_draw : ∀ (kV doc pm : Value) (an : Option Addr) (cdv ct : Value) (us : List Value), us.length = (["_law_heap_here", "_law_many"] : List Str).length → bindArgs (PySem.W.fnOf "_law_draw" "_law_draw" (defArgs s_law_draw) (defBody s_law_draw) (defScope s_law_draw) .none kV doc pm an cdv ct) ⟨us, []⟩ = pure ((["_law_heap_here", "_law_many"] : List Str).zip us) := fun _ _ _ _ _ _ us hl => match us, hl with | [_, _], _ => rfl
abbrev s_law_pick : Stmt := top 51
abbrev N_law_pick : List Str := ["_law_heap_here", "_law_some"]
theorem sc_law_pick : FnScope N_law_pick ["_law_heap_here", "_law_some"] (defScope s_law_pick) := ⟨rfl, rfl, rfl, by decide +kernel, rfl, by decide +kernel, by decide +kernel⟩
theorem bi_law_pick : ∀ (kV doc pm : Value) (an : Option Addr) (cdv ct : Value) (us : List Value), us.length = (["_law_heap_here", "_law_some"] : List Str).length → bindArgs (PySem.W.fnOf "_law_pick" "_law_pick" (defArgs s_law_pick) (defBody s_law_pick) (defScope s_law_pick) .none kV doc pm an cdv ct) ⟨us, []⟩ = pure ((["_law_heap_here", "_law_some"] : List Str).zip us) := fun _ _ _ _ _ _ us hl => match us, hl with | [_, _], _ => rfl
abbrev s_law_settings : Stmt := top 52
abbrev N_law_settings : List Str := ["_law_many", "_law_rows_here", "_law_turn", "_law_more", "_law_row"]
theorem sc_law_settings : FnScope N_law_settings ["_law_many"] (defScope s_law_settings) := ⟨rfl, rfl, rfl, by decide +kernel, rfl, by decide +kernel, by decide +kernel⟩
theorem bi_law_settings : ∀ (kV doc pm : Value) (an : Option Addr) (cdv ct : Value) (us : List Value), us.length = (["_law_many"] : List Str).length → bindArgs (PySem.W.fnOf "_law_settings" "_law_settings" (defArgs s_law_settings) (defBody s_law_settings) (defScope s_law_settings) .none kV doc pm an cdv ct) ⟨us, []⟩ = pure ((["_law_many"] : List Str).zip us) := fun _ _ _ _ _ _ us hl => match us, hl with | [_], _ => rfl
abbrev s_law_under : Stmt := top 53
abbrev N_law_under : List Str := ["_law_one", "_law_other", "_law_at"]
theorem sc_law_under : FnScope N_law_under ["_law_one", "_law_other"] (defScope s_law_under) := ⟨rfl, rfl, rfl, by decide +kernel, rfl, by decide +kernel, by decide +kernel⟩
theorem bi_law_under : ∀ (kV doc pm : Value) (an : Option Addr) (cdv ct : Value) (us : List Value), us.length = (["_law_one", "_law_other"] : List Str).length → bindArgs (PySem.W.fnOf "_law_under" "_law_under" (defArgs s_law_under) (defBody s_law_under) (defScope s_law_under) .none kV doc pm an cdv ct) ⟨us, []⟩ = pure ((["_law_one", "_law_other"] : List Str).zip us) := fun _ _ _ _ _ _ us hl => match us, hl with | [_, _], _ => rfl
abbrev s_law_value : Stmt := top 54
abbrev N_law_value : List Str := ["_law_form", "_law_row", "_law_points", "_law_ties", "_law_wire", "_law_some", "_law_bit", "_law_here", "_law_point", "_law_value_here", "_law_at"]
theorem sc_law_value : FnScope N_law_value ["_law_form", "_law_row", "_law_points", "_law_ties"] (defScope s_law_value) := ⟨rfl, rfl, rfl, by decide +kernel, rfl, by decide +kernel, by decide +kernel⟩
theorem bi_law_value : ∀ (kV doc pm : Value) (an : Option Addr) (cdv ct : Value) (us : List Value), us.length = (["_law_form", "_law_row", "_law_points", "_law_ties"] : List Str).length → bindArgs (PySem.W.fnOf "_law_value" "_law_value" (defArgs s_law_value) (defBody s_law_value) (defScope s_law_value) .none kV doc pm an cdv ct) ⟨us, []⟩ = pure ((["_law_form", "_law_row", "_law_points", "_law_ties"] : List Str).zip us) := fun _ _ _ _ _ _ us hl => match us, hl with | [_, _, _, _], _ => rfl
abbrev s_law_table : Stmt := top 55
abbrev N_law_table : List Str := ["_law_heap_here", "_law_many", "_law_form", "_law_rows_here", "_law_share", "_law_points", "_law_some", "_law_ties", "_law_row", "_law_turn", "_law_at"]
theorem sc_law_table : FnScope N_law_table ["_law_heap_here", "_law_many", "_law_form"] (defScope s_law_table) := ⟨rfl, rfl, rfl, by decide +kernel, rfl, by decide +kernel, by decide +kernel⟩
theorem bi_law_table : ∀ (kV doc pm : Value) (an : Option Addr) (cdv ct : Value) (us : List Value), us.length = (["_law_heap_here", "_law_many", "_law_form"] : List Str).length → bindArgs (PySem.W.fnOf "_law_table" "_law_table" (defArgs s_law_table) (defBody s_law_table) (defScope s_law_table) .none kV doc pm an cdv ct) ⟨us, []⟩ = pure ((["_law_heap_here", "_law_many", "_law_form"] : List Str).zip us) := fun _ _ _ _ _ _ us hl => match us, hl with | [_, _, _], _ => rfl
abbrev s_law_names : Stmt := top 56
abbrev N_law_names : List Str := ["_law_heap_here", "_law_many", "_law_letters", "_law_stem", "_law_place", "_law_first", "_law_found", "_law_even", "_law_at", "_law_sign", "_law_rest", "_law_turn"]
theorem sc_law_names : FnScope N_law_names ["_law_heap_here", "_law_many"] (defScope s_law_names) := ⟨rfl, rfl, rfl, by decide +kernel, rfl, by decide +kernel, by decide +kernel⟩
theorem bi_law_names : ∀ (kV doc pm : Value) (an : Option Addr) (cdv ct : Value) (us : List Value), us.length = (["_law_heap_here", "_law_many"] : List Str).length → bindArgs (PySem.W.fnOf "_law_names" "_law_names" (defArgs s_law_names) (defBody s_law_names) (defScope s_law_names) .none kV doc pm an cdv ct) ⟨us, []⟩ = pure ((["_law_heap_here", "_law_many"] : List Str).zip us) := fun _ _ _ _ _ _ us hl => match us, hl with | [_, _], _ => rfl
abbrev s_law_gates : Stmt := top 57
abbrev N_law_gates : List Str := ["_law_heap_here", "_law_most", "_law_forms", "_law_widths", "_law_names_here", "_law_name"]
theorem sc_law_gates : FnScope N_law_gates ["_law_heap_here", "_law_most"] (defScope s_law_gates) := ⟨rfl, rfl, rfl, by decide +kernel, rfl, by decide +kernel, by decide +kernel⟩
theorem bi_law_gates : ∀ (kV doc pm : Value) (an : Option Addr) (cdv ct : Value) (us : List Value), us.length = (["_law_heap_here", "_law_most"] : List Str).length → bindArgs (PySem.W.fnOf "_law_gates" "_law_gates" (defArgs s_law_gates) (defBody s_law_gates) (defScope s_law_gates) .none kV doc pm an cdv ct) ⟨us, []⟩ = pure ((["_law_heap_here", "_law_most"] : List Str).zip us) := fun _ _ _ _ _ _ us hl => match us, hl with | [_, _], _ => rfl
abbrev s_law_made : Stmt := top 58
abbrev N_law_made : List Str := ["_law_heap_here", "_law_gates_here", "_law_many", "_law_most", "_law_rows_here", "_law_columns", "_law_turn", "_law_name", "_law_worths", "_law_spots", "_law_place", "_law_column", "_law_wire", "_law_row", "_law_at", "_law_spot"]
theorem sc_law_made : FnScope N_law_made ["_law_heap_here", "_law_gates_here", "_law_many", "_law_most"] (defScope s_law_made) := ⟨rfl, rfl, rfl, by decide +kernel, rfl, by decide +kernel, by decide +kernel⟩
theorem bi_law_made : ∀ (kV doc pm : Value) (an : Option Addr) (cdv ct : Value) (us : List Value), us.length = (["_law_heap_here", "_law_gates_here", "_law_many", "_law_most"] : List Str).length → bindArgs (PySem.W.fnOf "_law_made" "_law_made" (defArgs s_law_made) (defBody s_law_made) (defScope s_law_made) .none kV doc pm an cdv ct) ⟨us, []⟩ = pure ((["_law_heap_here", "_law_gates_here", "_law_many", "_law_most"] : List Str).zip us) := fun _ _ _ _ _ _ us hl => match us, hl with | [_, _, _, _], _ => rfl
abbrev s_law_put : Stmt := top 59
abbrev N_law_put : List Str := ["_law_worths", "_law_inner", "_law_value_here", "_law_one", "_law_at"]
theorem sc_law_put : FnScope N_law_put ["_law_worths", "_law_inner"] (defScope s_law_put) := ⟨rfl, rfl, rfl, by decide +kernel, rfl, by decide +kernel, by decide +kernel⟩
theorem bi_law_put : ∀ (kV doc pm : Value) (an : Option Addr) (cdv ct : Value) (us : List Value), us.length = (["_law_worths", "_law_inner"] : List Str).length → bindArgs (PySem.W.fnOf "_law_put" "_law_put" (defArgs s_law_put) (defBody s_law_put) (defScope s_law_put) .none kV doc pm an cdv ct) ⟨us, []⟩ = pure ((["_law_worths", "_law_inner"] : List Str).zip us) := fun _ _ _ _ _ _ us hl => match us, hl with | [_, _], _ => rfl
abbrev s_law_rows : Stmt := top 60
abbrev N_law_rows : List Str := ["_law_many", "_law_width", "_law_rows_here", "_law_turn", "_law_more", "_law_row", "_law_at"]
theorem sc_law_rows : FnScope N_law_rows ["_law_many", "_law_width"] (defScope s_law_rows) := ⟨rfl, rfl, rfl, by decide +kernel, rfl, by decide +kernel, by decide +kernel⟩
theorem bi_law_rows : ∀ (kV doc pm : Value) (an : Option Addr) (cdv ct : Value) (us : List Value), us.length = (["_law_many", "_law_width"] : List Str).length → bindArgs (PySem.W.fnOf "_law_rows" "_law_rows" (defArgs s_law_rows) (defBody s_law_rows) (defScope s_law_rows) .none kV doc pm an cdv ct) ⟨us, []⟩ = pure ((["_law_many", "_law_width"] : List Str).zip us) := fun _ _ _ _ _ _ us hl => match us, hl with | [_, _], _ => rfl
abbrev s_law_closed : Stmt := top 61
abbrev N_law_closed : List Str := ["_law_gates_here", "_law_many", "_law_rows_here", "_law_found", "_law_done", "_law_most", "_law_turn", "_law_before", "_law_name", "_law_worths", "_law_width", "_law_row", "_law_made_here", "_law_wire", "_law_at"]
theorem sc_law_closed : FnScope N_law_closed ["_law_gates_here", "_law_many"] (defScope s_law_closed) := ⟨rfl, rfl, rfl, by decide +kernel, rfl, by decide +kernel, by decide +kernel⟩
theorem bi_law_closed : ∀ (kV doc pm : Value) (an : Option Addr) (cdv ct : Value) (us : List Value), us.length = (["_law_gates_here", "_law_many"] : List Str).length → bindArgs (PySem.W.fnOf "_law_closed" "_law_closed" (defArgs s_law_closed) (defBody s_law_closed) (defScope s_law_closed) .none kV doc pm an cdv ct) ⟨us, []⟩ = pure ((["_law_gates_here", "_law_many"] : List Str).zip us) := fun _ _ _ _ _ _ us hl => match us, hl with | [_, _], _ => rfl
abbrev s_law_size : Stmt := top 62
abbrev N_law_size : List Str := ["_law_work", "wrong"]
theorem sc_law_size : FnScope N_law_size ["_law_work"] (defScope s_law_size) := ⟨rfl, rfl, rfl, by decide +kernel, rfl, by decide +kernel, by decide +kernel⟩
theorem bi_law_size : ∀ (kV doc pm : Value) (an : Option Addr) (cdv ct : Value) (us : List Value), us.length = (["_law_work"] : List Str).length → bindArgs (PySem.W.fnOf "_law_size" "_law_size" (defArgs s_law_size) (defBody s_law_size) (defScope s_law_size) .none kV doc pm an cdv ct) ⟨us, []⟩ = pure ((["_law_work"] : List Str).zip us) := fun _ _ _ _ _ _ us hl => match us, hl with | [_], _ => rfl
abbrev s_law : Stmt := top 63
abbrev N_law : List Str := ["_law_script", "_law_heap_here", "_law_gates_here", "_law_make", "_law_many", "_law_due", "_law_turn", "_law_table_here", "_law_one", "_law_inner", "_law_far"]
theorem sc_law : FnScope N_law ["_law_script"] (defScope s_law) := ⟨rfl, rfl, rfl, by decide +kernel, rfl, by decide +kernel, by decide +kernel⟩
theorem bi_law : ∀ (kV doc pm : Value) (an : Option Addr) (cdv ct : Value) (us : List Value), us.length = (["_law_script"] : List Str).length → bindArgs (PySem.W.fnOf "law" "law" (defArgs s_law) (defBody s_law) (defScope s_law) .none kV doc pm an cdv ct) ⟨us, []⟩ = pure ((["_law_script"] : List Str).zip us) := fun _ _ _ _ _ _ us hl => match us, hl with | [_], _ => rfl
abbrev s_Make_init : Stmt := inClass (top 41) 0
abbrev N_Make_init : List Str := ["self", "gates", "seen", "at", "gate"]
theorem sc_Make_init : FnScope N_Make_init ["self", "gates"] (defScope s_Make_init) := ⟨rfl, rfl, rfl, by decide +kernel, rfl, by decide +kernel, by decide +kernel⟩
structure Tx (K : Kx) (mg : Str → Option Value) : Prop where
  b_abs : mg "abs" = none
  b_all : mg "all" = none
  b_any : mg "any" = none
  b_bool : mg "bool" = none
  b_enumerate : mg "enumerate" = none
  b_int : mg "int" = none
  b_isinstance : mg "isinstance" = none
  b_len : mg "len" = none
  b_list : mg "list" = none
  b_max : mg "max" = none
  b_min : mg "min" = none
  b_range : mg "range" = none
  b_repr : mg "repr" = none
  b_sorted : mg "sorted" = none
  b_str : mg "str" = none
  b_sum : mg "sum" = none
  b_tuple : mg "tuple" = none
  c_LONGEST : ∃ t, mg "LONGEST" = some (.int 8 t)
  c_MOST_GATES : ∃ t, mg "MOST_GATES" = some (.int 6 t)
  c_MOST_PLACES : ∃ t, mg "MOST_PLACES" = some (.int 3 t)
  c_LETTERS : ∃ t, mg "LETTERS" = some (.str "abcdefghijklmnopqrstuvwxyz" t)
  c_SIZES : mg "SIZES" = some (.ref (He.ga K "SIZES"))
  c_KINDS : mg "KINDS" = some (.ref (He.ga K "KINDS"))
  v_SIZES : ∃ o, K.lookup (He.ga K "SIZES") = some o ∧ o.cls = .type "tuple" ∧ o.dict = none ∧ ∀ H, SqT K H (He.ga K "SIZES") (([1, 2, 4, 8, 16, 32, 64, 128, 256] : List Int).map V.int)
  v_KINDS : ∀ H, SqT K H (He.ga K "KINDS") ((["cocommon", "common", "copairs", "join", "meet", "odd", "one", "pairs", "rising", "single", "turning", "zero"] : List Str).map V.str)
  k_Make : Cls K (He.ga K "Make")
  n_Make : NoAttr K (He.ga K "Make") "gates"
  d_is_integer : Df K mg "is_integer" s_is_integer
  d_is_below : Df K mg "is_below" s_is_below
  d_is_text : Df K mg "is_text" s_is_text
  d_is_sequence : Df K mg "is_sequence" s_is_sequence
  d_is_pair : Df K mg "is_pair" s_is_pair
  d_is_name : Df K mg "is_name" s_is_name
  d_is_bit : Df K mg "is_bit" s_is_bit
  d_need_between : Df K mg "need_between" s_need_between
  d_is_table : Df K mg "is_table" s_is_table
  d_need_table : Df K mg "need_table" s_need_table
  d_width_of : Df K mg "width_of" s_width_of
  d_mirror_table : Df K mg "mirror_table" s_mirror_table
  d_needs_of : Df K mg "needs_of" s_needs_of
  d_put_table : Df K mg "put_table" s_put_table
  d_bits_of : Df K mg "bits_of" s_bits_of
  d_table_of : Df K mg "table_of" s_table_of
  d_full_bits : Df K mg "full_bits" s_full_bits
  d_wire_bits : Df K mg "wire_bits" s_wire_bits
  d_gate_bits : Df K mg "gate_bits" s_gate_bits
  d_is_of : Df K mg "is_of" s_is_of
  d_raised : Df K mg "raised" s_raised
  d_is_rising_table : Df K mg "is_rising_table" s_is_rising_table
  d_is_odd : Df K mg "is_odd" s_is_odd
  d_is_meet : Df K mg "is_meet" s_is_meet
  d_has_pairs : Df K mg "has_pairs" s_has_pairs
  d_has_common : Df K mg "has_common" s_has_common
  d_is_gate : Df K mg "is_gate" s_is_gate
  d_make_kinds : Df K mg "make_kinds" s_make_kinds
  d_kinds_of_all : Df K mg "kinds_of_all" s_kinds_of_all
  d_missing_kind : Df K mg "missing_kind" s_missing_kind
  d_can_make : Df K mg "can_make" s_can_make
  d_made_tables : Df K mg "made_tables" s_made_tables
  d_law_heap : Df K mg "_law_heap" s_law_heap
  d_law_draw : Df K mg "_law_draw" s_law_draw
  d_law_pick : Df K mg "_law_pick" s_law_pick
  d_law_settings : Df K mg "_law_settings" s_law_settings
  d_law_under : Df K mg "_law_under" s_law_under
  d_law_value : Df K mg "_law_value" s_law_value
  d_law_table : Df K mg "_law_table" s_law_table
  d_law_names : Df K mg "_law_names" s_law_names
  d_law_gates : Df K mg "_law_gates" s_law_gates
  d_law_made : Df K mg "_law_made" s_law_made
  d_law_put : Df K mg "_law_put" s_law_put
  d_law_rows : Df K mg "_law_rows" s_law_rows
  d_law_closed : Df K mg "_law_closed" s_law_closed
  d_law_size : Df K mg "_law_size" s_law_size
  d_law : Df K mg "law" s_law
end Nb
end
section
set_option Elab.async false
set_option linter.all false
set_option maxRecDepth 100000
set_option maxHeartbeats 4000000
/-! defs: words, sizes, bits. -/
namespace Nb
open PySem L2
local macro_rules | `(tactic| walk_at "nb_isi") => `(tactic| first | exact isi_ii | exact isi_ib | exact isi_ss | exact isi_tt | exact isi_ll | exact isi_lt)
local macro_rules | `(tactic| walk_at "nb_side") => `(tactic| first | assumption | (show CMul _ _; first | exact Or.inr ⟨by decide, by decide⟩ | exact Or.inl ⟨by decide, by decide⟩ | exact Or.inr ⟨by omega, by omega⟩ | exact Or.inl ⟨by omega, by omega⟩) | (show CDiv _ _; exact ⟨by omega, by omega⟩) | (show CPow _ _; exact ⟨by omega, by omega, by omega⟩) | decide | omega | rfl)
local macro_rules | `(tactic| walk_at "nb_ev") => `(tactic| first
  | exact ev_var rfl
  | exact ev_int
  | exact ev_str
  | exact ev_bl
  | exact ev_non
  | (refine' ev_isi ?h1 ?h2; (case h1 => walk_at "nb_ev"); (case h2 => walk_at "nb_isi"))
  | (refine' ev_isi2 ?h1 ?h2 ?h3; (case h1 => walk_at "nb_ev"); (case h2 => walk_at "nb_isi"); (case h3 => walk_at "nb_isi"))
  | (refine' ev_ii ?h1 ?h2; (case h1 => walk_at "nb_ev"); (case h2 => walk_at "nb_ev"))
  | (refine' ev_ib ?h1 ?h2; (case h1 => walk_at "nb_ev"); (case h2 => walk_at "nb_ev"))
  | (refine' ev_iiC ?h1 ?h2 ?h3; (case h1 => walk_at "nb_ev"); (case h2 => walk_at "nb_ev"); (case h3 => walk_at "nb_side"))
  | (refine' ev_eqI ?h1 ?h2; (case h1 => walk_at "nb_ev"); (case h2 => walk_at "nb_ev"))
  | (refine' ev_neI ?h1 ?h2; (case h1 => walk_at "nb_ev"); (case h2 => walk_at "nb_ev"))
  | (refine' ev_eqS ?h1 ?h2; (case h1 => walk_at "nb_ev"); (case h2 => walk_at "nb_ev"))
  | (refine' ev_neS ?h1 ?h2; (case h1 => walk_at "nb_ev"); (case h2 => walk_at "nb_ev"))
  | (refine' ev_neg ?h1; (case h1 => walk_at "nb_ev"))
  | (refine' ev_andV ?h1 (fun _ => ?h2); (case h1 => walk_at "nb_ev"); (case h2 => walk_at "nb_ev"))
  | (refine' ev_orV ?h1 (fun _ => ?h2); (case h1 => walk_at "nb_ev"); (case h2 => walk_at "nb_ev"))
  | (refine' ev_notV ?h1; (case h1 => walk_at "nb_ev"))
  | walk_at "nb_call")
local macro_rules | `(tactic| walk_at "nb") => `(tactic| (refine' Ev.is ?h ?e; (case h => walk_at "nb_ev"); (try rfl)))
local macro_rules | `(tactic| walk_at "nb_ea") => `(tactic| first | exact ea_nil | (refine' ea_cons ?h1 ?h2; (case h1 => walk_at "nb_ev"); (case h2 => walk_at "nb_ea")))
section
variable {K : Kx} {w : Wd} {δ : Ds} {tr : TA} {mg : Str → Option Value}
theorem sizes_dp (T : Tx K mg) (G : Hp) : Dp K G (.ref (He.ga K "SIZES")) (iT [1, 2, 4, 8, 16, 32, 64, 128, 256]) := by
  obtain ⟨o, h1, h2, h3, h4⟩ := T.v_SIZES
  exact .tup (h4 G) (dpAll_ints [1, 2, 4, 8, 16, 32, 64, 128, 256])
theorem ev_sizes (T : Tx K mg) : Ev1 K w (tC (.ref (He.ga K "SIZES"))) δ (.d (iT [1, 2, 4, 8, 16, 32, 64, 128, 256])) := ev_c (sizes_dp T)
theorem size_at {k : Nat} (h : k ≤ 3) : atI ([1, 2, 4, 8, 16, 32, 64, 128, 256].map PyData.int) (k : Int) = some (.int ((2 ^ k : Nat) : Int)) := by
  have : k = 0 ∨ k = 1 ∨ k = 2 ∨ k = 3 := by omega
  rcases this with h | h | h | h <;> subst h <;> rfl
/-- SIZES[e] -/
theorem ev_size (T : Tx K mg) {te : TE} {i : Int} {k : Nat} (hk : k ≤ 3) (h : Ev1 K w te δ (.d (.int i))) (e : i = (k : Int)) : Ev1 K w (tOp (rIxT K) (tC (.ref (He.ga K "SIZES"))) te) δ (.d (.int ((2 ^ k : Nat) : Int))) := by
  subst e
  exact ev_ixT (ev_sizes T) h (size_at hk)
end

abbrev OK_is_integer (P : Program) (w0 : World) (K : Kx) (mg : Str → Option Value) (base : Heap) : Prop := Ok P w0 K mg base 1 "is_integer" ["value"] (spW K (fun (i : Int) => [.d (.int i)]) (fun _ _ => True) (fun _ z => z = .d (.bool true)))
theorem ok_is_integer {P : Program} {w0 : World} {K : Kx} {mg : Str → Option Value} {base : Heap} (T : Tx K mg) : OK_is_integer P w0 K mg base := by
  refine fn_ok T.d_is_integer sc_is_integer (fun _ => rfl) bi_is_integer fun f cdv A outer s H E hr => ⟨_, (pss_one (ps_ret (pe_and (pe_callB call_isi (by rfl) T.b_isinstance (by decide +kernel) (pa_cons (pv 0) (pa_cons (pe_ty (n := "int") T.b_int) pa_nil))) (pe_one (pe_not (pe_callB call_isi (by rfl) T.b_isinstance (by decide +kernel) (pa_cons (pv 0) (pa_cons (pe_ty (n := "bool") T.b_bool) pa_nil)))))))), fun b w D a hp hret hn => ?_⟩
  exact run_ret (by walk_at "nb") hret

abbrev OK_is_text (P : Program) (w0 : World) (K : Kx) (mg : Str → Option Value) (base : Heap) : Prop := Ok P w0 K mg base 1 "is_text" ["value"] (spW K (fun (x : Str) => [.d (.str x)]) (fun _ _ => True) (fun _ z => z = .d (.bool true)))
theorem ok_is_text {P : Program} {w0 : World} {K : Kx} {mg : Str → Option Value} {base : Heap} (T : Tx K mg) : OK_is_text P w0 K mg base := by
  refine fn_ok T.d_is_text sc_is_text (fun _ => rfl) bi_is_text fun f cdv A outer s H E hr => ⟨_, (pss_one (ps_ret (pe_callB call_isi (by rfl) T.b_isinstance (by decide +kernel) (pa_cons (pv 0) (pa_cons (pe_ty (n := "str") T.b_str) pa_nil))))), fun b w D a hp hret hn => ?_⟩
  exact run_ret (by walk_at "nb") hret

abbrev OK_is_sequence (P : Program) (w0 : World) (K : Kx) (mg : Str → Option Value) (base : Heap) : Prop := Ok P w0 K mg base 1 "is_sequence" ["value"] (spW K (fun (xs : List PyData) => [.d (.list xs)]) (fun _ _ => True) (fun _ z => z = .d (.bool true)))
theorem ok_is_sequence {P : Program} {w0 : World} {K : Kx} {mg : Str → Option Value} {base : Heap} (T : Tx K mg) : OK_is_sequence P w0 K mg base := by
  refine fn_ok T.d_is_sequence sc_is_sequence (fun _ => rfl) bi_is_sequence fun f cdv A outer s H E hr => ⟨_, (pss_one (ps_ret (pe_callB call_isiT (by rfl) T.b_isinstance (by decide +kernel) (pa_cons (pv 0) (pa_cons (pe_tup (pa_cons (pe_ty (n := "list") T.b_list) (pa_cons (pe_ty (n := "tuple") T.b_tuple) pa_nil))) pa_nil))))), fun b w D a hp hret hn => ?_⟩
  exact run_ret (by walk_at "nb") hret

abbrev OK_is_below (P : Program) (w0 : World) (K : Kx) (mg : Str → Option Value) (base : Heap) : Prop := Ok P w0 K mg base 2 "is_below" ["value", "bound"] (spW K (fun (p : Int × Int) => [.d (.int p.1), .d (.int p.2)]) (fun _ _ => True) (fun p z => z = .d (.bool (decide (0 ≤ p.1) && decide (p.1 < p.2)))))
theorem ok_is_below {P : Program} {w0 : World} {K : Kx} {mg : Str → Option Value} {base : Heap} (T : Tx K mg) (h_is_integer : OK_is_integer P w0 K mg base) : OK_is_below P w0 K mg base := by
  refine fn_ok T.d_is_below sc_is_below (fun _ => rfl) bi_is_below fun f cdv A outer s H E hr => ⟨_, (pss_one (ps_ret (pe_and (pe_f h_is_integer hr (pa_cons (pv 0) pa_nil)) (pe_one (pe_chain op_le op_lt pe_int (pv 0) (pv 1)))))), fun b w D a hp hret hn => ?_⟩
  refine run_ret ?_ hret
  refine Ev.is (ev_andV (b := true) (ev_call1 a.1 (by walk_at "nb_ea") trivial fun z e => e) fun _ => ev_chain (b := decide (0 ≤ a.1)) (c := decide (a.1 < a.2)) ev_int (ev_var rfl) od_ib (fun _ => ev_var rfl) fun _ => od_ib) ?_
  rfl

abbrev OK_is_bit (P : Program) (w0 : World) (K : Kx) (mg : Str → Option Value) (base : Heap) : Prop := Ok P w0 K mg base 3 "is_bit" ["value"] (spW K (fun (i : Int) => [.d (.int i)]) (fun _ _ => True) (fun i z => z = .d (.bool (decide (0 ≤ i) && decide (i < 2)))))
theorem ok_is_bit {P : Program} {w0 : World} {K : Kx} {mg : Str → Option Value} {base : Heap} (T : Tx K mg) (h_is_below : OK_is_below P w0 K mg base) : OK_is_bit P w0 K mg base := by
  refine fn_ok T.d_is_bit sc_is_bit (fun _ => rfl) bi_is_bit fun f cdv A outer s H E hr => ⟨_, (pss_one (ps_ret (pe_f h_is_below hr (pa_cons (pv 0) (pa_cons pe_int pa_nil))))), fun b w D a hp hret hn => ?_⟩
  exact run_ret (ev_call1 (a, 2) (by walk_at "nb_ea") trivial fun z e => e) hret

abbrev OK_need_between (P : Program) (w0 : World) (K : Kx) (mg : Str → Option Value) (base : Heap) : Prop := Ok P w0 K mg base 2 "need_between" ["value", "least", "most", "word"] (spW K (fun (p : (Int × Int) × (Int × Str)) => [.d (.int p.1.1), .d (.int p.1.2), .d (.int p.2.1), .d (.str p.2.2)]) (fun _ p => p.1.2 ≤ p.1.1 ∧ p.1.1 ≤ p.2.1) (fun _ z => z = .d .none))
theorem ok_need_between {P : Program} {w0 : World} {K : Kx} {mg : Str → Option Value} {base : Heap} (T : Tx K mg) (h_is_integer : OK_is_integer P w0 K mg base) : OK_need_between P w0 K mg base := by
  refine fn_ok T.d_need_between sc_need_between (fun _ => rfl) bi_need_between fun f cdv A outer s H E hr => ⟨_, (pss_one (ps_if (PW.pt (pw_or (pt_not (pt_val (pe_f h_is_integer hr (pa_cons (pv 0) pa_nil)))) (pw_or1 (pt_not (pt_chain op_le op_le (pv 1) (pv 0) (pv 2)))))) (pss_one ps_never) pss_nil)), fun b w D a hp hret hn => ?_⟩
  obtain ⟨⟨i, lo⟩, ⟨hi, x⟩⟩ := a
  obtain ⟨h1, h2⟩ := hp
  refine run_tail (run_ifF ?_ (run_skip (run_end (hn rfl))))
  refine EvT.is (et_or (b := false) (c := false) ?_ fun _ => ?_) rfl
  · exact EvT.is (et_not (et_B1 (b := true) (ev_call1 i (by walk_at "nb_ea") trivial fun z e => e))) rfl
  · refine EvT.is (et_not (et_test1 (b := true) ?_)) rfl
    refine Ev.is (ev_chain (b := true) (c := true) (ev_var rfl) (ev_var rfl) ?_ (fun _ => ev_var rfl) fun _ => ?_) rfl
    · have := @od_ib K w lo i (fun a b => decide (a ≤ b))
      rwa [show decide (lo ≤ i) = true from decide_eq_true h1] at this
    · have := @od_ib K w i hi (fun a b => decide (a ≤ b))
      rwa [show decide (i ≤ hi) = true from decide_eq_true h2] at this

abbrev OK_width_of (P : Program) (w0 : World) (K : Kx) (mg : Str → Option Value) (base : Heap) : Prop := Ok P w0 K mg base 1 "width_of" ["table"] (spW K (fun (t : Tb) => [.d (bT t.t)]) (fun _ _ => True) (fun t z => z = .d (.int (t.k : Int))))
theorem ok_width_of {P : Program} {w0 : World} {K : Kx} {mg : Str → Option Value} {base : Heap} (T : Tx K mg) : OK_width_of P w0 K mg base := by
  refine fn_ok T.d_width_of sc_width_of (fun _ => rfl) bi_width_of fun f cdv A outer s H E hr => ⟨_, (pss_one (ps_ret (pe_bm PySem.F.plainAttrs_tuple PySem.F.slot_tuple_index PySem.F.type_tuple_index NbR.mt_tixI (pe_gt T.c_SIZES) (pa_cons (pe_callB call_len (by rfl) T.b_len (by decide +kernel) (pa_cons (pv 0) pa_nil)) pa_nil)))), fun b w D a hp hret hn => ?_⟩
  refine run_ret ?_ hret
  obtain ⟨o, h1, h2, h3, h4⟩ := T.v_SIZES
  have hk := a.hk
  refine ev_tixK (z := ((a.t.map bi).map PyData.int).length) (j := a.k) h1 h2 h3 h4 ?_ ?_ ?_
  · exact ev_CB1 (by walk_at "nb_ea") (ca_len (LenD.tuple _))
  · rw [List.length_map, List.length_map, a.hl]
    have : a.k = 0 ∨ a.k = 1 ∨ a.k = 2 ∨ a.k = 3 := by omega
    rcases this with h | h | h | h <;> rw [h] <;> rfl
  · rw [List.length_map, List.length_map, a.hl]
    have : a.k = 0 ∨ a.k = 1 ∨ a.k = 2 ∨ a.k = 3 := by omega
    rcases this with h | h | h | h <;> rw [h] <;> decide

abbrev OK_full_bits (P : Program) (w0 : World) (K : Kx) (mg : Str → Option Value) (base : Heap) : Prop := Ok P w0 K mg base 1 "full_bits" ["many"] (spW K (fun (k : Nat) => [.d (.int (k : Int))]) (fun _ k => k ≤ 3) (fun k z => z = .d (.int (fullN k : Nat))))
theorem ok_full_bits {P : Program} {w0 : World} {K : Kx} {mg : Str → Option Value} {base : Heap} (T : Tx K mg) : OK_full_bits P w0 K mg base := by
  refine fn_ok T.d_full_bits sc_full_bits (fun _ => rfl) bi_full_bits fun f cdv A outer s H E hr => ⟨_, (pss_one (ps_ret (pe_op op_sub (pe_op op_shl pe_int (pe_ix ix_tup (pe_gt T.c_SIZES) (pv 0) (fun _ _ => rfl))) pe_int))), fun b w D a hp hret hn => ?_⟩
  refine run_ret ?_ hret
  have hc : CPow 1 ((2 ^ a : Nat) : Int) := by
    have : a = 0 ∨ a = 1 ∨ a = 2 ∨ a = 3 := by have : a ≤ 3 := hp; omega
    rcases this with h | h | h | h <;> subst h <;> exact ⟨by decide, by decide, by decide⟩
  refine Ev.is (ev_ii (ev_iiC ev_int (ev_size T hp (ev_var rfl) rfl) hc) ev_int) ?_
  have : a = 0 ∨ a = 1 ∨ a = 2 ∨ a = 3 := by have : a ≤ 3 := hp; omega
  rcases this with h | h | h | h <;> subst h <;> rfl

abbrev OK_bits_of (P : Program) (w0 : World) (K : Kx) (mg : Str → Option Value) (base : Heap) : Prop := Ok P w0 K mg base 1 "bits_of" ["table"] (spW K (fun (t : Tb) => [.d (bT t.t)]) (fun _ _ => True) (fun t z => z = .d (.int (bN t.t : Nat))))
theorem ok_bits_of {P : Program} {w0 : World} {K : Kx} {mg : Str → Option Value} {base : Heap} (T : Tx K mg) : OK_bits_of P w0 K mg base := by
  refine fn_ok T.d_bits_of sc_bits_of (fun _ => rfl) bi_bits_of fun f cdv A outer s H E hr => ⟨_, (pss_cons (ps_set (i := 1) sc_bits_of.nd rfl (Or.inl rfl) pe_int)
      (pss_cons (ps_for PassesOwn.never rfl (pi_tup (NbR.pe_revT (pv 0))) (pg_name (i := 2) sc_bits_of.nd rfl (Or.inl rfl)) (pss_one (ps_set (i := 1) sc_bits_of.nd rfl (Or.inl rfl) (pe_op op_add (pe_op op_mul (pv 1) pe_int) (pv 2)))))
      (pss_one (ps_ret (pv 1))))), fun b w D a hp hret hn => ?_⟩
  refine run_asg1 ev_int ?_
  refine run_forT (xs := ((a.t.map bi).map PyData.int).reverse) (fun i w' δ' => w' = w ∧ ∃ o, δ' = [some (.d (bT a.t)), some (.d (.int (bN (a.t.drop (a.t.length - i)) : Nat))), o]) (ev_revT (ev_var rfl)) ⟨rfl, none, ?_⟩ ?_ ?_
  · rw [Nat.sub_zero, List.drop_length]
    rfl
  · rintro i x w' δ' b' hx ⟨rfl, o, rfl⟩ hb
    refine ⟨_, tg_name, ?_⟩
    have hi : i < a.t.length := by
      have := (List.getElem?_eq_some_iff.mp hx).1
      simpa using this
    have hx2 : x = .int (bi (a.t[a.t.length - 1 - i]'(by omega))) := by
      have e0 : ((a.t.map bi).map PyData.int).length - 1 - i = a.t.length - 1 - i := by simp
      rw [List.getElem?_reverse (by simpa using hi), e0, List.getElem?_map, List.getElem?_map, List.getElem?_eq_getElem (show a.t.length - 1 - i < a.t.length by omega)] at hx
      exact (Option.some.inj hx).symm
    subst hx2
    refine run_tail (run_asg1 (ev_ii (ev_iiC (ev_var rfl) ev_int (Or.inr ⟨by decide, by decide⟩)) (ev_var rfl)) (run_nx ⟨rfl, some (.d (.int (bi (a.t[a.t.length - 1 - i]'(by omega))))), ?_⟩))
    have e1 : a.t.drop (a.t.length - (i + 1)) = a.t[a.t.length - 1 - i]'(by omega) :: a.t.drop (a.t.length - i) := by
      rw [List.drop_eq_getElem_cons (show a.t.length - (i + 1) < a.t.length by omega)]
      have q1 : a.t.length - (i + 1) = a.t.length - 1 - i := by omega
      have q2 : a.t.length - (i + 1) + 1 = a.t.length - i := by omega
      rw [q2]
      simp only [q1]
    rw [e1, ← bN_step]
    rfl
  · rintro w' δ' ⟨rfl, o, rfl⟩
    refine run_ret (ev_var rfl) ?_
    have e : a.t.length - ((a.t.map bi).map PyData.int).reverse.length = 0 := by simp
    rw [e]
    exact hret
end Nb
end
section
set_option Elab.async false
set_option linter.all false
set_option maxRecDepth 100000
set_option maxHeartbeats 4000000
/-! Further rules: comprehensions over any walk whose items are data; sorted of rows of one length. -/
namespace Nb
open PySem L2
section
variable {K : Kx} {w : Wd} {tl te : TE} {tt : TT} {δ : Ds} {g : TG} {vs : List Nat} {wi : TI} {J0 : It} {n : Nat} {Y : Nat → Hp → V → Hp → Prop} {f : Nat → PyData}
/-- what is walked is J0 -/
def EvI (K : Kx) (w : Wd) (wi : TI) (δ : Ds) (J0 : It) : Prop :=
  ∀ σ G H, Sl K G σ δ → At K w G H → ∀ R : It → Hp → Prop, (∀ G2 H2, Ex G G2 → At K w G2 H2 → R J0 H2) → wi σ H R
theorem ev_lcX (hi : EvI K w wi δ J0) (wk : Walk J0 n (fun _ => True) Y) (hY : ∀ i H x H', i < n → Y i H x H' → H' = H ∧ ∀ G, Dp K G x (f i)) (J : Nat → List PyData → Prop) (hw : Wipes g vs) (hn : n ≤ 100000) (h0 : J 0 [])
    (hs : ∀ (i : Nat) acc w', i < n → J i acc → w'.rnd = w.rnd → ∃ δ2 B, TgD K g (.d (f i)) (wipeD δ vs) δ2 ∧ EvT K w' tt δ2 B ∧ (B false → J (i + 1) acc) ∧ (B true → Ev K w' te δ2 fun z => ∃ y, z = .d y ∧ J (i + 1) (acc ++ [y]))) :
    Ev K w (tLc wi g tt te vs) δ (fun z => ∃ ys, z = .d (.list ys) ∧ J n ys) := fun σ G H s a Q q =>
  hi σ G H s a _ fun G1 H1 e1 a1 D hD => lc_it wk (fun i H' => ∃ G' acc ys, Ex G1 G' ∧ At K (w.add D (.raw (.lst acc))) G' H' ∧ DpAll K G' acc ys ∧ J i ys ∧ ys.length ≤ i) ⟨G1, [], [], Evl.Ex.refl G1, a1.push hD upd_same, .nil, h0, Nat.le_refl _⟩ (fun i H' _ _ => trivial) (fun i x H' H'' hi' ⟨G', acc, ys, e', a', da, j', hn'⟩ hy => by
    obtain ⟨eH, rx⟩ := hY i H' x H'' hi' hy
    subst eH
    obtain ⟨δ2, B, ht, hb, hf, he⟩ := hs i ys (w.add D (.raw (.lst acc))) hi' j' rfl
    refine (hw _ σ H'' _ (ht x (L2.wipe σ vs) G' H'' (w.add D (.raw (.lst acc))) (show Dr K G' _ (.d (f i)) from rx G') ((s.ex (Evl.Ex.trans e1 e')).wipe vs) a' _ fun σ2 s2 => ?_))
    refine hb σ2 G' H'' s2 a' _ fun c G2 H2 e2 a2 hc => ?_
    cases c with
    | false => exact ⟨G2, acc, ys, Evl.Ex.trans e' e2, a2, dp_exs e2 _ _ da, hf hc, Nat.le_succ_of_le hn'⟩
    | true =>
      refine he hc σ2 G2 H2 (s2.ex e2) a2 _ fun z G3 H3 d3 e3 a3 r3 ⟨t, e4, j4⟩ => ?_
      subst e4
      refine ⟨acc, a3.top, Evl.sz_lt (by rw [dpAll_len da]; omega), G3, acc ++ [z], ys ++ [t], Evl.Ex.trans e' (Evl.Ex.trans e2 e3), a3.set upd_same, dpAll_app (dp_exs (Evl.Ex.trans e2 e3) _ _ da) (dpAll_one r3), j4, by rw [List.length_append]; exact Nat.succ_le_succ hn'⟩) fun H' ⟨G', acc, ys, e', a', da, j', hn'⟩ =>
    q _ _ _ (.d (.list ys)) (Evl.Ex.trans (Evl.Ex.trans e1 e') (ex_upd a'.topG)) (a'.freeze a'.top) (Dp.lst (Evl.sq_of upd_same) (dp_exs (ex_upd a'.topG) _ _ da)) ⟨ys, rfl, j'⟩
theorem ev_mapX (F : Nat → PyData) (hi : EvI K w wi δ J0) (wk : Walk J0 n (fun _ => True) Y) (hY : ∀ i H x H', i < n → Y i H x H' → H' = H ∧ ∀ G, Dp K G x (f i)) (hw : Wipes g vs) (hn : n ≤ 100000)
    (hs : ∀ i, i < n → ∀ w', w'.rnd = w.rnd → ∃ δ2, TgD K g (.d (f i)) (wipeD δ vs) δ2 ∧ Ev1 K w' te δ2 (.d (F i))) : Ev1 K w (tLc wi g tYes te vs) δ (.d (.list ((List.range n).map F))) := by
  refine Ev.imp (ev_lcX hi wk hY (fun i acc => acc = (List.range i).map F) hw hn rfl ?_) ?_
  · rintro i acc w' hi rfl hr
    obtain ⟨δ2, h1, h2⟩ := hs i hi w' hr
    refine ⟨δ2, _, h1, et_yes, (fun e => nomatch e), fun _ => Ev.imp h2 fun z ez => ⟨F i, ez, ?_⟩⟩
    rw [List.range_succ, List.map_append]
    rfl
  · rintro z ⟨ys, rfl, rfl⟩
    rfl
/-- range(i, j, c) -/
theorem ei_rng3 {ta : TA} {i j c : Int} (h : EvA1 K w ta δ [.d (.int i), .d (.int j), .d (.int c)]) (hc : RgC i j c n) : EvI K w (iRng3 ta) δ (Itc i c n) := fun σ G H s a R q =>
  h σ G H s a _ fun us G1 H1 d e1 a1 r1 h1 => by
    subst h1
    cases r1 with
    | cons p1 r1 =>
      obtain ⟨v, u, e, hv, hu⟩ := drAll2 r1
      subst e
      cases (show Dp K G1 _ (.int i) from p1)
      cases (show Dp K G1 v (.int j) from hv)
      cases (show Dp K G1 u (.int c) from hu)
      exact ⟨i, j, c, n, rfl, hc, q G1 H1 e1 a1⟩
theorem y_rng3 {lo c : Int} : ∀ i H x H', i < n → (YFn fun i => .int (lo + (i : Nat) * c)) i H x H' → H' = H ∧ ∀ G, Dp K G x (.int (lo + (i : Nat) * c)) := fun i H x H' _ h => by
  obtain ⟨e1, e2⟩ := h
  subst e2
  exact ⟨e1, fun G => Dp.int _⟩
/-- the signs of a text -/
theorem ei_str {z : Str} (h : Ev1 K w te δ (.d (.str z))) : EvI K w (iStr te) δ (Its z) := fun σ G H s a R q =>
  h σ G H s a _ fun v G1 H1 d e1 a1 r1 h1 => by
    subst h1
    cases (show Dp K G1 v (.str z) from r1)
    exact ⟨z, rfl, q G1 H1 e1 a1⟩
theorem y_str {z : Str} : ∀ i H x H', i < z.cps.size → (fun i (H : Hp) (v : V) (H' : Hp) => H' = H ∧ ∃ c, z.cps[i]? = some c ∧ v = .str ⟨#[c]⟩) i H x H' → H' = H ∧ ∀ G, Dp K G x (.str ⟨#[z.cps.getD i 0]⟩) := fun i H x H' hi h => by
  obtain ⟨e1, c, e2, e3⟩ := h
  subst e3
  refine ⟨e1, fun G => ?_⟩
  have : z.cps.getD i 0 = c := by
    rw [Array.getD_eq_getD_getElem?, e2]
    rfl
  rw [this]
  exact Dp.str _
end
/-! ### sorted -/
def rSortA (K : Kx) (B : Int) : List V → Hp → VK → Prop := fun xs H Q => ∃ d : Nat, 1 ≤ d ∧ rSortU K d B xs H Q
theorem cr_sortA {X : Cx} {B : Int} : CallR X (.builtin "sorted") (rSortA X.K B) := by
  intro pins s σ H vs us Q I r h
  obtain ⟨d, hd, h⟩ := h
  exact cr_sortT hd pins s σ H vs us Q I r h
theorem ca_sortA {K : Kx} {w : Wd} {B : Int} (d : Nat) {rows : List (List Int)} (hd : 1 ≤ d) (hl : rows.length < 64) (hr : ∀ n ∈ rows, n.length = d ∧ TS.Bd B n) :
    CaD K w (rSortA K B) [.d (.list (rows.map iT))] (fun z => ∃ rows' : List (List Int), rows'.Perm rows ∧ (rows'.Pairwise fun n m => TS.code B n ≤ TS.code B m) ∧ z = .d (.list (rows'.map iT))) := fun vs G H h a Q q =>
  ⟨d, hd, ca_sortT (d := d) hl hr vs G H h a Q q⟩
end Nb
end
section
set_option Elab.async false
set_option linter.all false
set_option maxRecDepth 100000
set_option maxHeartbeats 4000000
/-! defs: tables. -/
namespace Nb
open PySem L2
local macro_rules | `(tactic| walk_at "nb_isi") => `(tactic| first | exact isi_ii | exact isi_ib | exact isi_ss | exact isi_tt | exact isi_ll | exact isi_lt)
local macro_rules | `(tactic| walk_at "nb_side") => `(tactic| first | assumption | (show CMul _ _; first | exact Or.inr ⟨by decide, by decide⟩ | exact Or.inl ⟨by decide, by decide⟩ | exact Or.inr ⟨by omega, by omega⟩ | exact Or.inl ⟨by omega, by omega⟩) | (show CDiv _ _; exact ⟨by omega, by omega⟩) | (show CPow _ _; exact ⟨by omega, by omega, by omega⟩) | decide | omega | rfl)
local macro_rules | `(tactic| walk_at "nb_ev") => `(tactic| first
  | exact ev_var rfl
  | exact ev_int
  | exact ev_str
  | exact ev_bl
  | exact ev_non
  | (refine' ev_isi ?h1 ?h2; (case h1 => walk_at "nb_ev"); (case h2 => walk_at "nb_isi"))
  | (refine' ev_isi2 ?h1 ?h2 ?h3; (case h1 => walk_at "nb_ev"); (case h2 => walk_at "nb_isi"); (case h3 => walk_at "nb_isi"))
  | (refine' ev_ii ?h1 ?h2; (case h1 => walk_at "nb_ev"); (case h2 => walk_at "nb_ev"))
  | (refine' ev_ib ?h1 ?h2; (case h1 => walk_at "nb_ev"); (case h2 => walk_at "nb_ev"))
  | (refine' ev_iiC ?h1 ?h2 ?h3; (case h1 => walk_at "nb_ev"); (case h2 => walk_at "nb_ev"); (case h3 => walk_at "nb_side"))
  | (refine' ev_eqI ?h1 ?h2; (case h1 => walk_at "nb_ev"); (case h2 => walk_at "nb_ev"))
  | (refine' ev_neI ?h1 ?h2; (case h1 => walk_at "nb_ev"); (case h2 => walk_at "nb_ev"))
  | (refine' ev_eqS ?h1 ?h2; (case h1 => walk_at "nb_ev"); (case h2 => walk_at "nb_ev"))
  | (refine' ev_neS ?h1 ?h2; (case h1 => walk_at "nb_ev"); (case h2 => walk_at "nb_ev"))
  | (refine' ev_neg ?h1; (case h1 => walk_at "nb_ev"))
  | (refine' ev_andV ?h1 (fun _ => ?h2); (case h1 => walk_at "nb_ev"); (case h2 => walk_at "nb_ev"))
  | (refine' ev_orV ?h1 (fun _ => ?h2); (case h1 => walk_at "nb_ev"); (case h2 => walk_at "nb_ev"))
  | (refine' ev_notV ?h1; (case h1 => walk_at "nb_ev"))
  | walk_at "nb_call")
local macro_rules | `(tactic| walk_at "nb") => `(tactic| (refine' Ev.is ?h ?e; (case h => walk_at "nb_ev"); (try rfl)))
local macro_rules | `(tactic| walk_at "nb_ea") => `(tactic| first | exact ea_nil | (refine' ea_cons ?h1 ?h2; (case h1 => walk_at "nb_ev"); (case h2 => walk_at "nb_ea")))
section
variable {K : Kx} {w : Wd} {ta tb : TE} {δ : Ds} {tr : TA}
/-! bit operations of whole numbers that are not negative -/
theorem natI {i : Int} {n m : Nat} (h : i = ((n : Nat) : Int)) (e : n = m) : i = ((m : Nat) : Int) := by rw [h, e]
theorem ev_and {x y : Nat} (ha : Ev1 K w ta δ (.d (.int (x : Int)))) (hb : Ev1 K w tb δ (.d (.int (y : Int)))) : Ev1 K w (tOp (rI0 fun i j => .int (Builtin.bitAnd i j)) ta tb) δ (.d (.int ((x &&& y : Nat) : Int))) := Ev.is (ev_ii ha hb) (by rw [PyProof.Rows.bitAnd_pp (Int.natCast_nonneg _) (Int.natCast_nonneg _)]; rfl)
theorem ev_bor {x y : Nat} (ha : Ev1 K w ta δ (.d (.int (x : Int)))) (hb : Ev1 K w tb δ (.d (.int (y : Int)))) : Ev1 K w (tOp (rI0 fun i j => .int (Builtin.bitOr i j)) ta tb) δ (.d (.int ((x ||| y : Nat) : Int))) := Ev.is (ev_ii ha hb) (by rw [Bits.bitOr_pp (Int.natCast_nonneg _) (Int.natCast_nonneg _)]; rfl)
theorem ev_xor {x y : Nat} (ha : Ev1 K w ta δ (.d (.int (x : Int)))) (hb : Ev1 K w tb δ (.d (.int (y : Int)))) : Ev1 K w (tOp (rI0 fun i j => .int (Builtin.bitXor i j)) ta tb) δ (.d (.int ((x ^^^ y : Nat) : Int))) := Ev.is (ev_ii ha hb) (by rw [Bits.bitXor_pp (Int.natCast_nonneg _) (Int.natCast_nonneg _)]; rfl)
theorem ev_shl {x y : Nat} (ha : Ev1 K w ta δ (.d (.int (x : Int)))) (hb : Ev1 K w tb δ (.d (.int (y : Int)))) (hx : x < 2 ^ 64) (hy : y ≤ 1000000) : Ev1 K w (tOp (rI CPow fun i j => .int (i * 2 ^ j.toNat)) ta tb) δ (.d (.int ((x <<< y : Nat) : Int))) := Ev.is (ev_iiC ha hb ⟨by omega, by omega, by simpa using hx⟩) (by rw [Nat.shiftLeft_eq]; simp)
theorem ev_shr {x y : Nat} (ha : Ev1 K w ta δ (.d (.int (x : Int)))) (hb : Ev1 K w tb δ (.d (.int (y : Int)))) : Ev1 K w (tOp (rI (fun _ j => 0 ≤ j) fun i j => .int (i / 2 ^ j.toNat)) ta tb) δ (.d (.int ((x >>> y : Nat) : Int))) := Ev.is (ev_iiC ha hb (by omega)) (by rw [Nat.shiftRight_eq_div_pow]; simp)
theorem od_bor {x y : Nat} : OpD K w (rI0 fun i j => .int (Builtin.bitOr i j)) (.d (.int (x : Int))) (.d (.int (y : Int))) (fun q => q = .d (.int ((x ||| y : Nat) : Int))) := by
  have := @odI0 K w (fun i j => V.int (Builtin.bitOr i j)) (.int ((x ||| y : Nat) : Int)) (x : Int) (y : Int) (fun G => by
    rw [Bits.bitOr_pp (Int.natCast_nonneg _) (Int.natCast_nonneg _)]
    exact Dp.int _)
  exact this
theorem od_band {x y : Nat} : OpD K w (rI0 fun i j => .int (Builtin.bitAnd i j)) (.d (.int (x : Int))) (.d (.int (y : Int))) (fun q => q = .d (.int ((x &&& y : Nat) : Int))) := by
  have := @odI0 K w (fun i j => V.int (Builtin.bitAnd i j)) (.int ((x &&& y : Nat) : Int)) (x : Int) (y : Int) (fun G => by
    rw [PyProof.Rows.bitAnd_pp (Int.natCast_nonneg _) (Int.natCast_nonneg _)]
    exact Dp.int _)
  exact this
theorem od_bxor {x y : Nat} : OpD K w (rI0 fun i j => .int (Builtin.bitXor i j)) (.d (.int (x : Int))) (.d (.int (y : Int))) (fun q => q = .d (.int ((x ^^^ y : Nat) : Int))) := by
  have := @odI0 K w (fun i j => V.int (Builtin.bitXor i j)) (.int ((x ^^^ y : Nat) : Int)) (x : Int) (y : Int) (fun G => by
    rw [Bits.bitXor_pp (Int.natCast_nonneg _) (Int.natCast_nonneg _)]
    exact Dp.int _)
  exact this
end
section
variable {K : Kx} {b : Hp} {w : Wd} {D : Ends} {tt : TT} {ts tr : TS} {δ : Ds}
/-- a while whose turns are known: S m the slots with m turns left -/
theorem run_turns (n : Nat) (S : Nat → Ds) (h0 : S n = δ) (ht : ∀ m, m < n → EvT1 K w tt (S (m + 1)) true) (hf : EvT1 K w tt (S 0) false)
    (hs : ∀ m b' (J : Wd → Ds → Prop), m < n → Ex b b' → J w (S m) → Run K b' w { D with nx := Nx K b' J, ct := Nx K b' J, bk := tr D } ts (S (m + 1))) (hd : Run K b w D tr (S 0)) : Run K b w D (tSeq (tWhile tt ts) tr) δ := by
  refine run_while (fun m w' δ' => w' = w ∧ m ≤ n ∧ δ' = S m) n ⟨rfl, Nat.le_refl _, h0.symm⟩ ?_
  rintro m w' δ' b' ⟨rfl, hm, rfl⟩ hb
  cases m with
  | zero => exact ⟨fun x => x = false, hf, (fun h => nomatch h), fun _ => run_mono hd hb⟩
  | succ m => exact ⟨fun x => x = true, ht m hm, fun _ => hs m b' _ hm hb ⟨m, Nat.lt_succ_self m, rfl, Nat.le_of_succ_le hm, rfl⟩, (fun h => nomatch h)⟩
end
section
theorem bT_range {n k : Nat} : (List.range (2 ^ k)).map (fun i => PyData.int ((n >>> i &&& 1 : Nat) : Int)) = ((nT n k).map bi).map PyData.int := by
  unfold nT
  rw [List.map_map, List.map_map]
  refine List.map_congr_left fun i _ => ?_
  show PyData.int _ = PyData.int (bi (n.testBit i))
  congr 1
  unfold Nat.testBit
  generalize n >>> i = y
  rw [Nat.and_comm 1 y, Nat.and_one_is_mod]
  unfold bi
  have : y % 2 = 0 ∨ y % 2 = 1 := by omega
  rcases this with h | h <;> simp [h]
end
abbrev OK_table_of (P : Program) (w0 : World) (K : Kx) (mg : Str → Option Value) (base : Heap) : Prop := Ok P w0 K mg base 1 "table_of" ["bits", "many"] (spW K (fun (p : Nat × Nat) => [.d (.int (p.1 : Int)), .d (.int (p.2 : Int))]) (fun _ p => p.2 ≤ 3) (fun p z => z = .d (bT (nT p.1 p.2))))
theorem ok_table_of {P : Program} {w0 : World} {K : Kx} {mg : Str → Option Value} {base : Heap} (T : Tx K mg) : OK_table_of P w0 K mg base := by
  refine fn_ok T.d_table_of sc_table_of (fun _ => rfl) bi_table_of fun f cdv A outer s H E hr => ⟨_, (pss_one (ps_ret (pe_tupleOf rfl T.b_tuple (pe_lc (own := [("at", 2)]) (g := (gName 2)) (tt := tYes) rfl sc_table_of.nd (pi_range1 rfl T.b_range (pa_cons (pe_ix ix_tup (pe_gt T.c_SIZES) (pv 1) (fun _ _ => rfl)) pa_nil)) (blkOk_by (N := N_table_of) (sc := (defScope s_table_of)) (by decide +kernel)) (fun _ _ _ _ _ => (pg_name (i := 2) sc_table_of.nd rfl (Or.inl rfl))) (fun _ _ _ _ _ => pts_nil) (fun _ _ _ _ _ => (pe_op op_and (pe_op op_shr (pv 0) (pv 2)) pe_int)))))), fun b w D a hp hret hn => ?_⟩
  obtain ⟨n, k⟩ := a
  have hk : k ≤ 3 := hp
  have hk8 : ((2 ^ k : Nat) : Int) ≤ 8 := by
    have := Nat.pow_le_pow_right (n := 2) (by decide) hk
    omega
  have hk0 : 0 ≤ ((2 ^ k : Nat) : Int) := Int.natCast_nonneg _
  refine run_ret ?_ hret
  refine Ev.imp (ev_tupleN (L := fun xs => xs = ((nT n k).map bi).map PyData.int) ?_) fun z ⟨xs, e, h⟩ => by rw [e, h]
  refine Ev.imp (ev_lcR (n := ((2 ^ k : Nat) : Int)) (fun i acc => acc = (List.range i).map fun i => PyData.int ((n >>> i &&& 1 : Nat) : Int)) (wipes_name) (ea_cons (ev_size T hk (ev_var rfl) rfl) ea_nil) ⟨by omega, by omega⟩ rfl ?_) ?_
  · rintro i acc w' hi rfl _
    refine ⟨_, _, tg_name, et_yes, (fun h => nomatch h), fun _ => ?_⟩
    refine Ev.imp (ev_and (ev_shr (x := n) (y := i) (ev_var rfl) (ev_var rfl)) (y := 1) ev_int) fun z e => ⟨_, e, ?_⟩
    rw [List.range_succ, List.map_append]
    rfl
  · rintro z ⟨ys, e, h⟩
    refine ⟨ys, e, ?_⟩
    rw [h, Int.toNat_natCast]
    exact bT_range

theorem wb_first {s : Nat} (h : s ≤ 2) : (1 <<< 2 ^ s - 1) <<< 2 ^ s = wbN (s + 1) 0 := by
  have : s = 0 ∨ s = 1 ∨ s = 2 := by omega
  rcases this with h | h | h <;> subst h <;> decide +kernel
theorem wb_step {s j : Nat} (h : s + 2 + j ≤ 3) : wbN (s + 1 + j) j ||| (wbN (s + 1 + j) j <<< 2 ^ (s + 1 + j)) = wbN (s + 1 + (j + 1)) (j + 1) := by
  have : (s = 0 ∧ j = 0) ∨ (s = 0 ∧ j = 1) ∨ (s = 1 ∧ j = 0) := by omega
  rcases this with ⟨h, h'⟩ | ⟨h, h'⟩ | ⟨h, h'⟩ <;> subst h h' <;> decide +kernel
theorem wb_lt {s j : Nat} (h : s + 1 + j ≤ 3) : wbN (s + 1 + j) j < 2 ^ 64 := by
  have : (s = 0 ∧ j = 0) ∨ (s = 0 ∧ j = 1) ∨ (s = 0 ∧ j = 2) ∨ (s = 1 ∧ j = 0) ∨ (s = 1 ∧ j = 1) ∨ (s = 2 ∧ j = 0) := by omega
  rcases this with ⟨h, h'⟩ | ⟨h, h'⟩ | ⟨h, h'⟩ | ⟨h, h'⟩ | ⟨h, h'⟩ | ⟨h, h'⟩ <;> subst h h' <;> decide +kernel
abbrev OK_wire_bits (P : Program) (w0 : World) (K : Kx) (mg : Str → Option Value) (base : Heap) : Prop := Ok P w0 K mg base 1 "wire_bits" ["many", "wire"] (spW K (fun (p : Nat × Nat) => [.d (.int (p.1 : Int)), .d (.int (p.2 : Int))]) (fun _ p => p.1 ≤ 3 ∧ p.2 < p.1) (fun p z => z = .d (.int (wbN p.1 p.2 : Nat))))
theorem ok_wire_bits {P : Program} {w0 : World} {K : Kx} {mg : Str → Option Value} {base : Heap} (T : Tx K mg) : OK_wire_bits P w0 K mg base := by
  refine fn_ok T.d_wire_bits sc_wire_bits (fun _ => rfl) bi_wire_bits fun f cdv A outer s H E hr => ⟨_, (pss_cons (ps_set (i := 2) sc_wire_bits.nd rfl (Or.inl rfl) (pe_ix ix_tup (pe_gt T.c_SIZES) (pe_op op_sub (pe_op op_sub (pv 0) pe_int) (pv 1)) (fun _ _ => rfl)))
      (pss_cons (ps_set (i := 3) sc_wire_bits.nd rfl (Or.inl rfl) (pe_op op_shl (pe_op op_sub (pe_op op_shl pe_int (pv 2)) pe_int) (pv 2)))
      (pss_cons (ps_set (i := 4) sc_wire_bits.nd rfl (Or.inl rfl) (pe_op op_mul pe_int (pv 2)))
      (pss_cons (ps_while PassesOwn.never (pt_cmpR op_lt (pv 4) (pe_ix ix_tup (pe_gt T.c_SIZES) (pv 0) (fun _ _ => rfl)) (nomark _)) (pss_cons (ps_aug (i := 3) sc_wire_bits.nd rfl (Or.inl rfl) (pe_op op_shl (pv 3) (pv 4)) iop_or)
      (pss_one (ps_aug (i := 4) sc_wire_bits.nd rfl (Or.inl rfl) pe_int iop_mul))))
      (pss_one (ps_ret (pv 3))))))), fun b w D a hp hret hn => ?_⟩
  obtain ⟨k, i⟩ := a
  obtain ⟨h1, h2⟩ : k ≤ 3 ∧ i < k := hp
  obtain ⟨s, hs⟩ : ∃ s, k = s + 1 + i := ⟨k - 1 - i, by omega⟩
  subst hs
  have e1 : (((s + 1 + i : Nat) : Int) - 1 - ((i : Nat) : Int)) = ((s : Nat) : Int) := by omega
  have b1 : 2 ^ s ≤ 8 := Nat.pow_le_pow_right (n := 2) (by decide) (show s ≤ 3 by omega)
  have b2 : 1 <<< 2 ^ s - 1 < 2 ^ 64 := by
    have : s = 0 ∨ s = 1 ∨ s = 2 := by omega
    rcases this with h | h | h <;> subst h <;> decide
  refine run_asg1 (ev_size T (k := s) (by omega) (by walk_at "nb_ev") e1) ?_
  refine run_asg1 (d := .d (.int (wbN (s + 1) 0 : Nat))) ?_ ?_
  · refine Ev.is (ev_shl (x := 1 <<< 2 ^ s - 1) (y := 2 ^ s) (Ev.is (ev_ii (f := fun a b => a - b) (ev_shl (x := 1) (y := 2 ^ s) ev_int (ev_var rfl) (by decide) (by omega)) ev_int) ?_) (ev_var rfl) b2 (by omega)) (by rw [wb_first (by omega)])
    have : s = 0 ∨ s = 1 ∨ s = 2 := by omega
    rcases this with h | h | h <;> subst h <;> rfl
  refine run_asg1 (d := .d (.int ((2 ^ (s + 1) : Nat) : Int))) (Ev.is (ev_iiC (f := fun a b => a * b) ev_int (ev_var rfl) (Or.inl ⟨by decide, by decide⟩)) ?_) ?_
  · rw [Nat.pow_succ]
    simp only [Nat.mul_comm]
    rfl
  refine run_turns i (fun m => [some (.d (.int ((s + 1 + i : Nat) : Int))), some (.d (.int (i : Int))), some (.d (.int ((2 ^ s : Nat) : Int))), some (.d (.int (wbN (s + 1 + (i - m)) (i - m) : Nat))), some (.d (.int ((2 ^ (s + 1 + (i - m)) : Nat) : Int)))]) ?_ ?_ ?_ ?_ ?_
  · simp only [Nat.sub_self, Nat.add_zero]
    rfl
  · intro m hm
    refine et_test1 (Ev.is (ev_ib (ev_var rfl) (ev_size T (k := s + 1 + i) h1 (ev_var rfl) rfl)) ?_)
    have : 2 ^ (s + 1 + (i - (m + 1))) < 2 ^ (s + 1 + i) := Nat.pow_lt_pow_right (by decide) (by omega)
    rw [decide_eq_true (by omega)]
  · refine et_test1 (Ev.is (ev_ib (ev_var rfl) (ev_size T (k := s + 1 + i) h1 (ev_var rfl) rfl)) ?_)
    rw [Nat.sub_zero, decide_eq_false (by omega)]
  · intro m b' J hm hb hJ
    have e2 : i - m = (i - (m + 1)) + 1 := by omega
    have b3 : 2 ^ (s + 1 + (i - (m + 1))) ≤ 8 := Nat.pow_le_pow_right (n := 2) (by decide) (show s + 1 + (i - (m + 1)) ≤ 3 by omega)
    refine run_aug1 rfl (ev_shl (x := wbN (s + 1 + (i - (m + 1))) (i - (m + 1))) (y := 2 ^ (s + 1 + (i - (m + 1)))) (ev_var rfl) (ev_var rfl) (wb_lt (by omega)) (by omega)) od_bor (run_tail (run_aug1 rfl ev_int (odI (hc := Or.inr ⟨by decide, by decide⟩) fun _ => Dp.int _) (run_nx ?_)))
    rw [wb_step (by omega)]
    rw [e2] at hJ
    refine cast ?_ hJ
    congr 7
  · refine run_ret (ev_var rfl) ?_
    have e3 : s + 1 + (i - 0) = s + 1 + i := rfl
    exact hret

abbrev OK_need_table (P : Program) (w0 : World) (K : Kx) (mg : Str → Option Value) (base : Heap) : Prop := Ok P w0 K mg base 4 "need_table" ["value"] (spW K (fun (t : Tb) => [.d (bT t.t)]) (fun _ _ => True) (fun _ z => z = .d .none))
theorem ok_need_table {P : Program} {w0 : World} {K : Kx} {mg : Str → Option Value} {base : Heap} (T : Tx K mg) (h_is_bit : OK_is_bit P w0 K mg base) : OK_need_table P w0 K mg base := by
  refine fn_ok T.d_need_table sc_need_table (fun _ => rfl) bi_need_table fun f cdv A outer s H E hr => ⟨_, (pss_cons (ps_if (PW.pt (pw_or (pt_not (pt_val (pe_callB call_isi (by rfl) T.b_isinstance (by decide +kernel) (pa_cons (pv 0) (pa_cons (pe_ty (n := "tuple") T.b_tuple) pa_nil))))) (pw_or1 (pt_cmpR (NbR.op_notInA (u65 hr)) (pe_callB call_len (by rfl) T.b_len (by decide +kernel) (pa_cons (pv 0) pa_nil)) (pe_gt T.c_SIZES) (by rfl))))) (pss_one ps_never) pss_nil)
      (pss_one (ps_for PassesOwn.never rfl (NbR.pi_enumT rfl T.b_enumerate (pa_cons (pv 0) pa_nil)) (pg_tup rfl (pgs_cons (pg_name (i := 1) sc_need_table.nd rfl (Or.inl rfl)) (pgs_cons (pg_name (i := 2) sc_need_table.nd rfl (Or.inl rfl)) pgs_nil))) (pss_one (ps_if (pt_not (pt_val (pe_f h_is_bit hr (pa_cons (pv 2) pa_nil)))) (pss_one ps_never) pss_nil))))), fun b w D a hp hret hn => ?_⟩
  have hk := a.hk
  have hin : (([1, 2, 4, 8, 16, 32, 64, 128, 256] : List Int).map PyData.int).any (fun z => PyData.eqv z (.int ((((a.t.map bi).map PyData.int).length : Nat) : Int))) = true := by
    rw [any_ints, List.length_map, List.length_map, a.hl]
    have : a.k = 0 ∨ a.k = 1 ∨ a.k = 2 ∨ a.k = 3 := by omega
    rcases this with h | h | h | h <;> rw [h] <;> decide
  refine run_ifF ?_ (run_skip ?_)
  · refine EvT.is (et_or (b := false) (c := false) (EvT.is (et_not (et_B1 (b := true) (by walk_at "nb"))) rfl) fun _ => ?_) rfl
    refine et_test1 (Ev.is (ev_op1 (ev_CB1 (by walk_at "nb_ea") (ca_len (LenD.tuple _))) (ev_sizes T) (od_notIn (Or.inr rfl) (shaped_int _) (shaped_iL _))) ?_)
    rw [hin]
    rfl
  · refine run_tail (run_enumT (xs := (a.t.map bi).map PyData.int) (fun _ w' δ' => w' = w ∧ ∃ o1 o2, δ' = [some (.d (bT a.t)), o1, o2]) (by walk_at "nb_ea") ⟨rfl, none, none, rfl⟩ ?_ ?_)
    · rintro n x w' δ' b' hx ⟨rfl, o1, o2, rfl⟩ hb
      obtain ⟨v, rfl⟩ : ∃ v, x = .int (bi v) := by
        have := List.mem_of_getElem? hx
        rw [List.map_map] at this
        obtain ⟨v, _, e⟩ := List.mem_map.mp this
        exact ⟨v, e.symm⟩
      refine run_tail (run_ifF (EvT.is (et_not (et_B1 (b := true) (Ev.imp (ev_call1 (bi v) (by walk_at "nb_ea") trivial fun z e => e) ?_))) rfl) (run_skip (run_nx ⟨rfl, _, _, rfl⟩)))
      intro d e
      rw [e]
      cases v <;> rfl
    · rintro w' δ' ⟨rfl, o1, o2, rfl⟩
      exact run_end (hn rfl)

abbrev OK_is_table (P : Program) (w0 : World) (K : Kx) (mg : Str → Option Value) (base : Heap) : Prop := Ok P w0 K mg base 4 "is_table" ["value"] (spW K (fun (t : Tb) => [.d (bT t.t)]) (fun _ _ => True) (fun _ z => z = .d (.bool true)))
theorem ok_is_table {P : Program} {w0 : World} {K : Kx} {mg : Str → Option Value} {base : Heap} (T : Tx K mg) (h_is_bit : OK_is_bit P w0 K mg base) : OK_is_table P w0 K mg base := by
  refine fn_ok T.d_is_table sc_is_table (fun _ => rfl) bi_is_table fun f cdv A outer s H E hr => ⟨_, (pss_one (ps_ret (pe_and (pe_callB call_isi (by rfl) T.b_isinstance (by decide +kernel) (pa_cons (pv 0) (pa_cons (pe_ty (n := "tuple") T.b_tuple) pa_nil))) (pe_and (pe_cmpR (NbR.op_inA (u65 hr)) (pe_callB call_len (by rfl) T.b_len (by decide +kernel) (pa_cons (pv 0) pa_nil)) (pe_gt T.c_SIZES) (by rfl)) (pe_one (pe_callB (cr_all rfl) (by rfl) T.b_all (by decide +kernel) (pa_cons (pe_lc (own := [("worth", 1)]) (g := (gName 1)) (tt := tYes) rfl sc_is_table.nd (pi_tup (pv 0)) (blkOk_by (N := N_is_table) (sc := (defScope s_is_table)) (by decide +kernel)) (fun _ _ _ _ _ => (pg_name (i := 1) sc_is_table.nd rfl (Or.inl rfl))) (fun _ _ _ _ _ => pts_nil) (fun _ _ _ _ _ => (pe_f h_is_bit hr (pa_cons (pv 1) pa_nil)))) pa_nil))))))), fun b w D a hp hret hn => ?_⟩
  have hk := a.hk
  have hin : (([1, 2, 4, 8, 16, 32, 64, 128, 256] : List Int).map PyData.int).any (fun z => PyData.eqv z (.int ((((a.t.map bi).map PyData.int).length : Nat) : Int))) = true := by
    rw [any_ints, List.length_map, List.length_map, a.hl]
    have : a.k = 0 ∨ a.k = 1 ∨ a.k = 2 ∨ a.k = 3 := by omega
    rcases this with h | h | h | h <;> rw [h] <;> decide
  refine run_ret ?_ hret
  refine Ev.is (ev_andV (b := true) (c := true) (by walk_at "nb") fun _ => Ev.is (ev_andV (b := true) (c := true) ?_ fun _ => ?_) rfl) rfl
  · exact Ev.is (ev_op1 (ev_CB1 (by walk_at "nb_ea") (ca_len (LenD.tuple _))) (ev_sizes T) (od_in (Or.inr rfl) (shaped_int _) (shaped_iL _))) (by rw [hin])
  · refine Ev.is (ev_all (fun b : Bool => decide (0 ≤ bi b) && decide (bi b < 2)) (ev_mapT a.t (fun b => .int (bi b)) (fun b => .bool (decide (0 ≤ bi b) && decide (bi b < 2))) wipes_name (Ev.is (ev_var rfl) (by rw [bT, iT, List.map_map]; rfl)) (by have := tb_len a; omega) fun v _ w' _ => ⟨_, tg_name, ev_call1 (bi v) (by walk_at "nb_ea") trivial fun z e => e⟩)) ?_
    have : a.t.all (fun b : Bool => decide (0 ≤ bi b) && decide (bi b < 2)) = true := List.all_eq_true.mpr fun b _ => by cases b <;> rfl
    rw [this]

abbrev OK_mirror_table (P : Program) (w0 : World) (K : Kx) (mg : Str → Option Value) (base : Heap) : Prop := Ok P w0 K mg base 5 "mirror_table" ["table"] (spW K (fun (t : Tb) => [.d (bT t.t)]) (fun _ _ => True) (fun t z => z = .d (bT t.mirror.t)))
theorem ok_mirror_table {P : Program} {w0 : World} {K : Kx} {mg : Str → Option Value} {base : Heap} (T : Tx K mg) (h_need_table : OK_need_table P w0 K mg base) : OK_mirror_table P w0 K mg base := by
  refine fn_ok T.d_mirror_table sc_mirror_table (fun _ => rfl) bi_mirror_table fun f cdv A outer s H E hr => ⟨_, (pss_cons (ps_expr (pe_f h_need_table hr (pa_cons (pv 0) pa_nil)))
      (pss_one (ps_ret (pe_tupleOf rfl T.b_tuple (pe_lc (own := [("worth", 1)]) (g := (gName 1)) (tt := tYes) rfl sc_mirror_table.nd (pi_tup (NbR.pe_revT (pv 0))) (blkOk_by (N := N_mirror_table) (sc := (defScope s_mirror_table)) (by decide +kernel)) (fun _ _ _ _ _ => (pg_name (i := 1) sc_mirror_table.nd rfl (Or.inl rfl))) (fun _ _ _ _ _ => pts_nil) (fun _ _ _ _ _ => (pe_op op_sub pe_int (pv 1)))))))), fun b w D a hp hret hn => ?_⟩
  refine run_drop (ev_call1 a (by walk_at "nb_ea") trivial fun z e => e) ?_
  refine run_ret (Ev.is (ev_tuple (ev_mapT a.t.reverse (fun b => .int (bi b)) (fun b => .int (bi (!b))) wipes_name (Ev.is (ev_revT (ev_var rfl)) ?_) (by have := tb_len a; simp; omega) fun v _ w' _ => ⟨_, tg_name, Ev.is (by walk_at "nb_ev") (by rw [bi_not])⟩)) ?_) hret
  · rw [List.map_map, List.map_reverse]
    rfl
  · show _ = Da.d (PyData.tuple (((a.t.map (!·)).reverse.map bi).map PyData.int))
    rw [List.map_map, ← List.map_reverse, List.map_map]
    rfl

theorem lt64 {b k : Nat} (hk : k ≤ 3) (h : b < 2 ^ 2 ^ k) : b < 2 ^ 64 := by
  have : 2 ^ k ≤ 2 ^ 3 := Nat.pow_le_pow_right (by decide) hk
  have : 2 ^ 2 ^ k ≤ 2 ^ 8 := Nat.pow_le_pow_right (by decide) this
  omega
theorem range_fil {k : Nat} (p : Nat → Bool) : (List.range (k + 1)).filter p = (List.range k).filter p ++ (if p k = true then [k] else []) := by
  rw [List.range_succ, List.filter_append]
  congr 1
  by_cases h : p k = true
  · rw [if_pos h]
    simp [h]
  · rw [if_neg h]
    simp [h]
abbrev OK_needs_of (P : Program) (w0 : World) (K : Kx) (mg : Str → Option Value) (base : Heap) : Prop := Ok P w0 K mg base 2 "needs_of" ["table"] (spW K (fun (t : Tb) => [.d (bT t.t)]) (fun _ _ => True) (fun t z => z = .d (iT ((needsN t.k (bN t.t)).map fun i => ((i : Nat) : Int)))))
theorem ok_needs_of {P : Program} {w0 : World} {K : Kx} {mg : Str → Option Value} {base : Heap} (T : Tx K mg) (h_bits_of : OK_bits_of P w0 K mg base) (h_full_bits : OK_full_bits P w0 K mg base) (h_width_of : OK_width_of P w0 K mg base) (h_wire_bits : OK_wire_bits P w0 K mg base) : OK_needs_of P w0 K mg base := by
  refine fn_ok T.d_needs_of sc_needs_of (fun _ => rfl) bi_needs_of fun f cdv A outer s H E hr => ⟨_, (pss_cons (ps_par (i := 1) (j := 2) rfl sc_needs_of.nd rfl rfl (by decide) rfl rfl (pa_cons (pe_f h_width_of hr (pa_cons (pv 0) pa_nil)) (pa_cons (pe_f h_bits_of hr (pa_cons (pv 0) pa_nil)) pa_nil)) (by rfl))
      (pss_cons (ps_set (i := 3) sc_needs_of.nd rfl (Or.inl rfl) (pe_lst pa_nil))
      (pss_cons (ps_for PassesOwn.never rfl (pi_range1 rfl T.b_range (pa_cons (pv 1) pa_nil)) (pg_name (i := 4) sc_needs_of.nd rfl (Or.inl rfl)) (pss_cons (ps_set (i := 5) sc_needs_of.nd rfl (Or.inl rfl) (pe_op op_xor (pe_f h_full_bits hr (pa_cons (pv 1) pa_nil)) (pe_f h_wire_bits hr (pa_cons (pv 1) (pa_cons (pv 4) pa_nil)))))
      (pss_one (ps_if (pt_cmpR op_ne (pe_op op_and (pv 2) (pv 5)) (pe_op op_and (pe_op op_shr (pv 2) (pe_ix ix_tup (pe_gt T.c_SIZES) (pe_op op_sub (pe_op op_sub (pv 1) pe_int) (pv 4)) (fun _ _ => rfl))) (pv 5)) (nomark _)) (pss_one (ps_expr (pe_bm PySem.F.plainAttrs_list PySem.F.slot_list_append PySem.F.type_list_append mt_append (pv 3) (pa_cons (pv 4) pa_nil)))) pss_nil))))
      (pss_one (ps_ret (pe_tupleOf rfl T.b_tuple (pv 3))))))), fun b w D a hp hret hn => ?_⟩
  have hk := a.hk
  let p : Nat → Bool := fun w => (bN a.t &&& lowN a.k w) != ((bN a.t >>> 2 ^ (a.k - 1 - w)) &&& lowN a.k w)
  refine run_par1 (x := .d (.int (a.k : Int))) (y := .d (.int (bN a.t : Nat))) (ea_cons (ev_call1 a (by walk_at "nb_ea") trivial fun z e => e) (ea_cons (ev_call1 a (by walk_at "nb_ea") trivial fun z e => e) ea_nil)) ?_
  refine run_asgH eh_lst0 fun q ys hys => ?_
  subst hys
  refine run_forR (n := (a.k : Int)) (fun i w' δ' => w' = w.add q (.lst (((List.range i).filter p).map fun i => .int ((i : Nat) : Int))) ∧ ∃ o1 o2, δ' = [some (.d (bT a.t)), some (.d (.int (a.k : Int))), some (.d (.int (bN a.t : Nat))), some (.ob q), o1, o2]) (by walk_at "nb_ea") ⟨by omega, by omega⟩ ⟨rfl, none, none, rfl⟩ ?_ ?_
  · rintro i w' δ' b' hi ⟨rfl, o1, o2, rfl⟩ hb
    have hi' : i < a.k := by omega
    refine ⟨_, tg_name, ?_⟩
    refine run_asg1 (ev_xor (ev_call1 a.k (by walk_at "nb_ea") hk fun z e => e) (ev_call1 (a.k, i) (by walk_at "nb_ea") ⟨hk, hi'⟩ fun z e => e)) ?_
    have eA : Ev1 K (w.add q (.lst (((List.range i).filter p).map fun i => .int ((i : Nat) : Int)))) (tOp (rI0 fun i j => .int (Builtin.bitAnd i j)) (tVar 2) (tVar 5)) _ (.d (.int ((bN a.t &&& lowN a.k i : Nat) : Int))) := ev_and (δ := [some (.d (bT a.t)), some (.d (.int (a.k : Int))), some (.d (.int (bN a.t : Nat))), some (.ob q), some (.d (.int (i : Int))), some (.d (.int ((fullN a.k ^^^ wbN a.k i : Nat) : Int)))]) (ev_var rfl) (ev_var rfl)
    have hsz : i ≤ 100 := by omega
    refine run_tail (run_if (B := fun x => x = p i) (et_test1 (Ev.is (ev_neI eA (ev_and (ev_shr (x := bN a.t) (y := 2 ^ (a.k - 1 - i)) (ev_var rfl) (ev_size T (k := a.k - 1 - i) (by omega) (by walk_at "nb_ev") (by omega))) (ev_var rfl))) ?_)) (fun ht => ?_) fun hf => ?_)
    · show Da.d (PyData.bool (!decide (((bN a.t &&& lowN a.k i : Nat) : Int) = ((bN a.t >>> 2 ^ (a.k - 1 - i) &&& lowN a.k i : Nat) : Int)))) = Da.d (PyData.bool (p i))
      congr 2
      show _ = ((bN a.t &&& lowN a.k i) != ((bN a.t >>> 2 ^ (a.k - 1 - i)) &&& lowN a.k i))
      rw [bne, Bool.beq_eq_decide_eq]
      congr 1
      exact decide_eq_decide.mpr ⟨fun h => Int.ofNat.inj h, fun h => by rw [h]⟩
    · refine run_app (R := fun z => z = .d (.int (i : Int))) (ev_var rfl) (ev_var rfl) (by simp only [List.length_map]; have := List.length_filter_le p (List.range i); rw [List.length_range] at this; omega) fun d e => ⟨_, e, run_nx ⟨?_, _, _, rfl⟩⟩
      rw [range_fil, if_pos ht.symm, List.map_append]
      rfl
    · refine run_skip (run_nx ⟨?_, _, _, rfl⟩)
      rw [range_fil, if_neg (by rw [← hf]; decide), List.append_nil]
  · rintro w' δ' ⟨rfl, o1, o2, rfl⟩
    refine run_freeze (i := 3) rfl (run_ret (Ev.is (ev_tuple (ev_var rfl)) ?_) hret)
    show Da.d (PyData.tuple ((((List.range (a.k : Int).toNat).filter p).map fun i => PyData.int ((i : Nat) : Int)))) = _
    rw [Int.toNat_natCast, iT, List.map_map]
    rfl

theorem pairUp_eq (op full : Nat) : ∀ rows : List Nat, pairUp op full rows = (List.range (rows.length / 2)).map fun j => ((rows.getD (2 * j) 0 &&& (full ^^^ op)) ||| (rows.getD (2 * j + 1) 0 &&& op))
  | [] => rfl
  | [x] => by simp [pairUp]
  | x :: y :: r => by
    have e : (x :: y :: r).length / 2 = r.length / 2 + 1 := by simp only [List.length_cons]; omega
    rw [e, List.range_succ_eq_map, List.map_cons, List.map_map]
    show _ :: pairUp op full r = _
    rw [pairUp_eq op full r]
    rfl
theorem pairUp_len (op full : Nat) (rows : List Nat) : (pairUp op full rows).length = rows.length / 2 := by
  rw [pairUp_eq, List.length_map, List.length_range]
abbrev nL (ns : List Nat) : PyData := .list (ns.map fun n => .int ((n : Nat) : Int))
def stepN (full : Nat) (rows : List Nat) (op : Nat) : List Nat := pairUp op full rows
theorem rows_len (full : Nat) : ∀ (ops rows : List Nat) (k : Nat), rows.length = 2 ^ k → ops.length ≤ k → (ops.foldl (stepN full) rows).length = 2 ^ (k - ops.length)
  | [], rows, k, h, _ => h
  | o :: ops, rows, 0, h, h2 => absurd h2 (Nat.not_succ_le_zero _)
  | o :: ops, rows, k + 1, h, h2 => by
    rw [List.foldl_cons, rows_len full ops (stepN full rows o) k (by unfold stepN; rw [pairUp_len, h, Nat.pow_succ]; omega) (Nat.le_of_succ_le_succ h2), List.length_cons]
    congr 1
    omega
theorem nat_ix {ns : List Nat} {i : Int} {j : Nat} (hj : j < ns.length) (e : i = (j : Int)) : atI (ns.map fun n => PyData.int ((n : Nat) : Int)) i = some (.int ((ns.getD j 0 : Nat) : Int)) := by
  subst e
  obtain ⟨x, h1, h2⟩ := atI_lt (xs := ns.map fun n => PyData.int ((n : Nat) : Int)) (i := (j : Int)) (by omega) (by simpa using hj)
  rw [h1]
  rw [Int.toNat_natCast, List.getElem?_map, List.getElem?_eq_getElem hj] at h2
  rw [List.getD_eq_getElem?_getD, List.getElem?_eq_getElem hj]
  exact h2.symm
abbrev OK_gate_bits (P : Program) (w0 : World) (K : Kx) (mg : Str → Option Value) (base : Heap) : Prop := Ok P w0 K mg base 1 "gate_bits" ["table", "operands", "full"] (spW K (fun (p : (Tb × List Nat) × Nat) => [.d (bT p.1.1.t), .d (nL p.1.2), .d (.int (p.2 : Int))]) (fun _ p => p.1.2.length = p.1.1.k) (fun p z => z = .d (.int (gateN p.1.1.t p.1.2 p.2 : Nat))))
theorem ok_gate_bits {P : Program} {w0 : World} {K : Kx} {mg : Str → Option Value} {base : Heap} (T : Tx K mg) : OK_gate_bits P w0 K mg base := by
  refine fn_ok T.d_gate_bits sc_gate_bits (fun _ => rfl) bi_gate_bits fun f cdv A outer s H E hr => ⟨_, (pss_cons (ps_set (i := 3) sc_gate_bits.nd rfl (Or.inr rfl) (pe_lc (own := [("worth", 5)]) (g := (gName 5)) (tt := tYes) rfl sc_gate_bits.nd (pi_tup (pv 0)) (blkOk_by (N := N_gate_bits) (sc := (defScope s_gate_bits)) (by decide +kernel)) (fun _ _ _ _ _ => (pg_name (i := 5) sc_gate_bits.nd rfl (Or.inl rfl))) (fun _ _ _ _ _ => pts_nil) (fun _ _ _ _ _ => (pe_ifExp (pt_truthK (K := K) rfl (pv 5) (fun _ => rfl)) (pv 2) pe_int))))
      (pss_cons (ps_for PassesOwn.never rfl (pi_list (pe_revL (pv 1))) (pg_name (i := 4) sc_gate_bits.nd rfl (Or.inr rfl)) (pss_one (ps_set (i := 3) sc_gate_bits.nd rfl (Or.inr rfl) (pe_lc (own := [("at", 6)]) (g := (gName 6)) (tt := tYes) rfl sc_gate_bits.nd (pi_range3 rfl T.b_range (pa_cons pe_int (pa_cons (pe_callB call_len (by rfl) T.b_len (by decide +kernel) (pa_cons (pv 3) pa_nil)) (pa_cons pe_int pa_nil)))) (blkOk_by (N := N_gate_bits) (sc := (defScope s_gate_bits)) (by decide +kernel)) (fun _ _ _ _ _ => (pg_name (i := 6) sc_gate_bits.nd rfl (Or.inl rfl))) (fun _ _ _ _ _ => pts_nil) (fun _ _ _ _ _ => (pe_op op_or (pe_op op_and (pe_ix (ix_listK (K := K) rfl) (pv 3) (pv 6) (fun _ _ => rfl)) (pe_op op_xor (pv 2) (pv 4))) (pe_op op_and (pe_ix (ix_listK (K := K) rfl) (pv 3) (pe_op op_add (pv 6) pe_int) (fun _ _ => rfl)) (pv 4))))))))
      (pss_one (ps_ret (pe_ix ix_list (pv 3) pe_int (fun _ _ => rfl)))))), fun b w D a hp hret hn => ?_⟩
  obtain ⟨⟨t, ops⟩, full⟩ := a
  have hl : ops.length = t.k := hp
  have hk := t.hk
  let rs : List Nat := t.t.map fun b => if b then full else 0
  have hrs : rs.length = 2 ^ t.k := by simp [rs, t.hl]
  have hln : ∀ i, i ≤ ops.length → ((ops.reverse.take i).foldl (stepN full) rs).length = 2 ^ (t.k - i) := fun i hi => by
    have h1 : (ops.reverse.take i).length = i := by simp; omega
    have := rows_len full (ops.reverse.take i) rs t.k hrs (by omega)
    rwa [h1] at this
  have h8 : ∀ i, 2 ^ (t.k - i) ≤ 8 := fun i => Nat.pow_le_pow_right (n := 2) (by decide) (show t.k - i ≤ 3 by omega)
  refine run_asg1 (d := .d (nL rs)) ?_ ?_
  · refine Ev.is (ev_mapT t.t (fun b => .int (bi b)) (fun b => .int ((if b then full else 0 : Nat) : Int)) wipes_name (Ev.is (ev_var rfl) (by show Da.d (bT t.t) = _; rw [bT, iT, List.map_map]; rfl)) (by have := tb_len t; omega) fun v _ w' _ => ⟨_, tg_name, ?_⟩) ?_
    · refine ev_if (et_truth (ev_var rfl)) (fun h => ?_) fun h => ?_
      · cases v
        · exact absurd h (by decide)
        · exact ev_var rfl
      · cases v
        · exact ev_int
        · exact absurd h (by decide)
    · show _ = Da.d (PyData.list ((t.t.map fun b => if b then full else 0).map fun n => .int ((n : Nat) : Int)))
      rw [List.map_map]
      rfl
  refine run_forL (xs := (ops.reverse.map fun n => .int ((n : Nat) : Int))) (fun i w' δ' => w' = w ∧ ∃ o1 o2 o3, δ' = [some (.d (bT t.t)), some (.d (nL ops)), some (.d (.int (full : Int))), some (.d (nL ((ops.reverse.take i).foldl (stepN full) rs))), o1, o2, o3]) ?_ ⟨rfl, none, none, none, rfl⟩ ?_ ?_
  · exact Ev.is (ev_revL (xs := ops.map fun n => .int ((n : Nat) : Int)) (ev_var rfl)) (by rw [List.map_reverse])
  · rintro i x w' δ' b' hx ⟨rfl, o1, o2, o3, rfl⟩ hb
    have hi : i < ops.reverse.length := by
      have := (List.getElem?_eq_some_iff.mp hx).1
      simpa using this
    have hi2 : i < ops.length := by simpa using hi
    rw [List.getElem?_map, List.getElem?_eq_getElem hi] at hx
    cases hx
    refine ⟨_, tg_name, ?_⟩
    have hlen := hln i (Nat.le_of_lt hi2)
    generalize hop : ops.reverse[i] = op
    have hstep : (ops.reverse.take (i + 1)).foldl (stepN full) rs = pairUp op full ((ops.reverse.take i).foldl (stepN full) rs) := by
      rw [take_one (List.getElem?_eq_getElem hi), List.foldl_append, hop]
      rfl
    rw [hstep]
    generalize hrow : (ops.reverse.take i).foldl (stepN full) rs = rows at hlen
    have h2 : rows.length ≤ 8 := by rw [hlen]; exact h8 i
    have he : ∃ m, rows.length = 2 * m := ⟨2 ^ (t.k - i - 1), by rw [hlen, show t.k - i = (t.k - i - 1) + 1 by omega, Nat.pow_succ, Nat.add_sub_cancel]; omega⟩
    obtain ⟨m, hm⟩ := he
    refine run_tail (run_asg1 (d := .d (nL (pairUp op full rows))) ?_ (run_nx ⟨rfl, _, _, _, rfl⟩))
    rw [pairUp_eq, hm, show 2 * m / 2 = m by omega]
    have hrg : RgC 0 ((rows.length : Nat) : Int) 2 m := by
      rw [hm]
      have : m = 0 ∨ m = 1 ∨ m = 2 ∨ m = 3 ∨ m = 4 := by omega
      rcases this with h | h | h | h | h <;> subst h <;> exact ⟨by decide, by decide, by decide, by decide⟩
    refine Ev.is (ev_mapX (n := m) (fun j => .int (((rows.getD (2 * j) 0 &&& (full ^^^ op)) ||| (rows.getD (2 * j + 1) 0 &&& op) : Nat) : Int)) (ei_rng3 (ea_cons ev_int (ea_cons (Ev.is (ev_CB1 (ea_cons (ev_var rfl) ea_nil) (ca_len (LenD.list _))) (by rw [List.length_map])) (ea_cons ev_int ea_nil))) hrg) walk_rangeC y_rng3 wipes_name (by omega) fun j hj w' _ => ⟨_, tg_name, ?_⟩) ?_
    · have i1 : 2 * j < rows.length := by omega
      have i2 : 2 * j + 1 < rows.length := by omega
      exact ev_bor (ev_and (ev_ixL (ev_var rfl) (ev_var rfl) (nat_ix i1 (by omega))) (ev_xor (ev_var rfl) (ev_var rfl))) (ev_and (ev_ixL (ev_var rfl) (ev_ii (ev_var rfl) ev_int) (nat_ix i2 (by omega))) (ev_var rfl))
    · rw [nL, List.map_map]
      rfl
  · rintro w' δ' ⟨rfl, o1, o2, o3, rfl⟩
    have e1 : (ops.reverse.map fun n => PyData.int ((n : Nat) : Int)).length = ops.reverse.length := by rw [List.length_map]
    have hlen := hln ops.length (Nat.le_refl _)
    have e2 : (ops.reverse.take ops.length).foldl (stepN full) rs = ops.reverse.foldl (stepN full) rs := by
      rw [List.take_of_length_le (by simp)]
    rw [e2, hl, Nat.sub_self] at hlen
    refine run_ret (Ev.is (ev_ixL (ev_var rfl) ev_int (nat_ix (j := 0) ?_ rfl)) ?_) hret
    · rw [e1, List.take_of_length_le (Nat.le_refl _), hlen]
      decide
    · rw [e1, List.take_of_length_le (Nat.le_refl _)]
      show _ = Da.d (.int (((ops.reverse.foldl (stepN full) rs).headD 0 : Nat) : Int))
      rw [List.getD_eq_getElem?_getD, ← List.head?_eq_getElem?, List.headD_eq_head?_getD]
end Nb
end
section
set_option Elab.async false
set_option linter.all false
set_option maxRecDepth 100000
set_option maxHeartbeats 4000000
/-! defs: kinds. -/
namespace Nb
open PySem L2
local macro_rules | `(tactic| walk_at "nb_isi") => `(tactic| first | exact isi_ii | exact isi_ib | exact isi_ss | exact isi_tt | exact isi_ll | exact isi_lt)
local macro_rules | `(tactic| walk_at "nb_side") => `(tactic| first | assumption | (show CMul _ _; first | exact Or.inr ⟨by decide, by decide⟩ | exact Or.inl ⟨by decide, by decide⟩ | exact Or.inr ⟨by omega, by omega⟩ | exact Or.inl ⟨by omega, by omega⟩) | (show CDiv _ _; exact ⟨by omega, by omega⟩) | (show CPow _ _; exact ⟨by omega, by omega, by omega⟩) | decide | omega | rfl)
local macro_rules | `(tactic| walk_at "nb_ev") => `(tactic| first
  | exact ev_var rfl
  | exact ev_int
  | exact ev_str
  | exact ev_bl
  | exact ev_non
  | (refine' ev_isi ?h1 ?h2; (case h1 => walk_at "nb_ev"); (case h2 => walk_at "nb_isi"))
  | (refine' ev_isi2 ?h1 ?h2 ?h3; (case h1 => walk_at "nb_ev"); (case h2 => walk_at "nb_isi"); (case h3 => walk_at "nb_isi"))
  | (refine' ev_ii ?h1 ?h2; (case h1 => walk_at "nb_ev"); (case h2 => walk_at "nb_ev"))
  | (refine' ev_ib ?h1 ?h2; (case h1 => walk_at "nb_ev"); (case h2 => walk_at "nb_ev"))
  | (refine' ev_iiC ?h1 ?h2 ?h3; (case h1 => walk_at "nb_ev"); (case h2 => walk_at "nb_ev"); (case h3 => walk_at "nb_side"))
  | (refine' ev_eqI ?h1 ?h2; (case h1 => walk_at "nb_ev"); (case h2 => walk_at "nb_ev"))
  | (refine' ev_neI ?h1 ?h2; (case h1 => walk_at "nb_ev"); (case h2 => walk_at "nb_ev"))
  | (refine' ev_eqS ?h1 ?h2; (case h1 => walk_at "nb_ev"); (case h2 => walk_at "nb_ev"))
  | (refine' ev_neS ?h1 ?h2; (case h1 => walk_at "nb_ev"); (case h2 => walk_at "nb_ev"))
  | (refine' ev_neg ?h1; (case h1 => walk_at "nb_ev"))
  | (refine' ev_andV ?h1 (fun _ => ?h2); (case h1 => walk_at "nb_ev"); (case h2 => walk_at "nb_ev"))
  | (refine' ev_orV ?h1 (fun _ => ?h2); (case h1 => walk_at "nb_ev"); (case h2 => walk_at "nb_ev"))
  | (refine' ev_notV ?h1; (case h1 => walk_at "nb_ev"))
  | walk_at "nb_call")
local macro_rules | `(tactic| walk_at "nb") => `(tactic| (refine' Ev.is ?h ?e; (case h => walk_at "nb_ev"); (try rfl)))
local macro_rules | `(tactic| walk_at "nb_ea") => `(tactic| first | exact ea_nil | (refine' ea_cons ?h1 ?h2; (case h1 => walk_at "nb_ev"); (case h2 => walk_at "nb_ea")))
theorem low_lt {k w : Nat} (hk : k ≤ 3) : lowN k w < 2 ^ 64 := by
  have h8 : 2 ^ k ≤ 8 := Nat.pow_le_pow_right (n := 2) (by decide) (show k ≤ 3 from hk)
  have h1 : fullN k < 2 ^ 2 ^ k := Nat.sub_lt (Nat.two_pow_pos _) (by decide)
  have h2 : wbN k w < 2 ^ 2 ^ k := by
    have := bN_lt ((List.range (2 ^ k)).map fun i => i.testBit (k - 1 - w))
    rwa [List.length_map, List.length_range] at this
  have h3 : 2 ^ 2 ^ k ≤ 2 ^ 8 := Nat.pow_le_pow_right (by decide) h8
  have h4 := Nat.xor_lt_two_pow h1 h2
  show fullN k ^^^ wbN k w < 2 ^ 64
  omega
theorem and_lt {b k w : Nat} (hk : k ≤ 3) : b &&& lowN k w < 2 ^ 64 := Nat.lt_of_le_of_lt Nat.and_le_right (low_lt hk)
theorem nat_eq {x y : Nat} : decide (((x : Nat) : Int) = ((y : Nat) : Int)) = decide (x = y) := decide_eq_decide.mpr ⟨fun h => Int.ofNat.inj h, fun h => by rw [h]⟩
theorem needs_lt {k b w : Nat} (h : w ∈ needsN k b) : w < k := List.mem_range.mp (List.mem_filter.mp h).1
theorem needs_len (t : Tb) : (needsN t.k (bN t.t)).length ≤ 3 := by
  have := List.length_filter_le (fun w => (bN t.t &&& lowN t.k w) != ((bN t.t >>> 2 ^ (t.k - 1 - w)) &&& lowN t.k w)) (List.range t.k)
  rw [List.length_range] at this
  exact Nat.le_trans this t.hk

abbrev OK_raised (P : Program) (w0 : World) (K : Kx) (mg : Str → Option Value) (base : Heap) : Prop := Ok P w0 K mg base 2 "raised" ["bits", "many"] (spW K (fun (p : Nat × Nat) => [.d (.int (p.1 : Int)), .d (.int (p.2 : Int))]) (fun _ p => p.2 ≤ 3) (fun p z => z = .d (.int (raisedN p.2 p.1 : Nat))))
theorem ok_raised {P : Program} {w0 : World} {K : Kx} {mg : Str → Option Value} {base : Heap} (T : Tx K mg) (h_full_bits : OK_full_bits P w0 K mg base) (h_wire_bits : OK_wire_bits P w0 K mg base) : OK_raised P w0 K mg base := by
  refine fn_ok T.d_raised sc_raised (fun _ => rfl) bi_raised fun f cdv A outer s H E hr => ⟨_, (pss_cons (ps_for PassesOwn.never rfl (pi_range1 rfl T.b_range (pa_cons (pv 1) pa_nil)) (pg_name (i := 2) sc_raised.nd rfl (Or.inl rfl)) (pss_one (ps_aug (i := 0) sc_raised.nd rfl (Or.inl rfl) (pe_op op_shl (pe_op op_and (pv 0) (pe_op op_xor (pe_f h_full_bits hr (pa_cons (pv 1) pa_nil)) (pe_f h_wire_bits hr (pa_cons (pv 1) (pa_cons (pv 2) pa_nil))))) (pe_ix ix_tup (pe_gt T.c_SIZES) (pe_op op_sub (pe_op op_sub (pv 1) pe_int) (pv 2)) (fun _ _ => rfl))) iop_or)))
      (pss_one (ps_ret (pv 0)))), fun b w D a hp hret hn => ?_⟩
  obtain ⟨n, k⟩ := a
  have hk : k ≤ 3 := hp
  refine run_forR (n := (k : Int)) (fun i w' δ' => w' = w ∧ ∃ o, δ' = [some (.d (.int (((List.range i).foldl (raiseN k) n : Nat) : Int))), some (.d (.int (k : Int))), o]) (by walk_at "nb_ea") ⟨by omega, by omega⟩ ⟨rfl, none, rfl⟩ ?_ ?_
  · rintro i w' δ' b' hi ⟨rfl, o, rfl⟩ hb
    have hi' : i < k := by omega
    have h8 : 2 ^ (k - 1 - i) ≤ 8 := Nat.pow_le_pow_right (n := 2) (by decide) (show k - 1 - i ≤ 3 by omega)
    refine ⟨_, tg_name, ?_⟩
    refine run_tail (run_aug1 rfl (ev_shl (ev_and (ev_var rfl) (ev_xor (ev_call1 k (by walk_at "nb_ea") hk fun z e => e) (ev_call1 (k, i) (by walk_at "nb_ea") ⟨hk, hi'⟩ fun z e => e))) (ev_size T (k := k - 1 - i) (by omega) (by walk_at "nb_ev") (by omega)) (and_lt hk) (by omega)) od_bor (run_nx ⟨rfl, some (.d (.int (i : Int))), ?_⟩))
    rw [List.range_succ, List.foldl_append]
    rfl
  · rintro w' δ' ⟨rfl, o, rfl⟩
    rw [Int.toNat_natCast]
    exact run_ret (ev_var rfl) hret

abbrev OK_is_rising_table (P : Program) (w0 : World) (K : Kx) (mg : Str → Option Value) (base : Heap) : Prop := Ok P w0 K mg base 3 "is_rising_table" ["table"] (spW K (fun (t : Tb) => [.d (bT t.t)]) (fun _ _ => True) (fun t z => z = .d (.bool (isRising t))))
theorem ok_is_rising_table {P : Program} {w0 : World} {K : Kx} {mg : Str → Option Value} {base : Heap} (T : Tx K mg) (h_bits_of : OK_bits_of P w0 K mg base) (h_raised : OK_raised P w0 K mg base) (h_width_of : OK_width_of P w0 K mg base) : OK_is_rising_table P w0 K mg base := by
  refine fn_ok T.d_is_rising_table sc_is_rising_table (fun _ => rfl) bi_is_rising_table fun f cdv A outer s H E hr => ⟨_, (pss_one (ps_ret (pe_cmpR op_eq (pe_f h_raised hr (pa_cons (pe_f h_bits_of hr (pa_cons (pv 0) pa_nil)) (pa_cons (pe_f h_width_of hr (pa_cons (pv 0) pa_nil)) pa_nil))) (pe_f h_bits_of hr (pa_cons (pv 0) pa_nil)) (nomark _)))), fun b w D a hp hret hn => ?_⟩
  refine run_ret (Ev.is (ev_eqI (ev_call1 (bN a.t, a.k) (ea_cons (ev_call1 a (by walk_at "nb_ea") trivial fun z e => e) (ea_cons (ev_call1 a (by walk_at "nb_ea") trivial fun z e => e) ea_nil)) a.hk fun z e => e) (ev_call1 a (by walk_at "nb_ea") trivial fun z e => e)) ?_) hret
  rw [nat_eq]
  rfl

theorem tb_cons (t : Tb) : ∃ b r, t.t = b :: r := by
  cases h : t.t with
  | nil =>
    have h1 := t.hl
    rw [h] at h1
    have h2 := Nat.two_pow_pos t.k
    rw [← h1] at h2
    exact absurd h2 (Nat.lt_irrefl 0)
  | cons b r => exact ⟨b, r, rfl⟩
theorem tb_at0 (t : Tb) : atI ((t.t.map bi).map PyData.int) 0 = some (.int (bi (t.t.headD false))) := by
  obtain ⟨b, r, e⟩ := tb_cons t
  rw [e]
  obtain ⟨x, h1, h2⟩ := atI_lt (xs := ((b :: r).map bi).map PyData.int) (i := 0) (Int.le_refl 0) (by simp only [List.map_cons, List.length_cons]; omega)
  rw [h1]
  exact h2.symm
theorem tb_atL (t : Tb) : atI ((t.t.map bi).map PyData.int) (-1) = some (.int (bi (t.t.getLastD false))) := by
  have h1 : 0 < t.t.length := by
    obtain ⟨b, r, e⟩ := tb_cons t
    rw [e]
    exact Nat.succ_pos _
  unfold atI ixN
  rw [List.length_map, List.length_map, if_neg (by decide), if_pos (by omega)]
  show ((t.t.map bi).map PyData.int)[(-1 + (t.t.length : Int)).toNat]? = _
  rw [show (-1 + (t.t.length : Int)).toNat = t.t.length - 1 by omega, List.getElem?_map, List.getElem?_map, List.getLastD_eq_getLast?, ← List.getLast?_eq_getElem?]
  cases h : t.t.getLast? with
  | none =>
    rw [List.getLast?_eq_none_iff] at h
    rw [h] at h1
    exact absurd h1 (Nat.lt_irrefl 0)
  | some b => rfl
abbrev OK_is_odd (P : Program) (w0 : World) (K : Kx) (mg : Str → Option Value) (base : Heap) : Prop := Ok P w0 K mg base 3 "is_odd" ["table"] (spW K (fun (t : Tb) => [.d (bT t.t)]) (fun _ _ => True) (fun t z => z = .d (.bool (isOdd t))))
theorem ok_is_odd {P : Program} {w0 : World} {K : Kx} {mg : Str → Option Value} {base : Heap} (T : Tx K mg) (h_bits_of : OK_bits_of P w0 K mg base) (h_full_bits : OK_full_bits P w0 K mg base) (h_needs_of : OK_needs_of P w0 K mg base) (h_width_of : OK_width_of P w0 K mg base) (h_wire_bits : OK_wire_bits P w0 K mg base) : OK_is_odd P w0 K mg base := by
  refine fn_ok T.d_is_odd sc_is_odd (fun _ => rfl) bi_is_odd fun f cdv A outer s H E hr => ⟨_, (pss_cons (ps_set (i := 1) sc_is_odd.nd rfl (Or.inl rfl) (pe_f h_width_of hr (pa_cons (pv 0) pa_nil)))
      (pss_cons (ps_set (i := 2) sc_is_odd.nd rfl (Or.inl rfl) (pe_ifExp (pt_truth (pe_ix ix_tup (pv 0) pe_int (fun _ _ => rfl)) (fun _ => rfl)) (pe_f h_full_bits hr (pa_cons (pv 1) pa_nil)) pe_int))
      (pss_cons (ps_for PassesOwn.never rfl (pi_tup (pe_f h_needs_of hr (pa_cons (pv 0) pa_nil))) (pg_name (i := 3) sc_is_odd.nd rfl (Or.inl rfl)) (pss_one (ps_aug (i := 2) sc_is_odd.nd rfl (Or.inl rfl) (pe_f h_wire_bits hr (pa_cons (pv 1) (pa_cons (pv 3) pa_nil))) iop_xor)))
      (pss_one (ps_ret (pe_cmpR op_eq (pv 2) (pe_f h_bits_of hr (pa_cons (pv 0) pa_nil)) (nomark _))))))), fun b w D a hp hret hn => ?_⟩
  have hk := a.hk
  refine run_asg1 (ev_call1 a (by walk_at "nb_ea") trivial fun z e => e) ?_
  refine run_asg1 (d := .d (.int ((if a.t.headD false then fullN a.k else 0 : Nat) : Int))) ?_ ?_
  · generalize hb : a.t.headD false = b
    refine ev_if (et_truth (ev_ixT (ev_var rfl) ev_int (tb_at0 a))) (fun h => ?_) fun h => ?_
    · rw [hb] at h
      cases b
      · exact absurd h (by decide)
      · exact ev_call1 a.k (by walk_at "nb_ea") hk fun z e => e
    · rw [hb] at h
      cases b
      · exact ev_int
      · exact absurd h (by decide)
  refine run_forT (xs := ((needsN a.k (bN a.t)).map fun i => ((i : Nat) : Int)).map PyData.int) (fun i w' δ' => w' = w ∧ ∃ o, δ' = [some (.d (bT a.t)), some (.d (.int (a.k : Int))), some (.d (.int ((((needsN a.k (bN a.t)).take i).foldl (fun b w => b ^^^ wbN a.k w) (if a.t.headD false then fullN a.k else 0) : Nat) : Int))), o]) (ev_call1 a (by walk_at "nb_ea") trivial fun z e => e) ⟨rfl, none, rfl⟩ ?_ ?_
  · rintro i x w' δ' b' hx ⟨rfl, o, rfl⟩ hb
    rw [List.getElem?_map, List.getElem?_map] at hx
    cases hq : (needsN a.k (bN a.t))[i]? with
    | none =>
      rw [hq] at hx
      cases hx
    | some q =>
      rw [hq] at hx
      cases hx
      have hl := needs_lt (List.mem_of_getElem? hq)
      refine ⟨_, tg_name, run_tail (run_aug1 rfl (ev_call1 (a.k, q) (by walk_at "nb_ea") ⟨hk, hl⟩ fun z e => e) od_bxor (run_nx ⟨rfl, some (.d (.int (q : Int))), ?_⟩))⟩
      rw [take_one hq, List.foldl_append]
      rfl
  · rintro w' δ' ⟨rfl, o, rfl⟩
    rw [List.length_map, List.length_map, List.take_length]
    refine run_ret (Ev.is (ev_eqI (ev_var rfl) (ev_call1 a (by walk_at "nb_ea") trivial fun z e => e)) ?_) hret
    rw [nat_eq]
    rfl

theorem needs_nil {ns : List Nat} : decide ((ns.map fun i => ((i : Nat) : Int)) = []) = decide (ns = []) := decide_eq_decide.mpr ⟨fun h => List.map_eq_nil_iff.mp h, fun h => by rw [h]; rfl⟩
abbrev OK_is_meet (P : Program) (w0 : World) (K : Kx) (mg : Str → Option Value) (base : Heap) : Prop := Ok P w0 K mg base 3 "is_meet" ["table"] (spW K (fun (t : Tb) => [.d (bT t.t)]) (fun _ _ => True) (fun t z => z = .d (.bool (isMeet t))))
theorem ok_is_meet {P : Program} {w0 : World} {K : Kx} {mg : Str → Option Value} {base : Heap} (T : Tx K mg) (h_bits_of : OK_bits_of P w0 K mg base) (h_full_bits : OK_full_bits P w0 K mg base) (h_needs_of : OK_needs_of P w0 K mg base) (h_width_of : OK_width_of P w0 K mg base) (h_wire_bits : OK_wire_bits P w0 K mg base) : OK_is_meet P w0 K mg base := by
  refine fn_ok T.d_is_meet sc_is_meet (fun _ => rfl) bi_is_meet fun f cdv A outer s H E hr => ⟨_, (pss_cons (ps_par (i := 1) (j := 2) rfl sc_is_meet.nd rfl rfl (by decide) rfl rfl (pa_cons (pe_f h_width_of hr (pa_cons (pv 0) pa_nil)) (pa_cons (pe_f h_needs_of hr (pa_cons (pv 0) pa_nil)) pa_nil)) (by rfl))
      (pss_cons (ps_set (i := 3) sc_is_meet.nd rfl (Or.inl rfl) (pe_f h_full_bits hr (pa_cons (pv 1) pa_nil)))
      (pss_cons (ps_for PassesOwn.never rfl (pi_tup (pv 2)) (pg_name (i := 4) sc_is_meet.nd rfl (Or.inl rfl)) (pss_one (ps_aug (i := 3) sc_is_meet.nd rfl (Or.inl rfl) (pe_f h_wire_bits hr (pa_cons (pv 1) (pa_cons (pv 4) pa_nil))) iop_and)))
      (pss_one (ps_ret (pe_or (pe_cmpR (op_eqD hr.units) (pv 2) (pe_tup pa_nil) (nomark _)) (pe_one (pe_cmpR op_eq (pv 3) (pe_f h_bits_of hr (pa_cons (pv 0) pa_nil)) (nomark _))))))))), fun b w D a hp hret hn => ?_⟩
  have hk := a.hk
  refine run_par1 (x := .d (.int (a.k : Int))) (y := .d (iT ((needsN a.k (bN a.t)).map fun i => ((i : Nat) : Int)))) (ea_cons (ev_call1 a (by walk_at "nb_ea") trivial fun z e => e) (ea_cons (ev_call1 a (by walk_at "nb_ea") trivial fun z e => e) ea_nil)) ?_
  refine run_asg1 (ev_call1 a.k (by walk_at "nb_ea") hk fun z e => e) ?_
  refine run_forT (xs := ((needsN a.k (bN a.t)).map fun i => ((i : Nat) : Int)).map PyData.int) (fun i w' δ' => w' = w ∧ ∃ o, δ' = [some (.d (bT a.t)), some (.d (.int (a.k : Int))), some (.d (iT ((needsN a.k (bN a.t)).map fun i => ((i : Nat) : Int)))), some (.d (.int ((((needsN a.k (bN a.t)).take i).foldl (fun b w => b &&& wbN a.k w) (fullN a.k) : Nat) : Int))), o]) (ev_var rfl) ⟨rfl, none, rfl⟩ ?_ ?_
  · rintro i x w' δ' b' hx ⟨rfl, o, rfl⟩ hb
    rw [List.getElem?_map, List.getElem?_map] at hx
    cases hq : (needsN a.k (bN a.t))[i]? with
    | none =>
      rw [hq] at hx
      cases hx
    | some q =>
      rw [hq] at hx
      cases hx
      have hl := needs_lt (List.mem_of_getElem? hq)
      refine ⟨_, tg_name, run_tail (run_aug1 rfl (ev_call1 (a.k, q) (by walk_at "nb_ea") ⟨hk, hl⟩ fun z e => e) od_band (run_nx ⟨rfl, some (.d (.int (q : Int))), ?_⟩))⟩
      rw [take_one hq, List.foldl_append]
      rfl
  · rintro w' δ' ⟨rfl, o, rfl⟩
    rw [List.length_map, List.length_map, List.take_length]
    refine run_ret (Ev.is (ev_orV (b := decide (needsN a.k (bN a.t) = [])) (c := decide (meetN a = bN a.t)) ?_ fun _ => ?_) rfl) hret
    · refine Ev.is (ev_op1 (ev_var rfl) (ev_tup (xs := []) ea_nil) (od_eqD (shaped_iT _) (shaped_iT []))) ?_
      rw [show PyData.tuple [] = iT [] from rfl, eqv_iT, needs_nil]
    · refine Ev.is (ev_eqI (ev_var rfl) (ev_call1 a (by walk_at "nb_ea") trivial fun z e => e)) ?_
      rw [nat_eq]
      rfl

abbrev OK_has_pairs (P : Program) (w0 : World) (K : Kx) (mg : Str → Option Value) (base : Heap) : Prop := Ok P w0 K mg base 3 "has_pairs" ["table"] (spW K (fun (t : Tb) => [.d (bT t.t)]) (fun _ _ => True) (fun t z => z = .d (.bool (hasPairs t))))
theorem ok_has_pairs {P : Program} {w0 : World} {K : Kx} {mg : Str → Option Value} {base : Heap} (T : Tx K mg) (h_bits_of : OK_bits_of P w0 K mg base) (h_raised : OK_raised P w0 K mg base) (h_table_of : OK_table_of P w0 K mg base) (h_width_of : OK_width_of P w0 K mg base) : OK_has_pairs P w0 K mg base := by
  refine fn_ok T.d_has_pairs sc_has_pairs (fun _ => rfl) bi_has_pairs fun f cdv A outer s H E hr => ⟨_, (pss_cons (ps_par (i := 1) (j := 2) rfl sc_has_pairs.nd rfl rfl (by decide) rfl rfl (pa_cons (pe_f h_width_of hr (pa_cons (pv 0) pa_nil)) (pa_cons (pe_f h_bits_of hr (pa_cons (pv 0) pa_nil)) pa_nil)) (by rfl))
      (pss_cons (ps_set (i := 3) sc_has_pairs.nd rfl (Or.inl rfl) (pe_f h_table_of hr (pa_cons (pe_f h_raised hr (pa_cons (pv 2) (pa_cons (pv 1) pa_nil))) (pa_cons (pv 1) pa_nil))))
      (pss_one (ps_ret (pe_cmpR op_eq (pe_op op_and (pv 2) (pe_f h_bits_of hr (pa_cons (NbR.pe_revT (pv 3)) pa_nil))) pe_int (nomark _)))))), fun b w D a hp hret hn => ?_⟩
  have hk := a.hk
  refine run_par1 (x := .d (.int (a.k : Int))) (y := .d (.int (bN a.t : Nat))) (ea_cons (ev_call1 a (by walk_at "nb_ea") trivial fun z e => e) (ea_cons (ev_call1 a (by walk_at "nb_ea") trivial fun z e => e) ea_nil)) ?_
  refine run_asg1 (ev_call1 (raisedN a.k (bN a.t), a.k) (ea_cons (ev_call1 (bN a.t, a.k) (by walk_at "nb_ea") hk fun z e => e) (by walk_at "nb_ea")) hk fun z e => e) ?_
  let r : Tb := ⟨a.k, (nT (raisedN a.k (bN a.t)) a.k).reverse, hk, by rw [List.length_reverse]; exact nT_len _ _⟩
  refine run_ret (Ev.is (ev_eqI (i := ((bN a.t &&& bN r.t : Nat) : Int)) (j := ((0 : Nat) : Int)) (ev_and (ev_var rfl) (ev_call1 r (ea_cons (Ev.is (ev_revT (ev_var rfl)) ?_) ea_nil) trivial fun z e => e)) ev_int) ?_) hret
  · show Da.d (PyData.tuple (((nT (raisedN a.k (bN a.t)) a.k).map bi).map PyData.int).reverse) = Da.d (bT (nT (raisedN a.k (bN a.t)) a.k).reverse)
    rw [← List.map_reverse, ← List.map_reverse]
  · rw [nat_eq]
    rfl

abbrev OK_has_common (P : Program) (w0 : World) (K : Kx) (mg : Str → Option Value) (base : Heap) : Prop := Ok P w0 K mg base 2 "has_common" ["table"] (spW K (fun (t : Tb) => [.d (bT t.t)]) (fun _ _ => True) (fun t z => z = .d (.bool (hasCommon t))))
theorem ok_has_common {P : Program} {w0 : World} {K : Kx} {mg : Str → Option Value} {base : Heap} (T : Tx K mg) (h_bits_of : OK_bits_of P w0 K mg base) (h_full_bits : OK_full_bits P w0 K mg base) (h_width_of : OK_width_of P w0 K mg base) (h_wire_bits : OK_wire_bits P w0 K mg base) : OK_has_common P w0 K mg base := by
  refine fn_ok T.d_has_common sc_has_common (fun _ => rfl) bi_has_common fun f cdv A outer s H E hr => ⟨_, (pss_cons (ps_asg (pe_tup (pa_cons (pe_f h_width_of hr (pa_cons (pv 0) pa_nil)) (pa_cons (pe_f h_bits_of hr (pa_cons (pv 0) pa_nil)) pa_nil))) (pg_tup rfl (pgs_cons (pg_name (i := 1) sc_has_common.nd rfl (Or.inr rfl)) (pgs_cons (pg_name (i := 2) sc_has_common.nd rfl (Or.inr rfl)) pgs_nil))))
      (pss_one (ps_ret (pe_or (pe_cmpR op_eq (pv 2) pe_int (nomark _)) (pe_one (pe_callB (cr_any rfl) (by rfl) T.b_any (by decide +kernel) (pa_cons (pe_lc (own := [("wire", 3)]) (g := (gName 3)) (tt := tYes) rfl sc_has_common.nd (pi_range1 rfl T.b_range (pa_cons (pv 1) pa_nil)) (blkOk_by (N := N_has_common) (sc := (defScope s_has_common)) (by decide +kernel)) (fun _ _ _ _ _ => (pg_name (i := 3) sc_has_common.nd rfl (Or.inl rfl))) (fun _ _ _ _ _ => pts_nil) (fun _ _ _ _ _ => (pe_cmpR op_eq (pe_op op_and (pv 2) (pe_op op_xor (pe_f h_full_bits hr (pa_cons (pv 1) pa_nil)) (pe_f h_wire_bits hr (pa_cons (pv 1) (pa_cons (pv 3) pa_nil))))) pe_int (nomark _)))) pa_nil))))))), fun b w D a hp hret hn => ?_⟩
  have hk := a.hk
  refine run_unpack (δ' := fun _ => [some (.d (bT a.t)), some (.d (.int (a.k : Int))), some (.d (.int (bN a.t : Nat))), none]) (ev_tup (xs := [.int (a.k : Int), .int (bN a.t : Nat)]) (ea_cons (ev_call1 a (by walk_at "nb_ea") trivial fun z e => e) (ea_cons (ev_call1 a (by walk_at "nb_ea") trivial fun z e => e) ea_nil)) (by simp)) (fun d e => by rw [e]; exact tg_tup2) fun d e => ?_
  refine run_ret (Ev.is (ev_orV (b := decide (bN a.t = 0)) (c := (List.range a.k).any fun w => decide (bN a.t &&& lowN a.k w = 0)) ?_ fun _ => ?_) rfl) hret
  · refine Ev.is (ev_eqI (i := ((bN a.t : Nat) : Int)) (j := ((0 : Nat) : Int)) (ev_var rfl) ev_int) ?_
    rw [nat_eq]
  · refine ev_any (fun w => decide (bN a.t &&& lowN a.k w = 0)) (ev_mapR a.k (fun w => .bool (decide (bN a.t &&& lowN a.k w = 0))) wipes_name (ea_cons (ev_var rfl) ea_nil) (by omega) fun i hi w' _ => ⟨_, tg_name, ?_⟩)
    refine Ev.is (ev_eqI (i := ((bN a.t &&& lowN a.k i : Nat) : Int)) (j := ((0 : Nat) : Int)) (ev_and (ev_var rfl) (ev_xor (ev_call1 a.k (by walk_at "nb_ea") hk fun z e => e) (ev_call1 (a.k, i) (by walk_at "nb_ea") ⟨hk, hi⟩ fun z e => e))) ev_int) ?_
    rw [nat_eq]

theorem bi_eq0 (b : Bool) : decide (bi b = 0) = !b := by cases b <;> rfl
theorem bi_eq1 (b : Bool) : decide (bi b = 1) = b := by cases b <;> rfl
theorem d_is {K : Kx} {w : Wd} {te : TE} {δ : Ds} {d d' : Da} (h : Ev1 K w te δ d) (e : d = d') : Ev K w te δ (fun z => z = d') := Ev.is h e
abbrev OK_is_of (P : Program) (w0 : World) (K : Kx) (mg : Str → Option Value) (base : Heap) : Prop := Ok P w0 K mg base 6 "is_of" ["table", "kind"] (spW K (fun (p : Tb × Str) => [.d (bT p.1.t), .d (.str p.2)]) (fun _ _ => True) (fun p z => z = .d (.bool (isOf p.1 p.2))))
theorem ok_is_of {P : Program} {w0 : World} {K : Kx} {mg : Str → Option Value} {base : Heap} (T : Tx K mg) (h_has_common : OK_has_common P w0 K mg base) (h_has_pairs : OK_has_pairs P w0 K mg base) (h_is_meet : OK_is_meet P w0 K mg base) (h_is_odd : OK_is_odd P w0 K mg base) (h_is_rising_table : OK_is_rising_table P w0 K mg base) (h_mirror_table : OK_mirror_table P w0 K mg base) (h_needs_of : OK_needs_of P w0 K mg base) : OK_is_of P w0 K mg base := by
  refine fn_ok T.d_is_of sc_is_of (fun _ => rfl) bi_is_of fun f cdv A outer s H E hr => ⟨_, (pss_cons (ps_if (pt_cmpR op_eq (pv 1) pe_str (nomark _)) (pss_one (ps_ret (pe_cmpR op_eq (pe_ix ix_tup (pv 0) pe_int (fun _ _ => rfl)) pe_int (nomark _)))) pss_nil)
      (pss_cons (ps_if (pt_cmpR op_eq (pv 1) pe_str (nomark _)) (pss_one (ps_ret (pe_cmpR op_eq (pe_ix ix_tup (pv 0) (pe_un un_neg pe_int) (fun _ _ => rfl)) pe_int (nomark _)))) pss_nil)
      (pss_cons (ps_if (pt_cmpR op_eq (pv 1) pe_str (nomark _)) (pss_one (ps_ret (pe_f h_is_rising_table hr (pa_cons (pv 0) pa_nil)))) pss_nil)
      (pss_cons (ps_if (pt_cmpR op_eq (pv 1) pe_str (nomark _)) (pss_one (ps_ret (pe_cmpR (op_eqD hr.units) (pe_f h_mirror_table hr (pa_cons (pv 0) pa_nil)) (pv 0) (nomark _)))) pss_nil)
      (pss_cons (ps_if (pt_cmpR op_eq (pv 1) pe_str (nomark _)) (pss_one (ps_ret (pe_f h_is_odd hr (pa_cons (pv 0) pa_nil)))) pss_nil)
      (pss_cons (ps_if (pt_cmpR op_eq (pv 1) pe_str (nomark _)) (pss_one (ps_ret (pe_f h_is_meet hr (pa_cons (pv 0) pa_nil)))) pss_nil)
      (pss_cons (ps_if (pt_cmpR op_eq (pv 1) pe_str (nomark _)) (pss_one (ps_ret (pe_f h_is_meet hr (pa_cons (pe_f h_mirror_table hr (pa_cons (pv 0) pa_nil)) pa_nil)))) pss_nil)
      (pss_cons (ps_if (pt_cmpR op_eq (pv 1) pe_str (nomark _)) (pss_one (ps_ret (pe_cmpR op_le (pe_callB call_len (by rfl) T.b_len (by decide +kernel) (pa_cons (pe_f h_needs_of hr (pa_cons (pv 0) pa_nil)) pa_nil)) pe_int (nomark _)))) pss_nil)
      (pss_cons (ps_if (pt_cmpR op_eq (pv 1) pe_str (nomark _)) (pss_one (ps_ret (pe_f h_has_pairs hr (pa_cons (pv 0) pa_nil)))) pss_nil)
      (pss_cons (ps_if (pt_cmpR op_eq (pv 1) pe_str (nomark _)) (pss_one (ps_ret (pe_f h_has_pairs hr (pa_cons (pe_f h_mirror_table hr (pa_cons (pv 0) pa_nil)) pa_nil)))) pss_nil)
      (pss_cons (ps_if (pt_cmpR op_eq (pv 1) pe_str (nomark _)) (pss_one (ps_ret (pe_f h_has_common hr (pa_cons (pv 0) pa_nil)))) pss_nil)
      (pss_one (ps_ret (pe_f h_has_common hr (pa_cons (pe_f h_mirror_table hr (pa_cons (pv 0) pa_nil)) pa_nil))))))))))))))), fun b w D a hp hret hn => ?_⟩
  obtain ⟨t, s⟩ := a
  refine run_if (B := fun x => x = decide (s = "zero")) (et_test1 (ev_eqS (ev_var rfl) ev_str)) (fun h => run_ret' (d_is (d := .d (.bool (!t.t.headD false))) (Ev.is (ev_eqI (ev_ixT (ev_var rfl) ev_int (tb_at0 t)) ev_int) (by rw [bi_eq0])) ?_) hret) fun h => run_skip ?_
  · have h := of_decide_eq_true h.symm
    unfold isOf
    rw [if_pos h]
  have h0 : ¬ s = "zero" := of_decide_eq_false h.symm
  clear h
  refine run_if (B := fun x => x = decide (s = "one")) (et_test1 (ev_eqS (ev_var rfl) ev_str)) (fun h => run_ret' (d_is (d := .d (.bool (t.t.getLastD false))) (Ev.is (ev_eqI (ev_ixT (ev_var rfl) (ev_neg ev_int) (tb_atL t)) ev_int) (by rw [bi_eq1])) ?_) hret) fun h => run_skip ?_
  · have h := of_decide_eq_true h.symm
    unfold isOf
    rw [if_neg h0, if_pos h]
  have h1 : ¬ s = "one" := of_decide_eq_false h.symm
  clear h
  refine run_if (B := fun x => x = decide (s = "rising")) (et_test1 (ev_eqS (ev_var rfl) ev_str)) (fun h => run_ret' (d_is (d := .d (.bool (isRising t))) (ev_call1 t (by walk_at "nb_ea") trivial fun z e => e) ?_) hret) fun h => run_skip ?_
  · have h := of_decide_eq_true h.symm
    unfold isOf
    rw [if_neg h0, if_neg h1, if_pos h]
  have h2 : ¬ s = "rising" := of_decide_eq_false h.symm
  clear h
  refine run_if (B := fun x => x = decide (s = "turning")) (et_test1 (ev_eqS (ev_var rfl) ev_str)) (fun h => run_ret' (d_is (d := .d (.bool (decide (t.mirror.t = t.t)))) (Ev.is (ev_op1 (ev_call1 t (by walk_at "nb_ea") trivial fun z e => e) (ev_var rfl) (od_eqD (shaped_iT _) (shaped_iT _))) (by rw [eqv_bT])) ?_) hret) fun h => run_skip ?_
  · have h := of_decide_eq_true h.symm
    unfold isOf
    rw [if_neg h0, if_neg h1, if_neg h2, if_pos h]
  have h3 : ¬ s = "turning" := of_decide_eq_false h.symm
  clear h
  refine run_if (B := fun x => x = decide (s = "odd")) (et_test1 (ev_eqS (ev_var rfl) ev_str)) (fun h => run_ret' (d_is (d := .d (.bool (isOdd t))) (ev_call1 t (by walk_at "nb_ea") trivial fun z e => e) ?_) hret) fun h => run_skip ?_
  · have h := of_decide_eq_true h.symm
    unfold isOf
    rw [if_neg h0, if_neg h1, if_neg h2, if_neg h3, if_pos h]
  have h4 : ¬ s = "odd" := of_decide_eq_false h.symm
  clear h
  refine run_if (B := fun x => x = decide (s = "meet")) (et_test1 (ev_eqS (ev_var rfl) ev_str)) (fun h => run_ret' (d_is (d := .d (.bool (isMeet t))) (ev_call1 t (by walk_at "nb_ea") trivial fun z e => e) ?_) hret) fun h => run_skip ?_
  · have h := of_decide_eq_true h.symm
    unfold isOf
    rw [if_neg h0, if_neg h1, if_neg h2, if_neg h3, if_neg h4, if_pos h]
  have h5 : ¬ s = "meet" := of_decide_eq_false h.symm
  clear h
  refine run_if (B := fun x => x = decide (s = "join")) (et_test1 (ev_eqS (ev_var rfl) ev_str)) (fun h => run_ret' (d_is (d := .d (.bool (isMeet t.mirror))) (ev_call1 t.mirror (ea_cons (ev_call1 t (by walk_at "nb_ea") trivial fun z e => e) ea_nil) trivial fun z e => e) ?_) hret) fun h => run_skip ?_
  · have h := of_decide_eq_true h.symm
    unfold isOf
    rw [if_neg h0, if_neg h1, if_neg h2, if_neg h3, if_neg h4, if_neg h5, if_pos h]
  have h6 : ¬ s = "join" := of_decide_eq_false h.symm
  clear h
  refine run_if (B := fun x => x = decide (s = "single")) (et_test1 (ev_eqS (ev_var rfl) ev_str)) (fun h => run_ret' (d_is (d := .d (.bool (isSingle t))) (Ev.is (ev_ib (f := fun a b => decide (a ≤ b)) (Ev.is (ev_CB1 (ea_cons (ev_call1 t (by walk_at "nb_ea") trivial fun z e => e) ea_nil) (ca_len (LenD.tuple _))) rfl) ev_int) (by rw [List.length_map, List.length_map]; exact congrArg (fun b => Da.d (.bool b)) (decide_eq_decide.mpr ⟨fun h => by omega, fun h => by omega⟩))) ?_) hret) fun h => run_skip ?_
  · have h := of_decide_eq_true h.symm
    unfold isOf
    rw [if_neg h0, if_neg h1, if_neg h2, if_neg h3, if_neg h4, if_neg h5, if_neg h6, if_pos h]
  have h7 : ¬ s = "single" := of_decide_eq_false h.symm
  clear h
  refine run_if (B := fun x => x = decide (s = "pairs")) (et_test1 (ev_eqS (ev_var rfl) ev_str)) (fun h => run_ret' (d_is (d := .d (.bool (hasPairs t))) (ev_call1 t (by walk_at "nb_ea") trivial fun z e => e) ?_) hret) fun h => run_skip ?_
  · have h := of_decide_eq_true h.symm
    unfold isOf
    rw [if_neg h0, if_neg h1, if_neg h2, if_neg h3, if_neg h4, if_neg h5, if_neg h6, if_neg h7, if_pos h]
  have h8 : ¬ s = "pairs" := of_decide_eq_false h.symm
  clear h
  refine run_if (B := fun x => x = decide (s = "copairs")) (et_test1 (ev_eqS (ev_var rfl) ev_str)) (fun h => run_ret' (d_is (d := .d (.bool (hasPairs t.mirror))) (ev_call1 t.mirror (ea_cons (ev_call1 t (by walk_at "nb_ea") trivial fun z e => e) ea_nil) trivial fun z e => e) ?_) hret) fun h => run_skip ?_
  · have h := of_decide_eq_true h.symm
    unfold isOf
    rw [if_neg h0, if_neg h1, if_neg h2, if_neg h3, if_neg h4, if_neg h5, if_neg h6, if_neg h7, if_neg h8, if_pos h]
  have h9 : ¬ s = "copairs" := of_decide_eq_false h.symm
  clear h
  refine run_if (B := fun x => x = decide (s = "common")) (et_test1 (ev_eqS (ev_var rfl) ev_str)) (fun h => run_ret' (d_is (d := .d (.bool (hasCommon t))) (ev_call1 t (by walk_at "nb_ea") trivial fun z e => e) ?_) hret) fun h => run_skip ?_
  · have h := of_decide_eq_true h.symm
    unfold isOf
    rw [if_neg h0, if_neg h1, if_neg h2, if_neg h3, if_neg h4, if_neg h5, if_neg h6, if_neg h7, if_neg h8, if_neg h9, if_pos h]
  have h10 : ¬ s = "common" := of_decide_eq_false h.symm
  clear h
  refine run_ret (d_is (d := .d (.bool (hasCommon t.mirror))) (ev_call1 t.mirror (ea_cons (ev_call1 t (by walk_at "nb_ea") trivial fun z e => e) ea_nil) trivial fun z e => e) ?_) hret
  unfold isOf
  rw [if_neg h0, if_neg h1, if_neg h2, if_neg h3, if_neg h4, if_neg h5, if_neg h6, if_neg h7, if_neg h8, if_neg h9, if_neg h10]
end Nb
end
section
set_option Elab.async false
set_option linter.all false
set_option maxRecDepth 100000
set_option maxHeartbeats 4000000
/-! defs: kinds of tables, making. -/
namespace Nb
open PySem L2
local macro_rules | `(tactic| walk_at "nb_isi") => `(tactic| first | exact isi_ii | exact isi_ib | exact isi_ss | exact isi_tt | exact isi_ll | exact isi_lt)
local macro_rules | `(tactic| walk_at "nb_side") => `(tactic| first | assumption | (show CMul _ _; first | exact Or.inr ⟨by decide, by decide⟩ | exact Or.inl ⟨by decide, by decide⟩ | exact Or.inr ⟨by omega, by omega⟩ | exact Or.inl ⟨by omega, by omega⟩) | (show CDiv _ _; exact ⟨by omega, by omega⟩) | (show CPow _ _; exact ⟨by omega, by omega, by omega⟩) | decide | omega | rfl)
local macro_rules | `(tactic| walk_at "nb_ev") => `(tactic| first
  | exact ev_var rfl
  | exact ev_int
  | exact ev_str
  | exact ev_bl
  | exact ev_non
  | (refine' ev_isi ?h1 ?h2; (case h1 => walk_at "nb_ev"); (case h2 => walk_at "nb_isi"))
  | (refine' ev_isi2 ?h1 ?h2 ?h3; (case h1 => walk_at "nb_ev"); (case h2 => walk_at "nb_isi"); (case h3 => walk_at "nb_isi"))
  | (refine' ev_ii ?h1 ?h2; (case h1 => walk_at "nb_ev"); (case h2 => walk_at "nb_ev"))
  | (refine' ev_ib ?h1 ?h2; (case h1 => walk_at "nb_ev"); (case h2 => walk_at "nb_ev"))
  | (refine' ev_iiC ?h1 ?h2 ?h3; (case h1 => walk_at "nb_ev"); (case h2 => walk_at "nb_ev"); (case h3 => walk_at "nb_side"))
  | (refine' ev_eqI ?h1 ?h2; (case h1 => walk_at "nb_ev"); (case h2 => walk_at "nb_ev"))
  | (refine' ev_neI ?h1 ?h2; (case h1 => walk_at "nb_ev"); (case h2 => walk_at "nb_ev"))
  | (refine' ev_eqS ?h1 ?h2; (case h1 => walk_at "nb_ev"); (case h2 => walk_at "nb_ev"))
  | (refine' ev_neS ?h1 ?h2; (case h1 => walk_at "nb_ev"); (case h2 => walk_at "nb_ev"))
  | (refine' ev_neg ?h1; (case h1 => walk_at "nb_ev"))
  | (refine' ev_andV ?h1 (fun _ => ?h2); (case h1 => walk_at "nb_ev"); (case h2 => walk_at "nb_ev"))
  | (refine' ev_orV ?h1 (fun _ => ?h2); (case h1 => walk_at "nb_ev"); (case h2 => walk_at "nb_ev"))
  | (refine' ev_notV ?h1; (case h1 => walk_at "nb_ev"))
  | walk_at "nb_call")
local macro_rules | `(tactic| walk_at "nb") => `(tactic| (refine' Ev.is ?h ?e; (case h => walk_at "nb_ev"); (try rfl)))
local macro_rules | `(tactic| walk_at "nb_ea") => `(tactic| first | exact ea_nil | (refine' ea_cons ?h1 ?h2; (case h1 => walk_at "nb_ev"); (case h2 => walk_at "nb_ea")))
theorem kinds_dp {K : Kx} {mg : Str → Option Value} (T : Tx K mg) (G : Hp) : Dp K G (.ref (He.ga K "KINDS")) (.tuple (kindL.map PyData.str)) :=
  .tup (T.v_KINDS G) (by
    have : ∀ ns : List Str, DpAll K G (ns.map V.str) (ns.map PyData.str) := fun ns => by
      induction ns with
      | nil => exact .nil
      | cons n ns ih => exact .cons (.str n) ih
    exact this kindL)
theorem ev_kinds {K : Kx} {mg : Str → Option Value} {w : Wd} {δ : Ds} (T : Tx K mg) : Ev1 K w (tC (.ref (He.ga K "KINDS"))) δ (.d (.tuple (kindL.map PyData.str))) := ev_c (kinds_dp T)
abbrev tsD (ts : List Tb) : PyData := .list (ts.map fun t => bT t.t)
abbrev gsD (gs : List Gt) : PyData := .tuple (gs.map gD)
abbrev ksD (ks : List Str) : PyData := .tuple (ks.map PyData.str)
theorem kinds_len (ts : List Tb) : (kindsAll ts).length ≤ 12 := List.length_filter_le _ _

abbrev OK_kinds_of_all (P : Program) (w0 : World) (K : Kx) (mg : Str → Option Value) (base : Heap) : Prop := Ok P w0 K mg base 7 "kinds_of_all" ["tables"] (spW K (fun (ts : List Tb) => [.d (tsD ts)]) (fun _ ts => ts.length ≤ 100000) (fun ts z => z = .d (ksD (kindsAll ts))))
theorem ok_kinds_of_all {P : Program} {w0 : World} {K : Kx} {mg : Str → Option Value} {base : Heap} (T : Tx K mg) (h_is_of : OK_is_of P w0 K mg base) : OK_kinds_of_all P w0 K mg base := by
  refine fn_ok T.d_kinds_of_all sc_kinds_of_all (fun _ => rfl) bi_kinds_of_all fun f cdv A outer s H E hr => ⟨_, (pss_one (ps_ret (pe_tupleOf rfl T.b_tuple (pe_lc (own := [("kind", 1)]) (g := (gName 1)) rfl sc_kinds_of_all.nd (pi_tup (pe_gt T.c_KINDS)) (blkOk_by (N := N_kinds_of_all) (sc := (defScope s_kinds_of_all)) (by decide +kernel)) (fun _ _ _ _ _ => (pg_name (i := 1) sc_kinds_of_all.nd rfl (Or.inr rfl))) (fun _ _ _ _ _ => (pts_one (pt_val (pe_callB (cr_allK (K := K) rfl rfl) (by rfl) T.b_all (by decide +kernel) (pa_cons (pe_lc (own := [("table", 2)]) (g := (gName 2)) (tt := tYes) rfl sc_kinds_of_all.nd (pi_listK (K := K) rfl (pv 0)) (blkOk_by (N := N_kinds_of_all) (sc := { kind := .function, names := [(".0", .local), ("kind", .cell), ("all", .globalImplicit), ("tables", .cell)], isGenerator := false, isCoroutine := false, more := [] }) (by decide +kernel)) (fun _ _ _ _ _ => (pg_name (i := 2) sc_kinds_of_all.nd rfl (Or.inl rfl))) (fun _ _ _ _ _ => pts_nil) (fun _ _ _ _ _ => (pe_f h_is_of hr (pa_cons (pv 2) (pa_cons (pv 1) pa_nil))))) pa_nil))))) (fun _ _ _ _ _ => (pv 1)))))), fun b w D a hp hret hn => ?_⟩
  have hl : a.length ≤ 100000 := hp
  refine run_ret (Ev.is (ev_tuple (ev_filT kindL (fun s => .str s) (fun s => .str s) (fun s => a.all fun t => isOf t s) wipes_name (ev_kinds T) (by decide) fun s _ w' _ => ⟨_, tg_name, ?_, fun _ => ev_var rfl⟩)) rfl) hret
  refine et_B1 (ev_all (fun t => isOf t s) (ev_mapL a (fun t => bT t.t) (fun t => .bool (isOf t s)) wipes_name (ev_var rfl) hl fun t _ w2 _ => ⟨_, tg_name, ev_call1 (t, s) (by walk_at "nb_ea") trivial fun z e => e⟩))

abbrev OK_make_kinds (P : Program) (w0 : World) (K : Kx) (mg : Str → Option Value) (base : Heap) : Prop := Ok P w0 K mg base 8 "make_kinds" ["make"] (spW K (fun (gs : List Gt) => [.mk (gsD gs)]) (fun _ gs => gs.length ≤ 100000) (fun gs z => z = .d (ksD (kindsAll (gs.map (·.2))))))
theorem ok_make_kinds {P : Program} {w0 : World} {K : Kx} {mg : Str → Option Value} {base : Heap} (T : Tx K mg) (h_kinds_of_all : OK_kinds_of_all P w0 K mg base) : OK_make_kinds P w0 K mg base := by
  refine fn_ok T.d_make_kinds sc_make_kinds (fun _ => rfl) bi_make_kinds fun f cdv A outer s H E hr => ⟨_, (pss_one (ps_ret (pe_f h_kinds_of_all hr (pa_cons (pe_lc (own := [("name", 1), ("table", 2)]) (g := (gTup K 2 (gCons (gName 1) (gCons (gName 2) gNil)))) (tt := tYes) rfl sc_make_kinds.nd (pi_tup (pe_fld (pv 0) rfl)) (blkOk_by (N := N_make_kinds) (sc := (defScope s_make_kinds)) (by decide +kernel)) (fun _ _ _ _ _ => (pg_tup rfl (pgs_cons (pg_name (i := 1) sc_make_kinds.nd rfl (Or.inl rfl)) (pgs_cons (pg_name (i := 2) sc_make_kinds.nd rfl (Or.inl rfl)) pgs_nil)))) (fun _ _ _ _ _ => pts_nil) (fun _ _ _ _ _ => (pv 2))) pa_nil)))), fun b w D a hp hret hn => ?_⟩
  have hl : a.length ≤ 100000 := hp
  refine run_ret (ev_call1 (a.map (·.2)) (ea_cons ?_ ea_nil) (by simpa using hl) fun z e => e) hret
  refine Ev.is (ev_mapT a gD (fun g => bT g.2.t) (wipes_tup2 (K := K)) (ev_gates (ev_var rfl) T.k_Make T.n_Make) hl fun g _ w' _ => ⟨_, tg_tup2, ev_var rfl⟩) ?_
  rw [tsD, List.map_map]
  rfl

def missK (t : Tb) (ks : List Str) : PyData := match ks.find? fun s => !isOf t s with
  | some s => .str s
  | none => .none
theorem missK_at {t : Tb} {ks : List Str} {i : Nat} {s : Str} (h : ks[i]? = some s) (h0 : ∀ s ∈ ks.take i, isOf t s = true) (hs : isOf t s = false) : missK t ks = .str s := by
  unfold missK
  have e : ks = ks.take i ++ s :: ks.drop (i + 1) := by
    have hi : i < ks.length := (List.getElem?_eq_some_iff.mp h).1
    have hv : ks[i] = s := (List.getElem?_eq_some_iff.mp h).2
    rw [← hv, ← List.drop_eq_getElem_cons hi, List.take_append_drop]
  have : (ks.find? fun s => !isOf t s) = some s := by
    rw [e, List.find?_append]
    have : (ks.take i).find? (fun s => !isOf t s) = none := List.find?_eq_none.mpr fun x hx => by rw [h0 x hx]; decide
    rw [this]
    simp [hs]
  rw [this]
theorem missK_no {t : Tb} {ks : List Str} (h0 : ∀ s ∈ ks, isOf t s = true) : missK t ks = .none := by
  unfold missK
  have : ks.find? (fun s => !isOf t s) = none := List.find?_eq_none.mpr fun x hx => by rw [h0 x hx]; decide
  rw [this]
abbrev OK_missing_kind (P : Program) (w0 : World) (K : Kx) (mg : Str → Option Value) (base : Heap) : Prop := Ok P w0 K mg base 9 "missing_kind" ["make", "table"] (spW K (fun (p : List Gt × Tb) => [.mk (gsD p.1), .d (bT p.2.t)]) (fun _ p => p.1.length ≤ 100000 ∧ 1 ≤ p.2.k) (fun p z => z = .d (missK p.2 (kindsAll (p.1.map (·.2))))))
theorem ok_missing_kind {P : Program} {w0 : World} {K : Kx} {mg : Str → Option Value} {base : Heap} (T : Tx K mg) (h_is_of : OK_is_of P w0 K mg base) (h_make_kinds : OK_make_kinds P w0 K mg base) (h_need_table : OK_need_table P w0 K mg base) (h_width_of : OK_width_of P w0 K mg base) : OK_missing_kind P w0 K mg base := by
  refine fn_ok T.d_missing_kind sc_missing_kind (fun _ => rfl) bi_missing_kind fun f cdv A outer s H E hr => ⟨_, (pss_cons (ps_expr (pe_f h_need_table hr (pa_cons (pv 1) pa_nil)))
      (pss_cons (ps_if (pt_cmpR op_eq (pe_f h_width_of hr (pa_cons (pv 1) pa_nil)) pe_int (nomark _)) (pss_one ps_never) pss_nil)
      (pss_cons (ps_for PassesOwn.never rfl (pi_tup (pe_f h_make_kinds hr (pa_cons (pv 0) pa_nil))) (pg_name (i := 2) sc_missing_kind.nd rfl (Or.inl rfl)) (pss_one (ps_if (pt_not (pt_val (pe_f h_is_of hr (pa_cons (pv 1) (pa_cons (pv 2) pa_nil))))) (pss_one (ps_ret (pv 2))) pss_nil)))
      (pss_one (ps_ret pe_non))))), fun b w D a hp hret hn => ?_⟩
  obtain ⟨gs, t⟩ := a
  obtain ⟨hl, h1⟩ : gs.length ≤ 100000 ∧ 1 ≤ t.k := hp
  refine run_drop (ev_call1 t (by walk_at "nb_ea") trivial fun z e => e) ?_
  refine run_ifF (et_test1 (Ev.is (ev_eqI (ev_call1 t (by walk_at "nb_ea") trivial fun z e => e) ev_int) (by rw [decide_eq_false (by omega)]))) (run_skip ?_)
  generalize hks : kindsAll (gs.map (·.2)) = ks at hret
  refine run_forT (xs := ks.map PyData.str) (fun i w' δ' => w' = w ∧ (∀ s ∈ ks.take i, isOf t s = true) ∧ ∃ o, δ' = [some (.mk (gsD gs)), some (.d (bT t.t)), o]) (ev_call1 gs (by walk_at "nb_ea") hl fun z e => by rw [e, hks]) ⟨rfl, by simp, none, rfl⟩ ?_ ?_
  · rintro i x w' δ' b' hx ⟨rfl, h0, o, rfl⟩ hb
    rw [List.getElem?_map] at hx
    cases hq : ks[i]? with
    | none =>
      rw [hq] at hx
      cases hx
    | some s =>
      rw [hq] at hx
      cases hx
      refine ⟨_, tg_name, ?_⟩
      refine run_tail (run_if (B := fun x => x = !isOf t s) (et_not (et_B1 (ev_call1 (t, s) (by walk_at "nb_ea") trivial fun z e => e))) (fun ht => ?_) fun hf => ?_)
      · have hs : isOf t s = false := by simpa using ht.symm
        refine run_ret' (Ev.is (ev_var rfl) ?_) (hret.mono hb)
        rw [missK_at hq h0 hs]
      · have hs : isOf t s = true := by simpa using hf.symm
        refine run_skip (run_nx ⟨rfl, fun s' hs' => ?_, _, rfl⟩)
        rw [take_one hq] at hs'
        rcases List.mem_append.mp hs' with h | h
        · exact h0 s' h
        · rw [List.mem_singleton.mp h]
          exact hs
  · rintro w' δ' ⟨rfl, h0, o, rfl⟩
    rw [List.length_map, List.take_length] at h0
    refine run_ret ev_non ?_
    rw [missK_no h0] at hret
    exact hret

theorem missK_none (t : Tb) (ks : List Str) : (match missK t ks with | .none => true | _ => false) = ks.all (isOf t) := by
  by_cases h : ∀ s ∈ ks, isOf t s = true
  · rw [missK_no h]
    exact (List.all_eq_true.mpr h).symm
  · have hf : ks.all (isOf t) = false := by
      rw [← Bool.not_eq_true, List.all_eq_true]
      exact h
    rw [hf]
    unfold missK
    cases hq : ks.find? (fun s => !isOf t s) with
    | some s => rfl
    | none => exact absurd (fun s hs => by simpa using List.find?_eq_none.mp hq s hs) h
abbrev OK_can_make (P : Program) (w0 : World) (K : Kx) (mg : Str → Option Value) (base : Heap) : Prop := Ok P w0 K mg base 10 "can_make" ["make", "table"] (spW K (fun (p : List Gt × Tb) => [.mk (gsD p.1), .d (bT p.2.t)]) (fun _ p => p.1.length ≤ 100000 ∧ 1 ≤ p.2.k) (fun p z => z = .d (.bool ((kindsAll (p.1.map (·.2))).all (isOf p.2)))))
theorem ok_can_make {P : Program} {w0 : World} {K : Kx} {mg : Str → Option Value} {base : Heap} (T : Tx K mg) (h_missing_kind : OK_missing_kind P w0 K mg base) : OK_can_make P w0 K mg base := by
  refine fn_ok T.d_can_make sc_can_make (fun _ => rfl) bi_can_make fun f cdv A outer s H E hr => ⟨_, (pss_one (ps_ret (pe_cmpR op_isN (pe_f h_missing_kind hr (pa_cons (pv 0) (pa_cons (pv 1) pa_nil))) pe_non (nomark _)))), fun b w D a hp hret hn => ?_⟩
  refine run_ret ?_ hret
  refine Ev.imp (ev_op1 (ev_call1 a (by walk_at "nb_ea") hp fun z e => e) ev_non od_isN) fun z e => ?_
  rw [e]
  exact congrArg (fun b => Da.d (.bool b)) (missK_none _ _)

theorem sort_tb {k : Nat} (hk : k = 1 ∨ k = 2) {rows : List (List Int)} (h1 : rows.Perm ((List.range (2 ^ 2 ^ k)).map fun n => (nT n k).map bi)) (h2 : rows.Pairwise fun n m => TS.code 2 n ≤ TS.code 2 m) : rows = (tbL k (by omega)).map fun t => t.t.map bi := by
  have inj : ∀ x ∈ (List.range (2 ^ 2 ^ k)).map (fun n => (nT n k).map bi), ∀ y ∈ (List.range (2 ^ 2 ^ k)).map (fun n => (nT n k).map bi), TS.code 2 x = TS.code 2 y → x = y := by
    rcases hk with h | h <;> subst h <;> decide +kernel
  have p2 : ((List.range (2 ^ 2 ^ k)).map fun n => (nT n k).map bi).Perm ((tbL k (by omega)).map fun t => t.t.map bi) := by
    rcases hk with h | h <;> subst h <;> decide +kernel
  have s2 : ((tbL k (by omega)).map fun t => t.t.map bi).Pairwise fun n m => TS.code 2 n ≤ TS.code 2 m := by
    rcases hk with h | h <;> subst h <;> decide +kernel
  refine List.Perm.eq_of_pairwise (fun a b ha hb h h' => inj a (h1.mem_iff.mp ha) b (p2.mem_iff.mpr hb) (Int.le_antisymm h h')) h2 s2 (h1.trans p2)
def madeL (k : Nat) (hk : k ≤ 3) (ks : List Str) : List Tb := (tbL k hk).filter fun t => ks.all (isOf t)
theorem k12 (k : {k : Nat // k = 1 ∨ k = 2}) : k.1 ≤ 3 := by
  have := k.2
  omega
abbrev OK_made_tables (P : Program) (w0 : World) (K : Kx) (mg : Str → Option Value) (base : Heap) : Prop := Ok P w0 K mg base 9 "made_tables" ["make", "many"] (spW K (fun (p : List Gt × {k : Nat // k = 1 ∨ k = 2}) => [.mk (gsD p.1), .d (.int (p.2.1 : Int))]) (fun _ p => p.1.length ≤ 100000) (fun p z => z = .d (.tuple ((madeL p.2.1 (k12 p.2) (kindsAll (p.1.map (·.2)))).map fun t => bT t.t))))
theorem ok_made_tables {P : Program} {w0 : World} {K : Kx} {mg : Str → Option Value} {base : Heap} (T : Tx K mg) (h_is_of : OK_is_of P w0 K mg base) (h_make_kinds : OK_make_kinds P w0 K mg base) (h_need_between : OK_need_between P w0 K mg base) (h_table_of : OK_table_of P w0 K mg base) : OK_made_tables P w0 K mg base := by
  refine fn_ok T.d_made_tables sc_made_tables (fun _ => rfl) bi_made_tables fun f cdv A outer s H E hr => ⟨_, (pss_cons (ps_expr (pe_f h_need_between hr (pa_cons (pv 1) (pa_cons pe_int (pa_cons pe_int (pa_cons pe_str pa_nil))))))
      (pss_cons (ps_set (i := 2) sc_made_tables.nd rfl (Or.inr rfl) (pe_f h_make_kinds hr (pa_cons (pv 0) pa_nil)))
      (pss_cons (ps_set (i := 3) sc_made_tables.nd rfl (Or.inl rfl) (pe_ix ix_tup (pe_gt T.c_SIZES) (pv 1) (fun _ _ => rfl)))
      (pss_cons (ps_set (i := 4) sc_made_tables.nd rfl (Or.inl rfl) (pe_callB (cr_sortA (B := 2)) (by rfl) T.b_sorted (by decide +kernel) (pa_cons (pe_lc (own := [("bits", 5)]) (g := (gName 5)) (tt := tYes) rfl sc_made_tables.nd (pi_range1 rfl T.b_range (pa_cons (pe_op op_shl pe_int (pv 3)) pa_nil)) (blkOk_by (N := N_made_tables) (sc := (defScope s_made_tables)) (by decide +kernel)) (fun _ _ _ _ _ => (pg_name (i := 5) sc_made_tables.nd rfl (Or.inl rfl))) (fun _ _ _ _ _ => pts_nil) (fun _ _ _ _ _ => (pe_f h_table_of hr (pa_cons (pv 5) (pa_cons (pv 1) pa_nil))))) pa_nil)))
      (pss_one (ps_ret (pe_tupleOf rfl T.b_tuple (pe_lc (own := [("table", 6)]) (g := (gName 6)) rfl sc_made_tables.nd (pi_list (pv 4)) (blkOk_by (N := N_made_tables) (sc := (defScope s_made_tables)) (by decide +kernel)) (fun _ _ _ _ _ => (pg_name (i := 6) sc_made_tables.nd rfl (Or.inr rfl))) (fun _ _ _ _ _ => (pts_one (pt_val (pe_callB (cr_allK (K := K) rfl rfl) (by rfl) T.b_all (by decide +kernel) (pa_cons (pe_lc (own := [("kind", 7)]) (g := (gName 7)) (tt := tYes) rfl sc_made_tables.nd (pi_tupK (K := K) rfl (pv 2)) (blkOk_by (N := N_made_tables) (sc := { kind := .function, names := [(".0", .local), ("table", .cell), ("all", .globalImplicit), ("kinds", .cell)], isGenerator := false, isCoroutine := false, more := [] }) (by decide +kernel)) (fun _ _ _ _ _ => (pg_name (i := 7) sc_made_tables.nd rfl (Or.inl rfl))) (fun _ _ _ _ _ => pts_nil) (fun _ _ _ _ _ => (pe_f h_is_of hr (pa_cons (pv 6) (pa_cons (pv 7) pa_nil))))) pa_nil))))) (fun _ _ _ _ _ => (pv 6)))))))))), fun b w D a hp hret hn => ?_⟩
  obtain ⟨gs, ⟨k, hk⟩⟩ := a
  have hl : gs.length ≤ 100000 := hp
  have hk3 : k ≤ 3 := by omega
  have hb1 : 2 ^ 2 ^ k ≤ 16 := by rcases hk with h | h <;> subst h <;> decide
  have hb2 : 2 ^ k ≤ 4 := by rcases hk with h | h <;> subst h <;> decide
  refine run_drop (ev_call1 (((k : Int), (1 : Int)), ((2 : Int), "many")) (by walk_at "nb_ea") ⟨show (1 : Int) ≤ (k : Int) by omega, show (k : Int) ≤ 2 by omega⟩ fun z e => e) ?_
  generalize hks : kindsAll (gs.map (·.2)) = ks at hret
  have hkl : ks.length ≤ 12 := by rw [← hks]; exact kinds_len _
  refine run_asg1 (d := .d (ksD ks)) (ev_call1 gs (by walk_at "nb_ea") hl fun z e => by rw [e, hks]) ?_
  refine run_asg1 (ev_size T hk3 (ev_var rfl) rfl) ?_
  refine run_asg1 (d := .d (tsD (tbL k hk3))) ?_ ?_
  · refine Ev.imp (ev_CB1 (xs := [.d (.list (((List.range (2 ^ 2 ^ k)).map fun n => (nT n k).map bi).map iT))]) (ea_cons ?_ ea_nil) (ca_sortA (2 ^ k) (Nat.two_pow_pos k) (by rw [List.length_map, List.length_range]; omega) ?_)) ?_
    · refine Ev.is (ev_mapR (2 ^ 2 ^ k) (fun n => bT (nT n k)) wipes_name (ea_cons (Ev.is (ev_shl (x := 1) (y := 2 ^ k) ev_int (ev_var rfl) (by decide) (by omega)) (by rw [Nat.one_shiftLeft])) ea_nil) (by omega) fun i hi w' _ => ⟨_, tg_name, ev_call1 (i, k) (by walk_at "nb_ea") hk3 fun z e => e⟩) ?_
      rw [List.map_map]
      rfl
    · intro n hn
      obtain ⟨m, _, rfl⟩ := List.mem_map.mp hn
      refine ⟨by rw [List.length_map, nT_len], fun x hx => ?_⟩
      obtain ⟨b, _, rfl⟩ := List.mem_map.mp hx
      exact bi_01 b
    · rintro z ⟨rows, p, s, rfl⟩
      rw [sort_tb hk p s, List.map_map]
      rfl
  have htl : (tbL k hk3).length ≤ 16 := by
    unfold tbL
    rw [List.length_map, List.length_range]
    exact hb1
  refine run_ret (Ev.is (ev_tuple (ev_filL (tbL k hk3) (fun t => bT t.t) (fun t => bT t.t) (fun t => ks.all (isOf t)) wipes_name (ev_var rfl) (by omega) fun t _ w' _ => ⟨_, tg_name, ?_, fun _ => ev_var rfl⟩)) rfl) hret
  exact et_B1 (ev_all (fun s => isOf t s) (ev_mapT ks (fun s => .str s) (fun s => .bool (isOf t s)) wipes_name (ev_var rfl) (by omega) fun s _ w2 _ => ⟨_, tg_name, ev_call1 (t, s) (by walk_at "nb_ea") trivial fun z e => e⟩))

/-- a table of as many inputs as each of ts has, put together -/
structure PutA where
  g : Tb
  ts : List Tb
  k : Nat
  hk : k ≤ 3
  h1 : 1 ≤ g.k
  hl : ts.length = g.k
  ht : ∀ t ∈ ts, t.k = k
abbrev OK_put_table (P : Program) (w0 : World) (K : Kx) (mg : Str → Option Value) (base : Heap) : Prop := Ok P w0 K mg base 5 "put_table" ["table", "tables"] (spW K (fun (p : PutA) => [.d (bT p.g.t), .d (tsD p.ts)]) (fun _ _ => True) (fun p z => z = .d (bT (nT (gateN p.g.t (p.ts.map fun t => bN t.t) (fullN p.k)) p.k))))
theorem ok_put_table {P : Program} {w0 : World} {K : Kx} {mg : Str → Option Value} {base : Heap} (T : Tx K mg) (h_bits_of : OK_bits_of P w0 K mg base) (h_full_bits : OK_full_bits P w0 K mg base) (h_gate_bits : OK_gate_bits P w0 K mg base) (h_need_table : OK_need_table P w0 K mg base) (h_table_of : OK_table_of P w0 K mg base) (h_width_of : OK_width_of P w0 K mg base) : OK_put_table P w0 K mg base := by
  refine fn_ok T.d_put_table sc_put_table (fun _ => rfl) bi_put_table fun f cdv A outer s H E hr => ⟨_, (pss_cons (ps_expr (pe_f h_need_table hr (pa_cons (pv 0) pa_nil)))
      (pss_cons (ps_for PassesOwn.never rfl (pi_list (pv 1)) (pg_name (i := 2) sc_put_table.nd rfl (Or.inl rfl)) (pss_one (ps_expr (pe_f h_need_table hr (pa_cons (pv 2) pa_nil)))))
      (pss_cons (ps_if (PW.pt (pw_or (pt_cmpR op_eq (pe_f h_width_of hr (pa_cons (pv 0) pa_nil)) pe_int (nomark _)) (pw_or1 (pt_cmpR op_ne (pe_callB call_len (by rfl) T.b_len (by decide +kernel) (pa_cons (pv 1) pa_nil)) (pe_f h_width_of hr (pa_cons (pv 0) pa_nil)) (nomark _))))) (pss_one ps_never) pss_nil)
      (pss_cons (ps_if (pt_val (pe_callB (cr_any rfl) (by rfl) T.b_any (by decide +kernel) (pa_cons (pe_lc (own := [("other", 2)]) (g := (gName 2)) (tt := tYes) rfl sc_put_table.nd (pi_list (pv 1)) (blkOk_by (N := N_put_table) (sc := (defScope s_put_table)) (by decide +kernel)) (fun _ _ _ _ _ => (pg_name (i := 2) sc_put_table.nd rfl (Or.inl rfl))) (fun _ _ _ _ _ => pts_nil) (fun _ _ _ _ _ => (pe_cmpR op_ne (pe_callB (call_lenK (K := K) rfl) (by rfl) T.b_len (by decide +kernel) (pa_cons (pv 2) pa_nil)) (pe_callB (call_lenK (K := K) rfl) (by rfl) T.b_len (by decide +kernel) (pa_cons (pe_ix (ix_listK (K := K) rfl) (pv 1) pe_int (fun _ _ => rfl)) pa_nil)) (nomark _)))) pa_nil))) (pss_one ps_never) pss_nil)
      (pss_cons (ps_set (i := 3) sc_put_table.nd rfl (Or.inl rfl) (pe_f h_width_of hr (pa_cons (pe_ix ix_list (pv 1) pe_int (fun _ _ => rfl)) pa_nil)))
      (pss_one (ps_ret (pe_f h_table_of hr (pa_cons (pe_f h_gate_bits hr (pa_cons (pv 0) (pa_cons (pe_lc (own := [("other", 2)]) (g := (gName 2)) (tt := tYes) rfl sc_put_table.nd (pi_list (pv 1)) (blkOk_by (N := N_put_table) (sc := (defScope s_put_table)) (by decide +kernel)) (fun _ _ _ _ _ => (pg_name (i := 2) sc_put_table.nd rfl (Or.inl rfl))) (fun _ _ _ _ _ => pts_nil) (fun _ _ _ _ _ => (pe_f h_bits_of hr (pa_cons (pv 2) pa_nil)))) (pa_cons (pe_f h_full_bits hr (pa_cons (pv 3) pa_nil)) pa_nil)))) (pa_cons (pv 3) pa_nil)))))))))), fun b w D a hp hret hn => ?_⟩
  obtain ⟨g, ts, k, hk, h1, hl, ht⟩ := a
  have hgk := g.hk
  obtain ⟨t0, tr, ets⟩ : ∃ t0 tr, ts = t0 :: tr := by
    cases ts with
    | nil =>
      simp only [List.length_nil] at hl
      omega
    | cons t0 tr => exact ⟨t0, tr, rfl⟩
  have hlen : ts.length ≤ 3 := by omega
  have ht0 : t0.k = k := ht t0 (by rw [ets]; exact List.mem_cons_self)
  have at0 : atI (ts.map fun t => bT t.t) 0 = some (bT t0.t) := by
    obtain ⟨x, q1, q2⟩ := atI_lt (xs := ts.map fun t => bT t.t) (i := 0) (Int.le_refl 0) (by rw [List.length_map, hl]; omega)
    rw [q1, ← q2, ets]
    rfl
  refine run_drop (ev_call1 g (by walk_at "nb_ea") trivial fun z e => e) ?_
  refine run_forL (xs := ts.map fun t => bT t.t) (fun i w' δ' => w' = w ∧ ∃ o, δ' = [some (.d (bT g.t)), some (.d (tsD ts)), o, none]) (ev_var rfl) ⟨rfl, none, rfl⟩ ?_ ?_
  · rintro i x w' δ' b' hx ⟨rfl, o, rfl⟩ hb
    rw [List.getElem?_map] at hx
    cases hq : ts[i]? with
    | none =>
      rw [hq] at hx
      cases hx
    | some t =>
      rw [hq] at hx
      cases hx
      exact ⟨_, tg_name, run_tail (run_drop (ev_call1 t (by walk_at "nb_ea") trivial fun z e => e) (run_nx ⟨rfl, _, rfl⟩))⟩
  rintro w' δ' ⟨rfl, o, rfl⟩
  refine run_ifF ?_ (run_skip (run_ifF ?_ (run_skip ?_)))
  · refine EvT.is (et_or (b := false) (c := false) (et_test1 (Ev.is (ev_eqI (ev_call1 g (by walk_at "nb_ea") trivial fun z e => e) ev_int) (by rw [decide_eq_false (by omega)]))) fun _ => et_test1 (Ev.is (ev_neI (ev_CB1 (by walk_at "nb_ea") (ca_len (LenD.list _))) (ev_call1 g (by walk_at "nb_ea") trivial fun z e => e)) ?_)) rfl
    rw [List.length_map, hl, decide_eq_true rfl]
    rfl
  · refine et_B1 (Ev.is (ev_any (fun t : Tb => decide (t.k ≠ k)) (ev_mapL ts (fun t : Tb => bT t.t) (fun t : Tb => .bool (decide (t.k ≠ k))) wipes_name (ev_var rfl) (by omega) fun t hm w2 _ => ⟨_, tg_name, Ev.is (ev_neI (ev_CB1 (by walk_at "nb_ea") (ca_len (LenD.tuple _))) (ev_CB1 (ea_cons (ev_ixL (ev_var rfl) ev_int at0) ea_nil) (ca_len (LenD.tuple _)))) ?_⟩)) ?_)
    · rw [List.length_map, List.length_map, List.length_map, List.length_map, t.hl, t0.hl, ht0, ht t hm, decide_eq_true rfl, decide_eq_false (by simp)]
      rfl
    · have : ts.any (fun t => decide (t.k ≠ k)) = false := by
        rw [List.any_eq_false]
        intro t hm
        simp [ht t hm]
      rw [this]
  · refine run_asg1 (d := .d (.int (k : Int))) (Ev.is (ev_call1 t0 (ea_cons (ev_ixL (ev_var rfl) ev_int at0) ea_nil) trivial fun z e => e) (by rw [ht0])) ?_
    refine run_ret (ev_call1 (gateN g.t (ts.map fun t => bN t.t) (fullN k), k) (ea_cons (ev_call1 ((g, ts.map fun t => bN t.t), fullN k) (ea_cons (ev_var rfl) (ea_cons ?_ (ea_cons (ev_call1 k (by walk_at "nb_ea") hk fun z e => e) ea_nil))) (by rw [List.length_map]; exact hl) fun z e => e) (ea_cons (ev_var rfl) ea_nil)) hk fun z e => e) hret
    refine Ev.is (ev_mapL ts (fun t => bT t.t) (fun t => .int (bN t.t : Nat)) wipes_name (ev_var rfl) (by omega) fun t hm w2 _ => ⟨_, tg_name, ev_call1 t (by walk_at "nb_ea") trivial fun z e => e⟩) ?_
    rw [nL, List.map_map]
    rfl

/-! names, gates -/
def letL : Str := "abcdefghijklmnopqrstuvwxyz"
structure NameOk (x : Str) : Prop where
  lo : 1 ≤ x.length
  hi : x.length ≤ 8
  al : ∀ c ∈ x.cps.toList, c ∈ letL.cps.toList
abbrev OK_is_pair (P : Program) (w0 : World) (K : Kx) (mg : Str → Option Value) (base : Heap) : Prop := Ok P w0 K mg base 1 "is_pair" ["value"] (spW K (fun (xs : List PyData) => [.d (.tuple xs)]) (fun _ xs => xs.length = 2) (fun _ z => z = .d (.bool true)))
theorem ok_is_pair {P : Program} {w0 : World} {K : Kx} {mg : Str → Option Value} {base : Heap} (T : Tx K mg) : OK_is_pair P w0 K mg base := by
  refine fn_ok T.d_is_pair sc_is_pair (fun _ => rfl) bi_is_pair fun f cdv A outer s H E hr => ⟨_, (pss_one (ps_ret (pe_and (pe_callB call_isi (by rfl) T.b_isinstance (by decide +kernel) (pa_cons (pv 0) (pa_cons (pe_ty (n := "tuple") T.b_tuple) pa_nil))) (pe_one (pe_cmpR op_eq (pe_callB call_len (by rfl) T.b_len (by decide +kernel) (pa_cons (pv 0) pa_nil)) pe_int (nomark _)))))), fun b w D a hp hret hn => ?_⟩
  have hl : a.length = 2 := hp
  refine run_ret (Ev.is (ev_andV (b := true) (c := true) (by walk_at "nb") fun _ => Ev.is (ev_eqI (ev_CB1 (by walk_at "nb_ea") (ca_len (LenD.tuple _))) ev_int) ?_) rfl) hret
  rw [hl]
  rfl

abbrev OK_is_name (P : Program) (w0 : World) (K : Kx) (mg : Str → Option Value) (base : Heap) : Prop := Ok P w0 K mg base 2 "is_name" ["value"] (spW K (fun (x : Str) => [.d (.str x)]) (fun _ x => NameOk x) (fun _ z => z = .d (.bool true)))
theorem ok_is_name {P : Program} {w0 : World} {K : Kx} {mg : Str → Option Value} {base : Heap} (T : Tx K mg) (h_is_text : OK_is_text P w0 K mg base) : OK_is_name P w0 K mg base := by
  refine fn_ok T.d_is_name sc_is_name (fun _ => rfl) bi_is_name fun f cdv A outer s H E hr => ⟨_, (pss_one (ps_ret (pe_and (pe_f h_is_text hr (pa_cons (pv 0) pa_nil)) (pe_and (pe_chain op_le op_le pe_int (pe_callB call_len (by rfl) T.b_len (by decide +kernel) (pa_cons (pv 0) pa_nil)) (pe_gi T.c_LONGEST)) (pe_one (pe_callB (cr_all rfl) (by rfl) T.b_all (by decide +kernel) (pa_cons (pe_lc (own := [("sign", 1)]) (g := (gName 1)) (tt := tYes) rfl sc_is_name.nd (pi_str (pv 0)) (blkOk_by (N := N_is_name) (sc := (defScope s_is_name)) (by decide +kernel)) (fun _ _ _ _ _ => (pg_name (i := 1) sc_is_name.nd rfl (Or.inl rfl))) (fun _ _ _ _ _ => pts_nil) (fun _ _ _ _ _ => (pe_cmpR op_in_sign (pv 1) (pe_gs T.c_LETTERS) (by rfl)))) pa_nil))))))), fun b w D a hp hret hn => ?_⟩
  obtain ⟨h1, h2, h3⟩ := (hp : NameOk a)
  refine run_ret (Ev.is (ev_andV (b := true) (c := true) (ev_call1 a (by walk_at "nb_ea") trivial fun z e => e) fun _ => Ev.is (ev_andV (b := true) (c := true) ?_ fun _ => ?_) rfl) rfl) hret
  · refine Ev.is (ev_chain (b := true) (c := true) ev_int (ev_CB1 (by walk_at "nb_ea") (ca_len (LenD.str a (by omega)))) ?_ (fun _ => ev_int) fun _ => ?_) rfl
    · have := @od_ib K w 1 (a.length : Int) (fun a b => decide (a ≤ b))
      rwa [show decide ((1 : Int) ≤ (a.length : Int)) = true from decide_eq_true (by omega)] at this
    · have := @od_ib K w (a.length : Int) 8 (fun a b => decide (a ≤ b))
      rwa [show decide ((a.length : Int) ≤ 8) = true from decide_eq_true (by omega)] at this
  · refine Ev.is (ev_all (l := List.range a.cps.size) (fun _ => true) (ev_mapX (n := a.cps.size) (fun _ => .bool true) (ei_str (ev_var rfl)) walk_str y_str wipes_name (by have : a.cps.size ≤ 8 := h2; omega) fun i hi w' _ => ⟨_, tg_name, Ev.is (ev_op1 (ev_var rfl) (ev_str (x := letL)) od_sign) ?_⟩)) ?_
    · have hm : a.cps.getD i 0 ∈ letL.cps.toList := by
        refine h3 _ ?_
        have : a.cps.getD i 0 = a.cps[i] := by
          rw [Array.getD_eq_getD_getElem?, Array.getElem?_eq_getElem hi]
          rfl
        rw [this]
        exact Array.getElem_mem_toList hi
      rw [decide_eq_true hm]
    · have : (List.range a.cps.size).all (fun _ => true) = true := List.all_eq_true.mpr fun _ _ => rfl
      rw [this]

abbrev OK_is_gate (P : Program) (w0 : World) (K : Kx) (mg : Str → Option Value) (base : Heap) : Prop := Ok P w0 K mg base 5 "is_gate" ["value"] (spW K (fun (g : Gt) => [.d (gD g)]) (fun _ g => NameOk g.1) (fun _ z => z = .d (.bool true)))
theorem ok_is_gate {P : Program} {w0 : World} {K : Kx} {mg : Str → Option Value} {base : Heap} (T : Tx K mg) (h_is_name : OK_is_name P w0 K mg base) (h_is_pair : OK_is_pair P w0 K mg base) (h_is_table : OK_is_table P w0 K mg base) (h_width_of : OK_width_of P w0 K mg base) : OK_is_gate P w0 K mg base := by
  refine fn_ok T.d_is_gate sc_is_gate (fun _ => rfl) bi_is_gate fun f cdv A outer s H E hr => ⟨_, (pss_one (ps_ret (pe_and (pe_f h_is_pair hr (pa_cons (pv 0) pa_nil)) (pe_and (pe_f h_is_name hr (pa_cons (pe_ix ix_tup (pv 0) pe_int (fun _ _ => rfl)) pa_nil)) (pe_and (pe_f h_is_table hr (pa_cons (pe_ix ix_tup (pv 0) pe_int (fun _ _ => rfl)) pa_nil)) (pe_one (pe_cmpR op_le (pe_f h_width_of hr (pa_cons (pe_ix ix_tup (pv 0) pe_int (fun _ _ => rfl)) pa_nil)) (pe_gi T.c_MOST_PLACES) (nomark _)))))))), fun b w D a hp hret hn => ?_⟩
  obtain ⟨x, t⟩ := a
  have hk := t.hk
  have hx : NameOk x := hp
  have a0 : atI [PyData.str x, bT t.t] 0 = some (.str x) := rfl
  have a1 : atI [PyData.str x, bT t.t] 1 = some (bT t.t) := rfl
  refine run_ret (Ev.is (ev_andV (b := true) (c := true) (ev_call1 [.str x, bT t.t] (by walk_at "nb_ea") rfl fun z e => e) fun _ => Ev.is (ev_andV (b := true) (c := true) (ev_call1 x (ea_cons (ev_ixT (ev_var rfl) ev_int a0) ea_nil) hx fun z e => e) fun _ => Ev.is (ev_andV (b := true) (c := true) (ev_call1 t (ea_cons (ev_ixT (ev_var rfl) ev_int a1) ea_nil) trivial fun z e => e) fun _ => ?_) rfl) rfl) rfl) hret
  refine Ev.is (ev_ib (f := fun a b => decide (a ≤ b)) (ev_call1 t (ea_cons (ev_ixT (ev_var rfl) ev_int a1) ea_nil) trivial fun z e => e) ev_int) ?_
  rw [decide_eq_true (by omega)]
end Nb
end
section
set_option Elab.async false
set_option linter.all false
set_option maxRecDepth 100000
set_option maxHeartbeats 4000000
/-! Make(gates). -/
namespace Nb
open PySem L2
local macro_rules | `(tactic| walk_at "nb_isi") => `(tactic| first | exact isi_ii | exact isi_ib | exact isi_ss | exact isi_tt | exact isi_ll | exact isi_lt)
local macro_rules | `(tactic| walk_at "nb_side") => `(tactic| first | assumption | (show CMul _ _; first | exact Or.inr ⟨by decide, by decide⟩ | exact Or.inl ⟨by decide, by decide⟩ | exact Or.inr ⟨by omega, by omega⟩ | exact Or.inl ⟨by omega, by omega⟩) | (show CDiv _ _; exact ⟨by omega, by omega⟩) | (show CPow _ _; exact ⟨by omega, by omega, by omega⟩) | decide | omega | rfl)
local macro_rules | `(tactic| walk_at "nb_ev") => `(tactic| first
  | exact ev_var rfl
  | exact ev_int
  | exact ev_str
  | exact ev_bl
  | exact ev_non
  | (refine' ev_isi ?h1 ?h2; (case h1 => walk_at "nb_ev"); (case h2 => walk_at "nb_isi"))
  | (refine' ev_isi2 ?h1 ?h2 ?h3; (case h1 => walk_at "nb_ev"); (case h2 => walk_at "nb_isi"); (case h3 => walk_at "nb_isi"))
  | (refine' ev_ii ?h1 ?h2; (case h1 => walk_at "nb_ev"); (case h2 => walk_at "nb_ev"))
  | (refine' ev_ib ?h1 ?h2; (case h1 => walk_at "nb_ev"); (case h2 => walk_at "nb_ev"))
  | (refine' ev_iiC ?h1 ?h2 ?h3; (case h1 => walk_at "nb_ev"); (case h2 => walk_at "nb_ev"); (case h3 => walk_at "nb_side"))
  | (refine' ev_eqI ?h1 ?h2; (case h1 => walk_at "nb_ev"); (case h2 => walk_at "nb_ev"))
  | (refine' ev_neI ?h1 ?h2; (case h1 => walk_at "nb_ev"); (case h2 => walk_at "nb_ev"))
  | (refine' ev_eqS ?h1 ?h2; (case h1 => walk_at "nb_ev"); (case h2 => walk_at "nb_ev"))
  | (refine' ev_neS ?h1 ?h2; (case h1 => walk_at "nb_ev"); (case h2 => walk_at "nb_ev"))
  | (refine' ev_neg ?h1; (case h1 => walk_at "nb_ev"))
  | (refine' ev_andV ?h1 (fun _ => ?h2); (case h1 => walk_at "nb_ev"); (case h2 => walk_at "nb_ev"))
  | (refine' ev_orV ?h1 (fun _ => ?h2); (case h1 => walk_at "nb_ev"); (case h2 => walk_at "nb_ev"))
  | (refine' ev_notV ?h1; (case h1 => walk_at "nb_ev"))
  | walk_at "nb_call")
local macro_rules | `(tactic| walk_at "nb") => `(tactic| (refine' Ev.is ?h ?e; (case h => walk_at "nb_ev"); (try rfl)))
local macro_rules | `(tactic| walk_at "nb_ea") => `(tactic| first | exact ea_nil | (refine' ea_cons ?h1 ?h2; (case h1 => walk_at "nb_ev"); (case h2 => walk_at "nb_ea")))
abbrev mkC (K : Kx) : Addr := He.ga K "Make"
structure MkT (K : Kx) (mg : Str → Option Value) : Prop where
  at_ : mg "Make" = some (.ref (mkC K))
  mk_ : Mk K (mkC K) (He.ma K (mkC K) "__init__")
  fn : ∃ fd, FunD K "__init__" "Make.__init__" (defArgs s_Make_init) (defBody s_Make_init) (defScope s_Make_init) [] [] (He.ma K (mkC K) "__init__") fd
/-- gates that may be given -/
structure GsOk (gs : List Gt) : Prop where
  l1 : 1 ≤ gs.length
  l6 : gs.length ≤ 6
  nm : ∀ g ∈ gs, NameOk g.1
  nd : (gs.map (·.1)).Nodup
def spMk (K : Kx) : Sp := fun vs H Q _ => ∃ (w : Wd) (G : Hp) (x dx : Addr) (u : V) (gs : List Gt), vs = [.ref x, u] ∧ At K (w.add x (.raw (.ins (mkC K) dx []))) G H ∧ Dp K G u (.list (gs.map gD)) ∧ GsOk gs ∧
  ∀ u1 G1 H1, Ex G G1 → At K (w.add x (.raw (.ins (mkC K) dx [("gates", u1)]))) G1 H1 → Dp K G1 u1 (gsD gs) → Q .non H1
abbrev OK_Make (P : Program) (w0 : World) (K : Kx) (mg : Str → Option Value) (base : Heap) : Prop := ∃ fd, FnOk P w0 K mg base CX0 7 (He.ma K (mkC K) "__init__") fd ["self", "gates"] (spMk K) ∧ Binds K fd ["self", "gates"] []
theorem NameOk.ok {x : Str} (h : NameOk x) : PyData.strOk x = true := by
  unfold PyData.strOk
  rw [Array.all_eq_true]
  intro i hi
  have h1 := h.al x.cps[i] (Array.getElem_mem_toList hi)
  have h2 : letL.cps.toList.all (fun c => decide (c < 0x110000)) = true := by decide +kernel
  exact List.all_eq_true.mp h2 _ h1
theorem shaped_str {x : Str} (h : NameOk x) : SeqAt.shaped (.str x) = true := shaped_of (by simp only [PyData.canLay0]; exact h.ok) (by simp only [PyData.depth]; decide)
theorem shaped_strs {xs : List Str} (h : ∀ x ∈ xs, NameOk x) : SeqAt.shaped (.list (xs.map PyData.str)) = true := by
  have h1 : ∀ xs : List Str, (∀ x ∈ xs, NameOk x) → PyData.canLayAll0 (xs.map PyData.str) = true := fun xs => by
    induction xs with
    | nil => intro _; simp [PyData.canLayAll0]
    | cons x xs ih =>
      intro h
      simp only [List.map_cons, PyData.canLayAll0, PyData.canLay0, (h x List.mem_cons_self).ok, ih fun y hy => h y (List.mem_cons_of_mem _ hy), Bool.and_self]
  have h2 : ∀ xs : List Str, PyData.depthAll (xs.map PyData.str) = 0 := fun xs => by
    induction xs with
    | nil => simp [PyData.depthAll]
    | cons x xs ih => simp [PyData.depthAll, PyData.depth, ih]
  exact shaped_of (by simp only [PyData.canLay0]; exact h1 xs h) (by simp only [PyData.depth, h2]; decide)
theorem any_strs (xs : List Str) (x : Str) : ((xs.map PyData.str).any fun z => PyData.eqv z (.str x)) = decide (x ∈ xs) := by
  rw [List.any_map, Bool.eq_iff_iff, List.any_eq_true, decide_eq_true_iff]
  constructor
  · rintro ⟨y, hy, h⟩
    have : y = x := by simpa [PyData.eqv] using h
    rw [← this]
    exact hy
  · intro h
    exact ⟨x, h, by simp [PyData.eqv]⟩
theorem ok_Make {P : Program} {w0 : World} {K : Kx} {mg : Str → Option Value} {base : Heap} (T : Tx K mg) (M : MkT K mg) (h_is_gate : OK_is_gate P w0 K mg base) (h_is_sequence : OK_is_sequence P w0 K mg base) : OK_Make P w0 K mg base := by
  obtain ⟨fd, FD⟩ := M.fn
  refine ⟨fd, FunD.ok (k := 6) FD sc_Make_init (fun vs H Q E h => ?_) (fun cdv A outer s H vs Q E hr h => ⟨_, PSs.nox ((pss_cons (ps_if (PW.pt (pw_or (pt_not (pt_val (pe_f h_is_sequence hr (pa_cons (pv 1) pa_nil)))) (pw_or1 (pt_not (pt_chain op_le op_le pe_int (pe_callB call_len (by rfl) T.b_len (by decide +kernel) (pa_cons (pv 1) pa_nil)) (pe_gi T.c_MOST_GATES)))))) (pss_one ps_never) pss_nil)
      (pss_cons (ps_set (i := 2) sc_Make_init.nd rfl (Or.inl rfl) (pe_lst pa_nil))
      (pss_cons (ps_for PassesOwn.never rfl (pi_enum rfl T.b_enumerate (pa_cons (pv 1) pa_nil)) (pg_tup rfl (pgs_cons (pg_name (i := 3) sc_Make_init.nd rfl (Or.inl rfl)) (pgs_cons (pg_name (i := 4) sc_Make_init.nd rfl (Or.inl rfl)) pgs_nil))) (pss_cons (ps_if (PW.pt (pw_or (pt_not (pt_val (pe_f h_is_gate hr (pa_cons (pv 4) pa_nil)))) (pw_or1 (pt_cmpR (NbR.op_inA (u65 hr)) (pe_ix ix_tup (pv 4) pe_int (fun _ _ => rfl)) (pv 2) (by rfl))))) (pss_one ps_never) pss_nil)
      (pss_one (ps_expr (pe_bm PySem.F.plainAttrs_list PySem.F.slot_list_append PySem.F.type_list_append mt_append (pv 2) (pa_cons (pe_ix ix_tup (pv 4) pe_int (fun _ _ => rfl)) pa_nil))))))
      (pss_one (ps_fld (pv 0) (pe_tupleOf rfl T.b_tuple (pv 1)) rfl)))))), ?_⟩), FD.bindsN fun _ _ _ _ _ _ us hl => match us, hl with | [_, _], _ => rfl⟩
  · obtain ⟨w, G, x, dx, u, gs, rfl, _⟩ := h
    rfl
  obtain ⟨w, G, x, dx, u, gs, rfl, at_, du, ⟨l1, l6, nm, nd⟩, q⟩ := h
  suffices Run K G (w.add x (.raw (.ins (mkC K) dx []))) { nx := fun _ H' => Q .non H', rt := Q } _ (startD N_Make_init [.ob x, .d (.list (gs.map gD))]) from this _ G H (Evl.Ex.refl G) (sl_start (.cons rfl (.cons du .nil))) at_
  have k : ∀ u1 G1 H1, Ex G G1 → At K (w.add x (.raw (.ins (mkC K) dx [("gates", u1)]))) G1 H1 → Dp K G1 u1 (gsD gs) → Q .non H1 := q
  refine run_ifF ?_ (run_skip (run_asgH eh_lst0 fun p ys hys => ?_))
  · refine EvT.is (et_or (b := false) (c := false) (EvT.is (et_not (et_B1 (b := true) (ev_call1 (gs.map gD) (by walk_at "nb_ea") trivial fun z e => e))) rfl) fun _ => EvT.is (et_not (et_test1 (b := true) ?_)) rfl) rfl
    refine Ev.is (ev_chain (b := true) (c := true) ev_int (ev_CB1 (by walk_at "nb_ea") (ca_len (LenD.list _))) ?_ (fun _ => ev_int) fun _ => ?_) rfl
    · have := @od_ib K (w.add x (.raw (.ins (mkC K) dx []))) 1 (((gs.map gD).length : Nat) : Int) (fun a b => decide (a ≤ b))
      rwa [show decide ((1 : Int) ≤ (((gs.map gD).length : Nat) : Int)) = true from decide_eq_true (by rw [List.length_map]; omega)] at this
    · have := @od_ib K (w.add x (.raw (.ins (mkC K) dx []))) (((gs.map gD).length : Nat) : Int) 6 (fun a b => decide (a ≤ b))
      rwa [show decide ((((gs.map gD).length : Nat) : Int) ≤ 6) = true from decide_eq_true (by rw [List.length_map]; omega)] at this
  subst hys
  refine run_enumL (xs := gs.map gD) (fun i w' δ' => ∃ o1 o2, w' = (w.add x (.raw (.ins (mkC K) dx []))).add p (.lst (((gs.take i).map (·.1)).map PyData.str)) ∧ δ' = [some (.ob x), some (.d (.list (gs.map gD))), some (.ob p), o1, o2]) (by walk_at "nb_ea") ⟨none, none, rfl, rfl⟩ ?_ ?_
  · rintro n y w' δ' b' hy ⟨o1, o2, rfl, rfl⟩ hb
    rw [List.getElem?_map] at hy
    cases hq : gs[n]? with
    | none =>
      rw [hq] at hy
      cases hy
    | some g =>
      rw [hq] at hy
      cases hy
      have hg := List.mem_of_getElem? hq
      have hn : n < gs.length := (List.getElem?_eq_some_iff.mp hq).1
      have a0 : atI [PyData.str g.1, bT g.2.t] 0 = some (.str g.1) := rfl
      have hnot : g.1 ∉ (gs.take n).map (·.1) := fun hm => by
        have e : gs.map (·.1) = (gs.take n).map (·.1) ++ g.1 :: (gs.drop (n + 1)).map (·.1) := by
          have hv : gs[n] = g := (List.getElem?_eq_some_iff.mp hq).2
          rw [← List.map_cons, ← List.map_append, ← hv, ← List.drop_eq_getElem_cons hn, List.take_append_drop]
        rw [e, List.nodup_append] at nd
        exact nd.2.2 g.1 hm g.1 List.mem_cons_self rfl
      refine run_ifF ?_ (run_skip ?_)
      · refine EvT.is (et_or (b := false) (c := false) (EvT.is (et_not (et_B1 (b := true) (ev_call1 g (by walk_at "nb_ea") (nm g hg) fun z e => e))) rfl) fun _ => et_test1 (Ev.is (ev_op1 (ev_ixT (ev_var rfl) ev_int a0) (ev_var rfl) (od_inH (shaped_str (nm g hg)) (shaped_strs fun y hy => ?_))) ?_)) rfl
        · obtain ⟨g', hg', rfl⟩ := List.mem_map.mp hy
          exact nm g' (List.mem_of_mem_take hg')
        · rw [any_strs, decide_eq_false hnot]
      · refine run_tail (run_app (R := fun z => z = .d (.str g.1)) (ev_var rfl) (ev_ixT (ev_var rfl) ev_int a0) (by simp only [List.length_map, List.length_take]; omega) fun z e => ⟨_, e, run_nx ⟨_, _, ?_, rfl⟩⟩)
        rw [take_one hq, List.map_append, List.map_append]
        rfl
  · rintro w' δ' ⟨o1, o2, rfl, rfl⟩
    intro σ G2 H2 e2 s2 a2
    refine ev_tuple (xs := gs.map gD) (w := w.add x (.raw (.ins (mkC K) dx []))) (δ := [some (.ob x), some (.d (.list (gs.map gD))), some (.ob p), o1, o2]) (ev_var rfl) σ G2 H2 s2 a2.pop _ fun v G3 H3 d3 e3 a3 r3 h3 => ?_
    subst h3
    obtain ⟨v0, ev0, r0⟩ := s2.at_ 0 (.ob x) rfl
    have r0 : v0 = .ref x := r0
    subst r0
    refine ⟨_, ev0, x, mkC K, dx, [], rfl, a3.top, T.k_Make, T.n_Make, by decide, ?_⟩
    exact k v G3 _ (Evl.Ex.trans e2 e3) (a3.set upd_same) r3
end Nb
end
section
set_option Elab.async false
set_option linter.all false
set_option maxRecDepth 100000
set_option maxHeartbeats 4000000
/-! InvalidSize(word): an own exception over an own one over Exception, its __init__ calls super().__init__ and stores a field. -/
namespace NbX
open PySem PySem.Spec PySem.Calls PyProof.Rows L2
abbrev exTail : List Value := PySem.ESX.exTail
/-- what the written part says of the class at C and its __init__ at fI -/
structure SzK (P : Program) (K : PySem.W.Frag) (C fI : Addr) (qual : Str) (st : Stmt) : Prop where
  fn : ∃ (oc : Value) (od : Option Addr) (osl : Array (Option Value)) (kV doc pm : Value) (an : Option Addr) (ct : Value) (cda cc : Addr), K.lookup fI = some ⟨oc, od, .func (PySem.W.ksFn "__init__" qual (defArgs st) (defBody st) (defScope st) .none kV doc pm an (.ref cda) ct cc), osl⟩ ∧
    PySem.W.codeIn K (.ref cda) qual = true ∧ (∃ (ccl : Value) (cdd : Option Addr) (vs : Array Value) (ccs : Array (Option Value)) (file : Str) (tf : Tok), K.lookup cda = some ⟨ccl, cdd, .fields vs, ccs⟩ ∧ vs[2]? = some (.str file tf) ∧ ((P.main.file : Str) == file) = true) ∧
    ∃ (cl : Value) (cld : Option Addr) (csl : Array (Option Value)), K.lookup cc = some ⟨cl, cld, .cell (some (.ref C)), csl⟩
  cls : ∃ nm q N bs bm sn sub ab col dd k0 k1 k2 k3 k5, K.lookup C = some (excClassObj nm q C N bs bm true sn sub ab col dd k0 k1 k2 k3 k5 "Exception.__new__") ∧ PySem.W.excTail exTail bm = true ∧ PySem.W.alongIn K "__init__" bm = some (some (.builtin "Exception.__init__"))
  ini : PySem.W.findIn K (.ref C) "__init__" = some (some (.ref fI))
  tI : PySem.W.typeIn K (.ref fI) = some (.type "function")
  sa : PySem.W.findIn K (.ref C) "__setattr__" = some (some (.builtin "object.__setattr__"))
  nw : PySem.W.findIn K (.ref C) "word" = some none
  exB : PySem.W.subIn K (.ref C) (.type "BaseException") = some true
  exE : PySem.W.mroIn K C (.type "Exception") = some true
  own : PySem.W.mroIn K C (.ref C) = some true
  tyC : PySem.W.typeIn K (.ref C) = some (.type "type")
  kC : PySem.W.keepIn K (.ref C) = true
  sup : PySem.W.nsIn K mainGlobals "super" = some none
  third : PySem.W.nsIn K PySem.cStatics "thirdparty.any" = some none
  top : (P.main.scope.names.lookup ("super" : Str)).isSome = false
/-- the text of such an __init__ -/
structure SzT (st : Stmt) (qual : Str) : Prop where
  body : ∃ (p1 p2 p3 p4 p5 p6 p7 p8 p9 p10 : Pos) (k : Nat), defBody st = [.Expr (.Call (.Attribute (.Call (.Name "super" p1) [] [] p2) "__init__" p3) [.Constant (.str "invalid size") k p4] [] p5) p6, .Assign [.Attribute (.Name "self" p7) "word" p8] (.Name "word" p9) p10] ∧
    ∀ env : Env, ∃ pl : Sem Bool, (eval (.Call (.Attribute (.Call (.Name "super" p1) [] [] p2) "__init__" p3) [.Constant (.str "invalid size") k p4] [] p5) env = (do
      let ov ← attributeBase (.Call (.Name "super" p1) [] [] p2) "__init__" env (eval (.Call (.Name "super" p1) [] [] p2) env)
      standAt p3.atName
      let (f, first) ← holding [ov] (getMethod ov "__init__" pl)
      callWith p5 f first (backTo p5 (starEach [.Constant (.str "invalid size") k p4] env)) []))
  args : ∃ (q1 q2 : Pos), (defArgs st).posonlyargs ++ (defArgs st).args = [⟨"self", none, q1⟩, ⟨"word", none, q2⟩]
  bind : ∀ (kV doc pm : Value) (an : Option Addr) (cdv ct : Value) (cc : Addr) (a b : Value), bindArgs (PySem.W.ksFn "__init__" qual (defArgs st) (defBody st) (defScope st) .none kV doc pm an cdv ct cc) ⟨[a, b], []⟩ = pure [(("self" : Str), a), (("word" : Str), b)]
  s1 : (defScope st).names.lookup ("self" : Str) = some .local
  s2 : (defScope st).names.lookup ("word" : Str) = some .local
  s3 : (defScope st).names.lookup ("super" : Str) = some .globalImplicit
  s4 : (defScope st).names.lookup ("__class__" : Str) = some .free
  s5 : ∀ x ∈ (defScope st).names, x.2 ≠ .cell
  s6 : (defScope st).isCoroutine = false
  s7 : (defScope st).isGenerator = false
  s8 : (defScope st).kind = .function
section
open Builtin Builtin.ObjectAttr
variable {prog : Program} {w : World} {A : Around} {E : Value → Shared → Prop} {R : Result → Shared → Prop} {hp : Heap} {g : Array GenState} {d : Drawn} {t : Nat} {os : OsState}
/-- self.name = v, no dict yet -/
theorem osa_new {K : PySem.W.Frag} {name : Str} {tk : Tok} {v : Value} {x C : Addr} {fv : Array Value} {cd : ClassData}
    (X : K.In hp) (hx : hp.get? x = some { cls := .ref C, data := .fields fv }) (hcd : PySem.W.clsIn K C = some cd) (hm : PySem.W.excOver K C exTail = true) (hh : cd.hasDict = true) (ha : PySem.W.findIn K (.ref C) name = some none)
    (hq : ∀ h' tk' dx, (∀ b o, b ≠ x → hp.get? b = some o → h'.get? b = some o) → hp.objs.size ≤ dx → dx ≠ x → h'.get? x = some { cls := .ref C, dict := some dx, data := .fields fv } →
      h'.Ns1 dx (fun y => if y = name then some v else none) → R (.ok (.ret .none)) ⟨h', g, d, tk', os⟩) :
    codeAny (model prog w) A (.call (.builtin "object.__setattr__") ⟨[.ref x, .str name tk, v], []⟩) R ⟨hp, g, d, t, os⟩ := by
  have I : PySem.W.InstAt hp x { cls := .ref C, data := .fields fv } C none := ⟨hx, rfl, rfl, trivial⟩
  have hxs : x ≠ hp.objs.size := Nat.ne_of_lt (Heap.lt_size hx)
  refine PySem.W.osa_openX (r := none) PySem.F.store_Exception X I hm (by unfold PySem.W.takerIn; rw [ha]; rfl) fun b => ?_
  have hcls : PySem.W.Looks (model prog w) hp (classData C) cd := PySem.W.looks_clsIn X hcd
  obtain ⟨nm, bs, mro, ns, qn, hd, sn, sb, ab, col, del⟩ := cd
  dsimp only at hh
  subst hh
  unfold storeInOwnDict ownDictForStores
  repeat (first | with_reducible refine HandSPX.store_in_new ?_ ?_ | with_reducible refine wpAny_loadPart_at hx ?_ | with_reducible refine hcls.at ?_ | wp_step)
  · exact ⟨_, #[], _, (Heap.get?_update_ne _ _ _ _ hxs.symm).trans (Heap.get?_push_at rfl rfl), rfl, fun e he => absurd he (by simp), fun _ => rfl⟩
  · intro h' tk' hn' hs
    have hx₁ : (hp.push { cls := .type "dict", data := .dict #[] }).get? x = some { cls := .ref C, data := .fields fv } := Heap.get?_push_of_some _ hx
    refine hq h' tk' hp.objs.size (fun b o hb ho => ?_) (Nat.le_refl _) hxs.symm ?_ hn'
    · exact (hs.2 b (Nat.ne_of_lt (Heap.lt_size ho))).trans ((Heap.get?_update_ne _ _ _ _ hb).trans (Heap.get?_push_of_some _ ho))
    · exact (hs.2 x hxs).trans (Heap.get?_update_self _ hx₁ rfl)
end
section
variable {P : Program} {w : World} {A : Around} {R : Result → Shared → Prop} {hp : Heap} {g : Array GenState} {d : Drawn} {t : Nat} {os : OsState} {K : PySem.W.Frag} {C fI : Addr} {qual : Str} {st : Stmt} {mg mb : Str → Option Value} {e t0 : Addr} {u : Value}
theorem size_init (Z : SzK P K C fI qual st) (T : SzT st qual) (X : K.In hp) (G : hp.Ns mainGlobals mg) (B : hp.Ns builtinsNs mb) (hmb : ∀ x : Str, x ≠ "__name__" → mb x = bootBuiltins x) (lim : hp.NoLimit) (hd : A.depth < recursionLimit) (he : hp.get? e = some (HandSPX.excO C t0)) (heK : ∀ o, K.lookup e ≠ some o)
    (hq : ∀ h' tk' dx t1, (∀ b o, b ≠ e → hp.get? b = some o → h'.get? b = some o) → hp.objs.size ≤ dx → dx ≠ e → h'.get? e = some { cls := .ref C, dict := some dx, data := .fields #[.ref t1, .none, .none, .none, .bool false, .none] } →
      h'.Ns1 dx (fun y => if y = "word" then some u else none) → R (.ok (.ret .none)) ⟨h', g, d, tk', os⟩) :
    codeAny (model P w) A (.call (.ref fI) ⟨[.ref e, u], []⟩) R ⟨hp, g, d, t, os⟩ := by
  obtain ⟨oc, od, osl, kV, doc, pm, an, ct, cda, cc, lk, hcd, ⟨ccl, cdd, vs, ccs, file, tf, lc, hvs, hfile⟩, cl, cld, csl, hcell⟩ := Z.fn
  obtain ⟨nm, qn, N, bs, bm, sn, sub, ab, col, dd, k0, k1, k2, k3, k5, hC, hbm, hal⟩ := Z.cls
  obtain ⟨p1, p2, p3, p4, p5, p6, p7, p8, p9, p10, kk, hbody, hcall⟩ := T.body
  obtain ⟨q1, q2, hargs⟩ := T.args
  have hcl : PySem.W.clsIn K C = some { name := nm, bases := bs, mro := .ref C :: bm, ns := N, qualname := qn, hasDict := true, slotNames := sn, subclasses := sub, abstract := ab, collection := col, hasDel := false } := by unfold PySem.W.clsIn; rw [hC] <;> rfl
  have hsup : mg "super" = none := PySem.W.mg_none_of X G Z.sup
  refine PySem.ks_codeAny_call_defAt (fd := PySem.W.ksFn "__init__" qual (defArgs st) (defBody st) (defScope st) .none kV doc pm an (.ref cda) ct cc) (body := defBody st) (binds := [(("self" : Str), .ref e), (("word" : Str), u)]) hd (X _ _ lk) rfl lim (PySem.W.codeRec_of X hcd) rfl (BindsTo.of_eq (T.bind _ _ _ _ _ _ _ _ _)) T.s5 (fun y hy => ?_) (fun h1 hns hk1 => ?_) T.s6 T.s7 T.s8
  · rcases List.mem_cons.mp hy with q | hy
    · rw [q]
      exact T.s1
    · rw [List.mem_singleton.mp hy]
      exact T.s2
  have X1 : K.In h1 := X.keeps hk1
  have he1 := hk1 _ _ he
  have hC1 := X1 _ _ hC
  rw [hbody]
  obtain ⟨pl, hpl⟩ := hcall (PySem.W.ksEnv qual (defScope st) hp.objs.size fI (.ref cda) cc)
  refine ks_wpAt_execs_cons (ks_wpAt_Expr_any (ks_wpAt_MethodCall (pl := pl) ?_ hpl) (by unfold interactive; rw [show (callEnv (PySem.W.ksFn "__init__" qual (defArgs st) _ (defScope st) Value.none kV doc pm an (Value.ref cda) ct cc) hp.objs.size fI).scope.kind = .function from T.s8]; rfl) rfl)
  refine ks_wpAt_super_base (env := PySem.W.ksEnv qual (defScope st) hp.objs.size fI (.ref cda) cc) (ar := ⟨"self", none, q1⟩) T.s3 T.s4 (by decide) rfl (X1 _ _ lk) rfl (by show (((defArgs st).posonlyargs ++ (defArgs st).args).head?) = _; rw [hargs]; rfl) rfl (X1 _ _ lc) rfl hvs hfile Z.top ?_
  refine PySem.W.ks_loadName_global T.s8 T.s3 (loadGlobal_builtin (env := PySem.W.ksEnv qual (defScope st) hp.objs.size fI (.ref cda) cc) (G.keeps hk1) hsup (B.keeps hk1) ((hmb _ (by decide)).trans (show bootBuiltins "super" = some (.type "super") by decide +kernel)) ⟨rfl, ?_⟩)
  refine wpAny_loadName_free T.s8 T.s4 rfl ⟨_, X1 _ _ hcell, rfl⟩ ?_
  refine wpAny_loadName_local T.s8 T.s1 hns rfl ?_
  refine ks_wpAny_isType_cls hC1 rfl ⟨rfl, ?_⟩
  refine ks_wpAny_call_super hC1 rfl he1 rfl (fun c z => nomatch z) (PySem.W.looks_mroIn X1 Z.own) (fun h2 hso hk2 => ?_)
  have X2 : K.In h2 := X1.keeps hk2
  have he2 := hk2 _ _ he1
  have hC2 := X2 _ _ hC
  have I2 : PySem.W.InstAt h2 e (HandSPX.excO C t0) C none := ⟨he2, rfl, rfl, trivial⟩
  have hne : e ≠ C := fun z => by
    rw [z, hC2] at he2
    cases he2
  refine ESX.getMethod_super (K := K) (l := bm) hso (PySem.W.looks_opaque X2 Z.third) ((PySem.W.looks_clsIn X2 hcl).andThen .now) (ESX.drop_own C bm) X2 hal hne (by decide) (I2.type.andThen (PySem.W.looks_mroIn X2 Z.exE)) ?_
  refine ESX.callWith_bound (x := e) (spliced_cons (Constant_str (k := kk) (pos := p4) (spliced_nil ⟨Heap.get?_push_size _ rfl, ?_⟩))) rfl rfl
  have k3 : ∀ b o, h2.get? b = some o → (h2.push (ESX.bw e)).get? b = some o := fun b o z => Heap.get?_push_of_some _ z
  refine ESX.call_bw (k3 _ _ hC2) (k3 _ _ he2) (Heap.get?_push_size _ rfl) (by show 1 ≤ sizeLine; decide) fun h4 t1 k4 he4 => ?_
  have hL : hp.objs.size ≠ e := fun z => absurd (Heap.lt_size he) (by rw [← z]; exact Nat.lt_irrefl _)
  have kall : ∀ b o, b ≠ e → h1.get? b = some o → h4.get? b = some o := fun b o hb z => k4 b o hb (k3 _ _ (hk2 _ _ z))
  have X4 : K.In h4 := fun b o z => kall b o (fun q => heK o (q ▸ z)) (X1 _ _ z)
  have hns4 : h4.Ns hp.objs.size (fun x => [(("self" : Str), Value.ref e), (("word" : Str), u)].reverse.lookup x) := hns.at fun o z => kall _ o hL z
  refine ks_wpAt_execs_cons (ks_wpAt_Assign_Attr (wpAt_of_wpAny (wpAny_Name (wpAny_loadName_local T.s8 T.s2 hns4 rfl ?_) (by decide))) rfl)
  refine wpAny_Name (wpAny_loadName_local T.s8 T.s1 hns4 rfl ?_) (by decide)
  have I4 : PySem.W.InstAt h4 e (HandSPX.excO C t1) C none := ⟨he4, rfl, rfl, trivial⟩
  have hov : PySem.W.excOver K C exTail = true := by
    unfold PySem.W.excOver
    rw [hcl]
    show (C == C && PySem.W.excTail exTail bm) = true
    rw [hbm, beq_self_eq_true]
    rfl
  refine PySem.W.set_plain X4 I4 Z.sa (osa_new X4 he4 hcl hov rfl Z.nw fun h5 tk5 dx k5 hdx hne5 he5 hns5 => ?_)
  show PySem.wpAt _ _ _ (execs [] _) _ _ _
  refine wpAt_of_wpAny (wpAny_pure ?_)
  refine hq h5 tk5 dx t1 (fun b o hb z => k5 b o hb (kall b o hb (hk1 b o z))) (Nat.le_trans (Nat.le_of_lt hns4.lt) hdx) hne5 he5 hns5
end
/-- C(e), the exception made: its dict holds the word -/
def tSz (C : Addr) (ta : TA) : L2.St → Hp → XK → Prop := fun σ H Q => ta σ H fun vs H1 => ∃ z : Str, vs = [.str z] ∧ ∀ dx, H1 dx = none → Q (.ref C) (some dx) (upd H1 dx (.xd [("word", .str z)]))
section
variable {X : Cx} {C fI : Addr} {qual : Str} {st : Stmt} {x : Str} {e : Expr} {ta : TA} {p pos : Pos} {k : Nat}
theorem pmk_size (Z : SzK X.prog X.K C fI qual st) (T : SzT st qual) (hr : Room (k + 1) X.A) (hg : Gl X x) (hm : X.mg x = some (.ref C)) (ha : PA X [e] ta)
    (hdb : (x == ("__debug__" : Str)) = false := by decide) (hst : starEach [e] X.env = (false, eval e X.env) :: starEach [] X.env := by rfl) : PMk X (.Call (.Name x p) [e] [] pos) (tSz C ta) := by
  intro pins s σ H Q I h
  obtain ⟨nm, qn, N, bs, bm, sn, sub, ab, col, dd, k0, k1, k2, k3, k5, hC, hbm, hal⟩ := Z.cls
  refine wpAny_Call_Name_kw (ld_glob I hg hm ?_ hdb)
  refine PySem.W.callWith_K (h₀ := X.base) I.ok.mod.kin Z.kC (thn (ha.run pos pins s σ H _ I h) fun us s1 ⟨vs, H1, I1, r1, z, ev, q1⟩ => ⟨I1.kIn, ?_⟩) hst rfl
  subst ev
  show wpAny _ _ (call (.ref C) us) _ _ _
  obtain ⟨u, eu, ru⟩ : ∃ u, us = [u] ∧ RelV (V.str z) u := by
    cases r1 with
    | cons a b =>
      cases b
      exact ⟨_, rfl, a⟩
  subst eu
  obtain ⟨hp, g, dr, tk, os⟩ := s1
  have kk : ∀ b o, hp.get? b = some o → ((hp.push (PySem.W.kdv_tup [u])).push (PySem.HandSPX.excO C hp.objs.size)).get? b = some o := fun b o z => Heap.get?_push_of_some _ (Heap.get?_push_of_some _ z)
  have hget : ((hp.push (PySem.W.kdv_tup [u])).push (PySem.HandSPX.excO C hp.objs.size)).get? (hp.objs.size + 1) = some (PySem.HandSPX.excO C hp.objs.size) := by heap_get
  obtain ⟨mb, hb1, hb2⟩ := I1.mod.blt
  have hbase : ∀ b o, X.base.get? b = some o → hp.get? b = some o := I1.bk
  refine wpAny_call (PySem.HandSPX.call_own F.excBase_Exception (fun Y => PySem.W.excTail_contains Y bm hbm) (I1.kIn _ _ hC) (PySem.W.looks_findIn I1.kIn Z.ini) (fun self => PySem.W.bind_fn I1.kIn self Z.tI) (by show 1 ≤ sizeLine; decide)
    (size_init (mb := mb) (mg := X.mg) Z T (I1.kIn.keeps kk) (I1.mod.glob.keeps fun b o z => kk b o (hbase b o z)) (hb1.keeps fun b o z => kk b o (hbase b o z)) hb2 (I1.mod.nolimit.keeps fun b o z => kk b o (hbase b o z)) ?_ hget (fun o z => ?_) fun h2 tk2 dx t1 k2' hdx hne he2 hns => ⟨rfl, ?_⟩))
  · exact (hr.make C [u] []).depth
  · exact absurd (Heap.lt_size (I1.kIn _ _ z)) (by simp)
  · have ha1 : ∀ {b : Addr} {o : Obj}, hp.get? b = some o → b ≠ hp.objs.size + 1 := fun {b o} z => Nat.ne_of_lt (Nat.lt_succ_of_lt (Heap.lt_size z))
    obtain ⟨G, g1, g2⟩ := restrict h2 fun b => decide (b ≠ hp.objs.size + 1)
    have gk : ∀ b, b ≠ hp.objs.size + 1 → G.get? b = h2.get? b := fun b hb => g1 b (decide_eq_true hb)
    have ge : G.get? (hp.objs.size + 1) = none := g2 _ (by simp)
    have hG : ∀ b o, hp.get? b = some o → G.get? b = some o := fun b o y => by
      rw [gk b (ha1 y)]
      exact k2' b o (ha1 y) (kk b o y)
    have hdx' : hp.objs.size ≤ dx := Nat.le_trans (by rw [Heap.size_push, Heap.size_push]; omega) hdx
    have hnd : H1 dx = none := I1.hok.fresh hdx'
    have J : Inv X pins σ (upd H1 dx (.xd [("word", .str z)])) ⟨G, g, dr, tk2, os⟩ := I1.laid (t' := tk2) (a := dx) (o := .xd [("word", .str z)]) (h' := G) hG hdx' ⟨_, hns.at fun o y => (gk dx hne).trans y, fun f => ?_⟩
    · refine ⟨hp.objs.size + 1, _, _, ⟨G, g, dr, tk2, os⟩, _, .ref C, some dx, rfl, J, fun b o y => ?_, ge, he2, ⟨rfl, rfl⟩, rfl, rfl, ?_, rfl, I1.bare, raises_own Z.exB Z.tyC, q1 dx hnd⟩
      · by_cases hb : b = hp.objs.size + 1
        · rw [hb, ge] at y
          cases y
        · exact (gk b hb).symm.trans y
      · rw [upd_ne hne.symm]
        exact I1.hok.fresh (Nat.le_succ _)
    · show RelO (([(("word" : Str), V.str z)] : List (Str × V)).lookup f) _
      rw [lookup_put]
      by_cases hf : f = "word"
      · rw [if_pos hf, if_pos hf]
        exact ru
      · rw [if_neg hf, if_neg hf]
        exact True.intro
end
end NbX
end
section
set_option Elab.async false
set_option linter.all false
set_option maxRecDepth 100000
set_option maxHeartbeats 4000000
/-! What raises: need_between, made_tables; what takes it: _law_size. -/
namespace Nb
open PySem L2
local macro_rules | `(tactic| walk_at "nb_isi") => `(tactic| first | exact isi_ii | exact isi_ib | exact isi_ss | exact isi_tt | exact isi_ll | exact isi_lt)
local macro_rules | `(tactic| walk_at "nb_side") => `(tactic| first | assumption | (show CMul _ _; first | exact Or.inr ⟨by decide, by decide⟩ | exact Or.inl ⟨by decide, by decide⟩ | exact Or.inr ⟨by omega, by omega⟩ | exact Or.inl ⟨by omega, by omega⟩) | (show CDiv _ _; exact ⟨by omega, by omega⟩) | (show CPow _ _; exact ⟨by omega, by omega, by omega⟩) | decide | omega | rfl)
local macro_rules | `(tactic| walk_at "nb_ev") => `(tactic| first
  | exact ev_var rfl
  | exact ev_int
  | exact ev_str
  | exact ev_bl
  | exact ev_non
  | (refine' ev_isi ?h1 ?h2; (case h1 => walk_at "nb_ev"); (case h2 => walk_at "nb_isi"))
  | (refine' ev_isi2 ?h1 ?h2 ?h3; (case h1 => walk_at "nb_ev"); (case h2 => walk_at "nb_isi"); (case h3 => walk_at "nb_isi"))
  | (refine' ev_ii ?h1 ?h2; (case h1 => walk_at "nb_ev"); (case h2 => walk_at "nb_ev"))
  | (refine' ev_ib ?h1 ?h2; (case h1 => walk_at "nb_ev"); (case h2 => walk_at "nb_ev"))
  | (refine' ev_iiC ?h1 ?h2 ?h3; (case h1 => walk_at "nb_ev"); (case h2 => walk_at "nb_ev"); (case h3 => walk_at "nb_side"))
  | (refine' ev_eqI ?h1 ?h2; (case h1 => walk_at "nb_ev"); (case h2 => walk_at "nb_ev"))
  | (refine' ev_neI ?h1 ?h2; (case h1 => walk_at "nb_ev"); (case h2 => walk_at "nb_ev"))
  | (refine' ev_eqS ?h1 ?h2; (case h1 => walk_at "nb_ev"); (case h2 => walk_at "nb_ev"))
  | (refine' ev_neS ?h1 ?h2; (case h1 => walk_at "nb_ev"); (case h2 => walk_at "nb_ev"))
  | (refine' ev_neg ?h1; (case h1 => walk_at "nb_ev"))
  | (refine' ev_andV ?h1 (fun _ => ?h2); (case h1 => walk_at "nb_ev"); (case h2 => walk_at "nb_ev"))
  | (refine' ev_orV ?h1 (fun _ => ?h2); (case h1 => walk_at "nb_ev"); (case h2 => walk_at "nb_ev"))
  | (refine' ev_notV ?h1; (case h1 => walk_at "nb_ev"))
  | walk_at "nb_call")
local macro_rules | `(tactic| walk_at "nb") => `(tactic| (refine' Ev.is ?h ?e; (case h => walk_at "nb_ev"); (try rfl)))
local macro_rules | `(tactic| walk_at "nb_ea") => `(tactic| first | exact ea_nil | (refine' ea_cons ?h1 ?h2; (case h1 => walk_at "nb_ev"); (case h2 => walk_at "nb_ea")))
abbrev s_Size_init : Stmt := inClass (top 4) 0
theorem szT : NbX.SzT s_Size_init "InvalidSize.__init__" where
  body := ⟨_, _, _, _, _, _, _, _, _, _, _, rfl, fun env => ⟨_, rfl⟩⟩
  args := ⟨_, _, rfl⟩
  bind := fun _ _ _ _ _ _ _ _ _ => rfl
  s1 := rfl
  s2 := rfl
  s3 := rfl
  s4 := rfl
  s5 := by decide
  s6 := rfl
  s7 := rfl
  s8 := rfl
abbrev szC (K : Kx) : Addr := He.ga K "InvalidSize"
structure SzM (P : Program) (K : Kx) (mg : Str → Option Value) : Prop where
  at_ : mg "InvalidSize" = some (.ref (szC K))
  sz : NbX.SzK P K (szC K) (He.ma K (szC K) "__init__") "InvalidSize.__init__" s_Size_init
  xf : XfC K (szC K)
  exm : PySem.W.exmOne K (.ref (szC K)) (.ref (szC K)) = some true
/-- it raises InvalidSize; the word is wd a -/
def spX {α : Type} (K : Kx) (enc : α → List Da) (pre : Wd → α → Prop) (wd : α → Str) : Sp := fun vs H _ E => ∃ w G a, At K w G H ∧ DrAll K G vs (enc a) ∧ pre w a ∧ ∀ dx G1 H1, Ex G G1 → At K w G1 H1 → G1 dx = some (.xd [("word", .str (wd a))]) → E (.ref (szC K)) (some dx) H1
def OkE (P : Program) (w0 : World) (K : Kx) (mg : Str → Option Value) (base : Heap) (k : Nat) (x : Str) (ps : List Str) (sp : Sp) : Prop :=
  mg x = some (.ref (He.ga K x)) ∧ PySem.W.keepIn K (.ref (He.ga K x)) = true ∧ ∃ fd, FnOk P w0 K mg base (L2.CX P w0) k (He.ga K x) fd ps sp ∧ Binds K fd ps []
theorem fn_okE {P : Program} {w0 : World} {K : Kx} {mg : Str → Option Value} {base : Heap} {x : Str} {st : Stmt} {N ps : List Str} {k : Nat} {sp : Sp} (F : Df K mg x st) (S : FnScope N ps (defScope st)) (len : ∀ vs H Q E, sp vs H Q E → vs.length = ps.length)
    (hb : ∀ (kV doc pm : Value) (an : Option Addr) (cdv ct : Value) (us : List Value), us.length = ps.length → bindArgs (PySem.W.fnOf x x (defArgs st) (defBody st) (defScope st) .none kV doc pm an cdv ct) ⟨us, []⟩ = pure (ps.zip us))
    (body : ∀ (f : Addr) (cdv : Value) (A : Around) (outer : List Env) (s : Shared) (H : Hp) (E : XK), Room k (A.deeper (PyProof.Rows.envOfC x (defScope st) s.heap.objs.size f cdv)) →
      ∃ t, PSs (cxOf (L2.CX P w0) P w0 K mg base N x (defScope st) f cdv A outer s H E) (defBody st) t ∧ ∀ vs Q, sp vs H Q E → t { nx := fun _ H' => Q .non H', rt := Q } (start N vs) H) : OkE P w0 K mg base (k + 1) x ps sp := by
  obtain ⟨fd, FD⟩ := F.fn
  refine ⟨F.at_, FD.kp, fd, FunD.ok FD S len (fun cdv A outer s H vs Q E hr h => ?_), FD.bindsN hb⟩
  obtain ⟨t, ht, hrun⟩ := body (He.ga K x) cdv A outer s H E hr
  exact ⟨t, ht, hrun vs Q h⟩
section
variable {K : Kx} {b : Hp} {w : Wd} {D : Ends} {tr ts : TS} {ta : TA} {δ : Ds}
theorem run_raise {W : WX} {z : Str} (h : EvA1 K w ta δ [.d (.str z)]) (k : ∀ dx G1 H1 σ1, Ex b G1 → At K w G1 H1 → G1 dx = some (.xd [("word", .str z)]) → W (.ref (szC K)) (some dx) σ1 H1) :
    Run K b w D (tSeq (tSeq (fun _ σ H => NbX.tSz (szC K) ta σ H fun cls d H' => W cls d σ H') ts) tr) δ := fun σ G H e s a =>
  h σ G H s a _ fun vs G1 H1 d e1 a1 r1 h1 => by
    subst h1
    obtain ⟨v, ev, rv⟩ := drAll1 r1
    subst ev
    cases (show Dp K G1 v (.str z) from rv)
    exact ⟨z, rfl, fun dx hdx => k dx (upd G1 dx (.xd [("word", .str z)])) _ σ (Evl.Ex.trans e (Evl.Ex.trans e1 (ex_upd (a1.freeG hdx)))) (a1.new hdx) upd_same⟩
theorem run_dropX {α : Type} {enc : α → List Da} {pre : Wd → α → Prop} {wd : α → Str} {E : XK} (a : α) (h : EvA1 K w ta δ (enc a)) (hp : pre w a) (k : ∀ dx G1 H1, Ex b G1 → At K w G1 H1 → G1 dx = some (.xd [("word", .str (wd a))]) → E (.ref (szC K)) (some dx) H1) :
    Run K b w D (tSeq (tDrop (tCall (spX K enc pre wd) [] E ta)) tr) δ := fun σ G H e s a0 =>
  h σ G H s a0 _ fun vs G1 H1 d e1 a1 r1 h1 => by
    subst h1
    rw [List.append_nil]
    exact ⟨w, G1, a, a1, r1, hp, fun dx G2 H2 e2 a2 hd => k dx G2 H2 (Evl.Ex.trans e (Evl.Ex.trans e1 e2)) a2 hd⟩
end
def tNevS : TS := fun _ _ _ => False
theorem pss_nev {X : Cx} {l : List Stmt} : PSs X l tNevS := ⟨fun _ _ _ _ _ _ h => h.elim⟩
abbrev OKE_need_between (P : Program) (w0 : World) (K : Kx) (mg : Str → Option Value) (base : Heap) : Prop := OkE P w0 K mg base 2 "need_between" ["value", "least", "most", "word"] (spX K (fun (p : (Int × Int) × (Int × Str)) => [.d (.int p.1.1), .d (.int p.1.2), .d (.int p.2.1), .d (.str p.2.2)]) (fun _ p => ¬(p.1.2 ≤ p.1.1 ∧ p.1.1 ≤ p.2.1)) (fun p => p.2.2))
theorem okE_need_between {P : Program} {w0 : World} {K : Kx} {mg : Str → Option Value} {base : Heap} (T : Tx K mg) (Z : SzM P K mg) (h_is_integer : OK_is_integer P w0 K mg base) : OKE_need_between P w0 K mg base := by
  refine fn_okE T.d_need_between sc_need_between (fun vs H Q E h => by obtain ⟨w, G, a, _, r, _⟩ := h; have := Paired.length r; exact this) bi_need_between fun f cdv A outer s H E hr => ⟨_, (pss_one (ps_if (PW.pt (pw_or (pt_not (pt_val (pe_f h_is_integer hr (pa_cons (pv 0) pa_nil)))) (pw_or1 (pt_not (pt_chain op_le op_le (pv 1) (pv 0) (pv 2)))))) (pss_one (ps_raise rfl (takes_of rfl rfl rfl rfl) (NbX.pmk_size (k := 0) Z.sz szT hr rfl Z.at_ (pa_cons (pv 3) pa_nil)))) pss_nil)), ?_⟩
  rintro vs Q ⟨w, G, ⟨⟨i, lo⟩, ⟨hi, z⟩⟩, at_, r, hp, q⟩
  suffices Run K G w { nx := fun _ H' => Q .non H', rt := Q } _ (startD N_need_between [.d (.int i), .d (.int lo), .d (.int hi), .d (.str z)]) from this _ G H (Evl.Ex.refl G) (sl_start r) at_
  have hp : ¬(lo ≤ i ∧ i ≤ hi) := hp
  refine run_tail (run_ifT ?_ (run_raise (ts := tNext) (W := fun cls d _ H => E cls d H) (z := z) (ea_cons (ev_var rfl) ea_nil) fun dx G1 H1 σ1 e a hd => q dx G1 H1 e a hd))
  refine EvT.is (et_or (b := false) (c := true) (EvT.is (et_not (et_B1 (b := true) (ev_call1 i (by walk_at "nb_ea") trivial fun z e => e))) rfl) fun _ => ?_) rfl
  refine EvT.is (et_not (et_test1 (b := decide (lo ≤ i) && decide (i ≤ hi)) (ev_chain (ev_var rfl) (ev_var rfl) (od_ib (f := fun a b => decide (a ≤ b))) (fun _ => ev_var rfl) fun _ => od_ib (f := fun a b => decide (a ≤ b))))) ?_
  by_cases h1 : lo ≤ i
  · have h2 : ¬ i ≤ hi := fun h => hp ⟨h1, h⟩
    rw [decide_eq_true h1, decide_eq_false h2]
    rfl
  · rw [decide_eq_false h1]
    rfl
abbrev OKE_made_tables (P : Program) (w0 : World) (K : Kx) (mg : Str → Option Value) (base : Heap) : Prop := OkE P w0 K mg base 3 "made_tables" ["make", "many"] (spX K (fun (p : PyData × Int) => [.mk p.1, .d (.int p.2)]) (fun _ p => ¬(1 ≤ p.2 ∧ p.2 ≤ 2)) (fun _ => "many"))
theorem okE_made_tables {P : Program} {w0 : World} {K : Kx} {mg : Str → Option Value} {base : Heap} (T : Tx K mg) (h_need_between : OKE_need_between P w0 K mg base) : OKE_made_tables P w0 K mg base := by
  obtain ⟨g1, g2, fd, F, B⟩ := h_need_between
  refine fn_okE (k := 2) T.d_made_tables sc_made_tables (fun vs H Q E h => by obtain ⟨w, G, a, _, r, _⟩ := h; have := Paired.length r; exact this) bi_made_tables fun f cdv A outer s H E hr => ⟨_, (pss_cons (ps_expr (pe_call F hr rfl g1 g2 B .nil (passes_call (takes_of rfl rfl rfl rfl) (fun _ _ _ _ h => h)) (pa_cons (pv 1) (pa_cons pe_int (pa_cons pe_int (pa_cons pe_str pa_nil)))))) pss_nev), ?_⟩
  rintro vs Q ⟨w, G, ⟨gs, i⟩, at_, r, hp, q⟩
  suffices Run K G w { nx := fun _ H' => Q .non H', rt := Q } _ (startD N_made_tables [.mk gs, .d (.int i)]) from this _ G H (Evl.Ex.refl G) (sl_start r) at_
  exact run_dropX ((i, 1), (2, "many")) (by walk_at "nb_ea") hp fun dx G1 H1 e a hd => q dx G1 H1 e a hd
end Nb
end
section
set_option Elab.async false
set_option linter.all false
set_option maxRecDepth 100000
set_option maxHeartbeats 4000000
/-! _law_size: it calls what it got, takes InvalidSize, gives its word. -/
namespace Nb
open PySem L2
local macro_rules | `(tactic| walk_at "nb_isi") => `(tactic| first | exact isi_ii | exact isi_ib | exact isi_ss | exact isi_tt | exact isi_ll | exact isi_lt)
local macro_rules | `(tactic| walk_at "nb_side") => `(tactic| first | assumption | (show CMul _ _; first | exact Or.inr ⟨by decide, by decide⟩ | exact Or.inl ⟨by decide, by decide⟩ | exact Or.inr ⟨by omega, by omega⟩ | exact Or.inl ⟨by omega, by omega⟩) | (show CDiv _ _; exact ⟨by omega, by omega⟩) | (show CPow _ _; exact ⟨by omega, by omega, by omega⟩) | decide | omega | rfl)
local macro_rules | `(tactic| walk_at "nb_ev") => `(tactic| first
  | exact ev_var rfl
  | exact ev_int
  | exact ev_str
  | exact ev_bl
  | exact ev_non
  | (refine' ev_isi ?h1 ?h2; (case h1 => walk_at "nb_ev"); (case h2 => walk_at "nb_isi"))
  | (refine' ev_isi2 ?h1 ?h2 ?h3; (case h1 => walk_at "nb_ev"); (case h2 => walk_at "nb_isi"); (case h3 => walk_at "nb_isi"))
  | (refine' ev_ii ?h1 ?h2; (case h1 => walk_at "nb_ev"); (case h2 => walk_at "nb_ev"))
  | (refine' ev_ib ?h1 ?h2; (case h1 => walk_at "nb_ev"); (case h2 => walk_at "nb_ev"))
  | (refine' ev_iiC ?h1 ?h2 ?h3; (case h1 => walk_at "nb_ev"); (case h2 => walk_at "nb_ev"); (case h3 => walk_at "nb_side"))
  | (refine' ev_eqI ?h1 ?h2; (case h1 => walk_at "nb_ev"); (case h2 => walk_at "nb_ev"))
  | (refine' ev_neI ?h1 ?h2; (case h1 => walk_at "nb_ev"); (case h2 => walk_at "nb_ev"))
  | (refine' ev_eqS ?h1 ?h2; (case h1 => walk_at "nb_ev"); (case h2 => walk_at "nb_ev"))
  | (refine' ev_neS ?h1 ?h2; (case h1 => walk_at "nb_ev"); (case h2 => walk_at "nb_ev"))
  | (refine' ev_neg ?h1; (case h1 => walk_at "nb_ev"))
  | (refine' ev_andV ?h1 (fun _ => ?h2); (case h1 => walk_at "nb_ev"); (case h2 => walk_at "nb_ev"))
  | (refine' ev_orV ?h1 (fun _ => ?h2); (case h1 => walk_at "nb_ev"); (case h2 => walk_at "nb_ev"))
  | (refine' ev_notV ?h1; (case h1 => walk_at "nb_ev"))
  | walk_at "nb_call")
local macro_rules | `(tactic| walk_at "nb") => `(tactic| (refine' Ev.is ?h ?e; (case h => walk_at "nb_ev"); (try rfl)))
local macro_rules | `(tactic| walk_at "nb_ea") => `(tactic| first | exact ea_nil | (refine' ea_cons ?h1 ?h2; (case h1 => walk_at "nb_ev"); (case h2 => walk_at "nb_ea")))
theorem takes_len {X : Cx} {W : WX} {n : Nat} (hn : X.N.length = n) (tk : Takes X W) : Takes X (fun c d σ H => σ.length = n → W c d σ H) := fun u s' ⟨a, B, sI, pins, σ, H, cls, d, e, I, nb, up, sky, na, os, ag, w⟩ =>
  tk u s' ⟨a, B, sI, pins, σ, H, cls, d, e, I, nb, up, sky, na, os, ag, w (I.len.trans hn)⟩
/-- the lambda's reading tl raises InvalidSize with a word; the word comes back -/
def TTw (K : Kx) : (XK → Hp → VK → Prop) → Hp → VK → Prop := fun tl H Q => tl (fun cls d H' => cls = .ref (szC K) ∧ ∃ dd z, d = some dd ∧ H' dd = some (.xd [("word", .str z)]) ∧ Q (.str z) H') H (fun _ H1 => Q .non H1)
theorem size_gives {X : Cx} {g : Addr} {cdg : Value} {q : Str} (Z : SzM X.prog X.K X.mg) : LamX.GivesTo X N_law_size "_law_size" (defScope s_law_size) g cdg (defBody s_law_size) "_law_work" q (TTw X.K) := by
  intro f c' s H Q tl act hc h
  refine ⟨_, pss_cons (ps_try_as (X := (cxOf C8.CX0 X.prog X.w X.K X.mg X.base N_law_size "_law_size" (defScope s_law_size) g cdg X.A X.stack s H C8.E0).nox) (c := .ref (szC X.K)) (i := 1) (n := "wrong") (Wout := fun _ _ _ _ => False)
    (tb := fun W D σ H => ∃ Ech : XK, (∀ cls d σ' H', σ'.length = 2 → Ech cls d H' → W cls d σ' H') ∧ σ[0]? = some (some (.ref f)) ∧ H c' = some (LamX.CodeO c' q) ∧ tl Ech H (fun _ H1 => D.nx σ H1))
    (ts := fun a cls d => tSeq (tRet (tXf a cls d (szC X.K) "word" (tVar 1))) tNext)
    rfl rfl sc_law_size.nd rfl rfl ⟨rfl, by decide, .inl Z.at_⟩ LamX.takes0 (fun W pn xe tk _ => ?_) (fun a oe cls d pn hz hd => pss_one (ps_ret (pe_xf Z.xf Z.sz.nw hz hd (pe_var rfl (.inl rfl))))))
    (pss_one (ps_ret pe_non)), ?_⟩
  · refine ⟨fun pins s' σ H' D I h' => ?_⟩
    obtain ⟨Ech, hW, h1, h2, h3⟩ := h'
    have hp := act (fun c d σ H => σ.length = 2 → W c d σ H) pn xe Ech ⟨300, 8, 300, 17⟩ ⟨300, 8, 300, 19⟩ (takes_len rfl tk) (fun cls d σ' H' e hl => hW cls d σ' H' hl e)
    have hq := pss_one (ps_expr (pos := ⟨300, 8, 300, 19⟩) hp)
    exact hq.run pins s' σ H' D I ⟨h1, h2, h3⟩
  · refine ⟨fun cls d H' => cls = .ref (szC X.K) ∧ ∃ dd z, d = some dd ∧ H' dd = some (.xd [("word", .str z)]) ∧ Q (.str z) H', fun cls d σ' H' hl ⟨e1, dd, z, e2, e3, e4⟩ => ⟨true, by rw [e1]; exact Z.exm, fun _ a na => ?_, fun hb => nomatch hb⟩, rfl, hc, h⟩
    refine ⟨.ref a, List.getElem?_set_self (by rw [hl]; decide), rfl, e1, dd, _, _, e2, e3, rfl, e4⟩
end Nb
end
section
set_option Elab.async false
set_option linter.all false
set_option maxRecDepth 100000
set_option maxHeartbeats 4000000
/-! sum, min, max of a tuple of ints. -/
namespace NbS
open PySem PySem.Spec PyProof.Rows L2
section
variable {prog : Program} {w : World} {A : Around} {E : Value → Shared → Prop} {s : Shared} {l : Addr} {its : List Value} {ns : List Int} {Q : Value → Shared → Prop} {xs : Array (Int × Tok)}
theorem old_kept {h' : Heap} (hk : ∀ b o, b ∉ [s.heap.objs.size] → (s.heap.push { cls := .type "tuple_iterator", data := .fields #[.ref l, .int 0 0] }).get? b = some o → h'.get? b = some o) :
    ∀ b o, s.heap.get? b = some o → h'.get? b = some o := fun b o e => by
  refine hk b o (fun hm => ?_) (Heap.get?_push_of_some _ e)
  rcases List.mem_cons.mp hm with e1 | hm
  · exact absurd (e1 ▸ Heap.lt_size e) (Nat.lt_irrefl _)
  · cases hm
theorem max_intTup (hh : A.handled = none) (hl : s.heap.IsTuple l (intItems xs)) (hne : 0 < xs.size)
    (h : ∀ v h' tk, (intItems xs)[argBest (fun i j => decide (numAt xs i > numAt xs j)) (xs.size - 1)]? = some v → (∀ b o, s.heap.get? b = some o → h'.get? b = some o) → Q v { s with heap := h', toks := tk }) :
    wpAny (model prog w) A (call (.builtin "max") [.ref l]) Q E s := by
  obtain ⟨o, ho, hc, n, hd⟩ := id hl
  have hn : l ≠ s.heap.objs.size := Nat.ne_of_lt (Heap.lt_size ho)
  refine call_max_walk (wpAny_pyIter_tuple hl ?_)
  refine ⟨_, [s.heap.objs.size, l], [s.heap.objs.size], _, _, _, _, rfl, Walks.tuple (A := A.in1) hh _ l hn (intItems xs), ⟨⟨_, Heap.get?_push_size _ rfl, rfl, rfl⟩, hl.at fun o e => Heap.get?_push_of_some _ e⟩, fun b hb => ?_, by simpa [intItems] using hne, CmpOf.ints_gt (numAt xs) (fun _ _ => intItems_at), fun v h' tk hP hk => ?_⟩
  · rcases List.mem_cons.mp hb with rfl | hb
    · exact Heap.lt_size (Heap.get?_push_size _ rfl)
    · obtain rfl := List.mem_singleton.mp hb
      exact Heap.lt_size (Heap.get?_push_of_some _ ho)
  · exact h v h' tk (by simpa [intItems] using hP) (old_kept hk)
theorem min_intTup (hh : A.handled = none) (hl : s.heap.IsTuple l (intItems xs)) (hne : 0 < xs.size)
    (h : ∀ v h' tk, (intItems xs)[argBest (fun i j => decide (numAt xs i < numAt xs j)) (xs.size - 1)]? = some v → (∀ b o, s.heap.get? b = some o → h'.get? b = some o) → Q v { s with heap := h', toks := tk }) :
    wpAny (model prog w) A (call (.builtin "min") [.ref l]) Q E s := by
  obtain ⟨o, ho, hc, n, hd⟩ := id hl
  have hn : l ≠ s.heap.objs.size := Nat.ne_of_lt (Heap.lt_size ho)
  refine call_min_walk (wpAny_pyIter_tuple hl ?_)
  refine ⟨_, [s.heap.objs.size, l], [s.heap.objs.size], _, _, _, _, rfl, Walks.tuple (A := A.in1) hh _ l hn (intItems xs), ⟨⟨_, Heap.get?_push_size _ rfl, rfl, rfl⟩, hl.at fun o e => Heap.get?_push_of_some _ e⟩, fun b hb => ?_, by simpa [intItems] using hne, CmpOf.ints_lt (numAt xs) (fun _ _ => intItems_at), fun v h' tk hP hk => ?_⟩
  · rcases List.mem_cons.mp hb with rfl | hb
    · exact Heap.lt_size (Heap.get?_push_size _ rfl)
    · obtain rfl := List.mem_singleton.mp hb
      exact Heap.lt_size (Heap.get?_push_of_some _ ho)
  · exact h v h' tk (by simpa [intItems] using hP) (old_kept hk)
theorem sum_raw (hh : A.handled = none) (hl : s.heap.IsTuple l its.toArray) (hi : IntsAre its ns)
    (h : ∀ h' tk t', (∀ b o, s.heap.get? b = some o → h'.get? b = some o) → Q (.int ns.sum t') { s with heap := h', toks := tk }) : wpAny (model prog w) A (call (.builtin "sum") [.ref l]) Q E s := by
  obtain ⟨xs, e⟩ := hi.allInts.items
  have hn : numsOf (intItems xs).toList = ns := by rw [← e]; exact hi.numsOf
  rw [nums_intItems] at hn
  rw [e] at hl
  refine PySem.W.ktm_sumG hh hl fun h' tk t' hk => ?_
  have := h h' tk t' hk
  rw [preSum_eq, List.take_of_length_le (by simp), hn]; exact this
theorem max_raw (hh : A.handled = none) (hl : s.heap.IsTuple l its.toArray) (hi : IntsAre its ns) (hne : 0 < ns.length)
    (h : ∀ h' tk M t', (∀ b o, s.heap.get? b = some o → h'.get? b = some o) → M ∈ ns → (∀ a, a ∈ ns → a ≤ M) → Q (.int M t') { s with heap := h', toks := tk }) : wpAny (model prog w) A (call (.builtin "max") [.ref l]) Q E s := by
  obtain ⟨xs, e⟩ := hi.allInts.items
  have hn : numsOf (intItems xs).toList = ns := by rw [← e]; exact hi.numsOf
  rw [nums_intItems] at hn
  subst hn
  rw [e] at hl
  have hsz : 0 < xs.size := by simpa using hne
  refine max_intTup hh hl hsz fun v h' tk hv hk => ?_
  obtain ⟨t, rfl⟩ := intItems_at hv
  obtain ⟨h1, h2⟩ := argBest_gt (numAt xs) (xs.size - 1)
  refine h h' tk _ t hk ?_ fun a ha => ?_
  · rw [numAt_eq]; exact PySem.getD_mem (by rw [List.length_map, Array.length_toList]; omega)
  · obtain ⟨j, hj, rfl⟩ := mem_getD ha
    rw [List.length_map, Array.length_toList] at hj
    rw [← numAt_eq]; exact h2 j (by omega)
theorem min_raw (hh : A.handled = none) (hl : s.heap.IsTuple l its.toArray) (hi : IntsAre its ns) (hne : 0 < ns.length)
    (h : ∀ h' tk M t', (∀ b o, s.heap.get? b = some o → h'.get? b = some o) → M ∈ ns → (∀ a, a ∈ ns → M ≤ a) → Q (.int M t') { s with heap := h', toks := tk }) : wpAny (model prog w) A (call (.builtin "min") [.ref l]) Q E s := by
  obtain ⟨xs, e⟩ := hi.allInts.items
  have hn : numsOf (intItems xs).toList = ns := by rw [← e]; exact hi.numsOf
  rw [nums_intItems] at hn
  subst hn
  rw [e] at hl
  have hsz : 0 < xs.size := by simpa using hne
  refine min_intTup hh hl hsz fun v h' tk hv hk => ?_
  obtain ⟨t, rfl⟩ := intItems_at hv
  obtain ⟨h1, h2⟩ := argBest_lt (numAt xs) (xs.size - 1)
  refine h h' tk _ t hk ?_ fun a ha => ?_
  · rw [numAt_eq]; exact PySem.getD_mem (by rw [List.length_map, Array.length_toList]; omega)
  · obtain ⟨j, hj, rfl⟩ := mem_getD ha
    rw [List.length_map, Array.length_toList] at hj
    rw [← numAt_eq]; exact h2 j (by omega)
end
section
variable {X : Cx}
def rSumT (K : PySem.W.Frag) : List V → Hp → VK → Prop := fun vs H Q => ∃ (a : Addr) (ns : List Int), vs = [V.ref a] ∧ SqT K H a (ns.map V.int) ∧ Q (.int ns.sum) H
def rMaxT (K : PySem.W.Frag) : List V → Hp → VK → Prop := fun vs H Q => ∃ (a : Addr) (ns : List Int), vs = [V.ref a] ∧ SqT K H a (ns.map V.int) ∧ 0 < ns.length ∧ ∀ m, m ∈ ns → (∀ y, y ∈ ns → y ≤ m) → Q (.int m) H
def rMinT (K : PySem.W.Frag) : List V → Hp → VK → Prop := fun vs H Q => ∃ (a : Addr) (ns : List Int), vs = [V.ref a] ∧ SqT K H a (ns.map V.int) ∧ 0 < ns.length ∧ ∀ m, m ∈ ns → (∀ y, y ∈ ns → m ≤ y) → Q (.int m) H
theorem cr_sumT (hc : X.calm = true) : CallR X (.builtin "sum") (rSumT X.K) := by
  intro pins s σ H vs us Q I r h
  obtain ⟨a, ns, rfl, hs, q⟩ := h
  obtain ⟨its, rv, hl, _⟩ := I.tuple hs
  rw [Vals.ref1 r]
  exact sum_raw (I.ok.hd hc) hl rv.ints fun h' tk t' hk => ⟨.int _, H, I.kept hk, ⟨_, rfl⟩, q⟩
theorem cr_maxT (hc : X.calm = true) : CallR X (.builtin "max") (rMaxT X.K) := by
  intro pins s σ H vs us Q I r h
  obtain ⟨a, ns, rfl, hs, hne, q⟩ := h
  obtain ⟨its, rv, hl, _⟩ := I.tuple hs
  rw [Vals.ref1 r]
  exact max_raw (I.ok.hd hc) hl rv.ints hne fun h' tk m t' hk h1 h2 => ⟨.int _, H, I.kept hk, ⟨_, rfl⟩, q m h1 h2⟩
theorem cr_minT (hc : X.calm = true) : CallR X (.builtin "min") (rMinT X.K) := by
  intro pins s σ H vs us Q I r h
  obtain ⟨a, ns, rfl, hs, hne, q⟩ := h
  obtain ⟨its, rv, hl, _⟩ := I.tuple hs
  rw [Vals.ref1 r]
  exact min_raw (I.ok.hd hc) hl rv.ints hne fun h' tk m t' hk h1 h2 => ⟨.int _, H, I.kept hk, ⟨_, rfl⟩, q m h1 h2⟩
end
end NbS
end
section
set_option Elab.async false
set_option linter.all false
set_option maxRecDepth 100000
set_option maxHeartbeats 4000000
/-! The drawing state: told, untold, read, written. sum, min, max of tuples. -/
namespace Nb
open PySem L2
abbrev Wd.rd (w : Wd) (r : Rn) : Wd := ⟨w.fix, some r⟩
/-- the drawing state as it may be -/
structure RnOk (z : Int) (cs : List Int) : Prop where
  z0 : 0 ≤ z
  z1 : z < 2147483647
  c0 : ∀ c ∈ cs, 0 ≤ c
  len : cs.length ≤ 63
section
variable {K : Kx} {w : Wd} {G H : Hp} {hh l : Addr} {z : Int} {cs : List Int}
theorem At.known (a : At K (w.rd ⟨hh, l, some (z, cs)⟩) G H) : H hh = some (.lst [.ref l, .int z]) ∧ H l = some (.lst (cs.map V.int)) ∧ RnOk z cs ∧ hh ≠ l := by
  obtain ⟨_, _, n, _, _, z', cs', h1, h2, hk, p1, p2, p3, p4⟩ := a.rn _ rfl
  have e := hk _ rfl
  injection e with e1 e2
  subst e1 e2
  exact ⟨h1, h2, ⟨p1, p2, p3, p4⟩, n⟩
theorem At.know (a : At K w G H) (hw : w.rnd = some ⟨hh, l, none⟩) : ∃ z cs, RnOk z cs ∧ At K (w.rd ⟨hh, l, some (z, cs)⟩) G H := by
  obtain ⟨_, _, n, _, _, z, cs, h1, h2, hk, p1, p2, p3, p4⟩ := a.rn _ hw
  exact ⟨z, cs, ⟨p1, p2, p3, p4⟩, a.rset (q' := ⟨hh, l, some (z, cs)⟩) hw rfl rfl (fun _ _ _ => rfl) ⟨z, cs, h1, h2, fun k e => (Option.some.inj e).symm, p1, p2, p3, p4⟩⟩
theorem At.forget (a : At K (w.rd ⟨hh, l, some (z, cs)⟩) G H) (hw : w.rnd = some ⟨hh, l, none⟩) : At K w G H := by
  obtain ⟨_, _, n, _, _, z', cs', h1, h2, hk, p⟩ := a.rn _ rfl
  have := a.rset (q' := ⟨hh, l, none⟩) rfl rfl rfl (H' := H) (fun _ _ _ => rfl) ⟨z', cs', h1, h2, fun k e => (nomatch e), p⟩
  cases w
  cases hw
  exact this
/-- what is written there -/
theorem At.rput {z' : Int} {cs' : List Int} {H' : Hp} (a : At K (w.rd ⟨hh, l, some (z, cs)⟩) G H) (h1 : H' hh = some (.lst [.ref l, .int z'])) (h2 : H' l = some (.lst (cs'.map V.int))) (k : ∀ b, b ≠ hh → b ≠ l → H' b = H b) (o : RnOk z' cs') : At K (w.rd ⟨hh, l, some (z', cs')⟩) G H' :=
  a.rset (q' := ⟨hh, l, some (z', cs')⟩) rfl rfl rfl k ⟨z', cs', h1, h2, fun k e => (Option.some.inj e).symm, o.z0, o.z1, o.c0, o.len⟩
end
section
variable {K : Kx} {b : Hp} {w : Wd} {D : Ends} {te ta tb to ti : TE} {tr ts : TS} {δ : Ds} {hh l : Addr} {z : Int} {cs : List Int} {R : Da → Prop} {i : Nat}
theorem run_know (hw : w.rnd = some ⟨hh, l, none⟩) (k : ∀ z cs, RnOk z cs → Run K b (w.rd ⟨hh, l, some (z, cs)⟩) D ts δ) : Run K b w D ts δ := fun σ G H e s a => by
  obtain ⟨z, cs, o, a2⟩ := a.know hw
  exact k z cs o σ G H e s a2
theorem RetO.forget (h : RetO K b w D R) (hw : w.rnd = some ⟨hh, l, none⟩) : RetO K b (w.rd ⟨hh, l, some (z, cs)⟩) D R := fun v G H d e a => h v G H d e (a.forget hw)
theorem ev_r0 (h1 : Ev1 K (w.rd ⟨hh, l, some (z, cs)⟩) ta δ (.ob hh)) (h2 : Ev1 K (w.rd ⟨hh, l, some (z, cs)⟩) tb δ (.d (.int 0))) : Ev1 K (w.rd ⟨hh, l, some (z, cs)⟩) (tOp (rIxL K) ta tb) δ (.ob l) := ev_op1 h1 h2 fun v u G H hv hu a Q q => by
  have ev : v = .ref hh := hv
  subst ev
  cases (show Dp K G u (.int 0) from hu)
  obtain ⟨k1, k2, o, n⟩ := a.known
  exact ⟨hh, _, 0, .ref l, rfl, rfl, SqL.of k1, rfl, q _ G H (.ob l) (Evl.Ex.refl G) a rfl rfl⟩
theorem ev_r1 (h1 : Ev1 K (w.rd ⟨hh, l, some (z, cs)⟩) ta δ (.ob hh)) (h2 : Ev1 K (w.rd ⟨hh, l, some (z, cs)⟩) tb δ (.d (.int 1))) : Ev1 K (w.rd ⟨hh, l, some (z, cs)⟩) (tOp (rIxL K) ta tb) δ (.d (.int z)) := ev_op1 h1 h2 fun v u G H hv hu a Q q => by
  have ev : v = .ref hh := hv
  subst ev
  cases (show Dp K G u (.int 1) from hu)
  obtain ⟨k1, k2, o, n⟩ := a.known
  exact ⟨hh, _, 1, .int z, rfl, rfl, SqL.of k1, rfl, q _ G H (.d (.int z)) (Evl.Ex.refl G) a (Dp.int z) rfl⟩
theorem ev_rl {j : Int} {c : Int} (h1 : Ev1 K (w.rd ⟨hh, l, some (z, cs)⟩) ta δ (.ob l)) (h2 : Ev1 K (w.rd ⟨hh, l, some (z, cs)⟩) tb δ (.d (.int j))) (e : atI (cs.map V.int) j = some (.int c)) : Ev1 K (w.rd ⟨hh, l, some (z, cs)⟩) (tOp (rIxL K) ta tb) δ (.d (.int c)) := ev_op1 h1 h2 fun v u G H hv hu a Q q => by
  have ev : v = .ref l := hv
  subst ev
  cases (show Dp K G u (.int j) from hu)
  obtain ⟨k1, k2, o, n⟩ := a.known
  exact ⟨l, _, j, .int c, rfl, rfl, SqL.of k2, e, q _ G H (.d (.int c)) (Evl.Ex.refl G) a (Dp.int c) rfl⟩
theorem lay_ints' : ∀ ns : List Int, PyData.canLayAll0 (ns.map PyData.int) = true
  | [] => by simp [PyData.canLayAll0]
  | n :: ns => by simp [PyData.canLayAll0, PyData.canLay0, lay_ints' ns]
theorem ev_rne (h1 : Ev1 K (w.rd ⟨hh, l, some (z, cs)⟩) ta δ (.ob l)) (h2 : Ev1 K (w.rd ⟨hh, l, some (z, cs)⟩) tb δ (.d (.list []))) : Ev1 K (w.rd ⟨hh, l, some (z, cs)⟩) (tOp (rNeD K) ta tb) δ (.d (.bool (!decide (cs = [])))) := ev_op1 h1 h2 fun v u G H hv hu a Q q => by
  have ev : v = .ref l := hv
  subst ev
  obtain ⟨k1, k2, o, n⟩ := a.known
  refine ⟨.list (cs.map PyData.int), .list [], .lst (SqL.of k2) (dpAll_ints cs), dp_ex a.ex _ _ hu, shaped_iL cs, shaped_iL [], q _ G H (.d (.bool (!decide (cs = [])))) (Evl.Ex.refl G) a (show Dp K G _ (.bool _) from ?_) rfl⟩
  have : PyData.eqv (.list (cs.map PyData.int)) (.list []) = decide (cs = []) := eqvAll_ints cs []
  rw [this]
  exact .bl _
theorem upd_ne' {H : Hp} {p q : Addr} {o : HO} (h : q ≠ p) : upd H p o q = H q := upd_ne h
theorem run_rpop {cs' : List Int} {c : Int} (h : Ev1 K (w.rd ⟨hh, l, some (z, cs)⟩) te δ (.ob l)) (e : cs = cs' ++ [c]) (k : Run K b (w.rd ⟨hh, l, some (z, cs')⟩) D tr δ) :
    Run K b (w.rd ⟨hh, l, some (z, cs)⟩) D (tSeq (tDrop (tBM0 K "list" rPop te)) tr) δ := fun σ G H e0 s a =>
  h σ G H s a _ fun v G1 H1 d e1 a1 r1 h1 => by
    subst h1
    have ev : v = .ref l := r1
    subst ev
    obtain ⟨k1, k2, o, n⟩ := a1.known
    have ee : cs.map V.int = cs'.map V.int ++ [V.int c] := by rw [e, List.map_append]; rfl
    refine ⟨.inl ⟨rfl, _, SqL.of k2⟩, l, _, .int c, rfl, rfl, k2, by rw [ee]; simp, ?_⟩
    rw [ee, List.dropLast_concat]
    refine k σ G1 _ (Evl.Ex.trans e0 e1) (s.ex e1) (a1.rput (by rw [upd_ne n]; exact k1) upd_same (fun q _ h2 => upd_ne h2) ⟨o.z0, o.z1, fun x hx => o.c0 x (by rw [e]; exact List.mem_append_left _ hx), ?_⟩)
    have := o.len
    rw [e, List.length_append] at this
    exact Nat.le_trans (Nat.le_add_right _ _) this
theorem run_rpopI {cs' : List Int} {c : Int} (h : Ev1 K (w.rd ⟨hh, l, some (z, cs)⟩) te δ (.ob l)) (e : cs = cs' ++ [c]) (k : Run K b (w.rd ⟨hh, l, some (z, cs')⟩) D tr (δ.set i (some (.d (.int c))))) :
    Run K b (w.rd ⟨hh, l, some (z, cs)⟩) D (tSeq (tAsg (tCB (fun xs H Q => (∃ i, xs = [V.int i] ∧ Q (.int i) H) ∨ ∃ k, xs = [V.bl k] ∧ Q (.int (if k then 1 else 0)) H) (tCons (tBM0 K "list" rPop te) tNil)) (gName i)) tr) δ := fun σ G H e0 s a =>
  h σ G H s a _ fun v G1 H1 d e1 a1 r1 h1 => by
    subst h1
    have ev : v = .ref l := r1
    subst ev
    obtain ⟨k1, k2, o, n⟩ := a1.known
    have ee : cs.map V.int = cs'.map V.int ++ [V.int c] := by rw [e, List.map_append]; rfl
    refine ⟨.inl ⟨rfl, _, SqL.of k2⟩, l, _, .int c, rfl, rfl, k2, by rw [ee]; simp, .inl ⟨c, rfl, ?_⟩⟩
    rw [ee, List.dropLast_concat]
    refine k _ G1 _ (Evl.Ex.trans e0 e1) ((s.ex e1).set i (show Dr K G1 _ (.d (.int c)) from Dp.int c)) (a1.rput (by rw [upd_ne n]; exact k1) upd_same (fun q _ h2 => upd_ne h2) ⟨o.z0, o.z1, fun x hx => o.c0 x (by rw [e]; exact List.mem_append_left _ hx), ?_⟩)
    have := o.len
    rw [e, List.length_append] at this
    exact Nat.le_trans (Nat.le_add_right _ _) this
theorem run_rapp {c : Int} (h : Ev1 K (w.rd ⟨hh, l, some (z, cs)⟩) to δ (.ob l)) (h2 : Ev1 K (w.rd ⟨hh, l, some (z, cs)⟩) te δ (.d (.int c))) (hc : 0 ≤ c) (hl : cs.length < 63) (k : Run K b (w.rd ⟨hh, l, some (z, cs ++ [c])⟩) D tr δ) :
    Run K b (w.rd ⟨hh, l, some (z, cs)⟩) D (tSeq (tDrop (tBM K "list" rAppend to (tCons te tNil))) tr) δ := fun σ G H e0 s a =>
  h σ G H s a _ fun v G1 H1 d e1 a1 r1 h1 => by
    subst h1
    have ev : v = .ref l := r1
    subst ev
    obtain ⟨k1, k2, o, n⟩ := a1.known
    refine ⟨.inl ⟨rfl, _, SqL.of k2⟩, h2 σ G1 H1 (s.ex e1) a1 _ fun u G2 H2 d2 e2 a2 r2 hh2 => ?_⟩
    subst hh2
    cases (show Dp K G2 u (.int c) from r2)
    obtain ⟨k3, k4, o, n⟩ := a2.known
    refine ⟨l, _, _, rfl, rfl, k4, Nat.lt_of_lt_of_le (by rw [List.length_map]; exact hl) (by decide), ?_⟩
    rw [show cs.map V.int ++ [V.int c] = (cs ++ [c]).map V.int by rw [List.map_append]; rfl]
    refine k σ G2 _ (Evl.Ex.trans e0 (Evl.Ex.trans e1 e2)) (s.ex (Evl.Ex.trans e1 e2)) (a2.rput (by rw [upd_ne n]; exact k3) upd_same (fun q _ h2 => upd_ne h2) ⟨o.z0, o.z1, fun x hx => ?_, by rw [List.length_append]; exact hl⟩)
    rcases List.mem_append.mp hx with hx | hx
    · exact o.c0 x hx
    · rw [List.mem_singleton.mp hx]
      exact hc
theorem run_rset {z' : Int} (h : Ev1 K (w.rd ⟨hh, l, some (z, cs)⟩) te δ (.d (.int z'))) (ho : Ev1 K (w.rd ⟨hh, l, some (z, cs)⟩) to δ (.ob hh)) (hi : Ev1 K (w.rd ⟨hh, l, some (z, cs)⟩) ti δ (.d (.int 1))) (h0 : 0 ≤ z') (h1 : z' < 2147483647) (k : Run K b (w.rd ⟨hh, l, some (z', cs)⟩) D tr δ) :
    Run K b (w.rd ⟨hh, l, some (z, cs)⟩) D (tSeq (tAsg te (gSub to ti rSetL)) tr) δ := fun σ G H e0 s a =>
  h σ G H s a _ fun v G1 H1 d e1 a1 r1 hh1 => ho σ G1 H1 (s.ex e1) a1 _ fun u G2 H2 d2 e2 a2 r2 hh2 => hi σ G2 H2 (s.ex (Evl.Ex.trans e1 e2)) a2 _ fun x G3 H3 d3 e3 a3 r3 hh3 => by
    subst hh1 hh2 hh3
    cases (show Dp K G1 v (.int z') from r1)
    cases (show Dp K G3 x (.int 1) from r3)
    have ev : u = .ref hh := r2
    subst ev
    obtain ⟨k1, k2, o, n⟩ := a3.known
    refine ⟨hh, _, 1, 1, rfl, rfl, k1, rfl, ?_⟩
    have e123 := Evl.Ex.trans (Evl.Ex.trans e1 e2) e3
    exact k σ G3 _ (Evl.Ex.trans e0 e123) (s.ex e123) (a3.rput upd_same (by rw [upd_ne n.symm]; exact k2) (fun q h1 _ => upd_ne h1) ⟨h0, h1, o.c0, o.len⟩)
end
section
variable {K : Kx} {w : Wd}
theorem ca_sumT {ns : List Int} : CaD K w (NbS.rSumT K) [.d (iT ns)] (fun z => z = .d (.int ns.sum)) := fun vs G H h a Q q => by
  obtain ⟨v, e, hv⟩ := drAll1 h
  subst e
  cases (show Dp K G v (.tuple _) from hv) with
  | tup h1 h2 =>
    rw [ints_dpAll h2] at h1
    exact ⟨_, ns, rfl, Evl.ex_t a.ex h1, q _ G H (.d (.int ns.sum)) (Evl.Ex.refl G) a (Dp.int _) rfl⟩
theorem ca_maxT {ns : List Int} (hn : 0 < ns.length) : CaD K w (NbS.rMaxT K) [.d (iT ns)] (fun z => ∃ m, z = .d (.int m) ∧ m ∈ ns ∧ ∀ y ∈ ns, y ≤ m) := fun vs G H h a Q q => by
  obtain ⟨v, e, hv⟩ := drAll1 h
  subst e
  cases (show Dp K G v (.tuple _) from hv) with
  | tup h1 h2 =>
    rw [ints_dpAll h2] at h1
    exact ⟨_, ns, rfl, Evl.ex_t a.ex h1, hn, fun m hm hy => q _ G H (.d (.int m)) (Evl.Ex.refl G) a (Dp.int _) ⟨m, rfl, hm, hy⟩⟩
theorem ca_minT {ns : List Int} (hn : 0 < ns.length) : CaD K w (NbS.rMinT K) [.d (iT ns)] (fun z => ∃ m, z = .d (.int m) ∧ m ∈ ns ∧ ∀ y ∈ ns, m ≤ y) := fun vs G H h a Q q => by
  obtain ⟨v, e, hv⟩ := drAll1 h
  subst e
  cases (show Dp K G v (.tuple _) from hv) with
  | tup h1 h2 =>
    rw [ints_dpAll h2] at h1
    exact ⟨_, ns, rfl, Evl.ex_t a.ex h1, hn, fun m hm hy => q _ G H (.d (.int m)) (Evl.Ex.refl G) a (Dp.int _) ⟨m, rfl, hm, hy⟩⟩
end
end Nb
end
section
set_option Elab.async false
set_option linter.all false
set_option maxRecDepth 100000
set_option maxHeartbeats 4000000
/-! law: drawing, rows, tables. -/
namespace Nb
open PySem L2
local macro_rules | `(tactic| walk_at "nb_isi") => `(tactic| first | exact isi_ii | exact isi_ib | exact isi_ss | exact isi_tt | exact isi_ll | exact isi_lt)
local macro_rules | `(tactic| walk_at "nb_side") => `(tactic| first | assumption | (show CMul _ _; first | exact Or.inr ⟨by decide, by decide⟩ | exact Or.inl ⟨by decide, by decide⟩ | exact Or.inr ⟨by omega, by omega⟩ | exact Or.inl ⟨by omega, by omega⟩) | (show CDiv _ _; exact ⟨by omega, by omega⟩) | (show CPow _ _; exact ⟨by omega, by omega, by omega⟩) | decide | omega | rfl)
local macro_rules | `(tactic| walk_at "nb_ev") => `(tactic| first
  | exact ev_var rfl
  | exact ev_int
  | exact ev_str
  | exact ev_bl
  | exact ev_non
  | (refine' ev_isi ?h1 ?h2; (case h1 => walk_at "nb_ev"); (case h2 => walk_at "nb_isi"))
  | (refine' ev_isi2 ?h1 ?h2 ?h3; (case h1 => walk_at "nb_ev"); (case h2 => walk_at "nb_isi"); (case h3 => walk_at "nb_isi"))
  | (refine' ev_ii ?h1 ?h2; (case h1 => walk_at "nb_ev"); (case h2 => walk_at "nb_ev"))
  | (refine' ev_ib ?h1 ?h2; (case h1 => walk_at "nb_ev"); (case h2 => walk_at "nb_ev"))
  | (refine' ev_iiC ?h1 ?h2 ?h3; (case h1 => walk_at "nb_ev"); (case h2 => walk_at "nb_ev"); (case h3 => walk_at "nb_side"))
  | (refine' ev_eqI ?h1 ?h2; (case h1 => walk_at "nb_ev"); (case h2 => walk_at "nb_ev"))
  | (refine' ev_neI ?h1 ?h2; (case h1 => walk_at "nb_ev"); (case h2 => walk_at "nb_ev"))
  | (refine' ev_eqS ?h1 ?h2; (case h1 => walk_at "nb_ev"); (case h2 => walk_at "nb_ev"))
  | (refine' ev_neS ?h1 ?h2; (case h1 => walk_at "nb_ev"); (case h2 => walk_at "nb_ev"))
  | (refine' ev_neg ?h1; (case h1 => walk_at "nb_ev"))
  | (refine' ev_andV ?h1 (fun _ => ?h2); (case h1 => walk_at "nb_ev"); (case h2 => walk_at "nb_ev"))
  | (refine' ev_orV ?h1 (fun _ => ?h2); (case h1 => walk_at "nb_ev"); (case h2 => walk_at "nb_ev"))
  | (refine' ev_notV ?h1; (case h1 => walk_at "nb_ev"))
  | walk_at "nb_call")
local macro_rules | `(tactic| walk_at "nb") => `(tactic| (refine' Ev.is ?h ?e; (case h => walk_at "nb_ev"); (try rfl)))
local macro_rules | `(tactic| walk_at "nb_ea") => `(tactic| first | exact ea_nil | (refine' ea_cons ?h1 ?h2; (case h1 => walk_at "nb_ev"); (case h2 => walk_at "nb_ea")))
section
variable {K : Kx} {w : Wd} {te ta tb : TE} {tt : TT} {δ : Ds} {R : Da → Prop}
theorem et_truthB {b : Bool} (h : Ev1 K w te δ (.d (.bool b))) : EvT1 K w (fun σ H Q => te σ H fun x H' => ∃ k, TruV K x H' k ∧ Q k H') δ b := fun σ G H s a Q q =>
  h σ G H s a _ fun v G1 H1 d e1 a1 r1 h1 => by
    subst h1
    cases (show Dp K G1 v (.bool b) from r1)
    exact ⟨b, rfl, q b G1 H1 e1 a1 rfl⟩
/-- any hidden list -/
theorem At.mem {G H : Hp} {p : Addr} {ys : List PyData} (a : At K w G H) (h : (p, Ce.lst ys) ∈ w.fix) : ∃ acc, H p = some (.lst acc) ∧ DpAll K G acc ys := (a.hid _ h).2
theorem od_ixM {p : Addr} {ys : List PyData} {i : Int} {x : PyData} (hm : (p, Ce.lst ys) ∈ w.fix) (e : atI ys i = some x) : OpD K w (rIxL K) (.ob p) (.d (.int i)) (fun z => z = .d x) := fun v u G H hv hu a Q q => by
  cases (show Dp K G u (.int i) from hu)
  have ev : v = .ref p := hv
  subst ev
  obtain ⟨acc, top, da⟩ := a.mem hm
  obtain ⟨z, e1, e2⟩ := atI_dp da e
  exact ⟨p, acc, i, z, rfl, rfl, SqL.of top, e1, q z G H (.d x) (Evl.Ex.refl G) a e2 rfl⟩
theorem ca_lenM {p : Addr} {ys : List PyData} (hm : (p, Ce.lst ys) ∈ w.fix) : CaD K w (fun xs H Q => ∃ x n, xs = [x] ∧ LenV K x H n ∧ Q (.int n) H) [.ob p] (fun z => z = .d (.int (ys.length : Int))) := fun vs G H h a Q q => by
  obtain ⟨v, e, hv⟩ := drAll1 h
  subst e
  have ev : v = .ref p := hv
  subst ev
  obtain ⟨acc, top, da⟩ := a.mem hm
  exact ⟨_, ys.length, rfl, .inl ⟨acc, SqL.of top, (dpAll_len da).symm⟩, q _ G H (.d (.int _)) (Evl.Ex.refl G) a (Dp.int _) rfl⟩
end
abbrev Un (w : Wd) (h : Addr × Addr) : Prop := w.rnd = some ⟨h.1, h.2, none⟩

abbrev OK_law_draw (P : Program) (w0 : World) (K : Kx) (mg : Str → Option Value) (base : Heap) : Prop := Ok P w0 K mg base 1 "_law_draw" ["_law_heap_here", "_law_many"] (spW K (fun (p : (Addr × Addr) × Int) => [.ob p.1.1, .d (.int p.2)]) (fun w p => Un w p.1 ∧ 1 ≤ p.2 ∧ p.2 < 1073741824) (fun p z => ∃ i, z = .d (.int i) ∧ 0 ≤ i ∧ i < p.2))
theorem ok_law_draw {P : Program} {w0 : World} {K : Kx} {mg : Str → Option Value} {base : Heap} (T : Tx K mg) : OK_law_draw P w0 K mg base := by
  refine fn_ok T.d_law_draw sc_law_draw (fun _ => rfl) bi_law_draw fun f cdv A outer s H E hr => ⟨_, (pss_cons (ps_while PassesOwn.never (PW.pt (pw_and (pt_cmpR (op_neD hr.units) (pe_ix ix_list (pv 0) pe_int (fun _ _ => rfl)) (pe_lst pa_nil) (nomark _)) (pw_and1 (pt_cmpR op_eq (pe_ix ix_list (pe_ix ix_list (pv 0) pe_int (fun _ _ => rfl)) (pe_un un_neg pe_int) (fun _ _ => rfl)) pe_int (nomark _))))) (pss_one (ps_expr (pe_bm0 PySem.F.plainAttrs_list PySem.F.slot_list_pop PySem.F.type_list_pop mt_pop (pe_ix ix_list (pv 0) pe_int (fun _ _ => rfl))))))
      (pss_cons (ps_if (pt_cmpR (op_neD hr.units) (pe_ix ix_list (pv 0) pe_int (fun _ _ => rfl)) (pe_lst pa_nil) (nomark _)) (pss_cons (ps_set (i := 2) sc_law_draw.nd rfl (Or.inl rfl) (pe_callTy call_int1 (by rfl) T.b_int (by decide +kernel) (pa_cons (pe_bm0 PySem.F.plainAttrs_list PySem.F.slot_list_pop PySem.F.type_list_pop mt_pop (pe_ix ix_list (pv 0) pe_int (fun _ _ => rfl))) pa_nil)))
      (pss_cons (ps_expr (pe_bm PySem.F.plainAttrs_list PySem.F.slot_list_append PySem.F.type_list_append mt_append (pe_ix ix_list (pv 0) pe_int (fun _ _ => rfl)) (pa_cons (pe_op op_fdiv (pv 2) (pv 1)) pa_nil)))
      (pss_one (ps_ret (pe_op op_mod (pv 2) (pv 1)))))) pss_nil)
      (pss_cons (ps_asg (pe_op op_mod (pe_callTy call_int1 (by rfl) T.b_int (by decide +kernel) (pa_cons (pe_op op_add (pe_op op_mul (pe_ix ix_list (pv 0) pe_int (fun _ _ => rfl)) pe_int) pe_int) pa_nil)) pe_int) (pg_sub (pv 0) pe_int set_list))
      (pss_one (ps_ret (pe_op op_mod (pe_callTy call_int1 (by rfl) T.b_int (by decide +kernel) (pa_cons (pe_op op_fdiv (pe_ix ix_list (pv 0) pe_int (fun _ _ => rfl)) pe_int) pa_nil)) (pv 1))))))), fun b w D a hp hret hn => ?_⟩
  obtain ⟨⟨hh, l⟩, m⟩ := a
  obtain ⟨hw, h1, h2⟩ : Un w (hh, l) ∧ 1 ≤ m ∧ m < 1073741824 := hp
  have hret : RetO K b w D (fun z => ∃ i, z = .d (.int i) ∧ 0 ≤ i ∧ i < m) := hret
  refine run_know hw fun z cs o => ?_
  refine run_while (fun n w' δ' => ∃ cs, RnOk z cs ∧ n = cs.length ∧ w' = w.rd ⟨hh, l, some (z, cs)⟩ ∧ δ' = [some (.ob hh), some (.d (.int m)), none]) cs.length ⟨cs, o, rfl, rfl, rfl⟩ ?_
  rintro n w' δ' b' ⟨cs, o, rfl, rfl, rfl⟩ hb
  have e0 : ∀ cs, Ev1 K (w.rd ⟨hh, l, some (z, cs)⟩) (tOp (rIxL K) (tVar 0) (tC (V.int 0))) [some (.ob hh), some (.d (.int m)), none] (.ob l) := fun cs => ev_r0 (ev_var rfl) ev_int
  have hne : ∀ cs, EvT1 K (w.rd ⟨hh, l, some (z, cs)⟩) (tTest (tOp (rNeD K) (tOp (rIxL K) (tVar 0) (tC (V.int 0))) (tLst tNil))) [some (.ob hh), some (.d (.int m)), none] (!decide (cs = [])) := fun cs => et_test1 (ev_rne (e0 cs) (ev_lst (xs := []) ea_nil))
  have hne : ∀ w2 cs, EvT1 K ((w : Wd).rd ⟨hh, l, some (w2, cs)⟩) (tTest (tOp (rNeD K) (tOp (rIxL K) (tVar 0) (tC (V.int 0))) (tLst tNil))) [some (.ob hh), some (.d (.int m)), none] (!decide (cs = [])) := fun z cs => et_test1 (ev_rne (ev_r0 (ev_var rfl) ev_int) (ev_lst (xs := []) ea_nil))
  have hcl : ∀ cs' c, cs = cs' ++ [c] → atI (cs.map V.int) (-1) = some (.int c) := fun cs' c hc => by
    unfold atI ixN
    rw [if_neg (by decide), List.length_map, hc, List.length_append, List.length_singleton, if_pos (by omega)]
    show (List.map V.int (cs' ++ [c]))[(-1 + ((cs'.length + 1 : Nat) : Int)).toNat]? = _
    rw [show (-1 + ((cs'.length + 1 : Nat) : Int)).toNat = cs'.length by omega, List.map_append, List.getElem?_append_right (by simp)]
    simp
  have hsp : cs = [] ∨ ∃ cs' c, cs = cs' ++ [c] := by
    rcases List.eq_nil_or_concat cs with hc | ⟨cs', c, hc⟩
    · exact .inl hc
    · exact .inr ⟨cs', c, by simpa using hc⟩
  have hdr : ∀ cs' c, cs = cs' ++ [c] → RnOk z cs' ∧ 0 ≤ c ∧ cs'.length < 63 ∧ cs'.length < cs.length := fun cs' c hc => by
    have h3 := o.len
    rw [hc, List.length_append, List.length_singleton] at h3
    exact ⟨⟨o.z0, o.z1, fun x hx => o.c0 x (by rw [hc]; exact List.mem_append_left _ hx), by omega⟩, o.c0 c (by rw [hc]; simp), by omega, by rw [hc]; simp⟩
  refine ⟨fun x => x = true → ∃ cs' c, cs = cs' ++ [c], ?_, fun h => ?_, fun _ => ?_⟩
  · rcases hsp with hc | ⟨cs', c, hc⟩
    · refine EvT.imp (EvT.is (et_and (b := !decide (cs = [])) (c := false) (hne z cs) fun h => ?_) (b' := false) ?_) fun x hx h => ?_
      · rw [hc] at h
        exact nomatch h
      · rw [hc]
        rfl
      · rw [hx] at h
        exact nomatch h
    · exact EvT.imp (et_and (hne z cs) fun _ => et_test1 (ev_eqI (ev_rl (e0 cs) (ev_neg ev_int) (hcl cs' c hc)) ev_int)) fun x _ _ => ⟨cs', c, hc⟩
  · obtain ⟨cs', c, hc⟩ := h rfl
    obtain ⟨o', c0, q1, q2⟩ := hdr cs' c hc
    exact run_tail (run_rpop (e0 cs) hc (run_nx ⟨cs'.length, q2, cs', o', rfl, rfl, rfl⟩))
  · refine run_if (B := fun x => x = !decide (cs = [])) (hne z cs) (fun h => ?_) fun h => run_skip ?_
    · rcases hsp with hc | ⟨cs', c, hc⟩
      · rw [hc] at h
        exact nomatch h
      · obtain ⟨o', c0, q1, q2⟩ := hdr cs' c hc
        have d0 : 0 ≤ c / m := Int.ediv_nonneg c0 (by omega)
        refine run_assoc (run_rpopI (e0 cs) hc ?_)
        refine run_rapp (ev_r0 (ev_var rfl) ev_int) (ev_iiC (f := fun i j => i / j) (ev_var rfl) (ev_var rfl) ⟨by omega, by omega⟩) d0 q1 ?_
        refine run_ret' (ev_iiC (f := fun i j => i % j) (ev_var rfl) (ev_var rfl) (by omega)) ?_
        refine fun v G H d e a r hd => (hret.mono hb) v G H d e (a.forget hw) r ⟨c % m, hd, Int.emod_nonneg _ (by omega), Int.emod_lt_of_pos _ (by omega)⟩
    · have z0 : 0 ≤ (z * 48271 + 11) % 2147483647 := Int.emod_nonneg _ (by decide)
      have z1 : (z * 48271 + 11) % 2147483647 < 2147483647 := Int.emod_lt_of_pos _ (by decide)
      refine run_rset (z' := (z * 48271 + 11) % 2147483647) ?_ (ev_var rfl) ev_int z0 z1 ?_
      · exact ev_iiC (f := fun i j => i % j) (ev_CB1 (ea_cons (ev_ii (f := fun i j => i + j) (ev_iiC (f := fun i j => i * j) (ev_r1 (ev_var rfl) ev_int) ev_int (Or.inr ⟨by decide, by decide⟩)) ev_int) ea_nil) ca_int) ev_int (by decide)
      · refine run_ret (ev_iiC (f := fun i j => i % j) (ev_CB1 (ea_cons (ev_iiC (f := fun i j => i / j) (ev_r1 (ev_var rfl) ev_int) ev_int ⟨by decide, by decide⟩) ea_nil) ca_int) (ev_var rfl) (by omega)) ?_
        refine fun v G H d e a r hd => (hret.mono hb) v G H d e (a.forget hw) r ⟨_, hd, Int.emod_nonneg _ (by omega), Int.emod_lt_of_pos _ (by omega)⟩

/-- what is picked from, and its items -/
def Seq (w : Wd) (x : Da) (ys : List PyData) : Prop := x = .d (.list ys) ∨ x = .d (.tuple ys) ∨ (∃ z : Str, x = .d (.str z) ∧ ys = z.cps.toList.map fun c => .str ⟨#[c]⟩) ∨ ∃ p, x = .ob p ∧ (p, Ce.lst ys) ∈ w.fix
abbrev OK_law_pick (P : Program) (w0 : World) (K : Kx) (mg : Str → Option Value) (base : Heap) : Prop := Ok P w0 K mg base 2 "_law_pick" ["_law_heap_here", "_law_some"] (spW K (fun (p : (Addr × Addr) × (Da × List PyData)) => [.ob p.1.1, p.2.1]) (fun w p => Un w p.1 ∧ Seq w p.2.1 p.2.2 ∧ 1 ≤ p.2.2.length ∧ p.2.2.length ≤ 100000) (fun p z => ∃ y, z = .d y ∧ y ∈ p.2.2))
theorem ok_law_pick {P : Program} {w0 : World} {K : Kx} {mg : Str → Option Value} {base : Heap} (T : Tx K mg) (h__law_draw : OK_law_draw P w0 K mg base) : OK_law_pick P w0 K mg base := by
  refine fn_ok T.d_law_pick sc_law_pick (fun _ => rfl) bi_law_pick fun f cdv A outer s H E hr => ⟨_, (pss_one (ps_ret (pe_ix ix_seq (pv 1) (pe_f h__law_draw hr (pa_cons (pv 0) (pa_cons (pe_callB call_len (by rfl) T.b_len (by decide +kernel) (pa_cons (pv 1) pa_nil)) pa_nil))) (fun _ _ => rfl)))), fun b w D a hp hret hn => ?_⟩
  obtain ⟨⟨hh, l⟩, ⟨x, ys⟩⟩ := a
  obtain ⟨hw, hq, h1, h2⟩ : Un w (hh, l) ∧ Seq w x ys ∧ 1 ≤ ys.length ∧ ys.length ≤ 100000 := hp
  have hret : RetO K b w D (fun z => ∃ y, z = .d y ∧ y ∈ ys) := hret
  have hlen : Ev1 K w (tCB (fun xs H Q => ∃ x n, xs = [x] ∧ LenV K x H n ∧ Q (.int n) H) (tCons (tVar 1) tNil)) [some (.ob hh), some x] (.d (.int (ys.length : Int))) := by
    rcases hq with rfl | rfl | ⟨z, rfl, rfl⟩ | ⟨p, rfl, hm⟩
    · exact ev_CB1 (ea_cons (ev_var rfl) ea_nil) (ca_len (LenD.list _))
    · exact ev_CB1 (ea_cons (ev_var rfl) ea_nil) (ca_len (LenD.tuple _))
    · have e : (z.cps.toList.map fun c => PyData.str ⟨#[c]⟩).length = z.length := by
        rw [List.length_map, Array.length_toList]
        rfl
      rw [e]
      exact ev_CB1 (ea_cons (ev_var rfl) ea_nil) (ca_len (LenD.str z (by rw [← e]; exact h2)))
    · exact ev_CB1 (ea_cons (ev_var rfl) ea_nil) (ca_lenM hm)
  refine run_ret (ev_op (R := fun z => z = x) (R' := fun z => ∃ i, z = .d (.int i) ∧ 0 ≤ i ∧ i < (ys.length : Int)) (ev_var rfl) (ev_call1 ((hh, l), (ys.length : Int)) (ea_cons (ev_var rfl) (ea_cons hlen ea_nil)) ⟨hw, by omega, by omega⟩ fun z e => e) ?_) hret
  rintro x' y rfl ⟨i, rfl, i0, i1⟩
  obtain ⟨y, e1, e2⟩ := atI_lt i0 i1
  have hy : y ∈ ys := List.mem_of_getElem? e2
  rcases hq with rfl | rfl | ⟨z, rfl, rfl⟩ | ⟨p, rfl, hm⟩
  · exact od_ix (.inl fun v u G H hv hu a Q q => od_ixL e1 v u G H hv hu a Q fun z G2 H2 d e a2 r hd => q z G2 H2 d e a2 r ⟨y, hd, hy⟩)
  · exact od_ix (.inr (.inl fun v u G H hv hu a Q q => od_ixT e1 v u G H hv hu a Q fun z G2 H2 d e a2 r hd => q z G2 H2 d e a2 r ⟨y, hd, hy⟩))
  · have i1' : i < (z.cps.toList.length : Int) := by simpa using i1
    obtain ⟨c, e3, e4⟩ := atI_lt i0 i1'
    have hz : z.length ≤ 100000 := by
      have : z.length = z.cps.toList.length := (Array.length_toList).symm
      simpa [this] using h2
    exact od_ix (.inr (.inr fun v u G H hv hu a Q q => od_ixS hz e3 v u G H hv hu a Q fun z' G2 H2 d e a2 r hd => q z' G2 H2 d e a2 r ⟨_, hd, List.mem_map.mpr ⟨c, List.mem_of_getElem? e4, rfl⟩⟩))
  · exact od_ix (.inl fun v u G H hv hu a Q q => od_ixM hm e1 v u G H hv hu a Q fun z G2 H2 d e a2 r hd => q z G2 H2 d e a2 r ⟨y, hd, hy⟩)

theorem drp {w : Wd} {h : Addr × Addr} {n : Int} (hw : Un w h) (h1 : 1 ≤ n) (h2 : n < 1073741824) : Un w (h, n).1 ∧ 1 ≤ (h, n).2 ∧ (h, n).2 < 1073741824 := ⟨hw, h1, h2⟩
theorem pkp {w : Wd} {h : Addr × Addr} {x : Da} {ys : List PyData} (hw : Un w h) (hq : Seq w x ys) (h1 : 1 ≤ ys.length) (h2 : ys.length ≤ 100000) : Un w (h, (x, ys)).1 ∧ Seq w (h, (x, ys)).2.1 (h, (x, ys)).2.2 ∧ 1 ≤ (h, (x, ys)).2.2.length ∧ (h, (x, ys)).2.2.length ≤ 100000 := ⟨hw, hq, h1, h2⟩
/-- the rows of k wires, ascending -/
def rowsB : Nat → List (List Bool)
  | 0 => [[]]
  | k + 1 => (rowsB k).flatMap fun r => [r ++ [false], r ++ [true]]
theorem twoB_len : ∀ rs : List (List Bool), (rs.flatMap fun r => [r ++ [false], r ++ [true]]).length = rs.length * 2
  | [] => rfl
  | r :: rs => by
    rw [List.flatMap_cons, List.length_append, twoB_len rs, List.length_cons]
    show 2 + rs.length * 2 = (rs.length + 1) * 2
    omega
theorem rowsB_len : ∀ k, (rowsB k).length = 2 ^ k
  | 0 => rfl
  | k + 1 => by
    unfold rowsB
    rw [twoB_len, rowsB_len k, Nat.pow_succ]
theorem rowsB_mem : ∀ (k : Nat) (r : List Bool), r ∈ rowsB k → r.length = k
  | 0, r, h => by
    rw [List.mem_singleton.mp h]
    rfl
  | k + 1, r, h => by
    unfold rowsB at h
    obtain ⟨r', h1, h2⟩ := List.mem_flatMap.mp h
    have := rowsB_mem k r' h1
    rcases List.mem_cons.mp h2 with h3 | h3
    · rw [h3, List.length_append, this]
      rfl
    · rw [List.mem_singleton.mp h3, List.length_append, this]
      rfl
abbrev rwD (rs : List (List Bool)) : PyData := .list (rs.map fun r => bT r)
theorem pow3 {k : Nat} (h : k ≤ 3) : 2 ^ k ≤ 8 := Nat.pow_le_pow_right (n := 2) (by decide) h
abbrev OK_law_settings (P : Program) (w0 : World) (K : Kx) (mg : Str → Option Value) (base : Heap) : Prop := Ok P w0 K mg base 1 "_law_settings" ["_law_many"] (spW K (fun (k : Nat) => [.d (.int (k : Int))]) (fun _ k => k ≤ 3) (fun k z => z = .d (rwD (rowsB k))))
theorem ok_law_settings {P : Program} {w0 : World} {K : Kx} {mg : Str → Option Value} {base : Heap} (T : Tx K mg) : OK_law_settings P w0 K mg base := by
  refine fn_ok T.d_law_settings sc_law_settings (fun _ => rfl) bi_law_settings fun f cdv A outer s H E hr => ⟨_, (pss_cons (ps_set (i := 1) sc_law_settings.nd rfl (Or.inl rfl) (pe_lst (pa_cons (pe_tup pa_nil) pa_nil)))
      (pss_cons (ps_for PassesOwn.never rfl (pi_range1 rfl T.b_range (pa_cons (pv 0) pa_nil)) (pg_name (i := 2) sc_law_settings.nd rfl (Or.inl rfl)) (pss_cons (ps_set (i := 3) sc_law_settings.nd rfl (Or.inl rfl) (pe_lst pa_nil))
      (pss_cons (ps_for PassesOwn.never rfl (pi_list (pv 1)) (pg_name (i := 4) sc_law_settings.nd rfl (Or.inl rfl)) (pss_one (ps_set (i := 3) sc_law_settings.nd rfl (Or.inl rfl) (pe_op NbR.op_catL (pv 3) (pe_lst (pa_cons (pe_op op_catA (pv 4) (pe_tup (pa_cons pe_int pa_nil))) (pa_cons (pe_op op_catA (pv 4) (pe_tup (pa_cons pe_int pa_nil))) pa_nil)))))))
      (pss_one (ps_set (i := 1) sc_law_settings.nd rfl (Or.inl rfl) (pv 3))))))
      (pss_one (ps_ret (pv 1))))), fun b w D a hp hret hn => ?_⟩
  have hk : a ≤ 3 := hp
  refine run_asg1 (d := .d (rwD (rowsB 0))) (ev_lst (xs := [.tuple []]) (ea_cons (ev_tup (xs := []) ea_nil) ea_nil)) ?_
  refine run_forR (n := (a : Int)) (fun i w' δ' => w' = w ∧ ∃ o1 o2 o3, δ' = [some (.d (.int (a : Int))), some (.d (rwD (rowsB i))), o1, o2, o3]) (ea_cons (ev_var rfl) ea_nil) ⟨by omega, by omega⟩ ⟨rfl, none, none, none, rfl⟩ ?_ ?_
  · rintro i w' δ' b' hi ⟨rfl, o1, o2, o3, rfl⟩ hb
    have hi' : i < a := by omega
    have hl8 : (rowsB i).length ≤ 8 := by rw [rowsB_len]; exact pow3 (by omega)
    refine ⟨_, tg_name, ?_⟩
    refine run_asg1 (d := .d (.list [])) (ev_lst (xs := []) ea_nil) ?_
    refine run_forL (xs := (rowsB i).map fun r => bT r) (fun j w2 δ' => w2 = w' ∧ ∃ o, δ' = [some (.d (.int (a : Int))), some (.d (rwD (rowsB i))), some (.d (.int (i : Int))), some (.d (rwD (((rowsB i).take j).flatMap fun r => [r ++ [false], r ++ [true]]))), o]) (ev_var rfl) ⟨rfl, _, rfl⟩ ?_ ?_
    · rintro j x w2 δ' b2 hx ⟨rfl, o, rfl⟩ hb2
      rw [List.getElem?_map] at hx
      cases hq : (rowsB i)[j]? with
      | none =>
        rw [hq] at hx
        cases hx
      | some r =>
        rw [hq] at hx
        cases hx
        have hr2 : r.length ≤ 3 := by rw [rowsB_mem i r (List.mem_of_getElem? hq)]; omega
        refine ⟨_, tg_name, ?_⟩
        have c1 : ∀ (v : Bool) (n : Int), n = bi v → Ev1 K w2 (tOp (rCatA K) (tVar 4) (tTup (tCons (tC (.int n)) tNil))) [some (.d (.int (a : Int))), some (.d (rwD (rowsB i))), some (.d (.int (i : Int))), some (.d (rwD (((rowsB i).take j).flatMap fun r => [r ++ [false], r ++ [true]]))), some (.d (bT r))] (.d (bT (r ++ [v]))) := fun v n e => by
          subst e
          refine Ev.is (ev_op1 (ev_var rfl) (ev_tup (xs := [.int (bi v)]) (ea_cons ev_int ea_nil) (by simp)) (od_catT ?_)) ?_
          · rw [List.length_map, List.length_map]
            show r.length + 1 ≤ 100000
            omega
          · show _ = Da.d (.tuple (((r ++ [v]).map bi).map PyData.int))
            rw [List.map_append, List.map_append]
            rfl
        have hml : (((rowsB i).take j).flatMap fun r => [r ++ [false], r ++ [true]]).length ≤ 16 := by
          rw [twoB_len]
          have := List.length_take_le' j (rowsB i)
          omega
        refine run_tail (run_asg1 (d := .d (rwD (((rowsB i).take (j + 1)).flatMap fun r => [r ++ [false], r ++ [true]]))) (Ev.is (ev_op1 (ev_var rfl) (ev_lst (xs := [bT (r ++ [false]), bT (r ++ [true])]) (ea_cons (c1 false 0 rfl) (ea_cons (c1 true 1 rfl) ea_nil)) (by simp)) (od_catL ?_)) ?_) (run_nx ⟨rfl, _, rfl⟩))
        · rw [List.length_map]
          show _ + 2 ≤ 100000
          omega
        · rw [take_one hq, List.flatMap_append, rwD, List.map_append]
          rfl
    · rintro w2 δ2 ⟨rfl, o, rfl⟩
      rw [List.length_map, List.take_length]
      exact run_tail (run_asg1 (ev_var rfl) (run_nx ⟨rfl, _, _, _, rfl⟩))
  · rintro w' δ' ⟨rfl, o1, o2, o3, rfl⟩
    rw [Int.toNat_natCast]
    exact run_ret (ev_var rfl) hret

/-! a row, a value -/
abbrev rA (r : List Bool) (i : Int) : Bool := r.getD i.toNat false
theorem row_at {r : List Bool} {i : Int} (h0 : 0 ≤ i) (h1 : i < r.length) : atI ((r.map bi).map PyData.int) i = some (.int (bi (rA r i))) := by
  obtain ⟨x, e1, e2⟩ := atI_lt (xs := (r.map bi).map PyData.int) h0 (by simpa using h1)
  rw [e1, ← e2, List.getElem?_map, List.getElem?_map, rA, List.getD_eq_getElem?_getD]
  have : i.toNat < r.length := by omega
  rw [List.getElem?_eq_getElem this]
  rfl
abbrev OK_law_under (P : Program) (w0 : World) (K : Kx) (mg : Str → Option Value) (base : Heap) : Prop := Ok P w0 K mg base 1 "_law_under" ["_law_one", "_law_other"] (spW K (fun (p : List Bool × List Bool) => [.d (bT p.1), .d (bT p.2)]) (fun _ p => p.1.length = p.2.length ∧ p.1.length ≤ 100) (fun _ z => ∃ b, z = .d (.bool b)))
theorem ok_law_under {P : Program} {w0 : World} {K : Kx} {mg : Str → Option Value} {base : Heap} (T : Tx K mg) : OK_law_under P w0 K mg base := by
  refine fn_ok T.d_law_under sc_law_under (fun _ => rfl) bi_law_under fun f cdv A outer s H E hr => ⟨_, (pss_one (ps_ret (pe_callB (cr_all rfl) (by rfl) T.b_all (by decide +kernel) (pa_cons (pe_lc (own := [("_law_at", 2)]) (g := (gName 2)) (tt := tYes) rfl sc_law_under.nd (pi_range1 rfl T.b_range (pa_cons (pe_callB call_len (by rfl) T.b_len (by decide +kernel) (pa_cons (pv 0) pa_nil)) pa_nil)) (blkOk_by (N := N_law_under) (sc := (defScope s_law_under)) (by decide +kernel)) (fun _ _ _ _ _ => (pg_name (i := 2) sc_law_under.nd rfl (Or.inl rfl))) (fun _ _ _ _ _ => pts_nil) (fun _ _ _ _ _ => (pe_cmpR op_le (pe_ix (ix_tupK (K := K) rfl) (pv 0) (pv 2) (fun _ _ => rfl)) (pe_ix (ix_tupK (K := K) rfl) (pv 1) (pv 2) (fun _ _ => rfl)) (nomark _)))) pa_nil)))), fun b w D a hp hret hn => ?_⟩
  obtain ⟨r, q⟩ := a
  obtain ⟨hl, h1⟩ : r.length = q.length ∧ r.length ≤ 100 := hp
  refine run_ret (Ev.imp (ev_all (l := List.range r.length) (fun i => decide (bi (rA r (i : Nat)) ≤ bi (rA q (i : Nat)))) (ev_mapR r.length (fun i => .bool (decide (bi (rA r (i : Nat)) ≤ bi (rA q (i : Nat))))) wipes_name (ea_cons (Ev.is (ev_CB1 (ea_cons (ev_var rfl) ea_nil) (ca_len (LenD.tuple _))) (by rw [List.length_map, List.length_map])) ea_nil) (by omega) fun i hi w' _ => ⟨_, tg_name, ?_⟩)) fun z e => ⟨_, e⟩) hret
  exact ev_ib (f := fun i j => decide (i ≤ j)) (ev_ixT (ev_var rfl) (ev_var rfl) (row_at (r := r) (by omega) (by omega))) (ev_ixT (ev_var rfl) (ev_var rfl) (row_at (r := q) (by omega) (by omega)))

theorem lay_rows : ∀ rows : List (List Int), PyData.canLayAll0 (rows.map iT) = true
  | [] => by simp [PyData.canLayAll0]
  | r :: rows => by
    have h : PyData.canLay0 (iT r) = true := by
      simp only [iT, PyData.canLay0]
      exact lay_ints r
    simp only [List.map_cons, PyData.canLayAll0, h, lay_rows rows, Bool.and_self]
theorem dep_rows : ∀ rows : List (List Int), PyData.depthAll (rows.map iT) ≤ 1
  | [] => by simp [PyData.depthAll]
  | r :: rows => by
    have h : PyData.depth (iT r) ≤ 1 := by
      simp only [iT, PyData.depth, dep_ints]
      decide
    have := dep_rows rows
    simp only [List.map_cons, PyData.depthAll]
    omega
theorem shaped_rows (rows : List (List Int)) : SeqAt.shaped (.list (rows.map iT)) = true := shaped_of (by simp only [PyData.canLay0]; exact lay_rows rows) (by have := dep_rows rows; simp only [PyData.depth]; omega)
theorem shaped_rowsT (rows : List (List Int)) : SeqAt.shaped (.tuple (rows.map iT)) = true := shaped_of (by simp only [PyData.canLay0]; exact lay_rows rows) (by have := dep_rows rows; simp only [PyData.depth]; omega)
theorem shaped_rw (rs : List (List Bool)) : SeqAt.shaped (rwD rs) = true := by
  have := shaped_rows (rs.map fun r => r.map bi)
  rw [List.map_map] at this
  exact this
section
variable {K : Kx} {b : Hp} {w : Wd} {D : Ends} {tt : TT} {ts tu tr : TS} {δ : Ds} {B : Bool → Prop} {ta tb te : TE} {R : Da → Prop}
theorem run_ifK (Pd : Ds → Prop) (h : EvT K w tt δ B) (k : ∀ δ', Pd δ' → Run K b w D tr δ') (h1 : B true → (∀ δ', Pd δ' → Run K b w D tr δ') → Run K b w D (tSeq ts tr) δ) (h2 : B false → (∀ δ', Pd δ' → Run K b w D tr δ') → Run K b w D (tSeq tu tr) δ) : Run K b w D (tSeq (tIfS tt ts tu) tr) δ :=
  run_if h (fun x => h1 x k) fun x => h2 x k
theorem et_any {c : Bool} (h : EvT1 K w tt δ c) : EvT K w tt δ (fun _ => True) := EvT.imp h fun _ _ => trivial
theorem ev_ifU {c : Bool} (h : EvT1 K w tt δ c) (h1 : Ev K w ta δ R) (h2 : Ev K w tb δ R) : Ev K w (tIf tt ta tb) δ R := ev_if h (fun _ => h1) fun _ => h2
theorem ev_ifN (h : EvT K w tt δ B) (h1 : Ev K w ta δ R) (h2 : Ev K w tb δ R) : Ev K w (tIf tt ta tb) δ R := ev_if h (fun _ => h1) fun _ => h2
abbrev IsB : Da → Prop := fun z => ∃ b, z = .d (.int (bi b))
theorem ev_0 : Ev K w (tC (.int 0)) δ IsB := Ev.imp ev_int fun z e => ⟨false, e⟩
theorem ev_1 : Ev K w (tC (.int 1)) δ IsB := Ev.imp ev_int fun z e => ⟨true, e⟩
theorem isB_of {n : Int} (h : n = 0 ∨ n = 1) : IsB (.d (.int n)) := by
  rcases h with h | h
  · exact ⟨false, by rw [h]; rfl⟩
  · exact ⟨true, by rw [h]; rfl⟩
theorem bi_or (v : Bool) : bi v = 0 ∨ bi v = 1 := by cases v <;> decide
theorem ev_not (h : Ev K w te δ IsB) : Ev K w (tOp (rI0 fun i j => .int (i - j)) (tC (.int 1)) te) δ IsB := ev_op (R := fun z => z = .d (.int 1)) (R' := IsB) ev_int h fun x y e ⟨v, e2⟩ => by
  subst e e2
  exact fun v' u G H hv hu a Q q => odI0 (g := fun i j => V.int (i - j)) (x := .int (1 - bi v)) (fun _ => Dp.int _) v' u G H hv hu a Q fun z G2 H2 d e a2 r hd => q z G2 H2 d e a2 r ⟨!v, by rw [hd, bi_not]⟩
end
structure VA where
  form : Int
  r : List Bool
  ps : List (List Bool)
  wire : Int
  sm : List Int
  bit : Bool
structure VAok (p : VA) : Prop where
  hr : p.r.length ≤ 3
  hps : ∀ q ∈ p.ps, q.length = p.r.length
  hpl : p.ps.length ≤ 100
  w0 : 0 ≤ p.wire
  w1 : p.wire < (if (1 : Int) > (p.r.length : Int) then (1 : Int) else (p.r.length : Int))
  hs : ∀ i ∈ p.sm, 0 ≤ i ∧ i < p.r.length
  hsl : p.sm.length ≤ 100
abbrev OK_law_value (P : Program) (w0 : World) (K : Kx) (mg : Str → Option Value) (base : Heap) : Prop := Ok P w0 K mg base 2 "_law_value" ["_law_form", "_law_row", "_law_points", "_law_ties"] (spW K (fun (p : VA) => [.d (.int p.form), .d (bT p.r), .d (rwD p.ps), .d (.tuple [.int p.wire, .list (p.sm.map PyData.int), .int (bi p.bit)])]) (fun _ p => VAok p) (fun _ z => IsB z))
theorem ok_law_value {P : Program} {w0 : World} {K : Kx} {mg : Str → Option Value} {base : Heap} (T : Tx K mg) (h__law_under : OK_law_under P w0 K mg base) : OK_law_value P w0 K mg base := by
  refine fn_ok T.d_law_value sc_law_value (fun _ => rfl) bi_law_value fun f cdv A outer s H E hr => ⟨_, (pss_cons (ps_asg (pv 3) (pg_tup rfl (pgs_cons (pg_name (i := 4) sc_law_value.nd rfl (Or.inl rfl)) (pgs_cons (pg_name (i := 5) sc_law_value.nd rfl (Or.inl rfl)) (pgs_cons (pg_name (i := 6) sc_law_value.nd rfl (Or.inl rfl)) pgs_nil)))))
      (pss_cons (ps_set (i := 7) sc_law_value.nd rfl (Or.inl rfl) (pe_ifExp (pt_cmpR (NbR.op_inA (u65 hr)) (pv 1) (pv 2) (by rfl)) pe_int pe_int))
      (pss_cons (ps_if (pt_cmpR (NbR.op_inA (u65 hr)) (pv 0) (pe_tup (pa_cons pe_int (pa_cons pe_int (pa_cons pe_int pa_nil)))) (by rfl)) (pss_one (ps_set (i := 7) sc_law_value.nd rfl (Or.inl rfl) (pe_ifExp (pt_val (pe_callB (cr_any rfl) (by rfl) T.b_any (by decide +kernel) (pa_cons (pe_lc (own := [("_law_point", 8)]) (g := (gName 8)) (tt := tYes) rfl sc_law_value.nd (pi_list (pv 2)) (blkOk_by (N := N_law_value) (sc := (defScope s_law_value)) (by decide +kernel)) (fun _ _ _ _ _ => (pg_name (i := 8) sc_law_value.nd rfl (Or.inl rfl))) (fun _ _ _ _ _ => pts_nil) (fun _ _ _ _ _ => (pe_f h__law_under hr (pa_cons (pv 8) (pa_cons (pv 1) pa_nil))))) pa_nil))) pe_int pe_int))) pss_nil)
      (pss_cons (ps_if (PW.pt (pw_or (pt_cmpR (op_eqD hr.units) (pv 1) (pe_tup pa_nil) (nomark _)) (pw_or1 (pt_cmpR op_lt (pv 0) pe_int (nomark _))))) (pss_one (ps_ret (pv 7))) pss_nil)
      (pss_cons (ps_if (pt_cmpR op_eq (pv 0) pe_int (nomark _)) (pss_one (ps_ret (pe_ifExp (pt_cmpR op_eq (pe_ix ix_tup (pv 1) pe_int (fun _ _ => rfl)) pe_int (nomark _)) (pv 7) (pe_op op_sub pe_int (pe_ifExp (pt_cmpR (NbR.op_inA (u65 hr)) (pe_tupleOf rfl T.b_tuple (pe_lc (own := [("_law_value_here", 9)]) (g := (gName 9)) (tt := tYes) rfl sc_law_value.nd (pi_tup (pv 1)) (blkOk_by (N := N_law_value) (sc := (defScope s_law_value)) (by decide +kernel)) (fun _ _ _ _ _ => (pg_name (i := 9) sc_law_value.nd rfl (Or.inl rfl))) (fun _ _ _ _ _ => pts_nil) (fun _ _ _ _ _ => (pe_op op_sub pe_int (pv 9))))) (pv 2) (by rfl)) pe_int pe_int))))) pss_nil)
      (pss_cons (ps_if (pt_cmpR op_eq (pv 0) pe_int (nomark _)) (pss_one (ps_ret (pe_op op_mod (pe_callTy call_int1 (by rfl) T.b_int (by decide +kernel) (pa_cons (pe_op op_add (pe_callB (cr_sum rfl) (by rfl) T.b_sum (by decide +kernel) (pa_cons (pe_lc (own := [("_law_at", 10)]) (g := (gName 10)) (tt := tYes) rfl sc_law_value.nd (pi_list (pv 5)) (blkOk_by (N := N_law_value) (sc := (defScope s_law_value)) (by decide +kernel)) (fun _ _ _ _ _ => (pg_name (i := 10) sc_law_value.nd rfl (Or.inl rfl))) (fun _ _ _ _ _ => pts_nil) (fun _ _ _ _ _ => (pe_ix (ix_tupK (K := K) rfl) (pv 1) (pv 10) (fun _ _ => rfl)))) pa_nil)) (pv 6)) pa_nil)) pe_int))) pss_nil)
      (pss_cons (ps_if (pt_cmpR op_eq (pv 0) pe_int (nomark _)) (pss_one (ps_ret (pe_callB (cr_min rfl) (by rfl) T.b_min (by decide +kernel) (pa_cons (pe_op NbR.op_catL (pe_lc (own := [("_law_at", 10)]) (g := (gName 10)) (tt := tYes) rfl sc_law_value.nd (pi_list (pv 5)) (blkOk_by (N := N_law_value) (sc := (defScope s_law_value)) (by decide +kernel)) (fun _ _ _ _ _ => (pg_name (i := 10) sc_law_value.nd rfl (Or.inl rfl))) (fun _ _ _ _ _ => pts_nil) (fun _ _ _ _ _ => (pe_ix (ix_tupK (K := K) rfl) (pv 1) (pv 10) (fun _ _ => rfl)))) (pe_lst (pa_cons (pe_ifExp (pt_cmpR op_gt (pe_callB call_len (by rfl) T.b_len (by decide +kernel) (pa_cons (pv 5) pa_nil)) pe_int (nomark _)) pe_int (pv 6)) pa_nil))) pa_nil)))) pss_nil)
      (pss_cons (ps_if (pt_cmpR op_eq (pv 0) pe_int (nomark _)) (pss_one (ps_ret (pe_callB (cr_max rfl) (by rfl) T.b_max (by decide +kernel) (pa_cons (pe_op NbR.op_catL (pe_lc (own := [("_law_at", 10)]) (g := (gName 10)) (tt := tYes) rfl sc_law_value.nd (pi_list (pv 5)) (blkOk_by (N := N_law_value) (sc := (defScope s_law_value)) (by decide +kernel)) (fun _ _ _ _ _ => (pg_name (i := 10) sc_law_value.nd rfl (Or.inl rfl))) (fun _ _ _ _ _ => pts_nil) (fun _ _ _ _ _ => (pe_ix (ix_tupK (K := K) rfl) (pv 1) (pv 10) (fun _ _ => rfl)))) (pe_lst (pa_cons (pe_ifExp (pt_cmpR op_gt (pe_callB call_len (by rfl) T.b_len (by decide +kernel) (pa_cons (pv 5) pa_nil)) pe_int (nomark _)) pe_int (pv 6)) pa_nil))) pa_nil)))) pss_nil)
      (pss_cons (ps_if (pt_cmpR op_lt (pv 0) pe_int (nomark _)) (pss_one (ps_ret (pe_ifExp (pt_cmpR op_lt (pv 0) pe_int (nomark _)) (pe_callB (call_min2 rfl) (by rfl) T.b_min (by decide +kernel) (pa_cons (pe_ix ix_tup (pv 1) (pv 4) (fun _ _ => rfl)) (pa_cons (pv 7) pa_nil))) (pe_callB (call_max2 rfl) (by rfl) T.b_max (by decide +kernel) (pa_cons (pe_ix ix_tup (pv 1) (pv 4) (fun _ _ => rfl)) (pa_cons (pv 7) pa_nil)))))) pss_nil)
      (pss_cons (ps_if (PW.pt (pw_and (pt_cmpR op_eq (pv 0) pe_int (nomark _)) (pw_and1 (pt_cmpR op_eq (pe_callB call_len (by rfl) T.b_len (by decide +kernel) (pa_cons (pv 1) pa_nil)) pe_int (nomark _))))) (pss_one (ps_ret (pe_ifExp (PW.pt (pw_or (pt_cmpR op_eq (pe_callB (NbS.cr_sumT rfl) (by rfl) T.b_sum (by decide +kernel) (pa_cons (pv 1) pa_nil)) pe_int (nomark _)) (pw_or1 (PW.pt (pw_and (pt_cmpR op_eq (pe_callB (NbS.cr_sumT rfl) (by rfl) T.b_sum (by decide +kernel) (pa_cons (pv 1) pa_nil)) pe_int (nomark _)) (pw_and1 (pt_cmpR op_eq (pv 6) pe_int (nomark _)))))))) pe_int pe_int))) pss_nil)
      (pss_cons (ps_if (pt_cmpR op_eq (pv 0) pe_int (nomark _)) (pss_one (ps_ret (pe_ix ix_list (pe_lst (pa_cons (pe_ix ix_tup (pv 1) (pv 4) (fun _ _ => rfl)) (pa_cons (pe_op op_sub pe_int (pe_ix ix_tup (pv 1) (pv 4) (fun _ _ => rfl))) pa_nil))) (pv 6) (fun _ _ => rfl)))) pss_nil)
      (pss_one (ps_ret (pe_ifExp (PW.pt (pw_or (PW.pt (pw_and (pt_cmpR op_lt (pe_callB call_len (by rfl) T.b_len (by decide +kernel) (pa_cons (pv 5) pa_nil)) pe_int (nomark _)) (pw_and1 (pt_cmpR op_eq (pv 0) pe_int (nomark _))))) (pw_or1 (pt_cmpR op_eq (pe_callB (NbS.cr_minT rfl) (by rfl) T.b_min (by decide +kernel) (pa_cons (pv 1) pa_nil)) (pe_callB (NbS.cr_maxT rfl) (by rfl) T.b_max (by decide +kernel) (pa_cons (pv 1) pa_nil)) (nomark _))))) (pe_ix ix_tup (pv 1) pe_int (fun _ _ => rfl)) (pv 7))))))))))))))), fun b w D a hp hret hn => ?_⟩
  obtain ⟨form, r, ps, wire, sm, bit⟩ := a
  obtain ⟨hr3, hps, hpl, w0, w1, hs, hsl⟩ : VAok ⟨form, r, ps, wire, sm, bit⟩ := hp
  have hret : RetO K b w D IsB := hret
  simp only at hr3 hps hpl w0 w1 hs hsl
  refine run_unpack (δ' := fun _ => [some (.d (.int form)), some (.d (bT r)), some (.d (rwD ps)), some (.d (.tuple [.int wire, .list (sm.map PyData.int), .int (bi bit)])), some (.d (.int wire)), some (.d (.list (sm.map PyData.int))), some (.d (.int (bi bit))), none, none, none, none]) (ev_var rfl) (fun d e => by rw [e]; exact tg_tup3) fun d e => ?_
  refine run_asg (R := IsB) (ev_ifU (et_test1 (ev_op1 (ev_var rfl) (ev_var rfl) (od_in (Or.inl rfl) (shaped_iT _) (shaped_rw _)))) ev_1 ev_0) ?_
  rintro _ ⟨b0, rfl⟩
  refine run_ifK (fun δ' => ∃ b1, δ' = [some (.d (.int form)), some (.d (bT r)), some (.d (rwD ps)), some (.d (.tuple [.int wire, .list (sm.map PyData.int), .int (bi bit)])), some (.d (.int wire)), some (.d (.list (sm.map PyData.int))), some (.d (.int (bi bit))), some (.d (.int (bi b1))), none, none, none]) (et_test1 (ev_op1 (ev_var rfl) (ev_tup (xs := [.int 1, .int 7, .int 9]) (by walk_at "nb_ea")) (od_in (Or.inr rfl) (shaped_int _) (shaped_iL [1, 7, 9])))) ?k (fun _ k => ?a) (fun _ k => run_skip (k _ ⟨b0, rfl⟩))
  case a =>
    have key : Ev K w (tCB (rAny K) (tCons (tLc (iList K (tVar 2)) (gName 8) tYes (tCall (spW K (fun (p : List Bool × List Bool) => [.d (bT p.1), .d (bT p.2)]) (fun _ p => p.1.length = p.2.length ∧ p.1.length ≤ 100) (fun _ z => ∃ b, z = .d (.bool b))) [] E0 (tCons (tVar 8) (tCons (tVar 1) tNil))) [8]) tNil)) [some (.d (.int form)), some (.d (bT r)), some (.d (rwD ps)), some (.d (.tuple [.int wire, .list (sm.map PyData.int), .int (bi bit)])), some (.d (.int wire)), some (.d (.list (sm.map PyData.int))), some (.d (.int (bi bit))), some (.d (.int (bi b0))), none, none, none] (fun z => ∃ c, z = .d (.bool c)) := by
      refine ev_CB (L := fun xs => ∃ bs : List Bool, xs = [.d (.list (bs.map PyData.bool))]) (ea_consN (R := fun z => ∃ bs : List Bool, z = .d (.list (bs.map PyData.bool))) (L := fun z => z = []) ?_ ea_nil ?_) ?_
      · refine Ev.imp (ev_lcL (xs := ps.map fun r => bT r) (fun i acc => ∃ bs : List Bool, acc = bs.map PyData.bool) wipes_name (ev_var rfl) (by rw [List.length_map]; omega) ⟨[], rfl⟩ ?_) fun z ⟨ys, e, bs, e2⟩ => ⟨bs, by rw [e, e2]⟩
        rintro i x acc w' hx ⟨bs, rfl⟩ _
        rw [List.getElem?_map] at hx
        cases hq : ps[i]? with
        | none =>
          rw [hq] at hx
          cases hx
        | some q =>
          rw [hq] at hx
          cases hx
          have hql := hps q (List.mem_of_getElem? hq)
          refine ⟨_, fun x => x = true, tg_name, et_yes, (fun h => nomatch h), fun _ => ?_⟩
          refine Ev.imp (ev_call1 (q, r) (by walk_at "nb_ea") ⟨hql, by show q.length ≤ 100; omega⟩ fun z e => e) fun z ⟨c, e⟩ => ⟨_, e, bs ++ [c], ?_⟩
          rw [List.map_append]
          rfl
      · rintro x ys ⟨bs, rfl⟩ rfl
        exact ⟨bs, rfl⟩
      · rintro xs ⟨bs, rfl⟩
        exact fun vs G H h a Q q => ca_any vs G H h a Q fun z G2 H2 d e a2 r hd => q z G2 H2 d e a2 r ⟨_, hd⟩
    refine run_asg (R := IsB) (ev_ifN (B := fun _ => True) (et_B key fun d ⟨c, e⟩ => ⟨c, e, trivial⟩) ev_1 ev_0) ?_
    rintro _ ⟨b1, rfl⟩
    exact k _ ⟨b1, rfl⟩
  case k =>
    rintro δ' ⟨b1, rfl⟩
    have hre : decide ((r.map bi) = []) = decide (r = []) := decide_eq_decide.mpr ⟨fun h => List.map_eq_nil_iff.mp h, fun h => by rw [h]; rfl⟩
    refine run_if (B := fun x => x = (decide (r = []) || decide (form < 2))) (et_or (b := decide (r = [])) (et_test1 (Ev.is (ev_op1 (ev_var rfl) (ev_tup (xs := []) ea_nil) (od_eqD (shaped_iT _) (shaped_iT []))) (by rw [show PyData.tuple [] = iT [] from rfl, eqv_iT, hre]))) fun _ => et_test1 (ev_ib (f := fun i j => decide (i < j)) (ev_var rfl) ev_int)) (fun _ => run_ret' (Ev.imp (ev_var rfl) fun z e => ⟨b1, e⟩) hret) fun hne => run_skip ?_
    have hrn : r ≠ [] := fun e => by
      rw [e] at hne
      exact nomatch hne
    have hm : 0 < r.length := List.length_pos_iff.mpr hrn
    have hm' : (0 : Int) < r.length := by omega
    have hw1 : wire < r.length := by
      rw [if_neg (by omega)] at w1
      exact w1
    have row0 := row_at (Int.le_refl 0) hm'
    have rowW := row_at w0 hw1
    refine run_if (et_any (et_test1 (ev_eqI (ev_var rfl) ev_int))) (fun _ => run_ret' ?_ hret) fun _ => run_skip ?_
    · refine ev_ifU (et_test1 (ev_eqI (ev_ixT (ev_var rfl) ev_int row0) ev_int)) (Ev.imp (ev_var rfl) fun z e => ⟨b1, e⟩) (ev_not (ev_ifU (et_test1 (ev_op1 (ev_tuple (ev_mapT r (fun b => .int (bi b)) (fun b => .int (bi (!b))) wipes_name (Ev.is (ev_var rfl) (by rw [bT, iT, List.map_map]; rfl)) (by omega) fun v _ w' _ => ⟨_, tg_name, Ev.is (by walk_at "nb_ev") (by rw [bi_not])⟩)) (ev_var rfl) (od_in (Or.inl rfl) ?_ (shaped_rw _)))) ev_1 ev_0))
      have := shaped_iT (r.map fun b => bi (!b))
      rw [iT, List.map_map] at this
      exact this
    have comp : ∀ δ' : Ds, wipeD δ' [10] = δ' → δ'[1]? = some (some (.d (bT r))) → δ'[5]? = some (some (.d (.list (sm.map PyData.int)))) → δ'.length = 11 → Ev1 K w (tLc (iList K (tVar 5)) (gName 10) tYes (tOp (rIxT K) (tVar 1) (tVar 10)) [10]) δ' (.d (.list ((sm.map fun i => bi (rA r i)).map PyData.int))) := fun δ' e0 e1 e5 el => by
      refine Ev.is (ev_mapL sm PyData.int (fun i => .int (bi (rA r i))) wipes_name (ev_var e5) (by omega) fun i hi w' _ => ⟨_, tg_name, ?_⟩) (by rw [List.map_map]; rfl)
      obtain ⟨i0, i1⟩ := hs i hi
      rw [e0]
      refine ev_ixT (ev_var ?_) (ev_var (d := .d (.int i)) ?_) (row_at i0 i1)
      · rw [List.getElem?_set_ne (by decide)]
        exact e1
      · exact List.getElem?_set_self (by omega)
    refine run_if (et_any (et_test1 (ev_eqI (ev_var rfl) ev_int))) (fun _ => run_ret' ?_ hret) fun _ => run_skip ?_
    · refine Ev.imp (ev_iiC (f := fun i j => i % j) (ev_CB1 (ea_cons (ev_ii (f := fun i j => i + j) (ev_CB1 (ea_cons (comp _ rfl rfl rfl rfl) ea_nil) ca_sum) (ev_var rfl)) ea_nil) ca_int) ev_int (by decide)) fun z e => ?_
      rw [e]
      exact isB_of (by omega)
    have minmax : ∀ (x : Bool), ∀ m ∈ (sm.map fun i => bi (rA r i)) ++ [bi x], IsB (.d (.int m)) := fun x m hm => by
      rcases List.mem_append.mp hm with h | h
      · obtain ⟨i, _, e⟩ := List.mem_map.mp h
        exact ⟨rA r i, by rw [e]⟩
      · exact ⟨x, by rw [List.mem_singleton.mp h]⟩
    have cat : ∀ (te : TE) (δ' : Ds), wipeD δ' [10] = δ' → δ'[1]? = some (some (.d (bT r))) → δ'[5]? = some (some (.d (.list (sm.map PyData.int)))) → δ'.length = 11 → Ev K w te δ' IsB → EvA K w (tCons (tOp (NbR.rCatL K) (tLc (iList K (tVar 5)) (gName 10) tYes (tOp (rIxT K) (tVar 1) (tVar 10)) [10]) (tLst (tCons te tNil))) tNil) δ' (fun xs => ∃ x : Bool, xs = [.d (.list (((sm.map fun i => bi (rA r i)) ++ [bi x]).map PyData.int))]) := fun te δ' e0 e1 e5 el h => by
      refine ea_consN (R := fun z => ∃ x : Bool, z = .d (.list (((sm.map fun i => bi (rA r i)) ++ [bi x]).map PyData.int))) (L := fun z => z = []) ?_ ea_nil ?_
      · refine ev_op (R' := fun z => ∃ xs, z = .d (.list xs) ∧ ∃ x : Bool, xs = [.int (bi x)]) (comp δ' e0 e1 e5 el) (ev_lstN (L := fun xs => ∃ x : Bool, xs = [.int (bi x)]) (ea_consN (R := IsB) (L := fun z => z = []) h ea_nil ?_)) ?_
        · rintro _ _ ⟨x, rfl⟩ rfl
          exact ⟨[.int (bi x)], rfl, by simp, x, rfl⟩
        · rintro _ _ rfl ⟨_, rfl, x, rfl⟩
          refine fun v u G H hv hu a Q q => od_catL (by simp; omega) v u G H hv hu a Q fun z G2 H2 d e a2 r hd => q z G2 H2 d e a2 r ⟨x, ?_⟩
          rw [hd, List.map_append]
          rfl
      · rintro _ _ ⟨x, rfl⟩ rfl
        exact ⟨x, rfl⟩
    have hlen : ∀ δ' : Ds, δ'[5]? = some (some (.d (.list (sm.map PyData.int)))) → Ev1 K w (tCB (fun xs H Q => ∃ x n, xs = [x] ∧ LenV K x H n ∧ Q (.int n) H) (tCons (tVar 5) tNil)) δ' (.d (.int (sm.length : Int))) := fun δ' e5 => Ev.is (ev_CB1 (ea_cons (ev_var e5) ea_nil) (ca_len (LenD.list _))) (by rw [List.length_map])
    refine run_if (et_any (et_test1 (ev_eqI (ev_var rfl) ev_int))) (fun _ => run_ret' ?_ hret) fun _ => run_skip ?_
    · refine ev_CB (cat _ _ rfl rfl rfl rfl (ev_ifU (et_test1 (ev_ib (f := fun i j => decide (i > j)) (hlen _ rfl) ev_int)) ev_1 (Ev.imp (ev_var rfl) fun z e => ⟨bit, e⟩))) ?_
      rintro _ ⟨x, rfl⟩
      exact fun vs G H h a Q q => ca_minL (by simp) vs G H h a Q fun z G2 H2 d e a2 r ⟨m, hd, hm, _⟩ => q z G2 H2 d e a2 r (by rw [hd]; exact minmax x m hm)
    refine run_if (et_any (et_test1 (ev_eqI (ev_var rfl) ev_int))) (fun _ => run_ret' ?_ hret) fun _ => run_skip ?_
    · refine ev_CB (cat _ _ rfl rfl rfl rfl (ev_ifU (et_test1 (ev_ib (f := fun i j => decide (i > j)) (hlen _ rfl) ev_int)) ev_0 (Ev.imp (ev_var rfl) fun z e => ⟨bit, e⟩))) ?_
      rintro _ ⟨x, rfl⟩
      exact fun vs G H h a Q q => ca_maxL (by simp) vs G H h a Q fun z G2 H2 d e a2 r ⟨m, hd, hm, _⟩ => q z G2 H2 d e a2 r (by rw [hd]; exact minmax x m hm)
    refine run_if (et_any (et_test1 (ev_ib (f := fun i j => decide (i < j)) (ev_var rfl) ev_int))) (fun _ => run_ret' ?_ hret) fun _ => run_skip ?_
    · refine ev_ifU (et_test1 (ev_ib (f := fun i j => decide (i < j)) (ev_var rfl) ev_int)) ?_ ?_
      · refine Ev.imp (ev_CB1 (ea_cons (ev_ixT (ev_var rfl) (ev_var rfl) rowW) (ea_cons (ev_var rfl) ea_nil)) ca_min2) fun z e => ?_
        rw [e]
        refine isB_of ?_
        have h1 := bi_or (rA r wire)
        have h2 := bi_or b1
        split <;> assumption
      · refine Ev.imp (ev_CB1 (ea_cons (ev_ixT (ev_var rfl) (ev_var rfl) rowW) (ea_cons (ev_var rfl) ea_nil)) ca_max2) fun z e => ?_
        rw [e]
        refine isB_of ?_
        have h1 := bi_or (rA r wire)
        have h2 := bi_or b1
        split <;> assumption
    have hsum : ∀ δ' : Ds, δ'[1]? = some (some (.d (bT r))) → Ev1 K w (tCB (NbS.rSumT K) (tCons (tVar 1) tNil)) δ' (.d (.int (r.map bi).sum)) := fun δ' e1 => ev_CB1 (ea_cons (ev_var e1) ea_nil) ca_sumT
    refine run_if (et_any (et_and (et_test1 (ev_eqI (ev_var rfl) ev_int)) fun _ => et_test1 (ev_eqI (ev_CB1 (ea_cons (ev_var rfl) ea_nil) (ca_len (LenD.tuple _))) ev_int))) (fun _ => run_ret' ?_ hret) fun _ => run_skip ?_
    · exact ev_ifU (et_or (et_test1 (ev_eqI (hsum _ rfl) ev_int)) fun _ => et_and (et_test1 (ev_eqI (hsum _ rfl) ev_int)) fun _ => et_test1 (ev_eqI (ev_var rfl) ev_int)) ev_1 ev_0
    refine run_if (et_any (et_test1 (ev_eqI (ev_var rfl) ev_int))) (fun _ => run_ret' ?_ hret) fun _ => run_skip ?_
    · refine Ev.imp (ev_ixL (x := .int (if bit then 1 - bi (rA r wire) else bi (rA r wire))) (ev_lst (xs := [.int (bi (rA r wire)), .int (1 - bi (rA r wire))]) (ea_cons (ev_ixT (ev_var rfl) (ev_var rfl) rowW) (ea_cons (ev_ii (f := fun i j => i - j) ev_int (ev_ixT (ev_var rfl) (ev_var rfl) rowW)) ea_nil)) (by simp)) (ev_var rfl) ?_) fun z e => ?_
      · cases bit <;> rfl
      · rw [e]
        refine isB_of ?_
        have h1 := bi_or (rA r wire)
        cases bit
        · exact h1
        · show 1 - bi (rA r wire) = 0 ∨ 1 - bi (rA r wire) = 1
          omega
    · have hn : 0 < (r.map bi).length := by rw [List.length_map]; exact hm
      refine run_ret (ev_ifN (B := fun _ => True) ?_ (Ev.imp (ev_ixT (ev_var rfl) ev_int row0) fun z e => ⟨_, e⟩) (Ev.imp (ev_var rfl) fun z e => ⟨b1, e⟩)) hret
      refine et_orN (B := fun _ => True) (et_any (et_and (et_test1 (ev_ib (f := fun i j => decide (i < j)) (hlen _ rfl) ev_int)) fun _ => et_test1 (ev_eqI (ev_var rfl) ev_int))) (fun _ => ?_) fun _ => trivial
      refine et_test (R := fun z => ∃ c, z = .d (.bool c)) (ev_op (ev_CB1 (ea_cons (ev_var rfl) ea_nil) (ca_minT hn)) (ev_CB1 (ea_cons (ev_var rfl) ea_nil) (ca_maxT hn)) ?_) fun d ⟨c, e⟩ => ⟨c, e, trivial⟩
      rintro _ _ ⟨m1, rfl, _⟩ ⟨m2, rfl, _⟩
      exact fun v u G H hv hu a Q q => od_eqI v u G H hv hu a Q fun z G2 H2 d e a2 r hd => q z G2 H2 d e a2 r ⟨_, hd⟩
end Nb
end
section
set_option Elab.async false
set_option linter.all false
set_option maxRecDepth 100000
set_option maxHeartbeats 4000000
/-! law: a table, the drawing state. -/
namespace Nb
open PySem L2
local macro_rules | `(tactic| walk_at "nb_isi") => `(tactic| first | exact isi_ii | exact isi_ib | exact isi_ss | exact isi_tt | exact isi_ll | exact isi_lt)
local macro_rules | `(tactic| walk_at "nb_side") => `(tactic| first | assumption | (show CMul _ _; first | exact Or.inr ⟨by decide, by decide⟩ | exact Or.inl ⟨by decide, by decide⟩ | exact Or.inr ⟨by omega, by omega⟩ | exact Or.inl ⟨by omega, by omega⟩) | (show CDiv _ _; exact ⟨by omega, by omega⟩) | (show CPow _ _; exact ⟨by omega, by omega, by omega⟩) | decide | omega | rfl)
local macro_rules | `(tactic| walk_at "nb_ev") => `(tactic| first
  | exact ev_var rfl
  | exact ev_int
  | exact ev_str
  | exact ev_bl
  | exact ev_non
  | (refine' ev_isi ?h1 ?h2; (case h1 => walk_at "nb_ev"); (case h2 => walk_at "nb_isi"))
  | (refine' ev_isi2 ?h1 ?h2 ?h3; (case h1 => walk_at "nb_ev"); (case h2 => walk_at "nb_isi"); (case h3 => walk_at "nb_isi"))
  | (refine' ev_ii ?h1 ?h2; (case h1 => walk_at "nb_ev"); (case h2 => walk_at "nb_ev"))
  | (refine' ev_ib ?h1 ?h2; (case h1 => walk_at "nb_ev"); (case h2 => walk_at "nb_ev"))
  | (refine' ev_iiC ?h1 ?h2 ?h3; (case h1 => walk_at "nb_ev"); (case h2 => walk_at "nb_ev"); (case h3 => walk_at "nb_side"))
  | (refine' ev_eqI ?h1 ?h2; (case h1 => walk_at "nb_ev"); (case h2 => walk_at "nb_ev"))
  | (refine' ev_neI ?h1 ?h2; (case h1 => walk_at "nb_ev"); (case h2 => walk_at "nb_ev"))
  | (refine' ev_eqS ?h1 ?h2; (case h1 => walk_at "nb_ev"); (case h2 => walk_at "nb_ev"))
  | (refine' ev_neS ?h1 ?h2; (case h1 => walk_at "nb_ev"); (case h2 => walk_at "nb_ev"))
  | (refine' ev_neg ?h1; (case h1 => walk_at "nb_ev"))
  | (refine' ev_andV ?h1 (fun _ => ?h2); (case h1 => walk_at "nb_ev"); (case h2 => walk_at "nb_ev"))
  | (refine' ev_orV ?h1 (fun _ => ?h2); (case h1 => walk_at "nb_ev"); (case h2 => walk_at "nb_ev"))
  | (refine' ev_notV ?h1; (case h1 => walk_at "nb_ev"))
  | walk_at "nb_call")
local macro_rules | `(tactic| walk_at "nb") => `(tactic| (refine' Ev.is ?h ?e; (case h => walk_at "nb_ev"); (try rfl)))
local macro_rules | `(tactic| walk_at "nb_ea") => `(tactic| first | exact ea_nil | (refine' ea_cons ?h1 ?h2; (case h1 => walk_at "nb_ev"); (case h2 => walk_at "nb_ea")))
abbrev OK_law_table (P : Program) (w0 : World) (K : Kx) (mg : Str → Option Value) (base : Heap) : Prop := Ok P w0 K mg base 3 "_law_table" ["_law_heap_here", "_law_many", "_law_form"] (spW K (fun (p : (Addr × Addr) × ({k : Nat // k ≤ 3} × Int)) => [.ob p.1.1, .d (.int (p.2.1.1 : Int)), .d (.int p.2.2)]) (fun w p => Un w p.1) (fun p z => ∃ t : Tb, t.k = p.2.1.1 ∧ z = .d (bT t.t)))
theorem ok_law_table {P : Program} {w0 : World} {K : Kx} {mg : Str → Option Value} {base : Heap} (T : Tx K mg) (h__law_draw : OK_law_draw P w0 K mg base) (h__law_pick : OK_law_pick P w0 K mg base) (h__law_settings : OK_law_settings P w0 K mg base) (h__law_value : OK_law_value P w0 K mg base) : OK_law_table P w0 K mg base := by
  refine fn_ok T.d_law_table sc_law_table (fun _ => rfl) bi_law_table fun f cdv A outer s H E hr => ⟨_, (pss_cons (ps_set (i := 3) sc_law_table.nd rfl (Or.inr rfl) (pe_f h__law_settings hr (pa_cons (pv 1) pa_nil)))
      (pss_cons (ps_set (i := 4) sc_law_table.nd rfl (Or.inr rfl) (pe_f h__law_pick hr (pa_cons (pv 0) (pa_cons (pe_lst (pa_cons pe_int (pa_cons pe_int (pa_cons pe_int (pa_cons pe_int pa_nil))))) pa_nil))))
      (pss_cons (ps_set (i := 5) sc_law_table.nd rfl (Or.inr rfl) (pe_ifExp (pt_cmpR op_lt (pv 1) pe_int (nomark _)) (pe_lc (own := [("_law_row", 8)]) (g := (gName 8)) rfl sc_law_table.nd (pi_list (pv 3)) (blkOk_by (N := N_law_table) (sc := (defScope s_law_table)) (by decide +kernel)) (fun _ _ _ _ _ => (pg_name (i := 8) sc_law_table.nd rfl (Or.inl rfl))) (fun _ _ _ _ _ => (pts_one (pt_cmpR op_eq (pe_f h__law_draw hr (pa_cons (pv 0) (pa_cons (pv 4) pa_nil))) pe_int (nomark _)))) (fun _ _ _ _ _ => (pv 8))) pe_nev))
      (pss_cons (ps_setLc (i := 6) (own := [("_law_at", 10)]) (g := (gName 10)) rfl sc_law_table.nd rfl rfl (sw_true rfl rfl rfl (by decide +kernel)) (pi_range1 rfl T.b_range (pa_cons (pv 1) pa_nil)) (blkOk_by (N := N_law_table) (sc := (defScope s_law_table)) (by decide +kernel)) (fun _ _ _ _ _ => (pg_name (i := 10) sc_law_table.nd rfl (Or.inl rfl))) (fun _ _ _ _ _ => (pts_one (pt_cmpR op_gt (pe_f h__law_draw hr (pa_cons (pv 0) (pa_cons pe_int pa_nil))) pe_int (nomark _)))) (fun _ _ _ _ _ => (pv 10)))
      (pss_cons (ps_set (i := 7) sc_law_table.nd rfl (Or.inr rfl) (pe_tup (pa_cons (pe_f h__law_draw hr (pa_cons (pv 0) (pa_cons (pe_callB (call_max2 rfl) (by rfl) T.b_max (by decide +kernel) (pa_cons (pv 1) (pa_cons pe_int pa_nil))) pa_nil))) (pa_cons (pv 6) (pa_cons (pe_f h__law_draw hr (pa_cons (pv 0) (pa_cons pe_int pa_nil))) pa_nil)))))
      (pss_one (ps_ret (pe_tupleOf rfl T.b_tuple (pe_lc (own := [("_law_row", 8)]) (g := (gName 8)) (tt := tYes) rfl sc_law_table.nd (pi_list (pv 3)) (blkOk_by (N := N_law_table) (sc := (defScope s_law_table)) (by decide +kernel)) (fun _ _ _ _ _ => (pg_name (i := 8) sc_law_table.nd rfl (Or.inl rfl))) (fun _ _ _ _ _ => pts_nil) (fun _ _ _ _ _ => (pe_f h__law_value hr (pa_cons (pv 2) (pa_cons (pv 8) (pa_cons (pv 5) (pa_cons (pv 7) pa_nil))))))))))))))), fun b w D a hp hret hn => ?_⟩
  obtain ⟨⟨hh, l⟩, ⟨⟨k, hk⟩, form⟩⟩ := a
  have hw : Un w (hh, l) := hp
  have hret : RetO K b w D (fun z => ∃ t : Tb, t.k = k ∧ z = .d (bT t.t)) := hret
  have hl8 : (rowsB k).length ≤ 8 := by rw [rowsB_len]; exact pow3 hk
  refine run_asg1 (ev_call1 k (by walk_at "nb_ea") hk fun z e => e) ?_
  refine run_asg (R := fun z => ∃ y, z = .d y ∧ y ∈ ([.int 2, .int 2, .int 3, .int 4] : List PyData)) (ev_call1 ((hh, l), (Da.d (.list [.int 2, .int 2, .int 3, .int 4]), [.int 2, .int 2, .int 3, .int 4])) (ea_cons (ev_var rfl) (ea_cons (ev_lst (xs := [.int 2, .int 2, .int 3, .int 4]) (by walk_at "nb_ea")) ea_nil)) (pkp hw (.inl rfl) (by decide) (by decide)) fun z e => e) ?_
  rintro _ ⟨y, rfl, hy⟩
  obtain ⟨sh, s1, s2, rfl⟩ : ∃ sh : Int, 1 ≤ sh ∧ sh < 1073741824 ∧ y = .int sh := by
    simp only [List.mem_cons, List.not_mem_nil, or_false] at hy
    rcases hy with rfl | rfl | rfl | rfl <;> exact ⟨_, by decide, by decide, rfl⟩
  refine run_asg (R := fun z => ∃ ps : List (List Bool), z = .d (rwD ps) ∧ (∀ q ∈ ps, q ∈ rowsB k) ∧ ps.length ≤ 8) (ev_if (B := fun x => x = true) (EvT.is (et_test1 (ev_ib (f := fun i j => decide (i < j)) (ev_var rfl) ev_int)) (decide_eq_true (show (k : Int) < 5 by omega))) (fun _ => ?_) fun h => nomatch h) ?_
  · refine Ev.imp (ev_lcL (xs := (rowsB k).map fun r => bT r) (fun i acc => ∃ ps : List (List Bool), acc = ps.map (fun r => bT r) ∧ (∀ q ∈ ps, q ∈ rowsB k) ∧ ps.length ≤ i) wipes_name (ev_var rfl) (by rw [List.length_map]; omega) ⟨[], rfl, by simp, Nat.le_refl _⟩ ?_) ?_
    · rintro i x acc w' hx ⟨ps, rfl, hps, hpl⟩ hr'
      have hw' : Un w' (hh, l) := hr'.trans hw
      rw [List.getElem?_map] at hx
      cases hq : (rowsB k)[i]? with
      | none =>
        rw [hq] at hx
        cases hx
      | some q =>
        rw [hq] at hx
        cases hx
        refine ⟨_, fun _ => True, tg_name, ?_, fun _ => ⟨ps, rfl, hps, Nat.le_succ_of_le hpl⟩, fun _ => ?_⟩
        · refine et_test (R := fun z => ∃ c, z = .d (.bool c)) (ev_op (R' := fun z => z = .d (.int 0)) (ev_call1 ((hh, l), sh) (by walk_at "nb_ea") (drp hw' s1 s2) fun z e => e) ev_int ?_) fun d ⟨c, e⟩ => ⟨c, e, trivial⟩
          rintro _ _ ⟨m1, rfl, _⟩ rfl
          exact fun v u G H hv hu a Q q => od_eqI v u G H hv hu a Q fun z G2 H2 d e a2 r hd => q z G2 H2 d e a2 r ⟨_, hd⟩
        · refine Ev.imp (ev_var rfl) fun z e => ⟨_, e, ps ++ [q], by rw [List.map_append]; rfl, fun q' hq' => ?_, by rw [List.length_append]; exact Nat.succ_le_succ hpl⟩
          rcases List.mem_append.mp hq' with h | h
          · exact hps q' h
          · rw [List.mem_singleton.mp h]
            exact List.mem_of_getElem? hq
    · rintro z ⟨ys, e, ps, e2, h1, h2⟩
      rw [List.length_map] at h2
      exact ⟨ps, by rw [e, e2], h1, by omega⟩
  rintro _ ⟨ps, rfl, hps, hpl⟩
  refine run_asg (R := fun z => ∃ sm : List Int, z = .d (.list (sm.map PyData.int)) ∧ (∀ i ∈ sm, 0 ≤ i ∧ i < k) ∧ sm.length ≤ 3) ?_ ?_
  · refine Ev.imp (ev_lcR (n := (k : Int)) (fun i acc => ∃ sm : List Int, acc = sm.map PyData.int ∧ (∀ j ∈ sm, 0 ≤ j ∧ j < k) ∧ sm.length ≤ i) wipes_name (by walk_at "nb_ea") ⟨by omega, by omega⟩ ⟨[], rfl, by simp, Nat.le_refl _⟩ ?_) ?_
    · rintro i acc w' hi ⟨sm, rfl, hsm, hsl⟩ hr'
      have hw' : Un w' (hh, l) := hr'.trans hw
      refine ⟨_, fun _ => True, tg_name, ?_, fun _ => ⟨sm, rfl, hsm, Nat.le_succ_of_le hsl⟩, fun _ => ?_⟩
      · refine et_test (R := fun z => ∃ c, z = .d (.bool c)) (ev_op (R' := fun z => z = .d (.int 0)) (ev_call1 ((hh, l), 3) (by walk_at "nb_ea") (drp hw' (by decide) (by decide)) fun z e => e) ev_int ?_) fun d ⟨c, e⟩ => ⟨c, e, trivial⟩
        rintro _ _ ⟨m1, rfl, _⟩ rfl
        exact fun v u G H hv hu a Q q => od_ib (f := fun i j => decide (i > j)) v u G H hv hu a Q fun z G2 H2 d e a2 r hd => q z G2 H2 d e a2 r ⟨_, hd⟩
      · refine Ev.imp (ev_var rfl) fun z e => ⟨_, e, sm ++ [(i : Int)], by rw [List.map_append]; rfl, fun j hj => ?_, by rw [List.length_append]; exact Nat.succ_le_succ hsl⟩
        rcases List.mem_append.mp hj with h | h
        · exact hsm j h
        · rw [List.mem_singleton.mp h]
          omega
    · rintro z ⟨ys, e, sm, e2, h1, h2⟩
      exact ⟨sm, by rw [e, e2], h1, by omega⟩
  rintro _ ⟨sm, rfl, hsm, hsl⟩
  have hmx : (if (1 : Int) > (k : Int) then (1 : Int) else (k : Int)) ≥ 1 ∧ (if (1 : Int) > (k : Int) then (1 : Int) else (k : Int)) < 1073741824 := by
    split <;> omega
  refine run_asg (R := fun z => ∃ (wire : Int) (bit : Bool), z = .d (.tuple [.int wire, .list (sm.map PyData.int), .int (bi bit)]) ∧ 0 ≤ wire ∧ wire < (if (1 : Int) > (k : Int) then (1 : Int) else (k : Int))) ?_ ?_
  · refine Ev.imp (ev_tupN (L := fun xs => ∃ (wire : Int) (bit : Bool), xs = [.int wire, .list (sm.map PyData.int), .int (bi bit)] ∧ 0 ≤ wire ∧ wire < (if (1 : Int) > (k : Int) then (1 : Int) else (k : Int))) (ea_consN (R := fun z => ∃ i, z = .d (.int i) ∧ 0 ≤ i ∧ i < (if (1 : Int) > (k : Int) then (1 : Int) else (k : Int))) (L := fun xs => ∃ (bit : Bool), xs = [.d (.list (sm.map PyData.int)), .d (.int (bi bit))]) ?_ (ea_consN (L := fun xs => ∃ (bit : Bool), xs = [.d (.int (bi bit))]) (ev_var rfl) (ea_consN (R := IsB) (L := fun xs => xs = []) ?_ ea_nil ?_) ?_) ?_)) ?_
    · exact ev_call1 ((hh, l), _) (ea_cons (ev_var rfl) (ea_cons (ev_CB1 (by walk_at "nb_ea") ca_max2) ea_nil)) (drp hw hmx.1 hmx.2) fun z e => e
    · refine Ev.imp (ev_call1 ((hh, l), 2) (by walk_at "nb_ea") (drp hw (by decide) (by decide)) fun z e => e) fun z ⟨i, e, i0, i1⟩ => ?_
      rw [e]
      exact isB_of (by have i1 : i < 2 := i1; omega)
    · rintro _ _ ⟨v, rfl⟩ rfl
      exact ⟨v, rfl⟩
    · rintro _ _ rfl ⟨v, rfl⟩
      exact ⟨v, rfl⟩
    · rintro _ _ ⟨i, rfl, i0, i1⟩ ⟨v, rfl⟩
      exact ⟨[.int i, .list (sm.map PyData.int), .int (bi v)], rfl, by simp, i, v, rfl, i0, i1⟩
    · rintro z ⟨xs, e, wire, bit, e2, h1, h2⟩
      exact ⟨wire, bit, by rw [e, e2], h1, h2⟩
  rintro _ ⟨wire, bit, rfl, w0, w1⟩
  refine run_ret (Ev.imp (ev_tupleN (L := fun xs => ∃ bs : List Bool, xs = (bs.map bi).map PyData.int ∧ bs.length = 2 ^ k) ?_) ?_) hret
  · refine Ev.imp (ev_lcL (xs := (rowsB k).map fun r => bT r) (fun i acc => ∃ bs : List Bool, acc = (bs.map bi).map PyData.int ∧ bs.length = i) wipes_name (ev_var rfl) (by rw [List.length_map]; omega) ⟨[], rfl, rfl⟩ ?_) ?_
    · rintro i x acc w' hx ⟨bs, rfl, hbl⟩ hr'
      rw [List.getElem?_map] at hx
      cases hq : (rowsB k)[i]? with
      | none =>
        rw [hq] at hx
        cases hx
      | some q =>
        rw [hq] at hx
        cases hx
        have hql := rowsB_mem k q (List.mem_of_getElem? hq)
        refine ⟨_, fun x => x = true, tg_name, et_yes, (fun h => nomatch h), fun _ => ?_⟩
        refine Ev.imp (ev_call1 (VA.mk form q ps wire sm bit) (by walk_at "nb_ea") ⟨by show q.length ≤ 3; omega, fun q' hq' => by show q'.length = q.length; rw [hql, rowsB_mem k q' (hps q' hq')], by show ps.length ≤ 100; omega, w0, by show wire < if (1 : Int) > (q.length : Int) then (1 : Int) else (q.length : Int); rw [hql]; exact w1, fun j hj => by show 0 ≤ j ∧ j < (q.length : Int); rw [hql]; exact hsm j hj, by show sm.length ≤ 100; omega⟩ fun z e => e) fun z ⟨v, e⟩ => ⟨_, e, bs ++ [v], by rw [List.map_append, List.map_append]; rfl, by rw [List.length_append, hbl]; rfl⟩
    · rintro z ⟨ys, e, bs, e2, h2⟩
      rw [List.length_map, rowsB_len] at h2
      exact ⟨ys, e, bs, e2, h2⟩
  · rintro z ⟨xs, e, bs, e2, h2⟩
    exact ⟨⟨k, bs, hk, h2⟩, rfl, by rw [e, e2]⟩

/-! ### the drawing state is made -/
section
variable {K : Kx} {b : Hp} {w : Wd} {D : Ends} {te tl tb : TE} {tt : TT} {δ : Ds} {g : TG} {vs : List Nat}
theorem At.mkrnd {G H : Hp} {hh p : Addr} {cs : List Int} {z : Int} (a : At K (w.add p (.lst (cs.map PyData.int))) G H) (hw : w.rnd = none) (hf : H hh = none) (o : RnOk z cs) : At K (w.rd ⟨hh, p, none⟩) G (upd H hh (.lst [.ref p, .int z])) := by
  obtain ⟨acc, top, da⟩ := a.top
  have ea := ints_dpAll da
  subst ea
  have n : p ≠ hh := fun e => by
    subst e
    rw [top] at hf
    cases hf
  have hout : hh ∉ w.fix.map (·.1) := a.pop.out hf
  refine ⟨fun c u e => ?_, fun q hq => ?_, a.pop.nd, fun q hq => ?_⟩
  · rw [upd_ne (ne_of_none e (a.freeG hf))]
    exact a.ex c u e
  · have nq : q.1 ≠ hh := fun e => hout (List.mem_map.mpr ⟨q, hq, e⟩)
    obtain ⟨h1, h2⟩ := a.pop.hid q hq
    exact ⟨h1, h2.keep (Evl.Ex.refl G) (upd_ne nq)⟩
  · cases hq
    exact ⟨a.freeG hf, a.topG, n.symm, hout, a.topOut, z, cs, upd_same, by rw [upd_ne n]; exact top, fun k e => (nomatch e), o.z0, o.z1, o.c0, o.len⟩
/-- [xs[::-1], z], both new: the drawing state -/
theorem run_retH {i : Nat} {z : Int} (hw : w.rnd = none) (h : Ev K w te δ fun z => ∃ cs : List Int, z = .d (.list (cs.map PyData.int)) ∧ (∀ c ∈ cs, 0 ≤ c) ∧ cs.length ≤ 63) (hz : δ[i]? = some (some (.d (.int z)))) (z0 : 0 ≤ z) (z1 : z < 2147483647)
    (k : ∀ hh l G H, Ex b G → At K (w.rd ⟨hh, l, none⟩) G H → D.rt (.ref hh) H) : Run K b w D (tRet (tLst (tCons (tRevL K te) (tCons (tVar i) tNil)))) δ := fun σ G H e s a =>
  h σ G H s a _ fun v G1 H1 d e1 a1 r1 ⟨cs, h1, c0, cl⟩ => by
    subst h1
    cases (show Dp K G1 v (.list _) from r1) with
    | lst x1 x2 =>
      have ex2 := ints_dpAll x2
      subst ex2
      refine ⟨_, _, rfl, Evl.ex_l a1.ex x1, fun p hp => ?_⟩
      obtain ⟨u, su, ru⟩ := (s.ex e1).at_ i _ hz
      cases (show Dp K G1 u (.int z) from ru)
      refine ⟨_, su, ?_⟩
      rw [← List.map_reverse]
      have a2 : At K (w.add p (.lst (cs.reverse.map PyData.int))) G1 (upd H1 p (.lst (cs.reverse.map V.int))) := a1.push hp ⟨_, upd_same, dpAll_ints _⟩
      refine ⟨by show 2 ≤ sizeLine; decide, fun hh hf => ?_⟩
      exact k hh p G1 _ (Evl.Ex.trans e e1) (a2.mkrnd hw hf ⟨z0, z1, fun c hc => c0 c (List.mem_reverse.mp hc), by rw [List.length_reverse]; exact cl⟩)
end
/-- the drawing state, made from the script -/
def spHeap (K : Kx) : Sp := fun vs H Q _ => ∃ w G, ∃ (sc : List Int), At K w G H ∧ w.rnd = none ∧ DrAll K G vs [.d (.list (sc.map PyData.int)), .d (.int 7)] ∧ ∀ hh l G1 H1, Ex G G1 → At K (w.rd ⟨hh, l, none⟩) G1 H1 → Q (.ref hh) H1
theorem fn_okS {P : Program} {w0 : World} {K : Kx} {mg : Str → Option Value} {base : Heap} {x : Str} {st : Stmt} {N ps : List Str} {k : Nat} {sp : Sp} (F : Df K mg x st) (S : FnScope N ps (defScope st)) (len : ∀ vs H Q E, sp vs H Q E → vs.length = ps.length)
    (hb : ∀ (kV doc pm : Value) (an : Option Addr) (cdv ct : Value) (us : List Value), us.length = ps.length → bindArgs (PySem.W.fnOf x x (defArgs st) (defBody st) (defScope st) .none kV doc pm an cdv ct) ⟨us, []⟩ = pure (ps.zip us))
    (body : ∀ (f : Addr) (cdv : Value) (A : Around) (outer : List Env) (s : Shared) (H : Hp) (E : XK), Room k (A.deeper (PyProof.Rows.envOfC x (defScope st) s.heap.objs.size f cdv)) →
      ∃ t, PSs (cxOf CX0 P w0 K mg base N x (defScope st) f cdv A outer s H E).nox (defBody st) t ∧ ∀ vs Q E', sp vs H Q E' → t { nx := fun _ H' => Q .non H', rt := Q } (start N vs) H) : Ok P w0 K mg base (k + 1) x ps sp := by
  obtain ⟨fd, FD⟩ := F.fn
  refine ⟨F.at_, FD.kp, fd, FunD.ok FD S len (fun cdv A outer s H vs Q E hr h => ?_), FD.bindsN hb, .of FD⟩
  obtain ⟨t, ht, hrun⟩ := body (He.ga K x) cdv A outer s H E hr
  exact ⟨t, PSs.nox ht, hrun vs Q E h⟩
theorem cut63 (sc : List PyData) : cutD sc none (some 63) = sc.take 63 := by
  unfold cutD
  rw [show (some (63 : Int)) = some ((63 : Nat) : Int) from rfl, HT.sIx_nat, HT.sIx_none, List.drop_zero, Nat.sub_zero]
  by_cases h : 63 ≤ sc.length
  · rw [Nat.min_eq_left h]
  · rw [Nat.min_eq_right (by omega), List.take_of_length_le (Nat.le_refl _), List.take_of_length_le (by omega)]
abbrev OK_law_heap (P : Program) (w0 : World) (K : Kx) (mg : Str → Option Value) (base : Heap) : Prop := Ok P w0 K mg base 1 "_law_heap" ["_law_script", "_law_base"] (spHeap K)
theorem ok_law_heap {P : Program} {w0 : World} {K : Kx} {mg : Str → Option Value} {base : Heap} (T : Tx K mg) : OK_law_heap P w0 K mg base := by
  refine fn_okS T.d_law_heap sc_law_heap (fun vs H Q E h => by obtain ⟨w, G, sc, _, _, r, _⟩ := h; have := Paired.length r; exact this) bi_law_heap fun f cdv A outer s H E hr => ⟨_, (pss_cons (ps_setLc (i := 2) (own := [("_law_cell", 4)]) (g := (gName 4)) (tt := tYes) rfl sc_law_heap.nd rfl rfl (sw_true rfl rfl rfl (by decide +kernel)) (pi_list (pe_slice sl_list (pv 0) po_none (po_some pe_int))) (blkOk_by (N := N_law_heap) (sc := (defScope s_law_heap)) (by decide +kernel)) (fun _ _ _ _ _ => (pg_name (i := 4) sc_law_heap.nd rfl (Or.inl rfl))) (fun _ _ _ _ _ => pts_nil) (fun _ _ _ _ _ => (pe_callB call_abs (by rfl) T.b_abs (by decide +kernel) (pa_cons (pe_callTy call_int1 (by rfl) T.b_int (by decide +kernel) (pa_cons (pv 4) pa_nil)) pa_nil))))
      (pss_cons (ps_set (i := 3) sc_law_heap.nd rfl (Or.inl rfl) (pe_op op_add pe_int (pe_op op_mul pe_int (pv 1))))
      (pss_cons (ps_for PassesOwn.never rfl (pi_list (pv 2)) (pg_name (i := 4) sc_law_heap.nd rfl (Or.inl rfl)) (pss_one (ps_set (i := 3) sc_law_heap.nd rfl (Or.inl rfl) (pe_op op_mod (pe_callTy call_int1 (by rfl) T.b_int (by decide +kernel) (pa_cons (pe_op op_add (pe_op op_add (pe_op op_mul (pv 3) pe_int) (pe_op op_mod (pv 4) pe_int)) pe_int) pa_nil)) pe_int))))
      (pss_one (ps_ret (pe_lst (pa_cons (pe_revL (pe_lc (own := [("_law_cell", 4)]) (g := (gName 4)) rfl sc_law_heap.nd (pi_list (pv 2)) (blkOk_by (N := N_law_heap) (sc := (defScope s_law_heap)) (by decide +kernel)) (fun _ _ _ _ _ => (pg_name (i := 4) sc_law_heap.nd rfl (Or.inl rfl))) (fun _ _ _ _ _ => (pts_one (pt_cmpR op_ge (pv 4) (pe_op op_pow pe_int pe_int) (nomark _)))) (fun _ _ _ _ _ => (pv 4)))) (pa_cons (pv 3) pa_nil)))))))), ?_⟩
  rintro vs Q E' ⟨w, G, sc, at_, hw, r, q⟩
  suffices Run K G w { nx := fun _ H' => Q .non H', rt := Q } _ (startD N_law_heap [.d (.list (sc.map PyData.int)), .d (.int 7)]) from this _ G H (Evl.Ex.refl G) (sl_start r) at_
  have k : ∀ hh l G' H', Ex G G' → At K (w.rd ⟨hh, l, none⟩) G' H' → Q (.ref hh) H' := q
  refine run_asg (R := fun z => ∃ cs : List Int, z = .d (.list (cs.map PyData.int)) ∧ (∀ c ∈ cs, 0 ≤ c) ∧ cs.length ≤ 63) ?_ ?_
  · refine Ev.imp (ev_lcL (xs := (sc.take 63).map PyData.int) (fun i acc => ∃ cs : List Int, acc = cs.map PyData.int ∧ (∀ c ∈ cs, 0 ≤ c) ∧ cs.length ≤ i) wipes_name (Ev.is (ev_slL (ev_var rfl) eo_no (eo_part ev_int)) (by rw [cut63, List.map_take])) (by rw [List.length_map]; have := List.length_take_le 63 sc; omega) ⟨[], rfl, by simp, Nat.le_refl _⟩ ?_) ?_
    · rintro i x acc w' hx ⟨cs, rfl, c0, cl⟩ _
      rw [List.getElem?_map] at hx
      cases hq : (sc.take 63)[i]? with
      | none =>
        rw [hq] at hx
        cases hx
      | some c =>
        rw [hq] at hx
        cases hx
        refine ⟨_, fun x => x = true, tg_name, et_yes, (fun h => nomatch h), fun _ => ?_⟩
        refine Ev.imp (ev_CB1 (ea_cons (ev_CB1 (ea_cons (ev_var rfl) ea_nil) ca_int) ea_nil) ca_abs) fun z e => ⟨_, e, cs ++ [if c < 0 then -c else c], by rw [List.map_append]; rfl, fun x hx => ?_, by rw [List.length_append]; exact Nat.succ_le_succ cl⟩
        rcases List.mem_append.mp hx with h | h
        · exact c0 x h
        · rw [List.mem_singleton.mp h]
          split <;> omega
    · rintro z ⟨ys, e, cs, e2, h1, h2⟩
      rw [List.length_map] at h2
      exact ⟨cs, by rw [e, e2], h1, Nat.le_trans h2 (List.length_take_le 63 sc)⟩
  rintro _ ⟨cs, rfl, c0, cl⟩
  refine run_asg1 (d := .d (.int 45932)) (Ev.is (ev_ii (f := fun i j => i + j) ev_int (ev_iiC (f := fun i j => i * j) ev_int (ev_var rfl) (Or.inl ⟨by decide, by decide⟩))) rfl) ?_
  refine run_forL (xs := cs.map PyData.int) (fun i w' δ' => w' = w ∧ ∃ (z : Int) (o : Option Da), 0 ≤ z ∧ z < 2147483647 ∧ δ' = [some (.d (.list (sc.map PyData.int))), some (.d (.int 7)), some (.d (.list (cs.map PyData.int))), some (.d (.int z)), o]) (ev_var rfl) ⟨rfl, 45932, none, by decide, by decide, rfl⟩ ?_ ?_
  · rintro i x w' δ' b' hx ⟨rfl, z, o, z0, z1, rfl⟩ hb
    rw [List.getElem?_map] at hx
    cases hq : cs[i]? with
    | none =>
      rw [hq] at hx
      cases hx
    | some c =>
      rw [hq] at hx
      cases hx
      refine ⟨_, tg_name, run_tail (run_asg1 (ev_iiC (f := fun i j => i % j) (ev_CB1 (ea_cons (ev_ii (f := fun i j => i + j) (ev_ii (f := fun i j => i + j) (ev_iiC (f := fun i j => i * j) (ev_var rfl) ev_int (Or.inr ⟨by decide, by decide⟩)) (ev_iiC (f := fun i j => i % j) (ev_var rfl) ev_int (by decide))) ev_int) ea_nil) ca_int) ev_int (by decide)) (run_nx ⟨rfl, _, _, Int.emod_nonneg _ (by decide), Int.emod_lt_of_pos _ (by decide), rfl⟩))⟩
  · rintro w' δ' ⟨rfl, z, o, z0, z1, rfl⟩
    refine run_retH hw ?_ rfl z0 z1 k
    refine Ev.imp (ev_lcL (xs := cs.map PyData.int) (fun i acc => ∃ ds : List Int, acc = ds.map PyData.int ∧ (∀ c ∈ ds, 0 ≤ c) ∧ ds.length ≤ i) wipes_name (ev_var rfl) (by rw [List.length_map]; omega) ⟨[], rfl, by simp, Nat.le_refl _⟩ ?_) ?_
    · rintro i x acc w2 hx ⟨ds, rfl, d0, dl⟩ _
      rw [List.getElem?_map] at hx
      cases hq : cs[i]? with
      | none =>
        rw [hq] at hx
        cases hx
      | some c =>
        rw [hq] at hx
        cases hx
        refine ⟨_, fun _ => True, tg_name, et_any (et_test1 (ev_ib (f := fun i j => decide (i ≥ j)) (ev_var rfl) (ev_iiC (f := fun i j => i ^ j.toNat) ev_int ev_int ⟨by decide, by decide, by decide⟩))), fun _ => ⟨ds, rfl, d0, Nat.le_succ_of_le dl⟩, fun _ => ?_⟩
        refine Ev.imp (ev_var rfl) fun z e => ⟨_, e, ds ++ [c], by rw [List.map_append]; rfl, fun x hx => ?_, by rw [List.length_append]; exact Nat.succ_le_succ dl⟩
        rcases List.mem_append.mp hx with h | h
        · exact d0 x h
        · rw [List.mem_singleton.mp h]
          exact c0 c (List.mem_of_getElem? hq)
    · rintro z ⟨ys, e, ds, e2, h1, h2⟩
      rw [List.length_map] at h2
      exact ⟨ds, by rw [e, e2], h1, by omega⟩
end Nb
end
section
set_option Elab.async false
set_option linter.all false
set_option maxRecDepth 100000
set_option maxHeartbeats 4000000
/-! law: names, gates. -/
namespace Nb
open PySem L2
local macro_rules | `(tactic| walk_at "nb_isi") => `(tactic| first | exact isi_ii | exact isi_ib | exact isi_ss | exact isi_tt | exact isi_ll | exact isi_lt)
local macro_rules | `(tactic| walk_at "nb_side") => `(tactic| first | assumption | (show CMul _ _; first | exact Or.inr ⟨by decide, by decide⟩ | exact Or.inl ⟨by decide, by decide⟩ | exact Or.inr ⟨by omega, by omega⟩ | exact Or.inl ⟨by omega, by omega⟩) | (show CDiv _ _; exact ⟨by omega, by omega⟩) | (show CPow _ _; exact ⟨by omega, by omega, by omega⟩) | decide | omega | rfl)
local macro_rules | `(tactic| walk_at "nb_ev") => `(tactic| first
  | exact ev_var rfl
  | exact ev_int
  | exact ev_str
  | exact ev_bl
  | exact ev_non
  | (refine' ev_isi ?h1 ?h2; (case h1 => walk_at "nb_ev"); (case h2 => walk_at "nb_isi"))
  | (refine' ev_isi2 ?h1 ?h2 ?h3; (case h1 => walk_at "nb_ev"); (case h2 => walk_at "nb_isi"); (case h3 => walk_at "nb_isi"))
  | (refine' ev_ii ?h1 ?h2; (case h1 => walk_at "nb_ev"); (case h2 => walk_at "nb_ev"))
  | (refine' ev_ib ?h1 ?h2; (case h1 => walk_at "nb_ev"); (case h2 => walk_at "nb_ev"))
  | (refine' ev_iiC ?h1 ?h2 ?h3; (case h1 => walk_at "nb_ev"); (case h2 => walk_at "nb_ev"); (case h3 => walk_at "nb_side"))
  | (refine' ev_eqI ?h1 ?h2; (case h1 => walk_at "nb_ev"); (case h2 => walk_at "nb_ev"))
  | (refine' ev_neI ?h1 ?h2; (case h1 => walk_at "nb_ev"); (case h2 => walk_at "nb_ev"))
  | (refine' ev_eqS ?h1 ?h2; (case h1 => walk_at "nb_ev"); (case h2 => walk_at "nb_ev"))
  | (refine' ev_neS ?h1 ?h2; (case h1 => walk_at "nb_ev"); (case h2 => walk_at "nb_ev"))
  | (refine' ev_neg ?h1; (case h1 => walk_at "nb_ev"))
  | (refine' ev_andV ?h1 (fun _ => ?h2); (case h1 => walk_at "nb_ev"); (case h2 => walk_at "nb_ev"))
  | (refine' ev_orV ?h1 (fun _ => ?h2); (case h1 => walk_at "nb_ev"); (case h2 => walk_at "nb_ev"))
  | (refine' ev_notV ?h1; (case h1 => walk_at "nb_ev"))
  | walk_at "nb_call")
local macro_rules | `(tactic| walk_at "nb") => `(tactic| (refine' Ev.is ?h ?e; (case h => walk_at "nb_ev"); (try rfl)))
local macro_rules | `(tactic| walk_at "nb_ea") => `(tactic| first | exact ea_nil | (refine' ea_cons ?h1 ?h2; (case h1 => walk_at "nb_ev"); (case h2 => walk_at "nb_ea")))
section
variable {K : Kx} {b : Hp} {w : Wd} {D : Ends} {te ta tb : TE} {tA : TA} {tr : TS} {tt : TT} {δ : Ds} {g : TG} {vs : List Nat} {R R' : Da → Prop} {i j l : Nat}
theorem ev_lcRx {P : Int → Prop} (h : EvA K w tA δ fun xs => ∃ n, xs = [.d (.int n)] ∧ P n) (k : ∀ n, P n → Ev K w (tLc (iRng1 (tCons (tC (.int n)) tNil)) g tt te vs) δ R) : Ev K w (tLc (iRng1 tA) g tt te vs) δ R := fun σ G H s a Q q =>
  h σ G H s a _ fun vs' G1 H1 d e1 a1 r1 ⟨n, e, p⟩ => by
    subst e
    obtain ⟨v, e2, hv⟩ := drAll1 r1
    subst e2
    cases (show Dp K G1 v (.int n) from hv)
    exact k n p σ G1 H1 (s.ex e1) a1 Q fun v G2 H2 d e2 a2 r2 h2 => q v G2 H2 d (Evl.Ex.trans e1 e2) a2 r2 h2
theorem run_par3H (h1 : Ev K w ta δ R) (h2 : Ev K w tb δ R') (k : ∀ x y p, R x → R' y → Run K b (w.add p (.lst [])) D tr (((δ.set i (some x)).set j (some y)).set l (some (.ob p)))) : Run K b w D (tSeq (tPar3 i j l (tCons ta (tCons tb (tCons (tLst tNil) tNil)))) tr) δ := fun σ G H e s a =>
  h1 σ G H s a _ fun v G1 H1 x e1 a1 r1 hx => h2 σ G1 H1 (s.ex e1) a1 _ fun u G2 H2 y e2 a2 r2 hy => by
    refine ⟨Nat.zero_le _, fun p hp => ?_⟩
    have e12 := Evl.Ex.trans e1 e2
    exact ⟨v, u, .ref p, rfl, k x y p hx hy _ G2 _ (Evl.Ex.trans e e12) ((((s.ex e12).set i (r1.ex e2)).set j r2).set l (show Dr K G2 (.ref p) (.ob p) from rfl)) (a2.push hp ⟨[], upd_same, .nil⟩)⟩
theorem ev_slLx {P : Int → Prop} {xs : List PyData} {tl : TO} {lo : Option Int} (h : Ev1 K w te δ (.d (.list xs))) (hl : EvO K w tl δ lo) (hh : Ev K w ta δ fun z => ∃ i, z = .d (.int i) ∧ P i) : Ev K w (tSl (rSlL K) te tl (tPart ta)) δ (fun z => ∃ i, P i ∧ z = .d (.list (cutD xs lo (some i)))) := fun σ G H s a Q q =>
  h σ G H s a _ fun v G1 H1 d e1 a1 r1 h1 => hl σ G1 H1 (s.ex e1) a1 _ fun G2 H2 e2 a2 => hh σ G2 H2 (s.ex (Evl.Ex.trans e1 e2)) a2 _ fun u G3 H3 d3 e3 a3 r3 ⟨i, h3, p3⟩ => by
    subst h1 h3
    cases (show Dp K G3 u (.int i) from r3)
    refine ⟨i, rfl, ?_⟩
    cases (show Dp K G1 v (.list xs) from r1) with
    | lst x1 x2 =>
      rename_i p0 vs
      refine ⟨_, _, rfl, Evl.ex_l (Evl.Ex.trans (Evl.Ex.trans e2 e3) a3.ex) x1, fun p hp => ?_⟩
      have e4 := ex_upd (a3.freeG hp) (o := .lst (cutV vs lo (some i)))
      exact q _ _ _ (.d (.list (cutD xs lo (some i)))) (Evl.Ex.trans (Evl.Ex.trans (Evl.Ex.trans e1 e2) e3) e4) (a3.new hp) (Dp.lst (Evl.sq_of upd_same) (dpAll_cut lo (some i) (dp_exs (Evl.Ex.trans (Evl.Ex.trans e2 e3) e4) _ _ x2))) ⟨i, p3, rfl⟩
end
/-! letters -/
abbrev chD (c : Nat) : PyData := .str ⟨#[c]⟩
abbrev csD (cs : List Nat) : PyData := .list (cs.map chD)
abbrev Let (c : Nat) : Prop := c ∈ letL.cps.toList
theorem let_list : letL.cps.toList = (List.range 26).map fun i => 97 + i := by decide +kernel
theorem let_at {i : Int} (h0 : 0 ≤ i) (h1 : i < 26) : atI letL.cps.toList i = some (97 + i.toNat) := by
  rw [let_list]
  obtain ⟨x, e1, e2⟩ := atI_lt (xs := (List.range 26).map fun i => 97 + i) h0 (by rw [List.length_map, List.length_range]; exact h1)
  rw [e1, ← e2, List.getElem?_map, List.getElem?_range (by omega)]
  rfl
theorem let_of {i : Nat} (h : i < 26) : Let (97 + i) := by
  show _ ∈ letL.cps.toList
  rw [let_list]
  exact List.mem_map.mpr ⟨i, List.mem_range.mpr h, rfl⟩
theorem join_chars : ∀ cs : List Nat, (Str.join "" (cs.map fun c => (⟨#[c]⟩ : Str))).cps.toList = cs
  | [] => by decide
  | [c] => rfl
  | c :: d :: r => by
    show (((⟨#[c]⟩ : Str) ++ ("" : Str)) ++ Str.join "" ((d :: r).map fun c => (⟨#[c]⟩ : Str))).cps.toList = _
    show (((#[c] : Array Nat) ++ ("" : Str).cps) ++ (Str.join "" ((d :: r).map fun c => (⟨#[c]⟩ : Str))).cps).toList = _
    rw [Array.toList_append, Array.toList_append, join_chars (d :: r)]
    rfl
theorem join_str (cs : List Nat) : Txt.join "" (cs.map fun c => (⟨#[c]⟩ : Str)) = ⟨cs.toArray⟩ := by
  unfold Txt.join
  rw [StrLaws.glued_eq_join]
  have h := join_chars cs
  generalize Str.join "" (cs.map fun c => (⟨#[c]⟩ : Str)) = x at h
  cases x
  subst h
  rfl
theorem cut_map {α β : Type} (f : α → β) (xs : List α) (lo hi : Option Int) : cutD (xs.map f) lo hi = (cutD xs lo hi).map f := by
  unfold cutD
  rw [List.length_map, List.map_take, List.map_drop]
theorem cut_mem {α : Type} {xs : List α} {lo hi : Option Int} {x : α} (h : x ∈ cutD xs lo hi) : x ∈ xs := List.mem_of_mem_drop (List.mem_of_mem_take h)
theorem cut_len {α : Type} {xs : List α} {p : Nat} {hi : Option Int} (hp : p ≤ xs.length) : (cutD xs (some (p : Int)) hi).length ≤ xs.length - p := by
  unfold cutD
  rw [HT.sIx_nat, List.length_take, List.length_drop, Nat.min_eq_left hp]
  exact Nat.min_le_right _ _
theorem cut_to {α : Type} {xs : List α} {p : Nat} (hp : p ≤ xs.length) : cutD xs none (some (p : Int)) = xs.take p := by
  unfold cutD
  rw [HT.sIx_nat, HT.sIx_none, Nat.min_eq_left hp, List.drop_zero, Nat.sub_zero]
/-- a name by its codes; its sign at p is s -/
structure CsOk (p s : Nat) (cs : List Nat) : Prop where
  len : cs.length ≤ 8
  al : ∀ c ∈ cs, Let c
  sg : cs[p]? = some s
theorem CsOk.name {p s : Nat} {cs : List Nat} (h : CsOk p s cs) : NameOk ⟨cs.toArray⟩ := by
  refine ⟨?_, ?_, ?_⟩
  · show 1 ≤ cs.toArray.size
    have := (List.getElem?_eq_some_iff.mp h.sg).1
    rw [List.size_toArray]
    omega
  · show cs.toArray.size ≤ 8
    rw [List.size_toArray]
    exact h.len
  · show ∀ c ∈ cs.toArray.toList, _
    rw [List.toList_toArray]
    exact h.al
def sgn (f : Nat) (i : Nat) : Nat := 97 + (f + 5 * i) % 26
theorem sgn_inj {f i j : Nat} (hi : i < 3) (hj : j < 3) (h : sgn f i = sgn f j) : i = j := by
  unfold sgn at h
  omega

abbrev OK_law_names (P : Program) (w0 : World) (K : Kx) (mg : Str → Option Value) (base : Heap) : Prop := Ok P w0 K mg base 3 "_law_names" ["_law_heap_here", "_law_many"] (spW K (fun (p : (Addr × Addr) × Nat) => [.ob p.1.1, .d (.int (p.2 : Int))]) (fun w p => Un w p.1 ∧ p.2 ≤ 3) (fun p z => ∃ xs : List Str, z = .d (.list (xs.map PyData.str)) ∧ xs.length = p.2 ∧ (∀ x ∈ xs, NameOk x) ∧ xs.Nodup))
theorem ok_law_names {P : Program} {w0 : World} {K : Kx} {mg : Str → Option Value} {base : Heap} (T : Tx K mg) (h__law_draw : OK_law_draw P w0 K mg base) (h__law_pick : OK_law_pick P w0 K mg base) : OK_law_names P w0 K mg base := by
  refine fn_ok T.d_law_names sc_law_names (fun _ => rfl) bi_law_names fun f cdv A outer s H E hr => ⟨_, (pss_cons (ps_set (i := 2) sc_law_names.nd rfl (Or.inr rfl) pe_str)
      (pss_cons (ps_setLc (i := 3) (own := [("_law_turn", 11)]) (g := (gName 11)) (tt := tYes) rfl sc_law_names.nd rfl rfl (sw_true rfl rfl rfl (by decide +kernel)) (pi_range1 rfl T.b_range (pa_cons (pe_f h__law_pick hr (pa_cons (pv 0) (pa_cons (pe_lst (pa_cons pe_int (pa_cons pe_int (pa_cons pe_int (pa_cons pe_int (pa_cons pe_int pa_nil)))))) pa_nil))) pa_nil)) (blkOk_by (N := N_law_names) (sc := (defScope s_law_names)) (by decide +kernel)) (fun _ _ _ _ _ => (pg_name (i := 11) sc_law_names.nd rfl (Or.inl rfl))) (fun _ _ _ _ _ => pts_nil) (fun _ _ _ _ _ => (pe_f h__law_pick hr (pa_cons (pv 0) (pa_cons (pv 2) pa_nil)))))
      (pss_cons (ps_par3 (i := 4) (j := 5) (l := 6) rfl sc_law_names.nd rfl rfl rfl (by decide) (by decide) (by decide) rfl rfl rfl (pa_cons (pe_f h__law_draw hr (pa_cons (pv 0) (pa_cons (pe_op op_add (pe_callB call_len (by rfl) T.b_len (by decide +kernel) (pa_cons (pv 3) pa_nil)) pe_int) pa_nil))) (pa_cons (pe_f h__law_draw hr (pa_cons (pv 0) (pa_cons pe_int pa_nil))) (pa_cons (pe_lst pa_nil) pa_nil))) (by rfl))
      (pss_cons (ps_set (i := 7) sc_law_names.nd rfl (Or.inl rfl) (pe_cmpR op_eq (pe_f h__law_draw hr (pa_cons (pv 0) (pa_cons pe_int pa_nil))) pe_int (nomark _)))
      (pss_cons (ps_for PassesOwn.never rfl (pi_range1 rfl T.b_range (pa_cons (pv 1) pa_nil)) (pg_name (i := 8) sc_law_names.nd rfl (Or.inl rfl)) (pss_cons (ps_set (i := 9) sc_law_names.nd rfl (Or.inl rfl) (pe_ix ix_str (pv 2) (pe_op op_mod (pe_callTy call_int1 (by rfl) T.b_int (by decide +kernel) (pa_cons (pe_op op_add (pv 5) (pe_op op_mul pe_int (pv 8))) pa_nil)) pe_int) (fun _ _ => rfl)))
      (pss_cons (ps_set (i := 10) sc_law_names.nd rfl (Or.inl rfl) (pe_ifExp (pt_truth (pv 7) (fun _ => rfl)) (pe_slice sl_list (pv 3) (po_some (pv 4)) po_none) (pe_slice sl_list (pv 3) (po_some (pv 4)) (po_some (pe_op op_add (pv 4) (pe_f h__law_draw hr (pa_cons (pv 0) (pa_cons pe_int pa_nil))))))))
      (pss_one (ps_expr (pe_bm PySem.F.plainAttrs_list PySem.F.slot_list_append PySem.F.type_list_append mt_append (pv 6) (pa_cons (pe_join pe_str (pe_op NbR.op_catL (pe_op NbR.op_catL (pe_slice sl_list (pv 3) po_none (po_some (pv 4))) (pe_lst (pa_cons (pv 9) pa_nil))) (pv 10))) pa_nil)))))))
      (pss_one (ps_ret (pv 6)))))))), fun b w D a hp hret hn => ?_⟩
  obtain ⟨⟨hh, l⟩, n⟩ := a
  obtain ⟨hw, hn3⟩ : Un w (hh, l) ∧ n ≤ 3 := hp
  have hret : RetO K b w D (fun z => ∃ xs : List Str, z = .d (.list (xs.map PyData.str)) ∧ xs.length = n ∧ (∀ x ∈ xs, NameOk x) ∧ xs.Nodup) := hret
  refine run_asg1 (d := .d (.str letL)) ev_str ?_
  refine run_asg (R := fun z => ∃ cs : List Nat, z = .d (csD cs) ∧ (∀ c ∈ cs, Let c) ∧ cs.length ≤ 7) (ev_lcRx (P := fun n => 0 ≤ n ∧ n ≤ 7) ?_ ?_) ?_
  · refine ea_consN (R := fun z => ∃ y, z = .d y ∧ y ∈ ([.int 0, .int 0, .int 1, .int 3, .int 7] : List PyData)) (L := fun xs => xs = []) (ev_call1 ((hh, l), (Da.d (.list [.int 0, .int 0, .int 1, .int 3, .int 7]), [.int 0, .int 0, .int 1, .int 3, .int 7])) (ea_cons (ev_var rfl) (ea_cons (ev_lst (xs := [.int 0, .int 0, .int 1, .int 3, .int 7]) (by walk_at "nb_ea")) ea_nil)) (pkp hw (.inl rfl) (by decide) (by decide)) fun z e => e) ea_nil ?_
    rintro _ _ ⟨y, rfl, hy⟩ rfl
    simp only [List.mem_cons, List.not_mem_nil, or_false] at hy
    rcases hy with rfl | rfl | rfl | rfl | rfl <;> exact ⟨_, rfl, by decide, by decide⟩
  · rintro m ⟨m0, m1⟩
    refine Ev.imp (ev_lcR (n := m) (fun i acc => ∃ cs : List Nat, acc = cs.map chD ∧ (∀ c ∈ cs, Let c) ∧ cs.length = i) wipes_name (ea_cons ev_int ea_nil) ⟨by omega, by omega⟩ ⟨[], rfl, by simp, rfl⟩ ?_) ?_
    · rintro i acc w' hi ⟨cs, rfl, hal, hl⟩ hr'
      have hw' : Un w' (hh, l) := hr'.trans hw
      refine ⟨_, fun x => x = true, tg_name, et_yes, (fun h => nomatch h), fun _ => ?_⟩
      refine Ev.imp (ev_call1 ((hh, l), (Da.d (.str letL), letL.cps.toList.map fun c => .str ⟨#[c]⟩)) (by walk_at "nb_ea") (pkp hw' (.inr (.inr (.inl ⟨letL, rfl, rfl⟩))) (by rw [List.length_map]; decide) (by rw [List.length_map]; decide)) fun z e => e) fun z ⟨y, e, hy⟩ => ?_
      obtain ⟨c, hc, rfl⟩ := List.mem_map.mp hy
      refine ⟨_, e, cs ++ [c], by rw [List.map_append]; rfl, fun x hx => ?_, by rw [List.length_append, hl]; rfl⟩
      rcases List.mem_append.mp hx with h | h
      · exact hal x h
      · rw [List.mem_singleton.mp h]
        exact hc
    · rintro z ⟨ys, e, cs, e2, h1, h2⟩
      exact ⟨cs, by rw [e, e2], h1, by omega⟩
  rintro _ ⟨cs, rfl, hal, hcl⟩
  refine run_par3H (R := fun z => ∃ p : Nat, z = .d (.int (p : Int)) ∧ p ≤ cs.length) (R' := fun z => ∃ f : Nat, z = .d (.int (f : Int)) ∧ f < 26) ?_ ?_ ?_
  · refine Ev.imp (ev_call1 ((hh, l), (cs.length : Int) + 1) (ea_cons (ev_var rfl) (ea_cons (ev_ii (f := fun i j => i + j) (Ev.is (ev_CB1 (by walk_at "nb_ea") (ca_len (LenD.list _))) (by rw [List.length_map])) ev_int) ea_nil)) (drp hw (by omega) (by omega)) fun z e => e) fun z ⟨i, e, i0, i1⟩ => ⟨i.toNat, by rw [e, Int.toNat_of_nonneg i0], by have i1 : i < (cs.length : Int) + 1 := i1; omega⟩
  · refine Ev.imp (ev_call1 ((hh, l), 26) (by walk_at "nb_ea") (drp hw (by decide) (by decide)) fun z e => e) fun z ⟨i, e, i0, i1⟩ => ⟨i.toNat, by rw [e, Int.toNat_of_nonneg i0], by have i1 : i < 26 := i1; omega⟩
  rintro _ _ q ⟨p, rfl, hp⟩ ⟨f, rfl, hf⟩
  have wq : ∀ ys, Un (w.add q (.lst ys)) (hh, l) := fun ys => hw
  refine run_asg (R := fun z => ∃ c, z = .d (.bool c)) (ev_op (R' := fun z => z = .d (.int 0)) (ev_call1 ((hh, l), 2) (by walk_at "nb_ea") (drp (wq _) (by decide) (by decide)) fun z e => e) ev_int ?_) ?_
  · rintro _ _ ⟨m1, rfl, _⟩ rfl
    exact fun v u G H hv hu a Q q => od_eqI v u G H hv hu a Q fun z G2 H2 d e a2 r hd => q z G2 H2 d e a2 r ⟨_, hd⟩
  rintro _ ⟨ev, rfl⟩
  refine run_forR (n := (n : Int)) (fun i w' δ' => ∃ (ns : List (List Nat)) (o1 o2 o3 : Option Da), w' = w.add q (.lst (ns.map fun cs => .str ⟨cs.toArray⟩)) ∧ ns.length = i ∧ (∀ (j : Nat) (c : List Nat), ns[j]? = some c → CsOk p (sgn f j) c) ∧ δ' = [some (.ob hh), some (.d (.int (n : Int))), some (.d (.str letL)), some (.d (csD cs)), some (.d (.int (p : Int))), some (.d (.int (f : Int))), some (.ob q), some (.d (.bool ev)), o1, o2, o3, none]) (by walk_at "nb_ea") ⟨by omega, by omega⟩ ⟨[], none, none, none, rfl, rfl, (fun j c h => by simp at h), rfl⟩ ?_ ?_
  · rintro i w' δ' b' hi ⟨ns, o1, o2, o3, rfl, hnl, hns, rfl⟩ hb
    have hi3 : i < 3 := by omega
    refine ⟨_, tg_name, ?_⟩
    have m0 : (0 : Int) ≤ ((f : Int) + 5 * (i : Int)) % 26 := Int.emod_nonneg _ (by decide)
    have m1 : ((f : Int) + 5 * (i : Int)) % 26 < 26 := Int.emod_lt_of_pos _ (by decide)
    have es : 97 + (((f : Int) + 5 * (i : Int)) % 26).toNat = sgn f i := by
      unfold sgn
      omega
    refine run_asg1 (d := .d (chD (sgn f i))) (Ev.is (ev_ixS (ev_var rfl) (ev_iiC (f := fun i j => i % j) (ev_CB1 (ea_cons (ev_ii (f := fun i j => i + j) (ev_var rfl) (ev_iiC (f := fun i j => i * j) ev_int (ev_var rfl) (Or.inl ⟨by decide, by decide⟩))) ea_nil) ca_int) ev_int (by decide)) (by decide) (let_at m0 m1)) (by rw [es])) ?_
    refine run_asg (R := fun z => ∃ rs : List Nat, z = .d (csD rs) ∧ (∀ c ∈ rs, Let c) ∧ rs.length ≤ cs.length - p) (ev_ifN (B := fun _ => True) (et_any (et_truthB (ev_var rfl))) ?_ ?_) ?_
    · exact Ev.imp (ev_slL (ev_var rfl) (eo_part (ev_var rfl)) eo_no) fun z e => ⟨cutD cs (some (p : Int)) none, by rw [e, cut_map], fun c hc => hal c (cut_mem hc), cut_len hp⟩
    · refine Ev.imp (ev_slLx (P := fun _ => True) (ev_var rfl) (eo_part (ev_var rfl)) (ev_op (R := fun z => z = .d (.int (p : Int))) (R' := fun z => ∃ i, z = .d (.int i) ∧ 0 ≤ i ∧ i < 4) (ev_var rfl) (ev_call1 ((hh, l), 4) (by walk_at "nb_ea") (drp (wq _) (by decide) (by decide)) fun z e => e) ?_)) fun z ⟨h, _, e⟩ => ⟨cutD cs (some (p : Int)) (some h), by rw [e, cut_map], fun c hc => hal c (cut_mem hc), cut_len hp⟩
      rintro _ _ rfl ⟨m1, rfl, _⟩
      exact fun v u G H hv hu a Q q => odI0 (g := fun i j => V.int (i + j)) (x := .int (p + m1)) (fun _ => Dp.int _) v u G H hv hu a Q fun z G2 H2 d e a2 r hd => q z G2 H2 d e a2 r ⟨_, hd, trivial⟩
    rintro _ ⟨rs, rfl, hrs, hrl⟩
    have hfull : CsOk p (sgn f i) (cs.take p ++ [sgn f i] ++ rs) := by
      refine ⟨?_, fun c hc => ?_, ?_⟩
      · rw [List.length_append, List.length_append, List.length_take, List.length_singleton]
        omega
      · rcases List.mem_append.mp hc with h | h
        · rcases List.mem_append.mp h with h | h
          · exact hal c (List.mem_of_mem_take h)
          · rw [List.mem_singleton.mp h]
            exact let_of (Nat.mod_lt _ (by decide))
        · exact hrs c h
      · rw [List.append_assoc, List.getElem?_append_right (by rw [List.length_take]; omega), List.length_take, Nat.min_eq_left hp, Nat.sub_self]
        rfl
    refine run_tail (run_app (R := fun z => z = .d (.str ⟨(cs.take p ++ [sgn f i] ++ rs).toArray⟩)) (ev_var rfl) (Ev.is (ev_join (ys := (cs.take p ++ [sgn f i] ++ rs).map fun c => ⟨#[c]⟩) ev_str (Ev.is (ev_op1 (ev_op1 (ev_slL (ev_var rfl) eo_no (eo_part (ev_var rfl))) (ev_lst (xs := [chD (sgn f i)]) (ea_cons (ev_var rfl) ea_nil) (by simp)) (od_catL ?_)) (ev_var rfl) (od_catL ?_)) ?_) ?_) ?_) (by rw [List.length_map]; omega) fun d e => ⟨_, e, run_nx ⟨ns ++ [cs.take p ++ [sgn f i] ++ rs], _, _, _, by rw [List.map_append]; rfl, by rw [List.length_append, hnl]; rfl, fun j c hj => ?_, rfl⟩⟩)
    · rw [cut_map, cut_to hp, List.length_map, List.length_take, List.length_singleton]
      omega
    · rw [cut_map, cut_to hp, List.length_append, List.length_map, List.length_map, List.length_take, List.length_singleton]
      omega
    · rw [cut_map, cut_to hp, List.map_map, List.map_append, List.map_append]
      rfl
    · have h8 := hfull.len
      have : ∀ l : List Nat, ((l.map fun c => (⟨#[c]⟩ : Str)).map (·.length)).sum = l.length := fun l => by
        induction l with
        | nil => rfl
        | cons c l ih =>
          rw [List.map_cons, List.map_cons, List.sum_cons, ih, List.length_cons]
          show 1 + l.length = l.length + 1
          omega
      rw [this, List.length_map]
      show _ + _ * 0 ≤ _
      omega
    · rw [join_str]
    · by_cases hjl : j < ns.length
      · rw [List.getElem?_append_left hjl] at hj
        exact hns j c hj
      · rw [List.getElem?_append_right (by omega)] at hj
        have : j - ns.length = 0 := by
          cases hz : j - ns.length with
          | zero => rfl
          | succ m =>
            rw [hz] at hj
            simp at hj
        rw [this] at hj
        cases hj
        have : j = i := by omega
        rw [this]
        exact hfull
  · rintro w' δ' ⟨ns, o1, o2, o3, rfl, hnl, hns, rfl⟩
    refine run_freeze (i := 6) rfl (run_ret (Ev.imp (ev_var rfl) fun z e => ⟨ns.map fun cs => ⟨cs.toArray⟩, by rw [e, List.map_map]; rfl, by rw [List.length_map, hnl, Int.toNat_natCast], fun x hx => ?_, ?_⟩) hret)
    · obtain ⟨c, hc, rfl⟩ := List.mem_map.mp hx
      obtain ⟨j, hj⟩ := List.getElem?_of_mem hc
      exact (hns j c hj).name
    · rw [Int.toNat_natCast] at hnl
      refine List.pairwise_iff_getElem.mpr fun i j hi hj hij e => ?_
      have hi' : i < ns.length := by simpa using hi
      have hj' : j < ns.length := by simpa using hj
      rw [List.getElem_map, List.getElem_map] at e
      have e2 : (ns[i]).toArray = (ns[j]).toArray := congrArg Str.cps e
      have e3 : ns[i] = ns[j] := by simpa using congrArg Array.toList e2
      have s1 := (hns i _ (List.getElem?_eq_getElem hi')).sg
      have s2 := (hns j _ (List.getElem?_eq_getElem hj')).sg
      rw [e3, s2] at s1
      have := sgn_inj (by omega) (by omega) (Option.some.inj s1)
      omega

abbrev OK_law_gates (P : Program) (w0 : World) (K : Kx) (mg : Str → Option Value) (base : Heap) : Prop := Ok P w0 K mg base 4 "_law_gates" ["_law_heap_here", "_law_most"] (spW K (fun (p : (Addr × Addr) × Int) => [.ob p.1.1, .d (.int p.2)]) (fun w p => Un w p.1 ∧ 1 ≤ p.2 ∧ p.2 ≤ 3) (fun _ z => ∃ gs : List Gt, z = .d (.list (gs.map gD)) ∧ 1 ≤ gs.length ∧ gs.length ≤ 3 ∧ (∀ g ∈ gs, NameOk g.1) ∧ (gs.map (·.1)).Nodup))
theorem ok_law_gates {P : Program} {w0 : World} {K : Kx} {mg : Str → Option Value} {base : Heap} (T : Tx K mg) (h__law_draw : OK_law_draw P w0 K mg base) (h__law_names : OK_law_names P w0 K mg base) (h__law_pick : OK_law_pick P w0 K mg base) (h__law_table : OK_law_table P w0 K mg base) : OK_law_gates P w0 K mg base := by
  refine fn_ok T.d_law_gates sc_law_gates (fun _ => rfl) bi_law_gates fun f cdv A outer s H E hr => ⟨_, (pss_cons (ps_set (i := 2) sc_law_gates.nd rfl (Or.inr rfl) (pe_lst (pa_cons (pe_f h__law_draw hr (pa_cons (pv 0) (pa_cons pe_int pa_nil))) (pa_cons (pe_f h__law_pick hr (pa_cons (pv 0) (pa_cons (pe_lst (pa_cons pe_int (pa_cons pe_int (pa_cons (pe_f h__law_draw hr (pa_cons (pv 0) (pa_cons pe_int pa_nil))) pa_nil)))) pa_nil))) pa_nil))))
      (pss_cons (ps_set (i := 3) sc_law_gates.nd rfl (Or.inr rfl) (pe_f h__law_pick hr (pa_cons (pv 0) (pa_cons (pe_lst (pa_cons (pe_lst (pa_cons pe_int pa_nil)) (pa_cons (pe_lst (pa_cons pe_int (pa_cons pe_int pa_nil))) (pa_cons (pe_lst (pa_cons pe_int (pa_cons pe_int (pa_cons pe_int (pa_cons pe_int pa_nil))))) (pa_cons (pe_lst (pa_cons pe_int (pa_cons pe_int pa_nil))) pa_nil))))) pa_nil))))
      (pss_cons (ps_set (i := 4) sc_law_gates.nd rfl (Or.inl rfl) (pe_f h__law_names hr (pa_cons (pv 0) (pa_cons (pe_op op_add pe_int (pe_f h__law_draw hr (pa_cons (pv 0) (pa_cons (pv 1) pa_nil)))) pa_nil))))
      (pss_one (ps_ret (pe_lc (own := [("_law_name", 5)]) (g := (gName 5)) (tt := tYes) rfl sc_law_gates.nd (pi_list (pv 4)) (blkOk_by (N := N_law_gates) (sc := (defScope s_law_gates)) (by decide +kernel)) (fun _ _ _ _ _ => (pg_name (i := 5) sc_law_gates.nd rfl (Or.inl rfl))) (fun _ _ _ _ _ => pts_nil) (fun _ _ _ _ _ => (pe_tup (pa_cons (pv 5) (pa_cons (pe_f h__law_table hr (pa_cons (pv 0) (pa_cons (pe_f h__law_pick hr (pa_cons (pv 0) (pa_cons (pv 3) pa_nil))) (pa_cons (pe_f h__law_pick hr (pa_cons (pv 0) (pa_cons (pe_op (op_catLK (K := K) rfl) (pv 2) (pe_slice (sl_listK (K := K) rfl) (pv 2) po_none (po_some pe_int))) pa_nil))) pa_nil)))) pa_nil)))))))))), fun b w D a hp hret hn => ?_⟩
  obtain ⟨⟨hh, l⟩, m⟩ := a
  obtain ⟨hw, m0, m1⟩ : Un w (hh, l) ∧ 1 ≤ m ∧ m ≤ 3 := hp
  have hret : RetO K b w D (fun z => ∃ gs : List Gt, z = .d (.list (gs.map gD)) ∧ 1 ≤ gs.length ∧ gs.length ≤ 3 ∧ (∀ g ∈ gs, NameOk g.1) ∧ (gs.map (·.1)).Nodup) := hret
  have dr : ∀ (w' : Wd) (δ' : Ds), Un w' (hh, l) → δ'[0]? = some (some (.ob hh)) → ∀ n : Int, 1 ≤ n → n < 1073741824 → Ev K w' (tCall (spW K (fun (p : (Addr × Addr) × Int) => [.ob p.1.1, .d (.int p.2)]) (fun w p => Un w p.1 ∧ 1 ≤ p.2 ∧ p.2 < 1073741824) (fun p z => ∃ i, z = .d (.int i) ∧ 0 ≤ i ∧ i < p.2)) [] E0 (tCons (tVar 0) (tCons (tC (.int n)) tNil))) δ' (fun z => ∃ i, z = .d (.int i)) := fun w' δ' hw' h0 n n0 n1 =>
    Ev.imp (ev_call1 ((hh, l), n) (ea_cons (ev_var h0) (ea_cons ev_int ea_nil)) (drp hw' n0 n1) fun z e => e) fun z ⟨i, e, _⟩ => ⟨i, e⟩
  refine run_asg (R := fun z => ∃ xs, z = .d (.list xs) ∧ ∃ f1 f2 : Int, xs = [.int f1, .int f2]) (ev_lstN (L := fun xs => ∃ f1 f2 : Int, xs = [.int f1, .int f2]) (ea_consN (R := fun z => ∃ i, z = .d (.int i)) (L := fun xs => ∃ f2 : Int, xs = [.d (.int f2)]) (dr w _ hw rfl 13 (by decide) (by decide)) (ea_consN (R := fun z => ∃ i, z = .d (.int i)) (L := fun xs => xs = []) ?_ ea_nil ?_) ?_)) ?_
  · refine ev_call (L := fun xs => ∃ i : Int, xs = [.ob hh, .d (.list [.int 11, .int 12, .int i])]) (ea_consN (R := fun z => z = .ob hh) (L := fun xs => ∃ i : Int, xs = [.d (.list [.int 11, .int 12, .int i])]) (ev_var rfl) (ea_consN (R := fun z => ∃ xs, z = .d (.list xs) ∧ ∃ i : Int, xs = [.int 11, .int 12, .int i]) (L := fun xs => xs = []) (ev_lstN (L := fun xs => ∃ i : Int, xs = [.int 11, .int 12, .int i]) (ea_consN (R := fun z => z = .d (.int 11)) (L := fun xs => ∃ i : Int, xs = [.d (.int 12), .d (.int i)]) ev_int (ea_consN (R := fun z => z = .d (.int 12)) (L := fun xs => ∃ i : Int, xs = [.d (.int i)]) ev_int (ea_consN (R := fun z => ∃ i, z = .d (.int i)) (L := fun xs => xs = []) (dr w _ hw rfl 13 (by decide) (by decide)) ea_nil ?_) ?_) ?_)) ea_nil ?_) ?_) ?_
    · rintro _ _ ⟨i, rfl⟩ rfl
      exact ⟨i, rfl⟩
    · rintro _ _ rfl ⟨i, rfl⟩
      exact ⟨i, rfl⟩
    · rintro _ _ rfl ⟨i, rfl⟩
      exact ⟨[.int 11, .int 12, .int i], rfl, by simp, i, rfl⟩
    · rintro _ _ ⟨xs, rfl, i, rfl⟩ rfl
      exact ⟨i, rfl⟩
    · rintro _ _ rfl ⟨i, rfl⟩
      exact ⟨i, rfl⟩
    · rintro _ ⟨i, rfl⟩
      refine ⟨((hh, l), (Da.d (.list [.int 11, .int 12, .int i]), [.int 11, .int 12, .int i])), rfl, pkp hw (.inl rfl) (by simp) (by simp), ?_⟩
      rintro z ⟨y, rfl, hy⟩
      simp only [List.mem_cons, List.not_mem_nil, or_false] at hy
      rcases hy with rfl | rfl | rfl <;> exact ⟨_, rfl⟩
  · rintro _ _ ⟨i, rfl⟩ rfl
    exact ⟨i, rfl⟩
  · rintro _ _ ⟨i, rfl⟩ ⟨j, rfl⟩
    exact ⟨[.int i, .int j], rfl, by simp, i, j, rfl⟩
  rintro _ ⟨_, rfl, f1, f2, rfl⟩
  let W : List PyData := [.list [.int 3], .list [.int 2, .int 3], .list [.int 0, .int 1, .int 2, .int 3], .list [.int 1, .int 2]]
  refine run_asg (R := fun z => ∃ ws : List Int, z = .d (.list (ws.map PyData.int)) ∧ (∀ k ∈ ws, 0 ≤ k ∧ k ≤ 3) ∧ 1 ≤ ws.length ∧ ws.length ≤ 4) ?_ ?_
  · refine Ev.imp (ev_call1 ((hh, l), (Da.d (.list W), W)) (ea_cons (ev_var rfl) (ea_cons (ev_lst (xs := W) (ea_cons (ev_lst (xs := [.int 3]) (by walk_at "nb_ea")) (ea_cons (ev_lst (xs := [.int 2, .int 3]) (by walk_at "nb_ea")) (ea_cons (ev_lst (xs := [.int 0, .int 1, .int 2, .int 3]) (by walk_at "nb_ea")) (ea_cons (ev_lst (xs := [.int 1, .int 2]) (by walk_at "nb_ea")) ea_nil)))) (by decide)) ea_nil)) (pkp hw (.inl rfl) (by decide) (by decide)) fun z e => e) ?_
    rintro z ⟨y, rfl, hy⟩
    have hy : y = .list [.int 3] ∨ y = .list [.int 2, .int 3] ∨ y = .list [.int 0, .int 1, .int 2, .int 3] ∨ y = .list [.int 1, .int 2] := by simpa [W] using hy
    rcases hy with rfl | rfl | rfl | rfl
    · exact ⟨[3], rfl, by decide, by decide, by decide⟩
    · exact ⟨[2, 3], rfl, by decide, by decide, by decide⟩
    · exact ⟨[0, 1, 2, 3], rfl, by decide, by decide, by decide⟩
    · exact ⟨[1, 2], rfl, by decide, by decide, by decide⟩
  rintro _ ⟨ws, rfl, hws, wl1, wl4⟩
  refine run_asg (R := fun z => ∃ xs : List Str, z = .d (.list (xs.map PyData.str)) ∧ 1 ≤ xs.length ∧ xs.length ≤ 3 ∧ (∀ x ∈ xs, NameOk x) ∧ xs.Nodup) ?_ ?_
  · refine ev_call (L := fun xs => ∃ n : Nat, 1 ≤ n ∧ n ≤ 3 ∧ xs = [.ob hh, .d (.int (n : Int))]) (ea_consN (R := fun z => z = .ob hh) (L := fun xs => ∃ n : Nat, 1 ≤ n ∧ n ≤ 3 ∧ xs = [.d (.int (n : Int))]) (ev_var rfl) (ea_consN (R := fun z => ∃ n : Nat, 1 ≤ n ∧ n ≤ 3 ∧ z = .d (.int (n : Int))) (L := fun xs => xs = []) (ev_op (R := fun z => z = .d (.int 1)) (R' := fun z => ∃ i, z = .d (.int i) ∧ 0 ≤ i ∧ i < m) ev_int (ev_call1 ((hh, l), m) (by walk_at "nb_ea") (drp hw m0 (by omega)) fun z e => e) ?_) ea_nil ?_) ?_) ?_
    · rintro _ _ rfl ⟨i, rfl, i0, i1⟩
      exact fun v u G H hv hu a Q q => odI0 (g := fun i j => V.int (i + j)) (x := .int (1 + i)) (fun _ => Dp.int _) v u G H hv hu a Q fun z G2 H2 d e a2 r hd => q z G2 H2 d e a2 r ⟨(1 + i).toNat, by omega, by omega, by rw [hd, Int.toNat_of_nonneg (by omega)]⟩
    · rintro _ _ ⟨n, n1, n3, rfl⟩ rfl
      exact ⟨n, n1, n3, rfl⟩
    · rintro _ _ rfl ⟨n, n1, n3, rfl⟩
      exact ⟨n, n1, n3, rfl⟩
    · rintro _ ⟨n, n1, n3, rfl⟩
      refine ⟨((hh, l), n), rfl, ⟨hw, n3⟩, ?_⟩
      rintro z ⟨xs, rfl, h1, h2, h3⟩
      have h1 : xs.length = n := h1
      exact ⟨xs, rfl, by omega, by omega, h2, h3⟩
  rintro _ ⟨xs, rfl, xl1, xl3, hnm, hnd⟩
  refine run_ret (Ev.imp (ev_lcL (xs := xs.map PyData.str) (fun i acc => ∃ gs : List Gt, acc = gs.map gD ∧ gs.map (·.1) = xs.take i) wipes_name (ev_var rfl) (by rw [List.length_map]; omega) ⟨[], rfl, rfl⟩ ?_) ?_) hret
  · rintro i x acc w' hx ⟨gs, rfl, hgs⟩ hr'
    have hw' : Un w' (hh, l) := hr'.trans hw
    rw [List.getElem?_map] at hx
    cases hq : xs[i]? with
    | none =>
      rw [hq] at hx
      cases hx
    | some q =>
      rw [hq] at hx
      cases hx
      refine ⟨_, fun x => x = true, tg_name, et_yes, (fun h => nomatch h), fun _ => ?_⟩
      refine Ev.imp (ev_tupN (L := fun ys => ∃ t : Tb, ys = [.str q, bT t.t]) (ea_consN (R := fun z => z = .d (.str q)) (L := fun ys => ∃ t : Tb, ys = [.d (bT t.t)]) (ev_var rfl) (ea_consN (R := fun z => ∃ t : Tb, z = .d (bT t.t)) (L := fun ys => ys = []) ?_ ea_nil ?_) ?_)) ?_
      · refine ev_call (L := fun ys => ∃ (k : Nat) (f : Int), k ≤ 3 ∧ ys = [.ob hh, .d (.int (k : Int)), .d (.int f)]) (ea_consN (R := fun z => z = .ob hh) (L := fun ys => ∃ (k : Nat) (f : Int), k ≤ 3 ∧ ys = [.d (.int (k : Int)), .d (.int f)]) (ev_var rfl) (ea_consN (R := fun z => ∃ k : Nat, k ≤ 3 ∧ z = .d (.int (k : Int))) (L := fun ys => ∃ f : Int, ys = [.d (.int f)]) ?_ (ea_consN (R := fun z => ∃ f : Int, z = .d (.int f)) (L := fun ys => ys = []) ?_ ea_nil ?_) ?_) ?_) ?_
        · refine Ev.imp (ev_call1 ((hh, l), (Da.d (.list (ws.map PyData.int)), ws.map PyData.int)) (by walk_at "nb_ea") (pkp hw' (.inl rfl) (by rw [List.length_map]; exact wl1) (by rw [List.length_map]; omega)) fun z e => e) ?_
          rintro z ⟨y, rfl, hy⟩
          obtain ⟨k, hk, rfl⟩ := List.mem_map.mp hy
          obtain ⟨k0, k1⟩ := hws k hk
          exact ⟨k.toNat, by omega, by rw [Int.toNat_of_nonneg k0]⟩
        · refine Ev.imp (ev_call1 ((hh, l), (Da.d (.list [.int f1, .int f2, .int f1]), [.int f1, .int f2, .int f1])) (ea_cons (ev_var rfl) (ea_cons (Ev.is (ev_op1 (ev_var rfl) (Ev.is (ev_slL (ev_var rfl) eo_no (eo_part ev_int)) (show Da.d (.list (cutD [PyData.int f1, .int f2] none (some ((1 : Nat) : Int)))) = .d (.list [.int f1]) from rfl)) (od_catL (by simp))) rfl) ea_nil)) (pkp hw' (.inl rfl) (by simp) (by simp)) fun z e => e) ?_
          rintro z ⟨y, rfl, hy⟩
          simp only [List.mem_cons, List.not_mem_nil, or_false] at hy
          rcases hy with rfl | rfl | rfl <;> exact ⟨_, rfl⟩
        · rintro _ _ ⟨f, rfl⟩ rfl
          exact ⟨f, rfl⟩
        · rintro _ _ ⟨k, hk, rfl⟩ ⟨f, rfl⟩
          exact ⟨k, f, hk, rfl⟩
        · rintro _ _ rfl ⟨k, f, hk, rfl⟩
          exact ⟨k, f, hk, rfl⟩
        · rintro _ ⟨k, f, hk, rfl⟩
          refine ⟨((hh, l), (⟨k, hk⟩, f)), rfl, hw', ?_⟩
          rintro z ⟨t, _, rfl⟩
          exact ⟨t, rfl⟩
      · rintro _ _ ⟨t, rfl⟩ rfl
        exact ⟨t, rfl⟩
      · rintro _ _ rfl ⟨t, rfl⟩
        exact ⟨[.str q, bT t.t], rfl, by simp, t, rfl⟩
      · rintro z ⟨ys, e, t, rfl⟩
        refine ⟨_, e, gs ++ [(q, t)], by rw [List.map_append]; rfl, ?_⟩
        rw [take_one hq, List.map_append, hgs]
        rfl
  · rintro z ⟨ys, e, gs, rfl, h2⟩
    rw [List.length_map, List.take_length] at h2
    have hl : gs.length = xs.length := by rw [← h2, List.length_map]
    refine ⟨gs, e, by omega, by omega, fun g hg => hnm g.1 ?_, by rw [h2]; exact hnd⟩
    rw [← h2]
    exact List.mem_map.mpr ⟨g, hg, rfl⟩
end Nb
end
section
set_option Elab.async false
set_option linter.all false
set_option maxRecDepth 100000
set_option maxHeartbeats 4000000
/-! Tables put together, in plain Lean. -/
namespace Nb
/-- the row of g that the tables ts are at, at r -/
def idxL (ts : List (List Bool)) (r : Nat) : Nat := ts.foldl (fun acc t => 2 * acc + (t.getD r false).toNat) 0
def putL (g : List Bool) (ts : List (List Bool)) (k : Nat) : List Bool := (List.range (2 ^ k)).map fun r => g.getD (idxL ts r) false
/-- the table of k inputs that is its wire -/
def projL (k w : Nat) : List Bool := (rowsB k).map fun r => r.getD w false
/-- what the gates make over k wires -/
inductive Cl (gs : List Gt) (k : Nat) : List Bool → Prop
  | proj {w : Nat} : w < k → Cl gs k (projL k w)
  | put {g : Gt} {ts : List (List Bool)} : g ∈ gs → ts.length = g.2.k → (∀ t ∈ ts, Cl gs k t) → Cl gs k (putL g.2.t ts k)
theorem idxL_fold (r : Nat) : ∀ (ts : List (List Bool)) (a : Nat), ts.foldl (fun acc t => 2 * acc + (t.getD r false).toNat) a < (a + 1) * 2 ^ ts.length
  | [], a => by simp
  | t :: ts, a => by
    rw [List.foldl_cons]
    have h := idxL_fold r ts (2 * a + (t.getD r false).toNat)
    refine Nat.lt_of_lt_of_le h ?_
    rw [List.length_cons, Nat.pow_succ]
    have : (t.getD r false).toNat ≤ 1 := by cases t.getD r false <;> decide
    calc (2 * a + (t.getD r false).toNat + 1) * 2 ^ ts.length ≤ ((a + 1) * 2) * 2 ^ ts.length := Nat.mul_le_mul_right _ (by omega)
      _ = (a + 1) * (2 ^ ts.length * 2) := by rw [Nat.mul_assoc, Nat.mul_comm 2]
theorem idxL_lt (ts : List (List Bool)) (r : Nat) : idxL ts r < 2 ^ ts.length := by
  have := idxL_fold r ts 0
  simpa [idxL] using this
theorem idxL_snoc (ts : List (List Bool)) (t : List Bool) (r : Nat) : idxL (ts ++ [t]) r = 2 * idxL ts r + (t.getD r false).toNat := by
  unfold idxL
  rw [List.foldl_append]
  rfl
theorem putL_len (g : List Bool) (ts : List (List Bool)) (k : Nat) : (putL g ts k).length = 2 ^ k := by simp [putL]
theorem projL_len (k w : Nat) : (projL k w).length = 2 ^ k := by rw [projL, List.length_map, rowsB_len]
theorem Cl.len {gs : List Gt} {k : Nat} {c : List Bool} (h : Cl gs k c) : c.length = 2 ^ k := by
  cases h with
  | proj => exact projL_len _ _
  | put => exact putL_len _ _ _
theorem bi_toNat (b : Bool) : bi b = ((b.toNat : Nat) : Int) := by cases b <;> rfl
theorem rA_nat (r : List Bool) (i : Nat) : rA r (i : Int) = r.getD i false := by
  rw [rA, Int.toNat_natCast]
end Nb
end
section
set_option Elab.async false
set_option linter.all false
set_option maxRecDepth 100000
set_option maxHeartbeats 4000000
/-! law: gates put together. -/
namespace Nb
open PySem L2
local macro_rules | `(tactic| walk_at "nb_isi") => `(tactic| first | exact isi_ii | exact isi_ib | exact isi_ss | exact isi_tt | exact isi_ll | exact isi_lt)
local macro_rules | `(tactic| walk_at "nb_side") => `(tactic| first | assumption | (show CMul _ _; first | exact Or.inr ⟨by decide, by decide⟩ | exact Or.inl ⟨by decide, by decide⟩ | exact Or.inr ⟨by omega, by omega⟩ | exact Or.inl ⟨by omega, by omega⟩) | (show CDiv _ _; exact ⟨by omega, by omega⟩) | (show CPow _ _; exact ⟨by omega, by omega, by omega⟩) | decide | omega | rfl)
local macro_rules | `(tactic| walk_at "nb_ev") => `(tactic| first
  | exact ev_var rfl
  | exact ev_int
  | exact ev_str
  | exact ev_bl
  | exact ev_non
  | (refine' ev_isi ?h1 ?h2; (case h1 => walk_at "nb_ev"); (case h2 => walk_at "nb_isi"))
  | (refine' ev_isi2 ?h1 ?h2 ?h3; (case h1 => walk_at "nb_ev"); (case h2 => walk_at "nb_isi"); (case h3 => walk_at "nb_isi"))
  | (refine' ev_ii ?h1 ?h2; (case h1 => walk_at "nb_ev"); (case h2 => walk_at "nb_ev"))
  | (refine' ev_ib ?h1 ?h2; (case h1 => walk_at "nb_ev"); (case h2 => walk_at "nb_ev"))
  | (refine' ev_iiC ?h1 ?h2 ?h3; (case h1 => walk_at "nb_ev"); (case h2 => walk_at "nb_ev"); (case h3 => walk_at "nb_side"))
  | (refine' ev_eqI ?h1 ?h2; (case h1 => walk_at "nb_ev"); (case h2 => walk_at "nb_ev"))
  | (refine' ev_neI ?h1 ?h2; (case h1 => walk_at "nb_ev"); (case h2 => walk_at "nb_ev"))
  | (refine' ev_eqS ?h1 ?h2; (case h1 => walk_at "nb_ev"); (case h2 => walk_at "nb_ev"))
  | (refine' ev_neS ?h1 ?h2; (case h1 => walk_at "nb_ev"); (case h2 => walk_at "nb_ev"))
  | (refine' ev_neg ?h1; (case h1 => walk_at "nb_ev"))
  | (refine' ev_andV ?h1 (fun _ => ?h2); (case h1 => walk_at "nb_ev"); (case h2 => walk_at "nb_ev"))
  | (refine' ev_orV ?h1 (fun _ => ?h2); (case h1 => walk_at "nb_ev"); (case h2 => walk_at "nb_ev"))
  | (refine' ev_notV ?h1; (case h1 => walk_at "nb_ev"))
  | walk_at "nb_call")
local macro_rules | `(tactic| walk_at "nb") => `(tactic| (refine' Ev.is ?h ?e; (case h => walk_at "nb_ev"); (try rfl)))
local macro_rules | `(tactic| walk_at "nb_ea") => `(tactic| first | exact ea_nil | (refine' ea_cons ?h1 ?h2; (case h1 => walk_at "nb_ev"); (case h2 => walk_at "nb_ea")))
section
variable {K : Kx} {b : Hp} {w : Wd} {D : Ends} {te ta tb : TE} {tA : TA} {tr : TS} {tt : TT} {δ : Ds} {g : TG} {vs : List Nat} {R R' : Da → Prop} {i j l : Nat}
theorem run_unpackE (h : Ev K w te δ R) (k : ∀ d, R d → ∃ δ', TgD K g d δ δ' ∧ Run K b w D tr δ') : Run K b w D (tSeq (tAsg te g) tr) δ := fun σ G H e s a =>
  h σ G H s a _ fun v G1 H1 d e1 a1 r1 h1 => by
    obtain ⟨δ', ht, hr⟩ := k d h1
    exact ht v σ G1 H1 w r1 (s.ex e1) a1 _ fun σ' s' => hr σ' G1 H1 (Evl.Ex.trans e e1) s' a1
end
/-- a list of columns as lists of ints -/
abbrev clD (c : List Bool) : PyData := .list ((c.map bi).map PyData.int)
theorem col_at {c : List Bool} {i : Nat} (h : i < c.length) : atI ((c.map bi).map PyData.int) (i : Int) = some (.int (bi (c.getD i false))) := by
  have := row_at (r := c) (i := (i : Int)) (by omega) (by omega)
  rwa [rA_nat] at this
/-- the list of the rows' indices -/
abbrev spD (k : Nat) (ts : List (List Bool)) : PyData := .list ((List.range (2 ^ k)).map fun r => .int ((idxL ts r : Nat) : Int))
theorem sp_at {k : Nat} {ts : List (List Bool)} {r : Nat} (h : r < 2 ^ k) : atI ((List.range (2 ^ k)).map fun r => PyData.int ((idxL ts r : Nat) : Int)) (r : Int) = some (.int ((idxL ts r : Nat) : Int)) := by
  obtain ⟨x, e1, e2⟩ := atI_lt (xs := (List.range (2 ^ k)).map fun r => PyData.int ((idxL ts r : Nat) : Int)) (i := (r : Int)) (by omega) (by rw [List.length_map, List.length_range]; omega)
  rw [e1, ← e2, Int.toNat_natCast, List.getElem?_map, List.getElem?_range h]
  rfl
theorem lix {k : Nat} (hk : k ≤ 3) : ([1, 2, 4, 8] : List Int)[k]? = some ((2 ^ k : Nat) : Int) ∧ ∀ m, m < k → ([1, 2, 4, 8] : List Int)[m]? ≠ some ((2 ^ k : Nat) : Int) := by
  have : k = 0 ∨ k = 1 ∨ k = 2 ∨ k = 3 := by omega
  rcases this with h | h | h | h <;> subst h <;> exact ⟨rfl, by decide⟩
structure MaA where
  h : Addr × Addr
  gs : List Gt
  k : Nat
  n : Nat
structure MaOk (w : Wd) (p : MaA) : Prop where
  un : Un w p.h
  k1 : 1 ≤ p.k
  k3 : p.k ≤ 3
  g1 : 1 ≤ p.gs.length
  g3 : p.gs.length ≤ 100
  n3 : p.n ≤ 100
abbrev OK_law_made (P : Program) (w0 : World) (K : Kx) (mg : Str → Option Value) (base : Heap) : Prop := Ok P w0 K mg base 3 "_law_made" ["_law_heap_here", "_law_gates_here", "_law_many", "_law_most"] (spW K (fun (p : MaA) => [.ob p.h.1, .d (.list (p.gs.map gD)), .d (.int (p.k : Int)), .d (.int (p.n : Int))]) (fun w p => MaOk w p) (fun p z => ∃ c, z = .d (bT c) ∧ Cl p.gs p.k c))
theorem ok_law_made {P : Program} {w0 : World} {K : Kx} {mg : Str → Option Value} {base : Heap} (T : Tx K mg) (h__law_pick : OK_law_pick P w0 K mg base) (h__law_settings : OK_law_settings P w0 K mg base) : OK_law_made P w0 K mg base := by
  refine fn_ok T.d_law_made sc_law_made (fun _ => rfl) bi_law_made fun f cdv A outer s H E hr => ⟨_, (pss_cons (ps_set (i := 4) sc_law_made.nd rfl (Or.inr rfl) (pe_f h__law_settings hr (pa_cons (pv 2) pa_nil)))
      (pss_cons (ps_setLc (i := 5) (own := [("_law_wire", 12)]) (g := (gName 12)) (tt := tYes) rfl sc_law_made.nd rfl rfl (sw_true rfl rfl rfl (by decide +kernel)) (pi_range1 rfl T.b_range (pa_cons (pv 2) pa_nil)) (blkOk_by (N := N_law_made) (sc := (defScope s_law_made)) (by decide +kernel)) (fun _ _ _ _ _ => (pg_name (i := 12) sc_law_made.nd rfl (Or.inr rfl))) (fun _ _ _ _ _ => pts_nil) (fun _ _ _ _ _ => (pe_lc (own := [("_law_row", 13)]) (g := (gName 13)) (tt := tYes) rfl sc_law_made.nd (pi_listK (K := K) rfl (pv 4)) (blkOk_by (N := N_law_made) (sc := { kind := .function, names := [(".0", .local), ("_law_wire", .cell), ("_law_rows_here", .cell)], isGenerator := false, isCoroutine := false, more := [] }) (by decide +kernel)) (fun _ _ _ _ _ => (pg_name (i := 13) sc_law_made.nd rfl (Or.inl rfl))) (fun _ _ _ _ _ => pts_nil) (fun _ _ _ _ _ => (pe_ix (ix_tupK (K := K) rfl) (pv 13) (pv 12) (fun _ _ => rfl))))))
      (pss_cons (ps_for PassesOwn.never rfl (pi_range1 rfl T.b_range (pa_cons (pv 3) pa_nil)) (pg_name (i := 6) sc_law_made.nd rfl (Or.inl rfl)) (pss_cons (ps_asg (pe_f h__law_pick hr (pa_cons (pv 0) (pa_cons (pv 1) pa_nil))) (pg_tup rfl (pgs_cons (pg_name (i := 7) sc_law_made.nd rfl (Or.inl rfl)) (pgs_cons (pg_name (i := 8) sc_law_made.nd rfl (Or.inr rfl)) pgs_nil))))
      (pss_cons (ps_set (i := 9) sc_law_made.nd rfl (Or.inr rfl) (pe_lc (own := [("_law_row", 13)]) (g := (gName 13)) (tt := tYes) rfl sc_law_made.nd (pi_list (pv 4)) (blkOk_by (N := N_law_made) (sc := (defScope s_law_made)) (by decide +kernel)) (fun _ _ _ _ _ => (pg_name (i := 13) sc_law_made.nd rfl (Or.inl rfl))) (fun _ _ _ _ _ => pts_nil) (fun _ _ _ _ _ => pe_int)))
      (pss_cons (ps_for PassesOwn.never rfl (pi_range1 rfl T.b_range (pa_cons (pe_bm PySem.F.plainAttrs_list PySem.F.slot_list_index PySem.F.type_list_index mt_index (pe_lst (pa_cons pe_int (pa_cons pe_int (pa_cons pe_int (pa_cons pe_int pa_nil))))) (pa_cons (pe_callB call_len (by rfl) T.b_len (by decide +kernel) (pa_cons (pv 8) pa_nil)) pa_nil)) pa_nil)) (pg_name (i := 10) sc_law_made.nd rfl (Or.inl rfl)) (pss_cons (ps_set (i := 11) sc_law_made.nd rfl (Or.inr rfl) (pe_f h__law_pick hr (pa_cons (pv 0) (pa_cons (pv 5) pa_nil))))
      (pss_one (ps_set (i := 9) sc_law_made.nd rfl (Or.inr rfl) (pe_lc (own := [("_law_at", 14)]) (g := (gName 14)) (tt := tYes) rfl sc_law_made.nd (pi_range1 rfl T.b_range (pa_cons (pe_callB call_len (by rfl) T.b_len (by decide +kernel) (pa_cons (pv 4) pa_nil)) pa_nil)) (blkOk_by (N := N_law_made) (sc := (defScope s_law_made)) (by decide +kernel)) (fun _ _ _ _ _ => (pg_name (i := 14) sc_law_made.nd rfl (Or.inl rfl))) (fun _ _ _ _ _ => pts_nil) (fun _ _ _ _ _ => (pe_op op_add (pe_op op_mul pe_int (pe_ix (ix_listK (K := K) rfl) (pv 9) (pv 14) (fun _ _ => rfl))) (pe_ix (ix_listK (K := K) rfl) (pv 11) (pv 14) (fun _ _ => rfl)))))))))
      (pss_one (ps_expr (pe_bm PySem.F.plainAttrs_list PySem.F.slot_list_append PySem.F.type_list_append mt_append (pv 5) (pa_cons (pe_lc (own := [("_law_spot", 15)]) (g := (gName 15)) (tt := tYes) rfl sc_law_made.nd (pi_list (pv 9)) (blkOk_by (N := N_law_made) (sc := (defScope s_law_made)) (by decide +kernel)) (fun _ _ _ _ _ => (pg_name (i := 15) sc_law_made.nd rfl (Or.inl rfl))) (fun _ _ _ _ _ => pts_nil) (fun _ _ _ _ _ => (pe_ix (ix_tupK (K := K) rfl) (pv 8) (pv 15) (fun _ _ => rfl)))) pa_nil))))))))
      (pss_one (ps_ret (pe_tupleOf rfl T.b_tuple (pe_ix ix_list (pv 5) (pe_un un_neg pe_int) (fun _ _ => rfl)))))))), fun b w D a hp hret hn => ?_⟩
  obtain ⟨⟨hh, l⟩, gs, k, n⟩ := a
  obtain ⟨hw, k1, k3, g1, g3, n3⟩ : MaOk w ⟨(hh, l), gs, k, n⟩ := hp
  have hw : Un w (hh, l) := hw
  simp only at k1 k3 g1 g3 n3
  have hret : RetO K b w D (fun z => ∃ c, z = .d (bT c) ∧ Cl gs k c) := hret
  have h8 : 2 ^ k ≤ 8 := pow3 k3
  have hrl : (rowsB k).length = 2 ^ k := rowsB_len k
  refine run_asg1 (ev_call1 k (by walk_at "nb_ea") k3 fun z e => e) ?_
  refine run_asgH (J := fun ys => ys = ((List.range k).map fun w => projL k w).map clD) ?_ ?_
  · have := eh_lcR (K := K) (w := w) (δ := [some (.ob hh), some (.d (.list (gs.map gD))), some (.d (.int (k : Int))), some (.d (.int (n : Int))), some (.d (rwD (rowsB k))), none, none, none, none, none, none, none, none, none, none, none]) (te := tLc (iList K (tVar 4)) (gName 13) tYes (tOp (rIxT K) (tVar 13) (tVar 12)) [13]) (tt := tYes) (g := gName 12) (vs := [12]) (ta := tCons (tVar 2) tNil) (n := (k : Int)) (fun i acc => acc = ((List.range i).map fun w => projL k w).map clD) wipes_name (by walk_at "nb_ea") ⟨by omega, by omega⟩ rfl ?_
    · rwa [Int.toNat_natCast] at this
    · rintro i acc w' hi rfl _
      refine ⟨_, fun x => x = true, tg_name, et_yes, (fun h => nomatch h), fun _ => ?_⟩
      refine Ev.imp (ev_mapL (rowsB k) (fun r => bT r) (fun r => .int (bi (r.getD i false))) wipes_name (ev_var rfl) (by omega) fun r hr w2 _ => ⟨_, tg_name, ?_⟩) fun z e => ⟨_, e, ?_⟩
      · have hl := rowsB_mem k r hr
        exact ev_ixT (ev_var rfl) (ev_var rfl) (col_at (by omega))
      · rw [List.range_succ, List.map_append, List.map_append]
        congr 1
        show [_] = [clD (projL k i)]
        rw [clD, projL, List.map_map, List.map_map]
        rfl
  rintro q _ rfl
  have wq : ∀ ys, Un (w.add q (.lst ys)) (hh, l) := fun ys => hw
  refine run_forR (n := (n : Int)) (fun i w' δ' => ∃ (cs : List (List Bool)) (o1 o2 o3 o4 o5 o6 : Option Da), w' = w.add q (.lst (cs.map clD)) ∧ 1 ≤ cs.length ∧ cs.length ≤ 3 + i ∧ (∀ c ∈ cs, Cl gs k c) ∧ δ' = [some (.ob hh), some (.d (.list (gs.map gD))), some (.d (.int (k : Int))), some (.d (.int (n : Int))), some (.d (rwD (rowsB k))), some (.ob q), o1, o2, o3, o4, o5, o6, none, none, none, none]) (by walk_at "nb_ea") ⟨by omega, by omega⟩ ⟨_, none, none, none, none, none, none, rfl, by rw [List.length_map, List.length_range]; exact k1, by rw [List.length_map, List.length_range]; exact k3, fun c hc => ?_, rfl⟩ ?_ ?_
  · obtain ⟨v, hv, rfl⟩ := List.mem_map.mp hc
    exact .proj (List.mem_range.mp hv)
  · rintro i w' δ' b' hi ⟨cs, o1, o2, o3, o4, o5, o6, rfl, c1, c3, hcs, rfl⟩ hb
    refine ⟨_, tg_name, ?_⟩
    refine run_unpackE (ev_call1 ((hh, l), (Da.d (.list (gs.map gD)), gs.map gD)) (by walk_at "nb_ea") (pkp (wq _) (.inl rfl) (by rw [List.length_map]; exact g1) (by rw [List.length_map]; omega)) fun z e => e) ?_
    rintro _ ⟨y, rfl, hy⟩
    obtain ⟨⟨x, t⟩, hg, rfl⟩ := List.mem_map.mp hy
    refine ⟨_, tg_tup2, ?_⟩
    have hk := t.hk
    refine run_asg1 (d := .d (spD k [])) (Ev.is (ev_mapL (rowsB k) (fun r => bT r) (fun r => .int 0) wipes_name (ev_var rfl) (by omega) fun r hr w2 _ => ⟨_, tg_name, ev_int⟩) ?_) ?_
    · show Da.d (.list ((rowsB k).map fun _ => PyData.int 0)) = Da.d (.list ((List.range (2 ^ k)).map fun _ => PyData.int 0))
      rw [List.map_const', List.map_const', hrl, List.length_range]
    refine run_forR (n := (t.k : Int)) (fun j w' δ' => w' = w.add q (.lst (cs.map clD)) ∧ ∃ (ts : List (List Bool)) (o5 o6 : Option Da), ts.length = j ∧ (∀ c ∈ ts, Cl gs k c) ∧ δ' = [some (.ob hh), some (.d (.list (gs.map gD))), some (.d (.int (k : Int))), some (.d (.int (n : Int))), some (.d (rwD (rowsB k))), some (.ob q), some (.d (.int (i : Int))), some (.d (.str x)), some (.d (bT t.t)), some (.d (spD k ts)), o5, o6, none, none, none, none]) (ea_cons (ev_lixI (ys := [1, 2, 4, 8]) (z := ((2 ^ t.k : Nat) : Int)) (ev_lst (xs := [.int 1, .int 2, .int 4, .int 8]) (by walk_at "nb_ea")) (Ev.is (ev_CB1 (by walk_at "nb_ea") (ca_len (LenD.tuple _))) (by rw [List.length_map, List.length_map, t.hl])) (lix hk).1 (lix hk).2) ea_nil) ⟨by omega, by omega⟩ ⟨rfl, [], _, _, rfl, by simp, rfl⟩ ?_ ?_
    · rintro j w' δ' b2 hj ⟨rfl, ts, o5, o6, tl, hts, rfl⟩ hb2
      refine ⟨_, tg_name, ?_⟩
      refine run_asg (R := fun z => ∃ c, z = .d (clD c) ∧ c ∈ cs) (Ev.imp (ev_call1 ((hh, l), (Da.ob q, cs.map clD)) (by walk_at "nb_ea") (pkp (wq _) (.inr (.inr (.inr ⟨q, rfl, List.mem_cons_self⟩))) (by rw [List.length_map]; exact c1) (by rw [List.length_map]; omega)) fun z e => e) ?_) ?_
      · rintro z ⟨y, rfl, hy⟩
        obtain ⟨c, hc, rfl⟩ := List.mem_map.mp hy
        exact ⟨c, rfl, hc⟩
      rintro _ ⟨c, rfl, hc⟩
      have hcl := hcs c hc
      have hcn := hcl.len
      refine run_tail (run_asg1 (d := .d (spD k (ts ++ [c]))) (Ev.is (ev_mapR (2 ^ k) (fun r => .int ((idxL (ts ++ [c]) r : Nat) : Int)) wipes_name (ea_cons (Ev.is (ev_CB1 (by walk_at "nb_ea") (ca_len (LenD.list _))) (by rw [List.length_map, hrl])) ea_nil) (by omega) fun r hr w2 _ => ⟨_, tg_name, ?_⟩) rfl) (run_nx ⟨rfl, ts ++ [c], _, _, by rw [List.length_append, tl]; rfl, fun c' hc' => ?_, rfl⟩))
      · have hlt := idxL_lt ts r
        have hle : 2 ^ ts.length ≤ 8 := pow3 (by omega)
        refine Ev.is (ev_ii (f := fun i j => i + j) (ev_iiC (f := fun i j => i * j) ev_int (ev_ixL (ev_var rfl) (ev_var rfl) (sp_at hr)) (Or.inl ⟨by decide, by decide⟩)) (ev_ixL (ev_var rfl) (ev_var rfl) (col_at (by omega)))) ?_
        rw [idxL_snoc, bi_toNat]
        congr 2
      · rcases List.mem_append.mp hc' with h | h
        · exact hts c' h
        · rw [List.mem_singleton.mp h]
          exact hcl
    · rintro w' δ' ⟨rfl, ts, o5, o6, tl, hts, rfl⟩
      rw [Int.toNat_natCast] at tl
      have hput : Cl gs k (putL t.t ts k) := Cl.put (g := (x, t)) hg tl hts
      refine run_tail (run_app (R := fun z => z = .d (clD (putL t.t ts k))) (ev_var rfl) (Ev.is (ev_mapL (List.range (2 ^ k)) (fun r => .int ((idxL ts r : Nat) : Int)) (fun r => .int (bi (t.t.getD (idxL ts r) false))) wipes_name (ev_var rfl) (by rw [List.length_range]; omega) fun r hr w2 _ => ⟨_, tg_name, ?_⟩) ?_) (by rw [List.length_map]; omega) fun d e => ⟨_, e, run_nx ⟨cs ++ [putL t.t ts k], _, _, _, _, _, _, by rw [List.map_append]; rfl, by rw [List.length_append]; omega, by rw [List.length_append, List.length_singleton]; omega, fun c hc => ?_, rfl⟩⟩)
      · refine ev_ixT (ev_var rfl) (ev_var rfl) (col_at ?_)
        rw [t.hl, ← tl]
        exact idxL_lt ts r
      · rw [clD, putL, List.map_map, List.map_map]
        rfl
      · rcases List.mem_append.mp hc with h | h
        · exact hcs c h
        · rw [List.mem_singleton.mp h]
          exact hput
  · rintro w' δ' ⟨cs, o1, o2, o3, o4, o5, o6, rfl, c1, c3, hcs, rfl⟩
    have hat : ∃ c, c ∈ cs ∧ atI (cs.map clD) (-1) = some (clD c) := by
      unfold atI ixN
      rw [List.length_map, if_neg (by decide), if_pos (by omega)]
      show ∃ c, c ∈ cs ∧ (cs.map clD)[(-1 + (cs.length : Int)).toNat]? = _
      rw [show (-1 + (cs.length : Int)).toNat = cs.length - 1 by omega, List.getElem?_map, List.getElem?_eq_getElem (show cs.length - 1 < cs.length by omega)]
      exact ⟨_, List.getElem_mem _, rfl⟩
    obtain ⟨c, hc, e⟩ := hat
    exact run_freeze (i := 5) rfl (run_ret (Ev.imp (ev_tuple (ev_ixL (ev_var rfl) (ev_neg ev_int) e)) fun z e2 => ⟨c, e2, hcs c hc⟩) hret)
end Nb
end
section
set_option Elab.async false
set_option linter.all false
set_option maxRecDepth 100000
set_option maxHeartbeats 4000000
/-! law: put, rows of indices, the closing. -/
namespace Nb
open PySem L2
local macro_rules | `(tactic| walk_at "nb_isi") => `(tactic| first | exact isi_ii | exact isi_ib | exact isi_ss | exact isi_tt | exact isi_ll | exact isi_lt)
local macro_rules | `(tactic| walk_at "nb_side") => `(tactic| first | assumption | (show CMul _ _; first | exact Or.inr ⟨by decide, by decide⟩ | exact Or.inl ⟨by decide, by decide⟩ | exact Or.inr ⟨by omega, by omega⟩ | exact Or.inl ⟨by omega, by omega⟩) | (show CDiv _ _; exact ⟨by omega, by omega⟩) | (show CPow _ _; exact ⟨by omega, by omega, by omega⟩) | decide | omega | rfl)
local macro_rules | `(tactic| walk_at "nb_ev") => `(tactic| first
  | exact ev_var rfl
  | exact ev_int
  | exact ev_str
  | exact ev_bl
  | exact ev_non
  | (refine' ev_isi ?h1 ?h2; (case h1 => walk_at "nb_ev"); (case h2 => walk_at "nb_isi"))
  | (refine' ev_isi2 ?h1 ?h2 ?h3; (case h1 => walk_at "nb_ev"); (case h2 => walk_at "nb_isi"); (case h3 => walk_at "nb_isi"))
  | (refine' ev_ii ?h1 ?h2; (case h1 => walk_at "nb_ev"); (case h2 => walk_at "nb_ev"))
  | (refine' ev_ib ?h1 ?h2; (case h1 => walk_at "nb_ev"); (case h2 => walk_at "nb_ev"))
  | (refine' ev_iiC ?h1 ?h2 ?h3; (case h1 => walk_at "nb_ev"); (case h2 => walk_at "nb_ev"); (case h3 => walk_at "nb_side"))
  | (refine' ev_eqI ?h1 ?h2; (case h1 => walk_at "nb_ev"); (case h2 => walk_at "nb_ev"))
  | (refine' ev_neI ?h1 ?h2; (case h1 => walk_at "nb_ev"); (case h2 => walk_at "nb_ev"))
  | (refine' ev_eqS ?h1 ?h2; (case h1 => walk_at "nb_ev"); (case h2 => walk_at "nb_ev"))
  | (refine' ev_neS ?h1 ?h2; (case h1 => walk_at "nb_ev"); (case h2 => walk_at "nb_ev"))
  | (refine' ev_neg ?h1; (case h1 => walk_at "nb_ev"))
  | (refine' ev_andV ?h1 (fun _ => ?h2); (case h1 => walk_at "nb_ev"); (case h2 => walk_at "nb_ev"))
  | (refine' ev_orV ?h1 (fun _ => ?h2); (case h1 => walk_at "nb_ev"); (case h2 => walk_at "nb_ev"))
  | (refine' ev_notV ?h1; (case h1 => walk_at "nb_ev"))
  | walk_at "nb_call")
local macro_rules | `(tactic| walk_at "nb") => `(tactic| (refine' Ev.is ?h ?e; (case h => walk_at "nb_ev"); (try rfl)))
local macro_rules | `(tactic| walk_at "nb_ea") => `(tactic| first | exact ea_nil | (refine' ea_cons ?h1 ?h2; (case h1 => walk_at "nb_ev"); (case h2 => walk_at "nb_ea")))
structure PuA where
  g : Tb
  k : Nat
  c0 : List Bool
  ts : List (List Bool)
structure PuOk (p : PuA) : Prop where
  k3 : p.k ≤ 3
  l0 : p.c0.length = 2 ^ p.k
  tl : p.ts.length = p.g.k
  ts : ∀ t ∈ p.ts, t.length = 2 ^ p.k
theorem bi_at {g : List Bool} {n : Nat} {i : Int} (h : n < g.length) (e : i = (n : Int)) : atI ((g.map bi).map PyData.int) i = some (.int (bi (g.getD n false))) := by
  subst e
  exact col_at h
theorem getD_map_range {k r : Nat} {f : Nat → Bool} (h : r < 2 ^ k) : ((List.range (2 ^ k)).map f).getD r false = f r := by
  rw [List.getD_eq_getElem?_getD, List.getElem?_map, List.getElem?_range h]
  rfl
abbrev OK_law_put (P : Program) (w0 : World) (K : Kx) (mg : Str → Option Value) (base : Heap) : Prop := Ok P w0 K mg base 1 "_law_put" ["_law_worths", "_law_inner"] (spW K (fun (p : PuA) => [.d (bT p.g.t), .d (.list ((p.c0 :: p.ts).map fun c => bT c))]) (fun _ p => PuOk p) (fun p z => z = .d (bT (putL p.g.t p.ts p.k))))
theorem ok_law_put {P : Program} {w0 : World} {K : Kx} {mg : Str → Option Value} {base : Heap} (T : Tx K mg) : OK_law_put P w0 K mg base := by
  refine fn_ok T.d_law_put sc_law_put (fun _ => rfl) bi_law_put fun f cdv A outer s H E hr => ⟨_, (pss_cons (ps_if (pt_cmpR op_eq (pe_callB call_len (by rfl) T.b_len (by decide +kernel) (pa_cons (pv 0) pa_nil)) pe_int (nomark _)) (pss_one (ps_ret (pe_tupleOf rfl T.b_tuple (pe_lc (own := [("_law_value_here", 2)]) (g := (gName 2)) (tt := tYes) rfl sc_law_put.nd (pi_tup (pe_ix ix_list (pv 1) pe_int (fun _ _ => rfl))) (blkOk_by (N := N_law_put) (sc := (defScope s_law_put)) (by decide +kernel)) (fun _ _ _ _ _ => (pg_name (i := 2) sc_law_put.nd rfl (Or.inl rfl))) (fun _ _ _ _ _ => pts_nil) (fun _ _ _ _ _ => (pe_ix (ix_tupK (K := K) rfl) (pv 0) pe_int (fun _ _ => rfl))))))) pss_nil)
      (pss_cons (ps_if (pt_cmpR op_eq (pe_callB call_len (by rfl) T.b_len (by decide +kernel) (pa_cons (pv 0) pa_nil)) pe_int (nomark _)) (pss_one (ps_ret (pe_tupleOf rfl T.b_tuple (pe_lc (own := [("_law_one", 3)]) (g := (gName 3)) (tt := tYes) rfl sc_law_put.nd (pi_tup (pe_ix ix_list (pv 1) pe_int (fun _ _ => rfl))) (blkOk_by (N := N_law_put) (sc := (defScope s_law_put)) (by decide +kernel)) (fun _ _ _ _ _ => (pg_name (i := 3) sc_law_put.nd rfl (Or.inl rfl))) (fun _ _ _ _ _ => pts_nil) (fun _ _ _ _ _ => (pe_ix (ix_tupK (K := K) rfl) (pv 0) (pv 3) (fun _ _ => rfl))))))) pss_nil)
      (pss_cons (ps_if (pt_cmpR op_eq (pe_callB call_len (by rfl) T.b_len (by decide +kernel) (pa_cons (pv 0) pa_nil)) pe_int (nomark _)) (pss_one (ps_ret (pe_tupleOf rfl T.b_tuple (pe_lc (own := [("_law_at", 4)]) (g := (gName 4)) (tt := tYes) rfl sc_law_put.nd (pi_range1 rfl T.b_range (pa_cons (pe_callB call_len (by rfl) T.b_len (by decide +kernel) (pa_cons (pe_ix ix_list (pv 1) pe_int (fun _ _ => rfl)) pa_nil)) pa_nil)) (blkOk_by (N := N_law_put) (sc := (defScope s_law_put)) (by decide +kernel)) (fun _ _ _ _ _ => (pg_name (i := 4) sc_law_put.nd rfl (Or.inl rfl))) (fun _ _ _ _ _ => pts_nil) (fun _ _ _ _ _ => (pe_ix (ix_tupK (K := K) rfl) (pv 0) (pe_op op_add (pe_op op_mul pe_int (pe_ix (ix_tupK (K := K) rfl) (pe_ix (ix_listK (K := K) rfl) (pv 1) pe_int (fun _ _ => rfl)) (pv 4) (fun _ _ => rfl))) (pe_ix (ix_tupK (K := K) rfl) (pe_ix (ix_listK (K := K) rfl) (pv 1) pe_int (fun _ _ => rfl)) (pv 4) (fun _ _ => rfl))) (fun _ _ => rfl))))))) pss_nil)
      (pss_one (ps_ret (pe_tupleOf rfl T.b_tuple (pe_lc (own := [("_law_at", 4)]) (g := (gName 4)) (tt := tYes) rfl sc_law_put.nd (pi_range1 rfl T.b_range (pa_cons (pe_callB call_len (by rfl) T.b_len (by decide +kernel) (pa_cons (pe_ix ix_list (pv 1) pe_int (fun _ _ => rfl)) pa_nil)) pa_nil)) (blkOk_by (N := N_law_put) (sc := (defScope s_law_put)) (by decide +kernel)) (fun _ _ _ _ _ => (pg_name (i := 4) sc_law_put.nd rfl (Or.inl rfl))) (fun _ _ _ _ _ => pts_nil) (fun _ _ _ _ _ => (pe_ix (ix_tupK (K := K) rfl) (pv 0) (pe_op op_add (pe_op op_add (pe_op op_mul pe_int (pe_ix (ix_tupK (K := K) rfl) (pe_ix (ix_listK (K := K) rfl) (pv 1) pe_int (fun _ _ => rfl)) (pv 4) (fun _ _ => rfl))) (pe_op op_mul pe_int (pe_ix (ix_tupK (K := K) rfl) (pe_ix (ix_listK (K := K) rfl) (pv 1) pe_int (fun _ _ => rfl)) (pv 4) (fun _ _ => rfl)))) (pe_ix (ix_tupK (K := K) rfl) (pe_ix (ix_listK (K := K) rfl) (pv 1) pe_int (fun _ _ => rfl)) (pv 4) (fun _ _ => rfl))) (fun _ _ => rfl)))))))))), fun b w D a hp hret hn => ?_⟩
  obtain ⟨g, k, c0, ts⟩ := a
  obtain ⟨k3, l0, tl, hts⟩ : PuOk ⟨g, k, c0, ts⟩ := hp
  simp only at k3 l0 tl hts
  have hret : RetO K b w D (fun z => z = .d (bT (putL g.t ts k))) := hret
  have gk := g.hk
  have gl := g.hl
  have h8 : 2 ^ k ≤ 8 := pow3 k3
  have hlen : Ev1 K w (tCB (fun xs H Q => ∃ x n, xs = [x] ∧ LenV K x H n ∧ Q (.int n) H) (tCons (tVar 0) tNil)) [some (.d (bT g.t)), some (.d (.list ((c0 :: ts).map fun c => bT c))), none, none, none] (.d (.int ((2 ^ g.k : Nat) : Int))) := Ev.is (ev_CB1 (by walk_at "nb_ea") (ca_len (LenD.tuple _))) (by rw [List.length_map, List.length_map, gl])
  have hin : ∀ (i : Nat) (c : List Bool) (n : Int), n = (i : Int) → (c0 :: ts)[i]? = some c → atI ((c0 :: ts).map fun c => bT c) n = some (bT c) := fun i c n e h => by
    subst e
    have hi := (List.getElem?_eq_some_iff.mp h).1
    obtain ⟨x, e1, e2⟩ := atI_lt (xs := (c0 :: ts).map fun c => bT c) (i := (i : Int)) (by omega) (by rw [List.length_map]; omega)
    rw [e1, ← e2, Int.toNat_natCast, List.getElem?_map, h]
    rfl
  have in0 := hin 0 c0 0 rfl rfl
  refine run_if (B := fun x => x = decide (((2 ^ g.k : Nat) : Int) = 1)) (et_test1 (ev_eqI hlen ev_int)) (fun h => ?_) fun h => run_skip ?_
  · have h := of_decide_eq_true h.symm
    have hg : g.k = 0 := by
      have : g.k = 0 ∨ g.k = 1 ∨ g.k = 2 ∨ g.k = 3 := by omega
      rcases this with e | e | e | e <;> rw [e] at h <;> first | exact e | exact absurd h (by decide)
    have ht : ts = [] := List.length_eq_zero_iff.mp (by omega)
    subst ht
    refine run_ret' (Ev.is (ev_tuple (ev_mapT c0 (fun b => .int (bi b)) (fun _ => .int (bi (g.t.getD 0 false))) wipes_name (Ev.is (ev_ixL (ev_var rfl) ev_int in0) (by rw [bT, iT, List.map_map]; rfl)) (by omega) fun v _ w' _ => ⟨_, tg_name, ev_ixT (ev_var rfl) ev_int (bi_at (by rw [gl, hg]; decide) rfl)⟩)) ?_) hret
    rw [bT, iT, putL, List.map_map, List.map_map, List.map_const', l0]
    show _ = Da.d (.tuple ((List.range (2 ^ k)).map fun _ => PyData.int (bi (g.t.getD 0 false))))
    rw [List.map_const', List.length_range]
  have n0 := of_decide_eq_false h.symm
  clear h
  refine run_if (B := fun x => x = decide (((2 ^ g.k : Nat) : Int) = 2)) (et_test1 (ev_eqI hlen ev_int)) (fun h => ?_) fun h => run_skip ?_
  · have h := of_decide_eq_true h.symm
    have hg : g.k = 1 := by
      have : g.k = 0 ∨ g.k = 1 ∨ g.k = 2 ∨ g.k = 3 := by omega
      rcases this with e | e | e | e <;> rw [e] at h <;> first | exact e | exact absurd h (by decide)
    obtain ⟨t, rfl⟩ : ∃ t, ts = [t] := List.length_eq_one_iff.mp (by omega)
    have tl1 := hts t (by simp)
    refine run_ret' (Ev.is (ev_tuple (ev_mapT t (fun b => .int (bi b)) (fun b => .int (bi (g.t.getD b.toNat false))) wipes_name (Ev.is (ev_ixL (ev_var rfl) ev_int (hin 1 t 1 rfl rfl)) (by rw [bT, iT, List.map_map]; rfl)) (by omega) fun v _ w' _ => ⟨_, tg_name, ev_ixT (ev_var rfl) (ev_var rfl) (bi_at (by rw [gl, hg]; cases v <;> decide) (bi_toNat v))⟩)) ?_) hret
    rw [bT, iT, putL, List.map_map, List.map_map]
    congr 2
    refine List.ext_getElem (by simp [tl1]) fun i q1 q2 => ?_
    rw [List.getElem_map, List.getElem_map, List.getElem_range]
    have e : idxL [t] i = (t[i]'(by simpa using q1)).toNat := by
      show 2 * 0 + (t.getD i false).toNat = _
      rw [List.getD_eq_getElem?_getD, List.getElem?_eq_getElem (by simpa using q1)]
      simp
    show _ = PyData.int (bi (g.t.getD (idxL [t] i) false))
    rw [e]
  have n1 := of_decide_eq_false h.symm
  clear h
  have hl0 : ∀ (δ' : Ds), δ'[1]? = some (some (.d (.list ((c0 :: ts).map fun c => bT c)))) → EvA1 K w (tCons (tCB (fun xs H Q => ∃ x n, xs = [x] ∧ LenV K x H n ∧ Q (.int n) H) (tCons (tOp (rIxL K) (tVar 1) (tC (.int 0))) tNil)) tNil) δ' [.d (.int ((2 ^ k : Nat) : Int))] := fun δ' e1 => ea_cons (Ev.is (ev_CB1 (ea_cons (ev_ixL (ev_var e1) ev_int in0) ea_nil) (ca_len (LenD.tuple _))) (by rw [List.length_map, List.length_map, l0])) ea_nil
  refine run_if (B := fun x => x = decide (((2 ^ g.k : Nat) : Int) = 4)) (et_test1 (ev_eqI hlen ev_int)) (fun h => ?_) fun h => run_skip ?_
  · have h := of_decide_eq_true h.symm
    have hg : g.k = 2 := by
      have : g.k = 0 ∨ g.k = 1 ∨ g.k = 2 ∨ g.k = 3 := by omega
      rcases this with e | e | e | e <;> rw [e] at h <;> first | exact e | exact absurd h (by decide)
    obtain ⟨t, u, rfl⟩ : ∃ t u, ts = [t, u] := by
      match ts, tl with
      | [t, u], _ => exact ⟨t, u, rfl⟩
      | [], h => simp at h; omega
      | [_], h => simp at h; omega
      | _ :: _ :: _ :: _, h => simp at h; omega
    have tl1 := hts t (by simp)
    have tl2 := hts u (by simp)
    refine run_ret' (Ev.is (ev_tuple (ev_mapR (2 ^ k) (fun r => .int (bi (g.t.getD (idxL [t, u] r) false))) wipes_name (hl0 _ rfl) (by omega) fun r hr w' _ => ⟨_, tg_name, ?_⟩)) ?_) hret
    · have e : idxL [t, u] r = 2 * (t.getD r false).toNat + (u.getD r false).toNat := by
        show 2 * (2 * 0 + (t.getD r false).toNat) + (u.getD r false).toNat = _
        omega
      have hb1 := idxL_lt [t, u] r
      refine ev_ixT (ev_var rfl) (ev_ii (f := fun i j => i + j) (ev_iiC (f := fun i j => i * j) ev_int (ev_ixT (ev_ixL (ev_var rfl) ev_int (hin 1 t 1 rfl rfl)) (ev_var rfl) (col_at (by omega))) (Or.inl ⟨by decide, by decide⟩)) (ev_ixT (ev_ixL (ev_var rfl) ev_int (hin 2 u 2 rfl rfl)) (ev_var rfl) (col_at (by omega)))) (bi_at (by rw [gl, hg]; exact hb1) ?_)
      rw [e, bi_toNat, bi_toNat]
      omega
    · rw [bT, iT, putL, List.map_map, List.map_map]
      rfl
  have n2 := of_decide_eq_false h.symm
  clear h
  have hg : g.k = 3 := by
    have : g.k = 0 ∨ g.k = 1 ∨ g.k = 2 ∨ g.k = 3 := by omega
    rcases this with e | e | e | e
    · exact absurd (by rw [e]; rfl) n0
    · exact absurd (by rw [e]; rfl) n1
    · exact absurd (by rw [e]; rfl) n2
    · exact e
  obtain ⟨t, u, v, rfl⟩ : ∃ t u v, ts = [t, u, v] := by
    match ts, tl with
    | [t, u, v], _ => exact ⟨t, u, v, rfl⟩
    | [], h => simp at h; omega
    | [_], h => simp at h; omega
    | [_, _], h => simp at h; omega
    | _ :: _ :: _ :: _ :: _, h => simp at h; omega
  have tl1 := hts t (by simp)
  have tl2 := hts u (by simp)
  have tl3 := hts v (by simp)
  refine run_ret (Ev.is (ev_tuple (ev_mapR (2 ^ k) (fun r => .int (bi (g.t.getD (idxL [t, u, v] r) false))) wipes_name (hl0 _ rfl) (by omega) fun r hr w' _ => ⟨_, tg_name, ?_⟩)) ?_) hret
  · have e : idxL [t, u, v] r = 4 * (t.getD r false).toNat + 2 * (u.getD r false).toNat + (v.getD r false).toNat := by
      show 2 * (2 * (2 * 0 + (t.getD r false).toNat) + (u.getD r false).toNat) + (v.getD r false).toNat = _
      omega
    have hb1 := idxL_lt [t, u, v] r
    refine ev_ixT (ev_var rfl) (ev_ii (f := fun i j => i + j) (ev_ii (f := fun i j => i + j) (ev_iiC (f := fun i j => i * j) ev_int (ev_ixT (ev_ixL (ev_var rfl) ev_int (hin 1 t 1 rfl rfl)) (ev_var rfl) (col_at (by omega))) (Or.inl ⟨by decide, by decide⟩)) (ev_iiC (f := fun i j => i * j) ev_int (ev_ixT (ev_ixL (ev_var rfl) ev_int (hin 2 u 2 rfl rfl)) (ev_var rfl) (col_at (by omega))) (Or.inl ⟨by decide, by decide⟩))) (ev_ixT (ev_ixL (ev_var rfl) ev_int (hin 3 v 3 rfl rfl)) (ev_var rfl) (col_at (by omega)))) (bi_at (by rw [gl, hg]; exact hb1) ?_)
    rw [e, bi_toNat, bi_toNat, bi_toNat]
    omega
  · rw [bT, iT, putL, List.map_map, List.map_map]
    rfl

/-! rows of indices -/
def rowsN (m : Nat) : Nat → List (List Nat)
  | 0 => [[]]
  | w + 1 => (rowsN m w).flatMap fun r => (List.range m).map fun i => r ++ [i]
theorem manyN_len (m : Nat) : ∀ rs : List (List Nat), (rs.flatMap fun r => (List.range m).map fun i => r ++ [i]).length = rs.length * m
  | [] => by simp
  | r :: rs => by
    rw [List.flatMap_cons, List.length_append, manyN_len m rs, List.length_map, List.length_range, List.length_cons, Nat.succ_mul, Nat.add_comm]
theorem rowsN_len (m : Nat) : ∀ w, (rowsN m w).length = m ^ w
  | 0 => rfl
  | w + 1 => by
    unfold rowsN
    rw [manyN_len, rowsN_len m w, Nat.pow_succ]
theorem rowsN_mem (m : Nat) : ∀ (w : Nat) (r : List Nat), r ∈ rowsN m w ↔ r.length = w ∧ ∀ x ∈ r, x < m
  | 0, r => by
    unfold rowsN
    rw [List.mem_singleton]
    constructor
    · rintro rfl
      exact ⟨rfl, by simp⟩
    · rintro ⟨h, _⟩
      exact List.length_eq_zero_iff.mp h
  | w + 1, r => by
    unfold rowsN
    rw [List.mem_flatMap]
    constructor
    · rintro ⟨r', h1, h2⟩
      obtain ⟨i, hi, rfl⟩ := List.mem_map.mp h2
      obtain ⟨a, c⟩ := (rowsN_mem m w r').mp h1
      refine ⟨by rw [List.length_append, a]; rfl, fun x hx => ?_⟩
      rcases List.mem_append.mp hx with h | h
      · exact c x h
      · rw [List.mem_singleton.mp h]
        exact List.mem_range.mp hi
    · rintro ⟨hl, hx⟩
      rcases List.eq_nil_or_concat r with e | ⟨r', i, e⟩
      · rw [e] at hl
        simp at hl
      · have e : r = r' ++ [i] := by simpa using e
        refine ⟨r', (rowsN_mem m w r').mpr ⟨?_, fun x hx' => hx x (by rw [e]; exact List.mem_append_left _ hx')⟩, List.mem_map.mpr ⟨i, List.mem_range.mpr (hx i (by rw [e]; simp)), e.symm⟩⟩
        rw [e, List.length_append, List.length_singleton] at hl
        omega
theorem pow16 {m w : Nat} (hm : m ≤ 16) (hw : w ≤ 3) : m ^ w ≤ 4096 := by
  refine Nat.le_trans (Nat.pow_le_pow_left hm w) (Nat.le_trans (Nat.pow_le_pow_right (n := 16) (by decide) hw) (by decide))
abbrev nsD (rs : List (List Nat)) : PyData := .list (rs.map fun r => nL r)
abbrev OK_law_rows (P : Program) (w0 : World) (K : Kx) (mg : Str → Option Value) (base : Heap) : Prop := Ok P w0 K mg base 1 "_law_rows" ["_law_many", "_law_width"] (spW K (fun (p : Nat × Nat) => [.d (.int (p.1 : Int)), .d (.int (p.2 : Int))]) (fun _ p => p.1 ≤ 16 ∧ p.2 ≤ 3) (fun p z => z = .d (nsD (rowsN p.1 p.2))))
theorem ok_law_rows {P : Program} {w0 : World} {K : Kx} {mg : Str → Option Value} {base : Heap} (T : Tx K mg) : OK_law_rows P w0 K mg base := by
  refine fn_ok T.d_law_rows sc_law_rows (fun _ => rfl) bi_law_rows fun f cdv A outer s H E hr => ⟨_, (pss_cons (ps_set (i := 2) sc_law_rows.nd rfl (Or.inl rfl) (pe_lst (pa_cons (pe_lst pa_nil) pa_nil)))
      (pss_cons (ps_for PassesOwn.never rfl (pi_range1 rfl T.b_range (pa_cons (pv 1) pa_nil)) (pg_name (i := 3) sc_law_rows.nd rfl (Or.inl rfl)) (pss_cons (ps_set (i := 4) sc_law_rows.nd rfl (Or.inl rfl) (pe_lst pa_nil))
      (pss_cons (ps_for PassesOwn.never rfl (pi_list (pv 2)) (pg_name (i := 5) sc_law_rows.nd rfl (Or.inr rfl)) (pss_one (ps_set (i := 4) sc_law_rows.nd rfl (Or.inl rfl) (pe_op NbR.op_catL (pv 4) (pe_lc (own := [("_law_at", 6)]) (g := (gName 6)) (tt := tYes) rfl sc_law_rows.nd (pi_range1 rfl T.b_range (pa_cons (pv 0) pa_nil)) (blkOk_by (N := N_law_rows) (sc := (defScope s_law_rows)) (by decide +kernel)) (fun _ _ _ _ _ => (pg_name (i := 6) sc_law_rows.nd rfl (Or.inl rfl))) (fun _ _ _ _ _ => pts_nil) (fun _ _ _ _ _ => (pe_op (op_catLK (K := K) rfl) (pv 5) (pe_lst (pa_cons (pv 6) pa_nil)))))))))
      (pss_one (ps_set (i := 2) sc_law_rows.nd rfl (Or.inl rfl) (pv 4))))))
      (pss_one (ps_ret (pv 2))))), fun b w D a hp hret hn => ?_⟩
  obtain ⟨m, n⟩ := a
  obtain ⟨hm, hn3⟩ : m ≤ 16 ∧ n ≤ 3 := hp
  refine run_asg1 (d := .d (nsD (rowsN m 0))) (ev_lst (xs := [.list []]) (ea_cons (ev_lst (xs := []) ea_nil) ea_nil)) ?_
  refine run_forR (n := (n : Int)) (fun i w' δ' => w' = w ∧ ∃ o1 o2 o3, δ' = [some (.d (.int (m : Int))), some (.d (.int (n : Int))), some (.d (nsD (rowsN m i))), o1, o2, o3, none]) (by walk_at "nb_ea") ⟨by omega, by omega⟩ ⟨rfl, none, none, none, rfl⟩ ?_ ?_
  · rintro i w' δ' b' hi ⟨rfl, o1, o2, o3, rfl⟩ hb
    have hi' : i < n := by omega
    have hl : (rowsN m i).length ≤ 4096 := by rw [rowsN_len]; exact pow16 hm (by omega)
    refine ⟨_, tg_name, ?_⟩
    refine run_asg1 (d := .d (.list [])) (ev_lst (xs := []) ea_nil) ?_
    refine run_forL (xs := (rowsN m i).map fun r => nL r) (fun j w2 δ' => w2 = w' ∧ ∃ o, δ' = [some (.d (.int (m : Int))), some (.d (.int (n : Int))), some (.d (nsD (rowsN m i))), some (.d (.int (i : Int))), some (.d (nsD (((rowsN m i).take j).flatMap fun r => (List.range m).map fun i => r ++ [i]))), o, none]) (ev_var rfl) ⟨rfl, _, rfl⟩ ?_ ?_
    · rintro j x w2 δ' b2 hx ⟨rfl, o, rfl⟩ hb2
      rw [List.getElem?_map] at hx
      cases hq : (rowsN m i)[j]? with
      | none =>
        rw [hq] at hx
        cases hx
      | some r =>
        rw [hq] at hx
        cases hx
        have hrl := ((rowsN_mem m i r).mp (List.mem_of_getElem? hq)).1
        have hmore : (((rowsN m i).take j).flatMap fun r => (List.range m).map fun i => r ++ [i]).length ≤ 4096 * 16 := by
          rw [manyN_len]
          have := List.length_take_le' j (rowsN m i)
          exact Nat.mul_le_mul (by omega) hm
        refine ⟨_, tg_name, ?_⟩
        refine run_tail (run_asg1 (d := .d (nsD (((rowsN m i).take (j + 1)).flatMap fun r => (List.range m).map fun i => r ++ [i]))) (Ev.is (ev_op1 (ev_var rfl) (ev_mapR m (fun i => nL (r ++ [i])) wipes_name (by walk_at "nb_ea") (by omega) fun v hv w' _ => ⟨_, tg_name, Ev.is (ev_op1 (ev_var rfl) (ev_lst (xs := [.int (v : Int)]) (ea_cons (ev_var rfl) ea_nil) (by simp)) (od_catL ?_)) ?_⟩) (od_catL ?_)) ?_) (run_nx ⟨rfl, _, rfl⟩))
        · rw [List.length_map, List.length_singleton]
          omega
        · rw [nL, List.map_append]
          rfl
        · rw [List.length_map, List.length_map, List.length_range]
          omega
        · rw [take_one hq, List.flatMap_append, nsD, List.map_append]
          congr 2
          congr 1
          rw [List.flatMap_cons, List.flatMap_nil, List.append_nil, List.map_map]
          rfl
    · rintro w2 δ2 ⟨rfl, o, rfl⟩
      rw [List.length_map, List.take_length]
      exact run_tail (run_asg1 (ev_var rfl) (run_nx ⟨rfl, _, _, _, rfl⟩))
  · rintro w' δ' ⟨rfl, o1, o2, o3, rfl⟩
    rw [Int.toNat_natCast]
    exact run_ret (ev_var rfl) hret
end Nb
end
section
set_option Elab.async false
set_option linter.all false
set_option maxRecDepth 100000
set_option maxHeartbeats 4000000
/-! law: the closing. -/
namespace Nb
open PySem L2
local macro_rules | `(tactic| walk_at "nb_isi") => `(tactic| first | exact isi_ii | exact isi_ib | exact isi_ss | exact isi_tt | exact isi_ll | exact isi_lt)
local macro_rules | `(tactic| walk_at "nb_side") => `(tactic| first | assumption | (show CMul _ _; first | exact Or.inr ⟨by decide, by decide⟩ | exact Or.inl ⟨by decide, by decide⟩ | exact Or.inr ⟨by omega, by omega⟩ | exact Or.inl ⟨by omega, by omega⟩) | (show CDiv _ _; exact ⟨by omega, by omega⟩) | (show CPow _ _; exact ⟨by omega, by omega, by omega⟩) | decide | omega | rfl)
local macro_rules | `(tactic| walk_at "nb_ev") => `(tactic| first
  | exact ev_var rfl
  | exact ev_int
  | exact ev_str
  | exact ev_bl
  | exact ev_non
  | (refine' ev_isi ?h1 ?h2; (case h1 => walk_at "nb_ev"); (case h2 => walk_at "nb_isi"))
  | (refine' ev_isi2 ?h1 ?h2 ?h3; (case h1 => walk_at "nb_ev"); (case h2 => walk_at "nb_isi"); (case h3 => walk_at "nb_isi"))
  | (refine' ev_ii ?h1 ?h2; (case h1 => walk_at "nb_ev"); (case h2 => walk_at "nb_ev"))
  | (refine' ev_ib ?h1 ?h2; (case h1 => walk_at "nb_ev"); (case h2 => walk_at "nb_ev"))
  | (refine' ev_iiC ?h1 ?h2 ?h3; (case h1 => walk_at "nb_ev"); (case h2 => walk_at "nb_ev"); (case h3 => walk_at "nb_side"))
  | (refine' ev_eqI ?h1 ?h2; (case h1 => walk_at "nb_ev"); (case h2 => walk_at "nb_ev"))
  | (refine' ev_neI ?h1 ?h2; (case h1 => walk_at "nb_ev"); (case h2 => walk_at "nb_ev"))
  | (refine' ev_eqS ?h1 ?h2; (case h1 => walk_at "nb_ev"); (case h2 => walk_at "nb_ev"))
  | (refine' ev_neS ?h1 ?h2; (case h1 => walk_at "nb_ev"); (case h2 => walk_at "nb_ev"))
  | (refine' ev_neg ?h1; (case h1 => walk_at "nb_ev"))
  | (refine' ev_andV ?h1 (fun _ => ?h2); (case h1 => walk_at "nb_ev"); (case h2 => walk_at "nb_ev"))
  | (refine' ev_orV ?h1 (fun _ => ?h2); (case h1 => walk_at "nb_ev"); (case h2 => walk_at "nb_ev"))
  | (refine' ev_notV ?h1; (case h1 => walk_at "nb_ev"))
  | walk_at "nb_call")
local macro_rules | `(tactic| walk_at "nb") => `(tactic| (refine' Ev.is ?h ?e; (case h => walk_at "nb_ev"); (try rfl)))
local macro_rules | `(tactic| walk_at "nb_ea") => `(tactic| first | exact ea_nil | (refine' ea_cons ?h1 ?h2; (case h1 => walk_at "nb_ev"); (case h2 => walk_at "nb_ea")))
section
variable {K : Kx} {b : Hp} {w : Wd} {D : Ends} {te tl ta tb tc : TE} {tr : TS} {tt : TT} {δ : Ds} {g : TG} {vs : List Nat} {i j l : Nat}
theorem run_unpack3H {J : List PyData → Prop} {y z : Da} (h1 : EvH K w ta δ J) (h2 : ∀ p ys, J ys → Ev1 K (w.add p (.lst ys)) tb δ y) (h3 : ∀ p ys, J ys → Ev1 K (w.add p (.lst ys)) tc δ z)
    (k : ∀ p ys, J ys → Run K b (w.add p (.lst ys)) D tr (((δ.set i (some (.ob p))).set j (some y)).set l (some z))) :
    Run K b w D (tSeq (tAsg (tTup (tCons ta (tCons tb (tCons tc tNil)))) (gTup K 3 (gCons (gName i) (gCons (gName j) (gCons (gName l) gNil))))) tr) δ := fun σ G H e s a =>
  h1 σ G H s a _ fun p G1 H1 ys e1 a1 j1 => h2 p ys j1 σ G1 H1 (s.ex e1) a1 _ fun v G2 H2 d2 e2 a2 r2 q2 => h3 p ys j1 σ G2 H2 (s.ex (Evl.Ex.trans e1 e2)) a2 _ fun u G3 H3 d3 e3 a3 r3 q3 => by
    subst q2 q3
    refine ⟨by show 3 ≤ sizeLine; decide, fun T hT => ?_⟩
    have e4 := ex_upd (a3.freeG hT) (o := .tup [.ref p, v, u])
    have e14 := Evl.Ex.trans (Evl.Ex.trans (Evl.Ex.trans e1 e2) e3) e4
    exact ⟨_, _, rfl, Evl.st_of upd_same, rfl, _, _, rfl, _, _, rfl, _, _, rfl, rfl, k p ys j1 _ _ _ (Evl.Ex.trans e e14) ((((s.ex e14).set i (show Dr K _ (.ref p) (.ob p) from rfl)).set j ((r2.ex e3).ex e4)).set l (r3.ex e4)) (a3.new hT)⟩
/-- a comprehension over a list; the hidden cells stay known -/
theorem ev_lcLw {xs : List PyData} (J : Nat → List PyData → Prop) (hw : Wipes g vs) (h : Ev1 K w tl δ (.d (.list xs))) (hz : xs.length ≤ 100000) (h0 : J 0 [])
    (hs : ∀ (i : Nat) (x : PyData) acc q o, xs[i]? = some x → J i acc → ∃ δ2 B, TgD K g (.d x) (wipeD δ vs) δ2 ∧ EvT K (w.add q o) tt δ2 B ∧ (B false → J (i + 1) acc) ∧ (B true → Ev K (w.add q o) te δ2 fun z => ∃ y, z = .d y ∧ J (i + 1) (acc ++ [y]))) :
    Ev K w (tLc (iList K tl) g tt te vs) δ (fun z => ∃ ys, z = .d (.list ys) ∧ J xs.length ys) := fun σ G H s a Q q =>
  h σ G H s a _ fun v G1 H1 d e1 a1 r1 h1 => by
    subst h1
    cases (show Dp K G1 v (.list xs) from r1) with
    | lst x1 x2 =>
      rename_i p us
      have hl := dpAll_len x2
      refine ⟨p, rfl, ⟨us, Evl.ex_l a1.ex x1⟩, fun D hD => lc_list (K := K) (a := p) (xs := us) (fun i H' => ∃ G' acc ys, Ex G1 G' ∧ At K (w.add D (.raw (.lst acc))) G' H' ∧ DpAll K G' acc ys ∧ J i ys ∧ ys.length ≤ i) ⟨G1, [], [], Evl.Ex.refl G1, a1.push hD upd_same, .nil, h0, Nat.le_refl _⟩ (fun i H' _ ⟨G', acc, ys, e', a', _⟩ => Evl.ex_l (Evl.Ex.trans e' a'.ex) x1) (fun i y H' hy ⟨G', acc, ys, e', a', da, j', hn⟩ => ?_) fun H' ⟨G', acc, ys, e', a', da, j', hn⟩ => ?_⟩
      · obtain ⟨x, hx, rx⟩ := dpAll_get' x2 hy
        have hi : i < us.length := (List.getElem?_eq_some_iff.mp hy).1
        obtain ⟨δ2, B, ht, hb, hf, he⟩ := hs i x ys D (.raw (.lst acc)) hx j'
        refine (hw y σ H' _ (ht y (L2.wipe σ vs) G' H' (w.add D (.raw (.lst acc))) (show Dr K G' y (.d x) from dp_ex e' x y rx) ((s.ex (Evl.Ex.trans e1 e')).wipe vs) a' _ fun σ2 s2 => ?_))
        refine hb σ2 G' H' s2 a' _ fun c G2 H2 e2 a2 hc => ?_
        cases c with
        | false => exact ⟨G2, acc, ys, Evl.Ex.trans e' e2, a2, dp_exs e2 _ _ da, hf hc, Nat.le_succ_of_le hn⟩
        | true =>
          refine he hc σ2 G2 H2 (s2.ex e2) a2 _ fun z G3 H3 d3 e3 a3 r3 ⟨t, e4, j4⟩ => ?_
          subst e4
          refine ⟨acc, a3.top, Evl.sz_lt (by rw [dpAll_len da]; omega), G3, acc ++ [z], ys ++ [t], Evl.Ex.trans e' (Evl.Ex.trans e2 e3), a3.set upd_same, dpAll_app (dp_exs (Evl.Ex.trans e2 e3) _ _ da) (dpAll_one r3), j4, by rw [List.length_append]; exact Nat.succ_le_succ hn⟩
      · rw [hl] at j'
        exact q _ _ _ (.d (.list ys)) (Evl.Ex.trans (Evl.Ex.trans e1 e') (ex_upd a'.topG)) (a'.freeze a'.top) (Dp.lst (Evl.sq_of upd_same) (dp_exs (ex_upd a'.topG) _ _ da)) ⟨ys, rfl, j'⟩
end
/-! plain: what the closing keeps -/
structure FI (gs : List Gt) (k : Nat) (fs : List (List Bool)) : Prop where
  nd : fs.Nodup
  cl : ∀ c ∈ fs, Cl gs k c
  pj : ∀ w, w < k → projL k w ∈ fs
  ge : 1 ≤ fs.length
  le : fs.length ≤ 2 ^ 2 ^ k
abbrev putI (g : Gt) (fs : List (List Bool)) (row : List Nat) (k : Nat) : List Bool := putL g.2.t (row.map fun x => fs.getD x []) k
/-- closed for the first d -/
def Pd (gs : List Gt) (k d : Nat) (fs : List (List Bool)) : Prop := ∀ g ∈ gs, ∀ row : List Nat, row.length = g.2.k → (∀ x ∈ row, x < d) → putI g fs row k ∈ fs
theorem putI_pre {g : Gt} {fs0 t : List (List Bool)} {row : List Nat} {k : Nat} (h : ∀ x ∈ row, x < fs0.length) : putI g (fs0 ++ t) row k = putI g fs0 row k := by
  unfold putI
  congr 1
  refine List.map_congr_left fun x hx => ?_
  rw [List.getD_eq_getElem?_getD, List.getD_eq_getElem?_getD, List.getElem?_append_left (h x hx)]
theorem FI.add {gs : List Gt} {k : Nat} {fs : List (List Bool)} {c : List Bool} (h : FI gs k fs) (hc : Cl gs k c) (hn : c ∉ fs) (hl : fs.length < 2 ^ 2 ^ k) : FI gs k (fs ++ [c]) := by
  refine ⟨?_, fun x hx => ?_, fun w hw => List.mem_append_left _ (h.pj w hw), by rw [List.length_append]; exact Nat.le_add_left 1 _, by rw [List.length_append]; exact hl⟩
  · rw [List.nodup_append]
    refine ⟨h.nd, by simp, fun a ha b hb e => ?_⟩
    rw [List.mem_singleton.mp hb] at e
    exact hn (e ▸ ha)
  · rcases List.mem_append.mp hx with q | q
    · exact h.cl x q
    · rw [List.mem_singleton.mp q]
      exact hc
/-- what comes of the closing -/
structure Clos (gs : List Gt) (k : Nat) (fs : List (List Bool)) : Prop where
  nd : fs.Nodup
  cl : ∀ c ∈ fs, Cl gs k c
  pj : ∀ w, w < k → projL k w ∈ fs
  srt : fs.Pairwise fun n m => TS.code 2 (n.map bi) ≤ TS.code 2 (m.map bi)
  cls : fs.length = 2 ^ 2 ^ k ∨ ∀ g ∈ gs, ∀ ts : List (List Bool), ts.length = g.2.k → (∀ t ∈ ts, t ∈ fs) → putL g.2.t ts k ∈ fs
theorem ix_of {fs : List (List Bool)} : ∀ ts : List (List Bool), (∀ t ∈ ts, t ∈ fs) → ∃ row : List Nat, ts = row.map (fun x => fs.getD x []) ∧ ∀ x ∈ row, x < fs.length
  | [], _ => ⟨[], rfl, by simp⟩
  | t :: ts, h => by
    obtain ⟨row, e, hx⟩ := ix_of ts fun u hu => h u (List.mem_cons_of_mem _ hu)
    obtain ⟨i, hi⟩ := List.getElem?_of_mem (h t List.mem_cons_self)
    refine ⟨i :: row, ?_, fun x hx' => ?_⟩
    · rw [List.map_cons, ← e, List.getD_eq_getElem?_getD, hi]
      rfl
    · rcases List.mem_cons.mp hx' with q | q
      · rw [q]
        exact (List.getElem?_eq_some_iff.mp hi).1
      · exact hx x q
theorem unmap_perm {rows : List (List Int)} {fs : List (List Bool)} (h : rows.Perm (fs.map fun c => c.map bi)) : ∃ fs' : List (List Bool), rows = fs'.map (fun c => c.map bi) ∧ fs'.Perm fs := by
  have hu : ∀ c : List Bool, (c.map bi).map (fun i => i != 0) = c := fun c => by
    rw [List.map_map]
    refine List.map_id'' (fun b => ?_) c
    cases b <;> rfl
  refine ⟨rows.map fun r => r.map fun i => i != 0, ?_, ?_⟩
  · have : ∀ l : List (List Int), (∀ r ∈ l, r ∈ rows) → (l.map fun r => r.map fun i => i != 0).map (fun c => c.map bi) = l := fun l => by
      induction l with
      | nil => intro _; rfl
      | cons r l ih =>
        intro hl
        rw [List.map_cons, List.map_cons, ih fun x hx => hl x (List.mem_cons_of_mem _ hx)]
        obtain ⟨c, _, rfl⟩ := List.mem_map.mp (h.mem_iff.mp (hl r List.mem_cons_self))
        rw [hu]
    exact (this rows fun _ q => q).symm
  · have := h.map fun r => r.map fun i => i != 0
    rw [List.map_map] at this
    have e : fs.map ((fun r : List Int => r.map fun i => i != 0) ∘ fun c => c.map bi) = fs := List.map_id'' (fun c => hu c) fs
    rwa [e] at this
theorem Clos.of {gs : List Gt} {k d : Nat} {fs : List (List Bool)} {rows : List (List Int)} (h : FI gs k fs) (hd : d = fs.length ∨ fs.length = 2 ^ 2 ^ k) (hp : fs.length = 2 ^ 2 ^ k ∨ d = 0 ∨ Pd gs k d fs) (hr : rows.Perm (fs.map fun c => c.map bi)) (hs : rows.Pairwise fun n m => TS.code 2 n ≤ TS.code 2 m) :
    ∃ fs', rows = fs'.map (fun c => c.map bi) ∧ Clos gs k fs' := by
  obtain ⟨fs', e, p⟩ := unmap_perm hr
  refine ⟨fs', e, p.nodup_iff.mpr h.nd, fun c hc => h.cl c (p.mem_iff.mp hc), fun w hw => p.mem_iff.mpr (h.pj w hw), ?_, ?_⟩
  · rw [e] at hs
    exact (List.pairwise_map (R := fun n m => TS.code 2 n ≤ TS.code 2 m) (f := fun c : List Bool => c.map bi)).mp hs
  · by_cases hf : fs.length = 2 ^ 2 ^ k
    · exact .inl (p.length_eq.trans hf)
    · right
      have hd' : d = fs.length := hd.resolve_right hf
      have hP : Pd gs k d fs := (hp.resolve_left hf).resolve_left (by have := h.ge; omega)
      intro g hg ts hl ht
      obtain ⟨row, er, hx⟩ := ix_of ts fun t q => p.mem_iff.mp (ht t q)
      refine p.mem_iff.mpr ?_
      rw [er]
      exact hP g hg row (by rw [er, List.length_map] at hl; exact hl) fun x q => by rw [hd']; exact hx x q
theorem any_bT (fs : List (List Bool)) (c : List Bool) : ((fs.map fun c => bT c).any fun z => PyData.eqv z (bT c)) = decide (c ∈ fs) := by
  rw [List.any_map, Bool.eq_iff_iff, List.any_eq_true, decide_eq_true_iff]
  constructor
  · rintro ⟨x, hx, h⟩
    have h : PyData.eqv (bT x) (bT c) = true := h
    rw [eqv_bT] at h
    rw [← of_decide_eq_true h]
    exact hx
  · intro h
    refine ⟨c, h, ?_⟩
    show PyData.eqv (bT c) (bT c) = true
    rw [eqv_bT, decide_eq_true rfl]

structure CoA where
  gs : List Gt
  k : Nat
abbrev OK_law_closed (P : Program) (w0 : World) (K : Kx) (mg : Str → Option Value) (base : Heap) : Prop := Ok P w0 K mg base 2 "_law_closed" ["_law_gates_here", "_law_many"] (spW K (fun (p : CoA) => [.d (.list (p.gs.map gD)), .d (.int (p.k : Int))]) (fun _ p => (p.k = 1 ∨ p.k = 2) ∧ p.gs.length ≤ 100) (fun p z => ∃ fs, z = .d (rwD fs) ∧ Clos p.gs p.k fs))
theorem ok_law_closed {P : Program} {w0 : World} {K : Kx} {mg : Str → Option Value} {base : Heap} (T : Tx K mg) (h__law_put : OK_law_put P w0 K mg base) (h__law_rows : OK_law_rows P w0 K mg base) (h__law_settings : OK_law_settings P w0 K mg base) : OK_law_closed P w0 K mg base := by
  refine fn_ok T.d_law_closed sc_law_closed (fun _ => rfl) bi_law_closed fun f cdv A outer s H E hr => ⟨_, (pss_cons (ps_set (i := 2) sc_law_closed.nd rfl (Or.inr rfl) (pe_f h__law_settings hr (pa_cons (pv 1) pa_nil)))
      (pss_cons (ps_asg (pe_tup (pa_cons (pe_lc (own := [("_law_wire", 13)]) (g := (gName 13)) (tt := tYes) rfl sc_law_closed.nd (pi_range1 rfl T.b_range (pa_cons (pv 1) pa_nil)) (blkOk_by (N := N_law_closed) (sc := (defScope s_law_closed)) (by decide +kernel)) (fun _ _ _ _ _ => (pg_name (i := 13) sc_law_closed.nd rfl (Or.inr rfl))) (fun _ _ _ _ _ => pts_nil) (fun _ _ _ _ _ => (pe_tupleOfK (K := K) rfl rfl T.b_tuple (pe_lc (own := [("_law_row", 11)]) (g := (gName 11)) (tt := tYes) rfl sc_law_closed.nd (pi_listK (K := K) rfl (pv 2)) (blkOk_by (N := N_law_closed) (sc := { kind := .function, names := [(".0", .local), ("_law_wire", .cell), ("tuple", .globalImplicit), ("_law_rows_here", .cell)], isGenerator := false, isCoroutine := false, more := [] }) (by decide +kernel)) (fun _ _ _ _ _ => (pg_name (i := 11) sc_law_closed.nd rfl (Or.inl rfl))) (fun _ _ _ _ _ => pts_nil) (fun _ _ _ _ _ => (pe_ix (ix_tupK (K := K) rfl) (pv 11) (pv 13) (fun _ _ => rfl))))))) (pa_cons pe_int (pa_cons (pe_ix ix_list (pe_lst (pa_cons pe_int (pa_cons pe_int (pa_cons pe_int pa_nil)))) (pv 1) (fun _ _ => rfl)) pa_nil)))) (pg_tup rfl (pgs_cons (pg_name (i := 3) sc_law_closed.nd rfl (Or.inr rfl)) (pgs_cons (pg_name (i := 4) sc_law_closed.nd rfl (Or.inl rfl)) (pgs_cons (pg_name (i := 5) sc_law_closed.nd rfl (Or.inl rfl)) pgs_nil)))))
      (pss_cons (ps_for PassesOwn.never rfl (pi_range1 rfl T.b_range (pa_cons pe_int pa_nil)) (pg_name (i := 6) sc_law_closed.nd rfl (Or.inl rfl)) (pss_cons (ps_if (PW.pt (pw_or (pt_cmpR op_eq (pv 4) (pe_callB call_len (by rfl) T.b_len (by decide +kernel) (pa_cons (pv 3) pa_nil)) (nomark _)) (pw_or1 (pt_cmpR op_eq (pe_callB call_len (by rfl) T.b_len (by decide +kernel) (pa_cons (pv 3) pa_nil)) (pv 5) (nomark _))))) (pss_one (ps_ret (pe_callB (cr_sortA (B := 2)) (by rfl) T.b_sorted (by decide +kernel) (pa_cons (pv 3) pa_nil)))) pss_nil)
      (pss_cons (ps_asg (pe_tup (pa_cons (pv 4) (pa_cons (pe_callB call_len (by rfl) T.b_len (by decide +kernel) (pa_cons (pv 3) pa_nil)) pa_nil))) (pg_tup rfl (pgs_cons (pg_name (i := 7) sc_law_closed.nd rfl (Or.inr rfl)) (pgs_cons (pg_name (i := 4) sc_law_closed.nd rfl (Or.inl rfl)) pgs_nil))))
      (pss_one (ps_for PassesOwn.never rfl (pi_list (pv 0)) (pg_tup rfl (pgs_cons (pg_name (i := 8) sc_law_closed.nd rfl (Or.inl rfl)) (pgs_cons (pg_name (i := 9) sc_law_closed.nd rfl (Or.inl rfl)) pgs_nil))) (pss_cons (ps_set (i := 10) sc_law_closed.nd rfl (Or.inl rfl) (pe_bm PySem.F.plainAttrs_list PySem.F.slot_list_index PySem.F.type_list_index mt_index (pe_lst (pa_cons pe_int (pa_cons pe_int (pa_cons pe_int (pa_cons pe_int pa_nil))))) (pa_cons (pe_callB call_len (by rfl) T.b_len (by decide +kernel) (pa_cons (pv 9) pa_nil)) pa_nil)))
      (pss_one (ps_for PassesOwn.never rfl (pi_list (pe_f h__law_rows hr (pa_cons (pv 4) (pa_cons (pv 10) pa_nil)))) (pg_name (i := 11) sc_law_closed.nd rfl (Or.inl rfl)) (pss_one (ps_if (PW.pt (pw_and (pt_cmpR op_lt (pe_callB call_len (by rfl) T.b_len (by decide +kernel) (pa_cons (pv 3) pa_nil)) (pv 5) (nomark _)) (pw_and1 (PW.pt (pw_or (pt_cmpR op_eq (pv 7) pe_int (nomark _)) (pw_or1 (pt_val (pe_callB (cr_any rfl) (by rfl) T.b_any (by decide +kernel) (pa_cons (pe_lc (own := [("_law_at", 14)]) (g := (gName 14)) (tt := tYes) rfl sc_law_closed.nd (pi_list (pv 11)) (blkOk_by (N := N_law_closed) (sc := (defScope s_law_closed)) (by decide +kernel)) (fun _ _ _ _ _ => (pg_name (i := 14) sc_law_closed.nd rfl (Or.inl rfl))) (fun _ _ _ _ _ => pts_nil) (fun _ _ _ _ _ => (pe_cmpR op_ge (pv 14) (pv 7) (nomark _)))) pa_nil))))))))) (pss_cons (ps_set (i := 12) sc_law_closed.nd rfl (Or.inl rfl) (pe_f h__law_put hr (pa_cons (pv 9) (pa_cons (pe_op NbR.op_catL (pe_lst (pa_cons (pe_ix ix_list (pv 3) pe_int (fun _ _ => rfl)) pa_nil)) (pe_lc (own := [("_law_at", 14)]) (g := (gName 14)) (tt := tYes) rfl sc_law_closed.nd (pi_list (pv 11)) (blkOk_by (N := N_law_closed) (sc := (defScope s_law_closed)) (by decide +kernel)) (fun _ _ _ _ _ => (pg_name (i := 14) sc_law_closed.nd rfl (Or.inl rfl))) (fun _ _ _ _ _ => pts_nil) (fun _ _ _ _ _ => (pe_ix (ix_listK (K := K) rfl) (pv 3) (pv 14) (fun _ _ => rfl))))) pa_nil))))
      (pss_one (ps_if (pt_cmpR (NbR.op_notInA (u65 hr)) (pv 12) (pv 3) (by rfl)) (pss_one (ps_expr (pe_bm PySem.F.plainAttrs_list PySem.F.slot_list_append PySem.F.type_list_append mt_append (pv 3) (pa_cons (pv 12) pa_nil)))) pss_nil))) pss_nil))))))))))
      (pss_one (ps_ret (pe_callB (cr_sortA (B := 2)) (by rfl) T.b_sorted (by decide +kernel) (pa_cons (pv 3) pa_nil))))))), fun b w D a hp hret hn => ?_⟩
  obtain ⟨gs, k⟩ := a
  obtain ⟨hk, hgl⟩ : (k = 1 ∨ k = 2) ∧ gs.length ≤ 100 := hp
  have hret : RetO K b w D (fun z => ∃ fs, z = .d (rwD fs) ∧ Clos gs k fs) := hret
  have k3 : k ≤ 3 := by omega
  have h8 : 2 ^ k ≤ 8 := pow3 k3
  have h16 : 2 ^ 2 ^ k ≤ 16 := by rcases hk with h | h <;> subst h <;> decide
  have hk16 : k ≤ 2 ^ 2 ^ k := by rcases hk with h | h <;> subst h <;> decide
  have hrl : (rowsB k).length = 2 ^ k := rowsB_len k
  have pj_nd : ((List.range k).map fun w => projL k w).Nodup := by rcases hk with h | h <;> subst h <;> decide
  have hmost : atI ([.int 2, .int 4, .int 16] : List PyData) (k : Int) = some (.int ((2 ^ 2 ^ k : Nat) : Int)) := by rcases hk with h | h <;> subst h <;> rfl
  refine run_asg1 (ev_call1 k (by walk_at "nb_ea") k3 fun z e => e) ?_
  refine run_unpack3H (J := fun ys => ys = ((List.range k).map fun w => projL k w).map fun c => bT c) (y := .d (.int 0)) (z := .d (.int ((2 ^ 2 ^ k : Nat) : Int))) ?_ ?_ ?_ ?_
  · have := eh_lcR (K := K) (w := w) (δ := [some (.d (.list (gs.map gD))), some (.d (.int (k : Int))), some (.d (rwD (rowsB k))), none, none, none, none, none, none, none, none, none, none, none, none]) (te := tThen (tLc (iList K (tVar 2)) (gName 11) tYes (tOp (rIxT K) (tVar 11) (tVar 13)) [11]) (kTup K)) (tt := tYes) (g := gName 13) (vs := [13]) (ta := tCons (tVar 1) tNil) (n := (k : Int)) (fun i acc => acc = ((List.range i).map fun w => projL k w).map fun c => bT c) wipes_name (by walk_at "nb_ea") ⟨by omega, by omega⟩ rfl ?_
    · rwa [Int.toNat_natCast] at this
    · rintro i acc w' hi rfl _
      refine ⟨_, fun x => x = true, tg_name, et_yes, (fun h => nomatch h), fun _ => ?_⟩
      refine Ev.imp (ev_tuple (ev_mapL (rowsB k) (fun r => bT r) (fun r => .int (bi (r.getD i false))) wipes_name (ev_var rfl) (by omega) fun r hr w2 _ => ⟨_, tg_name, ?_⟩)) fun z e => ⟨_, e, ?_⟩
      · have hl := rowsB_mem k r hr
        exact ev_ixT (ev_var rfl) (ev_var rfl) (col_at (by omega))
      · rw [List.range_succ, List.map_append, List.map_append]
        congr 1
        show [_] = [bT (projL k i)]
        rw [bT, iT, projL, List.map_map, List.map_map]
        rfl
  · rintro q _ rfl
    exact ev_int
  · rintro q _ rfl
    exact ev_ixL (ev_lst (xs := [.int 2, .int 4, .int 16]) (by walk_at "nb_ea")) (ev_var rfl) hmost
  rintro q _ rfl
  have F0 : FI gs k ((List.range k).map fun w => projL k w) := ⟨pj_nd, fun c hc => by
    obtain ⟨v, hv, rfl⟩ := List.mem_map.mp hc
    exact .proj (List.mem_range.mp hv), fun v hv => List.mem_map.mpr ⟨v, List.mem_range.mpr hv, rfl⟩, by rw [List.length_map, List.length_range]; omega, by rw [List.length_map, List.length_range]; exact hk16⟩
  have hfin : ∀ (b' : Hp) (fs : List (List Bool)) (d : Nat) (δ' : Ds), Ex b b' → FI gs k fs → (d = fs.length ∨ fs.length = 2 ^ 2 ^ k) → (fs.length = 2 ^ 2 ^ k ∨ d = 0 ∨ Pd gs k d fs) → δ'[3]? = some (some (.ob q)) → ∀ D' : Ends, D'.rt = D.rt → Run K b' (w.add q (.lst (fs.map fun c => bT c))) D' (tRet (tCB (rSortA K 2) (tCons (tVar 3) tNil))) δ' := fun b' fs d δ' hb F hd hP h3 D' hD => by
    have hlt : 3 < δ'.length := (List.getElem?_eq_some_iff.mp h3).1
    refine run_freeze (i := 3) h3 (run_ret (R := fun z => ∃ fs, z = .d (rwD fs) ∧ Clos gs k fs) (Ev.imp (ev_CB1 (xs := [.d (.list ((fs.map fun c => c.map bi).map iT))]) (ea_cons (Ev.is (ev_var (List.getElem?_set_self hlt)) ?_) ea_nil) (ca_sortA (2 ^ k) (Nat.two_pow_pos k) (by rw [List.length_map]; have := F.le; omega) ?_)) ?_) ?_)
    · rw [List.map_map]
      rfl
    · intro n hn'
      obtain ⟨c, hc, rfl⟩ := List.mem_map.mp hn'
      refine ⟨by rw [List.length_map]; exact (F.cl c hc).len, fun x hx => ?_⟩
      obtain ⟨v, _, rfl⟩ := List.mem_map.mp hx
      exact bi_01 v
    · rintro z ⟨rows, p, s, rfl⟩
      obtain ⟨fs', e, C⟩ := Clos.of F hd hP p s
      refine ⟨fs', ?_, C⟩
      rw [e, List.map_map]
      rfl
    · intro v G H d' e a r h
      rw [hD]
      exact (hret.mono hb) v G H d' e a r h
  refine run_forR (n := 20) (fun i w' δ' => ∃ (fs : List (List Bool)) (d : Nat) (o6 o7 o8 o9 o10 o11 o12 : Option Da), w' = w.add q (.lst (fs.map fun c => bT c)) ∧ FI gs k fs ∧ i ≤ d ∧ d ≤ fs.length ∧ (fs.length = 2 ^ 2 ^ k ∨ d = 0 ∨ Pd gs k d fs) ∧ δ' = [some (.d (.list (gs.map gD))), some (.d (.int (k : Int))), some (.d (rwD (rowsB k))), some (.ob q), some (.d (.int (d : Int))), some (.d (.int ((2 ^ 2 ^ k : Nat) : Int))), o6, o7, o8, o9, o10, o11, o12, none, none]) (by walk_at "nb_ea") ⟨by decide, by decide⟩ ⟨_, 0, none, none, none, none, none, none, none, rfl, F0, Nat.le_refl _, Nat.zero_le _, .inr (.inl rfl), rfl⟩ ?_ ?_
  · rintro i w' δ' b' hi ⟨fs, d, o6, o7, o8, o9, o10, o11, o12, rfl, F, id, dl, hP, rfl⟩ hb
    refine ⟨_, tg_name, ?_⟩
    have hlen : ∀ (fs : List (List Bool)) (δ' : Ds), δ'[3]? = some (some (.ob q)) → Ev1 K (w.add q (.lst (fs.map fun c => bT c))) (tCB (fun xs H Q => ∃ x n, xs = [x] ∧ LenV K x H n ∧ Q (.int n) H) (tCons (tVar 3) tNil)) δ' (.d (.int (fs.length : Int))) := fun fs δ' h3 => Ev.is (ev_CB1 (ea_cons (ev_var h3) ea_nil) ca_lenH) (by rw [List.length_map])
    refine run_if (B := fun x => x = (decide (d = fs.length) || decide (fs.length = 2 ^ 2 ^ k))) (EvT.is (et_or (et_test1 (ev_eqI (ev_var rfl) (hlen fs _ rfl))) fun _ => et_test1 (ev_eqI (hlen fs _ rfl) (ev_var rfl))) (by rw [nat_eq, nat_eq])) (fun h => ?_) fun h => run_skip ?_
    · have hd : d = fs.length ∨ fs.length = 2 ^ 2 ^ k := by simpa using h.symm
      exact fun σ G H e s a => hfin b' fs d _ hb F hd hP rfl { D with nx := _, ct := _, bk := _ } rfl σ G H e s a
    have hd : ¬ d = fs.length ∧ ¬ fs.length = 2 ^ 2 ^ k := by simpa using h.symm
    refine run_unpackE (ev_tup (xs := [.int (d : Int), .int (fs.length : Int)]) (ea_cons (ev_var rfl) (ea_cons (hlen fs _ rfl) ea_nil)) (by simp)) ?_
    rintro _ rfl
    refine ⟨_, tg_tup2, ?_⟩
    refine run_tail (run_forL (xs := gs.map gD) (fun gi w' δ' => ∃ (f2 : List (List Bool)) (o8 o9 o10 o11 o12 : Option Da), w' = w.add q (.lst (f2.map fun c => bT c)) ∧ FI gs k f2 ∧ (∃ t, f2 = fs ++ t) ∧ (f2.length = 2 ^ 2 ^ k ∨ ∀ g ∈ gs.take gi, ∀ row : List Nat, row.length = g.2.k → (∀ x ∈ row, x < fs.length) → putI g fs row k ∈ f2) ∧ δ' = [some (.d (.list (gs.map gD))), some (.d (.int (k : Int))), some (.d (rwD (rowsB k))), some (.ob q), some (.d (.int (fs.length : Int))), some (.d (.int ((2 ^ 2 ^ k : Nat) : Int))), some (.d (.int (i : Int))), some (.d (.int (d : Int))), o8, o9, o10, o11, o12, none, none]) (ev_var rfl) ⟨fs, _, _, _, _, _, rfl, F, ⟨[], by simp⟩, .inr (by simp), rfl⟩ ?_ ?_)
    · rintro gi x w' δ' b2 hx ⟨f2, p8, p9, p10, p11, p12, rfl, F2, ⟨t2, hpre⟩, hdone, rfl⟩ hb2
      rw [List.getElem?_map] at hx
      cases hq : gs[gi]? with
      | none =>
        rw [hq] at hx
        cases hx
      | some g =>
        rw [hq] at hx
        cases hx
        have hg := List.mem_of_getElem? hq
        have gk := g.2.hk
        have hd16 : fs.length ≤ 16 := Nat.le_trans F.le h16
        refine ⟨_, tg_tup2, ?_⟩
        refine run_asg1 (ev_lixI (ys := [1, 2, 4, 8]) (z := ((2 ^ g.2.k : Nat) : Int)) (ev_lst (xs := [.int 1, .int 2, .int 4, .int 8]) (by walk_at "nb_ea")) (Ev.is (ev_CB1 (by walk_at "nb_ea") (ca_len (LenD.tuple _))) (by rw [List.length_map, List.length_map, g.2.hl])) (lix gk).1 (lix gk).2) ?_
        refine run_tail (run_forL (xs := (rowsN fs.length g.2.k).map fun r => nL r) (fun ri w' δ' => ∃ (f3 : List (List Bool)) (o11 o12 : Option Da), w' = w.add q (.lst (f3.map fun c => bT c)) ∧ FI gs k f3 ∧ (∃ t, f3 = fs ++ t) ∧ (f3.length = 2 ^ 2 ^ k ∨ (∀ g ∈ gs.take gi, ∀ row : List Nat, row.length = g.2.k → (∀ x ∈ row, x < fs.length) → putI g fs row k ∈ f3) ∧ ∀ row ∈ (rowsN fs.length g.2.k).take ri, putI g fs row k ∈ f3) ∧ δ' = [some (.d (.list (gs.map gD))), some (.d (.int (k : Int))), some (.d (rwD (rowsB k))), some (.ob q), some (.d (.int (fs.length : Int))), some (.d (.int ((2 ^ 2 ^ k : Nat) : Int))), some (.d (.int (i : Int))), some (.d (.int (d : Int))), some (.d (.str g.1)), some (.d (bT g.2.t)), some (.d (.int (g.2.k : Int))), o11, o12, none, none]) (ev_call1 (fs.length, g.2.k) (by walk_at "nb_ea") ⟨hd16, gk⟩ fun z e => e) ⟨f2, _, _, rfl, F2, ⟨t2, hpre⟩, hdone.imp_right fun h => ⟨h, by simp⟩, rfl⟩ ?_ ?_)
        · rintro ri x w' δ' b3 hx ⟨f3, p11, p12, rfl, F3, ⟨t3, hpre3⟩, hdone3, rfl⟩ hb3
          rw [List.getElem?_map] at hx
          cases hq3 : (rowsN fs.length g.2.k)[ri]? with
          | none =>
            rw [hq3] at hx
            cases hx
          | some row =>
            rw [hq3] at hx
            cases hx
            obtain ⟨rl, rx⟩ := (rowsN_mem fs.length g.2.k row).mp (List.mem_of_getElem? hq3)
            have hpi : putI g f3 row k = putI g fs row k := by rw [hpre3]; exact putI_pre rx
            have f3le : f3.length ≤ 16 := Nat.le_trans F3.le h16
            have fsle : fs.length ≤ f3.length := by rw [hpre3, List.length_append]; exact Nat.le_add_right _ _
            have hnext : ∀ (f4 : List (List Bool)) (o12 : Option Da), FI gs k f4 → (∃ t, f4 = f3 ++ t) → (f4.length = 2 ^ 2 ^ k ∨ putI g fs row k ∈ f4) → (∃ (f3 : List (List Bool)) (o11 o12' : Option Da), w.add q (.lst (f4.map fun c => bT c)) = w.add q (.lst (f3.map fun c => bT c)) ∧ FI gs k f3 ∧ (∃ t, f3 = fs ++ t) ∧ (f3.length = 2 ^ 2 ^ k ∨ (∀ g ∈ gs.take gi, ∀ row : List Nat, row.length = g.2.k → (∀ x ∈ row, x < fs.length) → putI g fs row k ∈ f3) ∧ ∀ row ∈ (rowsN fs.length g.2.k).take (ri + 1), putI g fs row k ∈ f3) ∧ ([some (.d (.list (gs.map gD))), some (.d (.int (k : Int))), some (.d (rwD (rowsB k))), some (.ob q), some (.d (.int (fs.length : Int))), some (.d (.int ((2 ^ 2 ^ k : Nat) : Int))), some (.d (.int (i : Int))), some (.d (.int (d : Int))), some (.d (.str g.1)), some (.d (bT g.2.t)), some (.d (.int (g.2.k : Int))), some (.d (nL row)), o12, none, none] : Ds) = [some (.d (.list (gs.map gD))), some (.d (.int (k : Int))), some (.d (rwD (rowsB k))), some (.ob q), some (.d (.int (fs.length : Int))), some (.d (.int ((2 ^ 2 ^ k : Nat) : Int))), some (.d (.int (i : Int))), some (.d (.int (d : Int))), some (.d (.str g.1)), some (.d (bT g.2.t)), some (.d (.int (g.2.k : Int))), o11, o12', none, none]) := by
              rintro f4 o12 F4 ⟨t4, hpre4⟩ hrow
              refine ⟨f4, _, _, rfl, F4, ⟨t3 ++ t4, by rw [hpre4, hpre3, List.append_assoc]⟩, ?_, rfl⟩
              rcases hrow with h | h
              · exact .inl h
              rcases hdone3 with h3 | ⟨h3, h4⟩
              · left
                have := F4.le
                rw [hpre4, List.length_append] at this ⊢
                omega
              · right
                refine ⟨fun g' hg' row' h1 h2 => by rw [hpre4]; exact List.mem_append_left _ (h3 g' hg' row' h1 h2), fun row' hr' => ?_⟩
                rw [take_one hq3] at hr'
                rcases List.mem_append.mp hr' with hr' | hr'
                · rw [hpre4]
                  exact List.mem_append_left _ (h4 row' hr')
                · rw [List.mem_singleton.mp hr']
                  exact h
            refine ⟨_, tg_name, ?_⟩
            refine run_tail (run_if (B := fun x => x = (decide (f3.length < 2 ^ 2 ^ k) && (decide (d = 0) || row.any fun x => decide (d ≤ x)))) ?_ (fun h => ?_) fun h => run_skip (run_nx (hnext f3 _ F3 ⟨[], by simp⟩ ?_)))
            · refine EvT.is (et_and (et_test1 (ev_ib (f := fun i j => decide (i < j)) (hlen f3 _ rfl) (ev_var rfl))) fun _ => et_or (et_test1 (ev_eqI (i := (d : Int)) (j := ((0 : Nat) : Int)) (ev_var rfl) ev_int)) fun _ => et_B1 (ev_any (l := row) (fun x => decide (d ≤ x)) (ev_mapL row (fun n => .int ((n : Nat) : Int)) (fun x => .bool (decide (d ≤ x))) wipes_name (ev_var rfl) (by omega) fun x hx w2 _ => ⟨_, tg_name, Ev.is (ev_ib (f := fun i j => decide (i ≥ j)) (ev_var rfl) (ev_var rfl)) ?_⟩))) ?_
              · congr 2
                exact decide_eq_decide.mpr ⟨fun h => by omega, fun h => by omega⟩
              · rw [nat_eq]
                congr 1
                exact decide_eq_decide.mpr ⟨fun h => by omega, fun h => by omega⟩
            · have hlt : f3.length < 2 ^ 2 ^ k := by
                have := h.symm
                simp only [Bool.and_eq_true, decide_eq_true_eq] at this
                exact this.1
              obtain ⟨c0, r0, ef⟩ : ∃ c0 r0, f3 = c0 :: r0 := by
                cases f3 with
                | nil => exact absurd F3.ge (by decide)
                | cons c0 r0 => exact ⟨c0, r0, rfl⟩
              have c0l : c0.length = 2 ^ k := (F3.cl c0 (by rw [ef]; exact List.mem_cons_self)).len
              have hat0 : atI (f3.map fun c => bT c) 0 = some (bT c0) := by
                obtain ⟨x, q1, q2⟩ := atI_lt (xs := f3.map fun c => bT c) (i := 0) (Int.le_refl 0) (by rw [List.length_map]; have := F3.ge; omega)
                rw [q1, ← q2, ef]
                rfl
              have hatx : ∀ x ∈ row, atI (f3.map fun c => bT c) (x : Int) = some (bT (f3.getD x [])) := fun x hx => by
                have hx' : x < f3.length := Nat.lt_of_lt_of_le (rx x hx) fsle
                obtain ⟨y, q1, q2⟩ := atI_lt (xs := f3.map fun c => bT c) (i := (x : Int)) (by omega) (by rw [List.length_map]; omega)
                rw [q1, ← q2, Int.toNat_natCast, List.getElem?_map, List.getD_eq_getElem?_getD, List.getElem?_eq_getElem hx']
                rfl
              have hcx : ∀ t ∈ row.map (fun x => f3.getD x []), Cl gs k t := fun t ht => by
                obtain ⟨x, hx, rfl⟩ := List.mem_map.mp ht
                have hx' : x < f3.length := Nat.lt_of_lt_of_le (rx x hx) fsle
                rw [List.getD_eq_getElem?_getD, List.getElem?_eq_getElem hx']
                exact F3.cl _ (List.getElem_mem hx')
              have hput : Cl gs k (putI g f3 row k) := Cl.put hg (by rw [List.length_map]; exact rl) hcx
              refine run_assoc (run_asg1 (d := .d (bT (putI g f3 row k))) (ev_call1 (PuA.mk g.2 k c0 (row.map fun x => f3.getD x [])) (ea_cons (ev_var rfl) (ea_cons (Ev.is (ev_op1 (ev_lst (xs := [bT c0]) (ea_cons (ev_op1 (ev_var rfl) ev_int (od_ixH hat0)) ea_nil) (by simp)) (x := .d (.list [bT c0])) (y := .d (.list ((row.map fun x => f3.getD x []).map fun c => bT c))) ?_ (od_catL ?_)) ?_) ea_nil)) ⟨k3, c0l, by show (row.map fun x => f3.getD x []).length = g.2.k; rw [List.length_map]; exact rl, fun t ht => (hcx t ht).len⟩ fun z e => e) ?_)
              · refine Ev.imp (ev_lcLw (xs := row.map fun n => .int ((n : Nat) : Int)) (fun i acc => acc = ((row.take i).map fun x => f3.getD x []).map fun c => bT c) wipes_name (ev_var rfl) (by rw [List.length_map]; omega) rfl ?_) ?_
                · rintro j x acc D0 o hx rfl
                  rw [List.getElem?_map] at hx
                  cases hqx : row[j]? with
                  | none =>
                    rw [hqx] at hx
                    cases hx
                  | some x =>
                    rw [hqx] at hx
                    cases hx
                    refine ⟨_, fun x => x = true, tg_name, et_yes, (fun h => nomatch h), fun _ => ?_⟩
                    refine Ev.imp (ev_op1 (ev_var rfl) (ev_var rfl) (od_ixM (p := q) (List.mem_cons_of_mem _ List.mem_cons_self) (hatx x (List.mem_of_getElem? hqx)))) fun z e => ⟨_, e, ?_⟩
                    rw [take_one hqx, List.map_append, List.map_append]
                    rfl
                · rintro z ⟨ys, e, rfl⟩
                  rw [e, List.length_map, List.take_length]
              · rw [List.length_map, List.length_map, List.length_singleton]
                omega
              · rfl
              · refine run_if (B := fun x => x = !decide (putI g f3 row k ∈ f3)) (et_test1 (Ev.is (ev_op1 (ev_var rfl) (ev_var rfl) (od_notInH (shaped_iT _) (shaped_rw f3))) (by rw [any_bT]))) (fun h => ?_) fun h => run_skip (run_nx (hnext f3 _ F3 ⟨[], by simp⟩ (.inr ?_)))
                · have hnm : putI g f3 row k ∉ f3 := by simpa using h.symm
                  refine run_app (R := fun z => z = .d (bT (putI g f3 row k))) (ev_var rfl) (ev_var rfl) (by rw [List.length_map]; omega) fun z e => ⟨_, e, run_nx ?_⟩
                  have := hnext (f3 ++ [putI g f3 row k]) (some (.d (bT (putI g f3 row k)))) (F3.add hput hnm hlt) ⟨_, rfl⟩ (.inr (by rw [← hpi]; simp))
                  rw [List.map_append] at this
                  exact this
                · have hm : putI g f3 row k ∈ f3 := by simpa using h.symm
                  rwa [hpi] at hm
            · by_cases hf : f3.length = 2 ^ 2 ^ k
              · exact .inl hf
              · right
                have hlt : f3.length < 2 ^ 2 ^ k := Nat.lt_of_le_of_ne F3.le hf
                rw [decide_eq_true hlt, Bool.true_and] at h
                have h2 : ¬ d = 0 ∧ ∀ x ∈ row, x < d := by simpa using h.symm
                rw [hpre3]
                exact List.mem_append_left _ (((hP.resolve_left hd.2).resolve_left h2.1) g hg row rl h2.2)
        · rintro w' δ' ⟨f3, p11, p12, rfl, F3, hpre3, hdone3, rfl⟩
          rw [List.length_map, List.take_length] at hdone3
          refine run_nx ⟨f3, _, _, _, _, _, rfl, F3, hpre3, hdone3.imp_right fun ⟨h1, h2⟩ => ?_, rfl⟩
          intro g' hg' row h3 h4
          rw [take_one hq] at hg'
          rcases List.mem_append.mp hg' with hg' | hg'
          · exact h1 g' hg' row h3 h4
          · have e := List.mem_singleton.mp hg'
            rw [e] at h3 ⊢
            exact h2 row ((rowsN_mem _ _ _).mpr ⟨h3, h4⟩)
    · rintro w' δ' ⟨f2, p8, p9, p10, p11, p12, rfl, F2, ⟨t2, hpre⟩, hdone, rfl⟩
      rw [List.length_map, List.take_length] at hdone
      refine run_nx ⟨f2, fs.length, _, _, _, _, _, _, _, rfl, F2, by omega, by rw [hpre, List.length_append]; exact Nat.le_add_right _ _, ?_, rfl⟩
      rcases hdone with h | h
      · exact .inl h
      · right
        right
        intro g hg row h1 h2
        have e : putI g f2 row k = putI g fs row k := by rw [hpre]; exact putI_pre h2
        rw [e]
        exact h g hg row h1 h2
  · rintro w' δ' ⟨fs, d, o6, o7, o8, o9, o10, o11, o12, rfl, F, id, dl, hP, rfl⟩
    have := F.le
    have id : 20 ≤ d := id
    omega
end Nb
end
section
set_option Elab.async false
set_option linter.all false
set_option maxRecDepth 100000
set_option maxHeartbeats 4000000
/-! The plain law: kinds are relations that tables keep; the closing makes all tables of the kinds. -/
namespace Nb
structure Dn where
  t : Nat
  steps : List (Nat × List Nat)
  nx : Nat
structure En where
  S : Nat
  m : Nat
  cand : List (List Nat)
  D : List Dn
def mkD : List (List Nat) := [[3002, 893], [3002, 1568, 4095, 893], [3002, 0, 2178, 1568, 2178, 1568, 2080, 0, 2514, 96, 4095, 69, 4095, 69, 2381, 893], [3002, 0, 2178, 0, 2178, 0, 2048, 0, 2178, 0, 2178, 0, 2178, 0, 2048, 1568, 2178, 0, 2048, 0, 2048, 0, 2048, 1024, 2048, 0, 2048, 0, 2048, 0, 2048, 0, 2178, 0, 2178, 0, 2048, 0, 2048, 0, 2178, 0, 2178, 1024, 2048, 0, 2048, 0, 2178, 0, 2048, 1568, 2048, 0, 2048, 0, 2048, 0, 2048, 0, 2080, 0, 2048, 0, 2178, 0, 2048, 0, 2178, 0, 2048, 0, 2178, 0, 2048, 0, 2178, 1024, 2048, 0, 2178, 0, 2048, 0, 2048, 1568, 2048, 0, 2048, 0, 2080, 0, 2048, 0, 2048, 0, 2178, 0, 2048, 0, 2048, 0, 2080, 0, 2176, 1056, 2048, 0, 2048, 0, 2048, 0, 2178, 1024, 2048, 0, 2048, 0, 2048, 0, 2048, 0, 2048, 0, 2048, 0, 2048, 0, 2514, 64, 2242, 64, 2242, 64, 2112, 64, 2514, 64, 2242, 64, 2242, 64, 3136, 64, 2242, 64, 2112, 64, 2112, 64, 3168, 64, 2112, 96, 2112, 64, 2112, 64, 2112, 64, 2514, 64, 2242, 64, 2112, 96, 2112, 64, 2498, 64, 4095, 69, 2112, 64, 2117, 69, 2242, 64, 3136, 64, 2112, 64, 2112, 64, 2112, 64, 2117, 69, 2112, 64, 2117, 69, 2514, 64, 2112, 96, 2242, 64, 2112, 64, 2498, 64, 2112, 64, 4095, 69, 2117, 69, 2242, 64, 2112, 64, 3136, 64, 2112, 64, 2112, 64, 2112, 64, 2117, 69, 2117, 69, 2498, 64, 2112, 64, 2112, 64, 2112, 64, 3524, 68, 2373, 69, 2373, 69, 2381, 69, 4095, 69, 2117, 69, 2117, 69, 2117, 69, 2373, 69, 2381, 69, 2381, 69, 2381, 893]]
def fam1 : List En := [
  ⟨4, 2112, [[2, 2, 2]], [⟨0, [], 1⟩, ⟨1, [], 2⟩, ⟨3, [], 3⟩]⟩,
  ⟨5, 2048, [[0, 0, 0]], [⟨1, [(1, [0])], 4⟩, ⟨3, [], 5⟩]⟩,
  ⟨6, 1024, [[1, 1, 1], [1, 2, 1], [1, 1, 2], [1, 2, 2]], [⟨0, [(1, [0])], 4⟩, ⟨3, [(1, [3])], 4⟩]⟩,
  ⟨12, 64, [[2, 2, 2]], [⟨0, [], 5⟩, ⟨1, [(1, [3])], 4⟩]⟩,
  ⟨15, 0, [], []⟩,
  ⟨13, 256, [[2, 0, 0], [3, 2, 0], [3, 3, 2], [0, 2, 3], [2, 3, 0], [3, 0, 2], [0, 0, 2], [2, 0, 3], [0, 3, 2], [2, 3, 3], [0, 2, 0], [3, 2, 3]], [⟨1, [], 4⟩]⟩]
def fam2 : List En := [
  ⟨5120, 3136, [[10, 12, 10], [10, 10, 12], [10, 12, 12]], [⟨0, [], 1⟩, ⟨1, [(1, [1, 1]), (1, [1, 10]), (1, [1, 12]), (1, [1, 14]), (1, [0, 0]), (1, [0, 2]), (1, [0, 4]), (1, [0, 10]), (1, [0, 12]), (1, [2, 4]), (1, [0, 9]), (1, [1, 6]), (1, [0, 8])], 2⟩, ⟨2, [(2, [2, 2]), (2, [2, 10]), (2, [8, 12])], 3⟩, ⟨3, [(3, [10, 3])], 4⟩, ⟨4, [(4, [4, 4]), (4, [10, 12]), (2, [2, 10])], 3⟩, ⟨5, [(5, [5, 12])], 4⟩, ⟨6, [(6, [6, 6])], 5⟩, ⟨7, [(7, [7, 7]), (7, [7, 8]), (7, [7, 10]), (7, [7, 12]), (7, [10, 10]), (5, [5, 11]), (4, [4, 4]), (4, [5, 4]), (1, [0, 1]), (1, [0, 12]), (1, [0, 13]), (1, [1, 8]), (1, [0, 6])], 2⟩, ⟨8, [], 6⟩, ⟨9, [(9, [9, 9])], 7⟩, ⟨11, [(11, [10, 10]), (11, [10, 12]), (11, [11, 10])], 8⟩, ⟨13, [(13, [10, 10]), (13, [10, 12]), (11, [11, 10])], 8⟩, ⟨14, [], 9⟩, ⟨15, [], 10⟩]⟩,
  ⟨5121, 3002, [[10, 12, 0], [10, 10, 12], [0, 10, 12], [10, 0, 12]], [⟨1, [(1, [0, 0]), (1, [0, 1]), (1, [0, 10]), (1, [0, 12]), (1, [1, 10]), (1, [0, 4]), (1, [1, 12]), (1, [0, 2]), (1, [2, 4]), (1, [0, 9]), (1, [1, 6]), (1, [0, 8])], 2⟩, ⟨2, [(2, [2, 10]), (2, [8, 12])], 3⟩, ⟨3, [(3, [0, 0]), (3, [10, 0])], 11⟩, ⟨4, [(4, [10, 12]), (2, [2, 10])], 3⟩, ⟨5, [(5, [0, 0]), (5, [0, 12])], 11⟩, ⟨6, [], 5⟩, ⟨7, [(7, [0, 0]), (7, [7, 7]), (7, [7, 10]), (7, [7, 12]), (7, [10, 10]), (5, [0, 11]), (4, [5, 4]), (1, [0, 1]), (1, [0, 12]), (1, [0, 13]), (1, [1, 8]), (1, [0, 6])], 2⟩, ⟨8, [], 12⟩, ⟨9, [(9, [0, 0]), (9, [0, 9]), (6, [9, 10]), (3, [10, 0])], 13⟩, ⟨11, [(11, [0, 0]), (11, [10, 0]), (5, [0, 11]), (4, [5, 4]), (1, [0, 1]), (1, [0, 12]), (1, [1, 12]), (1, [0, 2]), (1, [2, 4]), (1, [0, 9]), (1, [1, 6]), (1, [0, 8])], 2⟩, ⟨13, [(13, [0, 0]), (13, [0, 10]), (5, [0, 12]), (3, [13, 0]), (2, [2, 3]), (1, [0, 1]), (1, [1, 10]), (1, [0, 4]), (1, [2, 4]), (1, [0, 9]), (1, [1, 6]), (1, [0, 8])], 2⟩, ⟨14, [], 14⟩, ⟨15, [], 15⟩]⟩,
  ⟨65535, 0, [], []⟩,
  ⟨5397, 2176, [[2, 4, 0], [2, 2, 4], [2, 4, 2], [2, 4, 4], [0, 2, 4], [2, 0, 4]], [⟨1, [(1, [0, 0]), (1, [0, 1]), (1, [0, 2]), (1, [0, 4]), (1, [0, 8]), (1, [0, 10]), (1, [0, 12]), (1, [1, 8]), (1, [0, 6])], 2⟩, ⟨3, [(2, [2, 3]), (1, [0, 0]), (1, [0, 1]), (1, [0, 2]), (1, [0, 4]), (1, [0, 8]), (1, [0, 10]), (1, [1, 8]), (1, [0, 6])], 2⟩, ⟨5, [(2, [4, 5]), (1, [0, 0]), (1, [0, 1]), (1, [0, 2]), (1, [0, 4]), (1, [0, 8]), (1, [0, 12]), (1, [1, 8]), (1, [0, 6])], 2⟩, ⟨6, [(6, [2, 12])], 16⟩, ⟨7, [(2, [2, 7]), (2, [4, 5]), (1, [0, 0]), (1, [0, 1]), (1, [0, 2]), (1, [0, 4]), (1, [0, 12]), (1, [1, 8]), (1, [0, 6])], 2⟩, ⟨9, [(2, [8, 9]), (1, [0, 0]), (1, [0, 1]), (1, [0, 2]), (1, [0, 4]), (1, [0, 8]), (1, [0, 9]), (1, [0, 10]), (1, [0, 12])], 2⟩, ⟨11, [(2, [2, 11]), (2, [8, 9]), (1, [0, 0]), (1, [0, 1]), (1, [0, 2]), (1, [0, 8]), (1, [0, 9]), (1, [0, 10]), (1, [0, 12])], 2⟩, ⟨13, [(2, [4, 13]), (2, [8, 9]), (1, [0, 0]), (1, [0, 1]), (1, [0, 4]), (1, [0, 8]), (1, [0, 9]), (1, [0, 10]), (1, [0, 12])], 2⟩, ⟨14, [(2, [8, 14])], 16⟩, ⟨15, [(2, [2, 15]), (2, [4, 13]), (2, [4, 15]), (2, [8, 9]), (1, [0, 1]), (1, [0, 8]), (1, [0, 9]), (1, [0, 10]), (1, [0, 12])], 2⟩]⟩,
  ⟨5160, 1024, [[3, 5, 3], [3, 5, 12]], [⟨0, [(3, [0, 0])], 11⟩, ⟨1, [(1, [1, 1]), (1, [1, 10]), (1, [1, 12]), (1, [1, 14]), (1, [0, 0]), (1, [0, 2]), (1, [0, 4]), (1, [2, 4]), (1, [0, 9]), (1, [1, 6]), (1, [0, 8])], 2⟩, ⟨2, [(2, [2, 2]), (2, [2, 3]), (1, [0, 0]), (1, [0, 1]), (1, [0, 2]), (1, [1, 10]), (1, [0, 4]), (1, [2, 4]), (1, [0, 9]), (1, [1, 6]), (1, [0, 8])], 2⟩, ⟨4, [(3, [4, 3]), (4, [3, 3]), (3, [0, 0]), (4, [3, 5]), (2, [2, 3]), (1, [0, 1]), (1, [0, 2]), (1, [2, 4]), (1, [0, 9]), (1, [1, 6]), (1, [0, 8])], 2⟩, ⟨6, [(3, [6, 3]), (6, [3, 3]), (3, [0, 0])], 13⟩, ⟨7, [(3, [7, 3]), (7, [3, 5]), (3, [14, 3]), (1, [1, 8]), (1, [1, 10]), (1, [1, 12]), (1, [1, 14]), (1, [0, 0]), (1, [0, 2]), (1, [0, 4]), (1, [0, 6])], 2⟩, ⟨8, [(3, [8, 3]), (7, [3, 5]), (3, [14, 3]), (1, [1, 8]), (1, [1, 10]), (1, [1, 12]), (1, [1, 14]), (1, [0, 0]), (1, [0, 2]), (1, [0, 4]), (1, [0, 6])], 2⟩, ⟨9, [(3, [9, 3]), (6, [3, 3]), (3, [0, 0])], 13⟩, ⟨11, [(3, [11, 3]), (4, [3, 3]), (3, [0, 0]), (4, [3, 5]), (2, [2, 3]), (1, [0, 1]), (1, [0, 2]), (1, [2, 4]), (1, [0, 9]), (1, [1, 6]), (1, [0, 8])], 2⟩, ⟨13, [(3, [13, 3]), (2, [2, 2]), (2, [2, 3]), (1, [0, 0]), (1, [0, 1]), (1, [1, 10]), (1, [0, 4]), (1, [2, 4]), (1, [0, 9]), (1, [1, 6]), (1, [0, 8])], 2⟩, ⟨14, [(3, [14, 3]), (1, [1, 10]), (1, [1, 12]), (1, [1, 14]), (1, [0, 0]), (1, [0, 2]), (1, [0, 4]), (1, [2, 4]), (1, [0, 9]), (1, [1, 6]), (1, [0, 8])], 2⟩, ⟨15, [(3, [15, 3])], 11⟩]⟩,
  ⟨5185, 2080, [[6, 10, 0], [0, 6, 10], [6, 0, 10], [6, 6, 10]], [⟨1, [(1, [0, 0]), (1, [0, 1]), (1, [0, 6]), (1, [0, 10]), (1, [0, 12]), (1, [1, 6]), (1, [0, 8]), (1, [1, 10]), (1, [0, 4]), (1, [1, 12]), (1, [0, 2])], 2⟩, ⟨2, [(2, [2, 6]), (2, [2, 10]), (6, [2, 12])], 16⟩, ⟨3, [(3, [0, 0]), (3, [6, 0]), (3, [10, 0])], 13⟩, ⟨4, [(4, [6, 4]), (2, [2, 10]), (6, [2, 12])], 16⟩, ⟨5, [(5, [0, 0]), (5, [0, 6]), (5, [0, 12])], 13⟩, ⟨7, [(6, [6, 7]), (1, [0, 0]), (1, [0, 1]), (1, [0, 6]), (1, [0, 7]), (1, [0, 10]), (1, [0, 12]), (1, [1, 10]), (1, [0, 4]), (1, [1, 12]), (1, [0, 2])], 2⟩, ⟨8, [(6, [6, 8]), (6, [8, 10]), (2, [2, 6])], 16⟩, ⟨9, [(6, [6, 9]), (6, [9, 10]), (3, [10, 0])], 13⟩, ⟨11, [(6, [6, 11]), (6, [10, 11]), (1, [0, 0]), (1, [0, 1]), (1, [0, 6]), (1, [0, 10]), (1, [0, 11]), (1, [0, 12]), (1, [0, 13]), (1, [1, 6]), (1, [0, 8])], 2⟩, ⟨13, [(6, [6, 13]), (6, [10, 11]), (1, [0, 0]), (1, [0, 1]), (1, [0, 6]), (1, [0, 10]), (1, [0, 11]), (1, [0, 12]), (1, [0, 13]), (1, [1, 6]), (1, [0, 8])], 2⟩, ⟨14, [(6, [6, 14]), (6, [8, 10]), (2, [2, 6])], 16⟩, ⟨15, [(6, [6, 15]), (6, [9, 10]), (3, [10, 0])], 13⟩]⟩,
  ⟨5376, 2240, [[10, 12, 8], [10, 10, 12], [10, 12, 10], [10, 12, 12], [8, 10, 12], [10, 8, 12]], [⟨0, [], 12⟩, ⟨1, [(1, [1, 1]), (1, [1, 8]), (1, [1, 10]), (1, [1, 12]), (1, [1, 14]), (1, [0, 0]), (1, [0, 2]), (1, [0, 4]), (1, [0, 6]), (1, [0, 8]), (1, [0, 10]), (1, [0, 12])], 2⟩, ⟨2, [(2, [2, 2]), (2, [8, 12])], 3⟩, ⟨3, [(3, [8, 3]), (3, [10, 3]), (7, [3, 5]), (3, [14, 3]), (1, [1, 8]), (1, [1, 10]), (1, [1, 12]), (1, [1, 14]), (1, [0, 0]), (1, [0, 2]), (1, [0, 4]), (1, [0, 6])], 2⟩, ⟨4, [(4, [4, 4]), (4, [10, 8])], 3⟩, ⟨5, [(5, [5, 8]), (5, [5, 12]), (7, [3, 5]), (3, [14, 3]), (1, [1, 8]), (1, [1, 10]), (1, [1, 12]), (1, [1, 14]), (1, [0, 0]), (1, [0, 2]), (1, [0, 4]), (1, [0, 6])], 2⟩, ⟨6, [(6, [6, 6]), (6, [6, 8]), (6, [8, 10]), (2, [2, 6])], 16⟩, ⟨7, [(7, [7, 8]), (7, [7, 10]), (7, [7, 12]), (7, [10, 10]), (5, [5, 11]), (4, [4, 4]), (4, [5, 4]), (1, [0, 1]), (1, [0, 12]), (1, [0, 13]), (1, [1, 8]), (1, [0, 6])], 2⟩, ⟨9, [(9, [8, 8]), (9, [8, 9]), (9, [8, 10]), (9, [8, 12])], 17⟩, ⟨11, [(11, [8, 8]), (11, [10, 8]), (8, [11, 13]), (9, [8, 9])], 17⟩, ⟨13, [(13, [8, 8]), (13, [8, 12]), (8, [11, 13]), (9, [8, 9])], 17⟩, ⟨14, [], 18⟩, ⟨15, [], 19⟩]⟩,
  ⟨38400, 96, [[9, 10, 9], [9, 9, 10], [9, 10, 10], [9, 10, 12]], [⟨0, [(9, [0, 9]), (6, [9, 10]), (3, [10, 0])], 13⟩, ⟨1, [(1, [1, 1]), (1, [1, 9]), (1, [1, 6]), (1, [1, 10]), (1, [1, 12]), (1, [1, 14]), (1, [0, 2]), (1, [0, 4]), (1, [0, 8]), (1, [0, 10]), (1, [0, 12])], 2⟩, ⟨2, [(2, [2, 2]), (2, [2, 10]), (2, [2, 15]), (2, [8, 9]), (1, [0, 1]), (1, [0, 8]), (1, [0, 9]), (1, [0, 10]), (1, [0, 12]), (1, [1, 10]), (1, [0, 4])], 2⟩, ⟨3, [(3, [9, 3]), (3, [10, 3]), (3, [15, 3])], 13⟩, ⟨4, [(4, [4, 4]), (4, [9, 10]), (1, [0, 1]), (1, [0, 4]), (1, [0, 9]), (1, [0, 10]), (1, [0, 12]), (1, [1, 6]), (1, [0, 8]), (1, [1, 12]), (1, [0, 2])], 2⟩, ⟨5, [(5, [5, 9]), (5, [5, 12]), (3, [15, 3])], 13⟩, ⟨6, [(6, [6, 6]), (6, [9, 10]), (3, [10, 0])], 13⟩, ⟨7, [(7, [7, 7]), (7, [7, 9]), (7, [7, 10]), (7, [7, 12]), (7, [9, 9]), (6, [6, 6]), (6, [6, 7]), (1, [0, 10]), (1, [0, 11]), (1, [0, 12]), (1, [0, 13])], 2⟩, ⟨8, [(9, [8, 9]), (9, [8, 10]), (9, [8, 12])], 17⟩, ⟨11, [(9, [9, 11]), (9, [10, 11]), (9, [9, 14])], 17⟩, ⟨13, [(9, [9, 13]), (9, [10, 11]), (9, [9, 14])], 17⟩, ⟨14, [(9, [9, 14]), (9, [8, 10]), (9, [8, 12])], 17⟩]⟩,
  ⟨64512, 68, [[10, 12, 10], [10, 10, 12], [10, 12, 12], [10, 12, 14], [10, 14, 12], [14, 10, 12]], [⟨0, [(11, [10, 0]), (5, [0, 11]), (4, [5, 4]), (1, [0, 12]), (1, [0, 13]), (1, [2, 4]), (1, [0, 9]), (1, [1, 6]), (1, [0, 8])], 2⟩, ⟨1, [(1, [1, 10]), (1, [1, 12]), (1, [1, 14]), (1, [0, 10]), (1, [0, 12]), (1, [2, 4]), (1, [0, 9]), (1, [1, 6]), (1, [0, 8])], 2⟩, ⟨2, [(2, [2, 2]), (2, [2, 10]), (2, [2, 11]), (2, [8, 9]), (1, [0, 8]), (1, [0, 9]), (1, [0, 10]), (1, [0, 11]), (1, [0, 12])], 2⟩, ⟨3, [(3, [10, 3]), (3, [11, 3]), (3, [13, 3]), (2, [2, 2]), (2, [2, 3]), (1, [2, 4]), (1, [0, 9]), (1, [1, 6]), (1, [0, 8])], 2⟩, ⟨4, [(4, [4, 4]), (4, [10, 12]), (2, [2, 10]), (2, [2, 11]), (2, [8, 9]), (1, [0, 8]), (1, [0, 9]), (1, [0, 10]), (1, [0, 12])], 2⟩, ⟨5, [(5, [5, 11]), (4, [4, 4]), (4, [5, 4]), (1, [0, 12]), (1, [0, 13]), (1, [2, 4]), (1, [0, 9]), (1, [1, 6]), (1, [0, 8])], 2⟩, ⟨6, [(6, [6, 6]), (6, [6, 14]), (6, [6, 15]), (6, [8, 9]), (1, [0, 8]), (1, [0, 10]), (1, [0, 11]), (1, [0, 12]), (1, [0, 13])], 2⟩, ⟨7, [(7, [7, 7]), (7, [7, 14]), (7, [9, 9]), (6, [6, 6]), (6, [6, 7]), (1, [0, 10]), (1, [0, 11]), (1, [0, 12]), (1, [0, 13])], 2⟩, ⟨8, [(8, [11, 13])], 17⟩, ⟨9, [(9, [9, 14])], 17⟩]⟩,
  ⟨21504, 2116, [[10, 12, 10], [10, 10, 12], [10, 12, 12], [10, 12, 14], [10, 14, 12], [14, 10, 12]], [⟨0, [], 14⟩, ⟨1, [(1, [1, 10]), (1, [1, 12]), (1, [1, 14]), (1, [0, 0]), (1, [0, 2]), (1, [0, 4]), (1, [0, 10]), (1, [0, 12]), (1, [2, 4]), (1, [0, 9]), (1, [1, 6]), (1, [0, 8])], 2⟩, ⟨2, [(2, [2, 2]), (2, [2, 10]), (2, [8, 12]), (2, [8, 14])], 16⟩, ⟨3, [(3, [10, 3]), (3, [14, 3]), (1, [1, 10]), (1, [1, 12]), (1, [1, 14]), (1, [0, 0]), (1, [0, 2]), (1, [0, 4]), (1, [2, 4]), (1, [0, 9]), (1, [1, 6]), (1, [0, 8])], 2⟩, ⟨4, [(4, [4, 4]), (4, [10, 12]), (2, [2, 10]), (2, [8, 14])], 16⟩, ⟨5, [(5, [5, 12]), (3, [14, 3]), (1, [1, 10]), (1, [1, 12]), (1, [1, 14]), (1, [0, 0]), (1, [0, 2]), (1, [0, 4]), (1, [2, 4]), (1, [0, 9]), (1, [1, 6]), (1, [0, 8])], 2⟩, ⟨6, [(6, [6, 6]), (6, [6, 14]), (6, [8, 10]), (2, [2, 6])], 16⟩, ⟨7, [(7, [7, 7]), (7, [7, 8]), (7, [7, 10]), (7, [7, 12]), (7, [7, 14]), (7, [9, 9]), (6, [6, 6]), (6, [6, 7]), (1, [0, 10]), (1, [0, 11]), (1, [0, 12]), (1, [0, 13])], 2⟩, ⟨8, [], 18⟩, ⟨9, [(9, [9, 9]), (9, [9, 14]), (9, [8, 10]), (9, [8, 12])], 17⟩, ⟨11, [(11, [10, 10]), (11, [10, 12])], 8⟩, ⟨13, [(13, [10, 10]), (13, [10, 12])], 8⟩, ⟨15, [], 20⟩]⟩,
  ⟨37888, 893, [[10, 12, 10], [10, 15, 12], [10, 10, 12], [10, 12, 12]], [⟨0, [], 15⟩, ⟨1, [(1, [1, 1]), (1, [1, 10]), (1, [1, 12]), (1, [1, 14]), (1, [0, 2]), (1, [0, 4]), (1, [0, 10]), (1, [0, 12]), (1, [2, 4]), (1, [0, 9]), (1, [1, 6]), (1, [0, 8])], 2⟩, ⟨2, [(2, [2, 2]), (2, [2, 10]), (2, [2, 15]), (2, [8, 12]), (2, [4, 13]), (2, [4, 15]), (2, [8, 9]), (1, [0, 1]), (1, [0, 8]), (1, [0, 9]), (1, [0, 10]), (1, [0, 12])], 2⟩, ⟨3, [(3, [10, 3]), (3, [15, 3])], 11⟩, ⟨4, [(4, [4, 4]), (4, [10, 12]), (2, [2, 10]), (2, [2, 15]), (2, [4, 13]), (2, [4, 15]), (2, [8, 9]), (1, [0, 1]), (1, [0, 8]), (1, [0, 9]), (1, [0, 10]), (1, [0, 12])], 2⟩, ⟨5, [(5, [5, 12]), (3, [15, 3])], 11⟩, ⟨6, [(6, [6, 6]), (6, [6, 15]), (6, [9, 10]), (3, [10, 0])], 13⟩, ⟨7, [(7, [7, 7]), (7, [7, 10]), (7, [7, 12]), (7, [10, 10]), (5, [5, 11]), (4, [4, 4]), (4, [5, 4]), (1, [0, 1]), (1, [0, 12]), (1, [0, 13]), (1, [1, 8]), (1, [0, 6])], 2⟩, ⟨8, [], 19⟩, ⟨9, [], 7⟩, ⟨11, [(11, [10, 12]), (11, [11, 10])], 8⟩, ⟨13, [(13, [10, 12]), (11, [11, 10])], 8⟩, ⟨14, [], 20⟩]⟩,
  ⟨37929, 544, [[3, 5, 0], [3, 3, 5], [3, 5, 15], [0, 3, 5]], [⟨1, [(1, [0, 1]), (1, [1, 10]), (1, [0, 4]), (1, [1, 12]), (1, [0, 2]), (1, [2, 4]), (1, [0, 9]), (1, [1, 6]), (1, [0, 8])], 2⟩, ⟨2, [(2, [2, 3]), (1, [0, 1]), (1, [0, 2]), (1, [1, 10]), (1, [0, 4]), (1, [2, 4]), (1, [0, 9]), (1, [1, 6]), (1, [0, 8])], 2⟩, ⟨4, [(3, [4, 0]), (4, [3, 5]), (2, [2, 3]), (1, [0, 1]), (1, [0, 2]), (1, [2, 4]), (1, [0, 9]), (1, [1, 6]), (1, [0, 8])], 2⟩, ⟨6, [(3, [6, 0])], 13⟩, ⟨7, [(3, [7, 0]), (7, [3, 5]), (3, [14, 0]), (1, [1, 8]), (1, [0, 6]), (1, [1, 10]), (1, [0, 4]), (1, [1, 12]), (1, [0, 2])], 2⟩, ⟨8, [(3, [8, 0]), (7, [3, 5]), (3, [14, 0]), (1, [1, 8]), (1, [0, 6]), (1, [1, 10]), (1, [0, 4]), (1, [1, 12]), (1, [0, 2])], 2⟩, ⟨9, [(3, [9, 0])], 13⟩, ⟨11, [(3, [11, 0]), (4, [3, 5]), (2, [2, 3]), (1, [0, 1]), (1, [0, 2]), (1, [2, 4]), (1, [0, 9]), (1, [1, 6]), (1, [0, 8])], 2⟩, ⟨13, [(3, [13, 0]), (2, [2, 3]), (1, [0, 1]), (1, [1, 10]), (1, [0, 4]), (1, [2, 4]), (1, [0, 9]), (1, [1, 6]), (1, [0, 8])], 2⟩, ⟨14, [(3, [14, 0]), (1, [1, 10]), (1, [0, 4]), (1, [1, 12]), (1, [0, 2]), (1, [2, 4]), (1, [0, 9]), (1, [1, 6]), (1, [0, 8])], 2⟩]⟩,
  ⟨5377, 2432, [[10, 12, 0], [10, 10, 12], [0, 10, 12], [10, 12, 12], [10, 0, 12], [10, 12, 10]], [⟨1, [(1, [0, 0]), (1, [0, 1]), (1, [0, 8]), (1, [0, 10]), (1, [0, 12]), (1, [1, 8]), (1, [0, 6]), (1, [1, 10]), (1, [0, 4]), (1, [1, 12]), (1, [0, 2])], 2⟩, ⟨2, [(2, [8, 12])], 3⟩, ⟨3, [(3, [0, 0]), (3, [8, 0]), (3, [10, 0]), (7, [3, 5]), (3, [14, 0]), (1, [1, 8]), (1, [0, 6]), (1, [1, 10]), (1, [0, 4]), (1, [1, 12]), (1, [0, 2])], 2⟩, ⟨4, [(4, [10, 8])], 3⟩, ⟨5, [(5, [0, 0]), (5, [0, 8]), (5, [0, 12]), (7, [3, 5]), (3, [14, 0]), (1, [1, 8]), (1, [0, 6]), (1, [1, 10]), (1, [0, 4]), (1, [1, 12]), (1, [0, 2])], 2⟩, ⟨6, [(6, [6, 8]), (6, [8, 10]), (2, [2, 6])], 16⟩, ⟨7, [(7, [0, 0]), (7, [7, 10]), (7, [7, 12]), (7, [10, 10]), (5, [0, 11]), (4, [5, 4]), (1, [0, 1]), (1, [0, 12]), (1, [0, 13]), (1, [1, 8]), (1, [0, 6])], 2⟩, ⟨9, [(9, [0, 0]), (9, [0, 8]), (7, [7, 9]), (7, [7, 10]), (7, [7, 12]), (7, [9, 9]), (6, [6, 7]), (1, [0, 10]), (1, [0, 11]), (1, [0, 12]), (1, [0, 13])], 2⟩, ⟨11, [(11, [0, 0]), (11, [8, 0]), (7, [7, 10]), (7, [10, 10]), (5, [0, 11]), (4, [5, 4]), (1, [0, 1]), (1, [0, 12]), (1, [0, 13]), (1, [1, 8]), (1, [0, 6])], 2⟩, ⟨13, [(13, [0, 0]), (13, [0, 8]), (7, [7, 12]), (7, [10, 10]), (5, [0, 11]), (4, [5, 4]), (1, [0, 1]), (1, [0, 12]), (1, [0, 13]), (1, [1, 8]), (1, [0, 6])], 2⟩, ⟨14, [], 21⟩, ⟨15, [], 22⟩]⟩,
  ⟨38505, 32, [[3, 5, 0], [0, 3, 5], [3, 0, 5], [3, 3, 5]], [⟨1, [(1, [0, 1]), (1, [1, 6]), (1, [0, 8]), (1, [1, 10]), (1, [0, 4]), (1, [1, 12]), (1, [0, 2])], 2⟩, ⟨2, [(2, [2, 3]), (1, [0, 1]), (1, [0, 2]), (1, [1, 6]), (1, [0, 8]), (1, [1, 10]), (1, [0, 4])], 2⟩, ⟨4, [(3, [4, 0]), (4, [3, 5]), (2, [2, 3]), (1, [0, 1]), (1, [0, 2]), (1, [1, 6]), (1, [0, 8])], 2⟩, ⟨7, [(3, [7, 0]), (6, [3, 7]), (3, [4, 0]), (4, [3, 5]), (2, [2, 3]), (1, [0, 1]), (1, [0, 2])], 2⟩, ⟨8, [(3, [8, 0]), (6, [3, 7]), (3, [4, 0]), (4, [3, 5]), (2, [2, 3]), (1, [0, 1]), (1, [0, 2])], 2⟩, ⟨11, [(3, [11, 0]), (4, [3, 5]), (2, [2, 3]), (1, [0, 1]), (1, [0, 2]), (1, [1, 6]), (1, [0, 8])], 2⟩, ⟨13, [(3, [13, 0]), (2, [2, 3]), (1, [0, 1]), (1, [1, 6]), (1, [0, 8]), (1, [1, 10]), (1, [0, 4])], 2⟩, ⟨14, [(3, [14, 0]), (1, [1, 6]), (1, [0, 8]), (1, [1, 10]), (1, [0, 4]), (1, [1, 12]), (1, [0, 2])], 2⟩]⟩,
  ⟨21505, 2312, [[10, 12, 0], [0, 10, 12], [10, 0, 12], [10, 10, 12]], [⟨1, [(1, [0, 0]), (1, [0, 10]), (1, [0, 12]), (1, [1, 10]), (1, [0, 4]), (1, [1, 12]), (1, [0, 2]), (1, [2, 4]), (1, [0, 9]), (1, [1, 6]), (1, [0, 8])], 2⟩, ⟨2, [(2, [2, 10]), (2, [8, 12]), (2, [8, 14])], 16⟩, ⟨3, [(3, [0, 0]), (3, [10, 0]), (3, [14, 0]), (1, [1, 10]), (1, [0, 4]), (1, [1, 12]), (1, [0, 2]), (1, [2, 4]), (1, [0, 9]), (1, [1, 6]), (1, [0, 8])], 2⟩, ⟨4, [(4, [10, 12]), (2, [2, 10]), (2, [8, 14])], 16⟩, ⟨5, [(5, [0, 0]), (5, [0, 12]), (3, [14, 0]), (1, [1, 10]), (1, [0, 4]), (1, [1, 12]), (1, [0, 2]), (1, [2, 4]), (1, [0, 9]), (1, [1, 6]), (1, [0, 8])], 2⟩, ⟨6, [(6, [6, 14]), (6, [8, 10]), (2, [2, 6])], 16⟩, ⟨7, [(7, [0, 0]), (7, [7, 7]), (7, [7, 10]), (7, [7, 12]), (7, [7, 14]), (7, [9, 9]), (6, [6, 7]), (1, [0, 10]), (1, [0, 11]), (1, [0, 12]), (1, [0, 13])], 2⟩, ⟨8, [], 21⟩, ⟨9, [(9, [0, 0]), (9, [0, 9]), (6, [6, 14]), (6, [8, 9]), (1, [0, 8]), (1, [0, 10]), (1, [0, 12]), (1, [1, 10]), (1, [0, 4]), (1, [1, 12]), (1, [0, 2])], 2⟩, ⟨11, [(11, [0, 0]), (11, [10, 0]), (5, [0, 11]), (4, [5, 4]), (1, [0, 12]), (1, [1, 12]), (1, [0, 2]), (1, [2, 4]), (1, [0, 9]), (1, [1, 6]), (1, [0, 8])], 2⟩, ⟨13, [(13, [0, 0]), (13, [0, 10]), (5, [0, 12]), (3, [13, 0]), (2, [2, 3]), (1, [1, 10]), (1, [0, 4]), (1, [2, 4]), (1, [0, 9]), (1, [1, 6]), (1, [0, 8])], 2⟩, ⟨15, [], 23⟩]⟩,
  ⟨37889, 824, [[10, 12, 0], [10, 12, 15], [10, 10, 12], [0, 10, 12]], [⟨1, [(1, [0, 1]), (1, [0, 10]), (1, [0, 12]), (1, [1, 10]), (1, [0, 4]), (1, [1, 12]), (1, [0, 2]), (1, [2, 4]), (1, [0, 9]), (1, [1, 6]), (1, [0, 8])], 2⟩, ⟨2, [(2, [2, 10]), (2, [2, 15]), (2, [8, 12]), (2, [4, 13]), (2, [4, 15]), (2, [8, 9]), (1, [0, 1]), (1, [0, 8]), (1, [0, 9]), (1, [0, 10]), (1, [0, 12])], 2⟩, ⟨3, [(3, [10, 0])], 11⟩, ⟨4, [(4, [10, 12]), (2, [2, 10]), (2, [2, 15]), (2, [4, 13]), (2, [4, 15]), (2, [8, 9]), (1, [0, 1]), (1, [0, 8]), (1, [0, 9]), (1, [0, 10]), (1, [0, 12])], 2⟩, ⟨5, [(5, [0, 12])], 11⟩, ⟨6, [(6, [6, 15]), (6, [9, 10]), (3, [10, 0])], 13⟩, ⟨7, [(7, [7, 7]), (7, [7, 10]), (7, [7, 12]), (7, [10, 10]), (5, [0, 11]), (4, [5, 4]), (1, [0, 1]), (1, [0, 12]), (1, [0, 13]), (1, [1, 8]), (1, [0, 6])], 2⟩, ⟨8, [], 22⟩, ⟨9, [(9, [0, 9]), (6, [9, 10]), (3, [10, 0])], 13⟩, ⟨11, [(11, [10, 0]), (5, [0, 11]), (4, [5, 4]), (1, [0, 1]), (1, [0, 12]), (1, [1, 12]), (1, [0, 2]), (1, [2, 4]), (1, [0, 9]), (1, [1, 6]), (1, [0, 8])], 2⟩, ⟨13, [(13, [0, 10]), (5, [0, 12]), (3, [13, 0]), (2, [2, 3]), (1, [0, 1]), (1, [1, 10]), (1, [0, 4]), (1, [2, 4]), (1, [0, 9]), (1, [1, 6]), (1, [0, 8])], 2⟩, ⟨14, [], 23⟩]⟩,
  ⟨21845, 2048, [[0, 0, 0]], [⟨1, [(1, [0, 0]), (1, [0, 2]), (1, [0, 4]), (1, [0, 6]), (1, [0, 8]), (1, [0, 10]), (1, [0, 12])], 2⟩, ⟨3, [(2, [2, 3]), (1, [0, 0]), (1, [0, 2]), (1, [0, 4]), (1, [0, 6]), (1, [0, 8]), (1, [0, 10])], 2⟩, ⟨5, [(2, [4, 5]), (1, [0, 0]), (1, [0, 2]), (1, [0, 4]), (1, [0, 6]), (1, [0, 8]), (1, [0, 12])], 2⟩, ⟨7, [(2, [2, 7]), (2, [4, 5]), (1, [0, 0]), (1, [0, 2]), (1, [0, 4]), (1, [0, 6]), (1, [0, 12])], 2⟩, ⟨9, [(2, [8, 9]), (1, [0, 0]), (1, [0, 2]), (1, [0, 4]), (1, [0, 8]), (1, [0, 10]), (1, [0, 12])], 2⟩, ⟨11, [(2, [2, 11]), (2, [8, 9]), (1, [0, 0]), (1, [0, 2]), (1, [0, 8]), (1, [0, 10]), (1, [0, 12])], 2⟩, ⟨13, [(2, [4, 13]), (2, [8, 9]), (1, [0, 0]), (1, [0, 4]), (1, [0, 8]), (1, [0, 10]), (1, [0, 12])], 2⟩, ⟨15, [(2, [2, 15]), (2, [4, 13]), (2, [4, 15]), (2, [8, 9]), (1, [0, 8]), (1, [0, 10]), (1, [0, 12])], 2⟩]⟩,
  ⟨65280, 64, [[8, 8, 8]], [⟨0, [(9, [0, 8]), (7, [9, 9]), (6, [6, 7]), (1, [0, 10]), (1, [0, 11]), (1, [0, 12]), (1, [0, 13])], 2⟩, ⟨1, [(1, [1, 8]), (1, [1, 10]), (1, [1, 12]), (1, [1, 14]), (1, [0, 8]), (1, [0, 10]), (1, [0, 12])], 2⟩, ⟨2, [(2, [2, 2]), (2, [8, 9]), (1, [0, 8]), (1, [0, 9]), (1, [0, 10]), (1, [0, 11]), (1, [0, 12])], 2⟩, ⟨3, [(3, [8, 3]), (3, [9, 3]), (3, [10, 3]), (3, [11, 3]), (3, [13, 3]), (2, [2, 2]), (2, [2, 3])], 2⟩, ⟨4, [(4, [4, 4]), (4, [9, 8]), (1, [0, 8]), (1, [0, 9]), (1, [0, 10]), (1, [0, 12]), (1, [0, 13])], 2⟩, ⟨5, [(5, [5, 8]), (5, [5, 9]), (5, [5, 11]), (4, [4, 4]), (4, [5, 4]), (1, [0, 12]), (1, [0, 13])], 2⟩, ⟨6, [(6, [6, 6]), (6, [8, 9]), (1, [0, 8]), (1, [0, 10]), (1, [0, 11]), (1, [0, 12]), (1, [0, 13])], 2⟩, ⟨7, [(7, [9, 9]), (6, [6, 6]), (6, [6, 7]), (1, [0, 10]), (1, [0, 11]), (1, [0, 12]), (1, [0, 13])], 2⟩]⟩,
  ⟨21760, 2112, [[8, 8, 8]], [⟨0, [], 21⟩, ⟨1, [(1, [1, 8]), (1, [1, 10]), (1, [1, 12]), (1, [1, 14]), (1, [0, 0]), (1, [0, 2]), (1, [0, 4]), (1, [0, 6]), (1, [0, 8]), (1, [0, 10]), (1, [0, 12])], 2⟩, ⟨2, [(2, [2, 2]), (2, [8, 12]), (2, [8, 14])], 16⟩, ⟨3, [(3, [8, 3]), (3, [10, 3]), (3, [14, 3]), (1, [1, 8]), (1, [1, 10]), (1, [1, 12]), (1, [1, 14]), (1, [0, 0]), (1, [0, 2]), (1, [0, 4]), (1, [0, 6])], 2⟩, ⟨4, [(4, [4, 4]), (4, [10, 8]), (2, [8, 14])], 16⟩, ⟨5, [(5, [5, 8]), (5, [5, 12]), (3, [14, 3]), (1, [1, 8]), (1, [1, 10]), (1, [1, 12]), (1, [1, 14]), (1, [0, 0]), (1, [0, 2]), (1, [0, 4]), (1, [0, 6])], 2⟩, ⟨6, [(6, [6, 6]), (6, [8, 10]), (2, [2, 6])], 16⟩, ⟨7, [(7, [7, 8]), (7, [7, 10]), (7, [7, 12]), (7, [7, 14]), (7, [9, 9]), (6, [6, 6]), (6, [6, 7]), (1, [0, 10]), (1, [0, 11]), (1, [0, 12]), (1, [0, 13])], 2⟩, ⟨9, [(9, [8, 8]), (9, [8, 10]), (9, [8, 12])], 17⟩, ⟨11, [(11, [8, 8]), (11, [10, 8]), (8, [11, 13])], 17⟩, ⟨13, [(13, [8, 8]), (13, [8, 12]), (8, [11, 13])], 17⟩, ⟨15, [], 24⟩]⟩,
  ⟨38144, 336, [[10, 12, 8], [10, 12, 15], [10, 15, 12], [15, 10, 12]], [⟨0, [], 22⟩, ⟨1, [(1, [1, 1]), (1, [1, 8]), (1, [1, 10]), (1, [1, 12]), (1, [1, 14]), (1, [0, 2]), (1, [0, 4]), (1, [0, 6]), (1, [0, 8]), (1, [0, 10]), (1, [0, 12])], 2⟩, ⟨2, [(2, [2, 2]), (2, [2, 15]), (2, [8, 12]), (2, [4, 13]), (2, [4, 15]), (2, [8, 9]), (1, [0, 1]), (1, [0, 8]), (1, [0, 9]), (1, [0, 10]), (1, [0, 12])], 2⟩, ⟨3, [(3, [8, 3]), (3, [10, 3]), (3, [15, 3]), (7, [3, 5]), (3, [14, 0]), (1, [1, 8]), (1, [0, 6]), (1, [1, 10]), (1, [0, 4]), (1, [1, 12]), (1, [0, 2])], 2⟩, ⟨4, [(4, [4, 4]), (4, [10, 8]), (2, [2, 15]), (2, [4, 13]), (2, [4, 15]), (2, [8, 9]), (1, [0, 1]), (1, [0, 8]), (1, [0, 9]), (1, [0, 10]), (1, [0, 12])], 2⟩, ⟨5, [(5, [5, 8]), (5, [5, 12]), (3, [15, 3]), (7, [3, 5]), (3, [14, 0]), (1, [1, 8]), (1, [0, 6]), (1, [1, 10]), (1, [0, 4]), (1, [1, 12]), (1, [0, 2])], 2⟩, ⟨6, [(6, [6, 6]), (6, [6, 8]), (6, [6, 15]), (6, [8, 9]), (1, [0, 8]), (1, [0, 10]), (1, [0, 12]), (1, [1, 10]), (1, [0, 4]), (1, [1, 12]), (1, [0, 2])], 2⟩, ⟨7, [(7, [7, 10]), (7, [7, 12]), (7, [10, 10]), (5, [5, 11]), (4, [4, 4]), (4, [5, 4]), (1, [0, 1]), (1, [0, 12]), (1, [0, 13]), (1, [1, 8]), (1, [0, 6])], 2⟩, ⟨9, [(9, [8, 9]), (9, [8, 10]), (9, [8, 12])], 17⟩, ⟨11, [(11, [10, 8]), (8, [11, 13]), (9, [8, 9])], 17⟩, ⟨13, [(13, [8, 12]), (8, [11, 13]), (9, [8, 9])], 17⟩, ⟨14, [], 24⟩]⟩,
  ⟨54272, 324, [[10, 12, 10], [10, 15, 12], [10, 10, 12], [10, 12, 15], [10, 12, 12], [15, 10, 12]], [⟨0, [], 23⟩, ⟨1, [(1, [1, 10]), (1, [1, 12]), (1, [1, 14]), (1, [0, 2]), (1, [0, 4]), (1, [0, 10]), (1, [0, 12]), (1, [2, 4]), (1, [0, 9]), (1, [1, 6]), (1, [0, 8])], 2⟩, ⟨2, [(2, [2, 2]), (2, [2, 10]), (2, [2, 15]), (2, [8, 12]), (2, [4, 13]), (2, [4, 15]), (2, [8, 9]), (1, [0, 8]), (1, [0, 9]), (1, [0, 10]), (1, [0, 12])], 2⟩, ⟨3, [(3, [10, 3]), (3, [14, 3]), (1, [1, 10]), (1, [1, 12]), (1, [1, 14]), (1, [0, 2]), (1, [0, 4]), (1, [2, 4]), (1, [0, 9]), (1, [1, 6]), (1, [0, 8])], 2⟩, ⟨4, [(4, [4, 4]), (4, [10, 12]), (2, [2, 10]), (2, [2, 15]), (2, [4, 13]), (2, [4, 15]), (2, [8, 9]), (1, [0, 8]), (1, [0, 9]), (1, [0, 10]), (1, [0, 12])], 2⟩, ⟨5, [(5, [5, 12]), (3, [14, 3]), (1, [1, 10]), (1, [1, 12]), (1, [1, 14]), (1, [0, 2]), (1, [0, 4]), (1, [2, 4]), (1, [0, 9]), (1, [1, 6]), (1, [0, 8])], 2⟩, ⟨6, [(6, [6, 6]), (6, [6, 14]), (6, [6, 15]), (6, [8, 9]), (1, [0, 8]), (1, [0, 10]), (1, [0, 12]), (1, [1, 10]), (1, [0, 4]), (1, [1, 12]), (1, [0, 2])], 2⟩, ⟨7, [(7, [7, 7]), (7, [7, 10]), (7, [7, 12]), (7, [7, 14]), (7, [9, 9]), (6, [6, 6]), (6, [6, 7]), (1, [0, 10]), (1, [0, 11]), (1, [0, 12]), (1, [0, 13])], 2⟩, ⟨8, [], 24⟩, ⟨9, [(9, [9, 14]), (9, [8, 10]), (9, [8, 12])], 17⟩, ⟨11, [(11, [10, 12])], 8⟩, ⟨13, [(13, [10, 12])], 8⟩]⟩,
  ⟨21761, 2304, [[10, 12, 0], [10, 10, 12], [0, 10, 12], [10, 0, 12], [10, 12, 14]], [⟨1, [(1, [0, 0]), (1, [0, 8]), (1, [0, 10]), (1, [0, 12]), (1, [1, 8]), (1, [0, 6]), (1, [1, 10]), (1, [0, 4]), (1, [1, 12]), (1, [0, 2])], 2⟩, ⟨2, [(2, [8, 12]), (2, [8, 14])], 16⟩, ⟨3, [(3, [0, 0]), (3, [8, 0]), (3, [10, 0]), (3, [14, 0]), (1, [1, 8]), (1, [0, 6]), (1, [1, 10]), (1, [0, 4]), (1, [1, 12]), (1, [0, 2])], 2⟩, ⟨4, [(4, [10, 8]), (2, [8, 14])], 16⟩, ⟨5, [(5, [0, 0]), (5, [0, 8]), (5, [0, 12]), (3, [14, 0]), (1, [1, 8]), (1, [0, 6]), (1, [1, 10]), (1, [0, 4]), (1, [1, 12]), (1, [0, 2])], 2⟩, ⟨6, [(6, [8, 10]), (2, [2, 6])], 16⟩, ⟨7, [(7, [0, 0]), (7, [7, 10]), (7, [7, 12]), (7, [7, 14]), (7, [9, 9]), (6, [6, 7]), (1, [0, 10]), (1, [0, 11]), (1, [0, 12]), (1, [0, 13])], 2⟩, ⟨9, [(9, [0, 0]), (9, [0, 8]), (7, [7, 10]), (7, [7, 12]), (7, [9, 9]), (6, [6, 7]), (1, [0, 10]), (1, [0, 11]), (1, [0, 12]), (1, [0, 13])], 2⟩, ⟨11, [(11, [0, 0]), (11, [8, 0]), (7, [7, 10]), (7, [7, 14]), (7, [9, 9]), (6, [6, 7]), (1, [0, 10]), (1, [0, 11]), (1, [0, 12]), (1, [0, 13])], 2⟩, ⟨13, [(13, [0, 0]), (13, [0, 8]), (7, [7, 12]), (7, [7, 14]), (7, [9, 9]), (6, [6, 7]), (1, [0, 10]), (1, [0, 11]), (1, [0, 12]), (1, [0, 13])], 2⟩, ⟨15, [], 25⟩]⟩,
  ⟨38145, 272, [[10, 12, 0], [10, 12, 15], [10, 15, 12], [15, 10, 12]], [⟨1, [(1, [0, 1]), (1, [0, 8]), (1, [0, 10]), (1, [0, 12]), (1, [1, 8]), (1, [0, 6]), (1, [1, 10]), (1, [0, 4]), (1, [1, 12]), (1, [0, 2])], 2⟩, ⟨2, [(2, [2, 15]), (2, [8, 12]), (2, [4, 13]), (2, [4, 15]), (2, [8, 9]), (1, [0, 1]), (1, [0, 8]), (1, [0, 9]), (1, [0, 10]), (1, [0, 12])], 2⟩, ⟨3, [(3, [8, 0]), (3, [10, 0]), (7, [3, 5]), (3, [14, 0]), (1, [1, 8]), (1, [0, 6]), (1, [1, 10]), (1, [0, 4]), (1, [1, 12]), (1, [0, 2])], 2⟩, ⟨4, [(4, [10, 8]), (2, [2, 15]), (2, [4, 13]), (2, [4, 15]), (2, [8, 9]), (1, [0, 1]), (1, [0, 8]), (1, [0, 9]), (1, [0, 10]), (1, [0, 12])], 2⟩, ⟨5, [(5, [0, 8]), (5, [0, 12]), (7, [3, 5]), (3, [14, 0]), (1, [1, 8]), (1, [0, 6]), (1, [1, 10]), (1, [0, 4]), (1, [1, 12]), (1, [0, 2])], 2⟩, ⟨6, [(6, [6, 8]), (6, [6, 15]), (6, [8, 9]), (1, [0, 8]), (1, [0, 10]), (1, [0, 12]), (1, [1, 10]), (1, [0, 4]), (1, [1, 12]), (1, [0, 2])], 2⟩, ⟨7, [(7, [7, 10]), (7, [7, 12]), (7, [10, 10]), (5, [0, 11]), (4, [5, 4]), (1, [0, 1]), (1, [0, 12]), (1, [0, 13]), (1, [1, 8]), (1, [0, 6])], 2⟩, ⟨9, [(9, [0, 8]), (7, [7, 9]), (7, [7, 10]), (7, [7, 12]), (7, [9, 9]), (6, [6, 7]), (1, [0, 10]), (1, [0, 11]), (1, [0, 12]), (1, [0, 13])], 2⟩, ⟨11, [(11, [8, 0]), (7, [7, 10]), (7, [10, 10]), (5, [0, 11]), (4, [5, 4]), (1, [0, 1]), (1, [0, 12]), (1, [0, 13]), (1, [1, 8]), (1, [0, 6])], 2⟩, ⟨13, [(13, [0, 8]), (7, [7, 12]), (7, [10, 10]), (5, [0, 11]), (4, [5, 4]), (1, [0, 1]), (1, [0, 12]), (1, [0, 13]), (1, [1, 8]), (1, [0, 6])], 2⟩, ⟨14, [], 25⟩]⟩,
  ⟨54273, 264, [[10, 12, 0], [10, 12, 15], [0, 10, 12], [10, 0, 12]], [⟨1, [(1, [0, 10]), (1, [0, 12]), (1, [1, 10]), (1, [0, 4]), (1, [1, 12]), (1, [0, 2]), (1, [2, 4]), (1, [0, 9]), (1, [1, 6]), (1, [0, 8])], 2⟩, ⟨2, [(2, [2, 10]), (2, [2, 15]), (2, [8, 12]), (2, [4, 13]), (2, [4, 15]), (2, [8, 9]), (1, [0, 8]), (1, [0, 9]), (1, [0, 10]), (1, [0, 12])], 2⟩, ⟨3, [(3, [10, 0]), (3, [14, 0]), (1, [1, 10]), (1, [0, 4]), (1, [1, 12]), (1, [0, 2]), (1, [2, 4]), (1, [0, 9]), (1, [1, 6]), (1, [0, 8])], 2⟩, ⟨4, [(4, [10, 12]), (2, [2, 10]), (2, [2, 15]), (2, [4, 13]), (2, [4, 15]), (2, [8, 9]), (1, [0, 8]), (1, [0, 9]), (1, [0, 10]), (1, [0, 12])], 2⟩, ⟨5, [(5, [0, 12]), (3, [14, 0]), (1, [1, 10]), (1, [0, 4]), (1, [1, 12]), (1, [0, 2]), (1, [2, 4]), (1, [0, 9]), (1, [1, 6]), (1, [0, 8])], 2⟩, ⟨6, [(6, [6, 14]), (6, [6, 15]), (6, [8, 9]), (1, [0, 8]), (1, [0, 10]), (1, [0, 12]), (1, [1, 10]), (1, [0, 4]), (1, [1, 12]), (1, [0, 2])], 2⟩, ⟨7, [(7, [7, 7]), (7, [7, 10]), (7, [7, 12]), (7, [7, 14]), (7, [9, 9]), (6, [6, 7]), (1, [0, 10]), (1, [0, 11]), (1, [0, 12]), (1, [0, 13])], 2⟩, ⟨8, [], 25⟩, ⟨9, [(9, [0, 9]), (6, [6, 14]), (6, [8, 9]), (1, [0, 8]), (1, [0, 10]), (1, [0, 12]), (1, [1, 10]), (1, [0, 4]), (1, [1, 12]), (1, [0, 2])], 2⟩, ⟨11, [(11, [10, 0]), (5, [0, 11]), (4, [5, 4]), (1, [0, 12]), (1, [1, 12]), (1, [0, 2]), (1, [2, 4]), (1, [0, 9]), (1, [1, 6]), (1, [0, 8])], 2⟩, ⟨13, [(13, [0, 10]), (5, [0, 12]), (3, [13, 0]), (2, [2, 3]), (1, [1, 10]), (1, [0, 4]), (1, [2, 4]), (1, [0, 9]), (1, [1, 6]), (1, [0, 8])], 2⟩]⟩,
  ⟨54528, 320, [[10, 12, 8], [10, 15, 12], [15, 10, 12], [10, 12, 15], [8, 8, 10]], [⟨0, [], 25⟩, ⟨1, [(1, [1, 8]), (1, [1, 10]), (1, [1, 12]), (1, [1, 14]), (1, [0, 2]), (1, [0, 4]), (1, [0, 6]), (1, [0, 8]), (1, [0, 10]), (1, [0, 12])], 2⟩, ⟨2, [(2, [2, 2]), (2, [2, 15]), (2, [8, 12]), (2, [4, 13]), (2, [4, 15]), (2, [8, 9]), (1, [0, 8]), (1, [0, 9]), (1, [0, 10]), (1, [0, 12])], 2⟩, ⟨3, [(3, [8, 3]), (3, [10, 3]), (3, [14, 3]), (1, [1, 8]), (1, [1, 10]), (1, [1, 12]), (1, [1, 14]), (1, [0, 2]), (1, [0, 4]), (1, [0, 6])], 2⟩, ⟨4, [(4, [4, 4]), (4, [10, 8]), (2, [2, 15]), (2, [4, 13]), (2, [4, 15]), (2, [8, 9]), (1, [0, 8]), (1, [0, 9]), (1, [0, 10]), (1, [0, 12])], 2⟩, ⟨5, [(5, [5, 8]), (5, [5, 12]), (3, [14, 3]), (1, [1, 8]), (1, [1, 10]), (1, [1, 12]), (1, [1, 14]), (1, [0, 2]), (1, [0, 4]), (1, [0, 6])], 2⟩, ⟨6, [(6, [6, 6]), (6, [6, 15]), (6, [8, 9]), (1, [0, 8]), (1, [0, 10]), (1, [0, 12]), (1, [1, 10]), (1, [0, 4]), (1, [1, 12]), (1, [0, 2])], 2⟩, ⟨7, [(7, [7, 10]), (7, [7, 12]), (7, [7, 14]), (7, [9, 9]), (6, [6, 6]), (6, [6, 7]), (1, [0, 10]), (1, [0, 11]), (1, [0, 12]), (1, [0, 13])], 2⟩, ⟨9, [(9, [8, 10]), (9, [8, 12])], 17⟩, ⟨11, [(11, [10, 8]), (8, [11, 13])], 17⟩, ⟨13, [(13, [8, 12]), (8, [11, 13])], 17⟩]⟩,
  ⟨54529, 256, [[10, 12, 0], [10, 12, 15], [0, 10, 12], [15, 10, 12]], [⟨1, [(1, [0, 8]), (1, [0, 10]), (1, [0, 12]), (1, [1, 8]), (1, [0, 6]), (1, [1, 10]), (1, [0, 4]), (1, [1, 12]), (1, [0, 2])], 2⟩, ⟨2, [(2, [2, 15]), (2, [8, 12]), (2, [4, 13]), (2, [4, 15]), (2, [8, 9]), (1, [0, 8]), (1, [0, 9]), (1, [0, 10]), (1, [0, 12])], 2⟩, ⟨3, [(3, [8, 0]), (3, [10, 0]), (3, [14, 0]), (1, [1, 8]), (1, [0, 6]), (1, [1, 10]), (1, [0, 4]), (1, [1, 12]), (1, [0, 2])], 2⟩, ⟨4, [(4, [10, 8]), (2, [2, 15]), (2, [4, 13]), (2, [4, 15]), (2, [8, 9]), (1, [0, 8]), (1, [0, 9]), (1, [0, 10]), (1, [0, 12])], 2⟩, ⟨5, [(5, [0, 8]), (5, [0, 12]), (3, [14, 0]), (1, [1, 8]), (1, [0, 6]), (1, [1, 10]), (1, [0, 4]), (1, [1, 12]), (1, [0, 2])], 2⟩, ⟨6, [(6, [6, 15]), (6, [8, 9]), (1, [0, 8]), (1, [0, 10]), (1, [0, 12]), (1, [1, 10]), (1, [0, 4]), (1, [1, 12]), (1, [0, 2])], 2⟩, ⟨7, [(7, [7, 10]), (7, [7, 12]), (7, [7, 14]), (7, [9, 9]), (6, [6, 7]), (1, [0, 10]), (1, [0, 11]), (1, [0, 12]), (1, [0, 13])], 2⟩, ⟨9, [(9, [0, 8]), (7, [7, 10]), (7, [7, 12]), (7, [9, 9]), (6, [6, 7]), (1, [0, 10]), (1, [0, 11]), (1, [0, 12]), (1, [0, 13])], 2⟩, ⟨11, [(11, [8, 0]), (7, [7, 10]), (7, [7, 14]), (7, [9, 9]), (6, [6, 7]), (1, [0, 10]), (1, [0, 11]), (1, [0, 12]), (1, [0, 13])], 2⟩, ⟨13, [(13, [0, 8]), (7, [7, 12]), (7, [7, 14]), (7, [9, 9]), (6, [6, 7]), (1, [0, 10]), (1, [0, 11]), (1, [0, 12]), (1, [0, 13])], 2⟩]⟩]
/-! ### relations -/
def relD : List (List Nat) := [[2, 4, 6, 9, 11, 13, 15], [0, 2, 4, 6, 9, 11, 13], [4, 11, 15], [0, 6, 11, 15], [0, 4, 9, 15], [0, 3, 5, 6, 9, 10, 12, 15], [15], [0, 4, 11], [0, 4, 15], [0, 2, 6, 9, 13, 15], [4, 11], [0]]
abbrev bt (n r : Nat) : Nat := (n.testBit r).toNat
def tups (R : List Nat) : Nat → List (Nat × Nat × Nat × Nat)
  | 0 => [(0, 0, 0, 0)]
  | k + 1 => (tups R k).flatMap fun t => R.map fun c => (2 * t.1 + c / 8 % 2, 2 * t.2.1 + c / 4 % 2, 2 * t.2.2.1 + c / 2 % 2, 2 * t.2.2.2 + c % 2)
abbrev at4 (n : Nat) (t : Nat × Nat × Nat × Nat) : Nat := 8 * bt n t.1 + 4 * bt n t.2.1 + 2 * bt n t.2.2.1 + bt n t.2.2.2
/-- n, a table of k inputs, keeps R -/
def polN (R : List Nat) (k n : Nat) : Bool := (tups R k).all fun t => R.contains (at4 n t)
def mk (k n : Nat) : Nat := (mkD.getD k []).getD n 0
def chkOf (k : Nat) (hk : k ≤ 3) : Bool := (List.range (2 ^ 2 ^ k)).all fun n => (List.range 12).all fun i => isOf (tbOf k n hk) (kindL.getD i "") == (mk k n).testBit i
def chkPol (k : Nat) : Bool := (List.range 12).all fun i => (List.range (2 ^ 2 ^ k)).all fun n => polN (relD.getD i []) k n == (mk k n).testBit i
theorem chkOf_ok : ∀ (k : Nat) (hk : k ≤ 3), chkOf k hk = true := by
  intro k hk
  have : k = 0 ∨ k = 1 ∨ k = 2 ∨ k = 3 := by omega
  rcases this with h | h | h | h <;> subst h
  · exact (show chkOf 0 (by decide) = true by decide +kernel)
  · exact (show chkOf 1 (by decide) = true by decide +kernel)
  · exact (show chkOf 2 (by decide) = true by decide +kernel)
  · exact (show chkOf 3 (by decide) = true by decide +kernel)
theorem chkPol_ok : ∀ k : Nat, k ≤ 3 → chkPol k = true := by
  intro k hk
  have : k = 0 ∨ k = 1 ∨ k = 2 ∨ k = 3 := by omega
  rcases this with h | h | h | h <;> subst h <;> decide +kernel
/-! ### the family -/
def idxC (ts : List Nat) (r : Nat) : Nat := ts.foldl (fun acc t => 2 * acc + bt t r) 0
/-- the number of the table that the gate makes -/
def putC (g : Nat) (ts : List Nat) (k : Nat) : Nat := (List.range (2 ^ k)).foldr (fun r acc => bt g (idxC ts r) + 2 * acc) 0
abbrev inS (S t : Nat) : Bool := S.testBit t
def stepsS (k : Nat) : Nat → List (Nat × List Nat) → Option Nat
  | S, [] => some S
  | S, (u, ts) :: r => if inS S u && (ts.length == k && ts.all fun x => inS S x) then stepsS k (S ||| 1 <<< putC u ts k) r else none
def chkD (fam : List En) (k : Nat) (e : En) (d : Dn) : Bool := match stepsS k (e.S ||| 1 <<< d.t) d.steps, fam[d.nx]? with
  | some S, some f => (f.S &&& S == f.S) && decide (e.S < f.S)
  | _, _ => false
def chkE (fam : List En) (k : Nat) (e : En) : Bool :=
  ((List.range (2 ^ 2 ^ k)).all fun t => !(mk k t &&& e.m == e.m) || inS e.S t) &&
  ((List.range 4).all fun w => (List.range (2 ^ 2 ^ w)).all fun g => (mk w g &&& e.m == e.m) || e.cand.any fun c => !inS e.S (putC g (c.take w) k)) &&
  (e.cand.all fun c => c.length == 3 && c.all fun x => inS e.S x) &&
  ((List.range (2 ^ 2 ^ k)).all fun t => inS e.S t || e.D.any fun d => d.t == t && chkD fam k e d)
def startS (k : Nat) : Nat := (List.range k).foldr (fun w acc => acc ||| 1 <<< bN (projL k w)) 0
def chkF (fam : List En) (k : Nat) : Bool := (match fam with
  | e :: _ => e.S == startS k
  | [] => false) && (fam.all fun e => chkE fam k e && decide (e.S < 2 ^ 2 ^ 2 ^ k))
def famD (k : Nat) : List En := if k = 1 then fam1 else fam2
theorem chkF_ok : ∀ k : Nat, k = 1 ∨ k = 2 → chkF (famD k) k = true := by
  intro k hk
  rcases hk with h | h <;> subst h <;> decide +kernel
end Nb
end
section
set_option Elab.async false
set_option linter.all false
set_option maxRecDepth 100000
set_option maxHeartbeats 4000000
/-! The plain law, from the checks. -/
namespace Nb
open PySem L2
/-! ### kinds are relations -/
theorem bN_lt2 (t : Tb) : bN t.t < 2 ^ 2 ^ t.k := by
  have := bN_lt t.t
  rwa [t.hl] at this
theorem tb_ext {s t : Tb} (h1 : s.k = t.k) (h2 : s.t = t.t) : s = t := by
  cases s
  cases t
  simp only at h1 h2
  subst h1 h2
  rfl
theorem tb_eq (t : Tb) : tbOf t.k (bN t.t) t.hk = t := tb_ext rfl (nT_bN t.hl)
theorem kind_ix {s : Str} (h : s ∈ kindL) : ∃ i, i < 12 ∧ kindL.getD i "" = s := by
  obtain ⟨i, hi⟩ := List.getElem?_of_mem h
  refine ⟨i, (List.getElem?_eq_some_iff.mp hi).1, ?_⟩
  rw [List.getD_eq_getElem?_getD, hi]
  rfl
theorem isOf_mk (t : Tb) {i : Nat} (hi : i < 12) : isOf t (kindL.getD i "") = (mk t.k (bN t.t)).testBit i := by
  have h := List.all_eq_true.mp (List.all_eq_true.mp (chkOf_ok t.k t.hk) (bN t.t) (List.mem_range.mpr (bN_lt2 t))) i (List.mem_range.mpr hi)
  rw [tb_eq] at h
  exact beq_iff_eq.mp h
theorem pol_mk (t : Tb) {i : Nat} (hi : i < 12) : polN (relD.getD i []) t.k (bN t.t) = (mk t.k (bN t.t)).testBit i := by
  have h := List.all_eq_true.mp (List.all_eq_true.mp (chkPol_ok t.k t.hk) i (List.mem_range.mpr hi)) (bN t.t) (List.mem_range.mpr (bN_lt2 t))
  exact beq_iff_eq.mp h
theorem isOf_pol (t : Tb) {i : Nat} (hi : i < 12) : isOf t (kindL.getD i "") = polN (relD.getD i []) t.k (bN t.t) := (isOf_mk t hi).trans (pol_mk t hi).symm
/-! ### relations are kept by putting together -/
theorem bt_bN (t : List Bool) (r : Nat) : bt (bN t) r = (t.getD r false).toNat := by rw [bt, bN_bit]
theorem tups_lt {R : List Nat} : ∀ (k : Nat) (u : Nat × Nat × Nat × Nat), u ∈ tups R k → u.1 < 2 ^ k ∧ u.2.1 < 2 ^ k ∧ u.2.2.1 < 2 ^ k ∧ u.2.2.2 < 2 ^ k
  | 0, u, h => by
    rw [List.mem_singleton.mp h]
    exact ⟨by decide, by decide, by decide, by decide⟩
  | k + 1, u, h => by
    unfold tups at h
    obtain ⟨v, hv, h2⟩ := List.mem_flatMap.mp h
    obtain ⟨c, _, rfl⟩ := List.mem_map.mp h2
    obtain ⟨a1, a2, a3, a4⟩ := tups_lt k v hv
    rw [Nat.pow_succ]
    exact ⟨by show 2 * v.1 + c / 8 % 2 < _; omega, by show 2 * v.2.1 + c / 4 % 2 < _; omega, by show 2 * v.2.2.1 + c / 2 % 2 < _; omega, by show 2 * v.2.2.2 + c % 2 < _; omega⟩
theorem toNat_le (b : Bool) : b.toNat ≤ 1 := by cases b <;> decide
theorem idx_tups {R : List Nat} {u : Nat × Nat × Nat × Nat} (ts : List (List Bool)) : (∀ t ∈ ts, at4 (bN t) u ∈ R) → (idxL ts u.1, idxL ts u.2.1, idxL ts u.2.2.1, idxL ts u.2.2.2) ∈ tups R ts.length := by
  have key : ∀ (rs : List (List Bool)), (∀ t ∈ rs, at4 (bN t) u ∈ R) → (idxL rs.reverse u.1, idxL rs.reverse u.2.1, idxL rs.reverse u.2.2.1, idxL rs.reverse u.2.2.2) ∈ tups R rs.length := fun rs => by
    induction rs with
    | nil =>
      intro _
      exact List.mem_singleton.mpr rfl
    | cons t rs ih =>
      intro h
      rw [List.reverse_cons, idxL_snoc, idxL_snoc, idxL_snoc, idxL_snoc]
      unfold tups
      refine List.mem_flatMap.mpr ⟨_, ih fun x hx => h x (List.mem_cons_of_mem _ hx), List.mem_map.mpr ⟨at4 (bN t) u, h t List.mem_cons_self, ?_⟩⟩
      have e1 := bt_bN t u.1
      have e2 := bt_bN t u.2.1
      have e3 := bt_bN t u.2.2.1
      have e4 := bt_bN t u.2.2.2
      have l1 := toNat_le (t.getD u.1 false)
      have l2 := toNat_le (t.getD u.2.1 false)
      have l3 := toNat_le (t.getD u.2.2.1 false)
      have l4 := toNat_le (t.getD u.2.2.2 false)
      rw [← e1] at l1 ⊢
      rw [← e2] at l2 ⊢
      rw [← e3] at l3 ⊢
      rw [← e4] at l4 ⊢
      have q1 : at4 (bN t) u / 8 % 2 = bt (bN t) u.1 := by unfold at4; omega
      have q2 : at4 (bN t) u / 4 % 2 = bt (bN t) u.2.1 := by unfold at4; omega
      have q3 : at4 (bN t) u / 2 % 2 = bt (bN t) u.2.2.1 := by unfold at4; omega
      have q4 : at4 (bN t) u % 2 = bt (bN t) u.2.2.2 := by unfold at4; omega
      show (2 * _ + at4 (bN t) u / 8 % 2, 2 * _ + at4 (bN t) u / 4 % 2, 2 * _ + at4 (bN t) u / 2 % 2, 2 * _ + at4 (bN t) u % 2) = _
      rw [q1, q2, q3, q4]
  intro h
  have := key ts.reverse fun t ht => h t (List.mem_reverse.mp ht)
  rwa [List.reverse_reverse, List.length_reverse] at this
theorem putL_at (g : List Bool) (ts : List (List Bool)) {k r : Nat} (h : r < 2 ^ k) : (putL g ts k).getD r false = g.getD (idxL ts r) false := getD_map_range (f := fun r => g.getD (idxL ts r) false) h
theorem pol_put {R : List Nat} {k w : Nat} {g : List Bool} {ts : List (List Bool)} (hg : polN R w (bN g) = true) (hl : ts.length = w) (ht : ∀ t ∈ ts, polN R k (bN t) = true) : polN R k (bN (putL g ts k)) = true := by
  unfold polN at *
  rw [List.all_eq_true] at *
  intro u hu
  obtain ⟨a1, a2, a3, a4⟩ := tups_lt k u hu
  have hm := idx_tups (R := R) (u := u) ts fun t h => by
    have := List.all_eq_true.mp (ht t h) u hu
    simpa using this
  rw [hl] at hm
  have := hg _ hm
  have e : at4 (bN (putL g ts k)) u = at4 (bN g) (idxL ts u.1, idxL ts u.2.1, idxL ts u.2.2.1, idxL ts u.2.2.2) := by
    unfold at4
    rw [bt_bN, bt_bN, bt_bN, bt_bN, bt_bN, bt_bN, bt_bN, bt_bN, putL_at g ts a1, putL_at g ts a2, putL_at g ts a3, putL_at g ts a4]
  rw [e]
  exact this
/-! ### what is made is of the kinds -/
def tbL_ (k : Nat) (hk : k ≤ 3) (c : List Bool) (h : c.length = 2 ^ k) : Tb := ⟨k, c, hk, h⟩
theorem proj_kinds : ∀ (k : Nat) (hk : k ≤ 3) (w : Nat), w < k → ∀ i, i < 12 → isOf ⟨k, projL k w, hk, projL_len k w⟩ (kindL.getD i "") = true := by
  intro k hk w hw i hi
  have h1 : (List.range 12).all (fun i => isOf ⟨1, projL 1 0, by decide, projL_len 1 0⟩ (kindL.getD i "")) = true := by decide +kernel
  have h2 : (List.range 12).all (fun i => isOf ⟨2, projL 2 0, by decide, projL_len 2 0⟩ (kindL.getD i "") && isOf ⟨2, projL 2 1, by decide, projL_len 2 1⟩ (kindL.getD i "")) = true := by decide +kernel
  have h3 : (List.range 12).all (fun i => isOf ⟨3, projL 3 0, by decide, projL_len 3 0⟩ (kindL.getD i "") && (isOf ⟨3, projL 3 1, by decide, projL_len 3 1⟩ (kindL.getD i "") && isOf ⟨3, projL 3 2, by decide, projL_len 3 2⟩ (kindL.getD i ""))) = true := by decide +kernel
  have : (k = 1 ∧ w = 0) ∨ (k = 2 ∧ w = 0) ∨ (k = 2 ∧ w = 1) ∨ (k = 3 ∧ w = 0) ∨ (k = 3 ∧ w = 1) ∨ (k = 3 ∧ w = 2) := by omega
  rcases this with ⟨e1, e2⟩ | ⟨e1, e2⟩ | ⟨e1, e2⟩ | ⟨e1, e2⟩ | ⟨e1, e2⟩ | ⟨e1, e2⟩ <;> subst e1 e2
  · exact List.all_eq_true.mp h1 i (List.mem_range.mpr hi)
  · exact (Bool.and_eq_true_iff.mp (List.all_eq_true.mp h2 i (List.mem_range.mpr hi))).1
  · exact (Bool.and_eq_true_iff.mp (List.all_eq_true.mp h2 i (List.mem_range.mpr hi))).2
  · exact (Bool.and_eq_true_iff.mp (List.all_eq_true.mp h3 i (List.mem_range.mpr hi))).1
  · exact (Bool.and_eq_true_iff.mp (Bool.and_eq_true_iff.mp (List.all_eq_true.mp h3 i (List.mem_range.mpr hi))).2).1
  · exact (Bool.and_eq_true_iff.mp (Bool.and_eq_true_iff.mp (List.all_eq_true.mp h3 i (List.mem_range.mpr hi))).2).2
theorem put_kind {k : Nat} (hk : k ≤ 3) {g : Tb} {ts : List (List Bool)} {i : Nat} (hi : i < 12) (hg : isOf g (kindL.getD i "") = true) (hl : ts.length = g.k) (ht : ∀ t ∈ ts, ∃ h, isOf ⟨k, t, hk, h⟩ (kindL.getD i "") = true) : isOf ⟨k, putL g.t ts k, hk, putL_len _ _ _⟩ (kindL.getD i "") = true := by
  rw [isOf_pol _ hi] at hg ⊢
  refine pol_put hg hl fun t h => ?_
  obtain ⟨h', q⟩ := ht t h
  rw [isOf_pol _ hi] at q
  exact q
theorem Cl.kinds {gs : List Gt} {k : Nat} (hk : k ≤ 3) {c : List Bool} (h : Cl gs k c) {i : Nat} (hi : i < 12) (hg : ∀ g ∈ gs, isOf g.2 (kindL.getD i "") = true) : isOf ⟨k, c, hk, h.len⟩ (kindL.getD i "") = true := by
  induction h with
  | proj hw => exact proj_kinds k hk _ hw i hi
  | put hm hl ht ih => exact put_kind hk hi (hg _ hm) hl fun t q => ⟨(ht t q).len, ih t q⟩
theorem kindsAll_mem {ts : List Tb} {s : Str} : s ∈ kindsAll ts ↔ s ∈ kindL ∧ ∀ t ∈ ts, isOf t s = true := by
  unfold kindsAll
  rw [List.mem_filter, List.all_eq_true]
/-- all the common kinds of the gates -/
abbrev ksOf (gs : List Gt) : List Str := kindsAll (gs.map (·.2))
theorem Cl.all {gs : List Gt} {k : Nat} (hk : k ≤ 3) {c : List Bool} (h : Cl gs k c) : (ksOf gs).all (isOf ⟨k, c, hk, h.len⟩) = true := by
  rw [List.all_eq_true]
  intro s hs
  obtain ⟨h1, h2⟩ := kindsAll_mem.mp hs
  obtain ⟨i, hi, e⟩ := kind_ix h1
  subst e
  exact h.kinds hk hi fun g hg => h2 g.2 (List.mem_map.mpr ⟨g, hg, rfl⟩)
end Nb
end
section
set_option Elab.async false
set_option linter.all false
set_option maxRecDepth 100000
set_option maxHeartbeats 4000000
/-! The plain law: completeness, order, bits. -/
namespace Nb
open PySem L2
/-! ### the closed set takes its own tables as gates -/
theorem idx_map (us ts : List (List Bool)) (k r : Nat) (hr : r < 2 ^ k) : idxL (us.map fun u => putL u ts k) r = idxL us (idxL ts r) := by
  have : ∀ (us : List (List Bool)) (a : Nat), (us.map fun u => putL u ts k).foldl (fun acc t => 2 * acc + (t.getD r false).toNat) a = us.foldl (fun acc t => 2 * acc + (t.getD (idxL ts r) false).toNat) a := fun us => by
    induction us with
    | nil => intro a; rfl
    | cons u us ih =>
      intro a
      rw [List.map_cons, List.foldl_cons, List.foldl_cons, ih, putL_at u ts hr]
  exact this us 0
theorem put_put (g : List Bool) (us ts : List (List Bool)) (k : Nat) (hl : ts.length = k) : putL (putL g us k) ts k = putL g (us.map fun u => putL u ts k) k := by
  unfold putL
  refine List.map_congr_left fun r hr => ?_
  have hr := List.mem_range.mp hr
  have h1 : idxL ts r < 2 ^ k := by
    have := idxL_lt ts r
    rwa [hl] at this
  have e1 := putL_at g us h1
  have e2 := idx_map us ts k r hr
  unfold putL at e1 e2
  rw [e1, e2]
theorem range_getD {t : List Bool} {k : Nat} (h : t.length = 2 ^ k) : (List.range (2 ^ k)).map (fun r => t.getD r false) = t := by
  refine List.ext_getElem (by simp [h]) fun i h1 h2 => ?_
  rw [List.getElem_map, List.getElem_range, List.getD_eq_getElem?_getD, List.getElem?_eq_getElem h2]
  rfl
theorem put_proj {k : Nat} (hk : k = 1 ∨ k = 2) {ts : List (List Bool)} (hl : ts.length = k) (ht : ∀ t ∈ ts, t.length = 2 ^ k) {w : Nat} (hw : w < k) : ∃ t ∈ ts, putL (projL k w) ts k = t := by
  rcases hk with h | h
  · subst h
    obtain ⟨t, rfl⟩ : ∃ t, ts = [t] := List.length_eq_one_iff.mp hl
    have e : w = 0 := by omega
    subst e
    refine ⟨t, List.mem_cons_self, ?_⟩
    refine Eq.trans ?_ (range_getD (ht t List.mem_cons_self))
    unfold putL
    refine List.map_congr_left fun r _ => ?_
    have e : idxL [t] r = (t.getD r false).toNat := by
      show 2 * 0 + (t.getD r false).toNat = _
      omega
    rw [e]
    cases t.getD r false <;> decide
  · subst h
    obtain ⟨t, u, rfl⟩ : ∃ t u, ts = [t, u] := by
      match ts, hl with
      | [t, u], _ => exact ⟨t, u, rfl⟩
    have e : ∀ r, idxL [t, u] r = 2 * (t.getD r false).toNat + (u.getD r false).toNat := fun r => by
      show 2 * (2 * 0 + (t.getD r false).toNat) + (u.getD r false).toNat = _
      omega
    have : w = 0 ∨ w = 1 := by omega
    rcases this with h | h <;> subst h
    · refine ⟨t, List.mem_cons_self, Eq.trans ?_ (range_getD (ht t List.mem_cons_self))⟩
      unfold putL
      refine List.map_congr_left fun r _ => ?_
      rw [e]
      cases t.getD r false <;> cases u.getD r false <;> decide
    · refine ⟨u, by simp, Eq.trans ?_ (range_getD (ht u (by simp)))⟩
      unfold putL
      refine List.map_congr_left fun r _ => ?_
      rw [e]
      cases t.getD r false <;> cases u.getD r false <;> decide
/-- closed under the gates -/
def ClosG (gs : List Gt) (k : Nat) (fs : List (List Bool)) : Prop := ∀ g ∈ gs, ∀ ts : List (List Bool), ts.length = g.2.k → (∀ t ∈ ts, t ∈ fs) → putL g.2.t ts k ∈ fs
theorem self_closed {gs : List Gt} {k : Nat} (hk : k = 1 ∨ k = 2) {fs : List (List Bool)} (hc : ClosG gs k fs) (hlen : ∀ t ∈ fs, t.length = 2 ^ k) {u : List Bool} (hu : Cl gs k u) {ts : List (List Bool)} (hl : ts.length = k) (ht : ∀ t ∈ ts, t ∈ fs) : putL u ts k ∈ fs := by
  induction hu with
  | proj hw =>
    obtain ⟨t, h1, h2⟩ := put_proj hk hl (fun t h => hlen t (ht t h)) hw
    rw [h2]
    exact ht t h1
  | put hm hl2 ht2 ih =>
    rw [put_put _ _ _ _ hl]
    refine hc _ hm _ (by rw [List.length_map]; exact hl2) fun t h => ?_
    obtain ⟨v, hv, rfl⟩ := List.mem_map.mp h
    exact ih v hv
/-! ### by numbers -/
theorem idxC_eq (ts : List (List Bool)) (r : Nat) : idxC (ts.map bN) r = idxL ts r := by
  have : ∀ (ts : List (List Bool)) (a : Nat), (ts.map bN).foldl (fun acc t => 2 * acc + bt t r) a = ts.foldl (fun acc t => 2 * acc + (t.getD r false).toNat) a := fun ts => by
    induction ts with
    | nil => intro a; rfl
    | cons t ts ih =>
      intro a
      rw [List.map_cons, List.foldl_cons, List.foldl_cons, ih, bt_bN]
  exact this ts 0
theorem bN_fold (f : Nat → Bool) : ∀ l : List Nat, bN (l.map f) = l.foldr (fun r acc => (f r).toNat + 2 * acc) 0
  | [] => rfl
  | r :: l => by
    rw [List.map_cons, List.foldr_cons, ← bN_fold f l]
    show (if f r then 1 else 0) + 2 * bN (l.map f) = _
    cases f r <;> rfl
theorem putC_eq (g : List Bool) (ts : List (List Bool)) (k : Nat) : putC (bN g) (ts.map bN) k = bN (putL g ts k) := by
  unfold putC putL
  rw [bN_fold]
  congr 1
  funext r acc
  rw [idxC_eq, bt_bN]
theorem bN_inj {k : Nat} {s t : List Bool} (hs : s.length = 2 ^ k) (ht : t.length = 2 ^ k) (h : bN s = bN t) : s = t := by
  rw [← nT_bN hs, ← nT_bN ht, h]
/-! ### the family -/
section
variable {fam : List En} {k : Nat} {C : Nat → Prop}
/-- C: what is made, by numbers -/
structure CC (gs : List Gt) (k : Nat) (C : Nat → Prop) : Prop where
  self : ∀ (u : Nat) (ts : List Nat), C u → ts.length = k → (∀ t ∈ ts, C t) → C (putC u ts k)
  gate : ∀ g ∈ gs, ∀ ts : List Nat, ts.length = g.2.k → (∀ t ∈ ts, C t) → C (putC (bN g.2.t) ts k)
theorem or_bit {S t x : Nat} (h : (S ||| 1 <<< t).testBit x = true) : S.testBit x = true ∨ x = t := by
  rw [Nat.testBit_or, Bool.or_eq_true] at h
  rcases h with h | h
  · exact .inl h
  · right
    rw [Nat.one_shiftLeft, Nat.testBit_two_pow] at h
    exact (of_decide_eq_true h).symm
theorem steps_ok (hs : ∀ (u : Nat) (ts : List Nat), C u → ts.length = k → (∀ t ∈ ts, C t) → C (putC u ts k)) : ∀ (steps : List (Nat × List Nat)) (S S' : Nat), (∀ x, S.testBit x = true → C x) → stepsS k S steps = some S' → ∀ x, S'.testBit x = true → C x
  | [], S, S', hS, h => by
    cases h
    exact hS
  | (u, ts) :: r, S, S', hS, h => by
    unfold stepsS at h
    split at h
    · rename_i hc
      obtain ⟨h1, h2⟩ := Bool.and_eq_true_iff.mp hc
      obtain ⟨h3, h4⟩ := Bool.and_eq_true_iff.mp h2
      have hn : C (putC u ts k) := hs u ts (hS u h1) (beq_iff_eq.mp h3) fun t ht => hS t (List.all_eq_true.mp h4 t ht)
      refine steps_ok hs r _ S' (fun x hx => ?_) h
      rcases or_bit hx with q | q
      · exact hS x q
      · rw [q]
        exact hn
    · cases h
theorem sub_bit {m n : Nat} (h : (n &&& m == m) = true) {i : Nat} (hi : m.testBit i = true) : n.testBit i = true := by
  have e := beq_iff_eq.mp h
  rw [← e, Nat.testBit_and, Bool.and_eq_true] at hi
  exact hi.1
theorem sub_of {m n : Nat} (h : ∀ i, m.testBit i = true → n.testBit i = true) : (n &&& m == m) = true := by
  refine beq_iff_eq.mpr (Nat.eq_of_testBit_eq fun i => ?_)
  rw [Nat.testBit_and]
  cases hm : m.testBit i with
  | false => rw [Bool.and_false]
  | true => rw [h i hm, Bool.and_true]
/-- from an entry on -/
theorem fam_ok {gs : List Gt} (hF : ∀ e ∈ fam, chkE fam k e = true ∧ e.S < 2 ^ 2 ^ 2 ^ k) (hC : CC gs k C) {t : Nat} (htk : t < 2 ^ 2 ^ k) (ht : ∀ i, (∀ g ∈ gs, (mk g.2.k (bN g.2.t)).testBit i = true) → (mk k t).testBit i = true) :
    ∀ (n : Nat) (e : En), 2 ^ 2 ^ 2 ^ k - e.S ≤ n → e ∈ fam → (∀ x, e.S.testBit x = true → C x) → C t := by
  intro n
  induction n with
  | zero =>
    intro e hn he hS
    have := (hF e he).2
    omega
  | succ n ih =>
    intro e hn he hS
    obtain ⟨hE, hlt⟩ := hF e he
    unfold chkE at hE
    obtain ⟨hE, h4⟩ := Bool.and_eq_true_iff.mp hE
    obtain ⟨hE, h3⟩ := Bool.and_eq_true_iff.mp hE
    obtain ⟨h1, h2⟩ := Bool.and_eq_true_iff.mp hE
    by_cases hall : ∀ g ∈ gs, (mk g.2.k (bN g.2.t) &&& e.m == e.m) = true
    · have hm : (mk k t &&& e.m == e.m) = true := sub_of fun i hi => ht i fun g hg => sub_bit (hall g hg) hi
      have := List.all_eq_true.mp h1 t (List.mem_range.mpr htk)
      rw [hm] at this
      exact hS t this
    · obtain ⟨g, hg, hn'⟩ : ∃ g, g ∈ gs ∧ ¬ (mk g.2.k (bN g.2.t) &&& e.m == e.m) = true := by
        refine Classical.byContradiction fun hno => hall fun g hg => Classical.byContradiction fun q => hno ⟨g, hg, q⟩
      have hk3 := g.2.hk
      have hw := List.all_eq_true.mp (List.all_eq_true.mp h2 g.2.k (List.mem_range.mpr (by omega))) (bN g.2.t) (List.mem_range.mpr (bN_lt2 g.2))
      rw [Bool.or_eq_true] at hw
      have hw := hw.resolve_left hn'
      obtain ⟨c, hc, hout⟩ := List.any_eq_true.mp hw
      obtain ⟨hcl, hcS⟩ := Bool.and_eq_true_iff.mp (List.all_eq_true.mp h3 c hc)
      have hcl := beq_iff_eq.mp hcl
      have hnew : C (putC (bN g.2.t) (c.take g.2.k) k) := hC.gate g hg _ (by rw [List.length_take, hcl]; omega) fun x hx => hS x (List.all_eq_true.mp hcS x (List.mem_of_mem_take hx))
      have hnS : inS e.S (putC (bN g.2.t) (c.take g.2.k) k) = false := by simpa using hout
      have hlt2 : putC (bN g.2.t) (c.take g.2.k) k < 2 ^ 2 ^ k := by
        have : putC (bN g.2.t) (c.take g.2.k) k = bN ((List.range (2 ^ k)).map fun r => (bN g.2.t).testBit (idxC (c.take g.2.k) r)) := by
          rw [bN_fold]
          rfl
        rw [this]
        have := bN_lt ((List.range (2 ^ k)).map fun r => (bN g.2.t).testBit (idxC (c.take g.2.k) r))
        rwa [List.length_map, List.length_range] at this
      have hd := List.all_eq_true.mp h4 _ (List.mem_range.mpr hlt2)
      rw [hnS, Bool.false_or] at hd
      obtain ⟨d, _, hd⟩ := List.any_eq_true.mp hd
      obtain ⟨hdt, hd⟩ := Bool.and_eq_true_iff.mp hd
      have hdt := beq_iff_eq.mp hdt
      unfold chkD at hd
      split at hd
      · rename_i S f hS2 hf
        obtain ⟨hsub, hgt⟩ := Bool.and_eq_true_iff.mp hd
        have hgt := of_decide_eq_true hgt
        have hfm : f ∈ fam := List.mem_of_getElem? hf
        have hSx := steps_ok hC.self d.steps _ S (fun x hx => by
          rcases or_bit hx with q | q
          · exact hS x q
          · rw [q, hdt]
            exact hnew) hS2
        refine ih f (by have := (hF f hfm).2; omega) hfm fun x hx => hSx x ?_
        have e1 := beq_iff_eq.mp hsub
        rw [← e1, Nat.testBit_and, Bool.and_eq_true] at hx
        exact hx.2
      · cases hd
end
/-- all tables of the kinds are made -/
theorem complete {gs : List Gt} {k : Nat} (hk : k = 1 ∨ k = 2) {fs : List (List Bool)} (hg1 : 1 ≤ gs.length) (hcl : ∀ c ∈ fs, Cl gs k c) (hpj : ∀ w, w < k → projL k w ∈ fs) (hc : ClosG gs k fs) {c : List Bool} (hl : c.length = 2 ^ k) (hk3 : k ≤ 3) (hs : (ksOf gs).all (isOf ⟨k, c, hk3, hl⟩) = true) : c ∈ fs := by
  have hlen : ∀ t ∈ fs, t.length = 2 ^ k := fun t h => (hcl t h).len
  let C : Nat → Prop := fun n => ∃ u ∈ fs, bN u = n
  have lift : ∀ ts : List Nat, (∀ t ∈ ts, C t) → ∃ us : List (List Bool), us.map bN = ts ∧ ∀ u ∈ us, u ∈ fs := fun ts => by
    induction ts with
    | nil => exact fun _ => ⟨[], rfl, by simp⟩
    | cons t ts ih =>
      intro h
      obtain ⟨us, e, hu⟩ := ih fun x hx => h x (List.mem_cons_of_mem _ hx)
      obtain ⟨u, h1, h2⟩ := h t List.mem_cons_self
      refine ⟨u :: us, by rw [List.map_cons, e, h2], fun x hx => ?_⟩
      rcases List.mem_cons.mp hx with q | q
      · rw [q]
        exact h1
      · exact hu x q
  have hC : CC gs k C := by
    refine ⟨fun u ts hu hl ht => ?_, fun g hg ts hl ht => ?_⟩
    · obtain ⟨v, hv, rfl⟩ := hu
      obtain ⟨us, rfl, hus⟩ := lift ts ht
      rw [putC_eq]
      exact ⟨_, self_closed hk hc hlen (hcl v hv) (by rw [List.length_map] at hl; exact hl) hus, rfl⟩
    · obtain ⟨us, rfl, hus⟩ := lift ts ht
      rw [putC_eq]
      exact ⟨_, hc g hg us (by rw [List.length_map] at hl; exact hl) hus, rfl⟩
  have hF := chkF_ok k hk
  unfold chkF at hF
  obtain ⟨h1, h2⟩ := Bool.and_eq_true_iff.mp hF
  have hall : ∀ e ∈ famD k, chkE (famD k) k e = true ∧ e.S < 2 ^ 2 ^ 2 ^ k := fun e he => by
    obtain ⟨a, b⟩ := Bool.and_eq_true_iff.mp (List.all_eq_true.mp h2 e he)
    exact ⟨a, of_decide_eq_true b⟩
  have main : C (bN c) := by
    cases hf : famD k with
    | nil =>
      rw [hf] at h1
      cases h1
    | cons e r =>
      rw [hf] at h1 hall
      have h1 := beq_iff_eq.mp h1
      refine fam_ok (C := C) hall hC (by have := bN_lt c; rwa [hl] at this) (fun i hi => ?_) _ e (Nat.le_refl _) List.mem_cons_self fun x hx => ?_
      · obtain ⟨g0, hg0⟩ : ∃ g, g ∈ gs := by
          cases gs with
          | nil => exact absurd hg1 (by decide)
          | cons g r => exact ⟨g, List.mem_cons_self⟩
        have h12 : i < 12 := by
          refine Classical.byContradiction fun hi12 => ?_
          have hb := hi g0 hg0
          have hsm : ∀ k n : Nat, mk k n < 2 ^ 12 := fun k n => by
            unfold mk
            have hD : mkD.all (fun l => l.all fun x => decide (x < 2 ^ 12)) = true := by decide +kernel
            rw [List.getD_eq_getElem?_getD, List.getD_eq_getElem?_getD]
            cases q1 : mkD[k]? with
            | none => simp
            | some l =>
              cases q2 : l[n]? with
              | none => simp [q2]
              | some x =>
                have := of_decide_eq_true (List.all_eq_true.mp (List.all_eq_true.mp hD l (List.mem_of_getElem? q1)) x (List.mem_of_getElem? q2))
                simpa [q2] using this
          have := Nat.testBit_lt_two_pow (Nat.lt_of_lt_of_le (hsm g0.2.k (bN g0.2.t)) (Nat.pow_le_pow_right (by decide) (Nat.le_of_not_lt hi12)))
          rw [this] at hb
          cases hb
        have e := isOf_mk ⟨k, c, hk3, hl⟩ h12
        rw [← e]
        refine List.all_eq_true.mp hs _ (kindsAll_mem.mpr ⟨?_, fun t ht => ?_⟩)
        · rw [List.getD_eq_getElem?_getD, List.getElem?_eq_getElem (show i < kindL.length from h12)]
          exact List.getElem_mem _
        · obtain ⟨g, hg, rfl⟩ := List.mem_map.mp ht
          rw [isOf_mk _ h12]
          exact hi g hg
      · rw [h1] at hx
        have : ∀ (l : List Nat), (∀ w ∈ l, w < k) → ∀ x, (l.foldr (fun w acc => acc ||| 1 <<< bN (projL k w)) 0).testBit x = true → C x := fun l => by
          induction l with
          | nil =>
            intro _ x hx
            simp at hx
          | cons w l ih =>
            intro hw x hx
            rcases or_bit hx with q | q
            · exact ih (fun v hv => hw v (List.mem_cons_of_mem _ hv)) x q
            · rw [q]
              exact ⟨_, hpj w (hw w List.mem_cons_self), rfl⟩
        exact this (List.range k) (fun w hw => List.mem_range.mp hw) x hx
  obtain ⟨u, hu, e⟩ := main
  rw [← bN_inj (hlen u hu) hl e]
  exact hu
/-! ### a full list holds all -/
theorem nodup_le {α : Type} [DecidableEq α] : ∀ (l m : List α), l.Nodup → (∀ x ∈ l, x ∈ m) → l.length ≤ m.length
  | [], m, _, _ => Nat.zero_le _
  | a :: l, m, hn, h => by
    obtain ⟨h1, h2⟩ := List.nodup_cons.mp hn
    have ham := h a List.mem_cons_self
    have := nodup_le l (m.erase a) h2 fun x hx => by
      have hne : x ≠ a := fun e => h1 (e ▸ hx)
      exact (List.mem_erase_of_ne hne).mpr (h x (List.mem_cons_of_mem _ hx))
    rw [List.length_erase_of_mem ham] at this
    have : 0 < m.length := List.length_pos_of_mem ham
    rw [List.length_cons]
    omega
theorem full_all {k : Nat} {fs : List (List Bool)} (hn : fs.Nodup) (hl : ∀ c ∈ fs, c.length = 2 ^ k) (hf : fs.length = 2 ^ 2 ^ k) {c : List Bool} (hc : c.length = 2 ^ k) : c ∈ fs := by
  refine Classical.byContradiction fun hno => ?_
  have key := nodup_le ((c :: fs).map bN) (List.range (2 ^ 2 ^ k)) ?_ fun x hx => ?_
  · rw [List.length_map, List.length_cons, hf, List.length_range] at key
    omega
  · rw [List.Nodup, List.pairwise_map]
    have hn2 : (c :: fs).Nodup := List.nodup_cons.mpr ⟨hno, hn⟩
    refine List.Pairwise.imp_of_mem ?_ hn2
    intro a b ha hb hab e
    have la : ∀ a ∈ c :: fs, a.length = 2 ^ k := fun a h => by
      rcases List.mem_cons.mp h with q | q
      · rw [q]
        exact hc
      · exact hl a q
    exact hab (bN_inj (la a ha) (la b hb) e)
  · obtain ⟨a, ha, rfl⟩ := List.mem_map.mp hx
    have la : a.length = 2 ^ k := by
      rcases List.mem_cons.mp ha with q | q
      · rw [q]
        exact hc
      · exact hl a q
    have := bN_lt a
    rw [la] at this
    exact List.mem_range.mpr this
/-- the closing holds a table just if it is of the kinds -/
theorem Clos.mem {gs : List Gt} {k : Nat} (hk : k = 1 ∨ k = 2) (hk3 : k ≤ 3) {fs : List (List Bool)} (hg1 : 1 ≤ gs.length) (h : Clos gs k fs) {c : List Bool} (hl : c.length = 2 ^ k) : c ∈ fs ↔ (ksOf gs).all (isOf ⟨k, c, hk3, hl⟩) = true := by
  constructor
  · intro hm
    exact (h.cl c hm).all hk3
  · intro hs
    rcases h.cls with hf | hc
    · exact full_all h.nd (fun c q => (h.cl c q).len) hf hl
    · exact complete hk hg1 h.cl h.pj hc hl hk3 hs
/-! ### order -/
theorem sorted_eq {α : Type} (f : α → Int) : ∀ (l m : List α), (l.Pairwise fun a b => f a < f b) → (m.Pairwise fun a b => f a < f b) → (∀ x, x ∈ l ↔ x ∈ m) → l = m
  | [], [], _, _, _ => rfl
  | [], b :: m, _, _, h => absurd ((h b).mpr List.mem_cons_self) (by simp)
  | a :: l, [], _, _, h => absurd ((h a).mp List.mem_cons_self) (by simp)
  | a :: l, b :: m, hl, hm, h => by
    obtain ⟨l1, l2⟩ := List.pairwise_cons.mp hl
    obtain ⟨m1, m2⟩ := List.pairwise_cons.mp hm
    have e : a = b := by
      rcases List.mem_cons.mp ((h a).mp List.mem_cons_self) with q | q
      · exact q
      · rcases List.mem_cons.mp ((h b).mpr List.mem_cons_self) with q2 | q2
        · exact q2.symm
        · have h1 := m1 a q
          have h2 := l1 b q2
          omega
    subst e
    have na : a ∉ l := fun q => absurd (l1 a q) (by omega)
    have nb : a ∉ m := fun q => absurd (m1 a q) (by omega)
    rw [sorted_eq f l m l2 m2 fun x => ?_]
    constructor
    · intro hx
      rcases List.mem_cons.mp ((h x).mp (List.mem_cons_of_mem _ hx)) with q | q
      · exact absurd (q ▸ hx) na
      · exact q
    · intro hx
      rcases List.mem_cons.mp ((h x).mpr (List.mem_cons_of_mem _ hx)) with q | q
      · exact absurd (q ▸ hx) nb
      · exact q
abbrev cd (c : List Bool) : Int := TS.code 2 (c.map bi)
theorem cd_inj {k : Nat} (hk : k = 1 ∨ k = 2) {a b : List Bool} (ha : a.length = 2 ^ k) (hb : b.length = 2 ^ k) (h : cd a = cd b) : a = b := by
  have key : (List.range (2 ^ 2 ^ k)).all (fun n => (List.range (2 ^ 2 ^ k)).all fun m => !(decide (cd (nT n k) = cd (nT m k))) || decide (nT n k = nT m k)) = true := by
    rcases hk with h | h <;> subst h <;> decide +kernel
  have la := bN_lt a
  have lb := bN_lt b
  rw [ha] at la
  rw [hb] at lb
  have := List.all_eq_true.mp (List.all_eq_true.mp key _ (List.mem_range.mpr la)) _ (List.mem_range.mpr lb)
  rw [nT_bN ha, nT_bN hb, decide_eq_true h] at this
  simpa using this
theorem tbL_mem {k : Nat} (hk : k ≤ 3) {c : List Bool} : c ∈ (tbL k hk).map (·.t) ↔ c.length = 2 ^ k := by
  unfold tbL
  rw [List.map_map, List.mem_map]
  constructor
  · rintro ⟨n, _, rfl⟩
    show (nT n k).reverse.length = _
    rw [List.length_reverse, nT_len]
  · intro h
    have hr : c.reverse.length = 2 ^ k := by rw [List.length_reverse, h]
    refine ⟨bN c.reverse, List.mem_range.mpr (by have := bN_lt c.reverse; rwa [hr] at this), ?_⟩
    show (nT (bN c.reverse) k).reverse = c
    rw [nT_bN hr, List.reverse_reverse]
theorem tbL_k {k : Nat} (hk : k ≤ 3) {t : Tb} (h : t ∈ tbL k hk) : t.k = k := by
  unfold tbL at h
  obtain ⟨n, _, rfl⟩ := List.mem_map.mp h
  rfl
theorem tbL_srt {k : Nat} (hk : k = 1 ∨ k = 2) (hk3 : k ≤ 3) : (tbL k hk3).Pairwise fun a b => cd a.t < cd b.t := by
  rcases hk with h | h <;> subst h
  · exact (show (tbL 1 (by decide)).Pairwise (fun a b => cd a.t < cd b.t) by decide +kernel)
  · exact (show (tbL 2 (by decide)).Pairwise (fun a b => cd a.t < cd b.t) by decide +kernel)
/-- the closing, in order, is what the package makes -/
theorem Clos.made {gs : List Gt} {k : Nat} (hk : k = 1 ∨ k = 2) (hk3 : k ≤ 3) {fs : List (List Bool)} (hg1 : 1 ≤ gs.length) (h : Clos gs k fs) : fs = (madeL k hk3 (ksOf gs)).map (·.t) := by
  refine sorted_eq cd _ _ ?_ ?_ fun c => ?_
  · have h2 : fs.Pairwise fun a b => a ≠ b := h.nd
    refine List.Pairwise.imp_of_mem ?_ (h.srt.and h2)
    intro a b ha hb ⟨h3, h4⟩
    have h5 : cd a ≠ cd b := fun e => h4 (cd_inj hk (h.cl a ha).len (h.cl b hb).len e)
    have h3 : cd a ≤ cd b := h3
    omega
  · unfold madeL
    rw [List.pairwise_map]
    exact (tbL_srt hk hk3).filter _
  · constructor
    · intro hc
      have hl := (h.cl c hc).len
      have hs := (h.mem hk hk3 hg1 hl).mp hc
      obtain ⟨t, ht, e⟩ := List.mem_map.mp ((tbL_mem hk3).mpr hl)
      refine List.mem_map.mpr ⟨t, List.mem_filter.mpr ⟨ht, ?_⟩, e⟩
      have : t = ⟨k, c, hk3, hl⟩ := tb_ext (tbL_k hk3 ht) e
      rw [this]
      exact hs
    · intro hc
      obtain ⟨t, ht, rfl⟩ := List.mem_map.mp hc
      obtain ⟨h1, h2⟩ := List.mem_filter.mp ht
      have hl : t.t.length = 2 ^ k := by rw [t.hl, tbL_k hk3 h1]
      refine (h.mem hk hk3 hg1 hl).mpr ?_
      have : t = ⟨k, t.t, hk3, hl⟩ := tb_ext (tbL_k hk3 h1) rfl
      rwa [← this]
/-! ### a gate over bits, plainly -/
theorem stepN_at {full op : Nat} {rows : List Nat} {j r : Nat} (hj : 2 * j + 1 < rows.length) (hf : full.testBit r = true) : ((pairUp op full rows).getD j 0).testBit r = (rows.getD (2 * j + (op.testBit r).toNat) 0).testBit r := by
  rw [pairUp_eq]
  have hj2 : j < rows.length / 2 := by omega
  rw [List.getD_eq_getElem?_getD, List.getElem?_map, List.getElem?_range hj2]
  show ((rows.getD (2 * j) 0 &&& (full ^^^ op)) ||| (rows.getD (2 * j + 1) 0 &&& op)).testBit r = _
  rw [Nat.testBit_or, Nat.testBit_and, Nat.testBit_and, Nat.testBit_xor, hf]
  cases op.testBit r <;> simp
theorem gate_fold {full r : Nat} (hf : full.testBit r = true) : ∀ (rs : List Nat) (rows : List Nat), rows.length = 2 ^ rs.length → ((rs.foldl (stepN full) rows).headD 0).testBit r = (rows.getD (idxC rs.reverse r) 0).testBit r
  | [], rows, h => by
    have h : rows.length = 1 := h
    obtain ⟨x, rfl⟩ := List.length_eq_one_iff.mp h
    rfl
  | o :: rs, rows, h => by
    rw [List.length_cons, Nat.pow_succ] at h
    have hl : (stepN full rows o).length = 2 ^ rs.length := by
      unfold stepN
      rw [pairUp_len, h]
      omega
    rw [List.foldl_cons, gate_fold hf rs _ hl]
    have hi : idxC rs.reverse r < 2 ^ rs.length := by
      have : ∀ (l : List Nat) (a : Nat), l.foldl (fun acc t => 2 * acc + bt t r) a < (a + 1) * 2 ^ l.length := fun l => by
        induction l with
        | nil => intro a; simp
        | cons t l ih =>
          intro a
          rw [List.foldl_cons]
          refine Nat.lt_of_lt_of_le (ih _) ?_
          have := toNat_le (t.testBit r)
          rw [List.length_cons, Nat.pow_succ]
          calc (2 * a + bt t r + 1) * 2 ^ l.length ≤ ((a + 1) * 2) * 2 ^ l.length := Nat.mul_le_mul_right _ (by show 2 * a + (t.testBit r).toNat + 1 ≤ _; omega)
            _ = (a + 1) * (2 ^ l.length * 2) := by rw [Nat.mul_assoc, Nat.mul_comm 2]
      have := this rs.reverse 0
      rw [List.length_reverse] at this
      simpa [idxC] using this
    have e : idxC (o :: rs).reverse r = 2 * idxC rs.reverse r + bt o r := by
      rw [List.reverse_cons]
      unfold idxC
      rw [List.foldl_append]
      rfl
    rw [e]
    exact stepN_at (by omega) hf
theorem full_bit {k r : Nat} (h : r < 2 ^ k) : (fullN k).testBit r = true := by
  unfold fullN
  rw [Nat.testBit_two_pow_sub_one]
  exact decide_eq_true h
theorem gateN_put {g : Tb} {ts : List (List Bool)} {k : Nat} (hl : ts.length = g.k) : nT (gateN g.t (ts.map bN) (fullN k)) k = putL g.t ts k := by
  unfold nT putL
  refine List.map_congr_left fun r hr => ?_
  have hr := List.mem_range.mp hr
  have hf := full_bit hr
  have := gate_fold hf (ts.map bN).reverse (g.t.map fun b => if b then fullN k else 0) (by rw [List.length_map, List.length_reverse, List.length_map, hl, g.hl])
  unfold gateN
  rw [List.reverse_reverse, idxC_eq] at this
  refine this.trans ?_
  have hi : idxL ts r < g.t.length := by
    rw [g.hl, ← hl]
    exact idxL_lt ts r
  rw [List.getD_eq_getElem?_getD, List.getElem?_map, List.getD_eq_getElem?_getD, List.getElem?_eq_getElem hi]
  show (if g.t[idxL ts r] then fullN k else 0).testBit r = g.t[idxL ts r]
  cases g.t[idxL ts r]
  · simp
  · simpa using hf
/-- a table that is made, over tables of the closing: one of the closing -/
theorem put_in {gs : List Gt} {k : Nat} (hk : k = 1 ∨ k = 2) (hk3 : k ≤ 3) {fs : List (List Bool)} (hg1 : 1 ≤ gs.length) (h : Clos gs k fs) {c : List Bool} (hc : Cl gs 3 c) {ts : List (List Bool)} (hl : ts.length = 3) (ht : ∀ t ∈ ts, t ∈ fs) : putL c ts k ∈ fs := by
  refine (h.mem hk hk3 hg1 (putL_len _ _ _)).mpr ?_
  have h1 := hc.all (Nat.le_refl 3)
  rw [List.all_eq_true] at h1 ⊢
  intro s hs
  obtain ⟨hs1, hs2⟩ := kindsAll_mem.mp hs
  obtain ⟨i, hi, e⟩ := kind_ix hs1
  subst e
  refine put_kind (g := ⟨3, c, Nat.le_refl 3, hc.len⟩) hk3 hi (h1 _ hs) hl fun t hm => ⟨(h.cl t (ht t hm)).len, ?_⟩
  have h2 := (h.mem hk hk3 hg1 (h.cl t (ht t hm)).len).mp (ht t hm)
  exact List.all_eq_true.mp h2 _ hs
end Nb
end
section
set_option Elab.async false
set_option linter.all false
set_option maxRecDepth 100000
set_option maxHeartbeats 4000000
/-! law. -/
namespace Nb
open PySem L2
local macro_rules | `(tactic| walk_at "nb_isi") => `(tactic| first | exact isi_ii | exact isi_ib | exact isi_ss | exact isi_tt | exact isi_ll | exact isi_lt)
local macro_rules | `(tactic| walk_at "nb_side") => `(tactic| first | assumption | (show CMul _ _; first | exact Or.inr ⟨by decide, by decide⟩ | exact Or.inl ⟨by decide, by decide⟩ | exact Or.inr ⟨by omega, by omega⟩ | exact Or.inl ⟨by omega, by omega⟩) | (show CDiv _ _; exact ⟨by omega, by omega⟩) | (show CPow _ _; exact ⟨by omega, by omega, by omega⟩) | decide | omega | rfl)
local macro_rules | `(tactic| walk_at "nb_ev") => `(tactic| first
  | exact ev_var rfl
  | exact ev_int
  | exact ev_str
  | exact ev_bl
  | exact ev_non
  | (refine' ev_isi ?h1 ?h2; (case h1 => walk_at "nb_ev"); (case h2 => walk_at "nb_isi"))
  | (refine' ev_isi2 ?h1 ?h2 ?h3; (case h1 => walk_at "nb_ev"); (case h2 => walk_at "nb_isi"); (case h3 => walk_at "nb_isi"))
  | (refine' ev_ii ?h1 ?h2; (case h1 => walk_at "nb_ev"); (case h2 => walk_at "nb_ev"))
  | (refine' ev_ib ?h1 ?h2; (case h1 => walk_at "nb_ev"); (case h2 => walk_at "nb_ev"))
  | (refine' ev_iiC ?h1 ?h2 ?h3; (case h1 => walk_at "nb_ev"); (case h2 => walk_at "nb_ev"); (case h3 => walk_at "nb_side"))
  | (refine' ev_eqI ?h1 ?h2; (case h1 => walk_at "nb_ev"); (case h2 => walk_at "nb_ev"))
  | (refine' ev_neI ?h1 ?h2; (case h1 => walk_at "nb_ev"); (case h2 => walk_at "nb_ev"))
  | (refine' ev_eqS ?h1 ?h2; (case h1 => walk_at "nb_ev"); (case h2 => walk_at "nb_ev"))
  | (refine' ev_neS ?h1 ?h2; (case h1 => walk_at "nb_ev"); (case h2 => walk_at "nb_ev"))
  | (refine' ev_neg ?h1; (case h1 => walk_at "nb_ev"))
  | (refine' ev_andV ?h1 (fun _ => ?h2); (case h1 => walk_at "nb_ev"); (case h2 => walk_at "nb_ev"))
  | (refine' ev_orV ?h1 (fun _ => ?h2); (case h1 => walk_at "nb_ev"); (case h2 => walk_at "nb_ev"))
  | (refine' ev_notV ?h1; (case h1 => walk_at "nb_ev"))
  | walk_at "nb_call")
local macro_rules | `(tactic| walk_at "nb") => `(tactic| (refine' Ev.is ?h ?e; (case h => walk_at "nb_ev"); (try rfl)))
local macro_rules | `(tactic| walk_at "nb_ea") => `(tactic| first | exact ea_nil | (refine' ea_cons ?h1 ?h2; (case h1 => walk_at "nb_ev"); (case h2 => walk_at "nb_ea")))
/-! a call by keywords alone -/
section
variable {X : Cx} {CX : CXT} {k : Nat} {f : Addr} {fd : FuncData} {ps ks : List Str} {sp : Sp} {E : XK} {x : Str} {p pos : Pos} {kws : List Keyword} {tk : TA} {g : List Value → List Value → List Value} {gV : List V → List V → List V}
theorem pe_callK0 (F : FnOk X.prog X.w X.K X.mg X.base CX k f fd ps sp) (hr : Room k X.A) (hg : Gl X x) (hm : X.mg x = some (.ref f)) (hk : PySem.W.keepIn X.K (.ref f) = true) (hb : KBinds X.K fd ps ks g gV) (hx : Passes CX X E) (hkw : PK X kws tk)
    (hall : (backToKw pos (keywordEach kws X.env)).all (·.1.isSome) = true := by rfl) (hks : (backToKw pos (keywordEach kws X.env)).filterMap (·.1) = ks := by rfl) (hdb : (x == ("__debug__" : Str)) = false := by decide)
    (hpl : ((backTo pos (starEach [] X.env)).any (·.1) || (backToKw pos (keywordEach kws X.env)).any (·.1.isNone)) = false := by rfl) : PE X (.Call (.Name x p) [] kws pos) (tCallK sp gV E tNil tk) := by
  refine ⟨fun pins s σ H Q I h => ?_⟩
  refine wpAny_Call_Name_kw (ld_glob I hg hm ?_ hdb)
  refine PySem.W.callWith_KW0 (h₀ := X.base) I.ok.mod.kin hk hall ?_ hpl
  refine thn (hkw.run pos pins s σ H _ I h) fun ws s2 ⟨zs, H2, I2, rz, q2⟩ => ⟨I2.kIn, ?_⟩
  rw [hks]
  exact run_fnk (us := []) (vs := []) F hr hb hx I2 .nil rz q2
end
section
variable {K : Kx} {b : Hp} {w : Wd} {D : Ends} {ta tk : TA} {tr : TS} {δ : Ds} {R : Da → Prop} {i : Nat}
/-- keywords alone -/
def g0 {α : Type} : List α → List α → List α
  | [], ws => ws
  | _ :: _, _ => []
theorem ev_callK0 {α : Type} {enc : α → List Da} {pre : Wd → α → Prop} {P : α → Da → Prop} {E : XK} (a : α) (h : EvA1 K w tk δ (enc a)) (hp : pre w a) (hR : ∀ z, P a z → R z) : Ev K w (tCallK (spW K enc pre P) g0 E tNil tk) δ R := fun σ G H s a0 Q q =>
  h σ G H s a0 _ fun vs G1 H1 xs e1 a1 r1 h1 => by
    subst h1
    exact ⟨w, G1, a, a1, r1, hp, fun v G2 H2 z e2 a2 r2 h2 => q v G2 H2 z (Evl.Ex.trans e1 e2) a2 r2 (hR z h2)⟩
theorem run_asgHeap {sc : List Int} (hw : w.rnd = none) (h : EvA1 K w ta δ [.d (.list (sc.map PyData.int)), .d (.int 7)]) (k : ∀ hh l, Run K b (w.rd ⟨hh, l, none⟩) D tr (δ.set i (some (.ob hh)))) : Run K b w D (tSeq (tAsg (tCall (spHeap K) [] E0 ta) (gName i)) tr) δ := fun σ G H e s a =>
  h σ G H s a _ fun vs G1 H1 d e1 a1 r1 h1 => by
    subst h1
    rw [List.append_nil]
    exact ⟨w, G1, sc, a1, hw, r1, fun hh l G2 H2 e2 a2 => k hh l _ G2 H2 (Evl.Ex.trans e (Evl.Ex.trans e1 e2)) ((s.ex (Evl.Ex.trans e1 e2)).set i (show Dr K G2 (.ref hh) (.ob hh) from rfl)) a2⟩
theorem run_asgMake {gs : List Gt} (h : EvA1 K w ta δ [.d (.list (gs.map gD))]) (hg : GsOk gs) (k : Run K b w D tr (δ.set i (some (.mk (gsD gs))))) : Run K b w D (tSeq (tAsg (tMake (mkC K) (spMk K) [] E0 ta) (gName i)) tr) δ := fun σ G H e s a =>
  h σ G H s a _ fun vs G1 H1 d e1 a1 r1 h1 => by
    subst h1
    obtain ⟨v, ev, rv⟩ := drAll1 r1
    subst ev
    intro x dx hx hdx hne
    have a2 : At K w (upd G1 dx (.own x)) (upd H1 dx (.own x)) := a1.new hdx
    have e2 := ex_upd (a1.freeG hdx) (o := .own x)
    have hx2 : upd H1 dx (.own x) x = none := by rw [upd_ne hne.symm]; exact hx
    have a3 : At K (w.add x (.raw (.ins (mkC K) dx []))) (upd G1 dx (.own x)) (upd (upd H1 dx (.own x)) x (.ins (mkC K) dx [])) := a2.push hx2 upd_same
    refine ⟨w, upd G1 dx (.own x), x, dx, v, gs, rfl, a3, dp_exs1 e2 rv, hg, fun u1 G2 H2 e3 a4 du => ⟨rfl, ?_⟩⟩
    have e4 := ex_upd a4.topG (o := .ins (mkC K) dx [("gates", u1)])
    have e14 := Evl.Ex.trans (Evl.Ex.trans (Evl.Ex.trans e1 e2) e3) e4
    exact k _ _ H2 (Evl.Ex.trans e e14) ((s.ex e14).set i (show Dr K _ (.ref x) (.mk (gsD gs)) from ⟨x, dx, u1, rfl, upd_same, dp_ex e4 _ _ du⟩)) (a4.freeze a4.top)
where
  dp_exs1 {G G' : Hp} {v : V} {x : PyData} (e : Ex G G') (h : Dp K G v x) : Dp K G' v x := dp_ex e x v h
end
theorem kb_made {K : Kx} {mg : Str → Option Value} {fd : FuncData} (F : Df K mg "made_tables" s_made_tables) (h : FdAt K (He.ga K "made_tables") fd) : KBinds K fd ["make", "many"] ["make", "many"] g0 g0 := by
  obtain ⟨fd', FD⟩ := F.fn
  obtain ⟨oc, od, dV, kV, doc, pm, an, cdv, ct, osl, e1, lk, _, h1, h2⟩ := FD.ex
  obtain ⟨oc2, od2, osl2, lk2⟩ := h
  rw [lk] at lk2
  cases lk2
  subst e1
  have ed : dV = .none := by
    rcases h1 with ⟨_, e⟩ | ⟨h, _⟩
    · exact e
    · exact absurd rfl h
  subst ed
  refine ⟨fun s us ws _ hl => .of_eq ?_, fun {vs us zs ws} r1 r2 => ?_⟩
  · match us, ws, hl with
    | [], [_, _], _ => rfl
  · cases r1 with
    | nil => exact r2
    | cons _ _ => exact .nil
/-! repr of the closing -/
abbrev tpD (fs : List (List Bool)) : PyData := .tuple (fs.map fun c => bT c)
theorem sh_bits : ∀ c : List Bool, PyData.showableAll ((c.map bi).map PyData.int) = true ∧ PyData.hasDictAll ((c.map bi).map PyData.int) = false ∧ PyData.leavesShortAll 8 ((c.map bi).map PyData.int) = true ∧ PyData.weightAll ((c.map bi).map PyData.int) ≤ 2 * c.length
  | [] => ⟨by simp [PyData.showableAll], by simp [PyData.hasDictAll], by simp [PyData.leavesShortAll], by simp [PyData.weightAll]⟩
  | b :: c => by
    obtain ⟨h1, h2, h3, h4⟩ := sh_bits c
    have s1 : PyData.showable (.int (bi b)) = true := by
      cases b <;> simp only [PyData.showable] <;> decide
    have s2 : PyData.leavesShort 8 (.int (bi b)) = true := by
      cases b <;> simp only [PyData.leavesShort, PyData.shown_int] <;> decide +kernel
    have s3 : PyData.weight (.int (bi b)) ≤ 1 := by
      cases b <;> simp only [PyData.weight] <;> decide
    refine ⟨?_, ?_, ?_, ?_⟩
    · simp only [List.map_cons, PyData.showableAll, s1, h1, Bool.and_self]
    · simp only [List.map_cons, PyData.hasDictAll, PyData.hasDict, h2, Bool.or_self]
    · simp only [List.map_cons, PyData.leavesShortAll, s2, h3, Bool.and_self]
    · simp only [List.map_cons, PyData.weightAll, List.length_cons]
      omega
theorem sh_rows : ∀ fs : List (List Bool), (∀ c ∈ fs, c.length ≤ 8) → PyData.showableAll (fs.map fun c => bT c) = true ∧ PyData.hasDictAll (fs.map fun c => bT c) = false ∧ PyData.leavesShortAll 8 (fs.map fun c => bT c) = true ∧ PyData.weightAll (fs.map fun c => bT c) ≤ 17 * fs.length
  | [], _ => ⟨by simp [PyData.showableAll], by simp [PyData.hasDictAll], by simp [PyData.leavesShortAll], by simp [PyData.weightAll]⟩
  | c :: fs, h => by
    obtain ⟨h1, h2, h3, h4⟩ := sh_rows fs fun x hx => h x (List.mem_cons_of_mem _ hx)
    obtain ⟨g1, g2, g3, g4⟩ := sh_bits c
    have hl := h c List.mem_cons_self
    refine ⟨?_, ?_, ?_, ?_⟩
    · simp only [List.map_cons, PyData.showableAll, PyData.showable, g1, h1, Bool.and_self]
    · simp only [List.map_cons, PyData.hasDictAll, PyData.hasDict, g2, h2, Bool.or_self]
    · simp only [List.map_cons, PyData.leavesShortAll, PyData.leavesShort, g3, h3, Bool.and_self]
    · simp only [List.map_cons, PyData.weightAll, PyData.weight, List.length_cons]
      omega
theorem dep_bT : ∀ fs : List (List Bool), PyData.depthAll (fs.map fun c => bT c) ≤ 1 := fun fs => by
  have := dep_rows (fs.map fun c => c.map bi)
  rwa [List.map_map] at this
theorem repr_rows {K : Kx} {w : Wd} {fs : List (List Bool)} (hl : ∀ c ∈ fs, c.length ≤ 8) (hn : fs.length ≤ 16) : CaD K w (NbR.rRepr K) [.d (tpD fs)] (fun z => z = .d (.str (tpD fs).shown)) := by
  obtain ⟨h1, h2, h3, h4⟩ := sh_rows fs hl
  refine ca_repr (.inl ⟨_, rfl⟩) (by simp only [PyData.showable]; exact h1) (by simp only [PyData.hasDict]; exact h2) (PyData.shown_fits (B := 8) (by decide) (by decide) (by simp only [PyData.leavesShort]; exact h3) (by simp only [PyData.weight]; omega)) ?_
  have := dep_bT fs
  simp only [PyData.depth]
  omega
theorem repr_bool {K : Kx} {w : Wd} {v : Bool} : CaD K w (NbR.rRepr K) [.d (.bool v)] (fun z => z = .d (.str (PyData.bool v).shown)) :=
  ca_repr (.inr ⟨_, rfl⟩) (by simp only [PyData.showable]) (by simp only [PyData.hasDict]) (by rw [PyData.shown_bool]; cases v <;> decide +kernel) (by simp only [PyData.depth]; decide)
theorem shaped_tp (fs : List (List Bool)) : SeqAt.shaped (tpD fs) = true := by
  have := shaped_rowsT (fs.map fun c => c.map bi)
  rwa [List.map_map] at this
/-! the known heap without tables -/
def strip (G : Hp) : Hp := fun b => match G b with
  | some (.tbl _) => none
  | o => o
theorem strip_some {G : Hp} {b : Addr} {o : HO} (h : strip G b = some o) : G b = some o ∧ ∀ ps, o ≠ .tbl ps := by
  unfold strip at h
  split at h
  · cases h
  · rename_i hno
    exact ⟨h, fun ps e => hno ps (by rw [h, e])⟩
theorem strip_of {G : Hp} {b : Addr} {o : HO} (h : G b = some o) (hn : ∀ ps, o ≠ .tbl ps) : strip G b = some o := by
  unfold strip
  rw [h]
  cases o with
  | tbl ps => exact absurd rfl (hn ps)
  | _ => rfl
theorem strip_l {K : Kx} {G : Hp} {a : Addr} {xs : List V} (h : SqL K G a xs) : SqL K (strip G) a xs := by
  rcases h with (h | ⟨o, h⟩) | h
  · exact .inl (.inl (strip_of h fun ps e => by cases e))
  · exact .inl (.inr ⟨o, strip_of h fun ps e => by cases e⟩)
  · exact .inr h
theorem strip_t {K : Kx} {G : Hp} {a : Addr} {xs : List V} (h : SqT K G a xs) : SqT K (strip G) a xs := by
  rcases h with (h | ⟨o, h⟩) | h
  · exact .inl (.inl (strip_of h fun ps e => by cases e))
  · exact .inl (.inr ⟨o, strip_of h fun ps e => by cases e⟩)
  · exact .inr h
mutual
theorem dp_strip {K : Kx} {G : Hp} : ∀ (d : PyData) (v : V), Dp K G v d → Dp K (strip G) v d
  | .none, _, h => by cases h; exact .non
  | .bool b, _, h => by cases h; exact .bl b
  | .int i, _, h => by cases h; exact .int i
  | .str x, _, h => by cases h; exact .str x
  | .list ds, _, h => by
    cases h with
    | lst h1 h2 => exact .lst (strip_l h1) (dp_strips ds _ h2)
  | .tuple ds, _, h => by
    cases h with
    | tup h1 h2 => exact .tup (strip_t h1) (dp_strips ds _ h2)
  | .dict ks, _, h => by cases h
theorem dp_strips {K : Kx} {G : Hp} : ∀ (ds : List PyData) (vs : List V), DpAll K G vs ds → DpAll K (strip G) vs ds
  | [], _, h => by cases h; exact .nil
  | d :: ds, _, h => by
    cases h with
    | cons h1 h2 => exact .cons (dp_strip d _ h1) (dp_strips ds _ h2)
end
theorem dr_strip {K : Kx} {G : Hp} {v : V} {d : Da} (h : Dr K G v d) : Dr K (strip G) v d := by
  cases d with
  | d x => exact dp_strip x v h
  | ob a => exact h
  | mk gs =>
    obtain ⟨x, dx, u, h1, h2, h3⟩ := h
    exact ⟨x, dx, u, h1, strip_of h2 (fun ps e => by cases e), dp_strip gs u h3⟩
theorem sl_strip {K : Kx} {G : Hp} {σ : L2.St} {δ : Ds} (s : Sl K G σ δ) : Sl K (strip G) σ δ := ⟨s.len, fun i d h => let ⟨v, a, b⟩ := s.at_ i d h; ⟨v, a, dr_strip b⟩⟩
theorem at_strip {K : Kx} {w : Wd} {G H H1 : Hp} (a : At K w G H) (e : LamX.ExtN H H1) : At K ⟨[], none⟩ (strip G) H1 :=
  ⟨fun b o h => let ⟨h1, h2⟩ := strip_some h; e b o (a.ex b o h1) h2, fun p hp => absurd hp (by simp), by simp, fun q hq => nomatch hq⟩
end Nb
end
section
set_option Elab.async false
set_option linter.all false
set_option maxRecDepth 100000
set_option maxHeartbeats 4000000
/-! law: the walk through its body. -/
namespace Nb
open PySem L2
local macro_rules | `(tactic| walk_at "nb_isi") => `(tactic| first | exact isi_ii | exact isi_ib | exact isi_ss | exact isi_tt | exact isi_ll | exact isi_lt)
local macro_rules | `(tactic| walk_at "nb_side") => `(tactic| first | assumption | (show CMul _ _; first | exact Or.inr ⟨by decide, by decide⟩ | exact Or.inl ⟨by decide, by decide⟩ | exact Or.inr ⟨by omega, by omega⟩ | exact Or.inl ⟨by omega, by omega⟩) | (show CDiv _ _; exact ⟨by omega, by omega⟩) | (show CPow _ _; exact ⟨by omega, by omega, by omega⟩) | decide | omega | rfl)
local macro_rules | `(tactic| walk_at "nb_ev") => `(tactic| first
  | exact ev_var rfl
  | exact ev_int
  | exact ev_str
  | exact ev_bl
  | exact ev_non
  | (refine' ev_isi ?h1 ?h2; (case h1 => walk_at "nb_ev"); (case h2 => walk_at "nb_isi"))
  | (refine' ev_isi2 ?h1 ?h2 ?h3; (case h1 => walk_at "nb_ev"); (case h2 => walk_at "nb_isi"); (case h3 => walk_at "nb_isi"))
  | (refine' ev_ii ?h1 ?h2; (case h1 => walk_at "nb_ev"); (case h2 => walk_at "nb_ev"))
  | (refine' ev_ib ?h1 ?h2; (case h1 => walk_at "nb_ev"); (case h2 => walk_at "nb_ev"))
  | (refine' ev_iiC ?h1 ?h2 ?h3; (case h1 => walk_at "nb_ev"); (case h2 => walk_at "nb_ev"); (case h3 => walk_at "nb_side"))
  | (refine' ev_eqI ?h1 ?h2; (case h1 => walk_at "nb_ev"); (case h2 => walk_at "nb_ev"))
  | (refine' ev_neI ?h1 ?h2; (case h1 => walk_at "nb_ev"); (case h2 => walk_at "nb_ev"))
  | (refine' ev_eqS ?h1 ?h2; (case h1 => walk_at "nb_ev"); (case h2 => walk_at "nb_ev"))
  | (refine' ev_neS ?h1 ?h2; (case h1 => walk_at "nb_ev"); (case h2 => walk_at "nb_ev"))
  | (refine' ev_neg ?h1; (case h1 => walk_at "nb_ev"))
  | (refine' ev_andV ?h1 (fun _ => ?h2); (case h1 => walk_at "nb_ev"); (case h2 => walk_at "nb_ev"))
  | (refine' ev_orV ?h1 (fun _ => ?h2); (case h1 => walk_at "nb_ev"); (case h2 => walk_at "nb_ev"))
  | (refine' ev_notV ?h1; (case h1 => walk_at "nb_ev"))
  | walk_at "nb_call")
local macro_rules | `(tactic| walk_at "nb") => `(tactic| (refine' Ev.is ?h ?e; (case h => walk_at "nb_ev"); (try rfl)))
local macro_rules | `(tactic| walk_at "nb_ea") => `(tactic| first | exact ea_nil | (refine' ea_cons ?h1 ?h2; (case h1 => walk_at "nb_ev"); (case h2 => walk_at "nb_ea")))
def G0 (H : Hp) (Pt : Addr) : Hp := fun b => if b = Pt then none else H b
theorem at_G0 {K : Kx} {H : Hp} {Pt : Addr} (h : H Pt = some (.tbl #[])) : At K ⟨[(Pt, .raw (.tbl #[]))], none⟩ (G0 H Pt) H := by
  refine ⟨fun b o hb => ?_, fun p hp => ?_, by simp, fun q hq => nomatch hq⟩
  · unfold G0 at hb
    split at hb
    · cases hb
    · exact hb
  · rw [List.mem_singleton.mp hp]
    exact ⟨if_pos rfl, h⟩
theorem sl_G0 {K : Kx} {H : Hp} {Pt a : Addr} {sc : List Int} (hP : H Pt = some (.tbl #[])) (h : SqL K H a (sc.map V.int)) : Dr K (G0 H Pt) (.ref a) (.d (.list (sc.map PyData.int))) := by
  have hne : ∀ o, H a = some o → (∀ ps, o ≠ .tbl ps) → G0 H Pt a = some o := fun o e n => by
    unfold G0
    rw [if_neg]
    · exact e
    · intro z
      rw [z, hP] at e
      exact n _ (Option.some.inj e).symm
  refine Dp.lst (xs := sc.map V.int) ?_ (dpAll_ints sc)
  rcases h with (h | ⟨o, h⟩) | h
  · exact .inl (.inl (hne _ h fun ps e => by cases e))
  · exact .inl (.inr ⟨o, hne _ h fun ps e => by cases e⟩)
  · exact .inr h
theorem eqv_tp (fs : List (List Bool)) : PyData.eqv (tpD fs) (tpD fs) = true := by
  have h := shaped_tp fs
  unfold SeqAt.shaped at h
  simp only [Bool.and_eq_true] at h
  exact PySem.SeqAt.eqv_refl _ h.1
theorem od_eqS {K : Kx} {w : Wd} {x y : Str} : OpD K w rEq (.d (.str x)) (.d (.str y)) (fun z => z = .d (.bool (decide (x = y)))) := fun v u G H hv hu a Q q => by
  cases (show Dp K G v (.str x) from hv)
  cases (show Dp K G u (.str y) from hu)
  refine ⟨rfl, q _ G H (.d (.bool (decide (x = y)))) (Evl.Ex.refl G) a (show Dp K G _ (.bool (decide (x = y))) from ?_) rfl⟩
  rw [dec_str, Bool.beq_eq_decide_eq]
  exact .bl _
theorem ttw_call {K : Kx} {w : Wd} {δ : Ds} {α : Type} {enc : α → List Da} {pre : Wd → α → Prop} {wd : α → Str} {ta : TA} {σ : L2.St} {G H : Hp} {Q : VK} (a : α) (h : EvA1 K w ta δ (enc a)) (hp : pre w a) (s : Sl K G σ δ) (a0 : At K w G H) (k : ∀ G4 H4, Ex G G4 → At K w G4 H4 → Q (.str (wd a)) H4) :
    TTw K (fun E H' Q' => tCall (spX K enc pre wd) [] E ta σ H' Q') H Q := by
  unfold TTw tCall
  refine h σ G H s a0 _ fun vs G3 H3 ds e3 a3 r3 h3 => ?_
  subst h3
  rw [List.append_nil]
  exact ⟨_, G3, a, a3, r3, hp, fun dx G4 H4 e4 a4 hd => ⟨rfl, dx, wd a, rfl, a4.ex dx _ hd, k G4 H4 (Evl.Ex.trans e3 e4) a4⟩⟩
/-- the world of the law behind its first line -/
abbrev wL (Pt hh l : Addr) : Wd := ⟨[(Pt, .raw (.tbl #[]))], some ⟨hh, l, none⟩⟩
theorem law_run {P : Program} {w0 : World} {K : Kx} {mg : Str → Option Value} {base : Heap} (T : Tx K mg) (M : MkT K mg) (Z : SzM P K mg) (h__law_closed : OK_law_closed P w0 K mg base) (h__law_draw : OK_law_draw P w0 K mg base) (h__law_gates : OK_law_gates P w0 K mg base) (h__law_heap : OK_law_heap P w0 K mg base) (h__law_made : OK_law_made P w0 K mg base) (h__law_pick : OK_law_pick P w0 K mg base) (h__law_table : OK_law_table P w0 K mg base) (h_can_make : OK_can_make P w0 K mg base) (h_made_tables : OK_made_tables P w0 K mg base) (h_put_table : OK_put_table P w0 K mg base) (h_Make : OK_Make P w0 K mg base) (hE : OKE_made_tables P w0 K mg base)
    {f c Pt a : Addr} {kV doc pm ct oc : Value} {an od : Option Addr} {osl : Array (Option Value)} {s : Shared} {H : Hp} {sc : List Int}
    (lk : K.lookup f = some ⟨oc, od, .func (PySem.W.fnOf "law" "law" (defArgs s_law) (defBody s_law) (defScope s_law) .none kV doc pm an (.ref c) ct), osl⟩) (hcd : PySem.W.codeIn K (.ref c) "law" = true)
    (TB : LamX.TabB base mg c Pt) (e0 : Env0 P w0 K mg base callerA [] s H) (hP : H Pt = some (.tbl #[])) (hS : SqL K H a (sc.map V.int)) :
    codeAny (model P w0) callerA (.call (.ref f) ⟨[.ref a], []⟩) (CR CX0 [] P w0 H s (fun v _ => v = .bl true) (fun _ _ _ => False)) s := by
  obtain ⟨fdM, FM, BM⟩ := h_Make
  obtain ⟨g_made_tables, k_made_tables, fdm, F_made_tables, _, lkm⟩ := id h_made_tables
  have kb_made_tables := kb_made T.d_made_tables lkm
  obtain ⟨gE, kE, fdE, FE, BE⟩ := hE
  obtain ⟨gS, fdS, FDS⟩ := T.d_law_size
  have kS := FDS.kp
  have bS := FDS.bindsN bi_law_size
  obtain ⟨ocS, odS, dVS, kVS, docS, pmS, anS, cdvS, ctS, oslS, eS, lkS, cdS, _, _⟩ := FDS.ex
  subst eS
  have vS : Vis (defScope s_law_size) "_law_work" := .inl rfl
  have lamU : ∀ p ∈ [(Pt, ("law.<locals>.<lambda>" : Str))], p.1 = Pt → p.2 = ("law.<locals>.<lambda>" : Str) := fun p hp _ => by rw [List.mem_singleton.mp hp]
  have hb : BindsTo s (PySem.W.fnOf "law" "law" (defArgs s_law) (defBody s_law) (defScope s_law) .none kV doc pm an (.ref c) ct) ⟨[.ref a], []⟩ ((["_law_script"] : List Str).zip [.ref a]) := .of_eq (bi_law kV doc pm an (.ref c) ct [.ref a] rfl)
  refine LamX.run_ofS (k := 11) (N := N_law) (ps := ["_law_script"]) (us := [.ref a]) (vs := [.ref a]) lk hcd sc_law ⟨rfl, by decide, by decide⟩ e0 hb (.cons rfl .nil) rfl fun hr => ⟨_, PSs.nox (pss_cons (ps_set (i := 1) sc_law.nd rfl (Or.inr rfl) (pe_f h__law_heap hr (pa_cons (pv 0) (pa_cons pe_int pa_nil))))
      (pss_cons (ps_set (i := 2) sc_law.nd rfl (Or.inl rfl) (pe_f h__law_gates hr (pa_cons (pv 1) (pa_cons (pe_f h__law_pick hr (pa_cons (pv 1) (pa_cons (pe_lst (pa_cons pe_int (pa_cons pe_int (pa_cons pe_int (pa_cons pe_int pa_nil))))) pa_nil))) pa_nil))))
      (pss_cons (ps_set (i := 3) sc_law.nd rfl (Or.inr rfl) (pe_make M.mk_ FM (hr.mono (by decide)) rfl M.at_ BM .nil pass0 (pa_cons (pv 2) pa_nil)))
      (pss_cons (ps_for PassesOwn.never rfl (pi_list (pe_lst (pa_cons pe_int (pa_cons pe_int pa_nil)))) (pg_name (i := 4) sc_law.nd rfl (Or.inl rfl)) (pss_cons (ps_set (i := 5) sc_law.nd rfl (Or.inr rfl) (pe_tupleOf rfl T.b_tuple (pe_f h__law_closed hr (pa_cons (pv 2) (pa_cons (pv 4) pa_nil)))))
      (pss_cons (ps_if (PW.pt (pw_or (pt_cmpR op_ne (pe_callB (NbR.call_repr rfl hr.units) (by rfl) T.b_repr (by decide +kernel) (pa_cons (pe_f h_made_tables hr (pa_cons (pv 3) (pa_cons (pv 4) pa_nil))) pa_nil)) (pe_callB (NbR.call_repr rfl hr.units) (by rfl) T.b_repr (by decide +kernel) (pa_cons (pv 5) pa_nil)) (nomark _)) (pw_or1 (pt_cmpR (op_neD hr.units) (pe_callK0 F_made_tables (hr.mono (by decide)) rfl g_made_tables k_made_tables kb_made_tables pass0 (pk_cons (pv 3) (pk_cons (pv 4) pk_nil))) (pv 5) (nomark _))))) (pss_one (ps_ret pe_bl)) pss_nil)
      (pss_cons (ps_for PassesOwn.never rfl (pi_range1 rfl T.b_range (pa_cons pe_int pa_nil)) (pg_name (i := 6) sc_law.nd rfl (Or.inl rfl)) (pss_cons (ps_set (i := 7) sc_law.nd rfl (Or.inl rfl) (pe_f h__law_table hr (pa_cons (pv 1) (pa_cons (pv 4) (pa_cons (pe_f h__law_draw hr (pa_cons (pv 1) (pa_cons pe_int pa_nil))) pa_nil)))))
      (pss_one (ps_if (pt_cmpR op_ne (pe_callB (NbR.call_repr rfl hr.units) (by rfl) T.b_repr (by decide +kernel) (pa_cons (pe_f h_can_make hr (pa_cons (pv 3) (pa_cons (pv 7) pa_nil))) pa_nil)) (pe_callB (NbR.call_repr rfl hr.units) (by rfl) T.b_repr (by decide +kernel) (pa_cons (pe_cmpR (NbR.op_inA (u65 hr)) (pv 7) (pv 5) (by rfl)) pa_nil)) (nomark _)) (pss_one (ps_ret pe_bl)) pss_nil))))
      (pss_cons (ps_set (i := 8) sc_law.nd rfl (Or.inl rfl) (pe_f h__law_made hr (pa_cons (pv 1) (pa_cons (pv 2) (pa_cons pe_int (pa_cons pe_int pa_nil))))))
      (pss_cons (ps_setLc (i := 9) (own := [("_law_turn", 6)]) (g := (gName 6)) (tt := tYes) rfl sc_law.nd rfl rfl (sw_true rfl rfl rfl (by decide +kernel)) (pi_range1 rfl T.b_range (pa_cons pe_int pa_nil)) (blkOk_by (N := N_law) (sc := (defScope s_law)) (by decide +kernel)) (fun _ _ _ _ _ => (pg_name (i := 6) sc_law.nd rfl (Or.inl rfl))) (fun _ _ _ _ _ => pts_nil) (fun _ _ _ _ _ => (pe_f h__law_pick hr (pa_cons (pv 1) (pa_cons (pv 5) pa_nil)))))
      (pss_one (ps_if (PW.pt (pw_or (pt_cmpR (NbR.op_notInA (u65 hr)) (pe_f h_put_table hr (pa_cons (pv 8) (pa_cons (pv 9) pa_nil))) (pv 5) (by rfl)) (pw_or1 (pt_not (pt_val (pe_f h_can_make hr (pa_cons (pv 3) (pa_cons (pv 8) pa_nil)))))))) (pss_one (ps_ret pe_bl)) pss_nil))))))))
      (pss_cons (ps_set (i := 10) sc_law.nd rfl (Or.inr rfl) (pe_f h__law_pick hr (pa_cons (pv 1) (pa_cons (pe_lst (pa_cons pe_int (pa_cons pe_int (pa_cons (pe_un un_neg pe_int) (pa_cons (pe_op op_add pe_int (pe_f h__law_draw hr (pa_cons (pv 1) (pa_cons pe_int pa_nil)))) pa_nil))))) pa_nil))))
      (pss_one (ps_ret (pe_and (pe_cmpR op_eq (LamX.pe_lamcall (T := [(Pt, "law.<locals>.<lambda>")]) (TT := TTw K) (k := 9) (Ng := N_law_size) rfl gS kS lkS cdS bS sc_law_size rfl vS (size_gives Z) TB rfl List.mem_cons_self lamU hr (LamX.lamS_by (sc := defScope s_law) (by decide +kernel)) rfl (fun _ _ _ _ _ => rfl) (fun A outer s H E f c' hr' => pe_call FE (hr'.mono (by decide)) rfl gE kE BE .nil (passes_call (takes_of rfl rfl rfl rfl) (fun _ _ _ _ h => h)) (pa_cons (pv 3) (pa_cons (pv 10) pa_nil)))) pe_str (nomark _)) (pe_one (pe_cmpR (op_eqD hr.units) (pe_f h_made_tables hr (pa_cons (pv 3) (pa_cons pe_int pa_nil))) (pv 5) (nomark _))))))))))), ?_⟩
  suffices Run K (G0 H Pt) ⟨[(Pt, .raw (.tbl #[]))], none⟩ { nx := fun _ _ => V.non = .bl true, rt := fun v _ => v = .bl true } _ (startD N_law [.d (.list (sc.map PyData.int))]) from this _ _ _ (Evl.Ex.refl _) (sl_start (.cons (sl_G0 hP hS) .nil)) (at_G0 hP)
  refine run_asgHeap rfl (by walk_at "nb_ea") fun hh l => ?_
  show Run K (G0 H Pt) (wL Pt hh l) _ _ _
  have hw : Un (wL Pt hh l) (hh, l) := rfl
  refine run_asg (R := fun z => ∃ gs : List Gt, z = .d (.list (gs.map gD)) ∧ 1 ≤ gs.length ∧ gs.length ≤ 3 ∧ (∀ g ∈ gs, NameOk g.1) ∧ (gs.map (·.1)).Nodup) ?_ ?_
  · refine ev_call (L := fun xs => ∃ n : Int, 1 ≤ n ∧ n ≤ 3 ∧ xs = [.ob hh, .d (.int n)]) (ea_consN (R := fun z => z = .ob hh) (L := fun xs => ∃ n : Int, 1 ≤ n ∧ n ≤ 3 ∧ xs = [.d (.int n)]) (ev_var rfl) (ea_consN (R := fun z => ∃ n : Int, 1 ≤ n ∧ n ≤ 3 ∧ z = .d (.int n)) (L := fun xs => xs = []) ?_ ea_nil ?_) ?_) ?_
    · refine Ev.imp (ev_call1 ((hh, l), (Da.d (.list [.int 1, .int 2, .int 2, .int 3]), [.int 1, .int 2, .int 2, .int 3])) (ea_cons (ev_var rfl) (ea_cons (ev_lst (xs := [.int 1, .int 2, .int 2, .int 3]) (by walk_at "nb_ea")) ea_nil)) (pkp hw (.inl rfl) (by simp) (by simp)) fun z e => e) ?_
      rintro z ⟨y, e, hy⟩
      simp only [List.mem_cons, List.not_mem_nil, or_false] at hy
      rcases hy with rfl | rfl | rfl | rfl
      · exact ⟨1, by decide, by decide, e⟩
      · exact ⟨2, by decide, by decide, e⟩
      · exact ⟨2, by decide, by decide, e⟩
      · exact ⟨3, by decide, by decide, e⟩
    · rintro x r ⟨n, h1, h2, rfl⟩ rfl
      exact ⟨n, h1, h2, rfl⟩
    · rintro x r rfl ⟨n, h1, h2, rfl⟩
      exact ⟨n, h1, h2, rfl⟩
    · rintro xs ⟨n, h1, h2, rfl⟩
      exact ⟨((hh, l), n), rfl, ⟨hw, h1, h2⟩, fun z e => e⟩
  rintro z ⟨gs, rfl, l1, l3, nm, nd⟩
  refine run_asgMake (gs := gs) (by walk_at "nb_ea") ⟨l1, by omega, nm, nd⟩ ?_
  refine run_forL (xs := [.int 1, .int 2]) (fun i w' δ' => ∃ o4 o5 o6 o7 o8 o9, w' = wL Pt hh l ∧ (i = 2 → ∃ fs, o5 = some (.d (tpD fs)) ∧ Clos gs 2 fs) ∧ δ' = [some (.d (.list (sc.map PyData.int))), some (.ob hh), some (.d (.list (gs.map gD))), some (.mk (gsD gs)), o4, o5, o6, o7, o8, o9, none])
    (ev_lst (xs := [.int 1, .int 2]) (by walk_at "nb_ea")) ⟨_, _, _, _, _, _, rfl, by simp, rfl⟩ ?_ ?_
  · rintro i x w' δ' b' hx ⟨o4, o5, o6, o7, o8, o9, rfl, _, rfl⟩ hb
    obtain ⟨k, hk, rfl, hik⟩ : ∃ k : Nat, (k = 1 ∨ k = 2) ∧ x = .int (k : Int) ∧ (i + 1 = 2 → k = 2) := by
      match i, hx with
      | 0, hx => cases hx; exact ⟨1, .inl rfl, rfl, by simp⟩
      | 1, hx => cases hx; exact ⟨2, .inr rfl, rfl, by simp⟩
    refine ⟨_, tg_name, ?_⟩
    have hk3 : k ≤ 3 := by omega
    refine run_asg (R := fun z => ∃ xs, z = .d (.tuple xs) ∧ ∃ fs, xs = fs.map (fun c => bT c) ∧ Clos gs k fs) (ev_tupleN (ev_call1 (CoA.mk gs k) (by walk_at "nb_ea") ⟨hk, by show gs.length ≤ 100; omega⟩ fun z ⟨fs, e, c⟩ => ⟨_, e, fs, rfl, c⟩)) ?_
    rintro z ⟨xs, rfl, fs, rfl, C⟩
    have hfs := C.made hk hk3 l1
    have hlen : ∀ c ∈ fs, c.length = 2 ^ k := fun c hc => (C.cl c hc).len
    have h8 : ∀ c ∈ fs, c.length ≤ 8 := fun c hc => by rw [hlen c hc]; exact pow3 hk3
    have hn16 : fs.length ≤ 16 := by
      have e : fs.length ≤ (tbL k hk3).length := by
        rw [hfs, List.length_map]
        exact List.length_filter_le _ _
      refine Nat.le_trans e ?_
      rcases hk with rfl | rfl <;> simp [tbL]
    have hge : 1 ≤ fs.length := List.length_pos_of_mem (C.pj 0 (by omega))
    have hmade : Da.d (.tuple ((madeL k (k12 ⟨k, hk⟩) (kindsAll (gs.map (·.2)))).map fun t => bT t.t)) = .d (tpD fs) := by
      show _ = Da.d (.tuple (fs.map fun c => bT c))
      rw [hfs, List.map_map]
      rfl
    refine run_ifF ?_ (run_skip ?_)
    · refine EvT.is (et_or (b := false) (c := false) (et_test1 ?_) fun _ => et_test1 ?_) rfl
      · refine Ev.is (ev_neS (ev_CB1 (ea_cons (ev_call1 (gs, ⟨k, hk⟩) (by walk_at "nb_ea") (by show gs.length ≤ 100000; omega) fun z e => e.trans hmade) ea_nil) (repr_rows h8 hn16)) (ev_CB1 (ea_cons (ev_var rfl) ea_nil) (repr_rows h8 hn16))) (by simp)
      · refine Ev.is (ev_op1 (ev_callK0 (gs, ⟨k, hk⟩) (by walk_at "nb_ea") (by show gs.length ≤ 100000; omega) fun z e => e.trans hmade) (ev_var rfl) (od_neD (shaped_tp fs) (shaped_tp fs))) (by rw [eqv_tp]; rfl)
    · refine run_forR (n := 4) (fun j w' δ' => ∃ o6 o7, w' = wL Pt hh l ∧ δ' = [some (.d (.list (sc.map PyData.int))), some (.ob hh), some (.d (.list (gs.map gD))), some (.mk (gsD gs)), some (.d (.int (k : Int))), some (.d (tpD fs)), o6, o7, o8, o9, none]) (by walk_at "nb_ea") (by decide) ⟨_, _, rfl, rfl⟩ ?_ ?_
      · rintro j w' δ' b2 hj ⟨o6, o7, rfl, rfl⟩ hb2
        refine ⟨_, tg_name, ?_⟩
        refine run_asg (R := fun z => ∃ t : Tb, t.k = k ∧ z = .d (bT t.t)) ?_ ?_
        · refine ev_call (L := fun xs => ∃ n : Int, xs = [.ob hh, .d (.int (k : Int)), .d (.int n)]) (ea_consN (R := fun z => z = .ob hh) (L := fun xs => ∃ n : Int, xs = [.d (.int (k : Int)), .d (.int n)]) (ev_var rfl) (ea_consN (R := fun z => z = .d (.int (k : Int))) (L := fun xs => ∃ n : Int, xs = [.d (.int n)]) (ev_var rfl) (ea_consN (R := fun z => ∃ n : Int, z = .d (.int n)) (L := fun xs => xs = []) (ev_call1 ((hh, l), 13) (by walk_at "nb_ea") (drp hw (by decide) (by decide)) fun z ⟨i, e, _⟩ => ⟨i, e⟩) ea_nil ?_) ?_) ?_) ?_
          · rintro x r ⟨n, rfl⟩ rfl
            exact ⟨n, rfl⟩
          · rintro x r rfl ⟨n, rfl⟩
            exact ⟨n, rfl⟩
          · rintro x r rfl ⟨n, rfl⟩
            exact ⟨n, rfl⟩
          · rintro xs ⟨n, rfl⟩
            exact ⟨((hh, l), (⟨k, hk3⟩, n)), rfl, hw, fun z e => e⟩
        · rintro z ⟨⟨tk, tt, h3, hl⟩, ht, rfl⟩
          have ht : tk = k := ht
          subst ht
          have hm := C.mem hk h3 l1 hl
          have hcan : ((kindsAll (gs.map (·.2))).all (isOf ⟨tk, tt, h3, hl⟩)) = decide (tt ∈ fs) := by
            rw [Bool.eq_iff_iff, decide_eq_true_iff]
            exact hm.symm
          refine run_tail (run_ifF ?_ (run_skip (run_nx ⟨_, _, rfl, rfl⟩)))
          refine et_test1 (Ev.is (ev_neS (ev_CB1 (ea_cons (ev_call1 (gs, ⟨tk, tt, h3, hl⟩) (by walk_at "nb_ea") ⟨by show gs.length ≤ 100000; omega, by show 1 ≤ tk; omega⟩ fun z e => e) ea_nil) repr_bool) (ev_CB1 (ea_cons (ev_op1 (ev_var rfl) (ev_var rfl) (od_in (.inr rfl) (shaped_iT _) (shaped_rw fs))) ea_nil) repr_bool)) ?_)
          rw [any_bT, hcan]
          simp
      · rintro w' δ' ⟨o6, o7, rfl, rfl⟩
        refine run_asg (R := fun z => ∃ c, z = .d (bT c) ∧ Cl gs 3 c) (ev_call1 (MaA.mk (hh, l) gs 3 3) (by walk_at "nb_ea") ⟨hw, by show 1 ≤ 3; decide, by show 3 ≤ 3; decide, l1, by show gs.length ≤ 100; omega, by show 3 ≤ 100; decide⟩ fun z e => e) ?_
        rintro z ⟨c, rfl, hc⟩
        refine run_asg (R := fun z => ∃ ts : List (List Bool), z = .d (.list (ts.map fun c => bT c)) ∧ ts.length = 3 ∧ ∀ t ∈ ts, t ∈ fs) ?_ ?_
        · refine Ev.imp (ev_lcR (n := 3) (fun i acc => ∃ ts : List (List Bool), acc = ts.map (fun c => bT c) ∧ ts.length = i ∧ ∀ t ∈ ts, t ∈ fs) wipes_name (by walk_at "nb_ea") (by decide) ⟨[], rfl, rfl, by simp⟩ ?_) ?_
          · rintro j acc w' hj ⟨ts, rfl, tl, tm⟩ hw'
            refine ⟨_, fun x => x = true, tg_name, et_yes, (fun h => nomatch h), fun _ => ?_⟩
            refine Ev.imp (ev_call1 ((hh, l), (Da.d (tpD fs), fs.map fun c => bT c)) (by walk_at "nb_ea") (pkp (show Un w' (hh, l) from hw'.trans hw) (.inr (.inl rfl)) (by rw [List.length_map]; exact hge) (by rw [List.length_map]; omega)) fun z e => e) ?_
            rintro z ⟨y, e, hy⟩
            obtain ⟨c2, hc2, rfl⟩ := List.mem_map.mp hy
            refine ⟨_, e, ts ++ [c2], by rw [List.map_append]; rfl, by rw [List.length_append, tl]; rfl, fun t ht => ?_⟩
            rcases List.mem_append.mp ht with ht | ht
            · exact tm t ht
            · rw [List.mem_singleton.mp ht]
              exact hc2
          · rintro z ⟨ys, e, ts, rfl, tl, tm⟩
            exact ⟨ts, e, tl, tm⟩
        · rintro z ⟨ts, rfl, tl, tm⟩
          have hput : putL c ts k ∈ fs := put_in hk hk3 l1 C hc tl tm
          have hcall := hc.all (by decide)
          refine run_tail (run_ifF ?_ (run_skip (run_nx ⟨_, _, _, _, _, _, rfl, fun e => ⟨fs, rfl, by rw [← hik e]; exact C⟩, rfl⟩)))
          refine EvT.is (et_or (b := false) (c := false) (et_test1 ?_) fun _ => EvT.is (et_not (et_B1 (b := true) (ev_call1 (gs, ⟨3, c, by decide, hc.len⟩) (by walk_at "nb_ea") ⟨by show gs.length ≤ 100000; omega, by show 1 ≤ 3; omega⟩ fun z e => e.trans (by rw [hcall])))) rfl) rfl
          refine Ev.is (ev_op1 (ev_call1 (R := fun z => z = .d (bT (putL c ts k))) (PutA.mk ⟨3, c, by decide, hc.len⟩ (ts.attach.map fun t => ⟨k, t.1, hk3, hlen _ (tm _ t.2)⟩) k hk3 (by show 1 ≤ 3; decide) (by rw [List.length_map, List.length_attach]; exact tl) (fun t ht => by obtain ⟨u, _, rfl⟩ := List.mem_map.mp ht; rfl)) ?_ trivial ?_) (ev_var rfl) (od_notIn (.inr rfl) (shaped_iT _) (shaped_rw fs))) ?_
          · refine ea_cons (ev_var rfl) (ea_cons (Ev.is (ev_var rfl) ?_) ea_nil)
            show Da.d (.list _) = Da.d (.list _)
            rw [List.map_map, show ((fun t : Tb => bT t.t) ∘ fun t : {x // x ∈ ts} => (⟨k, t.1, hk3, hlen _ (tm _ t.2)⟩ : Tb)) = (fun c : List Bool => bT c) ∘ Subtype.val from rfl, ← List.map_map, List.attach_map_subtype_val]
          · rintro z rfl
            show Da.d (bT (nT (gateN c _ (fullN k)) k)) = _
            rw [List.map_map, show ((fun t : Tb => bN t.t) ∘ fun t : {x // x ∈ ts} => (⟨k, t.1, hk3, hlen _ (tm _ t.2)⟩ : Tb)) = bN ∘ Subtype.val from rfl, ← List.map_map, List.attach_map_subtype_val]
            rw [show nT (gateN c (ts.map bN) (fullN k)) k = putL c ts k from gateN_put (g := ⟨3, c, by decide, hc.len⟩) tl]
          · rw [any_bT, decide_eq_true hput]
            rfl
  · rintro w' δ' ⟨o4, o5, o6, o7, o8, o9, rfl, h5, rfl⟩
    obtain ⟨fs, rfl, C⟩ := h5 rfl
    refine run_asg (R := fun z => ∃ i : Int, z = .d (.int i) ∧ ¬(1 ≤ i ∧ i ≤ 2)) ?_ ?_
    · refine ev_call (L := fun xs => ∃ n : Int, 0 ≤ n ∧ n < 99 ∧ xs = [.ob hh, .d (.list [.int 0, .int 3, .int (-1), .int (3 + n)])]) (ea_consN (R := fun z => z = .ob hh) (L := fun xs => ∃ n : Int, 0 ≤ n ∧ n < 99 ∧ xs = [.d (.list [.int 0, .int 3, .int (-1), .int (3 + n)])]) (ev_var rfl) (ea_consN (R := fun z => ∃ xs, z = .d (.list xs) ∧ ∃ n : Int, 0 ≤ n ∧ n < 99 ∧ xs = [.int 0, .int 3, .int (-1), .int (3 + n)]) (L := fun xs => xs = []) (ev_lstN ?_) ea_nil ?_) ?_) ?_
      · refine ea_consN (R := fun z => z = .d (.int 0)) (L := fun xs => ∃ n : Int, 0 ≤ n ∧ n < 99 ∧ xs = [.d (.int 3), .d (.int (-1)), .d (.int (3 + n))]) ev_int (ea_consN (R := fun z => z = .d (.int 3)) (L := fun xs => ∃ n : Int, 0 ≤ n ∧ n < 99 ∧ xs = [.d (.int (-1)), .d (.int (3 + n))]) ev_int (ea_consN (R := fun z => z = .d (.int (-1))) (L := fun xs => ∃ n : Int, 0 ≤ n ∧ n < 99 ∧ xs = [.d (.int (3 + n))]) (ev_neg ev_int)
          (ea_consN (R := fun z => ∃ n : Int, 0 ≤ n ∧ n < 99 ∧ z = .d (.int (3 + n))) (L := fun xs => xs = []) (ev_op (R := fun z => z = .d (.int 3)) (R' := fun z => ∃ n, z = .d (.int n) ∧ 0 ≤ n ∧ n < 99) ev_int (ev_call1 ((hh, l), 99) (by walk_at "nb_ea") (drp hw (by decide) (by decide)) fun z e => e) ?_) ea_nil ?_) ?_) ?_) ?_
        · rintro x y rfl ⟨n, rfl, h0, h1⟩
          exact fun v u G H hv hu a Q q => odI0 (x := .int (3 + n)) (fun _ => .int _) v u G H hv hu a Q fun v' G' H' d' e' a' r' h' => q v' G' H' d' e' a' r' ⟨n, h0, h1, h'⟩
        · rintro x r ⟨n, h0, h1, rfl⟩ rfl
          exact ⟨n, h0, h1, rfl⟩
        · rintro x r rfl ⟨n, h0, h1, rfl⟩
          exact ⟨n, h0, h1, rfl⟩
        · rintro x r rfl ⟨n, h0, h1, rfl⟩
          exact ⟨n, h0, h1, rfl⟩
        · rintro x r rfl ⟨n, h0, h1, rfl⟩
          exact ⟨[.int 0, .int 3, .int (-1), .int (3 + n)], rfl, by simp, n, h0, h1, rfl⟩
      · rintro x r ⟨xs, rfl, n, h0, h1, rfl⟩ rfl
        exact ⟨n, h0, h1, rfl⟩
      · rintro x r rfl ⟨n, h0, h1, rfl⟩
        exact ⟨n, h0, h1, rfl⟩
      · rintro xs ⟨n, h0, h1, rfl⟩
        refine ⟨((hh, l), (Da.d (.list [.int 0, .int 3, .int (-1), .int (3 + n)]), [.int 0, .int 3, .int (-1), .int (3 + n)])), rfl, pkp hw (.inl rfl) (by simp) (by simp), ?_⟩
        rintro z ⟨y, e, hy⟩
        simp only [List.mem_cons, List.not_mem_nil, or_false] at hy
        rcases hy with rfl | rfl | rfl | rfl
        · exact ⟨_, e, by omega⟩
        · exact ⟨_, e, by omega⟩
        · exact ⟨_, e, by omega⟩
        · exact ⟨_, e, by omega⟩
    rintro z ⟨i, rfl, hi⟩
    have hfs := C.made (.inr rfl) (by decide) l1
    have hmade : Da.d (.tuple ((madeL 2 (k12 ⟨2, .inr rfl⟩) (kindsAll (gs.map (·.2)))).map fun t => bT t.t)) = .d (tpD fs) := by
      show _ = Da.d (.tuple (fs.map fun c => bT c))
      rw [hfs, List.map_map]
      rfl
    intro σ G1 H1 e1 s1 a1
    refine ⟨fun p hp => ?_, fun H2 eN T2 => ?_⟩
    · rw [List.mem_singleton.mp hp]
      exact LamX.TabS.nil (a1.hid (Pt, .raw (.tbl #[])) List.mem_cons_self).2
    have a2 : At K ⟨[], none⟩ (strip G1) H2 := at_strip a1 eN
    have s2 := sl_strip s1
    have hargs : EvA1 K ⟨[], none⟩ (tCons (tVar 3) (tCons (tVar 10) tNil)) (List.set [some (.d (.list (sc.map PyData.int))), some (.ob hh), some (.d (.list (gs.map gD))), some (.mk (gsD gs)), o4, some (.d (tpD fs)), o6, o7, o8, o9, none] 10 (some (Da.d (.int i)))) [.mk (gsD gs), .d (.int i)] := by walk_at "nb_ea"
    refine ttw_call (gsD gs, i) hargs hi s2 a2 fun G4 H4 e4 a4 => ?_
    refine (ev_str : Ev1 K ⟨[], none⟩ (tC (.str "many")) _ (.d (.str "many"))) σ G4 H4 (s2.ex e4) a4 _ fun v4 G4' H4' d4 e4' a4' r4 h4 => ?_
    subst h4
    cases (show Dp K G4' v4 (.str "many") from r4)
    refine od_eqS (V.str "many") (V.str "many") G4' H4' (show Dr K G4' _ (.d (.str "many")) from Dp.str _) (show Dr K G4' _ (.d (.str "many")) from Dp.str _) a4' _ fun v5 G5 H5 d5 e5 a5 r5 h5 => ?_
    subst h5
    cases (show Dp K G5 v5 (.bool _) from r5)
    refine ⟨true, rfl, ?_⟩
    have hb : Ev1 K ⟨[], none⟩ (tOp (rEqD K) (tCall (spW K (fun (p : List Gt × {k : Nat // k = 1 ∨ k = 2}) => [.mk (gsD p.1), .d (.int (p.2.1 : Int))]) (fun _ p => p.1.length ≤ 100000) (fun p z => z = .d (.tuple ((madeL p.2.1 (k12 p.2) (kindsAll (p.1.map (·.2)))).map fun t => bT t.t)))) [] E0 (tCons (tVar 3) (tCons (tC (.int 2)) tNil))) (tVar 5)) (List.set [some (.d (.list (sc.map PyData.int))), some (.ob hh), some (.d (.list (gs.map gD))), some (.mk (gsD gs)), o4, some (.d (tpD fs)), o6, o7, o8, o9, none] 10 (some (Da.d (.int i)))) (.d (.bool true)) :=
      Ev.is (ev_op1 (ev_call1 (gs, ⟨2, .inr rfl⟩) (by walk_at "nb_ea") (by show gs.length ≤ 100000; omega) fun z e => e.trans hmade) (ev_var rfl) (od_eqD (shaped_tp fs) (shaped_tp fs))) (by rw [eqv_tp])
    refine hb σ G5 H5 (s2.ex (Evl.Ex.trans e4 (Evl.Ex.trans e4' e5))) a5 _ fun v6 G6 H6 d6 e6 a6 r6 h6 => ?_
    subst h6
    cases (show Dp K G6 v6 (.bool true) from r6)
    rfl
end Nb
end
section
set_option Elab.async false
set_option linter.all false
set_option maxRecDepth 100000
set_option maxHeartbeats 4000000
/-! The end: from the top's heap into law, with the one table of code objects. -/
namespace Nb
open PySem PySem.Spec PyProof.Rows L2
abbrev tblO : Obj := { cls := .none, data := .fields #[] }
abbrev lstO (vs : List Value) : Obj := { cls := .type "list", data := .seq vs.toArray }
/-- what is followed: the table at Pt; the script at a, where K does not hold it -/
def Hx (K : Kx) (Pt a : Addr) (o : Obj) (xs : List V) : Hp := fun b => if b = Pt then some (.tbl #[]) else if b = a ∧ K.lookup a = none then some (.frz o (.lst xs)) else none
section
variable {K : Kx} {Pt a : Addr} {o : Obj} {xs : List V}
theorem hx_t : Hx K Pt a o xs Pt = some (.tbl #[]) := if_pos rfl
theorem hx_cases {b : Addr} : Hx K Pt a o xs b = none ∨ (b = Pt ∧ Hx K Pt a o xs b = some (.tbl #[])) ∨ (b = a ∧ K.lookup a = none ∧ Hx K Pt a o xs b = some (.frz o (.lst xs))) := by
  unfold Hx
  by_cases h1 : b = Pt
  · rw [if_pos h1]
    exact .inr (.inl ⟨h1, rfl⟩)
  · rw [if_neg h1]
    by_cases h2 : b = a ∧ K.lookup a = none
    · rw [if_pos h2]
      exact .inr (.inr ⟨h2.1, h2.2, rfl⟩)
    · rw [if_neg h2]
      exact .inl rfl
theorem hx_a (hne : a ≠ Pt) (hk : K.lookup a = none) : Hx K Pt a o xs a = some (.frz o (.lst xs)) := by
  unfold Hx
  rw [if_neg hne, if_pos ⟨rfl, hk⟩]
end
theorem law_end {P : Program} {w : World} {K : Kx} {mg mb : Str → Option Value} {fa a c Pt : Addr} {s₁ : Shared} {vs : List Value} {ns : List Int}
    (KX : K.In s₁.heap) (hmg : s₁.heap.Ns mainGlobals mg) (hmb : s₁.heap.Ns builtinsNs mb) (hbb : ∀ x : Str, x ≠ "__name__" → mb x = bootBuiltins x) (hlim : s₁.heap.NoLimit) (hgen : s₁.gens = #[])
    (hbm : ∃ (bm : Addr) (ob : Obj), mg "__builtins__" = some (.ref bm) ∧ bm ≠ builtinsNs ∧ s₁.heap.get? bm = some ob ∧ ob.cls = .type "module" ∧ ob.dict = some builtinsNs ∧ ob.data = .plain)
    (hT : s₁.heap.get? Pt = some tblO) (nT : K.lookup Pt = none) (C : PySem.W.CodeHd s₁.heap c Pt) (ha : s₁.heap.get? a = some (lstO vs)) (hi : IntsAre vs ns) (hl : ns.length ≤ sizeLine)
    (R : ∀ (base : Heap) (H : Hp), LamX.TabB base mg c Pt → Env0 P w K mg base callerA [] s₁ H → H Pt = some (.tbl #[]) → SqL K H a (ns.map V.int) → codeAny (model P w) callerA (.call (.ref fa) ⟨[.ref a], []⟩) (CR CX0 [] P w H s₁ (fun v _ => v = .bl true) (fun _ _ _ => False)) s₁) :
    codeAny (model P w) callerA (.call (.ref fa) ⟨[.ref a], []⟩) (fun r s' => r = .ok (.ret (.bool true)) ∧ OldK s₁.heap s'.heap ∧ s'.os = s₁.os ∧ AllBare s'.gens) s₁ := by
  have rv := vals_ints hi
  have hne : a ≠ Pt := fun z => by
    rw [z, hT] at ha
    exact absurd (congrArg Obj.cls (Option.some.inj ha)) (by simp)
  generalize hH : Hx K Pt a (lstO vs) (ns.map V.int) = H
  have hcs : ∀ b, H b = none ∨ (b = Pt ∧ H b = some (.tbl #[])) ∨ (b = a ∧ K.lookup a = none ∧ H b = some (.frz (lstO vs) (.lst (ns.map V.int)))) := fun b => by
    rw [← hH]
    exact hx_cases
  have hHT : H Pt = some (.tbl #[]) := by
    rw [← hH]
    exact hx_t
  have hok : HOk P w H s₁.heap := fun b u e => by
    rcases hcs b with z | ⟨rfl, z⟩ | ⟨rfl, _, z⟩ <;> rw [z] at e <;> cases e
    · exact hT
    · exact ⟨ha, by rw [List.length_map]; exact hl, vs, _, rv, ha⟩
  -- what is neither the table nor a list is not followed
  have free : ∀ {b : Addr} {ob : Obj}, s₁.heap.get? b = some ob → (∀ vs n, ob.data ≠ .seq vs n) → ob.data ≠ .fields #[] → H b = none := fun {b ob} e h1 h2 => by
    rcases hcs b with z | ⟨rfl, _⟩ | ⟨rfl, _, _⟩
    · exact z
    · rw [hT] at e
      cases e
      exact absurd rfl h2
    · rw [ha] at e
      cases e
      exact absurd rfl (h1 _ _)
  have isD : ∀ {b : Addr} {m : Str → Option Value}, s₁.heap.Ns b m → (hidT s₁.heap H).Ns b m := fun {b m} ⟨ob, es, ep, e, d, r⟩ => ⟨ob, es, ep, hidT_get e (free e (fun vs n z => by rw [d] at z; cases z) fun z => by rw [d] at z; cases z), d, r⟩
  have inK : K.In (hidT s₁.heap H) := fun b ob e => hidT_get (KX b ob e) (by
    rcases hcs b with z | ⟨rfl, _⟩ | ⟨rfl, k, _⟩
    · exact z
    · rw [nT] at e
      cases e
    · rw [k] at e
      cases e)
  have tb : LamX.TabB (hidT s₁.heap H) mg c Pt := by
    refine ⟨?_, ?_, fun z => ?_⟩
    · obtain ⟨ob, us, file, tf, flags, tg, inF, text, tt, e1, r1, r2, r3, rest⟩ := C
      exact ⟨ob, us, file, tf, flags, tg, inF, text, tt, hidT_get e1 (free e1 (fun vs n z => by rw [r2] at z; cases z) fun z => by rw [r2] at z; cases z; simp at r3), r1, r2, r3, rest⟩
    · obtain ⟨bm, ob, b1, b2, b3, b4, b5, b6⟩ := hbm
      refine ⟨bm, ob, b1, b2, fun q => ?_, fun q => ?_, hidT_get b3 (free b3 (fun vs n z => by rw [b6] at z; cases z) fun z => by rw [b6] at z; cases z), b4, b5, b6⟩
      · obtain ⟨o2, es, ep, e, hd, _⟩ := hmg
        rw [q, e] at b3
        cases b3
        rw [hd] at b6
        cases b6
      · rw [q, hT] at b3
        cases b3
        cases b6
    · obtain ⟨o2, es, ep, e, hd, _⟩ := hmg
      rw [z, hT] at e
      cases e
      cases hd
  have e0 : Env0 P w K mg (hidT s₁.heap H) callerA [] s₁ H := ⟨rfl, ⟨inK, isD hmg, ⟨mb, isD hmb, hbb⟩, let ⟨mc, h1, h2⟩ := hlim; ⟨mc, isD h1, h2⟩⟩, fun b ob e => of_hidT e, Nat.le_of_eq (hidT_size _ _), trivial, fun b hb => absurd (show b ∈ ([] : List Addr) from hb) (by simp), hok, .of_eq hgen⟩
  have hsq : SqL K H a (ns.map V.int) := by
    cases hk : K.lookup a with
    | none =>
      refine .inl (.inr ⟨lstO vs, ?_⟩)
      rw [← hH]
      exact hx_a hne hk
    | some o2 =>
      have e := KX a o2 hk
      rw [ha] at e
      cases e
      exact .inr ⟨_, vs.toArray, _, hk, rfl, rfl, rfl, by rw [List.size_toArray, hi.length]; exact hl, by simpa using rv⟩
  refine codeAny_mono (R _ H tb e0 hHT hsq) fun r s' h => ?_
  match r, h with
  | .error e, h => exact (show False from h).elim
  | .ok .next, h => exact (show False from h).elim
  | .ok .brk, h => exact (show False from h).elim
  | .ok .cont, h => exact (show False from h).elim
  | .ok (.ret u), h =>
    obtain ⟨v, H', os, bare, un, hok', r', q⟩ := h
    obtain rfl : v = .bl true := q
    obtain rfl : u = Value.bool true := r'
    obtain ⟨more, hm⟩ := un.tbls Pt #[] hHT
    have hP' := hok' Pt _ hm
    have stay : ∀ b ob, b ≠ Pt → s₁.heap.get? b = some ob → s'.heap.get? b = some ob := fun b ob nb e => by
      rcases hcs b with z | ⟨z, _⟩ | ⟨_, _, z⟩
      · exact un.keep b ob e z (by intro y; exact absurd (show b ∈ ([] : List Addr) from y) (by simp)) (by simp)
      · exact absurd z nb
      · obtain ⟨e1, _⟩ := hok b _ z
        obtain ⟨e2, _⟩ := hok' b _ (un.frzs b _ _ z)
        rw [e] at e1
        cases e1
        exact e2
    refine ⟨rfl, ⟨fun b ob e => ?_, fun b ob e => ?_⟩, os, bare⟩
    · by_cases hb : b = Pt
      · subst hb
        rw [hT] at e
        cases e
        exact .inr (.inl ⟨(C.tab hT).isCodeTable, rfl, #[], _, rfl, hP'⟩)
      · exact .inl (stay b ob hb e)
    · by_cases hb : b = Pt
      · rw [hb]
        exact ⟨_, hP'⟩
      · exact ⟨ob, stay b ob hb e⟩
end Nb
end
section
set_option Elab.async false
set_option linter.all false
set_option maxRecDepth 100000
set_option maxHeartbeats 4000000
/-! The head: what its Hook looks at. -/
noncomputable section
namespace NbZ
open PySem PySem.Spec PyProof.Rows L2 Nb
/-! ### the names, the defs, the facts -/
def loose0 : List Str := ["GateError", "InvalidMake", "InvalidTable", "InvalidSize", "LETTERS", "LONGEST", "is_integer", "is_below", "is_text", "is_sequence", "is_pair", "is_name", "is_bit", "need_between", "SIZES", "is_table", "need_table", "width_of", "mirror_table", "needs_of", "put_table", "bits_of", "table_of", "full_bits", "wire_bits", "gate_bits", "KINDS", "is_of", "raised", "is_rising_table"]
def loose1 : List Str := ["is_odd", "is_meet", "has_pairs", "has_common", "MOST_GATES", "MOST_PLACES", "Make", "is_gate", "make_kinds", "kinds_of_all", "missing_kind", "can_make", "made_tables", "_law_heap", "_law_draw", "_law_pick", "_law_settings", "_law_under", "_law_value", "_law_table", "_law_names", "_law_gates", "_law_made", "_law_put", "_law_rows", "_law_closed", "_law_size"]
def loose : List Str := loose0 ++ loose1
def dd_is_integer : He.DefD := ⟨("is_integer", none), "is_integer", "is_integer", defArgs s_is_integer, defBody s_is_integer, defScope s_is_integer, [], []⟩
def dd_is_below : He.DefD := ⟨("is_below", none), "is_below", "is_below", defArgs s_is_below, defBody s_is_below, defScope s_is_below, [], []⟩
def dd_is_text : He.DefD := ⟨("is_text", none), "is_text", "is_text", defArgs s_is_text, defBody s_is_text, defScope s_is_text, [], []⟩
def dd_is_sequence : He.DefD := ⟨("is_sequence", none), "is_sequence", "is_sequence", defArgs s_is_sequence, defBody s_is_sequence, defScope s_is_sequence, [], []⟩
def dd_is_pair : He.DefD := ⟨("is_pair", none), "is_pair", "is_pair", defArgs s_is_pair, defBody s_is_pair, defScope s_is_pair, [], []⟩
def dd_is_name : He.DefD := ⟨("is_name", none), "is_name", "is_name", defArgs s_is_name, defBody s_is_name, defScope s_is_name, [], []⟩
def dd_is_bit : He.DefD := ⟨("is_bit", none), "is_bit", "is_bit", defArgs s_is_bit, defBody s_is_bit, defScope s_is_bit, [], []⟩
def dd_need_between : He.DefD := ⟨("need_between", none), "need_between", "need_between", defArgs s_need_between, defBody s_need_between, defScope s_need_between, [], []⟩
def dd_is_table : He.DefD := ⟨("is_table", none), "is_table", "is_table", defArgs s_is_table, defBody s_is_table, defScope s_is_table, [], []⟩
def dd_need_table : He.DefD := ⟨("need_table", none), "need_table", "need_table", defArgs s_need_table, defBody s_need_table, defScope s_need_table, [], []⟩
def dd_width_of : He.DefD := ⟨("width_of", none), "width_of", "width_of", defArgs s_width_of, defBody s_width_of, defScope s_width_of, [], []⟩
def dd_mirror_table : He.DefD := ⟨("mirror_table", none), "mirror_table", "mirror_table", defArgs s_mirror_table, defBody s_mirror_table, defScope s_mirror_table, [], []⟩
def dd_needs_of : He.DefD := ⟨("needs_of", none), "needs_of", "needs_of", defArgs s_needs_of, defBody s_needs_of, defScope s_needs_of, [], []⟩
def dd_put_table : He.DefD := ⟨("put_table", none), "put_table", "put_table", defArgs s_put_table, defBody s_put_table, defScope s_put_table, [], []⟩
def dd_bits_of : He.DefD := ⟨("bits_of", none), "bits_of", "bits_of", defArgs s_bits_of, defBody s_bits_of, defScope s_bits_of, [], []⟩
def dd_table_of : He.DefD := ⟨("table_of", none), "table_of", "table_of", defArgs s_table_of, defBody s_table_of, defScope s_table_of, [], []⟩
def dd_full_bits : He.DefD := ⟨("full_bits", none), "full_bits", "full_bits", defArgs s_full_bits, defBody s_full_bits, defScope s_full_bits, [], []⟩
def dd_wire_bits : He.DefD := ⟨("wire_bits", none), "wire_bits", "wire_bits", defArgs s_wire_bits, defBody s_wire_bits, defScope s_wire_bits, [], []⟩
def dd_gate_bits : He.DefD := ⟨("gate_bits", none), "gate_bits", "gate_bits", defArgs s_gate_bits, defBody s_gate_bits, defScope s_gate_bits, [], []⟩
def dd_is_of : He.DefD := ⟨("is_of", none), "is_of", "is_of", defArgs s_is_of, defBody s_is_of, defScope s_is_of, [], []⟩
def dd_raised : He.DefD := ⟨("raised", none), "raised", "raised", defArgs s_raised, defBody s_raised, defScope s_raised, [], []⟩
def dd_is_rising_table : He.DefD := ⟨("is_rising_table", none), "is_rising_table", "is_rising_table", defArgs s_is_rising_table, defBody s_is_rising_table, defScope s_is_rising_table, [], []⟩
def dd_is_odd : He.DefD := ⟨("is_odd", none), "is_odd", "is_odd", defArgs s_is_odd, defBody s_is_odd, defScope s_is_odd, [], []⟩
def dd_is_meet : He.DefD := ⟨("is_meet", none), "is_meet", "is_meet", defArgs s_is_meet, defBody s_is_meet, defScope s_is_meet, [], []⟩
def dd_has_pairs : He.DefD := ⟨("has_pairs", none), "has_pairs", "has_pairs", defArgs s_has_pairs, defBody s_has_pairs, defScope s_has_pairs, [], []⟩
def dd_has_common : He.DefD := ⟨("has_common", none), "has_common", "has_common", defArgs s_has_common, defBody s_has_common, defScope s_has_common, [], []⟩
def dd_is_gate : He.DefD := ⟨("is_gate", none), "is_gate", "is_gate", defArgs s_is_gate, defBody s_is_gate, defScope s_is_gate, [], []⟩
def dd_make_kinds : He.DefD := ⟨("make_kinds", none), "make_kinds", "make_kinds", defArgs s_make_kinds, defBody s_make_kinds, defScope s_make_kinds, [], []⟩
def dd_kinds_of_all : He.DefD := ⟨("kinds_of_all", none), "kinds_of_all", "kinds_of_all", defArgs s_kinds_of_all, defBody s_kinds_of_all, defScope s_kinds_of_all, [], []⟩
def dd_missing_kind : He.DefD := ⟨("missing_kind", none), "missing_kind", "missing_kind", defArgs s_missing_kind, defBody s_missing_kind, defScope s_missing_kind, [], []⟩
def dd_can_make : He.DefD := ⟨("can_make", none), "can_make", "can_make", defArgs s_can_make, defBody s_can_make, defScope s_can_make, [], []⟩
def dd_made_tables : He.DefD := ⟨("made_tables", none), "made_tables", "made_tables", defArgs s_made_tables, defBody s_made_tables, defScope s_made_tables, [], []⟩
def dd_law_heap : He.DefD := ⟨("_law_heap", none), "_law_heap", "_law_heap", defArgs s_law_heap, defBody s_law_heap, defScope s_law_heap, [], []⟩
def dd_law_draw : He.DefD := ⟨("_law_draw", none), "_law_draw", "_law_draw", defArgs s_law_draw, defBody s_law_draw, defScope s_law_draw, [], []⟩
def dd_law_pick : He.DefD := ⟨("_law_pick", none), "_law_pick", "_law_pick", defArgs s_law_pick, defBody s_law_pick, defScope s_law_pick, [], []⟩
def dd_law_settings : He.DefD := ⟨("_law_settings", none), "_law_settings", "_law_settings", defArgs s_law_settings, defBody s_law_settings, defScope s_law_settings, [], []⟩
def dd_law_under : He.DefD := ⟨("_law_under", none), "_law_under", "_law_under", defArgs s_law_under, defBody s_law_under, defScope s_law_under, [], []⟩
def dd_law_value : He.DefD := ⟨("_law_value", none), "_law_value", "_law_value", defArgs s_law_value, defBody s_law_value, defScope s_law_value, [], []⟩
def dd_law_table : He.DefD := ⟨("_law_table", none), "_law_table", "_law_table", defArgs s_law_table, defBody s_law_table, defScope s_law_table, [], []⟩
def dd_law_names : He.DefD := ⟨("_law_names", none), "_law_names", "_law_names", defArgs s_law_names, defBody s_law_names, defScope s_law_names, [], []⟩
def dd_law_gates : He.DefD := ⟨("_law_gates", none), "_law_gates", "_law_gates", defArgs s_law_gates, defBody s_law_gates, defScope s_law_gates, [], []⟩
def dd_law_made : He.DefD := ⟨("_law_made", none), "_law_made", "_law_made", defArgs s_law_made, defBody s_law_made, defScope s_law_made, [], []⟩
def dd_law_put : He.DefD := ⟨("_law_put", none), "_law_put", "_law_put", defArgs s_law_put, defBody s_law_put, defScope s_law_put, [], []⟩
def dd_law_rows : He.DefD := ⟨("_law_rows", none), "_law_rows", "_law_rows", defArgs s_law_rows, defBody s_law_rows, defScope s_law_rows, [], []⟩
def dd_law_closed : He.DefD := ⟨("_law_closed", none), "_law_closed", "_law_closed", defArgs s_law_closed, defBody s_law_closed, defScope s_law_closed, [], []⟩
def dd_law_size : He.DefD := ⟨("_law_size", none), "_law_size", "_law_size", defArgs s_law_size, defBody s_law_size, defScope s_law_size, [], []⟩
def dd_law : He.DefD := ⟨("law", none), "law", "law", defArgs s_law, defBody s_law, defScope s_law, [], []⟩
def dd_Make : He.DefD := ⟨("Make", some "__init__"), "__init__", "Make.__init__", defArgs s_Make_init, defBody s_Make_init, defScope s_Make_init, [], []⟩
def fn0 : List He.DefD := [dd_is_integer, dd_is_below, dd_is_text, dd_is_sequence, dd_is_pair, dd_is_name, dd_is_bit, dd_need_between, dd_is_table, dd_need_table, dd_width_of, dd_mirror_table, dd_needs_of, dd_put_table, dd_bits_of, dd_table_of, dd_full_bits, dd_wire_bits, dd_gate_bits, dd_is_of]
def fn1 : List He.DefD := [dd_raised, dd_is_rising_table, dd_is_odd, dd_is_meet, dd_has_pairs, dd_has_common, dd_is_gate, dd_make_kinds, dd_kinds_of_all, dd_missing_kind, dd_can_make, dd_made_tables, dd_law_heap, dd_law_draw, dd_law_pick, dd_law_settings, dd_law_under, dd_law_value, dd_law_table, dd_law_names]
def fn2 : List He.DefD := [dd_law_gates, dd_law_made, dd_law_put, dd_law_rows, dd_law_closed, dd_law_size, dd_law, dd_Make]
def fn : List He.DefD := fn0 ++ fn1 ++ fn2
def fa0 : List He.Fa := [.free "abs", .free "all", .free "any", .free "bool", .free "enumerate", .free "int", .free "isinstance", .free "len", .free "list", .free "max", .free "min", .free "range", .free "repr", .free "sorted", .free "str", .free "sum", .free "tuple"]
def fa1 : List He.Fa := [.int "LONGEST" 8, .int "MOST_GATES" 6, .int "MOST_PLACES" 3, .str "LETTERS" "abcdefghijklmnopqrstuvwxyz", .glo "SIZES", .glo "KINDS", .glo "Make", .glo "InvalidSize", .cls "Make", .noat "Make" "gates", .mkr "Make"]
def fa2 : List He.Fa := [.glo "is_integer", .glo "is_below", .glo "is_text", .glo "is_sequence", .glo "is_pair", .glo "is_name", .glo "is_bit", .glo "need_between", .glo "is_table", .glo "need_table", .glo "width_of", .glo "mirror_table", .glo "needs_of", .glo "put_table", .glo "bits_of", .glo "table_of", .glo "full_bits", .glo "wire_bits", .glo "gate_bits", .glo "is_of"]
def fa3 : List He.Fa := [.glo "raised", .glo "is_rising_table", .glo "is_odd", .glo "is_meet", .glo "has_pairs", .glo "has_common", .glo "is_gate", .glo "make_kinds", .glo "kinds_of_all", .glo "missing_kind", .glo "can_make", .glo "made_tables", .glo "_law_heap", .glo "_law_draw", .glo "_law_pick", .glo "_law_settings", .glo "_law_under", .glo "_law_value", .glo "_law_table", .glo "_law_names"]
def fa4 : List He.Fa := [.glo "_law_gates", .glo "_law_made", .glo "_law_put", .glo "_law_rows", .glo "_law_closed", .glo "_law_size", .glo "law"]
def fa : List He.Fa := fa0 ++ fa1 ++ fa2 ++ fa3 ++ fa4

/-! ### InvalidSize -/
abbrev zC (K : Kx) : Addr := He.ga K "InvalidSize"
abbrev zF (K : Kx) : Addr := He.ma K (zC K) "__init__"
abbrev FnZ : Type := Option (Str × Str × Arguments × FuncBody × Scope × Addr × List Str × Addr)
def fnZ (K : Kx) : FnZ := match K.lookup (zF K) with
  | some ⟨_, _, .func fd, _⟩ => some (fd.name, fd.qualname, fd.params, fd.body, fd.scope, fd.globals, fd.closure.map (·.1), fd.builtins)
  | _ => none
def valZ : FnZ := some ("__init__", "InvalidSize.__init__", defArgs s_Size_init, .stmts (defBody s_Size_init), defScope s_Size_init, mainGlobals, ["__class__"], builtinsNs)
/-- its code, its defaults, its one cell -/
def restZ (file : Str) (K : Kx) : Bool := match K.lookup (zF K) with
  | some ⟨_, _, .func fd, _⟩ => (match fd.code, fd.defaults, fd.closure with
    | .ref cda, .none, [(_, cc)] => PySem.W.codeIn K (.ref cda) "InvalidSize.__init__" && ((match K.lookup cda with
      | some ⟨_, _, .fields vs, _⟩ => (match (vs[2]? : Option Value) with
        | some (.str x _) => file == x
        | _ => false)
      | _ => false) && (match K.lookup cc with
      | some ⟨_, _, .cell (some (.ref a)), _⟩ => a == zC K
      | _ => false))
    | _, _, _ => false)
  | _ => false
def clsZ (K : Kx) : Bool := match K.lookup (zC K) with
  | some ⟨.type t, _, .cls cd, sl⟩ => (match cd.mro, sl.toList with
    | .ref a :: bm, [_, _, _, _, some (.builtin n), _] => decide (t = "type") && (a == zC K && (n == "Exception.__new__" && (!cd.hasDel && (cd.hasDict && (PySem.W.excTail NbX.exTail bm && He.eqO (PySem.W.alongIn K "__init__" bm) (some (some (.builtin "Exception.__init__"))))))))
    | _, _ => false)
  | _ => false
def tupZ (K : Kx) (x : Str) : Bool := match K.lookup (He.ga K x) with
  | some ⟨.type c, none, _, _⟩ => decide (c = "tuple")
  | _ => false
def exZ (file : Str) (K : Kx) : Bool :=
  He.tupB K "SIZES" (([1, 2, 4, 8, 16, 32, 64, 128, 256] : List Int).map He.Dv.int) && (He.tupB K "KINDS" ((["cocommon", "common", "copairs", "join", "meet", "odd", "one", "pairs", "rising", "single", "turning", "zero"] : List Str).map He.Dv.str) && (tupZ K "SIZES" &&
  (restZ file K && (clsZ K && (xfB K (zC K) && (PySem.W.keepIn K (.ref (zC K)) && (He.eqO (PySem.W.findIn K (.ref (zC K)) "__init__") (some (some (.ref (zF K)))) && (decide (PySem.W.typeIn K (.ref (zF K)) = some (.type "function")) &&
  (He.eqO (PySem.W.findIn K (.ref (zC K)) "__setattr__") (some (some (.builtin "object.__setattr__"))) && (He.eqO (PySem.W.findIn K (.ref (zC K)) "word") (some none) && (decide (PySem.W.subIn K (.ref (zC K)) (.type "BaseException") = some true) &&
  (decide (PySem.W.mroIn K (zC K) (.type "Exception") = some true) && (decide (PySem.W.mroIn K (zC K) (.ref (zC K)) = some true) && (decide (PySem.W.typeIn K (.ref (zC K)) = some (.type "type")) && (He.eqO (PySem.W.nsIn K mainGlobals "super") (some none) &&
  (He.eqO (PySem.W.nsIn K PySem.cStatics "thirdparty.any") (some none) && decide (PySem.W.exmOne K (.ref (zC K)) (.ref (zC K)) = some true)))))))))))))))))
/-! ### the Hook -/
abbrev lawAt : He.Defn := ("law", none)
abbrev cL (K : Kx) : Addr := (He.cT K lawAt).1
abbrev pL (K : Kx) : Addr := (He.cT K lawAt).2
structure SaysZ (file : Str) (h : Heap) (K : Kx) : Prop where
  d : He.SaysD fa fn K
  ex : exZ file K = true
  z : fnZ K = valZ
  hd : PySem.W.codeHdIn K (cL K) (pL K) = true
  out : K.lookup (pL K) = none
  empty : h.get? (pL K) = some { cls := .none, data := .fields #[] }
abbrev AlZ : Type := He.AlD × FnZ × Bool
def kZ (g : Addr → Option Obj) : Kx := He.frT g (He.asD g 5 ++ [PySem.cStatics])
def obsK (file : Str) (g : Addr → Option Obj) (K : Kx) : AlZ := (He.obsD fa fn K, fnZ K, exZ file K && (PySem.W.codeHdIn K (cL K) (pL K) && (match g (pL K) with
  | some o => He.emptyTab o
  | none => false)))
def obsZ (file : Str) (g : Addr → Option Obj) : AlZ := obsK file g (kZ g)
def valA : AlZ := (He.valD fn, valZ, true)
theorem saysZ_of {file : Str} {h : Heap} (e : obsZ file h.get? = valA) : SaysZ file h (kZ h.get?) := by
  have e1 : He.obsD fa fn (kZ h.get?) = He.valD fn := congrArg (fun z : AlZ => z.1) e
  have e2 : fnZ (kZ h.get?) = valZ := congrArg (fun z : AlZ => z.2.1) e
  obtain ⟨h1, h2⟩ := He.ba (congrArg (fun z : AlZ => z.2.2) e)
  obtain ⟨h3, h4⟩ := He.ba h2
  cases q : h.get? (pL (kZ h.get?)) with
  | none =>
    rw [q] at h4
    cases h4
  | some o =>
    rw [q] at h4
    exact ⟨e1, h1, e2, h3, He.frT_none q h4, by rw [q, He.emptyTab_eq h4]⟩
def hk (file : Str) : PySem.W.Hook where
  α := AlZ
  obs := fun s => obsZ file s.heap.get?
  val := fun _ => valA
  says := fun _ h => ∃ K : Kx, K.In h ∧ SaysZ file h K
  of := fun _ _ e => ⟨_, He.frT_in, saysZ_of e⟩
  keeps := fun _ _ _ ⟨K, hK, c⟩ k => ⟨K, PySem.W.Frag.In.keeps hK k, ⟨c.d, c.ex, c.z, c.hd, c.out, k _ _ c.empty⟩⟩
theorem obsZ_eq {file : Str} {g : Addr → Option Obj} {s : Shared} (h : ∀ a, g a = s.heap.get? a) : obsZ file g = (hk file).obs s := by
  have e : g = s.heap.get? := funext h
  rw [e] <;> rfl
end NbZ
end
end
section
set_option Elab.async false
set_option linter.all false
set_option maxRecDepth 100000
set_option maxHeartbeats 4000000
/-! The head's run. -/
namespace NbZ
open PySem PySem.Spec PyProof.Rows L2 Nb
abbrev RR : PySem.W.OpenRow := PySem.W.OpenLaw.row PySem.Challenge.rw_neverboth_k07_whole_all_functions_of_few
abbrev fileL : Str := RR.prog.main.file
def ob (s : PySem.W.SharedT) : AlZ := obsZ fileL (HandSHeadRun.getT s)
theorem ob_eq (s : PySem.W.SharedT) : ob s = (hk fileL).obs s.abs := obsZ_eq (HandSHeadRun.getT_eq s)
set_option maxHeartbeats 0
theorem run (w : World) : HandSHeadRun.RunEq RR (PySem.W.view RR.prog [63]) (hk fileL) ob 4000 loose w := by
  intro os
  kernel_rfl
end NbZ
end
set_option Elab.async false
set_option linter.all false
set_option maxRecDepth 100000
set_option maxHeartbeats 4000000
/-! What the head's Hook tells; the theorem. -/
namespace NbZ
open PySem PySem.Spec PyProof.Rows L2 Nb
/-! ### the parts of the Bool -/
structure ExZ (file : Str) (K : Kx) : Prop where
  s : He.tupB K "SIZES" (([1, 2, 4, 8, 16, 32, 64, 128, 256] : List Int).map He.Dv.int) = true
  k : He.tupB K "KINDS" ((["cocommon", "common", "copairs", "join", "meet", "odd", "one", "pairs", "rising", "single", "turning", "zero"] : List Str).map He.Dv.str) = true
  st : tupZ K "SIZES" = true
  rest : restZ file K = true
  cls : clsZ K = true
  xf : xfB K (zC K) = true
  kC : PySem.W.keepIn K (.ref (zC K)) = true
  ini : PySem.W.findIn K (.ref (zC K)) "__init__" = some (some (.ref (zF K)))
  tI : PySem.W.typeIn K (.ref (zF K)) = some (.type "function")
  sa : PySem.W.findIn K (.ref (zC K)) "__setattr__" = some (some (.builtin "object.__setattr__"))
  nw : PySem.W.findIn K (.ref (zC K)) "word" = some none
  exB : PySem.W.subIn K (.ref (zC K)) (.type "BaseException") = some true
  exE : PySem.W.mroIn K (zC K) (.type "Exception") = some true
  own : PySem.W.mroIn K (zC K) (.ref (zC K)) = some true
  tyC : PySem.W.typeIn K (.ref (zC K)) = some (.type "type")
  sup : PySem.W.nsIn K mainGlobals "super" = some none
  third : PySem.W.nsIn K PySem.cStatics "thirdparty.any" = some none
  exm : PySem.W.exmOne K (.ref (zC K)) (.ref (zC K)) = some true
theorem exZ_ok {file : Str} {K : Kx} (h : exZ file K = true) : ExZ file K := by
  obtain ⟨h1, h⟩ := He.ba h
  obtain ⟨h2, h⟩ := He.ba h
  obtain ⟨h3, h⟩ := He.ba h
  obtain ⟨h4, h⟩ := He.ba h
  obtain ⟨h5, h⟩ := He.ba h
  obtain ⟨h6, h⟩ := He.ba h
  obtain ⟨h7, h⟩ := He.ba h
  obtain ⟨h8, h⟩ := He.ba h
  obtain ⟨h9, h⟩ := He.ba h
  obtain ⟨h10, h⟩ := He.ba h
  obtain ⟨h11, h⟩ := He.ba h
  obtain ⟨h12, h⟩ := He.ba h
  obtain ⟨h13, h⟩ := He.ba h
  obtain ⟨h14, h⟩ := He.ba h
  obtain ⟨h15, h⟩ := He.ba h
  obtain ⟨h16, h⟩ := He.ba h
  obtain ⟨h17, h⟩ := He.ba h
  exact ⟨h1, h2, h3, h4, h5, h6, h7, He.eqO_ok h8, of_decide_eq_true h9, He.eqO_ok h10, He.eqO_ok h11, of_decide_eq_true h12, of_decide_eq_true h13, of_decide_eq_true h14, of_decide_eq_true h15, He.eqO_ok h16, He.eqO_ok h17, of_decide_eq_true h⟩
theorem tupZ_ok {K : Kx} {x : Str} (h : tupZ K x = true) : ∃ o, K.lookup (He.ga K x) = some o ∧ o.cls = .type "tuple" ∧ o.dict = none := by
  unfold tupZ at h
  split at h
  · rename_i c dt sl ho
    exact ⟨_, ho, congrArg Value.type (of_decide_eq_true h), rfl⟩
  · cases h
theorem dvI (K : Kx) (ns : List Int) : (ns.map He.Dv.int).map (He.Dv.v K) = ns.map V.int := by
  rw [List.map_map]
  rfl
theorem dvS (K : Kx) (ns : List Str) : (ns.map He.Dv.str).map (He.Dv.v K) = ns.map V.str := by
  rw [List.map_map]
  rfl
theorem sizes_ok {file : Str} {K : Kx} (h : exZ file K = true) : ∃ o, K.lookup (He.ga K "SIZES") = some o ∧ o.cls = .type "tuple" ∧ o.dict = none ∧ ∀ H, SqT K H (He.ga K "SIZES") (([1, 2, 4, 8, 16, 32, 64, 128, 256] : List Int).map V.int) := by
  have e := exZ_ok h
  obtain ⟨o, h1, h2, h3⟩ := tupZ_ok e.st
  exact ⟨o, h1, h2, h3, fun H => by
    have := He.tupB_ok e.s H
    rwa [dvI] at this⟩
theorem kinds_ok {file : Str} {K : Kx} (h : exZ file K = true) (H : Hp) : SqT K H (He.ga K "KINDS") ((["cocommon", "common", "copairs", "join", "meet", "odd", "one", "pairs", "rising", "single", "turning", "zero"] : List Str).map V.str) := by
  have := He.tupB_ok (exZ_ok h).k H
  rwa [dvS] at this
/-! ### InvalidSize -/
theorem fnZ_ok {file : Str} {K : Kx} (e : fnZ K = valZ) (h : restZ file K = true) :
    ∃ (oc : Value) (od : Option Addr) (osl : Array (Option Value)) (kV doc pm : Value) (an : Option Addr) (ct : Value) (cda cc : Addr), K.lookup (zF K) = some ⟨oc, od, .func (PySem.W.ksFn "__init__" "InvalidSize.__init__" (defArgs s_Size_init) (defBody s_Size_init) (defScope s_Size_init) .none kV doc pm an (.ref cda) ct cc), osl⟩ ∧
    PySem.W.codeIn K (.ref cda) "InvalidSize.__init__" = true ∧ (∃ (ccl : Value) (cdd : Option Addr) (vs : Array Value) (ccs : Array (Option Value)) (x : Str) (tf : Tok), K.lookup cda = some ⟨ccl, cdd, .fields vs, ccs⟩ ∧ vs[2]? = some (.str x tf) ∧ (file == x) = true) ∧
    ∃ (cl : Value) (cld : Option Addr) (csl : Array (Option Value)), K.lookup cc = some ⟨cl, cld, .cell (some (.ref (zC K))), csl⟩ := by
  unfold fnZ at e
  unfold restZ at h
  split at e
  · rename_i oc od fd osl lk
    rw [lk] at h
    obtain ⟨n1, n2, n3, n4, n5, n6, n7, n8, n9, n10, n11, n12, n13, n14, n15⟩ := fd
    dsimp only at e h
    split at h
    · rename_i _ _ _ cda cn cc
      obtain ⟨h1, h⟩ := He.ba h
      obtain ⟨h2, h3⟩ := He.ba h
      unfold valZ at e
      simp only [Option.some.injEq, Prod.mk.injEq] at e
      obtain ⟨e1, e2, e3, e4, e5, e6, e7, e8⟩ := e
      subst e1 e2 e3 e4 e5 e6 e8
      have hcn : cn = "__class__" := by simpa using e7
      subst hcn
      refine ⟨oc, od, osl, n9, n10, n11, n12, n14, cda, cc, lk, h1, ?_, ?_⟩
      · split at h2
        · rename_i ccl cdd vs ccs lk2
          split at h2
          · rename_i x tf hv
            exact ⟨ccl, cdd, vs, ccs, x, tf, lk2, hv, h2⟩
          · cases h2
        · cases h2
      · split at h3
        · rename_i cl cld a csl lk3
          rw [beq_iff_eq.mp h3] at lk3
          exact ⟨cl, cld, csl, lk3⟩
        · cases h3
    · cases h
  · cases e
theorem clsZ_ok {K : Kx} (h : clsZ K = true) : ∃ nm q N bs bm sn sub ab col dd k0 k1 k2 k3 k5, K.lookup (zC K) = some (excClassObj nm q (zC K) N bs bm true sn sub ab col dd k0 k1 k2 k3 k5 "Exception.__new__") ∧ PySem.W.excTail NbX.exTail bm = true ∧ PySem.W.alongIn K "__init__" bm = some (some (.builtin "Exception.__init__")) := by
  unfold clsZ at h
  split at h
  · rename_i t dd cd sl lk
    split at h
    · rename_i a bm k0 k1 k2 k3 n k5 hm hs
      obtain ⟨h1, h⟩ := He.ba h
      obtain ⟨h2, h⟩ := He.ba h
      obtain ⟨h3, h⟩ := He.ba h
      obtain ⟨h4, h⟩ := He.ba h
      obtain ⟨h5, h⟩ := He.ba h
      obtain ⟨h6, h7⟩ := He.ba h
      obtain ⟨nm, bs, mro, ns, qn, hd, sn, sub, ab, col, del⟩ := cd
      dsimp only at hm h4 h5
      have ht : t = "type" := of_decide_eq_true h1
      have ha : a = zC K := beq_iff_eq.mp h2
      have hn : n = "Exception.__new__" := beq_iff_eq.mp h3
      have hdel : del = false := by simpa using h4
      have hsl : sl = #[k0, k1, k2, k3, some (.builtin n), k5] := by
        obtain ⟨l⟩ := sl
        simp only at hs
        rw [hs]
      subst ht hn hdel hsl hm h5
      rw [ha] at lk
      exact ⟨nm, qn, ns, bs, bm, sn, sub, ab, col, dd, k0, k1, k2, k3, k5, lk, h6, He.eqO_ok h7⟩
    · cases h
  · cases h
theorem szm {P : Program} {K : Kx} {h : Heap} {mg : Str → Option Value} (c : SaysZ P.main.file h K) (hat : mg "InvalidSize" = some (.ref (zC K))) (htop : (P.main.scope.names.lookup ("super" : Str)).isSome = false) : SzM P K mg := by
  have e := exZ_ok c.ex
  exact ⟨hat, ⟨fnZ_ok c.z e.rest, clsZ_ok e.cls, e.ini, e.tI, e.sa, e.nw, e.exB, e.exE, e.own, e.tyC, e.kC, e.sup, e.third, htop⟩, xfB_ok e.xf, e.exm⟩
/-! ### all defs -/
theorem tx {K : Kx} {h : Heap} {mg : Str → Option Value} (X : K.In h) (G : h.Ns mainGlobals mg) {file : Str} (c : SaysZ file h K) : Tx K mg where
  b_abs := He.free_ok X G (c.d.fact 0 (f := .free "abs"))
  b_all := He.free_ok X G (c.d.fact 1 (f := .free "all"))
  b_any := He.free_ok X G (c.d.fact 2 (f := .free "any"))
  b_bool := He.free_ok X G (c.d.fact 3 (f := .free "bool"))
  b_enumerate := He.free_ok X G (c.d.fact 4 (f := .free "enumerate"))
  b_int := He.free_ok X G (c.d.fact 5 (f := .free "int"))
  b_isinstance := He.free_ok X G (c.d.fact 6 (f := .free "isinstance"))
  b_len := He.free_ok X G (c.d.fact 7 (f := .free "len"))
  b_list := He.free_ok X G (c.d.fact 8 (f := .free "list"))
  b_max := He.free_ok X G (c.d.fact 9 (f := .free "max"))
  b_min := He.free_ok X G (c.d.fact 10 (f := .free "min"))
  b_range := He.free_ok X G (c.d.fact 11 (f := .free "range"))
  b_repr := He.free_ok X G (c.d.fact 12 (f := .free "repr"))
  b_sorted := He.free_ok X G (c.d.fact 13 (f := .free "sorted"))
  b_str := He.free_ok X G (c.d.fact 14 (f := .free "str"))
  b_sum := He.free_ok X G (c.d.fact 15 (f := .free "sum"))
  b_tuple := He.free_ok X G (c.d.fact 16 (f := .free "tuple"))
  c_LONGEST := He.int_ok X G (c.d.fact 17 (f := .int "LONGEST" 8))
  c_MOST_GATES := He.int_ok X G (c.d.fact 18 (f := .int "MOST_GATES" 6))
  c_MOST_PLACES := He.int_ok X G (c.d.fact 19 (f := .int "MOST_PLACES" 3))
  c_LETTERS := He.str_ok X G (c.d.fact 20 (f := .str "LETTERS" "abcdefghijklmnopqrstuvwxyz"))
  c_SIZES := He.glo_ok X G (c.d.fact 21 (f := .glo "SIZES"))
  c_KINDS := He.glo_ok X G (c.d.fact 22 (f := .glo "KINDS"))
  v_SIZES := sizes_ok c.ex
  v_KINDS := kinds_ok c.ex
  k_Make := He.cls_ok (c.d.fact 25 (f := .cls "Make"))
  n_Make := He.noat_ok (c.d.fact 26 (f := .noat "Make" "gates"))
  d_is_integer := ⟨He.glo_ok X G (c.d.fact 28 (f := .glo "is_integer")), c.d.def_ 0 (d := dd_is_integer)⟩
  d_is_below := ⟨He.glo_ok X G (c.d.fact 29 (f := .glo "is_below")), c.d.def_ 1 (d := dd_is_below)⟩
  d_is_text := ⟨He.glo_ok X G (c.d.fact 30 (f := .glo "is_text")), c.d.def_ 2 (d := dd_is_text)⟩
  d_is_sequence := ⟨He.glo_ok X G (c.d.fact 31 (f := .glo "is_sequence")), c.d.def_ 3 (d := dd_is_sequence)⟩
  d_is_pair := ⟨He.glo_ok X G (c.d.fact 32 (f := .glo "is_pair")), c.d.def_ 4 (d := dd_is_pair)⟩
  d_is_name := ⟨He.glo_ok X G (c.d.fact 33 (f := .glo "is_name")), c.d.def_ 5 (d := dd_is_name)⟩
  d_is_bit := ⟨He.glo_ok X G (c.d.fact 34 (f := .glo "is_bit")), c.d.def_ 6 (d := dd_is_bit)⟩
  d_need_between := ⟨He.glo_ok X G (c.d.fact 35 (f := .glo "need_between")), c.d.def_ 7 (d := dd_need_between)⟩
  d_is_table := ⟨He.glo_ok X G (c.d.fact 36 (f := .glo "is_table")), c.d.def_ 8 (d := dd_is_table)⟩
  d_need_table := ⟨He.glo_ok X G (c.d.fact 37 (f := .glo "need_table")), c.d.def_ 9 (d := dd_need_table)⟩
  d_width_of := ⟨He.glo_ok X G (c.d.fact 38 (f := .glo "width_of")), c.d.def_ 10 (d := dd_width_of)⟩
  d_mirror_table := ⟨He.glo_ok X G (c.d.fact 39 (f := .glo "mirror_table")), c.d.def_ 11 (d := dd_mirror_table)⟩
  d_needs_of := ⟨He.glo_ok X G (c.d.fact 40 (f := .glo "needs_of")), c.d.def_ 12 (d := dd_needs_of)⟩
  d_put_table := ⟨He.glo_ok X G (c.d.fact 41 (f := .glo "put_table")), c.d.def_ 13 (d := dd_put_table)⟩
  d_bits_of := ⟨He.glo_ok X G (c.d.fact 42 (f := .glo "bits_of")), c.d.def_ 14 (d := dd_bits_of)⟩
  d_table_of := ⟨He.glo_ok X G (c.d.fact 43 (f := .glo "table_of")), c.d.def_ 15 (d := dd_table_of)⟩
  d_full_bits := ⟨He.glo_ok X G (c.d.fact 44 (f := .glo "full_bits")), c.d.def_ 16 (d := dd_full_bits)⟩
  d_wire_bits := ⟨He.glo_ok X G (c.d.fact 45 (f := .glo "wire_bits")), c.d.def_ 17 (d := dd_wire_bits)⟩
  d_gate_bits := ⟨He.glo_ok X G (c.d.fact 46 (f := .glo "gate_bits")), c.d.def_ 18 (d := dd_gate_bits)⟩
  d_is_of := ⟨He.glo_ok X G (c.d.fact 47 (f := .glo "is_of")), c.d.def_ 19 (d := dd_is_of)⟩
  d_raised := ⟨He.glo_ok X G (c.d.fact 48 (f := .glo "raised")), c.d.def_ 20 (d := dd_raised)⟩
  d_is_rising_table := ⟨He.glo_ok X G (c.d.fact 49 (f := .glo "is_rising_table")), c.d.def_ 21 (d := dd_is_rising_table)⟩
  d_is_odd := ⟨He.glo_ok X G (c.d.fact 50 (f := .glo "is_odd")), c.d.def_ 22 (d := dd_is_odd)⟩
  d_is_meet := ⟨He.glo_ok X G (c.d.fact 51 (f := .glo "is_meet")), c.d.def_ 23 (d := dd_is_meet)⟩
  d_has_pairs := ⟨He.glo_ok X G (c.d.fact 52 (f := .glo "has_pairs")), c.d.def_ 24 (d := dd_has_pairs)⟩
  d_has_common := ⟨He.glo_ok X G (c.d.fact 53 (f := .glo "has_common")), c.d.def_ 25 (d := dd_has_common)⟩
  d_is_gate := ⟨He.glo_ok X G (c.d.fact 54 (f := .glo "is_gate")), c.d.def_ 26 (d := dd_is_gate)⟩
  d_make_kinds := ⟨He.glo_ok X G (c.d.fact 55 (f := .glo "make_kinds")), c.d.def_ 27 (d := dd_make_kinds)⟩
  d_kinds_of_all := ⟨He.glo_ok X G (c.d.fact 56 (f := .glo "kinds_of_all")), c.d.def_ 28 (d := dd_kinds_of_all)⟩
  d_missing_kind := ⟨He.glo_ok X G (c.d.fact 57 (f := .glo "missing_kind")), c.d.def_ 29 (d := dd_missing_kind)⟩
  d_can_make := ⟨He.glo_ok X G (c.d.fact 58 (f := .glo "can_make")), c.d.def_ 30 (d := dd_can_make)⟩
  d_made_tables := ⟨He.glo_ok X G (c.d.fact 59 (f := .glo "made_tables")), c.d.def_ 31 (d := dd_made_tables)⟩
  d_law_heap := ⟨He.glo_ok X G (c.d.fact 60 (f := .glo "_law_heap")), c.d.def_ 32 (d := dd_law_heap)⟩
  d_law_draw := ⟨He.glo_ok X G (c.d.fact 61 (f := .glo "_law_draw")), c.d.def_ 33 (d := dd_law_draw)⟩
  d_law_pick := ⟨He.glo_ok X G (c.d.fact 62 (f := .glo "_law_pick")), c.d.def_ 34 (d := dd_law_pick)⟩
  d_law_settings := ⟨He.glo_ok X G (c.d.fact 63 (f := .glo "_law_settings")), c.d.def_ 35 (d := dd_law_settings)⟩
  d_law_under := ⟨He.glo_ok X G (c.d.fact 64 (f := .glo "_law_under")), c.d.def_ 36 (d := dd_law_under)⟩
  d_law_value := ⟨He.glo_ok X G (c.d.fact 65 (f := .glo "_law_value")), c.d.def_ 37 (d := dd_law_value)⟩
  d_law_table := ⟨He.glo_ok X G (c.d.fact 66 (f := .glo "_law_table")), c.d.def_ 38 (d := dd_law_table)⟩
  d_law_names := ⟨He.glo_ok X G (c.d.fact 67 (f := .glo "_law_names")), c.d.def_ 39 (d := dd_law_names)⟩
  d_law_gates := ⟨He.glo_ok X G (c.d.fact 68 (f := .glo "_law_gates")), c.d.def_ 40 (d := dd_law_gates)⟩
  d_law_made := ⟨He.glo_ok X G (c.d.fact 69 (f := .glo "_law_made")), c.d.def_ 41 (d := dd_law_made)⟩
  d_law_put := ⟨He.glo_ok X G (c.d.fact 70 (f := .glo "_law_put")), c.d.def_ 42 (d := dd_law_put)⟩
  d_law_rows := ⟨He.glo_ok X G (c.d.fact 71 (f := .glo "_law_rows")), c.d.def_ 43 (d := dd_law_rows)⟩
  d_law_closed := ⟨He.glo_ok X G (c.d.fact 72 (f := .glo "_law_closed")), c.d.def_ 44 (d := dd_law_closed)⟩
  d_law_size := ⟨He.glo_ok X G (c.d.fact 73 (f := .glo "_law_size")), c.d.def_ 45 (d := dd_law_size)⟩
  d_law := ⟨He.glo_ok X G (c.d.fact 74 (f := .glo "law")), c.d.def_ 46 (d := dd_law)⟩
theorem mk {K : Kx} {h : Heap} {mg : Str → Option Value} (X : K.In h) (G : h.Ns mainGlobals mg) {file : Str} (c : SaysZ file h K) : MkT K mg where
  at_ := He.glo_ok X G (c.d.fact 23 (f := .glo "Make"))
  mk_ := He.mkr_ok (c.d.fact 27 (f := .mkr "Make"))
  fn := c.d.def_ 47 (d := dd_Make)
theorem atZ {K : Kx} {h : Heap} {mg : Str → Option Value} (X : K.In h) (G : h.Ns mainGlobals mg) {file : Str} (c : SaysZ file h K) : mg "InvalidSize" = some (.ref (zC K)) := He.glo_ok X G (c.d.fact 24 (f := .glo "InvalidSize"))

/-- the law's function object -/
theorem lawFn {K : Kx} {mg : Str → Option Value} (T : Tx K mg) : ∃ (oc : Value) (od : Option Addr) (osl : Array (Option Value)) (kV doc pm : Value) (an : Option Addr) (ct : Value),
    K.lookup (He.ga K "law") = some ⟨oc, od, .func (PySem.W.fnOf "law" "law" (defArgs s_law) (defBody s_law) (defScope s_law) .none kV doc pm an (.ref (cL K)) ct), osl⟩ ∧ PySem.W.codeIn K (.ref (cL K)) "law" = true := by
  obtain ⟨fd, FD⟩ := T.d_law.fn
  obtain ⟨oc, od, dV, kV, doc, pm, an, cdv, ct, osl, rfl, lk, hcd, h1, _⟩ := FD.ex
  have ed : dV = .none := by
    rcases h1 with ⟨_, e⟩ | ⟨h, _⟩
    · exact e
    · exact absurd rfl h
  subst ed
  obtain ⟨c, rfl⟩ := He.codeIn_ref hcd
  have ec : cL K = c := He.codeOf_eq (p := lawAt) lk rfl
  rw [ec]
  exact ⟨oc, od, osl, kV, doc, pm, an, ct, lk, hcd⟩
theorem law_all {P : Program} {w0 : World} {K : Kx} {mg : Str → Option Value} {base : Heap} (T : Tx K mg) (M : MkT K mg) (Z : SzM P K mg) {f c Pt a : Addr} {kV doc pm ct oc : Value} {an od : Option Addr} {osl : Array (Option Value)} {s : Shared} {H : Hp} {sc : List Int}
    (lk : K.lookup f = some ⟨oc, od, .func (PySem.W.fnOf "law" "law" (defArgs s_law) (defBody s_law) (defScope s_law) .none kV doc pm an (.ref c) ct), osl⟩) (hcd : PySem.W.codeIn K (.ref c) "law" = true)
    (TB : LamX.TabB base mg c Pt) (e0 : Env0 P w0 K mg base callerA [] s H) (hP : H Pt = some (.tbl #[])) (hS : SqL K H a (sc.map V.int)) :
    codeAny (model P w0) callerA (.call (.ref f) ⟨[.ref a], []⟩) (CR CX0 [] P w0 H s (fun v _ => v = .bl true) (fun _ _ _ => False)) s := by
  have h_is_integer : OK_is_integer P w0 K mg base := ok_is_integer T
  have h_is_below : OK_is_below P w0 K mg base := ok_is_below T h_is_integer
  have h_is_text : OK_is_text P w0 K mg base := ok_is_text T
  have h_is_sequence : OK_is_sequence P w0 K mg base := ok_is_sequence T
  have h_is_pair : OK_is_pair P w0 K mg base := ok_is_pair T
  have h_is_name : OK_is_name P w0 K mg base := ok_is_name T h_is_text
  have h_is_bit : OK_is_bit P w0 K mg base := ok_is_bit T h_is_below
  have h_need_between : OK_need_between P w0 K mg base := ok_need_between T h_is_integer
  have h_is_table : OK_is_table P w0 K mg base := ok_is_table T h_is_bit
  have h_need_table : OK_need_table P w0 K mg base := ok_need_table T h_is_bit
  have h_width_of : OK_width_of P w0 K mg base := ok_width_of T
  have h_mirror_table : OK_mirror_table P w0 K mg base := ok_mirror_table T h_need_table
  have h_bits_of : OK_bits_of P w0 K mg base := ok_bits_of T
  have h_full_bits : OK_full_bits P w0 K mg base := ok_full_bits T
  have h_wire_bits : OK_wire_bits P w0 K mg base := ok_wire_bits T
  have h_needs_of : OK_needs_of P w0 K mg base := ok_needs_of T h_bits_of h_full_bits h_width_of h_wire_bits
  have h_gate_bits : OK_gate_bits P w0 K mg base := ok_gate_bits T
  have h_table_of : OK_table_of P w0 K mg base := ok_table_of T
  have h_put_table : OK_put_table P w0 K mg base := ok_put_table T h_bits_of h_full_bits h_gate_bits h_need_table h_table_of h_width_of
  have h_has_common : OK_has_common P w0 K mg base := ok_has_common T h_bits_of h_full_bits h_width_of h_wire_bits
  have h_raised : OK_raised P w0 K mg base := ok_raised T h_full_bits h_wire_bits
  have h_has_pairs : OK_has_pairs P w0 K mg base := ok_has_pairs T h_bits_of h_raised h_table_of h_width_of
  have h_is_meet : OK_is_meet P w0 K mg base := ok_is_meet T h_bits_of h_full_bits h_needs_of h_width_of h_wire_bits
  have h_is_odd : OK_is_odd P w0 K mg base := ok_is_odd T h_bits_of h_full_bits h_needs_of h_width_of h_wire_bits
  have h_is_rising_table : OK_is_rising_table P w0 K mg base := ok_is_rising_table T h_bits_of h_raised h_width_of
  have h_is_of : OK_is_of P w0 K mg base := ok_is_of T h_has_common h_has_pairs h_is_meet h_is_odd h_is_rising_table h_mirror_table h_needs_of
  have h_is_gate : OK_is_gate P w0 K mg base := ok_is_gate T h_is_name h_is_pair h_is_table h_width_of
  have h_kinds_of_all : OK_kinds_of_all P w0 K mg base := ok_kinds_of_all T h_is_of
  have h_make_kinds : OK_make_kinds P w0 K mg base := ok_make_kinds T h_kinds_of_all
  have h_missing_kind : OK_missing_kind P w0 K mg base := ok_missing_kind T h_is_of h_make_kinds h_need_table h_width_of
  have h_can_make : OK_can_make P w0 K mg base := ok_can_make T h_missing_kind
  have h_made_tables : OK_made_tables P w0 K mg base := ok_made_tables T h_is_of h_make_kinds h_need_between h_table_of
  have h__law_heap : OK_law_heap P w0 K mg base := ok_law_heap T
  have h__law_draw : OK_law_draw P w0 K mg base := ok_law_draw T
  have h__law_pick : OK_law_pick P w0 K mg base := ok_law_pick T h__law_draw
  have h__law_settings : OK_law_settings P w0 K mg base := ok_law_settings T
  have h__law_under : OK_law_under P w0 K mg base := ok_law_under T
  have h__law_value : OK_law_value P w0 K mg base := ok_law_value T h__law_under
  have h__law_table : OK_law_table P w0 K mg base := ok_law_table T h__law_draw h__law_pick h__law_settings h__law_value
  have h__law_names : OK_law_names P w0 K mg base := ok_law_names T h__law_draw h__law_pick
  have h__law_gates : OK_law_gates P w0 K mg base := ok_law_gates T h__law_draw h__law_names h__law_pick h__law_table
  have h__law_made : OK_law_made P w0 K mg base := ok_law_made T h__law_pick h__law_settings
  have h__law_put : OK_law_put P w0 K mg base := ok_law_put T
  have h__law_rows : OK_law_rows P w0 K mg base := ok_law_rows T
  have h__law_closed : OK_law_closed P w0 K mg base := ok_law_closed T h__law_put h__law_rows h__law_settings
  have h_Make : OK_Make P w0 K mg base := ok_Make T M h_is_gate h_is_sequence
  have hE : OKE_made_tables P w0 K mg base := okE_made_tables T (okE_need_between T Z h_is_integer)
  exact law_run T M Z h__law_closed h__law_draw h__law_gates h__law_heap h__law_made h__law_pick h__law_table h_can_make h_made_tables h_put_table h_Make hE lk hcd TB e0 hP hS
end NbZ
open PySem PySem.W PySem.Calls PyProof.Rows
theorem PySem.Challenge.cw_neverboth_k07_whole_all_functions_of_few_holds : PySem.Challenge.rw_neverboth_k07_whole_all_functions_of_few.Holds := by
  w_on; o_law
  refine HandSHeadRun.head_any (r := NbZ.RR) (q := view NbZ.RR.prog [63]) (H := NbZ.hk NbZ.fileL) (ob := NbZ.ob) (M := 4000) (loose := NbZ.loose) (d := HandSHeadRun.topDef NbZ.RR.prog 63) (kwd := []) NbZ.ob_eq
    (by kernel_rfl) (fun s => by kernel_rfl) NbZ.run (by kernel_rfl) (by kernel_rfl) (by kernel_rfl) (by rfl) (by first | assumption | decide +kernel) (by decide +kernel) ⟨rfl, rfl, rfl, rfl, rfl, by decide +kernel⟩ ?hw ?hc
  case hw => w_witness2
  case hc =>
    refine Att.attach_callB (l := PySem.Challenge.rw_neverboth_k07_whole_all_functions_of_few) (n := 63) rfl (by kernel_rfl) fun w s₀ s₁ mg mb fa o pm cd doc a vs ns G Y ho hd hcd hmg0 hobj hints hlen hbits hg => ?_
    obtain ⟨K, KX, c⟩ := Y
    have hmg : mg ("law" : PySem.Str) = some (.ref fa) := by
      have e : (HandSHeadRun.topDef NbZ.RR.prog 63).name = ("law" : PySem.Str) := by kernel_rfl
      rw [← e]
      exact hmg0
    have T := NbZ.tx KX G.T.g c
    have M := NbZ.mk KX G.T.g c
    have Z := NbZ.szm (P := NbZ.RR.prog) c (NbZ.atZ KX G.T.g c) (by kernel_rfl)
    have efa : fa = He.ga K "law" := by
      have := hmg.symm.trans T.d_law.at_
      cases this
      rfl
    subst efa
    obtain ⟨oc, od, osl, kV, doc2, pm2, an, ct, lk, hcd2⟩ := NbZ.lawFn T
    exact Nb.law_end KX G.T.g G.T.b G.T.builtins G.T.nolimit hg G.T.bmain c.empty c.out (PySem.W.codeHd_of_K KX c.hd) hobj hints (Nat.le_trans hlen (by decide)) fun base H TB e0 hP hS => NbZ.law_all T M Z lk hcd2 TB e0 hP hS
