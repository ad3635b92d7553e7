import PyProof.Rows.All
import Wide.All
import OpenK.AllK
import Wide.FinOn
import HandS.ForMost
import HandS.Walk
import HandS.Zip
import HandS.TupAny
import HandS.TupLe
import HandS.Style
import HandS.Conv
import HandS.Wide
import HandS.IsInst
import HandS.More
import HandS.Flow
import KE.GoesEnum
import KE.KDictZip
import PyProof.ListNew
import HandS.ListItems
import PyProof.FactsAll.dict_3
import PyProof.FactsAll.dict_4
import PyProof.SumWalkG
import HandS.Iter
import HandS.Head0
import HandS.Head1
import HandS.Head2
import HandS.HeadEnd
import HandS.HeadHook1
import HandS.HeadHook2
import HandS.HeadHook4
import Wide.Once
import PySem.Challenge.RW_lentpanes_k37_whole_seen_through_all
set_option Elab.async false
set_option linter.all false
set_option maxRecDepth 100000
set_option maxHeartbeats 4000000
/-! K37A: a functional layer over HandS: what readings give as data, the known heap told apart from what changes. -/
namespace K37
open PySem L2

abbrev PD := PyData
/-- what a changing object holds -/
inductive MO where
  | lst (ds : List PD)
  | dct (kvs : List (Key × V))
/-- what a slot is known to hold -/
inductive Sl where
  | no
  | val (d : PD)
  | ml (l : Addr)

variable {K : PySem.W.Frag}

theorem dp_mono {H H' : Hp} (s : Same H H') : ∀ {v : V} {d : PD}, Dp K H v d → Dp K H' v d := by
  intro v d h
  induction h using Dp.rec (motive_2 := fun vs ds _ => DpAll K H' vs ds) with
  | non => exact .non
  | bl b => exact .bl b
  | int i => exact .int i
  | str x => exact .str x
  | lst h _ ih => exact .lst (s.seq h) ih
  | tup h _ ih =>
    refine .tup ?_ ih
    rcases h with (h | ⟨o, h⟩) | h
    · exact .inl (.inl (s _ _ h))
    · exact .inl (.inr ⟨o, s _ _ h⟩)
    · exact .inr h
  | nil => exact .nil
  | cons _ _ h1 h2 => exact .cons h1 h2
theorem dpa_mono {H H' : Hp} (s : Same H H') : ∀ {vs : List V} {ds : List PD}, DpAll K H vs ds → DpAll K H' vs ds
  | _, _, .nil => .nil
  | _, _, .cons h t => .cons (dp_mono s h) (dpa_mono s t)
theorem sqt_mono {H H' : Hp} {a : Addr} {xs : List V} (s : Same H H') (h : SqT K H a xs) : SqT K H' a xs := by
  rcases h with (h | ⟨o, h⟩) | h
  · exact .inl (.inl (s _ _ h))
  · exact .inl (.inr ⟨o, s _ _ h⟩)
  · exact .inr h
theorem dpa_len {H : Hp} : ∀ {vs : List V} {ds : List PD}, DpAll K H vs ds → vs.length = ds.length
  | _, _, .nil => rfl
  | _, _, .cons _ t => by simp [dpa_len t]
theorem dpa_get {H : Hp} : ∀ {vs : List V} {ds : List PD} {i : Nat} {d : PD}, DpAll K H vs ds → ds[i]? = some d → ∃ v, vs[i]? = some v ∧ Dp K H v d
  | _, _, _, _, .nil, e => by simp at e
  | _, _, 0, _, .cons h t, e => by simp at e; subst e; exact ⟨_, rfl, h⟩
  | _, _, i + 1, d, .cons h t, e => by
    obtain ⟨v, h1, h2⟩ := dpa_get (i := i) t (by simpa using e)
    exact ⟨v, by simpa using h1, h2⟩
theorem dpa_get2 {H : Hp} : ∀ {vs : List V} {ds : List PD} {i : Nat} {v : V}, DpAll K H vs ds → vs[i]? = some v → ∃ d, ds[i]? = some d ∧ Dp K H v d
  | _, _, _, _, .nil, e => by simp at e
  | _, _, 0, _, .cons h t, e => by simp at e; subst e; exact ⟨_, rfl, h⟩
  | _, _, i + 1, v, .cons h t, e => by
    obtain ⟨d, h1, h2⟩ := dpa_get2 (i := i) t (by simpa using e)
    exact ⟨d, by simpa using h1, h2⟩
theorem dpa_app {H : Hp} : ∀ {vs ws : List V} {ds es : List PD}, DpAll K H vs ds → DpAll K H ws es → DpAll K H (vs ++ ws) (ds ++ es)
  | _, _, _, _, .nil, s => s
  | _, _, _, _, .cons h t, s => .cons h (dpa_app t s)
theorem dpa_take {H : Hp} : ∀ {vs : List V} {ds : List PD} (n : Nat), DpAll K H vs ds → DpAll K H (vs.take n) (ds.take n)
  | _, _, 0, _ => .nil
  | _, _, _ + 1, .nil => .nil
  | _, _, n + 1, .cons h t => .cons h (dpa_take n t)
theorem dpa_drop {H : Hp} : ∀ {vs : List V} {ds : List PD} (n : Nat), DpAll K H vs ds → DpAll K H (vs.drop n) (ds.drop n)
  | _, _, 0, h => h
  | _, _, _ + 1, .nil => .nil
  | _, _, n + 1, .cons h t => dpa_drop n t
theorem dpa_rev {H : Hp} : ∀ {vs : List V} {ds : List PD}, DpAll K H vs ds → DpAll K H vs.reverse ds.reverse
  | _, _, .nil => .nil
  | _, _, .cons h t => by
    rw [List.reverse_cons, List.reverse_cons]
    exact dpa_app (dpa_rev t) (.cons h .nil)
theorem dpa_rep {H : Hp} {vs : List V} {ds : List PD} (h : DpAll K H vs ds) : ∀ n : Nat, DpAll K H (List.replicate n vs).flatten (List.replicate n ds).flatten
  | 0 => .nil
  | n + 1 => by
    rw [List.replicate_succ, List.replicate_succ, List.flatten_cons, List.flatten_cons]
    exact dpa_app h (dpa_rep h n)
theorem dpa_ints {H : Hp} : ∀ {vs : List V} {ns : List Int}, DpAll K H vs (ns.map PyData.int) → vs = ns.map V.int
  | vs, [], h => by cases h; rfl
  | vs, n :: ns, h => by
    cases h with
    | cons h t =>
      cases h
      rw [dpa_ints t]
      rfl
theorem dpa_of_ints {H : Hp} : ∀ (ns : List Int), DpAll K H (ns.map V.int) (ns.map PyData.int)
  | [] => .nil
  | n :: ns => .cons (.int n) (dpa_of_ints ns)
theorem dpa_bls {H : Hp} : ∀ {vs : List V} {bs : List Bool}, DpAll K H vs (bs.map PyData.bool) → vs = bs.map V.bl
  | vs, [], h => by cases h; rfl
  | vs, n :: ns, h => by
    cases h with
    | cons h t =>
      cases h
      rw [dpa_bls t]
      rfl

/-! ### the state -/
/-- from the entry (known H0, actual H10): the known heap H, the actual H1; what else was there is kept but at C -/
structure Ext (C : List Addr) (H0 H10 H H1 : Hp) : Prop where
  known : Same H0 H
  sub : Same H H1
  keep : ∀ b o, b ∉ C → H10 b = some o → H1 b = some o
  fresh : ∀ b, H0 b = none → H b ≠ none → H10 b = none

def SlOk (K : PySem.W.Frag) (H : Hp) (x : Option (Option V)) : Sl → Prop
  | .no => True
  | .val d => ∃ v, x = some (some v) ∧ Dp K H v d
  | .ml l => x = some (some (.ref l))
def MOk (K : PySem.W.Frag) (H H1 : Hp) (l : Addr) : MO → Prop
  | .lst ds => ∃ xs, H1 l = some (.lst xs) ∧ DpAll K H xs ds
  | .dct kvs => H1 l = some (.dK kvs)
abbrev Ms := List (Addr × MO)

structure En (K : PySem.W.Frag) (C : List Addr) (H0 H10 : Hp) (M : Ms) (H H1 : Hp) (ρ : List Sl) (σ : L2.St) : Prop where
  ext : Ext C H0 H10 H H1
  len : σ.length = ρ.length
  slots : ∀ (i : Nat) s, ρ[i]? = some s → SlOk K H σ[i]? s
  mem : ∀ p ∈ M, H p.1 = none ∧ (p.1 ∈ C ∨ H10 p.1 = none) ∧ MOk K H H1 p.1 p.2
  nd : (M.map (·.1)).Nodup
  cin : ∀ c ∈ C, c ∈ M.map (·.1)

section
variable {C : List Addr} {H0 H10 : Hp} {M : Ms} {H H1 H' H2 : Hp} {ρ : List Sl} {σ : L2.St}
theorem MOk.mono {l : Addr} {o : MO} (h : MOk K H H1 l o) (s : Same H H') (k : ∀ u, H1 l = some u → H2 l = some u) : MOk K H' H2 l o := by
  cases o with
  | lst ds =>
    obtain ⟨xs, h1, h2⟩ := h
    exact ⟨xs, k _ h1, dpa_mono s h2⟩
  | dct kvs => exact k _ h
theorem MOk.some {l : Addr} {o : MO} (h : MOk K H H1 l o) : H1 l ≠ none := by
  cases o with
  | lst ds =>
    obtain ⟨xs, h1, h2⟩ := h
    rw [h1]
    intro z
    cases z
  | dct kvs =>
    have h1 : H1 l = _ := h
    rw [h1]
    intro z
    cases z
theorem SlOk.mono {x : Option (Option V)} {s : Sl} (h : SlOk K H x s) (e : Same H H') : SlOk K H' x s := by
  cases s with
  | no => trivial
  | val d =>
    obtain ⟨v, h1, h2⟩ := h
    exact ⟨v, h1, dp_mono e h2⟩
  | ml l => exact h
theorem En.sub (E : En K C H0 H10 M H H1 ρ σ) : Same H H1 := E.ext.sub
/-- a pure step: the known heap grows by new objects, all else is kept -/
theorem En.grow (E : En K C H0 H10 M H H1 ρ σ) (x : Ext [] H H1 H' H2) : En K C H0 H10 M H' H2 ρ σ where
  ext := ⟨E.ext.known.trans x.known, x.sub, fun b o hb e => x.keep b o (by simp) (E.ext.keep b o hb e), fun b h0 hn => by
    cases q : H b with
    | some u => exact E.ext.fresh b h0 (by rw [q]; simp)
    | none =>
      have q1 := x.fresh b q hn
      cases q2 : H10 b with
      | none => rfl
      | some u =>
        by_cases hc : b ∈ C
        · obtain ⟨p, hp, e⟩ := List.mem_map.mp (E.cin b hc)
          have := (E.mem p hp).2.2.some
          rw [e] at this
          exact absurd q1 this
        · rw [E.ext.keep b u hc q2] at q1
          cases q1⟩
  len := E.len
  slots := fun i s e => (E.slots i s e).mono x.known
  mem := fun p hp => by
    obtain ⟨h1, h2, h3⟩ := E.mem p hp
    refine ⟨?_, h2, h3.mono x.known fun u e => x.keep _ _ (by simp) e⟩
    cases q : H' p.1 with
    | none => rfl
    | some u =>
      have := x.fresh p.1 h1 (by rw [q]; simp)
      exact absurd this h3.some
  nd := E.nd
  cin := E.cin
theorem Ext.refl (s : Same H H1) : Ext C H H1 H H1 := ⟨Same.refl _, s, fun _ _ _ e => e, fun b h0 hn => absurd h0 hn⟩
/-- a new object laid and known -/
theorem Ext.new {p : Addr} {o : HO} (s : Same H H1) (hp : H1 p = none) : Ext [] H H1 (upd H p o) (upd H1 p o) where
  known := fun b u e => by
    rw [upd_ne (ne_of_none e (s.free hp))]
    exact e
  sub := fun b u e => by
    by_cases hb : b = p
    · subst hb
      rw [upd_same] at e ⊢
      exact e
    · rw [upd_ne hb] at e ⊢
      exact s b u e
  keep := fun b u _ e => by
    rw [upd_ne (ne_of_none e hp)]
    exact e
  fresh := fun b h0 hn => by
    by_cases hb : b = p
    · rw [hb]; exact hp
    · rw [upd_ne hb] at hn
      exact absurd h0 hn
theorem En.new {p : Addr} {o : HO} (E : En K C H0 H10 M H H1 ρ σ) (hp : H1 p = none) : En K C H0 H10 M (upd H p o) (upd H1 p o) ρ σ := E.grow (Ext.new E.sub hp)
theorem En.val {i : Nat} {d : PD} (E : En K C H0 H10 M H H1 ρ σ) (h : ρ[i]? = some (.val d)) : ∃ v, σ[i]? = some (some v) ∧ Dp K H v d := E.slots i _ h
theorem En.mutA {i : Nat} {l : Addr} (E : En K C H0 H10 M H H1 ρ σ) (h : ρ[i]? = some (.ml l)) : σ[i]? = some (some (.ref l)) := E.slots i _ h
/-- a slot is stored -/
theorem En.set {i : Nat} {s : Sl} {v : V} (E : En K C H0 H10 M H H1 ρ σ) (h : SlOk K H (some (some v)) s) : En K C H0 H10 M H H1 (ρ.set i s) (σ.set i (some v)) where
  ext := E.ext
  len := by rw [List.length_set, List.length_set, E.len]
  slots := fun j t e => by
    by_cases hj : i = j
    · subst hj
      by_cases hi : i < ρ.length
      · rw [List.getElem?_set_self hi] at e
        cases e
        rw [List.getElem?_set_self (by rw [E.len]; exact hi)]
        exact h
      · rw [List.getElem?_eq_none (by rw [List.length_set]; omega)] at e
        cases e
    · rw [List.getElem?_set_ne hj] at e ⊢
      exact E.slots j t e
  mem := E.mem
  nd := E.nd
  cin := E.cin
theorem En.setV {i : Nat} {d : PD} {v : V} (E : En K C H0 H10 M H H1 ρ σ) (h : Dp K H v d) : En K C H0 H10 M H H1 (ρ.set i (.val d)) (σ.set i (some v)) := E.set ⟨v, rfl, h⟩
/-- forgetting a slot -/
theorem En.forget {i : Nat} (E : En K C H0 H10 M H H1 ρ σ) : En K C H0 H10 M H H1 (ρ.set i .no) (σ.set i none) where
  ext := E.ext
  len := by rw [List.length_set, List.length_set, E.len]
  slots := fun j t e => by
    by_cases hj : i = j
    · subst hj
      by_cases hi : i < ρ.length
      · rw [List.getElem?_set_self hi] at e
        cases e
        trivial
      · rw [List.getElem?_eq_none (by rw [List.length_set]; omega)] at e
        cases e
    · rw [List.getElem?_set_ne hj] at e ⊢
      exact E.slots j t e
  mem := E.mem
  nd := E.nd
  cin := E.cin
/-- a new object laid, to be changed -/
theorem En.newM {p : Addr} {o : HO} {m : MO} (E : En K C H0 H10 M H H1 ρ σ) (hp : H1 p = none) (hm : MOk K H (upd H1 p o) p m) : En K C H0 H10 ((p, m) :: M) H (upd H1 p o) ρ σ where
  ext := ⟨E.ext.known, fun b u e => by
    have e1 := E.sub b u e
    rw [upd_ne (ne_of_none e1 hp)]
    exact e1, fun b u hb e => by
    have e1 := E.ext.keep b u hb e
    rw [upd_ne (ne_of_none e1 hp)]
    exact e1, E.ext.fresh⟩
  len := E.len
  slots := E.slots
  mem := fun q hq => by
    rcases List.mem_cons.mp hq with rfl | hq
    · refine ⟨E.sub.free hp, ?_, hm⟩
      by_cases hc : p ∈ C
      · exact .inl hc
      · refine .inr ?_
        show H10 p = none
        cases z : H10 p with
        | none => rfl
        | some u =>
          rw [E.ext.keep p u hc z] at hp
          cases hp
    · obtain ⟨h1, h2, h3⟩ := E.mem q hq
      have hne : q.1 ≠ p := fun z => h3.some (by rw [z]; exact hp)
      exact ⟨h1, h2, h3.mono (Same.refl _) fun u e => by rw [upd_ne hne]; exact e⟩
  nd := by
    rw [List.map_cons, List.nodup_cons]
    refine ⟨fun z => ?_, E.nd⟩
    obtain ⟨q, hq, e⟩ := List.mem_map.mp z
    exact (E.mem q hq).2.2.some (by rw [e]; exact hp)
  cin := fun c hc => by
    rw [List.map_cons]
    exact List.mem_cons_of_mem _ (E.cin c hc)
/-- the first changing object is changed -/
theorem En.chg {p : Addr} {o : HO} {m m' : MO} (E : En K C H0 H10 ((p, m) :: M) H H1 ρ σ) (hm : MOk K H (upd H1 p o) p m') : En K C H0 H10 ((p, m') :: M) H (upd H1 p o) ρ σ where
  ext := ⟨E.ext.known, fun b u e => by
    have h1 := (E.mem _ (List.mem_cons_self ..)).1
    rw [upd_ne (ne_of_none e h1)]
    exact E.sub b u e, fun b u hb e => by
    have h2 := (E.mem _ (List.mem_cons_self ..)).2.1
    by_cases hbp : b = p
    · subst hbp
      rcases h2 with h2 | h2
      · exact absurd h2 hb
      · rw [h2] at e
        cases e
    · rw [upd_ne hbp]
      exact E.ext.keep b u hb e, E.ext.fresh⟩
  len := E.len
  slots := E.slots
  mem := fun q hq => by
    rcases List.mem_cons.mp hq with rfl | hq
    · obtain ⟨h1, h2, h3⟩ := E.mem _ (List.mem_cons_self ..)
      exact ⟨h1, h2, hm⟩
    · obtain ⟨h1, h2, h3⟩ := E.mem q (List.mem_cons_of_mem _ hq)
      have hne : q.1 ≠ p := fun z => by
        have := E.nd
        rw [List.map_cons, List.nodup_cons] at this
        exact this.1 (List.mem_map.mpr ⟨q, hq, z⟩)
      exact ⟨h1, h2, h3.mono (Same.refl _) fun u e => by rw [upd_ne hne]; exact e⟩
  nd := E.nd
  cin := E.cin
/-- a changing list becomes known: no more changes -/
theorem En.freeze {p : Addr} {ds : List PD} (E : En K C H0 H10 ((p, .lst ds) :: M) H H1 ρ σ) (hc : p ∉ C) :
    ∃ xs, En K C H0 H10 M (upd H p (.lst xs)) H1 ρ σ ∧ Dp K (upd H p (.lst xs)) (.ref p) (.list ds) ∧ Same H (upd H p (.lst xs)) := by
  obtain ⟨h1, h2, xs, h3, h4⟩ := E.mem _ (List.mem_cons_self ..)
  have hs : Same H (upd H p (.lst xs)) := fun b u e => by
    rw [upd_ne (ne_of_none e h1)]
    exact e
  refine ⟨xs, ⟨⟨E.ext.known.trans hs, fun b u e => ?_, E.ext.keep, fun b h0 hn => ?_⟩, E.len, fun i s e => (E.slots i s e).mono hs, fun q hq => ?_, ?_, fun c hcc => ?_⟩, .lst (SqL.of upd_same) (dpa_mono hs h4), hs⟩
  · by_cases hb : b = p
    · subst hb
      rw [upd_same] at e
      cases e
      exact h3
    · rw [upd_ne hb] at e
      exact E.sub b u e
  · by_cases hb : b = p
    · rw [hb]
      exact h2.resolve_left hc
    · rw [upd_ne hb] at hn
      exact E.ext.fresh b h0 hn
  · obtain ⟨g1, g2, g3⟩ := E.mem q (List.mem_cons_of_mem _ hq)
    have hne : q.1 ≠ p := fun z => by
      have := E.nd
      rw [List.map_cons, List.nodup_cons] at this
      exact this.1 (List.mem_map.mpr ⟨q, hq, z⟩)
    exact ⟨by rw [upd_ne hne]; exact g1, g2, g3.mono hs fun u e => e⟩
  · have := E.nd
    rw [List.map_cons, List.nodup_cons] at this
    exact this.2
  · rcases List.mem_cons.mp (E.cin c hcc) with z | z
    · exact absurd (show p ∈ C from by rw [← show c = p from z]; exact hcc) hc
    · exact z
/-- the order of the changing objects is nothing -/
theorem En.perm {M' : Ms} (E : En K C H0 H10 M H H1 ρ σ) (h : M.Perm M') : En K C H0 H10 M' H H1 ρ σ :=
  ⟨E.ext, E.len, E.slots, fun p hp => E.mem p (h.mem_iff.mpr hp), (h.map (·.1)).nodup_iff.mp E.nd, fun c hc => (h.map (·.1)).mem_iff.mp (E.cin c hc)⟩
/-- a changing object that is not asked of any more -/
theorem En.drop {p : Addr × MO} (E : En K C H0 H10 (p :: M) H H1 ρ σ) (hc : p.1 ∉ C) : En K C H0 H10 M H H1 ρ σ :=
  ⟨E.ext, E.len, E.slots, fun q hq => E.mem q (List.mem_cons_of_mem _ hq), by
    have := E.nd
    rw [List.map_cons, List.nodup_cons] at this
    exact this.2, fun c hcc => by
    rcases List.mem_cons.mp (E.cin c hcc) with z | z
    · exact absurd (show p.1 ∈ C from by rw [← show c = p.1 from z]; exact hcc) hc
    · exact z⟩
end
end K37

set_option Elab.async false
set_option linter.all false
set_option maxRecDepth 100000
set_option maxHeartbeats 4000000
namespace K37
open PySem L2

def Ins (Md M : Ms) : Prop := ∀ x ∈ Md, x ∈ M
theorem Ins.refl (M : Ms) : Ins M M := fun _ h => h
theorem Ins.cons {Md M : Ms} (h : Ins Md M) (p : Addr × MO) : Ins Md (p :: M) := fun x hx => List.mem_cons_of_mem _ (h x hx)

section
variable (K : PySem.W.Frag) (Md : Ms) (ρ : List Sl)
/-- a reading gives the data d; the known heap grows -/
structure EvD (te : TE) (d : PD) : Prop where
  run : ∀ {C : List Addr} {H0 H10 : Hp} {M : Ms} {H H1 : Hp} {σ : L2.St}, En K C H0 H10 M H H1 ρ σ → Ins Md M →
    ∀ Q : VK, (∀ v H' H2, En K C H0 H10 M H' H2 ρ σ → Same H H' → Dp K H' v d → Q v H2) → te σ H1 Q
/-- .. a new list, tracked -/
structure EvL (te : TE) (ds : List PD) : Prop where
  run : ∀ {C : List Addr} {H0 H10 : Hp} {M : Ms} {H H1 : Hp} {σ : L2.St}, En K C H0 H10 M H H1 ρ σ → Ins Md M →
    ∀ Q : VK, (∀ p xs H' H2, En K C H0 H10 M H' H2 ρ σ → Same H H' → H' p = some (.lst xs) → DpAll K H' xs ds → Q (.ref p) H2) → te σ H1 Q
structure EvT (tt : TT) (b : Bool) : Prop where
  run : ∀ {C : List Addr} {H0 H10 : Hp} {M : Ms} {H H1 : Hp} {σ : L2.St}, En K C H0 H10 M H H1 ρ σ → Ins Md M →
    ∀ Q : Bool → Hp → Prop, (∀ H' H2, En K C H0 H10 M H' H2 ρ σ → Same H H' → Q b H2) → tt σ H1 Q
structure EvA (ta : TA) (ds : List PD) : Prop where
  run : ∀ {C : List Addr} {H0 H10 : Hp} {M : Ms} {H H1 : Hp} {σ : L2.St}, En K C H0 H10 M H H1 ρ σ → Ins Md M →
    ∀ Q : List V → Hp → Prop, (∀ vs H' H2, En K C H0 H10 M H' H2 ρ σ → Same H H' → DpAll K H' vs ds → Q vs H2) → ta σ H1 Q
structure EvO (to : TO) (o : Option Int) : Prop where
  run : ∀ {C : List Addr} {H0 H10 : Hp} {M : Ms} {H H1 : Hp} {σ : L2.St}, En K C H0 H10 M H H1 ρ σ → Ins Md M →
    ∀ Q : Option Int → Hp → Prop, (∀ H' H2, En K C H0 H10 M H' H2 ρ σ → Same H H' → Q o H2) → to σ H1 Q
end
section
variable (K : PySem.W.Frag)
structure RD (r : R2) (dx dy d : PD) : Prop where
  run : ∀ {H H1 : Hp} {x y : V}, Same H H1 → Dp K H x dx → Dp K H y dy → ∀ Q : VK, (∀ v H' H2, Ext [] H H1 H' H2 → Dp K H' v d → Q v H2) → r x y H1 Q
structure UD (r : V → Hp → VK → Prop) (dx d : PD) : Prop where
  run : ∀ {H H1 : Hp} {x : V}, Same H H1 → Dp K H x dx → ∀ Q : VK, (∀ v H' H2, Ext [] H H1 H' H2 → Dp K H' v d → Q v H2) → r x H1 Q
structure CD (r : List V → Hp → VK → Prop) (ds : List PD) (d : PD) : Prop where
  run : ∀ {H H1 : Hp} {vs : List V}, Same H H1 → DpAll K H vs ds → ∀ Q : VK, (∀ v H' H2, Ext [] H H1 H' H2 → Dp K H' v d → Q v H2) → r vs H1 Q
structure SD (r : V → Option Int → Option Int → Hp → VK → Prop) (dx : PD) (lo hi : Option Int) (d : PD) : Prop where
  run : ∀ {H H1 : Hp} {x : V}, Same H H1 → Dp K H x dx → ∀ Q : VK, (∀ v H' H2, Ext [] H H1 H' H2 → Dp K H' v d → Q v H2) → r x lo hi H1 Q
/-- a walk over data -/
structure WkD (J : It) (H : Hp) (ds : List PD) : Prop where
  go : ∀ (i : Nat) d H1, Same H H1 → ds[i]? = some d → J.go i H1
  yld : ∀ (i : Nat) d H' H1 x H2, Same H H' → Same H' H1 → ds[i]? = some d → J.yld i H1 x H2 → ∃ H'', Ext [] H' H1 H'' H2 ∧ Dp K H'' x d
  stop : ∀ H1, Same H H1 → J.stop ds.length H1
structure ItD (Md : Ms) (ρ : List Sl) (wi : TI) (ds : List PD) : Prop where
  run : ∀ {C : List Addr} {H0 H10 : Hp} {M : Ms} {H H1 : Hp} {σ : L2.St}, En K C H0 H10 M H H1 ρ σ → Ins Md M →
    ∀ R : It → Hp → Prop, (∀ J H' H2, En K C H0 H10 M H' H2 ρ σ → Same H H' → WkD K J H' ds → R J H2) → wi σ H1 R
/-- a target takes data: only the slots js change -/
structure GD (g : TG) (d : PD) (ρ ρ' : List Sl) (js : List Nat) : Prop where
  run : ∀ {C : List Addr} {H0 H10 : Hp} {M : Ms} {H H1 : Hp} {σ : L2.St} {v : V}, En K C H0 H10 M H H1 ρ σ → Dp K H v d →
    ∀ Q : L2.St → Hp → Prop, (∀ σ', En K C H0 H10 M H H1 ρ' σ' → (σ'.length = σ.length ∧ ∀ i : Nat, i ∉ js → σ'[i]? = σ[i]?) → Q σ' H1) → g v σ H1 Q
structure GDs (g : TGs) (ds : List PD) (ρ ρ' : List Sl) (js : List Nat) : Prop where
  run : ∀ {C : List Addr} {H0 H10 : Hp} {M : Ms} {H H1 : Hp} {σ : L2.St} {vs : List V}, En K C H0 H10 M H H1 ρ σ → DpAll K H vs ds →
    ∀ Q : L2.St → Hp → Prop, (∀ σ', En K C H0 H10 M H H1 ρ' σ' → (σ'.length = σ.length ∧ ∀ i : Nat, i ∉ js → σ'[i]? = σ[i]?) → Q σ' H1) → g vs σ H1 Q
/-- a statement -/
structure StD (C : List Addr) (M : Ms) (ρ : List Sl) (ts : TS) (N : Ms → List Sl → Prop) (R : Ms → PD → Prop) : Prop where
  run : ∀ {H0 H10 H H1 : Hp} {σ : L2.St}, En K C H0 H10 M H H1 ρ σ → ∀ D : Ends,
      (∀ M' ρ' H' H2 σ', N M' ρ' → En K C H0 H10 M' H' H2 ρ' σ' → Same H H' → D.nx σ' H2) →
      (∀ d M' ρ' v H' H2 σ', R M' d → En K C H0 H10 M' H' H2 ρ' σ' → Same H H' → Dp K H' v d → D.rt v H2) → ts D σ H1
/-- the promise of a def that changes nothing -/
def spD (R : List PD → PD → Prop) : Sp := fun vs H1 Q _ => ∃ H ds d, Same H H1 ∧ DpAll K H vs ds ∧ R ds d ∧ ∀ v H' H2, Ext [] H H1 H' H2 → Dp K H' v d → Q v H2
end

section
variable {K : PySem.W.Frag} {Md : Ms} {ρ ρ' : List Sl}
instance {te d} : CoeFun (EvD K Md ρ te d) (fun _ => ∀ {C : List Addr} {H0 H10 : Hp} {M : Ms} {H H1 : Hp} {σ : L2.St}, En K C H0 H10 M H H1 ρ σ → Ins Md M →
  ∀ Q : VK, (∀ v H' H2, En K C H0 H10 M H' H2 ρ σ → Same H H' → Dp K H' v d → Q v H2) → te σ H1 Q) := ⟨EvD.run⟩
instance {te ds} : CoeFun (EvL K Md ρ te ds) (fun _ => ∀ {C : List Addr} {H0 H10 : Hp} {M : Ms} {H H1 : Hp} {σ : L2.St}, En K C H0 H10 M H H1 ρ σ → Ins Md M →
  ∀ Q : VK, (∀ p xs H' H2, En K C H0 H10 M H' H2 ρ σ → Same H H' → H' p = some (.lst xs) → DpAll K H' xs ds → Q (.ref p) H2) → te σ H1 Q) := ⟨EvL.run⟩
instance {tt b} : CoeFun (EvT K Md ρ tt b) (fun _ => ∀ {C : List Addr} {H0 H10 : Hp} {M : Ms} {H H1 : Hp} {σ : L2.St}, En K C H0 H10 M H H1 ρ σ → Ins Md M →
  ∀ Q : Bool → Hp → Prop, (∀ H' H2, En K C H0 H10 M H' H2 ρ σ → Same H H' → Q b H2) → tt σ H1 Q) := ⟨EvT.run⟩
instance {ta ds} : CoeFun (EvA K Md ρ ta ds) (fun _ => ∀ {C : List Addr} {H0 H10 : Hp} {M : Ms} {H H1 : Hp} {σ : L2.St}, En K C H0 H10 M H H1 ρ σ → Ins Md M →
  ∀ Q : List V → Hp → Prop, (∀ vs H' H2, En K C H0 H10 M H' H2 ρ σ → Same H H' → DpAll K H' vs ds → Q vs H2) → ta σ H1 Q) := ⟨EvA.run⟩
instance {to o} : CoeFun (EvO K Md ρ to o) (fun _ => ∀ {C : List Addr} {H0 H10 : Hp} {M : Ms} {H H1 : Hp} {σ : L2.St}, En K C H0 H10 M H H1 ρ σ → Ins Md M →
  ∀ Q : Option Int → Hp → Prop, (∀ H' H2, En K C H0 H10 M H' H2 ρ σ → Same H H' → Q o H2) → to σ H1 Q) := ⟨EvO.run⟩
instance {r dx dy d} : CoeFun (RD K r dx dy d) (fun _ => ∀ {H H1 : Hp} {x y : V}, Same H H1 → Dp K H x dx → Dp K H y dy → ∀ Q : VK, (∀ v H' H2, Ext [] H H1 H' H2 → Dp K H' v d → Q v H2) → r x y H1 Q) := ⟨RD.run⟩
instance {r dx d} : CoeFun (UD K r dx d) (fun _ => ∀ {H H1 : Hp} {x : V}, Same H H1 → Dp K H x dx → ∀ Q : VK, (∀ v H' H2, Ext [] H H1 H' H2 → Dp K H' v d → Q v H2) → r x H1 Q) := ⟨UD.run⟩
instance {r ds d} : CoeFun (CD K r ds d) (fun _ => ∀ {H H1 : Hp} {vs : List V}, Same H H1 → DpAll K H vs ds → ∀ Q : VK, (∀ v H' H2, Ext [] H H1 H' H2 → Dp K H' v d → Q v H2) → r vs H1 Q) := ⟨CD.run⟩
instance {r dx lo hi d} : CoeFun (SD K r dx lo hi d) (fun _ => ∀ {H H1 : Hp} {x : V}, Same H H1 → Dp K H x dx → ∀ Q : VK, (∀ v H' H2, Ext [] H H1 H' H2 → Dp K H' v d → Q v H2) → r x lo hi H1 Q) := ⟨SD.run⟩
instance {wi ds} : CoeFun (ItD K Md ρ wi ds) (fun _ => ∀ {C : List Addr} {H0 H10 : Hp} {M : Ms} {H H1 : Hp} {σ : L2.St}, En K C H0 H10 M H H1 ρ σ → Ins Md M →
  ∀ R : It → Hp → Prop, (∀ J H' H2, En K C H0 H10 M H' H2 ρ σ → Same H H' → WkD K J H' ds → R J H2) → wi σ H1 R) := ⟨ItD.run⟩
instance {g d js} : CoeFun (GD K g d ρ ρ' js) (fun _ => ∀ {C : List Addr} {H0 H10 : Hp} {M : Ms} {H H1 : Hp} {σ : L2.St} {v : V}, En K C H0 H10 M H H1 ρ σ → Dp K H v d →
  ∀ Q : L2.St → Hp → Prop, (∀ σ', En K C H0 H10 M H H1 ρ' σ' → (σ'.length = σ.length ∧ ∀ i : Nat, i ∉ js → σ'[i]? = σ[i]?) → Q σ' H1) → g v σ H1 Q) := ⟨GD.run⟩
instance {g ds js} : CoeFun (GDs K g ds ρ ρ' js) (fun _ => ∀ {C : List Addr} {H0 H10 : Hp} {M : Ms} {H H1 : Hp} {σ : L2.St} {vs : List V}, En K C H0 H10 M H H1 ρ σ → DpAll K H vs ds →
  ∀ Q : L2.St → Hp → Prop, (∀ σ', En K C H0 H10 M H H1 ρ' σ' → (σ'.length = σ.length ∧ ∀ i : Nat, i ∉ js → σ'[i]? = σ[i]?) → Q σ' H1) → g vs σ H1 Q) := ⟨GDs.run⟩
instance {C M ts N R} : CoeFun (StD K C M ρ ts N R) (fun _ => ∀ {H0 H10 H H1 : Hp} {σ : L2.St}, En K C H0 H10 M H H1 ρ σ → ∀ D : Ends,
    (∀ M' ρ' H' H2 σ', N M' ρ' → En K C H0 H10 M' H' H2 ρ' σ' → Same H H' → D.nx σ' H2) →
    (∀ d M' ρ' v H' H2 σ', R M' d → En K C H0 H10 M' H' H2 ρ' σ' → Same H H' → Dp K H' v d → D.rt v H2) → ts D σ H1) := ⟨StD.run⟩
end

section
variable {K : PySem.W.Frag} {Md : Ms} {ρ : List Sl} {ta tb te tc tl : TE} {t u tt : TT} {dx dy d e : PD} {b : Bool} {r : R2}

theorem el_d {te : TE} {ds : List PD} (h : EvL K Md ρ te ds) : EvD K Md ρ te (.list ds) := .mk <| fun E hi Q k =>
  h E hi Q fun p xs H' H2 E' s hp ha => k _ H' H2 E' s (.lst (SqL.of hp) ha)
theorem ev_is (h : EvD K Md ρ te d) (q : d = e) : EvD K Md ρ te e := q ▸ h
theorem et_is {c : Bool} (h : EvT K Md ρ t b) (q : b = c) : EvT K Md ρ t c := q ▸ h
theorem ev_var {i : Nat} (h : ρ[i]? = some (.val d)) : EvD K Md ρ (tVar i) d := .mk <| fun {C H0 H10 M H H1 σ} E _ Q k => by
  obtain ⟨v, h1, h2⟩ := E.val h
  exact ⟨v, h1, k v H H1 E (Same.refl _) h2⟩
theorem ev_c {v : V} {d : PD} (h : ∀ H, Dp K H v d) : EvD K Md ρ (tC v) d := .mk <| fun {C H0 H10 M H H1 σ} E _ Q k => k v H H1 E (Same.refl _) (h H)
theorem ev_int {i : Int} : EvD K Md ρ (tC (.int i)) (.int i) := ev_c fun _ => .int i
theorem ev_bl {i : Bool} : EvD K Md ρ (tC (.bl i)) (.bool i) := ev_c fun _ => .bl i
theorem ev_str {i : Str} : EvD K Md ρ (tC (.str i)) (.str i) := ev_c fun _ => .str i
theorem ev_non : EvD K Md ρ (tC .non) .none := ev_c fun _ => .non
theorem ev_op (ha : EvD K Md ρ ta dx) (hb : EvD K Md ρ tb dy) (hr : RD K r dx dy d) : EvD K Md ρ (tOp r ta tb) d := .mk <| fun E hi Q k =>
  ha E hi _ fun x Ha H1a Ea sa px => hb Ea hi _ fun y Hb H1b Eb sb py => hr Eb.sub (dp_mono sb px) py Q fun v H' H2 x p => k v H' H2 (Eb.grow x) ((sa.trans sb).trans x.known) p
theorem ev_un {r : V → Hp → VK → Prop} (ha : EvD K Md ρ ta dx) (hr : UD K r dx d) : EvD K Md ρ (tUn r ta) d := .mk <| fun E hi Q k =>
  ha E hi _ fun x Ha H1a Ea sa px => hr Ea.sub px Q fun v H' H2 x p => k v H' H2 (Ea.grow x) (sa.trans x.known) p
theorem ea_nil : EvA K Md ρ tNil [] := .mk <| fun {C H0 H10 M H H1 σ} E _ Q k => k [] H H1 E (Same.refl _) .nil
theorem ea_cons {tr : TA} {ds : List PD} (ha : EvD K Md ρ ta d) (hr : EvA K Md ρ tr ds) : EvA K Md ρ (tCons ta tr) (d :: ds) := .mk <| fun E hi Q k =>
  ha E hi _ fun x Ha H1a Ea sa px => hr Ea hi _ fun xs Hb H1b Eb sb ps => k (x :: xs) Hb H1b Eb (sa.trans sb) (.cons (dp_mono sb px) ps)
theorem ev_cb {r : List V → Hp → VK → Prop} {ta : TA} {ds : List PD} (ha : EvA K Md ρ ta ds) (hr : CD K r ds d) : EvD K Md ρ (tCB r ta) d := .mk <| fun E hi Q k =>
  ha E hi _ fun vs Ha H1a Ea sa px => hr Ea.sub px Q fun v H' H2 x p => k v H' H2 (Ea.grow x) (sa.trans x.known) p
theorem ev_call {R : List PD → PD → Prop} {ta : TA} {ds : List PD} {E0 : XK} (ha : EvA K Md ρ ta ds) (hR : R ds d) : EvD K Md ρ (tCall (spD K R) [] E0 ta) d := .mk <| fun E hi Q k =>
  ha E hi _ fun vs Ha H1a Ea sa px => ⟨Ha, ds, d, Ea.sub, by rw [List.append_nil]; exact px, hR, fun v H' H2 x p => k v H' H2 (Ea.grow x) (sa.trans x.known) p⟩
theorem eo_none : EvO K Md ρ tNoPart none := .mk <| fun {C H0 H10 M H H1 σ} E _ Q k => k H H1 E (Same.refl _)
theorem eo_some {i : Int} (ha : EvD K Md ρ ta (.int i)) : EvO K Md ρ (tPart ta) (some i) := .mk <| fun E hi Q k =>
  ha E hi _ fun x Ha H1a Ea sa px => by
    cases px
    exact ⟨i, rfl, k Ha H1a Ea sa⟩
theorem ev_sl {r : V → Option Int → Option Int → Hp → VK → Prop} {tl th : TO} {lo hi : Option Int} (ha : EvD K Md ρ te dx) (hl : EvO K Md ρ tl lo) (hh : EvO K Md ρ th hi) (hr : SD K r dx lo hi d) : EvD K Md ρ (tSl r te tl th) d := .mk <| fun E hm Q k =>
  ha E hm _ fun x Ha H1a Ea sa px => hl Ea hm _ fun Hb H1b Eb sb => hh Eb hm _ fun Hc H1c Ec sc => hr Ec.sub (dp_mono sc (dp_mono sb px)) Q fun v H' H2 x p => k v H' H2 (Ec.grow x) (((sa.trans sb).trans sc).trans x.known) p
/-! tests -/
theorem et_test (h : EvD K Md ρ te (.bool b)) : EvT K Md ρ (tTest te) b := .mk <| fun E hi Q k => h E hi _ fun x Ha H1a Ea sa px => by
  cases px
  exact ⟨b, rfl, k Ha H1a Ea sa⟩
theorem et_B (h : EvD K Md ρ te (.bool b)) : EvT K Md ρ (tB te) b := .mk <| fun E hi Q k => h E hi _ fun x Ha H1a Ea sa px => by
  cases px
  exact ⟨b, rfl, k Ha H1a Ea sa⟩
theorem et_yes : EvT K Md ρ tYes true := .mk <| fun {C H0 H10 M H H1 σ} E _ Q k => k H H1 E (Same.refl _)
theorem et_not (h : EvT K Md ρ t b) : EvT K Md ρ (tNot t) (!b) := .mk <| fun E hi Q k => h E hi _ fun H' H2 E' s => k H' H2 E' s
theorem et_and {a c : Bool} (h1 : EvT K Md ρ t a) (h2 : a = true → EvT K Md ρ u c) : EvT K Md ρ (tAnd t u) (a && c) := .mk <| fun E hi Q k => h1 E hi _ fun H' H2 E' s => by
  cases a with
  | true =>
    show u _ H2 Q
    exact h2 rfl E' hi _ fun H'' H3 E'' s' => k H'' H3 E'' (s.trans s')
  | false =>
    show Q false H2
    exact k H' H2 E' s
theorem et_or {a c : Bool} (h1 : EvT K Md ρ t a) (h2 : a = false → EvT K Md ρ u c) : EvT K Md ρ (tOr t u) (a || c) := .mk <| fun E hi Q k => h1 E hi _ fun H' H2 E' s => by
  cases a with
  | true =>
    show Q true H2
    exact k H' H2 E' s
  | false =>
    show u _ H2 Q
    exact h2 rfl E' hi _ fun H'' H3 E'' s' => k H'' H3 E'' (s.trans s')
theorem ev_andV {a c : Bool} (h1 : EvD K Md ρ ta (.bool a)) (h2 : a = true → EvD K Md ρ tb (.bool c)) : EvD K Md ρ (tAndV ta tb) (.bool (a && c)) := .mk <| fun E hi Q k => h1 E hi _ fun x H' H2 E' s px => by
  cases px
  refine ⟨a, rfl, ?_⟩
  cases a with
  | true =>
    show tb _ H2 Q
    exact h2 rfl E' hi _ fun v H'' H3 E'' s' p => k v H'' H3 E'' (s.trans s') p
  | false =>
    show Q (.bl false) H2
    exact k _ H' H2 E' s (.bl _)
theorem ev_orV {a c : Bool} (h1 : EvD K Md ρ ta (.bool a)) (h2 : a = false → EvD K Md ρ tb (.bool c)) : EvD K Md ρ (tOrV ta tb) (.bool (a || c)) := .mk <| fun E hi Q k => h1 E hi _ fun x H' H2 E' s px => by
  cases px
  refine ⟨a, rfl, ?_⟩
  cases a with
  | true =>
    show Q (.bl true) H2
    exact k _ H' H2 E' s (.bl _)
  | false =>
    show tb _ H2 Q
    exact h2 rfl E' hi _ fun v H'' H3 E'' s' p => k v H'' H3 E'' (s.trans s') p
theorem ev_notV {a : Bool} (h1 : EvD K Md ρ ta (.bool a)) : EvD K Md ρ (tNotV ta) (.bool (!a)) := .mk <| fun E hi Q k => h1 E hi _ fun x H' H2 E' s px => by
  cases px
  exact ⟨a, rfl, k _ H' H2 E' s (.bl _)⟩
theorem ev_if (h : EvT K Md ρ t b) (h1 : b = true → EvD K Md ρ ta d) (h2 : b = false → EvD K Md ρ tb d) : EvD K Md ρ (tIf t ta tb) d := .mk <| fun E hi Q k => h E hi _ fun H' H2 E' s => by
  cases b with
  | true =>
    show ta _ H2 Q
    exact h1 rfl E' hi _ fun v H'' H3 E'' s' p => k v H'' H3 E'' (s.trans s') p
  | false =>
    show tb _ H2 Q
    exact h2 rfl E' hi _ fun v H'' H3 E'' s' p => k v H'' H3 E'' (s.trans s') p
theorem ev_chain {r r' : R2} {dz : PD} {a c : Bool} (ha : EvD K Md ρ ta dx) (hb : EvD K Md ρ tb dy) (hc : EvD K Md ρ tc dz) (h1 : RD K r dx dy (.bool a)) (h2 : RD K r' dy dz (.bool c)) : EvD K Md ρ (tChain r r' ta tb tc) (.bool (a && c)) := .mk <| fun E hi Q k =>
  ha E hi _ fun x Ha H1a Ea sa px => hb Ea hi _ fun y Hb H1b Eb sb py => h1 Eb.sub (dp_mono sb px) py _ fun v H' H2 X p => by
    cases p
    refine ⟨a, rfl, ?_⟩
    cases a with
    | true =>
      show tc _ H2 _
      exact hc (Eb.grow X) hi _ fun z Hc H1c Ec sc pz => h2 Ec.sub (dp_mono sc (dp_mono X.known py)) pz Q fun v H'' H3 X' p => k v H'' H3 (Ec.grow X') ((((sa.trans sb).trans X.known).trans sc).trans X'.known) p
    | false =>
      show Q (.bl false) H2
      exact k _ H' H2 (Eb.grow X) ((sa.trans sb).trans X.known) (.bl _)
/-! displays -/
theorem ev_tup {ta : TA} {ds : List PD} (h : EvA K Md ρ ta ds) (hl : ds.length ≤ 100000 := by exact Nat.le_of_ble_eq_true rfl) : EvD K Md ρ (tTup ta) (.tuple ds) := .mk <| fun E hi Q k => h E hi _ fun vs H' H2 E' s p =>
  ⟨Nat.le_trans (by rw [dpa_len p]; exact hl) (by decide), fun q hq => k _ _ _ (E'.new hq) (s.trans (Ext.new E'.sub hq).known) (.tup (SqT.of upd_same) (dpa_mono (Ext.new E'.sub hq).known p))⟩
theorem el_lst {ta : TA} {ds : List PD} (h : EvA K Md ρ ta ds) (hl : ds.length ≤ 100000 := by exact Nat.le_of_ble_eq_true rfl) : EvL K Md ρ (tLst ta) ds := .mk <| fun E hi Q k => h E hi _ fun vs H' H2 E' s p =>
  ⟨Nat.le_trans (by rw [dpa_len p]; exact hl) (by decide), fun q hq => k _ _ _ _ (E'.new hq) (s.trans (Ext.new E'.sub hq).known) upd_same (dpa_mono (Ext.new E'.sub hq).known p)⟩
end

/-! ### slots forgotten by a block -/
def wipeR (ρ : List Sl) : List Nat → List Sl
  | [] => ρ
  | v :: vs => (wipeR ρ vs).set v .no
theorem En.wipe {K : PySem.W.Frag} {C : List Addr} {H0 H10 : Hp} {M : Ms} {H H1 : Hp} {ρ : List Sl} {σ : L2.St} (E : En K C H0 H10 M H H1 ρ σ) : ∀ vs : List Nat, En K C H0 H10 M H H1 (wipeR ρ vs) (L2.wipe σ vs)
  | [] => E
  | v :: vs => (E.wipe vs).forget
theorem wipe_eq {σ σ' : L2.St} (hl : σ'.length = σ.length) : ∀ {vs : List Nat}, (∀ i : Nat, i ∉ vs → σ'[i]? = σ[i]?) → L2.wipe σ' vs = L2.wipe σ vs := by
  intro vs h
  apply List.ext_getElem?
  intro i
  by_cases hi : i ∈ vs
  · have key : ∀ (τ : L2.St) (ws : List Nat), i ∈ ws → (L2.wipe τ ws)[i]? = if i < τ.length then some none else none := by
      intro τ ws
      induction ws with
      | nil => intro q; cases q
      | cons w ws ih =>
        intro q
        show ((L2.wipe τ ws).set w none)[i]? = _
        by_cases e : w = i
        · subst e
          by_cases hw : w < τ.length
          · rw [List.getElem?_set_self (by rw [wipe_length]; exact hw), if_pos hw]
          · rw [List.getElem?_eq_none (by rw [List.length_set, wipe_length]; omega), if_neg hw]
        · rw [List.getElem?_set_ne e]
          rcases List.mem_cons.mp q with q | q
          · exact absurd q.symm e
          · exact ih q
    rw [key σ' vs hi, key σ vs hi, hl]
  · rw [wipe_out hi, wipe_out hi]
    exact h i hi
/-- back from a block: its heaps, the slots as they were -/
theorem En.back {K : PySem.W.Frag} {C : List Addr} {H0 H10 : Hp} {M M' : Ms} {H H1 H' H2 : Hp} {ρ ρ' : List Sl} {σ σ' : L2.St} (E : En K C H0 H10 M H H1 ρ σ) (E' : En K C H0 H10 M' H' H2 ρ' σ') (s : Same H H') : En K C H0 H10 M' H' H2 ρ σ :=
  ⟨E'.ext, E.len, fun i t e => (E.slots i t e).mono s, E'.mem, E'.nd, E'.cin⟩

section
variable {K : PySem.W.Frag} {Md : Ms} {ρ : List Sl}
/-! ### targets -/
theorem gd_name {j : Nat} {d : PD} : GD K (gName j) d ρ (ρ.set j (.val d)) [j] := .mk <| fun E p Q k =>
  k _ (E.setV p) ⟨List.length_set, fun i hi => List.getElem?_set_ne (fun z => hi (by simp [z]))⟩
theorem gds_nil : GDs K gNil [] ρ ρ [] := .mk <| fun E p Q k => by
  cases p
  exact ⟨rfl, k _ E ⟨rfl, fun _ _ => rfl⟩⟩
theorem gds_cons {g : TG} {gs : TGs} {d : PD} {ds : List PD} {ρ' ρ'' : List Sl} {js ks : List Nat} (h : GD K g d ρ ρ' js) (hs : GDs K gs ds ρ' ρ'' ks) : GDs K (gCons g gs) (d :: ds) ρ ρ'' (js ++ ks) := .mk <| fun E p Q k => by
  cases p with
  | cons p1 p2 =>
    refine ⟨_, _, rfl, h E p1 _ fun σ1 E1 t1 => hs E1 p2 _ fun σ2 E2 t2 => k σ2 E2 ⟨t2.1.trans t1.1, fun i hi => ?_⟩⟩
    rw [List.mem_append, not_or] at hi
    rw [t2.2 i hi.2, t1.2 i hi.1]
theorem gd_tup {n : Nat} {gs : TGs} {ds : List PD} {ρ' : List Sl} {js : List Nat} (hs : GDs K gs ds ρ ρ' js) (hn : ds.length = n := by rfl) : GD K (gTup K n gs) (.tuple ds) ρ ρ' js := .mk <| fun E p Q k => by
  cases p with
  | tup h1 h2 => exact ⟨_, _, rfl, sqt_mono E.sub h1, by rw [dpa_len h2]; exact hn, hs E h2 Q k⟩

/-! ### comprehensions -/
theorem el_lc {wi : TI} {g : TG} {tt : TT} {te : TE} {vs : List Nat} {ds : List PD} (F : PD → Option PD) (hi : ItD K Md ρ wi ds) (hl : ds.length ≤ 100000)
    (h : ∀ d ∈ ds, ∃ ρ' js b, GD K g d (wipeR ρ vs) ρ' js ∧ (∀ j ∈ js, j ∈ vs) ∧ EvT K Md ρ' tt b ∧ (b = true → ∃ e, EvD K Md ρ' te e ∧ F d = some e) ∧ (b = false → F d = none)) :
    EvL K Md ρ (tLc wi g tt te vs) (ds.filterMap F) := by
  refine .mk <| fun {C H0 H10 M H H1 σ} E hm Q k => ?_
  refine hi E hm _ fun J Hk H2 E2 s2 W => fun D hD => ?_
  have hDC : D ∉ C := fun hc => by
    obtain ⟨p, hp, e⟩ := List.mem_map.mp (E2.cin D hc)
    exact (E2.mem p hp).2.2.some (by rw [e]; exact hD)
  refine ⟨fun i m Hx => m = ds.length - i ∧ i ≤ ds.length ∧ ∃ H', En K C H0 H10 ((D, .lst ((ds.take i).filterMap F)) :: M) H' Hx ρ σ ∧ Same Hk H', ⟨ds.length, rfl, Nat.zero_le _, Hk, ?_, Same.refl _⟩, ?_⟩
  · rw [List.take_zero]
    exact E2.newM hD ⟨[], upd_same, .nil⟩
  rintro i m Hx ⟨rfl, hil, H', E', s'⟩
  by_cases hlt : i < ds.length
  · have hd : ds[i]? = some ds[i] := List.getElem?_eq_getElem hlt
    have htk : (ds.take (i + 1)).filterMap F = (ds.take i).filterMap F ++ (F ds[i]).toList := by
      rw [List.take_add_one, hd, List.filterMap_append]
      have e : ∀ o : Option PD, F ds[i] = o → List.filterMap F [ds[i]] = o.toList := fun o q => by
        rw [List.filterMap_cons, q]
        cases o with
        | none => rfl
        | some _ => rfl
      exact congrArg _ (e _ rfl)
    refine .inr ⟨W.go i _ Hx (s'.trans E'.sub) hd, fun Hy => ∃ H', En K C H0 H10 ((D, .lst ((ds.take (i + 1)).filterMap F)) :: M) H' Hy ρ σ ∧ Same Hk H', fun Hy q => ⟨ds.length - (i + 1), by omega, rfl, hlt, q⟩, fun x Hz y => ?_⟩
    obtain ⟨H'', x1, px⟩ := W.yld i _ H' Hx x Hz s' E'.sub hd y
    have E'' := E'.grow x1
    obtain ⟨ρ', js, b, hg, hjs, ht, hb1, hb0⟩ := h ds[i] (List.getElem_mem hlt)
    refine hg (E''.wipe vs) px _ fun σ2 E3 touch => ⟨wipe_eq (by rw [touch.1, wipe_length]) fun j hj => by rw [touch.2 j fun z => hj (hjs j z), wipe_out hj], ?_⟩
    refine ht E3 (hm.cons _) _ fun H4 H5 E4 s4 => ?_
    cases b with
    | false =>
      rw [if_neg Bool.false_ne_true]
      refine ⟨H4, ?_, (s'.trans x1.known).trans s4⟩
      rw [htk, hb0 rfl, Option.toList_none, List.append_nil]
      exact E'.back E4 (x1.known.trans s4)
    | true =>
      rw [if_pos rfl]
      obtain ⟨e, he, hF⟩ := hb1 rfl
      refine he E4 (hm.cons _) _ fun y H6 H7 E5 s5 py => ?_
      obtain ⟨g1, g2, xs, g3, g4⟩ := E5.mem _ (List.mem_cons_self ..)
      have hlen : ((ds.take i).filterMap F).length ≤ 100000 := by
        have h1 := List.length_filterMap_le F (ds.take i)
        have h2 : (ds.take i).length ≤ ds.length := by rw [List.length_take]; omega
        omega
      refine ⟨xs, g3, Nat.lt_of_le_of_lt (by rw [dpa_len g4]; exact hlen) (by decide), H6, ?_, ((s'.trans x1.known).trans s4).trans s5⟩
      rw [htk, hF, Option.toList_some]
      exact (E'.back E5 ((x1.known.trans s4).trans s5)).chg ⟨_, upd_same, dpa_app g4 (.cons py .nil)⟩
  · have ei : i = ds.length := by omega
    subst ei
    refine .inl ⟨W.stop Hx (s'.trans E'.sub), ?_⟩
    rw [List.take_length] at E'
    obtain ⟨xs, E6, p6, s6⟩ := E'.freeze hDC
    cases p6 with
    | lst q1 q2 =>
      obtain ⟨g1, g2, zs, g3, g4⟩ := E'.mem _ (List.mem_cons_self ..)
      refine k D xs _ _ E6 ((s2.trans s').trans s6) upd_same ?_
      have e1 : xs = zs := by
        have := E6.sub D _ upd_same
        rw [g3] at this
        cases this
        rfl
      rw [e1]
      exact dpa_mono (e1 ▸ s6) g4
end
end K37

set_option Elab.async false
set_option linter.all false
set_option maxRecDepth 100000
set_option maxHeartbeats 4000000
namespace K37
open PySem L2 RZ

section
variable {K : PySem.W.Frag} {Md : Ms} {ρ : List Sl} {ta tb te tc tl : TE} {t u tt : TT} {dx dy d e : PD} {b : Bool} {r : R2} {i : Int}
/-! ### operators -/
theorem rd_I0 {g : Int → Int → Int} {i j : Int} : RD K (rI0 fun i j => .int (g i j)) (.int i) (.int j) (.int (g i j)) := .mk <| fun {H H1 x y} s hx hy Q k => by
  cases hx
  cases hy
  exact ⟨i, j, rfl, rfl, k _ H H1 (Ext.refl s) (.int _)⟩
theorem rd_B0 {g : Int → Int → Bool} {i j : Int} : RD K (rI0 fun i j => .bl (g i j)) (.int i) (.int j) (.bool (g i j)) := .mk <| fun {H H1 x y} s hx hy Q k => by
  cases hx
  cases hy
  exact ⟨i, j, rfl, rfl, k _ H H1 (Ext.refl s) (.bl _)⟩
theorem rd_I {C : Int → Int → Prop} {g : Int → Int → Int} {i j : Int} (h : C i j) : RD K (rI C fun i j => .int (g i j)) (.int i) (.int j) (.int (g i j)) := .mk <| fun {H H1 x y} s hx hy Q k => by
  cases hx
  cases hy
  exact ⟨i, j, rfl, rfl, h, k _ H H1 (Ext.refl s) (.int _)⟩
theorem ud_neg {i : Int} : UD K (rU fun i => .int (-i)) (.int i) (.int (-i)) := .mk <| fun {H H1 x} s hx Q k => by
  cases hx
  exact ⟨i, rfl, k _ H H1 (Ext.refl s) (.int _)⟩
theorem rd_eqI {i j : Int} : RD K rEq (.int i) (.int j) (.bool (decide (i = j))) := .mk <| fun {H H1 x y} s hx hy Q k => by
  cases hx
  cases hy
  refine ⟨rfl, ?_⟩
  rw [show decide (V.int i = V.int j) = decide (i = j) by rw [dec_int]; exact Bool.beq_eq_decide_eq i j]
  exact k _ H H1 (Ext.refl s) (.bl _)
theorem rd_neI {i j : Int} : RD K rNe (.int i) (.int j) (.bool (!decide (i = j))) := .mk <| fun {H H1 x y} s hx hy Q k => by
  cases hx
  cases hy
  refine ⟨rfl, ?_⟩
  rw [show decide (V.int i = V.int j) = decide (i = j) by rw [dec_int]; exact Bool.beq_eq_decide_eq i j]
  exact k _ H H1 (Ext.refl s) (.bl _)
theorem rd_eqS {i j : Str} : RD K rEq (.str i) (.str j) (.bool (decide (i = j))) := .mk <| fun {H H1 x y} s hx hy Q k => by
  cases hx
  cases hy
  refine ⟨rfl, ?_⟩
  rw [show decide (V.str i = V.str j) = decide (i = j) by rw [dec_str]; exact Bool.beq_eq_decide_eq i j]
  exact k _ H H1 (Ext.refl s) (.bl _)
theorem rd_eqD (h1 : SeqAt.shaped dx = true) (h2 : SeqAt.shaped dy = true) : RD K (rEqD K) dx dy (.bool (PyData.eqv dx dy)) := .mk <| fun {H H1 x y} s hx hy Q k =>
  ⟨dx, dy, dp_mono s hx, dp_mono s hy, h1, h2, k _ H H1 (Ext.refl s) (.bl _)⟩
theorem rd_neD (h1 : SeqAt.shaped dx = true) (h2 : SeqAt.shaped dy = true) : RD K (rNeD K) dx dy (.bool (!PyData.eqv dx dy)) := .mk <| fun {H H1 x y} s hx hy Q k =>
  ⟨dx, dy, dp_mono s hx, dp_mono s hy, h1, h2, k _ H H1 (Ext.refl s) (.bl _)⟩
def rIsN : R2 := fun x y H Q => y = .non ∧ Q (.bl (decide (x = .non))) H
theorem op_isN' {X : Cx} : OpR X (compareOp .Is) rIsN := op_isN
/-- is None -/
def noneD : PD → Bool
  | .none => true
  | _ => false
theorem rd_isN : RD K rIsN d .none (.bool (noneD d)) := .mk <| fun {H H1 x y} s hx hy Q k => by
  cases hy
  refine ⟨rfl, ?_⟩
  have e : decide (x = V.non) = noneD d := by
    cases hx <;> rfl
  rw [e]
  exact k _ H H1 (Ext.refl s) (.bl _)
theorem inV_ints (i : Int) : ∀ ns : List Int, inV (.int i) (ns.map V.int) = decide (i ∈ ns)
  | [] => by rfl
  | n :: ns => by
    have ih := inV_ints i ns
    unfold inV at ih ⊢
    rw [List.map_cons, List.any_cons, ih]
    show (n == i || decide (i ∈ ns)) = decide (i ∈ n :: ns)
    rw [Bool.eq_iff_iff]
    simp only [Bool.or_eq_true, beq_iff_eq, decide_eq_true_eq, List.mem_cons]
    constructor
    · rintro (h | h)
      · exact .inl h.symm
      · exact .inr h
    · rintro (h | h)
      · exact .inl h.symm
      · exact .inr h
theorem flat_ints : ∀ ns : List Int, (ns.map V.int).all flatV = true
  | [] => rfl
  | n :: ns => by rw [List.map_cons, List.all_cons, flat_ints ns]; rfl
theorem rd_inI {i : Int} {ns : List Int} (h : d = .list (ns.map PyData.int) ∨ d = .tuple (ns.map PyData.int)) : RD K (rIn K false) (.int i) d (.bool (decide (i ∈ ns))) := .mk <| fun {H H1 x y} s hx hy Q k => by
  cases hx
  have fin : ∀ p xs, y = .ref p → (SqL K H1 p xs ∨ SqT K H1 p xs) → xs = ns.map V.int → rIn K false (.int i) y H1 Q := fun p xs e hs ex => by
    subst ex
    refine ⟨p, _, e, hs, rfl, flat_ints ns, ?_⟩
    rw [if_neg Bool.false_ne_true, inV_ints]
    exact k _ H H1 (Ext.refl s) (.bl _)
  rcases h with rfl | rfl
  · cases hy with
    | lst h1 h2 => exact fin _ _ rfl (.inl (s.seq h1)) (dpa_ints h2)
  · cases hy with
    | tup h1 h2 => exact fin _ _ rfl (.inr (sqt_mono s h1)) (dpa_ints h2)
theorem rd_ninI {i : Int} {ns : List Int} (h : d = .list (ns.map PyData.int) ∨ d = .tuple (ns.map PyData.int)) : RD K (rIn K true) (.int i) d (.bool (!decide (i ∈ ns))) := .mk <| fun {H H1 x y} s hx hy Q k => by
  cases hx
  have fin : ∀ p xs, y = .ref p → (SqL K H1 p xs ∨ SqT K H1 p xs) → xs = ns.map V.int → rIn K true (.int i) y H1 Q := fun p xs e hs ex => by
    subst ex
    refine ⟨p, _, e, hs, rfl, flat_ints ns, ?_⟩
    rw [if_pos rfl, inV_ints]
    exact k _ H H1 (Ext.refl s) (.bl _)
  rcases h with rfl | rfl
  · cases hy with
    | lst h1 h2 => exact fin _ _ rfl (.inl (s.seq h1)) (dpa_ints h2)
  · cases hy with
    | tup h1 h2 => exact fin _ _ rfl (.inr (sqt_mono s h1)) (dpa_ints h2)
/-- in a written tuple -/
theorem ev_inK {a : Addr} {xs : List V} {x : V} {d : PD} {b : Bool} (hs : ∀ H, SqT K H a xs) (ha : EvD K Md ρ ta d) (hd : ∀ H v, Dp K H v d → v = x) (f1 : flatV x = true) (f2 : xs.all flatV = true) (hb : inV x xs = b) :
    EvD K Md ρ (tOp (rIn K false) ta (tC (.ref a))) (.bool b) := .mk <| fun E hi Q k => ha E hi _ fun v H' H2 E' s p => by
  cases hd _ _ p
  refine ⟨a, xs, rfl, .inr (hs _), f1, f2, ?_⟩
  rw [if_neg Bool.false_ne_true, hb]
  exact k _ H' H2 E' s (.bl _)

/-! ### items, slices -/
theorem atI_dp {H : Hp} {xs : List V} {ds : List PD} {i : Int} (h : DpAll K H xs ds) (e : atI ds i = some d) : ∃ v, atI xs i = some v ∧ Dp K H v d := by
  unfold atI at e ⊢
  rw [dpa_len h]
  cases q : ixN ds.length i with
  | none => rw [q] at e; cases e
  | some j =>
    rw [q] at e
    exact dpa_get h e
theorem rd_ixL {ds : List PD} {i : Int} (h : atI ds i = some d) : RD K (rIxL K) (.list ds) (.int i) d := .mk <| fun {H H1 x y} s hx hy Q k => by
  cases hy
  cases hx with
  | lst h1 h2 =>
    obtain ⟨v, g1, g2⟩ := atI_dp h2 h
    exact ⟨_, _, i, v, rfl, rfl, s.seq h1, g1, k _ H H1 (Ext.refl s) g2⟩
theorem rd_ixT {ds : List PD} {i : Int} (h : atI ds i = some d) : RD K (rIxT K) (.tuple ds) (.int i) d := .mk <| fun {H H1 x y} s hx hy Q k => by
  cases hy
  cases hx with
  | tup h1 h2 =>
    obtain ⟨v, g1, g2⟩ := atI_dp h2 h
    exact ⟨_, _, i, v, rfl, rfl, sqt_mono s h1, g1, k _ H H1 (Ext.refl s) g2⟩
def cutP {α : Type} (xs : List α) (lo hi : Option Int) : List α := (xs.drop (HT.sIx xs.length 0 lo)).take (HT.sIx xs.length xs.length hi - HT.sIx xs.length 0 lo)
theorem cutP_to {α : Type} (xs : List α) (k : Nat) : cutP xs none (some (k : Int)) = xs.take k := by
  unfold cutP
  rw [HT.sIx_none, HT.sIx_nat, List.drop_zero, Nat.sub_zero]
  by_cases h : k ≤ xs.length
  · rw [Nat.min_eq_left h]
  · rw [Nat.min_eq_right (by omega), List.take_length, List.take_of_length_le (by omega)]
theorem cutP_from {α : Type} (xs : List α) (k : Nat) : cutP xs (some (k : Int)) none = xs.drop k := by
  unfold cutP
  rw [HT.sIx_none, HT.sIx_nat]
  by_cases h : k ≤ xs.length
  · rw [Nat.min_eq_left h, List.take_of_length_le (by rw [List.length_drop]; omega)]
  · rw [Nat.min_eq_right (by omega), List.drop_length, List.drop_of_length_le (by omega), List.take_nil]
theorem cutP_mid {α : Type} (xs : List α) (j k : Nat) : cutP xs (some (j : Int)) (some (k : Int)) = (xs.drop j).take (k - j) := by
  unfold cutP
  rw [HT.sIx_nat, HT.sIx_nat]
  by_cases h : j ≤ xs.length
  · rw [Nat.min_eq_left h]
    by_cases h2 : k ≤ xs.length
    · rw [Nat.min_eq_left h2]
    · rw [Nat.min_eq_right (by omega), List.take_of_length_le (by rw [List.length_drop]; omega), List.take_of_length_le (by rw [List.length_drop]; omega)]
  · rw [Nat.min_eq_right (show xs.length ≤ j by omega), List.drop_length, List.drop_of_length_le (show xs.length ≤ j by omega), List.take_nil, List.take_nil]
theorem dpa_cut {H : Hp} {vs : List V} {ds : List PD} (lo hi : Option Int) (h : DpAll K H vs ds) : DpAll K H (cutV vs lo hi) (cutP ds lo hi) := by
  unfold cutV cutP
  rw [dpa_len h]
  exact dpa_take _ (dpa_drop _ h)
theorem el_slL {tl th : TO} {lo hi : Option Int} {ds : List PD} (ha : EvD K Md ρ te (.list ds)) (hl : EvO K Md ρ tl lo) (hh : EvO K Md ρ th hi) : EvL K Md ρ (tSl (rSlL K) te tl th) (cutP ds lo hi) := .mk <| fun E hm Q k =>
  ha E hm _ fun x Ha H1a Ea sa px => hl Ea hm _ fun Hb H1b Eb sb => hh Eb hm _ fun Hc H1c Ec sc => by
    cases dp_mono sc (dp_mono sb px) with
    | @lst a xs _ h1 h2 =>
      refine ⟨_, _, rfl, Ec.sub.seq h1, fun p hp => ?_⟩
      have x := Ext.new (o := .lst (cutV xs lo hi)) Ec.sub hp
      exact k p _ _ _ (Ec.grow x) (((sa.trans sb).trans sc).trans x.known) upd_same (dpa_cut lo hi (dpa_mono x.known h2))
theorem sd_tup {lo hi : Option Int} {ds : List PD} : SD K (rSlA K) (.tuple ds) lo hi (.tuple (cutP ds lo hi)) := .mk <| fun {H H1 x} s hx Q k => by
  cases hx with
  | @tup a xs _ h1 h2 =>
    refine ⟨_, _, rfl, sqt_mono s h1, fun hw => ?_, fun _ p hp => ?_⟩
    · refine k _ H H1 (Ext.refl s) (.tup h1 ?_)
      rw [dpa_len h2] at hw
      have e : cutP ds lo hi = ds := by
        unfold cutP
        rw [hw.1, hw.2, List.drop_zero, Nat.sub_zero, List.take_length]
      rw [e]
      exact h2
    · have x := Ext.new (o := .tup (cutV xs lo hi)) s hp
      exact k _ _ _ x (.tup (SqT.of upd_same) (dpa_cut lo hi (dpa_mono x.known h2)))
theorem el_revL {ds : List PD} (ha : EvD K Md ρ te (.list ds)) : EvL K Md ρ (tRevL K te) ds.reverse := .mk <| fun E hm Q k =>
  ha E hm _ fun x Ha H1a Ea sa px => by
    cases px with
    | @lst a xs _ h1 h2 =>
      refine ⟨_, _, rfl, Ea.sub.seq h1, fun p hp => ?_⟩
      have x := Ext.new (o := .lst xs.reverse) Ea.sub hp
      exact k p _ _ _ (Ea.grow x) (sa.trans x.known) upd_same (dpa_rev (dpa_mono x.known h2))
/-! ### + and * of sequences -/
theorem rd_catT {ds es : List PD} (hl : ds.length + es.length ≤ 100000) : RD K (rCatA K) (.tuple ds) (.tuple es) (.tuple (ds ++ es)) := .mk <| fun {H H1 x y} s hx hy Q k => by
  cases hx with
  | @tup a xs _ h1 h2 =>
    cases hy with
    | @tup b ys _ g1 g2 =>
      refine ⟨_, _, _, _, rfl, rfl, sqt_mono s h1, sqt_mono s g1, Nat.le_trans (by rw [dpa_len h2, dpa_len g2]; exact hl) (by decide), fun e => ?_, fun _ e => ?_, fun _ _ p hp => ?_⟩
      · subst e
        cases h2
        exact k _ H H1 (Ext.refl s) (.tup g1 g2)
      · subst e
        cases g2
        rw [List.append_nil] at k
        exact k _ H H1 (Ext.refl s) (.tup h1 h2)
      · have x := Ext.new (o := .tup (xs ++ ys)) s hp
        exact k _ _ _ x (.tup (SqT.of upd_same) (dpa_app (dpa_mono x.known h2) (dpa_mono x.known g2)))
theorem el_cat {ds es : List PD} (ha : EvL K Md ρ ta ds) (hb : EvL K Md ρ tb es) (hl : ds.length + es.length ≤ 100000) : EvL K Md ρ (tOp rCat ta tb) (ds ++ es) := .mk <| fun E hm Q k =>
  ha E hm _ fun p xs Ha H1a Ea sa hp px => hb Ea hm _ fun q ys Hb H1b Eb sb hq py =>
    ⟨p, q, xs, ys, rfl, rfl, Eb.sub _ _ (sb _ _ hp), Eb.sub _ _ hq, Nat.le_trans (by rw [dpa_len px, dpa_len py]; exact hl) (by decide), fun z hz => by
      have x := Ext.new (o := .lst (xs ++ ys)) Eb.sub hz
      exact k z _ _ _ (Eb.grow x) ((sa.trans sb).trans x.known) upd_same (dpa_app (dpa_mono x.known (dpa_mono sb px)) (dpa_mono x.known py))⟩
theorem el_rep {ds : List PD} {n : Int} (ha : EvL K Md ρ ta ds) (hb : EvD K Md ρ tb (.int n)) (h0 : 0 ≤ n) (h1 : n ≤ 1000) (hl : ds.length ≤ 100) : EvL K Md ρ (tOp rRep ta tb) (List.replicate n.toNat ds).flatten := .mk <| fun E hm Q k =>
  ha E hm _ fun p xs Ha H1a Ea sa hp px => hb Ea hm _ fun q Hb H1b Eb sb py => by
    cases py
    have e : xs.length * n.toNat ≤ 100 * 1000 := Nat.mul_le_mul (by rw [dpa_len px]; exact hl) (by omega)
    refine ⟨p, n, xs, rfl, rfl, Eb.sub _ _ (sb _ _ hp), by omega, by omega, Nat.le_trans e (by decide), fun z hz => ?_⟩
    have x := Ext.new (o := .lst (List.replicate n.toNat xs).flatten) Eb.sub hz
    exact k z _ _ _ (Eb.grow x) ((sa.trans sb).trans x.known) upd_same (dpa_rep (dpa_mono x.known (dpa_mono sb px)) _)
/-! ### built-ins -/
def rLen (K : PySem.W.Frag) : List V → Hp → VK → Prop := fun xs H Q => ∃ p ys, xs = [.ref p] ∧ (SqL K H p ys ∨ SqT K H p ys) ∧ Q (.int ys.length) H
theorem cr_len {X : Cx} : CallR X (.builtin "len") (rLen X.K) := call_len_seq
theorem cd_len {ds : List PD} (h : d = .list ds ∨ d = .tuple ds) : CD K (rLen K) [d] (.int ds.length) := .mk <| fun {H H1 vs} s hv Q k => by
  cases hv with
  | cons h0 h1 =>
    cases h1
    rcases h with rfl | rfl
    · cases h0 with
      | lst g1 g2 =>
        refine ⟨_, _, rfl, .inl (s.seq g1), ?_⟩
        rw [dpa_len g2]
        exact k _ H H1 (Ext.refl s) (.int _)
    · cases h0 with
      | tup g1 g2 =>
        refine ⟨_, _, rfl, .inr (sqt_mono s g1), ?_⟩
        rw [dpa_len g2]
        exact k _ H H1 (Ext.refl s) (.int _)
def rAbs : List V → Hp → VK → Prop := fun xs H Q => ∃ i, xs = [.int i] ∧ Q (.int (if i < 0 then -i else i)) H
theorem cr_abs {X : Cx} : CallR X (.builtin "abs") rAbs := call_abs
theorem cd_abs {i : Int} : CD K rAbs [.int i] (.int (if i < 0 then -i else i)) := .mk <| fun {H H1 vs} s hv Q k => by
  cases hv with
  | cons h0 h1 =>
    cases h1
    cases h0
    exact ⟨i, rfl, k _ H H1 (Ext.refl s) (.int _)⟩
def rMax : List V → Hp → VK → Prop := fun xs H Q => ∃ i j, xs = [.int i, .int j] ∧ Q (.int (if j > i then j else i)) H
theorem cr_max2 {X : Cx} (hc : X.calm = true) : CallR X (.builtin "max") rMax := call_max2 hc
theorem cd_max {i j : Int} : CD K rMax [.int i, .int j] (.int (if j > i then j else i)) := .mk <| fun {H H1 vs} s hv Q k => by
  cases hv with
  | cons h0 h1 =>
    cases h1 with
    | cons h1 h2 =>
      cases h2
      cases h0
      cases h1
      exact ⟨i, j, rfl, k _ H H1 (Ext.refl s) (.int _)⟩
def rMin : List V → Hp → VK → Prop := fun xs H Q => ∃ i j, xs = [.int i, .int j] ∧ Q (.int (if j < i then j else i)) H
theorem cr_min2 {X : Cx} (hc : X.calm = true) : CallR X (.builtin "min") rMin := call_min2 hc
theorem cd_min {i j : Int} : CD K rMin [.int i, .int j] (.int (if j < i then j else i)) := .mk <| fun {H H1 vs} s hv Q k => by
  cases hv with
  | cons h0 h1 =>
    cases h1 with
    | cons h1 h2 =>
      cases h2
      cases h0
      cases h1
      exact ⟨i, j, rfl, k _ H H1 (Ext.refl s) (.int _)⟩
def rInt : List V → Hp → VK → Prop := fun xs H Q => (∃ i, xs = [.int i] ∧ Q (.int i) H) ∨ ∃ k, xs = [.bl k] ∧ Q (.int (if k then 1 else 0)) H
theorem cr_int {X : Cx} : CallR X (.type "int") rInt := call_int1
theorem cd_intB {b : Bool} : CD K rInt [.bool b] (.int (if b then 1 else 0)) := .mk <| fun {H H1 vs} s hv Q k => by
  cases hv with
  | cons h0 h1 =>
    cases h1
    cases h0
    exact .inr ⟨b, rfl, k _ H H1 (Ext.refl s) (.int _)⟩
theorem cd_sum {ns : List Int} : CD K (rSum K) [.list (ns.map PyData.int)] (.int ns.sum) := .mk <| fun {H H1 vs} s hv Q k => by
  cases hv with
  | cons h0 h1 =>
    cases h1
    cases h0 with
    | lst g1 g2 =>
      have e := dpa_ints g2
      subst e
      exact ⟨_, ns, rfl, s.seq g1, k _ H H1 (Ext.refl s) (.int _)⟩
theorem cd_all {bs : List Bool} : CD K (rAll K) [.list (bs.map PyData.bool)] (.bool (bs.all id)) := .mk <| fun {H H1 vs} s hv Q k => by
  cases hv with
  | cons h0 h1 =>
    cases h1
    cases h0 with
    | lst g1 g2 =>
      have e := dpa_bls g2
      subst e
      exact ⟨_, bs, rfl, s.seq g1, k _ H H1 (Ext.refl s) (.bl _)⟩
theorem cd_allM {α : Type} {xs : List α} {p : α → Bool} : CD K (rAll K) [.list (xs.map fun x => PyData.bool (p x))] (.bool (xs.all p)) := by
  have h := cd_all (K := K) (bs := xs.map p)
  rw [List.map_map, List.all_map] at h
  exact h
theorem cd_sumM {α : Type} {xs : List α} {f : α → Int} : CD K (rSum K) [.list (xs.map fun x => PyData.int (f x))] (.int (xs.map f).sum) := by
  have h := cd_sum (K := K) (ns := xs.map f)
  rw [List.map_map] at h
  exact h
def rTupOf (K : PySem.W.Frag) : List V → Hp → VK → Prop := fun xs H Q => ∃ p ys, xs = [.ref p] ∧ ((SqL K H p ys ∧ ∀ l, H l = none → Q (.ref l) (upd H l (.tup ys))) ∨ (SqT K H p ys ∧ Q (.ref p) H))
theorem cr_tuple {X : Cx} : CallR X (.type "tuple") (rTupOf X.K) := call_tuple_of
theorem cd_tuple {ds : List PD} : CD K (rTupOf K) [.list ds] (.tuple ds) := .mk <| fun {H H1 vs} s hv Q k => by
  cases hv with
  | cons h0 h1 =>
    cases h1
    cases h0 with
    | @lst a xs _ g1 g2 =>
      refine ⟨_, _, rfl, .inl ⟨s.seq g1, fun l hl => ?_⟩⟩
      have x := Ext.new (o := .tup xs) s hl
      exact k _ _ _ x (.tup (SqT.of upd_same) (dpa_mono x.known g2))
def rListOf (K : PySem.W.Frag) : List V → Hp → VK → Prop := fun xs H Q => ∃ p ys, xs = [.ref p] ∧ (SqL K H p ys ∨ SqT K H p ys) ∧ ∀ l, H l = none → Q (.ref l) (upd H l (.lst ys))
theorem cr_list {X : Cx} : CallR X (.type "list") (rListOf X.K) := call_list_of
theorem cd_list {ds : List PD} (h : d = .list ds ∨ d = .tuple ds) : CD K (rListOf K) [d] (.list ds) := .mk <| fun {H H1 vs} s hv Q k => by
  cases hv with
  | cons h0 h1 =>
    cases h1
    rcases h with rfl | rfl
    · cases h0 with
      | @lst a xs _ g1 g2 =>
        refine ⟨_, _, rfl, .inl (s.seq g1), fun l hl => ?_⟩
        have x := Ext.new (o := .lst xs) s hl
        exact k _ _ _ x (.lst (SqL.of upd_same) (dpa_mono x.known g2))
    · cases h0 with
      | @tup a xs _ g1 g2 =>
        refine ⟨_, _, rfl, .inr (sqt_mono s g1), fun l hl => ?_⟩
        have x := Ext.new (o := .lst xs) s hl
        exact k _ _ _ x (.lst (SqL.of upd_same) (dpa_mono x.known g2))
theorem el_listRg {tr : L2.St → Hp → (Int → Int → Hp → Prop) → Prop} {lo hi : Int} (h : ∀ {C : List Addr} {H0 H10 : Hp} {M : Ms} {H H1 : Hp} {σ : L2.St}, En K C H0 H10 M H H1 ρ σ → Ins Md M →
    ∀ Q : Int → Int → Hp → Prop, (∀ H' H2, En K C H0 H10 M H' H2 ρ σ → Same H H' → Q lo hi H2) → tr σ H1 Q) (ok : RgOk lo hi) : EvL K Md ρ (tLstRg tr) (((List.range (hi - lo).toNat).map fun i : Nat => lo + (i : Int)).map PyData.int) := .mk <| fun E hm Q k =>
  h E hm _ fun H' H2 E' s => ⟨ok, fun q hq => by
    have x := Ext.new (o := .lst (rgV lo hi)) E'.sub hq
    refine k q _ _ _ (E'.grow x) (s.trans x.known) upd_same ?_
    have e : rgV lo hi = ((List.range (hi - lo).toNat).map fun i : Nat => lo + (i : Int)).map V.int := by
      unfold rgV
      rw [List.map_map]
      rfl
    rw [e]
    exact dpa_of_ints _⟩
theorem rg2 {lo hi : Int} (ha : EvD K Md ρ ta (.int lo)) (hb : EvD K Md ρ tb (.int hi)) : ∀ {C : List Addr} {H0 H10 : Hp} {M : Ms} {H H1 : Hp} {σ : L2.St}, En K C H0 H10 M H H1 ρ σ → Ins Md M →
    ∀ Q : Int → Int → Hp → Prop, (∀ H' H2, En K C H0 H10 M H' H2 ρ σ → Same H H' → Q lo hi H2) → tRg2 ta tb σ H1 Q := fun E hm Q k =>
  ha E hm _ fun x Ha H1a Ea sa px => hb Ea hm _ fun y Hb H1b Eb sb py => by
    cases px
    cases py
    exact ⟨lo, hi, rfl, rfl, k _ _ Eb (sa.trans sb)⟩
/-! ### isinstance -/
def tyD : PD → String
  | .none => "NoneType"
  | .bool _ => "bool"
  | .int _ => "int"
  | .str _ => "str"
  | .list _ => "list"
  | .tuple _ => "tuple"
  | .dict _ => "dict"
theorem tyx_dp {H H1 : Hp} {v : V} (s : Same H H1) (h : Dp K H v d) : TyX K H1 v (.type (tyD d)) := by
  cases h with
  | non => exact .base .non
  | bl b => exact .base (.bl b)
  | int b => exact .base (.int b)
  | str b => exact .base (.str b)
  | lst h _ =>
    rcases h with (h | ⟨o, h⟩) | ⟨o, its, n, h, hc, _⟩
    · exact .base (.lst (s _ _ h))
    · exact .base (.frz (s _ _ h))
    · exact .kList h hc
  | tup h _ =>
    rcases h with (h | ⟨o, h⟩) | ⟨o, its, n, h, hc, _⟩
    · exact .base (.tup (s _ _ h))
    · exact .fTuple (s _ _ h)
    · exact .kTuple h hc
theorem ev_isi {T : String} (ha : EvD K Md ρ ta d) (h : kitB (tyD d) T = some b) : EvD K Md ρ (tCB (rIsi K) (tCons ta (tCons (tC (.ty T)) tNil))) (.bool b) := .mk <| fun E hi Q k =>
  ha E hi _ fun x H' H2 E' s p => ⟨x, .ty T, .type (tyD d), .type T, b, rfl, .ty T, tyx_dp E'.sub p, kit_ty h, k _ H' H2 E' s (.bl _)⟩
theorem ev_isi2 {T U : String} {c : Bool} (ha : EvD K Md ρ ta d) (h : kitB (tyD d) T = some b) (h2 : kitB (tyD d) U = some c) :
    EvD K Md ρ (tCB (rIsiT K) (tCons ta (tCons (tTup (tCons (tC (.ty T)) (tCons (tC (.ty U)) tNil))) tNil))) (.bool (b || c)) := .mk <| fun E hi Q k =>
  ha E hi _ fun x H' H2 E' s p => ⟨by show 2 ≤ sizeLine; decide, fun q hq => by
    have X := Ext.new (o := .tup [V.ty T, V.ty U]) E'.sub hq
    have E2 := E'.grow X
    refine ⟨x, q, [.ty T, .ty U], .type (tyD d), [.type T, .type U], b || c, rfl, upd_same, .cons (.ty T) (.cons (.ty U) .nil), tyx_dp E2.sub (dp_mono X.known p), ?_, k _ _ _ E2 (s.trans X.known) (.bl _)⟩
    refine kitAny_cons (kit_ty h) (fun hb => ?_) (fun hb => by rw [hb]; rfl)
    rw [hb, Bool.false_or]
    refine kitAny_cons (kit_ty h2) (fun hc => ?_) (fun hc => by rw [hc])
    rw [hc]
    rfl⟩

theorem kit_ii : kitB "int" "int" = some true := by decide +kernel
theorem kit_ib : kitB "int" "bool" = some false := by decide +kernel
theorem kit_tt : kitB "tuple" "tuple" = some true := by decide +kernel
theorem kit_ss : kitB "str" "str" = some true := by decide +kernel
theorem kit_ll : kitB "list" "list" = some true := by decide +kernel
theorem kit_lt : kitB "list" "tuple" = some false := by decide +kernel
theorem ev_isiI (ha : EvD K Md ρ ta (.int i)) : EvD K Md ρ (tCB (rIsi K) (tCons ta (tCons (tC (.ty "int")) tNil))) (.bool true) := ev_isi ha kit_ii
theorem ev_isiB (ha : EvD K Md ρ ta (.int i)) : EvD K Md ρ (tCB (rIsi K) (tCons ta (tCons (tC (.ty "bool")) tNil))) (.bool false) := ev_isi ha kit_ib
theorem ev_isiT {ds : List PD} (ha : EvD K Md ρ ta (.tuple ds)) : EvD K Md ρ (tCB (rIsi K) (tCons ta (tCons (tC (.ty "tuple")) tNil))) (.bool true) := ev_isi ha kit_tt
theorem ev_isiS {x : Str} (ha : EvD K Md ρ ta (.str x)) : EvD K Md ρ (tCB (rIsi K) (tCons ta (tCons (tC (.ty "str")) tNil))) (.bool true) := ev_isi ha kit_ss
theorem ev_isiL {ds : List PD} (ha : EvD K Md ρ ta (.list ds)) : EvD K Md ρ (tCB (rIsiT K) (tCons ta (tCons (tTup (tCons (tC (.ty "list")) (tCons (tC (.ty "tuple")) tNil))) tNil))) (.bool true) := ev_isi2 ha kit_ll kit_lt
/-! ### what is walked -/
theorem it_list {ds : List PD} (ha : EvD K Md ρ tl (.list ds)) : ItD K Md ρ (iList K tl) ds := .mk <| fun E hi R k => ha E hi _ fun v H' H2 E' s p => by
  cases p with
  | lst h1 h2 =>
    refine ⟨_, rfl, ⟨_, E'.sub.seq h1⟩, k _ H' H2 E' s ⟨fun i d H3 s3 e => ?_, fun i d Ha Hb x Hc sa sb e y => ?_, fun H3 s3 => ⟨_, s3.seq h1, by rw [dpa_len h2]; exact Nat.le_refl _⟩⟩⟩
    · obtain ⟨v, g1, g2⟩ := dpa_get h2 e
      exact ⟨_, v, s3.seq h1, g1⟩
    · obtain ⟨v, g1, g2⟩ := dpa_get h2 e
      obtain ⟨e1, y1⟩ := y
      subst e1
      have e2 : x = v := Option.some.inj ((y1 _ (sb.seq (sa.seq h1))).symm.trans g1)
      subst e2
      exact ⟨Ha, Ext.refl sb, dp_mono sa g2⟩
theorem it_tup {ds : List PD} (ha : EvD K Md ρ tl (.tuple ds)) : ItD K Md ρ (iTup K tl) ds := .mk <| fun E hi R k => ha E hi _ fun v H' H2 E' s p => by
  cases p with
  | tup h1 h2 =>
    refine ⟨_, rfl, ⟨_, sqt_mono E'.sub h1⟩, k _ H' H2 E' s ⟨fun i d H3 s3 e => ?_, fun i d Ha Hb x Hc sa sb e y => ?_, fun H3 s3 => ⟨_, sqt_mono s3 h1, by rw [dpa_len h2]; exact Nat.le_refl _⟩⟩⟩
    · obtain ⟨v, g1, g2⟩ := dpa_get h2 e
      exact ⟨_, v, sqt_mono s3 h1, g1⟩
    · obtain ⟨v, g1, g2⟩ := dpa_get h2 e
      obtain ⟨e1, y1⟩ := y
      subst e1
      have e2 : x = v := Option.some.inj ((y1 _ (sqt_mono sb (sqt_mono sa h1))).symm.trans g1)
      subst e2
      exact ⟨Ha, Ext.refl sb, dp_mono sa g2⟩
/-- the numbers below n -/
def rgD (lo : Int) (n : Nat) : List PD := (List.range n).map fun i : Nat => PyData.int (lo + (i : Int))
theorem rgD_get {lo : Int} {n i : Nat} {d : PD} (h : (rgD lo n)[i]? = some d) : i < n ∧ d = .int (lo + (i : Int)) := by
  unfold rgD at h
  rw [List.getElem?_map] at h
  by_cases hi : i < n
  · rw [List.getElem?_range hi] at h
    exact ⟨hi, (Option.some.inj h).symm⟩
  · rw [List.getElem?_eq_none (by rw [List.length_range]; omega)] at h
    cases h
theorem rgD_len {lo : Int} {n : Nat} : (rgD lo n).length = n := by unfold rgD; rw [List.length_map, List.length_range]
theorem wk_range {H : Hp} {lo : Int} {n : Nat} : WkD K (Itr lo n) H (rgD lo n) :=
  ⟨fun i d H3 s3 e => (rgD_get e).1, fun i d Ha Hb x Hc sa sb e y => by
    obtain ⟨e1, e2⟩ := y
    subst e1 e2
    rw [(rgD_get e).2]
    exact ⟨Ha, Ext.refl sb, .int _⟩, fun H3 s3 => by rw [rgD_len]; exact Nat.le_refl _⟩
theorem it_range1 {ta : TA} {n : Int} (ha : EvA K Md ρ ta [.int n]) (h : -1000000 ≤ n ∧ n ≤ 1000000) : ItD K Md ρ (iRng1 ta) (rgD 0 n.toNat) := .mk <| fun E hi R k => ha E hi _ fun vs H' H2 E' s p => by
  cases p with
  | cons p1 p2 =>
    cases p2
    cases p1
    exact ⟨n, rfl, by omega, by omega, k _ H' H2 E' s wk_range⟩
theorem it_range2 {ta : TA} {m n : Int} (ha : EvA K Md ρ ta [.int m, .int n]) (h0 : -1000000 ≤ m ∧ m ≤ 1000000) (h : -1000000 ≤ n ∧ n ≤ 1000000) : ItD K Md ρ (iRng2 ta) (rgD m (n - m).toNat) := .mk <| fun E hi R k => ha E hi _ fun vs H' H2 E' s p => by
  cases p with
  | cons p1 p2 =>
    cases p2 with
    | cons p2 p3 =>
      cases p3
      cases p1
      cases p2
      exact ⟨m, n, rfl, by omega, k _ H' H2 E' s wk_range⟩
/-- pairs -/
def zipD (ds es : List PD) : List PD := List.zipWith (fun d e => PyData.tuple [d, e]) ds es
theorem zipD_get {ds es : List PD} {i : Nat} {d : PD} (h : (zipD ds es)[i]? = some d) : ∃ a b, ds[i]? = some a ∧ es[i]? = some b ∧ d = .tuple [a, b] := by
  unfold zipD at h
  rw [List.getElem?_zipWith] at h
  cases ha : ds[i]? with
  | none => rw [ha] at h; cases h
  | some a =>
    cases hb : es[i]? with
    | none => rw [ha, hb] at h; cases h
    | some b =>
      rw [ha, hb] at h
      exact ⟨a, b, rfl, rfl, (Option.some.inj h).symm⟩
theorem zipD_len {ds es : List PD} : (zipD ds es).length = min ds.length es.length := by unfold zipD; rw [List.length_zipWith]
theorem zipD_map {α β : Type} (f : α → PD) (g : β → PD) : ∀ (xs : List α) (ys : List β), zipD (xs.map f) (ys.map g) = (xs.zip ys).map fun p => PyData.tuple [f p.1, g p.2]
  | [], _ => by simp [zipD]
  | _ :: _, [] => by simp [zipD]
  | x :: xs, y :: ys => by
    have := zipD_map f g xs ys
    unfold zipD at this ⊢
    rw [List.map_cons, List.map_cons, List.zipWith_cons_cons, this, List.zip_cons_cons, List.map_cons]
theorem ev_lst {ta : TA} {ds : List PD} (h : EvA K Md ρ ta ds) (hl : ds.length ≤ 100000 := by exact Nat.le_of_ble_eq_true rfl) : EvD K Md ρ (tLst ta) (.list ds) := el_d (el_lst h hl)
theorem it_zip {ta : TA} {ds es : List PD} (ha : EvA K Md ρ ta [.list ds, .list es]) : ItD K Md ρ (iZipA K ta) (zipD ds es) := .mk <| fun E hi R k => ha E hi _ fun vs H' H2 E' s p => by
  cases p with
  | cons p1 p2 =>
    cases p2 with
    | cons p2 p3 =>
      cases p3
      cases p1 with
      | lst h1 h2 =>
        cases p2 with
        | lst g1 g2 =>
          refine ⟨_, _, _, _, rfl, .inl ⟨E'.sub.seq h1, E'.sub.seq g1, k _ H' H2 E' s ⟨fun i d H3 s3 e => ?_, fun i d Ha Hb x Hc sa sb e y => ?_, fun H3 s3 => ⟨_, _, s3.seq h1, s3.seq g1, ?_⟩⟩⟩⟩
          · obtain ⟨a, b, ea, eb, _⟩ := zipD_get e
            obtain ⟨v, q1, q2⟩ := dpa_get h2 ea
            obtain ⟨w, q3, q4⟩ := dpa_get g2 eb
            exact ⟨_, _, v, w, s3.seq h1, s3.seq g1, q1, q3⟩
          · obtain ⟨a, b, ea, eb, rfl⟩ := zipD_get e
            obtain ⟨v, q1, q2⟩ := dpa_get h2 ea
            obtain ⟨w, q3, q4⟩ := dpa_get g2 eb
            obtain ⟨T, x1, x2, rfl, hT, rfl, y1, y2⟩ := y
            have e1 : x1 = v := Option.some.inj ((y1 _ (sb.seq (sa.seq h1))).symm.trans q1)
            have e2 : x2 = w := Option.some.inj ((y2 _ (sb.seq (sa.seq g1))).symm.trans q3)
            subst e1 e2
            have X := Ext.new (o := .tup [x1, x2]) sb hT
            exact ⟨_, X, .tup (SqT.of upd_same) (dpa_mono X.known (dpa_mono sa (.cons q2 (.cons q4 .nil))))⟩
          · rw [zipD_len, dpa_len h2, dpa_len g2]
            omega
theorem it_zipT {ta : TA} {ds es : List PD} (ha : EvA K Md ρ ta [.tuple ds, .tuple es]) : ItD K Md ρ (iZipA K ta) (zipD ds es) := .mk <| fun E hi R k => ha E hi _ fun vs H' H2 E' s p => by
  cases p with
  | cons p1 p2 =>
    cases p2 with
    | cons p2 p3 =>
      cases p3
      cases p1 with
      | tup h1 h2 =>
        cases p2 with
        | tup g1 g2 =>
          refine ⟨_, _, _, _, rfl, .inr ⟨sqt_mono E'.sub h1, sqt_mono E'.sub g1, k _ H' H2 E' s ⟨fun i d H3 s3 e => ?_, fun i d Ha Hb x Hc sa sb e y => ?_, fun H3 s3 => ⟨_, _, sqt_mono s3 h1, sqt_mono s3 g1, ?_⟩⟩⟩⟩
          · obtain ⟨a, b, ea, eb, _⟩ := zipD_get e
            obtain ⟨v, q1, q2⟩ := dpa_get h2 ea
            obtain ⟨w, q3, q4⟩ := dpa_get g2 eb
            exact ⟨_, _, v, w, sqt_mono s3 h1, sqt_mono s3 g1, q1, q3⟩
          · obtain ⟨a, b, ea, eb, rfl⟩ := zipD_get e
            obtain ⟨v, q1, q2⟩ := dpa_get h2 ea
            obtain ⟨w, q3, q4⟩ := dpa_get g2 eb
            obtain ⟨T, x1, x2, rfl, hT, rfl, y1, y2⟩ := y
            have e1 : x1 = v := Option.some.inj ((y1 _ (sqt_mono sb (sqt_mono sa h1))).symm.trans q1)
            have e2 : x2 = w := Option.some.inj ((y2 _ (sqt_mono sb (sqt_mono sa g1))).symm.trans q3)
            subst e1 e2
            have X := Ext.new (o := .tup [x1, x2]) sb hT
            exact ⟨_, X, .tup (SqT.of upd_same) (dpa_mono X.known (dpa_mono sa (.cons q2 (.cons q4 .nil))))⟩
          · rw [zipD_len, dpa_len h2, dpa_len g2]
            omega
/-- (place, item) -/
def enumD (ds : List PD) : List PD := ds.mapIdx fun i d => PyData.tuple [.int (i : Nat), d]
theorem enumD_get {ds : List PD} {i : Nat} {d : PD} (h : (enumD ds)[i]? = some d) : ∃ a, ds[i]? = some a ∧ d = .tuple [.int (i : Nat), a] := by
  unfold enumD at h
  rw [List.getElem?_mapIdx] at h
  cases ha : ds[i]? with
  | none => rw [ha] at h; cases h
  | some a =>
    rw [ha] at h
    exact ⟨a, rfl, (Option.some.inj h).symm⟩
theorem enumD_len {ds : List PD} : (enumD ds).length = ds.length := by unfold enumD; rw [List.length_mapIdx]
theorem it_enum {ta : TA} {ds : List PD} (ha : EvA K Md ρ ta [.list ds]) : ItD K Md ρ (iEnum K ta) (enumD ds) := .mk <| fun E hi R k => ha E hi _ fun vs H' H2 E' s p => by
  cases p with
  | cons p1 p2 =>
    cases p2
    cases p1 with
    | lst h1 h2 =>
      refine ⟨_, _, rfl, E'.sub.seq h1, k _ H' H2 E' s ⟨fun i d H3 s3 e => ?_, fun i d Ha Hb x Hc sa sb e y => ?_, fun H3 s3 => ⟨_, s3.seq h1, ?_⟩⟩⟩
      · obtain ⟨a, ea, _⟩ := enumD_get e
        obtain ⟨v, q1, q2⟩ := dpa_get h2 ea
        exact ⟨_, v, s3.seq h1, q1⟩
      · obtain ⟨a, ea, rfl⟩ := enumD_get e
        obtain ⟨v, q1, q2⟩ := dpa_get h2 ea
        obtain ⟨T, x1, rfl, hT, rfl, y1⟩ := y
        have e1 : x1 = v := Option.some.inj ((y1 _ (sb.seq (sa.seq h1))).symm.trans q1)
        subst e1
        have X := Ext.new (o := .tup [.int (i : Nat), x1]) sb hT
        exact ⟨_, X, .tup (SqT.of upd_same) (dpa_mono X.known (dpa_mono sa (.cons (.int _) (.cons q2 .nil))))⟩
      · rw [enumD_len, dpa_len h2]
        exact Nat.le_refl _
end
end K37

set_option Elab.async false
set_option linter.all false
set_option maxRecDepth 100000
set_option maxHeartbeats 4000000
namespace K37
open PySem PySem.Spec PyProof.Rows L2 RZ

section
variable {K : PySem.W.Frag} {C : List Addr} {M : Ms} {ρ : List Sl} {ta tb te tc tl : TE} {t u tt : TT} {dx dy d e : PD} {b : Bool} {r : R2} {N : Ms → List Sl → Prop} {R : Ms → PD → Prop} {rest s1 s2 s3 : TS}

theorem st_one (h : StD K C M ρ (tSeq s1 tNext) N R) : StD K C M ρ s1 N R := .mk <| fun E D hn hr => h E D hn hr
theorem st_next (h : N M ρ) : StD K C M ρ tNext N R := .mk <| fun {H0 H10 H H1 σ} E D hn _ => hn M ρ H H1 σ h E (Same.refl _)
theorem st_assoc (h : StD K C M ρ (tSeq s1 (tSeq s2 rest)) N R) : StD K C M ρ (tSeq (tSeq s1 s2) rest) N R := .mk <| fun E D hn hr => h E D hn hr
theorem st_skip (h : StD K C M ρ rest N R) : StD K C M ρ (tSeq tNext rest) N R := .mk <| fun E D hn hr => h E D hn hr
theorem st_set {i : Nat} (h : EvD K M ρ te d) (k : StD K C M (ρ.set i (.val d)) rest N R) : StD K C M ρ (tSeq (tAsg te (gName i)) rest) N R := .mk <| fun E D hn hr =>
  h E (Ins.refl M) _ fun v H' H2 E' s p => k (E'.setV p) D (fun M' ρ' H'' H3 σ' n E'' s' => hn M' ρ' H'' H3 σ' n E'' (s.trans s')) (fun d' M' ρ' v' H'' H3 σ' q E'' s' p' => hr d' M' ρ' v' H'' H3 σ' q E'' (s.trans s') p')
/-- a new list, to be changed -/
theorem st_new {i : Nat} (k : ∀ p, p ∉ C → (∀ q ∈ M, q.1 ≠ p) → StD K C ((p, .lst []) :: M) (ρ.set i (.ml p)) rest N R) : StD K C M ρ (tSeq (tAsg (tLst tNil) (gName i)) rest) N R := .mk <| fun {H0 H10 H H1 σ} E D hn hr =>
  ⟨Nat.zero_le _, fun p hp => by
    have hne : ∀ q ∈ M, q.1 ≠ p := fun q hq z => (E.mem q hq).2.2.some (by rw [z]; exact hp)
    have hC : p ∉ C := fun hc => by
      obtain ⟨q, hq, e⟩ := List.mem_map.mp (E.cin p hc)
      exact hne q hq e
    have E' := E.newM (o := .lst []) (m := .lst []) hp ⟨[], upd_same, .nil⟩
    exact k p hC hne (E'.set (s := .ml p) rfl) D hn hr⟩
theorem st_if (h : EvT K M ρ t b) (h1 : b = true → StD K C M ρ (tSeq s1 rest) N R) (h2 : b = false → StD K C M ρ (tSeq s2 rest) N R) : StD K C M ρ (tSeq (tIfS t s1 s2) rest) N R := .mk <| fun E D hn hr =>
  h E (Ins.refl M) _ fun H' H2 E' s => by
    cases b with
    | true =>
      rw [if_pos rfl]
      exact h1 rfl E' D (fun M' ρ' H'' H3 σ' n E'' s' => hn M' ρ' H'' H3 σ' n E'' (s.trans s')) (fun d' M' ρ' v' H'' H3 σ' q E'' s' p' => hr d' M' ρ' v' H'' H3 σ' q E'' (s.trans s') p')
    | false =>
      rw [if_neg Bool.false_ne_true]
      exact h2 rfl E' D (fun M' ρ' H'' H3 σ' n E'' s' => hn M' ρ' H'' H3 σ' n E'' (s.trans s')) (fun d' M' ρ' v' H'' H3 σ' q E'' s' p' => hr d' M' ρ' v' H'' H3 σ' q E'' (s.trans s') p')
theorem st_ret (h : EvD K M ρ te d) (k : R M d) : StD K C M ρ (tRet te) N R := .mk <| fun E D hn hr =>
  h E (Ins.refl M) _ fun v H' H2 E' s p => hr d M ρ v H' H2 _ k E' s p
theorem st_retS (h : EvD K M ρ te d) (k : R M d) : StD K C M ρ (tSeq (tRet te) rest) N R := .mk <| fun E D hn hr =>
  h E (Ins.refl M) _ fun v H' H2 E' s p => hr d M ρ v H' H2 _ k E' s p
theorem st_drop (h : EvD K M ρ te d) (k : StD K C M ρ rest N R) : StD K C M ρ (tSeq (tDrop te) rest) N R := .mk <| fun E D hn hr =>
  h E (Ins.refl M) _ fun v H' H2 E' s p => k E' D (fun M' ρ' H'' H3 σ' n E'' s' => hn M' ρ' H'' H3 σ' n E'' (s.trans s')) (fun d' M' ρ' v' H'' H3 σ' q E'' s' p' => hr d' M' ρ' v' H'' H3 σ' q E'' (s.trans s') p')
theorem st_par {i j : Nat} {ta : TA} (h : EvA K M ρ ta [dx, dy]) (k : StD K C M ((ρ.set i (.val dx)).set j (.val dy)) rest N R) : StD K C M ρ (tSeq (tPar i j ta) rest) N R := .mk <| fun E D hn hr =>
  h E (Ins.refl M) _ fun vs H' H2 E' s p => by
    cases p with
    | cons p1 p2 =>
      cases p2 with
      | cons p2 p3 =>
        cases p3
        exact ⟨_, _, rfl, k ((E'.setV p1).setV p2) D (fun M' ρ' H'' H3 σ' n E'' s' => hn M' ρ' H'' H3 σ' n E'' (s.trans s')) (fun d' M' ρ' v' H'' H3 σ' q E'' s' p' => hr d' M' ρ' v' H'' H3 σ' q E'' (s.trans s') p')⟩
/-- a changing list is changed no more -/
theorem st_freeze {p : Addr} {ds : List PD} {i : Nat} (hi : ρ[i]? = some (.ml p)) (hc : p ∉ C) (k : StD K C M (ρ.set i (.val (.list ds))) rest N R) : StD K C ((p, .lst ds) :: M) ρ rest N R := .mk <| fun {H0 H10 H H1 σ} E D hn hr => by
  obtain ⟨xs, E', dp, s⟩ := E.freeze hc
  have hv := E.mutA hi
  have E2 : En K C H0 H10 M (upd H p (.lst xs)) H1 (ρ.set i (.val (.list ds))) σ := by
    have := E'.setV (i := i) dp
    rw [show σ.set i (some (.ref p)) = σ from ?_] at this
    · exact this
    · apply List.ext_getElem?
      intro j
      by_cases hj : i = j
      · subst hj
        obtain ⟨h1, h2⟩ := List.getElem?_eq_some_iff.mp hv
        rw [List.getElem?_set_self h1, hv]
      · rw [List.getElem?_set_ne hj]
  exact k E2 D (fun M' ρ' H'' H3 σ' n E'' s' => hn M' ρ' H'' H3 σ' n E'' (s.trans s')) (fun d' M' ρ' v' H'' H3 σ' q E'' s' p' => hr d' M' ρ' v' H'' H3 σ' q E'' (s.trans s') p')
theorem st_perm {M' : Ms} (h : M.Perm M') (k : StD K C M' ρ rest N R) : StD K C M ρ rest N R := .mk <| fun E D hn hr => k (E.perm h) D hn hr
theorem st_forget {p : Addr × MO} (hc : p.1 ∉ C) (k : StD K C M ρ rest N R) : StD K C (p :: M) ρ rest N R := .mk <| fun E D hn hr => k (E.drop hc) D hn hr
/-- slots forgotten -/
theorem st_weak {ρ' : List Sl} (hl : ρ'.length = ρ.length) (h : ∀ (i : Nat) s, ρ'[i]? = some s → s = .no ∨ ρ[i]? = some s) (k : StD K C M ρ' rest N R) : StD K C M ρ rest N R := .mk <| fun {H0 H10 H H1 σ} E D hn hr =>
  k ⟨E.ext, by rw [E.len, hl], fun i s e => by
    rcases h i s e with rfl | h
    · trivial
    · exact E.slots i s h, E.mem, E.nd, E.cin⟩ D hn hr
/-- append -/
theorem st_app {l : Addr} {ds : List PD} {i : Nat} (hi : ρ[i]? = some (.ml l)) (h : EvD K ((l, .lst ds) :: M) ρ te d) (hz : ds.length < 100000) (k : StD K C ((l, .lst (ds ++ [d])) :: M) ρ rest N R) :
    StD K C ((l, .lst ds) :: M) ρ (tSeq (tDrop (tBM K "list" rAppend (tVar i) (tCons te tNil))) rest) N R := .mk <| fun {H0 H10 H H1 σ} E D hn hr => by
  obtain ⟨_, _, xs0, g3, _⟩ := E.mem _ (List.mem_cons_self ..)
  refine ⟨.ref l, E.mutA hi, .inl ⟨rfl, _, SqL.of g3⟩, h E (Ins.refl _) _ fun v H' H2 E' s p => ?_⟩
  obtain ⟨_, _, xs, g3, g4⟩ := E'.mem _ (List.mem_cons_self ..)
  refine ⟨l, xs, v, rfl, rfl, g3, Nat.lt_of_lt_of_le (by rw [dpa_len g4]; exact hz) (by decide), ?_⟩
  exact k (E'.chg ⟨_, upd_same, dpa_app g4 (.cons p .nil)⟩) D (fun M' ρ' H'' H3 σ' n E'' s' => hn M' ρ' H'' H3 σ' n E'' (s.trans s')) (fun d' M' ρ' v' H'' H3 σ' q E'' s' p' => hr d' M' ρ' v' H'' H3 σ' q E'' (s.trans s') p')
/-- extend -/
theorem st_ext {l : Addr} {ds es : List PD} {i : Nat} (hi : ρ[i]? = some (.ml l)) (h : EvL K ((l, .lst ds) :: M) ρ te es) (hz : ds.length + es.length ≤ 100000) (k : StD K C ((l, .lst (ds ++ es)) :: M) ρ rest N R) :
    StD K C ((l, .lst ds) :: M) ρ (tSeq (tDrop (tBM K "list" rExtend (tVar i) (tCons te tNil))) rest) N R := .mk <| fun {H0 H10 H H1 σ} E D hn hr => by
  obtain ⟨_, _, xs0, g3, _⟩ := E.mem _ (List.mem_cons_self ..)
  refine ⟨.ref l, E.mutA hi, .inl ⟨rfl, _, SqL.of g3⟩, h E (Ins.refl _) _ fun q ys H' H2 E' s hq p => ?_⟩
  obtain ⟨_, _, xs, g3, g4⟩ := E'.mem _ (List.mem_cons_self ..)
  refine ⟨l, q, xs, ys, rfl, rfl, g3, E'.sub _ _ hq, Nat.le_trans (by rw [dpa_len g4, dpa_len p]; exact hz) (by decide), ?_⟩
  exact k (E'.chg ⟨_, upd_same, dpa_app g4 p⟩) D (fun M' ρ' H'' H3 σ' n E'' s' => hn M' ρ' H'' H3 σ' n E'' (s.trans s')) (fun d' M' ρ' v' H'' H3 σ' q E'' s' p' => hr d' M' ρ' v' H'' H3 σ' q E'' (s.trans s') p')
/-- a for -/
theorem st_for {wi : TI} {g : TG} {tb : TS} {ds : List PD} (J : Nat → Ms → List Sl → Prop) (hi : ItD K M ρ wi ds) (h0 : J 0 M ρ)
    (hs : ∀ (i : Nat) d M' ρ', ds[i]? = some d → J i M' ρ' → ∃ ρ'' js, GD K g d ρ' ρ'' js ∧ StD K C M' ρ'' tb (J (i + 1)) R)
    (hd : ∀ M' ρ', J ds.length M' ρ' → StD K C M' ρ' rest N R) : StD K C M ρ (tSeq (tFor wi g tb) rest) N R := .mk <| fun {H0 H10 H H1 σ} E D hn hr =>
  hi E (Ins.refl M) _ fun Jt Hk H2 E2 s2 W => by
    refine ⟨fun i m σ' Hx => m = ds.length - i ∧ i ≤ ds.length ∧ ∃ M' ρ' H', J i M' ρ' ∧ En K C H0 H10 M' H' Hx ρ' σ' ∧ Same Hk H', ⟨ds.length, rfl, Nat.zero_le _, M, ρ, Hk, h0, E2, Same.refl _⟩, ?_⟩
    rintro i m σ' Hx ⟨rfl, hil, M', ρ', H', j, E', s'⟩
    by_cases hlt : i < ds.length
    · have hdd : ds[i]? = some ds[i] := List.getElem?_eq_getElem hlt
      refine .inr ⟨W.go i _ Hx (s'.trans E'.sub) hdd, fun σ3 Hy => ∃ M3 ρ3 H3, J (i + 1) M3 ρ3 ∧ En K C H0 H10 M3 H3 Hy ρ3 σ3 ∧ Same Hk H3, fun σ3 Hy q => ⟨ds.length - (i + 1), by omega, rfl, hlt, q⟩, fun x Hz y => ?_⟩
      obtain ⟨H'', x1, px⟩ := W.yld i _ H' Hx x Hz s' E'.sub hdd y
      have E'' := E'.grow x1
      obtain ⟨ρ'', js, hg, hb⟩ := hs i _ M' ρ' hdd j
      refine hg E'' px _ fun σ2 E3 _ => ?_
      refine hb E3 _ (fun M3 ρ3 H3 H4 σ3 n E4 s4 => ⟨M3, ρ3, H3, n, E4, (s'.trans x1.known).trans s4⟩) (fun d' M3 ρ3 v' H3 H4 σ3 q E4 s4 p4 => hr d' M3 ρ3 v' H3 H4 σ3 q E4 (((s2.trans s').trans x1.known).trans s4) p4)
    · have ei : i = ds.length := by omega
      subst ei
      exact .inl ⟨W.stop Hx (s'.trans E'.sub), hd M' ρ' j E' D (fun M3 ρ3 H3 H4 σ3 n E4 s4 => hn M3 ρ3 H3 H4 σ3 n E4 ((s2.trans s').trans s4)) (fun d' M3 ρ3 v' H3 H4 σ3 q E4 s4 p4 => hr d' M3 ρ3 v' H3 H4 σ3 q E4 ((s2.trans s').trans s4) p4)⟩
end

section
variable {K : PySem.W.Frag} {C : List Addr} {M Md : Ms} {ρ : List Sl} {ta tb te tc tl : TE} {t u tt : TT} {dx dy d e : PD} {b : Bool} {r : R2} {N : Ms → List Sl → Prop} {R : Ms → PD → Prop} {rest s1 s2 s3 : TS}
theorem st_ifF (h : EvT K M ρ t b) (e : b = false) (k : StD K C M ρ (tSeq s2 rest) N R) : StD K C M ρ (tSeq (tIfS t s1 s2) rest) N R := st_if h (fun q => by rw [e] at q; cases q) (fun _ => k)
theorem st_ifT (h : EvT K M ρ t b) (e : b = true) (k : StD K C M ρ (tSeq s1 rest) N R) : StD K C M ρ (tSeq (tIfS t s1 s2) rest) N R := st_if h (fun _ => k) (fun q => by rw [e] at q; cases q)
/-- if .. : raise .., not taken -/
theorem st_guard (h : EvT K M ρ t b) (e : b = false) (k : StD K C M ρ rest N R) : StD K C M ρ (tSeq (tIfS t s1 tNext) rest) N R := st_ifF h e (st_skip k)
theorem el_filt {α : Type} {wi : TI} {g : TG} {vs : List Nat} {xs : List α} {enc : α → PD} (p : α → Bool) (f : α → PD) (hi : ItD K Md ρ wi (xs.map enc)) (hl : xs.length ≤ 100000)
    (h : ∀ a ∈ xs, ∃ ρ' js, GD K g (enc a) (wipeR ρ vs) ρ' js ∧ (∀ j ∈ js, j ∈ vs) ∧ EvT K Md ρ' tt (p a) ∧ (p a = true → EvD K Md ρ' te (f a))) : EvL K Md ρ (tLc wi g tt te vs) ((xs.filter p).map f) := by
  refine .mk <| fun {C H0 H10 M H H1 σ} E hm Q k => ?_
  refine hi E hm _ fun J Hk H2 E2 s2 W => fun D hD => ?_
  have hDC : D ∉ C := fun hc => by
    obtain ⟨p, hp, e⟩ := List.mem_map.mp (E2.cin D hc)
    exact (E2.mem p hp).2.2.some (by rw [e]; exact hD)
  have hlen : (xs.map enc).length = xs.length := List.length_map ..
  refine ⟨fun i m Hx => m = xs.length - i ∧ i ≤ xs.length ∧ ∃ H', En K C H0 H10 ((D, .lst (((xs.take i).filter p).map f)) :: M) H' Hx ρ σ ∧ Same Hk H', ⟨xs.length, rfl, Nat.zero_le _, Hk, ?_, Same.refl _⟩, ?_⟩
  · rw [List.take_zero]
    exact E2.newM hD ⟨[], upd_same, .nil⟩
  rintro i m Hx ⟨rfl, hil, H', E', s'⟩
  by_cases hlt : i < xs.length
  · have hd : (xs.map enc)[i]? = some (enc xs[i]) := by rw [List.getElem?_map, List.getElem?_eq_getElem hlt]; rfl
    have htk : ((xs.take (i + 1)).filter p).map f = ((xs.take i).filter p).map f ++ (if p xs[i] then [f xs[i]] else []) := by
      rw [List.take_add_one, List.getElem?_eq_getElem hlt, List.filter_append, List.map_append]
      congr 1
      show (List.filter p [xs[i]]).map f = _
      rw [List.filter_cons]
      split
      · rfl
      · rfl
    refine .inr ⟨W.go i _ Hx (s'.trans E'.sub) hd, fun Hy => ∃ H', En K C H0 H10 ((D, .lst (((xs.take (i + 1)).filter p).map f)) :: M) H' Hy ρ σ ∧ Same Hk H', fun Hy q => ⟨xs.length - (i + 1), by omega, rfl, hlt, q⟩, fun x Hz y => ?_⟩
    obtain ⟨H'', x1, px⟩ := W.yld i _ H' Hx x Hz s' E'.sub hd y
    have E'' := E'.grow x1
    obtain ⟨ρ', js, hg, hjs, ht, hb1⟩ := h xs[i] (List.getElem_mem hlt)
    refine hg (E''.wipe vs) px _ fun σ2 E3 touch => ⟨wipe_eq (by rw [touch.1, wipe_length]) fun j hj => by rw [touch.2 j fun z => hj (hjs j z), wipe_out hj], ?_⟩
    refine ht E3 (hm.cons _) _ fun H4 H5 E4 s4 => ?_
    cases hp : p xs[i] with
    | false =>
      rw [if_neg Bool.false_ne_true]
      refine ⟨H4, ?_, (s'.trans x1.known).trans s4⟩
      rw [htk, hp, if_neg Bool.false_ne_true, List.append_nil]
      exact E'.back E4 (x1.known.trans s4)
    | true =>
      rw [if_pos rfl]
      refine hb1 hp E4 (hm.cons _) _ fun y H6 H7 E5 s5 py => ?_
      obtain ⟨g1, g2, zs, g3, g4⟩ := E5.mem _ (List.mem_cons_self ..)
      have hle : (((xs.take i).filter p).map f).length ≤ 100000 := by
        rw [List.length_map]
        have h1 := List.length_filter_le p (xs.take i)
        have h2 : (xs.take i).length ≤ xs.length := by rw [List.length_take]; omega
        omega
      refine ⟨zs, g3, Nat.lt_of_le_of_lt (by rw [dpa_len g4]; exact hle) (by decide), H6, ?_, ((s'.trans x1.known).trans s4).trans s5⟩
      rw [htk, hp, if_pos rfl]
      exact (E'.back E5 ((x1.known.trans s4).trans s5)).chg ⟨_, upd_same, dpa_app g4 (.cons py .nil)⟩
  · have ei : i = xs.length := by omega
    subst ei
    refine .inl ⟨by rw [← hlen]; exact W.stop Hx (s'.trans E'.sub), ?_⟩
    rw [List.take_length] at E'
    obtain ⟨zs, E6, p6, s6⟩ := E'.freeze hDC
    cases p6 with
    | lst q1 q2 =>
      obtain ⟨g1, g2, ys, g3, g4⟩ := E'.mem _ (List.mem_cons_self ..)
      refine k D zs _ _ E6 ((s2.trans s').trans s6) upd_same ?_
      have e1 : zs = ys := by
        have := E6.sub D _ upd_same
        rw [g3] at this
        cases this
        rfl
      rw [e1]
      exact dpa_mono (e1 ▸ s6) g4
theorem el_map {α : Type} {wi : TI} {g : TG} {vs : List Nat} {xs : List α} {enc : α → PD} (f : α → PD) (hi : ItD K Md ρ wi (xs.map enc)) (hl : xs.length ≤ 100000)
    (h : ∀ a ∈ xs, ∃ ρ' js, GD K g (enc a) (wipeR ρ vs) ρ' js ∧ (∀ j ∈ js, j ∈ vs) ∧ EvD K Md ρ' te (f a)) : EvL K Md ρ (tLc wi g tYes te vs) (xs.map f) := by
  have := el_filt (tt := tYes) (te := te) (fun _ => true) f hi hl fun a ha => by
    obtain ⟨ρ', js, h1, h2, h3⟩ := h a ha
    exact ⟨ρ', js, h1, h2, et_yes, fun _ => h3⟩
  rw [List.filter_eq_self.mpr (fun _ _ => rfl)] at this
  exact this
/-- a for over typed items -/
theorem st_forT {α : Type} {wi : TI} {g : TG} {tb : TS} {xs : List α} {enc : α → PD} (J : Nat → Ms → List Sl → Prop) (hi : ItD K M ρ wi (xs.map enc)) (h0 : J 0 M ρ)
    (hs : ∀ (i : Nat) (h : i < xs.length) M' ρ', J i M' ρ' → ∃ ρ'' js, GD K g (enc xs[i]) ρ' ρ'' js ∧ StD K C M' ρ'' tb (J (i + 1)) R)
    (hd : ∀ M' ρ', J xs.length M' ρ' → StD K C M' ρ' rest N R) : StD K C M ρ (tSeq (tFor wi g tb) rest) N R := by
  refine st_for J hi h0 (fun i d M' ρ' e j => ?_) (fun M' ρ' j => ?_)
  · rw [List.getElem?_map] at e
    by_cases hlt : i < xs.length
    · rw [List.getElem?_eq_getElem hlt] at e
      cases e
      exact hs i hlt M' ρ' j
    · rw [List.getElem?_eq_none (by omega)] at e
      cases e
  · rw [List.length_map] at j
    exact hd M' ρ' j
end
/-! ### a def that changes nothing -/
theorem start_len {N : List Str} {vs : List V} (h : vs.length ≤ N.length) : (L2.start N vs).length = N.length := by
  unfold L2.start
  rw [List.length_append, List.length_map, List.length_replicate]
  omega
theorem dpa_start {K : PySem.W.Frag} {H : Hp} {vs : List V} {ds : List PD} (h : DpAll K H vs ds) (n : Nat) : ∀ (i : Nat) s, (ds.map Sl.val ++ List.replicate n Sl.no)[i]? = some s → SlOk K H (vs.map some ++ List.replicate n none)[i]? s := fun i s e => by
  have hl := dpa_len h
  by_cases hi : i < ds.length
  · rw [List.getElem?_append_left (by rw [List.length_map]; exact hi), List.getElem?_map] at e
    rw [List.getElem?_append_left (by rw [List.length_map, hl]; exact hi), List.getElem?_map]
    obtain ⟨d, hd⟩ : ∃ d, ds[i]? = some d := ⟨ds[i], List.getElem?_eq_getElem hi⟩
    rw [hd] at e
    cases e
    obtain ⟨v, h1, h2⟩ := dpa_get h hd
    rw [h1]
    exact ⟨v, rfl, h2⟩
  · rw [List.getElem?_append_right (by rw [List.length_map]; omega)] at e
    by_cases h2 : i - (ds.map Sl.val).length < n
    · rw [List.getElem?_replicate, if_pos h2] at e
      cases e
      trivial
    · rw [List.getElem?_replicate, if_neg h2] at e
      cases e
theorem fn_pure {P : Program} {w : World} {K : PySem.W.Frag} {mg : Str → Option Value} {base : Heap} {x qual : Str} {st : Stmt} {f : Addr} {fd : FuncData} {N ps : List Str} {k : Nat} {R : List PD → PD → Prop}
    (F : Fun K x qual st f fd) (S : FnScope N ps (defScope st)) (hlen : ∀ ds d, R ds d → ds.length = ps.length) (n : Nat) (hN : N.length = ps.length + n)
    (hb : ∀ (cdv : Value) (A : Around) (outer : List Env) (s : Shared) (H : Hp) (E : XK) (ds : List PD) (d : PD), Room k (A.deeper (envOfC qual (defScope st) s.heap.objs.size f cdv)) → R ds d →
      ∃ t, PSs (cxOf CX0 P w K mg base N qual (defScope st) f cdv A outer s H E).nox (defBody st) t ∧ StD K [] [] (ds.map Sl.val ++ List.replicate n Sl.no) t (fun _ _ => d = .none) (fun _ d' => d' = d)) :
    FnOk P w K mg base CX0 (k + 1) f fd ps (spD K R) := by
  refine F.ok S (fun vs H Q E h => ?_) fun cdv A outer s H vs Q E hr h => ?_
  · obtain ⟨Hk, ds, d, s, p, r, _⟩ := h
    rw [dpa_len p]
    exact hlen ds d r
  · obtain ⟨Hk, ds, d, s0, p, r, q⟩ := h
    obtain ⟨t, h1, h2⟩ := hb cdv A outer s H E ds d hr r
    have hl := hlen ds d r
    have hv := dpa_len p
    refine ⟨t, h1, h2 (H0 := Hk) (H10 := H) (H := Hk) (H1 := H) (σ := L2.start N vs) ?_ _ (fun M' ρ' H' H2 σ' n E' s' => ?_) fun d' M' ρ' v H' H2 σ' e E' s' p' => ?_⟩
    · refine ⟨Ext.refl s0, ?_, ?_, (fun _ z => nomatch z), List.nodup_nil, (fun _ z => nomatch z)⟩
      · rw [start_len (by rw [hv, hl]; omega), List.length_append, List.length_map, List.length_replicate, hl]
        omega
      · unfold L2.start
        rw [show N.length - vs.length = n by omega]
        exact dpa_start p _
    · subst n
      exact q .non H' H2 E'.ext .non
    · subst e
      exact q v H' H2 E'.ext p'
end K37

set_option Elab.async false
set_option linter.all false
set_option maxRecDepth 100000
set_option maxHeartbeats 4000000
/-! own rules: tuple[::-1] -/
namespace K37
open PySem PySem.Spec PyProof.Rows L2 RZ HT

section
variable {prog : Program} {w : World} {A : Around} {E : Value → Shared → Prop} {s : Shared}
theorem adjust_rev (n : Nat) : Builtin.Slice.sliceAdjust none none (-1) (n : Int) = ((n : Int) - 1, -1) := by
  unfold Builtin.Slice.sliceAdjust
  rfl
theorem places_rev (n : Nat) : Builtin.Slice.slicePlaces ((n : Int) - 1) (-1) (-1) = n := by
  unfold Builtin.Slice.slicePlaces
  rw [if_neg (by decide)]
  by_cases h : n = 0
  · subst h
    rfl
  · rw [if_pos (by omega)]
    show ((((n : Int) - 1 - -1 - 1) / 1 + 1)).toNat = n
    rw [Int.ediv_one]
    omega
theorem pick_rev (xs : Array Value) : ((List.range xs.size).filterMap fun (m : Nat) => xs[(((xs.size : Int) - 1) + (m : Int) * (-1)).toNat]?).toArray = xs.toList.reverse.toArray := by
  congr 1
  have h := PySem.W.krv_all xs
  have e : (List.range xs.size).filterMap (fun (m : Nat) => xs[(((xs.size : Int) - 1) + (m : Int) * (-1)).toNat]?) = ((List.range xs.size).map fun k => xs.size - 1 - k).filterMap (fun k => xs[k]?) := by
    rw [List.filterMap_map]
    congr 1
    funext m
    have : (((xs.size : Int) - 1) + (m : Int) * (-1)).toNat = xs.size - 1 - m := by omega
    rw [this]
    rfl
  rw [e, PySem.W.krv_range, List.filterMap_reverse, h]
theorem sliceApplied_rev {sl : Addr} {vs : Value} {n : Nat} {Q : Int × Int × Nat → Shared → Prop} (hs : s.heap.IsSliceOf sl .none .none vs) (ps : IsPart vs (some (-1)))
    (h : Q ((n : Int) - 1, -1, n) s) : wpAny (model prog w) A (Builtin.Slice.sliceApplied (.ref sl) (pure (n : Int))) Q E s := by
  obtain ⟨os, hos, hcs, hds⟩ := id hs
  unfold Builtin.Slice.sliceApplied Builtin.Slice.sliceFields
  refine wpAny_bind (wpAny_bind (wpAny_field hos hds (x := .none) rfl (wpAny_bind (wpAny_field hos hds (x := .none) rfl (wpAny_bind (wpAny_field hos hds (x := vs) rfl (wpAny_pure ?_)))))))
  refine wpAny_bind (slicePart_ ps ?_)
  show wpAny _ _ (if ((-1 : Int) == 0) = true then _ else _) _ _ s
  rw [if_neg (by decide)]
  refine wpAny_bind (slicePart_none (wpAny_bind (slicePart_none (wpAny_bind (wpAny_pure ?_)))))
  show wpAny _ _ (match Builtin.Slice.sliceAdjust none none (-1) (n : Int) with | (lo, hi) => pure (lo, (-1 : Int), Builtin.Slice.slicePlaces lo hi (-1))) _ _ s
  rw [adjust_rev n]
  show wpAny _ _ (pure (((n : Int) - 1), (-1 : Int), Builtin.Slice.slicePlaces ((n : Int) - 1) (-1) (-1))) _ _ s
  rw [places_rev]
  exact wpAny_pure h
theorem getItem_tuple_rev {t sl : Addr} {items : Array Value} {vs : Value} {Q : Value → Shared → Prop} (ht : IsTup s.heap t items) (hs : s.heap.IsSliceOf sl .none .none vs) (ps : IsPart vs (some (-1)))
    (h : Q (.ref s.heap.objs.size) { s with heap := s.heap.push { cls := .type "tuple", data := .seq items.toList.reverse.toArray } })
    (hsz : items.size ≤ sizeLine) : wpAny (model prog w) A (getItem (.ref t) (.ref sl)) Q E s := by
  have htake : sizeOk (.seq items.toList.reverse.toArray) := by
    show (items.toList.reverse.toArray).size ≤ sizeLine
    rw [List.size_toArray, List.length_reverse, Array.length_toList]
    exact hsz
  obtain ⟨os, hos, hcs, hds⟩ := id hs
  have hTs : s.TypeIs (.ref sl) "slice" := ⟨os, hos, hcs⟩
  unfold getItem
  try with_reducible refine wpAny_holding ?_
  first | refine wpAny_bind (wpAny_pure ?_) | skip
  refine wpAny_bind (wpAny_sequenceKey ht.typeIs (by decide) ?_)
  refine wpAny_bind (wpAny_callSpecial?_slot (name := Str.ofString "__getitem__") ht.typeIs PyProof.Rows.slot_tuple_getitem
    (wpAny_call_entry PyProof.Rows.slot_tuple_getitem ht.typeIs entry_tuple_getitem ?_ (args_tuple_getitem _ _)))
  show wpAny _ _ (Builtin.Tuple.tupleItemsOf (.ref t) >>= _) _ _ s
  refine wpAny_bind (tupleItemsOf_ ht ?_)
  refine wpAny_bind (wpAny_typeOf hTs ?_)
  rw [if_pos (by decide)]
  refine wpAny_bind (sliceApplied_rev hs ps ?_)
  have hno : ¬ ((((items.size : Int) - 1) == 0 && (-1 : Int) == 1 && items.size == items.size) = true) := by
    intro q
    rw [Bool.and_eq_true, Bool.and_eq_true] at q
    exact absurd (eq_of_beq q.1.2) (by decide)
  show wpAny _ _ (if (((items.size : Int) - 1) == 0 && (-1 : Int) == 1 && items.size == items.size) = true then _ else _) _ _ s
  rw [if_neg hno, pick_rev]
  first
    | exact wpAny_bind (m := Builtin.Tuple.tupleExact _) (wpAny_newObj_type (wpAny_pure ⟨_, rfl, wpAny_pure h⟩) htake)
    | exact wpAny_bind (m := Builtin.Tuple.tupleExact _) (wpAny_newObj_type (wpAny_bind (wpAny_pure (wpAny_pure ⟨_, rfl, wpAny_pure h⟩))) htake)
    | exact wpAny_bind (wpAny_bind (m := Builtin.Tuple.tupleExact _) (wpAny_newObj_type (wpAny_pure (wpAny_pure ⟨_, rfl, wpAny_pure h⟩)) htake))
    | exact wpAny_bind (wpAny_bind (m := Builtin.Tuple.tupleExact _) (wpAny_newObj_type (wpAny_pure ⟨_, rfl, wpAny_pure h⟩) htake))
end
section
variable {X : Cx}
def tRevT (K : PySem.W.Frag) (te : TE) : TE := fun σ H Q => te σ H fun x H1 => ∃ a xs, x = .ref a ∧ SqT K H1 a xs ∧ ∀ p, H1 p = none → Q (.ref p) (upd H1 p (.tup xs.reverse))
theorem pe_revT {e : Expr} {te : TE} {k : Nat} {p1 p2 p3 pos : Pos} (he : PE X e te) : PE X (.Subscript e (.Slice none none (some (.UnaryOp .USub (.Constant (.int 1) k p1) p2)) p3) pos) (tRevT X.K te) := by
  refine ⟨fun pins s σ H Q I h => ?_⟩
  refine Subscript_ (thn (he.run pins s σ H _ I h) fun v s1 ⟨x, H1, I1, r1, q1⟩ => ?_)
  obtain ⟨a, xs, ex, hx, q⟩ := q1
  subst ex
  cases r1
  have hst : PO X (some (.UnaryOp .USub (.Constant (.int 1) k p1) p2)) (tPart (tUn (rU fun i => .int (-i)) (tC (.int 1)))) := po_some (pe_un un_neg pe_int)
  refine wpAny_Slice (thn (po_none.run pins s1 σ H1 (fun o H2 => o = none ∧ H2 = H1) I1 ⟨rfl, rfl⟩) fun vl s2 ⟨l, H2, I2, pl, el, e2⟩ => ?_)
  subst el e2
  refine thn (po_none.run pins s2 σ H2 (fun o H3 => o = none ∧ H3 = H2) I2 ⟨rfl, rfl⟩) fun vu s3 ⟨u, H3, I3, pu, eu, e3⟩ => ?_
  subst eu e3
  refine thn (hst.run pins s3 σ H3 (fun o H4 => o = some (-1) ∧ H4 = H3) I3 ⟨1, rfl, -1, rfl, rfl, rfl⟩) fun vs s4 ⟨o, H4, I4, ps, eo, e4⟩ => ?_
  subst eo e4
  have I5 : Inv X pins σ H4 { s4 with heap := s4.heap.push { cls := .type "slice", data := .fields #[vl, vu, vs] } } := I4.kept (t' := s4.toks) fun b ob q => Heap.get?_push_of_some _ q
  obtain ⟨its, r, ht, hz⟩ := I5.tuple hx
  have hlen := r.length
  cases pl
  cases pu
  show wpAny (model X.prog X.w) X.A (subscriptTail e (.Slice none none (some (.UnaryOp .USub (.Constant (.int 1) k p1) p2)) p3) (.ref a) (.ref s4.heap.objs.size)) (EP X pins σ Q) X.xe { s4 with heap := s4.heap.push { cls := .type "slice", data := .fields #[.none, .none, vs] } }
  refine tail_any (ops := [.ref a, .ref s4.heap.objs.size]) ht.typeIs (PyProof.Rows.slot_tuple_getitem.lookup) ?_ (by with_unfolding_all rfl)
  refine getItem_tuple_rev ht (Heap.IsSliceOf.new _ _ _ vs) ps ?_ (by rw [List.size_toArray]; omega)
  refine ⟨.ref _, _, I5.laid (t' := s4.toks) (o := .tup xs.reverse) (fun b ob q => Heap.get?_push_of_some _ q) (Nat.le_refl _) ?_, rfl, q _ (I5.hok.fresh (Nat.le_refl _))⟩
  refine ⟨by rw [List.length_reverse]; exact hz, _, r.reverse, ⟨_, Heap.get?_push_size _ rfl, rfl, _, rfl⟩⟩
theorem ev_revT {K : PySem.W.Frag} {Md : Ms} {ρ : List Sl} {te : TE} {ds : List PD} (ha : EvD K Md ρ te (.tuple ds)) : EvD K Md ρ (tRevT K te) (.tuple ds.reverse) := .mk <| fun E hm Q k =>
  ha E hm _ fun x Ha H1a Ea sa px => by
    cases px with
    | @tup a xs _ h1 h2 =>
      refine ⟨_, _, rfl, sqt_mono Ea.sub h1, fun p hp => ?_⟩
      have x := Ext.new (o := .tup xs.reverse) Ea.sub hp
      exact k _ _ _ (Ea.grow x) (sa.trans x.known) (.tup (SqT.of upd_same) (dpa_rev (dpa_mono x.known h2)))
end
end K37

set_option Elab.async false
set_option linter.all false
set_option maxRecDepth 100000
set_option maxHeartbeats 4000000
/-! the text, what stands at its top -/
namespace K37
open PySem PySem.Spec PyProof.Rows L2 RZ

def topS (i : Nat) : Stmt := PySem.Challenge.pw_lentpanes_k37_whole_seen_through_all.main.body.getD i (.Pass ⟨0, 0, 0, 0⟩)
abbrev s_is_among : Stmt := topS 18
theorem sc_is_among : FnScope ["thing", "least", "most"] ["thing", "least", "most"] (defScope s_is_among) := ⟨rfl, rfl, rfl, by decide +kernel, rfl, by decide +kernel, by decide +kernel⟩
abbrev s_is_row : Stmt := topS 19
theorem sc_is_row : FnScope ["thing", "byte"] ["thing"] (defScope s_is_row) := ⟨rfl, rfl, rfl, by decide +kernel, rfl, by decide +kernel, by decide +kernel⟩
abbrev s_is_side : Stmt := topS 20
theorem sc_is_side : FnScope ["thing"] ["thing"] (defScope s_is_side) := ⟨rfl, rfl, rfl, by decide +kernel, rfl, by decide +kernel, by decide +kernel⟩
abbrev s_many_by : Stmt := topS 21
theorem sc_many_by : FnScope ["counts", "found", "count"] ["counts"] (defScope s_many_by) := ⟨rfl, rfl, rfl, by decide +kernel, rfl, by decide +kernel, by decide +kernel⟩
abbrev s_is_width : Stmt := topS 22
theorem sc_is_width : FnScope ["thing"] ["thing"] (defScope s_is_width) := ⟨rfl, rfl, rfl, by decide +kernel, rfl, by decide +kernel, by decide +kernel⟩
abbrev s_is_order : Stmt := topS 23
theorem sc_is_order : FnScope ["thing"] ["thing"] (defScope s_is_order) := ⟨rfl, rfl, rfl, by decide +kernel, rfl, by decide +kernel, by decide +kernel⟩
abbrev s_is_window : Stmt := topS 24
theorem sc_is_window : FnScope ["thing", "side"] ["thing"] (defScope s_is_window) := ⟨rfl, rfl, rfl, by decide +kernel, rfl, by decide +kernel, by decide +kernel⟩
abbrev s_need_window : Stmt := topS 25
theorem sc_need_window : FnScope ["thing"] ["thing"] (defScope s_need_window) := ⟨rfl, rfl, rfl, by decide +kernel, rfl, by decide +kernel, by decide +kernel⟩
abbrev s_counts_in : Stmt := topS 26
theorem sc_counts_in : FnScope ["window", "count", "step"] ["window"] (defScope s_counts_in) := ⟨rfl, rfl, rfl, by decide +kernel, rfl, by decide +kernel, by decide +kernel⟩
abbrev s_places_in : Stmt := topS 27
theorem sc_places_in : FnScope ["window", "found", "count", "step", "longer", "place", "number"] ["window"] (defScope s_places_in) := ⟨rfl, rfl, rfl, by decide +kernel, rfl, by decide +kernel, by decide +kernel⟩
abbrev s_span_in : Stmt := topS 28
theorem sc_span_in : FnScope ["window", "ways", "count", "step", "least", "way"] ["window"] (defScope s_span_in) := ⟨rfl, rfl, rfl, by decide +kernel, rfl, by decide +kernel, by decide +kernel⟩
abbrev s_fits_in : Stmt := topS 29
theorem sc_fits_in : FnScope ["window", "length", "found"] ["window", "length"] (defScope s_fits_in) := ⟨rfl, rfl, rfl, by decide +kernel, rfl, by decide +kernel, by decide +kernel⟩
abbrev s_places : Stmt := topS 30
theorem sc_places : FnScope ["window"] ["window"] (defScope s_places) := ⟨rfl, rfl, rfl, by decide +kernel, rfl, by decide +kernel, by decide +kernel⟩
abbrev s_need_cell : Stmt := topS 31
theorem sc_need_cell : FnScope ["window", "thing", "number", "side"] ["window", "thing"] (defScope s_need_cell) := ⟨rfl, rfl, rfl, by decide +kernel, rfl, by decide +kernel, by decide +kernel⟩
abbrev s_place_in : Stmt := topS 32
theorem sc_place_in : FnScope ["window", "cell", "number", "side"] ["window", "cell"] (defScope s_place_in) := ⟨rfl, rfl, rfl, by decide +kernel, rfl, by decide +kernel, by decide +kernel⟩
abbrev s_cell_by : Stmt := topS 33
theorem sc_cell_by : FnScope ["counts", "number", "found", "count"] ["counts", "number"] (defScope s_cell_by) := ⟨rfl, rfl, rfl, by decide +kernel, rfl, by decide +kernel, by decide +kernel⟩
abbrev s_need_row : Stmt := topS 37
theorem sc_need_row : FnScope ["thing"] ["thing"] (defScope s_need_row) := ⟨rfl, rfl, rfl, by decide +kernel, rfl, by decide +kernel, by decide +kernel⟩
abbrev s_need_seen : Stmt := topS 38
theorem sc_need_seen : FnScope ["row", "window"] ["row", "window"] (defScope s_need_seen) := ⟨rfl, rfl, rfl, by decide +kernel, rfl, by decide +kernel, by decide +kernel⟩
abbrev s_word_in : Stmt := topS 39
theorem sc_word_in : FnScope ["row", "place", "window", "some", "found", "byte"] ["row", "place", "window"] (defScope s_word_in) := ⟨rfl, rfl, rfl, by decide +kernel, rfl, by decide +kernel, by decide +kernel⟩
abbrev s_bytes_of : Stmt := topS 40
theorem sc_bytes_of : FnScope ["word", "window", "found", "place"] ["word", "window"] (defScope s_bytes_of) := ⟨rfl, rfl, rfl, by decide +kernel, rfl, by decide +kernel, by decide +kernel⟩
abbrev s_fits_width : Stmt := topS 41
theorem sc_fits_width : FnScope ["thing", "window"] ["thing", "window"] (defScope s_fits_width) := ⟨rfl, rfl, rfl, by decide +kernel, rfl, by decide +kernel, by decide +kernel⟩
abbrev s_with_word : Stmt := topS 42
theorem sc_with_word : FnScope ["row", "place", "word", "window"] ["row", "place", "word", "window"] (defScope s_with_word) := ⟨rfl, rfl, rfl, by decide +kernel, rfl, by decide +kernel, by decide +kernel⟩
abbrev s_words_in : Stmt := topS 43
theorem sc_words_in : FnScope ["row", "window", "place"] ["row", "window"] (defScope s_words_in) := ⟨rfl, rfl, rfl, by decide +kernel, rfl, by decide +kernel, by decide +kernel⟩
abbrev s_side_by_side : Stmt := topS 44
theorem sc_side_by_side : FnScope ["some", "counts", "many", "number"] ["some", "counts"] (defScope s_side_by_side) := ⟨rfl, rfl, rfl, by decide +kernel, rfl, by decide +kernel, by decide +kernel⟩
abbrev s_word_at : Stmt := topS 45
theorem sc_word_at : FnScope ["row", "window", "cell"] ["row", "window", "cell"] (defScope s_word_at) := ⟨rfl, rfl, rfl, by decide +kernel, rfl, by decide +kernel, by decide +kernel⟩
abbrev s_words_of : Stmt := topS 46
theorem sc_words_of : FnScope ["row", "window"] ["row", "window"] (defScope s_words_of) := ⟨rfl, rfl, rfl, by decide +kernel, rfl, by decide +kernel, by decide +kernel⟩
abbrev s_table_of : Stmt := topS 47
theorem sc_table_of : FnScope ["row", "window", "some"] ["row", "window"] (defScope s_table_of) := ⟨rfl, rfl, rfl, by decide +kernel, rfl, by decide +kernel, by decide +kernel⟩
abbrev s_written : Stmt := topS 48
theorem sc_written : FnScope ["row", "window", "cell", "word"] ["row", "window", "cell", "word"] (defScope s_written) := ⟨rfl, rfl, rfl, by decide +kernel, rfl, by decide +kernel, by decide +kernel⟩
abbrev s_filled : Stmt := topS 49
theorem sc_filled : FnScope ["row", "window", "words", "some", "word", "found", "place"] ["row", "window", "words"] (defScope s_filled) := ⟨rfl, rfl, rfl, by decide +kernel, rfl, by decide +kernel, by decide +kernel⟩
abbrev s_first_unlike : Stmt := topS 50
theorem sc_first_unlike : FnScope ["row", "one", "other", "number", "mine", "yours"] ["row", "one", "other"] (defScope s_first_unlike) := ⟨rfl, rfl, rfl, by decide +kernel, rfl, by decide +kernel, by decide +kernel⟩
abbrev s_law_cell : Stmt := topS 52
theorem sc_law_cell : FnScope ["_law_cells_here", "_law_spot", "_law_k", "_law_own", "_law_turn", "_law_prime", "_law_cell_here", "_law_times", "_law_number"] ["_law_cells_here", "_law_spot"] (defScope s_law_cell) := ⟨rfl, rfl, rfl, by decide +kernel, rfl, by decide +kernel, by decide +kernel⟩
abbrev s_law_row : Stmt := topS 53
theorem sc_law_row : FnScope ["_law_cells_here", "_law_spot", "_law_length_here", "_law_way", "_law_found", "_law_k", "_law_n", "_law_few", "_law_byte"] ["_law_cells_here", "_law_spot", "_law_length_here"] (defScope s_law_row) := ⟨rfl, rfl, rfl, by decide +kernel, rfl, by decide +kernel, by decide +kernel⟩
abbrev s_law_length : Stmt := topS 54
theorem sc_law_length : FnScope ["_law_n"] ["_law_n"] (defScope s_law_length) := ⟨rfl, rfl, rfl, by decide +kernel, rfl, by decide +kernel, by decide +kernel⟩
abbrev s_law_window : Stmt := topS 55
theorem sc_law_window : FnScope ["_law_cells_here", "_law_spot", "_law_length_here", "_law_most", "_law_n", "_law_m", "_law_width", "_law_order", "_law_room", "_law_low", "_law_high", "_law_many", "_law_sides", "_law_k", "_law_p", "_law_count", "_law_step"] ["_law_cells_here", "_law_spot", "_law_length_here", "_law_most"] (defScope s_law_window) := ⟨rfl, rfl, rfl, by decide +kernel, rfl, by decide +kernel, by decide +kernel⟩
abbrev s_law_cells : Stmt := topS 56
theorem sc_law_cells : FnScope ["_law_window_here", "_law_counts", "_law_count", "_law_step", "_law_found", "_law_longer", "_law_row_here", "_law_number"] ["_law_window_here"] (defScope s_law_cells) := ⟨rfl, rfl, rfl, by decide +kernel, rfl, by decide +kernel, by decide +kernel⟩
abbrev s_law_any_word : Stmt := topS 57
theorem sc_law_any_word : FnScope ["_law_n", "_law_width", "_law_most", "_law_found"] ["_law_n", "_law_width"] (defScope s_law_any_word) := ⟨rfl, rfl, rfl, by decide +kernel, rfl, by decide +kernel, by decide +kernel⟩
abbrev s_law_bytes : Stmt := topS 58
theorem sc_law_bytes : FnScope ["_law_row_here"] ["_law_row_here"] (defScope s_law_bytes) := ⟨rfl, rfl, rfl, by decide +kernel, rfl, by decide +kernel, by decide +kernel⟩
abbrev s_law_by : Stmt := topS 59
theorem sc_law_by : FnScope ["_law_single", "_law_place", "_law_width", "_law_order", "_law_some", "_law_k", "_law_byte"] ["_law_single", "_law_place", "_law_width", "_law_order"] (defScope s_law_by) := ⟨rfl, rfl, rfl, by decide +kernel, rfl, by decide +kernel, by decide +kernel⟩
abbrev s_law_seen_right : Stmt := topS 60
theorem sc_law_seen_right : FnScope ["_law_ahead", "_law_behind", "_law_window_here", "_law_changed", "_law_single", "_law_old", "_law_found", "_law_k", "_law_place", "_law_met", "_law_byte"] ["_law_ahead", "_law_behind", "_law_window_here", "_law_changed"] (defScope s_law_seen_right) := ⟨rfl, rfl, rfl, by decide +kernel, rfl, by decide +kernel, by decide +kernel⟩
abbrev s_law_written_right : Stmt := topS 61
theorem sc_law_written_right : FnScope ["_law_row_here", "_law_windows", "_law_drawn", "_law_window_here", "_law_cells_here", "_law_where", "_law_words", "_law_n", "_law_number", "_law_step", "_law_cell_here", "_law_word", "_law_whole", "_law_every", "_law_place", "_law_byte", "_law_wrong", "_law_one", "_law_some", "_law_changed", "_law_k"] ["_law_row_here", "_law_windows", "_law_drawn"] (defScope s_law_written_right) := ⟨rfl, rfl, rfl, by decide +kernel, rfl, by decide +kernel, by decide +kernel⟩
abbrev s_law_flat : Stmt := topS 62
theorem sc_law_flat : FnScope ["_law_table", "_law_deep", "_law_one"] ["_law_table", "_law_deep"] (defScope s_law_flat) := ⟨rfl, rfl, rfl, by decide +kernel, rfl, by decide +kernel, by decide +kernel⟩
abbrev s_law_unlike_right : Stmt := topS 63
theorem sc_law_unlike_right : FnScope ["_law_row_here", "_law_window_here", "_law_other", "_law_mine", "_law_yours", "_law_some", "_law_cell_here", "_law_one", "_law_two"] ["_law_row_here", "_law_window_here"] (defScope s_law_unlike_right) := ⟨rfl, rfl, rfl, by decide +kernel, rfl, by decide +kernel, by decide +kernel⟩
abbrev s_law : Stmt := topS 64
theorem sc_law : FnScope ["_law_script", "_law_spot", "_law_k", "_law_length_here", "_law_row_here", "_law_windows", "_law_turn", "_law_drawn", "_law_order"] ["_law_script"] (defScope s_law) := ⟨rfl, rfl, rfl, by decide +kernel, rfl, by decide +kernel, by decide +kernel⟩

/-! ### what the top has left -/
def MgV (mg : Str → Option Value) (x : Str) (v : V) : Prop := ∃ u, mg x = some u ∧ RelV v u
structure Bt (mg : Str → Option Value) : Prop where
  isinstance : mg "isinstance" = none
  len : mg "len" = none
  all : mg "all" = none
  sum : mg "sum" = none
  abs : mg "abs" = none
  max : mg "max" = none
  min : mg "min" = none
  int : mg "int" = none
  bool : mg "bool" = none
  tuple : mg "tuple" = none
  str : mg "str" = none
  list : mg "list" = none
  dict : mg "dict" = none
  range : mg "range" = none
  enumerate : mg "enumerate" = none
  zip : mg "zip" = none
/-- a written dict with int keys: what it holds of F -/
def KdI (K : PySem.W.Frag) (a : Addr) (F : Int → Option Int) : Prop :=
  ∃ es n, K.lookup a = some ⟨.type "dict", none, .dict es n, #[]⟩ ∧ (∀ e ∈ es, ∃ k t, e.key = .int k t ∧ e.hash = hashInt k) ∧ ∀ i j, F i = some j → ∃ t, findBy Value.isInt es i = some (.int j t)
def manyW : Int → Option Int := fun i => if i = 1 then some 256 else if i = 2 then some 65536 else if i = 4 then some 4294967296 else if i = 8 then some 18446744073709551616 else none
structure Top (K : PySem.W.Frag) (mg : Str → Option Value) (wa oa da : Addr) : Prop where
  b : Bt mg
  most_byte : MgV mg "MOST_BYTE" (.int 255)
  most_length : MgV mg "MOST_LENGTH" (.int 512)
  most_sides : MgV mg "MOST_SIDES" (.int 5)
  most_step : MgV mg "MOST_STEP" (.int 512)
  most_cells : MgV mg "MOST_CELLS" (.int 4096)
  most_width : MgV mg "MOST_WIDTH" (.int 8)
  many_bytes : MgV mg "MANY_BYTES" (.int 256)
  low : MgV mg "LOW" (.str "low")
  widths : MgV mg "WIDTHS" (.ref wa)
  orders : MgV mg "ORDERS" (.ref oa)
  many_words : MgV mg "MANY_WORDS" (.ref da)
  wt : ∀ H, SqT K H wa [.int 1, .int 2, .int 4, .int 8]
  ot : ∀ H, SqT K H oa [.str "low", .str "high"]
  kd : KdI K da manyW
/-- a def of the text -/
def TopF (K : PySem.W.Frag) (mg : Str → Option Value) (x : Str) (st : Stmt) (ps : List Str) : Prop := ∃ f fd, Fun K x x st f fd ∧ mg x = some (.ref f) ∧ Binds K fd ps []
/-- .. and its promise -/
def FnX (P : Program) (w : World) (K : PySem.W.Frag) (mg : Str → Option Value) (base : Heap) (x : Str) (ps : List Str) (k : Nat) (sp : Sp) : Prop :=
  ∃ f fd, FnOk P w K mg base CX0 k f fd ps sp ∧ mg x = some (.ref f) ∧ PySem.W.keepIn K (.ref f) = true ∧ Binds K fd ps []
section
variable {X : Cx}
theorem pe_globV {x : Str} {v : V} {pos : Pos} (hg : Gl X x) (h : MgV X.mg x v) (hd : (x == ("__debug__" : Str)) = false := by decide) : PE X (.Name x pos) (tC v) := by
  obtain ⟨u, h1, h2⟩ := h
  exact pe_glob hg h1 h2 hd
theorem pe_callX {x : Str} {p pos : Pos} {e : Expr} {es : List Expr} {t : TA} {k : Nat} {ps : List Str} {sp : Sp} (G : FnX X.prog X.w X.K X.mg X.base x ps k sp) (hr : Room k X.A) (hg : Gl X x)
    (ha : PA X (e :: es) t) (hdb : (x == ("__debug__" : Str)) = false := by decide) (he : starEach (e :: es) X.env = (false, eval e X.env) :: starEach es X.env := by rfl) (hpl : (backTo pos (starEach es X.env)).any (·.1) = false := by rfl) :
    PE X (.Call (.Name x p) (e :: es) [] pos) (tCall sp [] E0 t) := by
  obtain ⟨f, fd, F, hm, hk, hb⟩ := G
  exact pe_call F hr hg hm hk hb .nil pass0 ha hdb he hpl
/-! the rules with the text's facts told by their own letter -/
variable {K : PySem.W.Frag}
theorem ix_listK (K : PySem.W.Frag) (h : X.K = K) : IxR X (rIxL K) := h ▸ ix_list
theorem ix_tupK (K : PySem.W.Frag) (h : X.K = K) : IxR X (rIxT K) := h ▸ ix_tup
theorem sl_listK (K : PySem.W.Frag) (h : X.K = K) : SlR X (rSlL K) := h ▸ sl_list
theorem sl_tupK (K : PySem.W.Frag) (h : X.K = K) : SlR X (rSlA K) := h ▸ sl_tupA
theorem op_catK (K : PySem.W.Frag) (h : X.K = K) : OpR X (binaryOp .Add) (rCatA K) := h ▸ op_catA
theorem op_inK (K : PySem.W.Frag) (h : X.K = K) : OpR X (compareOp .In) (rIn K false) := h ▸ op_in_seq
theorem op_ninK (K : PySem.W.Frag) (h : X.K = K) : OpR X (compareOp .NotIn) (rIn K true) := h ▸ op_notIn_seq
theorem op_eqK (K : PySem.W.Frag) (h : X.K = K) (hu : X.A.units + 64 < cLine) : OpR X (compareOp .Eq) (rEqD K) := h ▸ op_eqD hu
theorem op_neK (K : PySem.W.Frag) (h : X.K = K) (hu : X.A.units + 64 < cLine) : OpR X (compareOp .NotEq) (rNeD K) := h ▸ op_neD hu
theorem cr_lenK (K : PySem.W.Frag) (h : X.K = K) : CallR X (.builtin "len") (rLen K) := h ▸ cr_len
theorem cr_allK (K : PySem.W.Frag) (h : X.K = K) (hc : X.calm = true) : CallR X (.builtin "all") (rAll K) := h ▸ cr_all hc
theorem cr_sumK (K : PySem.W.Frag) (h : X.K = K) (hc : X.calm = true) : CallR X (.builtin "sum") (rSum K) := h ▸ cr_sum hc
theorem cr_tupleK (K : PySem.W.Frag) (h : X.K = K) : CallR X (.type "tuple") (rTupOf K) := h ▸ cr_tuple
theorem cr_listK (K : PySem.W.Frag) (h : X.K = K) : CallR X (.type "list") (rListOf K) := h ▸ cr_list
theorem call_isiK' (K : PySem.W.Frag) (h : X.K = K) : CallR X (.builtin "isinstance") (rIsi K) := h ▸ call_isi
theorem call_isiTK (K : PySem.W.Frag) (h : X.K = K) : CallR X (.builtin "isinstance") (rIsiT K) := h ▸ call_isiT
theorem pe_revLK (K : PySem.W.Frag) (h : X.K = K) {e : Expr} {te : TE} {k : Nat} {p1 p2 p3 pos : Pos} (he : PE X e te) : PE X (.Subscript e (.Slice none none (some (.UnaryOp .USub (.Constant (.int 1) k p1) p2)) p3) pos) (tRevL K te) := h ▸ pe_revL he
theorem pe_revTK (K : PySem.W.Frag) (h : X.K = K) {e : Expr} {te : TE} {k : Nat} {p1 p2 p3 pos : Pos} (he : PE X e te) : PE X (.Subscript e (.Slice none none (some (.UnaryOp .USub (.Constant (.int 1) k p1) p2)) p3) pos) (tRevT K te) := h ▸ pe_revT he
theorem pi_listK (K : PySem.W.Frag) (h : X.K = K) {tg l : Expr} {tl : TE} (hl : PE X l tl) : PI X tg l (iList K tl) := h ▸ pi_list hl
theorem pi_tupK (K : PySem.W.Frag) (h : X.K = K) {tg l : Expr} {tl : TE} (hl : PE X l tl) : PI X tg l (iTup K tl) := h ▸ pi_tup hl
theorem pi_zipK (K : PySem.W.Frag) (h : X.K = K) {e e2 : Expr} {ta : TA} {p pos tpos : Pos} {elts : List Expr} {kk : Nat} (hg : Gl X "zip") (hm : X.mg "zip" = none) (ha : PA X [e, e2] ta)
    (hs : starEach [e, e2] X.env = (false, eval e X.env) :: starEach [e2] X.env := by rfl) (hpl : (backTo pos (starEach [e2] X.env)).any (·.1) = false := by rfl) :
    PI X (.Tuple elts kk tpos) (.Call (.Name "zip" p) [e, e2] [] pos) (iZipA K ta) := h ▸ pi_zipA hg hm ha hs hpl
theorem pi_enumK (K : PySem.W.Frag) (h : X.K = K) {e : Expr} {ta : TA} {p pos tpos : Pos} {elts : List Expr} {kk : Nat} (hg : Gl X "enumerate") (hm : X.mg "enumerate" = none) (ha : PA X [e] ta) (hs : starEach [e] X.env = [(false, eval e X.env)] := by rfl) :
    PI X (.Tuple elts kk tpos) (.Call (.Name "enumerate" p) [e] [] pos) (iEnum K ta) := h ▸ pi_enum hg hm ha hs
theorem pg_tupK (K : PySem.W.Frag) (h : X.K = K) {es : List Expr} {k : Nat} {t : TGs} {n : Nat} {pos : Pos} (hc : X.calm = true) (hh : PGs X es t)
    (hn : (assignEach es X.env).length = n := by rfl) (hst : (assignEach es X.env).findIdx? (·.1) = none := by rfl) : PG X (.Tuple es k pos) (gTup K n t) := h ▸ pg_tup hc hh hn hst
/-- a written dict, an int key -/
def rIxI (a : Addr) (F : Int → Option Int) : R2 := fun x y H Q => ∃ i j, x = .ref a ∧ y = .int i ∧ F i = some j ∧ Q (.int j) H
theorem ix_kdI {a : Addr} {F : Int → Option Int} (D : KdI X.K a F) : IxR X (rIxI a F) := by
  intro value slice pins s σ H x y v u Q I rx ry h hs
  obtain ⟨i, j, rfl, rfl, e, q⟩ := h
  obtain rfl : v = Value.ref a := rx
  obtain ⟨t, rfl⟩ := ry
  obtain ⟨es, n, hl, hk, hf⟩ := D
  obtain ⟨t', he⟩ := hf i j e
  have hm : s.heap.MapOf (PySem.intKind X.prog X.w) a (fun k => findBy Value.isInt es k) := ⟨_, es, n, I.kIn _ _ hl, ⟨rfl, rfl, rfl⟩, rfl, fun e' he' => by
    obtain ⟨k, t, e1, e2⟩ := hk e' he'
    exact ⟨k, by rw [e1]; show Value.isInt k (.int k t) = true; simp [Value.isInt], e2⟩, fun _ => rfl⟩
  exact tail_any hm.typeIs slot_dict_getitem.lookup (wpAny_getItem_of (k := i) (by show Value.isInt i (.int i t) = true; simp [Value.isInt]) hm he ⟨.int j, H, I.tok _, ⟨_, rfl⟩, q⟩) hs
end
theorem ev_kdI {K : PySem.W.Frag} {Md : Ms} {ρ : List Sl} {te : TE} {i j : Int} {a : Addr} {F : Int → Option Int} (ha : EvD K Md ρ te (.int i)) (h : F i = some j) : EvD K Md ρ (tOp (rIxI a F) (tC (.ref a)) te) (.int j) := .mk <| fun E hm Q k =>
  ha E hm _ fun x H' H2 E' s p => by
    cases p
    exact ⟨i, j, rfl, rfl, h, k _ H' H2 E' s (.int _)⟩
section
variable {P : Program} {w : World} {K : PySem.W.Frag} {mg : Str → Option Value} {base : Heap}
/-- a def without side effects, by its body -/
theorem fx_pure {x : Str} {st : Stmt} {N ps : List Str} {k : Nat} {R : List PD → PD → Prop}
    (F : TopF K mg x st ps) (S : FnScope N ps (defScope st)) (hlen : ∀ ds d, R ds d → ds.length = ps.length) (n : Nat) (hN : N.length = ps.length + n)
    (hb : ∀ (f : Addr) (cdv : Value) (A : Around) (outer : List PySem.Env) (s : Shared) (H : Hp) (E : XK) (ds : List PD) (d : PD), Room k (A.deeper (envOfC x (defScope st) s.heap.objs.size f cdv)) → R ds d →
      ∃ t, PSs (cxOf CX0 P w K mg base N x (defScope st) f cdv A outer s H E).nox (defBody st) t ∧ StD K [] [] (ds.map Sl.val ++ List.replicate n Sl.no) t (fun _ _ => d = .none) (fun _ d' => d' = d)) :
    FnX P w K mg base x ps (k + 1) (spD K R) := by
  obtain ⟨f, fd, F, hm, hb'⟩ := F
  exact ⟨f, fd, fn_pure F S hlen n hN (hb f), hm, F.kp, hb'⟩
end
end K37

set_option linter.all false
set_option maxRecDepth 100000
/-! the mathematics: no Python here -/
namespace K37
/-- a window: begin, sides (count, step), width, whether low -/
structure Win where
  b : Int
  s : List (Nat × Int)
  w : Nat
  low : Bool
def Win.counts (w : Win) : List Nat := w.s.map (·.1)
def prodN (l : List Nat) : Nat := l.foldl (· * ·) 1
structure IsRow (r : List Int) : Prop where
  len : r.length ≤ 512
  byte : ∀ x ∈ r, 0 ≤ x ∧ x ≤ 255
structure IsWin (w : Win) : Prop where
  b : 0 ≤ w.b ∧ w.b ≤ 512
  n : w.s.length ≤ 5
  s : ∀ x ∈ w.s, x.1 ≤ 4096 ∧ -512 ≤ x.2 ∧ x.2 ≤ 512
  p : prodN w.counts ≤ 4096
  w : w.w = 1 ∨ w.w = 2 ∨ w.w = 4 ∨ w.w = 8
def placesFrom (l : List Int) (s : List (Nat × Int)) : List Int := s.foldl (fun found x => found.flatMap fun p => (List.range x.1).map fun (n : Nat) => p + (n : Int) * x.2) l
def Win.places (w : Win) : List Int := placesFrom [w.b] w.s
def ways (s : List (Nat × Int)) : List Int := s.map fun x => ((x.1 : Int) - 1) * x.2
def Win.neg (w : Win) : Int := ((ways w.s).filter (fun x => decide (x < 0))).sum
def Win.pos (w : Win) : Int := ((ways w.s).filter (fun x => decide (0 < x))).sum
def Win.fits (w : Win) (L : Nat) : Prop := prodN w.counts = 0 ∨ (0 ≤ w.b + w.neg ∧ w.b + w.pos + w.w ≤ L)
instance (w : Win) (L : Nat) : Decidable (w.fits L) := by unfold Win.fits; exact inferInstance
def Win.place (w : Win) (c : List Nat) : Int := w.b + ((c.zip w.s).map fun p => (p.1 : Int) * p.2.2).sum
/-- a word by its bytes -/
def horner (l : List Int) : Int := l.foldl (fun f b => f * 256 + b) 0
def wordIn (r : List Int) (p w : Nat) (low : Bool) : Int := horner (if low then ((r.drop p).take w).reverse else (r.drop p).take w)
def digits (x : Int) (w : Nat) : List Int := (List.range w).map fun i => x / 256 ^ i % 256
def bytesOf (x : Int) (w : Nat) (low : Bool) : List Int := if low then digits x w else (digits x w).reverse
def withWord (r : List Int) (p : Nat) (x : Int) (w : Nat) (low : Bool) : List Int := r.take p ++ bytesOf x w low ++ r.drop (p + w)
def cellBy (counts : List Nat) (n : Nat) : List Nat := ((counts.reverse.foldl (fun (a : List Nat × Nat) c => (a.1 ++ [a.2 % c], a.2 / c)) ([], n)).1).reverse
def cellsFrom (l : List (List Nat)) (s : List (Nat × Int)) : List (List Nat) := s.foldl (fun found x => found.flatMap fun c => (List.range x.1).map fun n => c ++ [n]) l
def Win.cells (w : Win) : List (List Nat) := cellsFrom [[]] w.s
def Win.words (w : Win) (r : List Int) : List Int := w.places.map fun p => wordIn r p.toNat w.w w.low

theorem foldl_mul (l : List Nat) : ∀ a : Nat, l.foldl (· * ·) a = a * l.foldl (· * ·) 1 := by
  induction l with
  | nil => intro a; simp
  | cons x l ih =>
    intro a
    rw [List.foldl_cons, List.foldl_cons, ih (a * x), ih (1 * x), Nat.one_mul, Nat.mul_assoc]
theorem prodN_cons (x : Nat) (l : List Nat) : prodN (x :: l) = x * prodN l := by
  unfold prodN
  rw [List.foldl_cons, foldl_mul, Nat.one_mul]
theorem prodN_nil : prodN [] = 1 := rfl
theorem prodN_app (l m : List Nat) : prodN (l ++ m) = prodN l * prodN m := by
  unfold prodN
  rw [List.foldl_append, foldl_mul]
theorem prodN_take (ns : List Nat) (i : Nat) (h : i < ns.length) : prodN (ns.take (i + 1)) = prodN (ns.take i) * ns[i] := by
  unfold prodN
  rw [List.take_add_one, List.getElem?_eq_getElem h, List.foldl_append]
  rfl
theorem prodN_zero {l : List Nat} (h : 0 ∈ l) : prodN l = 0 := by
  induction l with
  | nil => cases h
  | cons x l ih =>
    rw [prodN_cons]
    rcases List.mem_cons.mp h with h | h
    · rw [← h, Nat.zero_mul]
    · rw [ih h, Nat.mul_zero]
theorem prodN_pos {l : List Nat} (h : 0 ∉ l) : 0 < prodN l := by
  induction l with
  | nil => exact Nat.one_pos
  | cons x l ih =>
    rw [prodN_cons]
    rw [List.mem_cons, not_or] at h
    exact Nat.mul_pos (by omega) (ih h.2)
theorem prodN_zero_iff {l : List Nat} : prodN l = 0 ↔ 0 ∈ l := by
  constructor
  · intro h
    by_cases q : 0 ∈ l
    · exact q
    · have := prodN_pos q
      omega
  · exact prodN_zero
theorem prodN_take_le {l : List Nat} (h : 0 ∉ l) (i : Nat) : prodN (l.take i) ≤ prodN l := by
  have e : prodN l = prodN (l.take i) * prodN (l.drop i) := by rw [← prodN_app, List.take_append_drop]
  rw [e]
  exact Nat.le_mul_of_pos_right _ (prodN_pos fun z => h (List.mem_of_mem_drop z))
theorem placesFrom_nil (s : List (Nat × Int)) : placesFrom [] s = [] := by
  unfold placesFrom
  induction s with
  | nil => rfl
  | cons x s ih => rw [List.foldl_cons]; exact ih
theorem placesFrom_cons (l : List Int) (x : Nat × Int) (s : List (Nat × Int)) : placesFrom l (x :: s) = placesFrom (l.flatMap fun p => (List.range x.1).map fun (n : Nat) => p + (n : Int) * x.2) s := rfl
theorem placesFrom_take (l : List Int) (s : List (Nat × Int)) (i : Nat) (h : i < s.length) : placesFrom l (s.take (i + 1)) = (placesFrom l (s.take i)).flatMap fun p => (List.range s[i].1).map fun (n : Nat) => p + (n : Int) * s[i].2 := by
  unfold placesFrom
  rw [List.take_add_one, List.getElem?_eq_getElem h, List.foldl_append]
  rfl
theorem step_len (l : List Int) (x : Nat × Int) : (l.flatMap fun p => (List.range x.1).map fun (n : Nat) => p + (n : Int) * x.2).length = l.length * x.1 := by
  induction l with
  | nil => simp
  | cons a l ih =>
    rw [List.flatMap_cons, List.length_append, ih, List.length_map, List.length_range, List.length_cons, Nat.succ_mul, Nat.add_comm]
theorem placesFrom_len (s : List (Nat × Int)) : ∀ l : List Int, (placesFrom l s).length = l.length * prodN (s.map (·.1)) := by
  induction s with
  | nil => intro l; show l.length = l.length * 1; omega
  | cons x s ih =>
    intro l
    rw [placesFrom_cons, ih, step_len, List.map_cons, prodN_cons, Nat.mul_assoc]
/-- what places_in begins with -/
def Win.start (w : Win) : List Int := if 0 ∈ w.counts then [] else [w.b]
theorem Win.places_start (w : Win) : placesFrom w.start w.s = w.places := by
  unfold Win.start Win.places
  split
  · rename_i h
    rw [placesFrom_nil]
    apply Eq.symm
    rw [← List.length_eq_zero_iff, placesFrom_len]
    have : prodN (w.s.map (·.1)) = 0 := prodN_zero h
    rw [this, Nat.mul_zero]
  · rfl
theorem IsWin.len_take {w : Win} (h : IsWin w) (i : Nat) : (placesFrom w.start (w.s.take i)).length ≤ 4096 := by
  rw [placesFrom_len]
  unfold Win.start
  split
  · rw [List.length_nil, Nat.zero_mul]; omega
  · rename_i hz
    rw [List.length_singleton, Nat.one_mul, List.map_take]
    exact Nat.le_trans (prodN_take_le hz i) h.p
theorem IsWin.len {w : Win} (h : IsWin w) : w.places.length ≤ 4096 := by
  have := h.len_take w.s.length
  rw [List.take_length, w.places_start] at this
  exact this
/-- a good cell -/
structure CellOk (w : Win) (c : List Nat) : Prop where
  len : c.length = w.s.length
  lt : ∀ p ∈ c.zip w.s, p.1 < p.2.1
theorem take_flatMap {α β : Type} (l : List α) (f : α → List β) (i : Nat) (h : i < l.length) : (l.take (i + 1)).flatMap f = (l.take i).flatMap f ++ f l[i] := by
  rw [List.take_add_one, List.getElem?_eq_getElem h, List.flatMap_append]
  show _ ++ [l[i]].flatMap f = _
  rw [List.flatMap_cons, List.flatMap_nil, List.append_nil]
theorem flatMap_len_take {l : List Int} (x : Nat × Int) (i : Nat) : ((l.take i).flatMap fun p => (List.range x.1).map fun (n : Nat) => p + (n : Int) * x.2).length ≤ (l.flatMap fun p => (List.range x.1).map fun (n : Nat) => p + (n : Int) * x.2).length := by
  rw [step_len, step_len, List.length_take]
  exact Nat.mul_le_mul_right _ (by omega)

theorem way_bounds (n c : Nat) (t : Int) (h : n < c) : (if ((c : Int) - 1) * t < 0 then ((c : Int) - 1) * t else 0) ≤ (n : Int) * t ∧ (n : Int) * t ≤ (if 0 < ((c : Int) - 1) * t then ((c : Int) - 1) * t else 0) := by
  have h1 : (0 : Int) ≤ (n : Int) := by omega
  have h2 : (n : Int) ≤ (c : Int) - 1 := by omega
  by_cases ht : 0 ≤ t
  · have a : 0 ≤ (n : Int) * t := Int.mul_nonneg h1 ht
    have b : (n : Int) * t ≤ ((c : Int) - 1) * t := Int.mul_le_mul_of_nonneg_right h2 ht
    constructor
    · split <;> omega
    · split <;> omega
  · have ht' : t ≤ 0 := by omega
    have a : (n : Int) * t ≤ 0 := Int.mul_nonpos_of_nonneg_of_nonpos h1 ht'
    have b : ((c : Int) - 1) * t ≤ (n : Int) * t := Int.mul_le_mul_of_nonpos_right h2 ht'
    constructor
    · split <;> omega
    · split <;> omega
def negS (s : List (Nat × Int)) : Int := ((ways s).filter (fun x => decide (x < 0))).sum
def posS (s : List (Nat × Int)) : Int := ((ways s).filter (fun x => decide (0 < x))).sum
theorem negS_cons (x : Nat × Int) (s : List (Nat × Int)) : negS (x :: s) = (if ((x.1 : Int) - 1) * x.2 < 0 then ((x.1 : Int) - 1) * x.2 else 0) + negS s := by
  unfold negS ways
  rw [List.map_cons, List.filter_cons]
  by_cases h : ((x.1 : Int) - 1) * x.2 < 0
  · rw [if_pos (by simpa using h), if_pos h, List.sum_cons]
  · rw [if_neg (by simpa using h), if_neg h, Int.zero_add]
theorem posS_cons (x : Nat × Int) (s : List (Nat × Int)) : posS (x :: s) = (if 0 < ((x.1 : Int) - 1) * x.2 then ((x.1 : Int) - 1) * x.2 else 0) + posS s := by
  unfold posS ways
  rw [List.map_cons, List.filter_cons]
  by_cases h : 0 < ((x.1 : Int) - 1) * x.2
  · rw [if_pos (by simpa using h), if_pos h, List.sum_cons]
  · rw [if_neg (by simpa using h), if_neg h, Int.zero_add]
theorem places_bounds (s : List (Nat × Int)) : ∀ (l : List Int) (p : Int), p ∈ placesFrom l s → ∃ q ∈ l, q + negS s ≤ p ∧ p ≤ q + posS s := by
  induction s with
  | nil =>
    intro l p h
    refine ⟨p, h, ?_, ?_⟩
    · show p + 0 ≤ p; omega
    · show p ≤ p + 0; omega
  | cons x s ih =>
    intro l p h
    rw [placesFrom_cons] at h
    obtain ⟨q, hq, h1, h2⟩ := ih _ p h
    obtain ⟨q0, hq0, hm⟩ := List.mem_flatMap.mp hq
    obtain ⟨n, hn, rfl⟩ := List.mem_map.mp hm
    have hb := way_bounds n x.1 x.2 (List.mem_range.mp hn)
    refine ⟨q0, hq0, ?_, ?_⟩
    · rw [negS_cons]; omega
    · rw [posS_cons]; omega
theorem Win.fits_place {w : Win} {L : Nat} (h : w.fits L) {p : Int} (hp : p ∈ w.places) : 0 ≤ p ∧ p + w.w ≤ L := by
  rcases h with h | h
  · have e : w.places.length = 0 := by
      unfold Win.places
      rw [placesFrom_len]
      have : prodN (w.s.map (·.1)) = 0 := h
      rw [this, Nat.mul_zero]
    rw [List.length_eq_zero_iff.mp e] at hp
    cases hp
  · obtain ⟨q, hq, h1, h2⟩ := places_bounds w.s [w.b] p hp
    rw [List.mem_singleton] at hq
    subst hq
    have e1 : w.neg = negS w.s := rfl
    have e2 : w.pos = posS w.s := rfl
    omega
def cellStep (a : List Nat × Nat) (c : Nat) : List Nat × Nat := (a.1 ++ [a.2 % c], a.2 / c)
theorem foldl_take_succ {α β : Type} (f : β → α → β) (b : β) (l : List α) (i : Nat) (h : i < l.length) : (l.take (i + 1)).foldl f b = f ((l.take i).foldl f b) l[i] := by
  rw [List.take_add_one, List.getElem?_eq_getElem h, List.foldl_append]
  rfl
theorem cellBy_eq (counts : List Nat) (n : Nat) : cellBy counts n = ((counts.reverse.foldl cellStep ([], n)).1).reverse := rfl
theorem cell_len (l : List Nat) : ∀ a : List Nat × Nat, (l.foldl cellStep a).1.length = a.1.length + l.length := by
  induction l with
  | nil => intro a; rfl
  | cons c l ih =>
    intro a
    rw [List.foldl_cons, ih]
    show (a.1 ++ [a.2 % c]).length + l.length = _
    rw [List.length_append, List.length_singleton, List.length_cons]
    omega
end K37

set_option linter.all false
set_option maxRecDepth 100000
/-! the plain laws: bytes and words -/
namespace K37
/-! ### words and their bytes -/
def lowSum : List Int → Int
  | [] => 0
  | b :: l => b + 256 * lowSum l
theorem horner_app (l : List Int) (x : Int) : horner (l ++ [x]) = horner l * 256 + x := by
  unfold horner
  rw [List.foldl_append]
  rfl
theorem horner_rev (l : List Int) : horner l.reverse = lowSum l := by
  induction l with
  | nil => rfl
  | cons b l ih =>
    rw [List.reverse_cons, horner_app, ih]
    show lowSum l * 256 + b = b + 256 * lowSum l
    omega
theorem horner_low (l : List Int) : horner l = lowSum l.reverse := by
  have := horner_rev l.reverse
  rw [List.reverse_reverse] at this
  exact this
theorem lowSum_idx (l : List Int) : ∀ j : Nat, ((l.zipIdx j).map fun p => p.1 * 2 ^ (8 * p.2)).sum = 2 ^ (8 * j) * lowSum l := by
  induction l with
  | nil => intro j; simp [lowSum]
  | cons b l ih =>
    intro j
    rw [List.zipIdx_cons, List.map_cons, List.sum_cons, ih]
    show b * 2 ^ (8 * j) + 2 ^ (8 * (j + 1)) * lowSum l = 2 ^ (8 * j) * (b + 256 * lowSum l)
    rw [Nat.mul_add, Int.pow_add, Int.mul_add, Int.mul_comm b]
    congr 1
    rw [show (2 : Int) ^ (8 * 1) = 256 by decide, Int.mul_assoc]
/-- what the bytes from a place on are -/
def cutB (r : List Int) (p w : Nat) : List Int := (r.drop p).take w
theorem wordIn_low (r : List Int) (p w : Nat) (low : Bool) : wordIn r p w low = lowSum (if low then cutB r p w else (cutB r p w).reverse) := by
  unfold wordIn cutB
  cases low with
  | true => rw [if_pos rfl, if_pos rfl, horner_rev]
  | false => rw [if_neg Bool.false_ne_true, if_neg Bool.false_ne_true, horner_low]
theorem digits_zero (x : Int) : digits x 0 = [] := rfl
theorem digits_succ (x : Int) (w : Nat) : digits x (w + 1) = x % 256 :: digits (x / 256) w := by
  unfold digits
  rw [List.range_succ_eq_map, List.map_cons, List.map_map, Int.pow_zero, Int.ediv_one]
  congr 1
  apply List.map_congr_left
  intro i _
  show x / 256 ^ (i + 1) % 256 = x / 256 / 256 ^ i % 256
  rw [Int.pow_succ, Int.mul_comm, ← Int.ediv_ediv_of_nonneg (by decide)]
theorem lowSum_digits (w : Nat) : ∀ x : Int, 0 ≤ x → x < 256 ^ w → lowSum (digits x w) = x := by
  induction w with
  | zero =>
    intro x h0 h1
    rw [Int.pow_zero] at h1
    show (0 : Int) = x
    omega
  | succ w ih =>
    intro x h0 h1
    rw [digits_succ]
    show x % 256 + 256 * lowSum (digits (x / 256) w) = x
    rw [ih (x / 256) (by omega) (Int.ediv_lt_of_lt_mul (by decide) (by rw [Int.pow_succ] at h1; exact h1))]
    omega
theorem digits_lowSum : ∀ l : List Int, (∀ x ∈ l, 0 ≤ x ∧ x ≤ 255) → digits (lowSum l) l.length = l
  | [], _ => rfl
  | b :: l, h => by
    have hb := h b (List.mem_cons_self ..)
    have ih := digits_lowSum l fun x hx => h x (List.mem_cons_of_mem _ hx)
    show digits (b + 256 * lowSum l) (l.length + 1) = b :: l
    rw [digits_succ, show (b + 256 * lowSum l) % 256 = b by omega, show (b + 256 * lowSum l) / 256 = lowSum l by omega, ih]
theorem digits_byte (x : Int) (w : Nat) : ∀ y ∈ digits x w, 0 ≤ y ∧ y ≤ 255 := by
  intro y h
  unfold digits at h
  obtain ⟨i, _, rfl⟩ := List.mem_map.mp h
  omega
theorem digitsLen (x : Int) (w : Nat) : (digits x w).length = w := by unfold digits; rw [List.length_map, List.length_range]
theorem bytesLen (x : Int) (w : Nat) (low : Bool) : (bytesOf x w low).length = w := by
  unfold bytesOf
  split
  · exact digitsLen x w
  · rw [List.length_reverse]
    exact digitsLen x w
theorem bytesOf_byte (x : Int) (w : Nat) (low : Bool) : ∀ y ∈ bytesOf x w low, 0 ≤ y ∧ y ≤ 255 := by
  intro y h
  unfold bytesOf at h
  split at h
  · exact digits_byte x w y h
  · exact digits_byte x w y (List.mem_reverse.mp h)
theorem cutB_len {r : List Int} {p w : Nat} (h : p + w ≤ r.length) : (cutB r p w).length = w := by
  unfold cutB
  rw [List.length_take, List.length_drop]
  omega
theorem withWord_cut {r : List Int} {p w : Nat} {x : Int} {low : Bool} (h : p + w ≤ r.length) : cutB (withWord r p x w low) p w = bytesOf x w low := by
  have h1 : (r.take p).length = p := by rw [List.length_take]; omega
  unfold cutB withWord
  rw [List.append_assoc, List.drop_append_of_le_length (by omega), List.drop_of_length_le (by omega), List.nil_append, List.take_append_of_le_length (by rw [bytesLen]; exact Nat.le_refl _), List.take_of_length_le (by rw [bytesLen]; exact Nat.le_refl _)]
/-- what is written is seen -/
theorem written_seen {r : List Int} {p w : Nat} {x : Int} {low : Bool} (h : p + w ≤ r.length) (h0 : 0 ≤ x) (h1 : x < 256 ^ w) : wordIn (withWord r p x w low) p w low = x := by
  rw [wordIn_low, withWord_cut h]
  unfold bytesOf
  cases low with
  | true =>
    rw [if_pos rfl, if_pos rfl]
    exact lowSum_digits w x h0 h1
  | false =>
    rw [if_neg Bool.false_ne_true, if_neg Bool.false_ne_true, List.reverse_reverse]
    exact lowSum_digits w x h0 h1
theorem bytesOf_word {l : List Int} (low : Bool) (h : ∀ x ∈ l, 0 ≤ x ∧ x ≤ 255) : bytesOf (lowSum (if low then l else l.reverse)) l.length low = l := by
  unfold bytesOf
  cases low with
  | true =>
    rw [if_pos rfl, if_pos rfl]
    exact digits_lowSum l h
  | false =>
    rw [if_neg Bool.false_ne_true, if_neg Bool.false_ne_true]
    have := digits_lowSum l.reverse fun x hx => h x (List.mem_reverse.mp hx)
    rw [List.length_reverse] at this
    rw [this, List.reverse_reverse]
/-- what is seen, written back, leaves the row -/
theorem seen_written {r : List Int} {p w : Nat} {low : Bool} (hr : ∀ x ∈ r, 0 ≤ x ∧ x ≤ 255) (h : p + w ≤ r.length) : withWord r p (wordIn r p w low) w low = r := by
  have hb : ∀ x ∈ cutB r p w, 0 ≤ x ∧ x ≤ 255 := fun x hx => hr x (List.mem_of_mem_drop (List.mem_of_mem_take hx))
  have e := bytesOf_word low hb
  rw [cutB_len h] at e
  unfold withWord
  rw [wordIn_low, e]
  unfold cutB
  rw [List.append_assoc, ← List.drop_drop, List.take_append_drop, List.take_append_drop]
theorem withWord_len' {r : List Int} {p w : Nat} {x : Int} {b : Bool} (h : p + w ≤ r.length) : (withWord r p x w b).length = r.length := by
  unfold withWord
  rw [List.length_append, List.length_append, List.length_take, List.length_drop, bytesLen]
  omega
theorem withWord_byte {r : List Int} {p w : Nat} {x : Int} {b : Bool} (hr : ∀ x ∈ r, 0 ≤ x ∧ x ≤ 255) : ∀ y ∈ withWord r p x w b, 0 ≤ y ∧ y ≤ 255 := by
  intro y hy
  unfold withWord at hy
  rcases List.mem_append.mp hy with hy | hy
  · rcases List.mem_append.mp hy with hy | hy
    · exact hr y (List.mem_of_mem_take hy)
    · exact bytesOf_byte x w b y hy
  · exact hr y (List.mem_of_mem_drop hy)
theorem withWord_row {r : List Int} {p w : Nat} {x : Int} {b : Bool} (hr : IsRow r) (h : p + w ≤ r.length) : IsRow (withWord r p x w b) :=
  ⟨by rw [withWord_len' h]; exact hr.len, withWord_byte hr.byte⟩
theorem withWord_out {r : List Int} {p w : Nat} {x : Int} {b : Bool} (h : p + w ≤ r.length) {j : Nat} (hj : j < p ∨ p + w ≤ j) : (withWord r p x w b)[j]? = r[j]? := by
  have h1 : (r.take p).length = p := by rw [List.length_take]; omega
  have h2 : (r.take p ++ bytesOf x w b).length = p + w := by rw [List.length_append, h1, bytesLen]
  unfold withWord
  rcases hj with hj | hj
  · rw [List.append_assoc, List.getElem?_append_left (by omega), List.getElem?_take, if_pos hj]
  · rw [List.getElem?_append_right (by omega), h2, List.getElem?_drop]
    congr 1
    omega
/-- two rows that are one on a place's bytes -/
theorem word_same {a b : List Int} {p w : Nat} {low : Bool} (h : ∀ j, p ≤ j → j < p + w → a[j]? = b[j]?) : wordIn a p w low = wordIn b p w low := by
  have e : cutB a p w = cutB b p w := by
    unfold cutB
    apply List.ext_getElem?
    intro j
    rw [List.getElem?_take, List.getElem?_take]
    split
    · rw [List.getElem?_drop, List.getElem?_drop]
      exact h (p + j) (by omega) (by omega)
    · rfl
  rw [wordIn_low, wordIn_low, e]
/-! ### filled -/
def fillP (r : List Int) (b : Nat) (low : Bool) (ps : List (Int × Int)) : List Int := ps.foldl (fun r p => withWord r p.1.toNat p.2 b low) r
theorem fillP_spec {b n : Nat} {low : Bool} : ∀ (ps : List (Int × Int)) (r : List Int), r.length = n → (∀ x ∈ r, 0 ≤ x ∧ x ≤ 255) → (∀ p ∈ ps, p.1.toNat + b ≤ n) →
    (fillP r b low ps).length = n ∧ (∀ x ∈ fillP r b low ps, 0 ≤ x ∧ x ≤ 255) ∧ ∀ j : Nat, (∀ p ∈ ps, j < p.1.toNat ∨ p.1.toNat + b ≤ j) → (fillP r b low ps)[j]? = r[j]?
  | [], r, h, hr, _ => ⟨h, hr, fun _ _ => rfl⟩
  | p :: ps, r, h, hr, hp => by
    have h1 := hp p (List.mem_cons_self ..)
    have hl : (withWord r p.1.toNat p.2 b low).length = n := by rw [withWord_len' (by omega)]; exact h
    obtain ⟨g1, g2, g3⟩ := fillP_spec (low := low) ps (withWord r p.1.toNat p.2 b low) hl (withWord_byte hr) fun q hq => hp q (List.mem_cons_of_mem _ hq)
    refine ⟨g1, g2, fun j hj => ?_⟩
    have e := g3 j fun q hq => hj q (List.mem_cons_of_mem _ hq)
    rw [withWord_out (by omega) (hj p (List.mem_cons_self ..))] at e
    exact e
/-- filled with what is seen -/
theorem fillP_same {r : List Int} {b : Nat} {low : Bool} (hr : ∀ x ∈ r, 0 ≤ x ∧ x ≤ 255) : ∀ ps : List Int, (∀ p ∈ ps, p.toNat + b ≤ r.length) → fillP r b low (ps.zip (ps.map fun p => wordIn r p.toNat b low)) = r
  | [], _ => rfl
  | p :: ps, h => by
    show fillP (withWord r p.toNat (wordIn r p.toNat b low) b low) b low _ = r
    rw [seen_written hr (h p (List.mem_cons_self ..))]
    exact fillP_same hr ps fun q hq => h q (List.mem_cons_of_mem _ hq)
/-! ### the window of single bytes -/
theorem range_places (n : Nat) : placesFrom [0] [(n, 1)] = (List.range n).map fun i : Nat => (i : Int) := by
  show (([0] : List Int).flatMap fun p => (List.range n).map fun (i : Nat) => p + (i : Int) * 1) = _
  rw [List.flatMap_cons, List.flatMap_nil, List.append_nil]
  apply List.map_congr_left
  intro i _
  omega
abbrev single (n : Nat) : Win := ⟨0, [(n, 1)], 1, true⟩
theorem single_win {n : Nat} (h : n ≤ 512) : IsWin (single n) where
  b := ⟨Int.le_refl 0, show (0 : Int) ≤ 512 by decide⟩
  n := by show 1 ≤ 5; decide
  s := fun x hx => by
    rw [List.mem_singleton] at hx
    subst hx
    refine ⟨?_, ?_, ?_⟩
    · show n ≤ 4096; omega
    · show (-512 : Int) ≤ 1; decide
    · show (1 : Int) ≤ 512; decide
  p := by
    show 1 * n ≤ 4096
    omega
  w := .inl rfl
theorem single_fits (n : Nat) : (single n).fits n := by
  by_cases h : n = 0
  · left
    subst h
    rfl
  · right
    have e1 : (single n).neg = negS [(n, 1)] := rfl
    have e2 : (single n).pos = posS [(n, 1)] := rfl
    have e3 : negS [] = 0 := rfl
    have e4 : posS [] = 0 := rfl
    rw [e1, e2, negS_cons, posS_cons, e3, e4]
    show (0 : Int) ≤ 0 + ((if ((n : Int) - 1) * 1 < 0 then ((n : Int) - 1) * 1 else 0) + 0) ∧ (0 : Int) + ((if 0 < ((n : Int) - 1) * 1 then ((n : Int) - 1) * 1 else 0) + 0) + ((1 : Nat) : Int) ≤ (n : Int)
    constructor
    · split <;> omega
    · split <;> omega
theorem single_words (r : List Int) : (single r.length).words r = r := by
  show (placesFrom [0] [(r.length, 1)]).map (fun p => wordIn r p.toNat 1 true) = r
  rw [range_places, List.map_map]
  apply List.ext_getElem?
  intro i
  rw [List.getElem?_map]
  by_cases hi : i < r.length
  · rw [List.getElem?_range hi, List.getElem?_eq_getElem hi]
    show some (wordIn r (i : Int).toNat 1 true) = some r[i]
    rw [wordIn_low, if_pos rfl, Int.toNat_natCast]
    unfold cutB
    rw [List.drop_eq_getElem_cons hi]
    show some (r[i] + 256 * lowSum (List.take 0 _)) = _
    rw [List.take_zero]
    show some (r[i] + 256 * 0) = _
    congr 1
    omega
  · rw [List.getElem?_eq_none (by rw [List.length_range]; omega), List.getElem?_eq_none (by omega)]
    rfl
end K37

set_option linter.all false
set_option maxRecDepth 100000
/-! the plain laws: cells and their numbers, tables -/
namespace K37
theorem cellsFrom_cons (l : List (List Nat)) (x : Nat × Int) (s : List (Nat × Int)) : cellsFrom l (x :: s) = cellsFrom (l.flatMap fun c => (List.range x.1).map fun n => c ++ [n]) s := rfl
theorem cellsFrom_take (l : List (List Nat)) (s : List (Nat × Int)) (i : Nat) (h : i < s.length) : cellsFrom l (s.take (i + 1)) = (cellsFrom l (s.take i)).flatMap fun c => (List.range s[i].1).map fun n => c ++ [n] := by
  unfold cellsFrom
  rw [List.take_add_one, List.getElem?_eq_getElem h, List.foldl_append]
  rfl
theorem cellsFrom_nil (s : List (Nat × Int)) : cellsFrom [] s = [] := by
  unfold cellsFrom
  induction s with
  | nil => rfl
  | cons x s ih => rw [List.foldl_cons]; exact ih
theorem cell_step_len (l : List (List Nat)) (x : Nat × Int) : (l.flatMap fun c => (List.range x.1).map fun n => c ++ [n]).length = l.length * x.1 := by
  induction l with
  | nil => simp
  | cons a l ih =>
    rw [List.flatMap_cons, List.length_append, ih, List.length_map, List.length_range, List.length_cons, Nat.succ_mul, Nat.add_comm]
theorem cellsFrom_len (s : List (Nat × Int)) : ∀ l : List (List Nat), (cellsFrom l s).length = l.length * prodN (s.map (·.1)) := by
  induction s with
  | nil => intro l; show l.length = l.length * 1; omega
  | cons x s ih =>
    intro l
    rw [cellsFrom_cons, ih, cell_step_len, List.map_cons, prodN_cons, Nat.mul_assoc]
theorem Win.cells_len (w : Win) : w.cells.length = w.places.length := by
  unfold Win.cells Win.places
  rw [cellsFrom_len, placesFrom_len]
  rfl
/-- what _law_cells begins with -/
def Win.cstart (w : Win) : List (List Nat) := if 0 ∈ w.counts then [] else [[]]
theorem Win.cells_start (w : Win) : cellsFrom w.cstart w.s = w.cells := by
  unfold Win.cstart Win.cells
  split
  · rename_i h
    rw [cellsFrom_nil]
    apply Eq.symm
    rw [← List.length_eq_zero_iff, cellsFrom_len]
    have : prodN (w.s.map (·.1)) = 0 := prodN_zero h
    rw [this, Nat.mul_zero]
  · rfl
theorem IsWin.clen_take {w : Win} (h : IsWin w) (i : Nat) : (cellsFrom w.cstart (w.s.take i)).length ≤ 4096 := by
  rw [cellsFrom_len]
  unfold Win.cstart
  split
  · rw [List.length_nil, Nat.zero_mul]; omega
  · rename_i hz
    rw [List.length_singleton, Nat.one_mul, List.map_take]
    exact Nat.le_trans (prodN_take_le hz i) h.p
theorem cflat_len_take {l : List (List Nat)} (x : Nat × Int) (i : Nat) : ((l.take i).flatMap fun c => (List.range x.1).map fun n => c ++ [n]).length ≤ (l.flatMap fun c => (List.range x.1).map fun n => c ++ [n]).length := by
  rw [cell_step_len, cell_step_len, List.length_take]
  exact Nat.mul_le_mul_right _ (by omega)
/-- way of a cell's numbers -/
def wayC (c : List Nat) (s : List (Nat × Int)) : Int := ((c.zip s).map fun p => (p.1 : Int) * p.2.2).sum
theorem zip_app {α β : Type} : ∀ (a : List α) (b : List β) (x : α) (y : β), a.length = b.length → (a ++ [x]).zip (b ++ [y]) = a.zip b ++ [(x, y)]
  | [], [], _, _, _ => rfl
  | [], _ :: _, _, _, h => by cases h
  | _ :: _, [], _, _, h => by cases h
  | a :: as, b :: bs, x, y, h => by
    show (a, b) :: (as ++ [x]).zip (bs ++ [y]) = (a, b) :: (as.zip bs ++ [(x, y)])
    rw [zip_app as bs x y (by simpa using h)]
theorem wayC_app {c : List Nat} {s : List (Nat × Int)} {n : Nat} {x : Nat × Int} (h : c.length = s.length) : wayC (c ++ [n]) (s ++ [x]) = wayC c s + (n : Int) * x.2 := by
  unfold wayC
  rw [zip_app _ _ _ _ h, List.map_append, List.sum_append]
  show _ + ((n : Int) * x.2 + 0) = _
  omega
theorem map_flatMap' {α β γ : Type} (f : β → γ) (g : α → List β) : ∀ l : List α, (l.flatMap g).map f = l.flatMap fun a => (g a).map f
  | [] => rfl
  | a :: l => by rw [List.flatMap_cons, List.flatMap_cons, List.map_append, map_flatMap' f g l]
theorem flatMap_map' {α β γ : Type} (f : α → β) (g : β → List γ) : ∀ l : List α, (l.map f).flatMap g = l.flatMap fun a => g (f a)
  | [] => rfl
  | a :: l => by rw [List.map_cons, List.flatMap_cons, List.flatMap_cons, flatMap_map' f g l]
theorem flatMap_cong {α γ : Type} {f g : α → List γ} : ∀ {l : List α}, (∀ a ∈ l, f a = g a) → l.flatMap f = l.flatMap g
  | [], _ => rfl
  | a :: l, h => by rw [List.flatMap_cons, List.flatMap_cons, h a (List.mem_cons_self ..), flatMap_cong fun b hb => h b (List.mem_cons_of_mem _ hb)]
/-- cells and places go together -/
theorem cells_places (b : Int) (s : List (Nat × Int)) : ∀ i : Nat, i ≤ s.length → (∀ c ∈ cellsFrom [[]] (s.take i), c.length = i ∧ ∀ p ∈ c.zip (s.take i), p.1 < p.2.1) ∧
    (cellsFrom [[]] (s.take i)).map (fun c => b + wayC c (s.take i)) = placesFrom [b] (s.take i) := by
  intro i
  induction i with
  | zero =>
    intro _
    refine ⟨fun c hc => ?_, ?_⟩
    · have hc : c ∈ [[]] := hc
      rw [List.mem_singleton] at hc
      subst hc
      exact ⟨rfl, fun p hp => nomatch hp⟩
    · show [b + 0] = [b]
      rw [Int.add_zero]
  | succ i ih =>
    intro hi
    obtain ⟨h1, h2⟩ := ih (by omega)
    have hlt : i < s.length := hi
    have et : s.take (i + 1) = s.take i ++ [s[i]] := by rw [List.take_add_one, List.getElem?_eq_getElem hlt]; rfl
    have hl : (s.take i).length = i := by rw [List.length_take]; omega
    refine ⟨fun c hc => ?_, ?_⟩
    · rw [cellsFrom_take _ _ _ hlt] at hc
      obtain ⟨c0, hc0, hm⟩ := List.mem_flatMap.mp hc
      obtain ⟨n, hn, rfl⟩ := List.mem_map.mp hm
      obtain ⟨g1, g2⟩ := h1 c0 hc0
      refine ⟨by rw [List.length_append, g1]; rfl, fun p hp => ?_⟩
      rw [et, zip_app _ _ _ _ (by rw [g1, hl])] at hp
      rcases List.mem_append.mp hp with hp | hp
      · exact g2 p hp
      · rw [List.mem_singleton] at hp
        subst hp
        exact List.mem_range.mp hn
    · rw [cellsFrom_take _ _ _ hlt, placesFrom_take _ _ _ hlt, ← h2, map_flatMap', flatMap_map']
      apply flatMap_cong
      intro c hc
      rw [List.map_map]
      apply List.map_congr_left
      intro n _
      show b + wayC (c ++ [n]) (s.take (i + 1)) = b + wayC c (s.take i) + (n : Int) * s[i].2
      rw [et, wayC_app (by rw [(h1 c hc).1, hl])]
      omega
theorem Win.cell_place (w : Win) : w.cells.map w.place = w.places := by
  have := (cells_places w.b w.s w.s.length (Nat.le_refl _)).2
  rw [List.take_length] at this
  exact this
theorem Win.cell_ok {w : Win} {c : List Nat} (h : c ∈ w.cells) : CellOk w c := by
  have := (cells_places w.b w.s w.s.length (Nat.le_refl _)).1
  rw [List.take_length] at this
  exact ⟨(this c h).1, (this c h).2⟩
theorem Win.place_mem {w : Win} {c : List Nat} (h : c ∈ w.cells) : w.place c ∈ w.places := by
  rw [← w.cell_place]
  exact List.mem_map_of_mem h
/-! ### the cell of a number -/
theorem cellStep_fst (l : List Nat) : ∀ (a : List Nat) (n : Nat), l.foldl cellStep (a, n) = (a ++ (l.foldl cellStep ([], n)).1, (l.foldl cellStep ([], n)).2) := by
  induction l with
  | nil => intro a n; simp
  | cons c l ih =>
    intro a n
    rw [List.foldl_cons, List.foldl_cons]
    show l.foldl cellStep (a ++ [n % c], n / c) = _
    have e : cellStep ([], n) c = ([n % c], n / c) := rfl
    rw [e, ih (a ++ [n % c]), ih [n % c], List.append_assoc]
theorem cellBy_app (cs : List Nat) (c n : Nat) : cellBy (cs ++ [c]) n = cellBy cs (n / c) ++ [n % c] := by
  rw [cellBy_eq, cellBy_eq, List.reverse_append]
  show (List.foldl cellStep ([], n) (c :: cs.reverse)).1.reverse = _
  rw [List.foldl_cons]
  show (List.foldl cellStep ([n % c], n / c) cs.reverse).1.reverse = _
  rw [cellStep_fst, List.reverse_append]
  rfl
theorem flat_get {α : Type} (f : List Nat → Nat → α) (c : Nat) : ∀ (l : List (List Nat)) (n : Nat) (x : List Nat), 0 < c → l[n / c]? = some x → (l.flatMap fun a => (List.range c).map fun k => f a k)[n]? = some (f x (n % c))
  | [], n, x, _, h => by simp at h
  | a :: l, n, x, hc, h => by
    rw [List.flatMap_cons]
    by_cases hn : n < c
    · rw [Nat.div_eq_of_lt hn] at h
      simp at h
      subst h
      rw [List.getElem?_append_left (by rw [List.length_map, List.length_range]; exact hn), List.getElem?_map, List.getElem?_range hn, Nat.mod_eq_of_lt hn]
      rfl
    · have hge : c ≤ n := by omega
      have e1 : n / c = (n - c) / c + 1 := Nat.div_eq_sub_div hc hge
      rw [e1] at h
      have h' : l[(n - c) / c]? = some x := by simpa using h
      rw [List.getElem?_append_right (by rw [List.length_map, List.length_range]; exact hge), List.length_map, List.length_range, flat_get f c l (n - c) x hc h', Nat.mod_eq_sub_mod hge]
theorem cells_by (s : List (Nat × Int)) : ∀ i : Nat, i ≤ s.length → ∀ n : Nat, n < prodN ((s.take i).map (·.1)) → (cellsFrom [[]] (s.take i))[n]? = some (cellBy ((s.take i).map (·.1)) n) := by
  intro i
  induction i with
  | zero =>
    intro _ n hn
    have hn : n < 1 := hn
    have : n = 0 := by omega
    subst this
    rfl
  | succ i ih =>
    intro hi n hn
    have hlt : i < s.length := hi
    have et : s.take (i + 1) = s.take i ++ [s[i]] := by rw [List.take_add_one, List.getElem?_eq_getElem hlt]; rfl
    rw [et, List.map_append, prodN_app] at hn
    have hn : n < prodN ((s.take i).map (·.1)) * (1 * s[i].1) := hn
    rw [Nat.one_mul] at hn
    have hc : 0 < s[i].1 := by
      rcases Nat.eq_zero_or_pos s[i].1 with z | z
      · rw [z, Nat.mul_zero] at hn
        omega
      · exact z
    rw [cellsFrom_take _ _ _ hlt]
    rw [flat_get (fun c k => c ++ [k]) s[i].1 _ n _ hc (ih (by omega) (n / s[i].1) (Nat.div_lt_of_lt_mul (by rw [Nat.mul_comm]; exact hn)))]
    rw [et, List.map_append]
    show some _ = some (cellBy ((s.take i).map (·.1) ++ [s[i].1]) n)
    rw [cellBy_app]
theorem Win.cells_get {w : Win} {n : Nat} (h : n < w.cells.length) : w.cells[n]? = some (cellBy w.counts n) := by
  have hl : n < prodN (w.s.map (·.1)) := by
    unfold Win.cells at h
    rw [cellsFrom_len, List.length_singleton, Nat.one_mul] at h
    exact h
  have := cells_by w.s w.s.length (Nat.le_refl _) n (by rw [List.take_length]; exact hl)
  rw [List.take_length] at this
  exact this
/-! ### the first unlike -/
/-- the number of the first pair of unlike -/
def firstNe : List (Int × Int) → Option Nat
  | [] => none
  | p :: l => if p.1 ≠ p.2 then some 0 else (firstNe l).map (· + 1)
theorem firstNe_none : ∀ l : List (Int × Int), (∀ p ∈ l, p.1 = p.2) → firstNe l = none
  | [], _ => rfl
  | p :: l, h => by
    show (if p.1 ≠ p.2 then some 0 else (firstNe l).map (· + 1)) = none
    rw [if_neg (by rw [h p (List.mem_cons_self ..)]; exact fun z => z rfl), firstNe_none l fun q hq => h q (List.mem_cons_of_mem _ hq)]
    rfl
theorem firstNe_some : ∀ (l : List (Int × Int)) (i : Nat) (hi : i < l.length), (∀ p ∈ l.take i, p.1 = p.2) → l[i].1 ≠ l[i].2 → firstNe l = some i
  | [], i, hi, _, _ => by cases hi
  | p :: l, 0, hi, _, hne => by
    show (if p.1 ≠ p.2 then some 0 else (firstNe l).map (· + 1)) = some 0
    rw [if_pos (show p.1 ≠ p.2 from hne)]
  | p :: l, i + 1, hi, h, hne => by
    show (if p.1 ≠ p.2 then some 0 else (firstNe l).map (· + 1)) = some (i + 1)
    rw [if_neg (by rw [h p (by rw [List.take_succ_cons]; exact List.mem_cons_self ..)]; exact fun z => z rfl)]
    rw [firstNe_some l i (by simpa using hi) (fun q hq => h q (by rw [List.take_succ_cons]; exact List.mem_cons_of_mem _ hq)) (by simpa using hne)]
    rfl
/-- the first of the unlike ones -/
theorem filter_head {α : Type} : ∀ (cs : List α) (l : List (Int × Int)), cs.length = l.length → ((cs.zip l).filter fun p => !decide (p.2.1 = p.2.2)).head?.map (·.1) = (firstNe l).bind fun n => cs[n]?
  | [], [], _ => rfl
  | [], _ :: _, h => by cases h
  | _ :: _, [], h => by cases h
  | c :: cs, p :: l, h => by
    have ih := filter_head cs l (by simpa using h)
    show (List.filter _ ((c, p) :: cs.zip l)).head?.map (·.1) = (if p.1 ≠ p.2 then some 0 else (firstNe l).map (· + 1)).bind fun n => (c :: cs)[n]?
    by_cases hp : p.1 = p.2
    · rw [if_neg (fun z => z hp), List.filter_cons_of_neg (by simp [hp]), ih]
      cases firstNe l with
      | none => rfl
      | some n => simp
    · rw [if_pos hp, List.filter_cons_of_pos (by simp [hp])]
      rfl
theorem firstNe_lt : ∀ (l : List (Int × Int)) (n : Nat), firstNe l = some n → n < l.length
  | [], n, h => by cases h
  | p :: l, n, h => by
    have h : (if p.1 ≠ p.2 then some 0 else (firstNe l).map (· + 1)) = some n := h
    by_cases hp : p.1 ≠ p.2
    · rw [if_pos hp] at h
      cases h
      simp
    · rw [if_neg hp] at h
      cases e : firstNe l with
      | none => rw [e] at h; cases h
      | some m =>
        rw [e] at h
        cases h
        have := firstNe_lt l m e
        simp
        exact this
/-! ### tables -/
theorem chunks (m : Nat) : ∀ (c : Nat) (xs : List Int), xs.length = c * m → ((List.range c).map fun i => (xs.drop (m * i)).take m).flatten = xs
  | 0, xs, h => by
    rw [Nat.zero_mul] at h
    rw [List.length_eq_zero_iff.mp h]
    rfl
  | c + 1, xs, h => by
    rw [Nat.succ_mul] at h
    rw [List.range_succ_eq_map, List.map_cons, List.map_map, List.flatten_cons, Nat.mul_zero, List.drop_zero]
    have ih := chunks m c (xs.drop m) (by rw [List.length_drop]; omega)
    have e : (List.range c).map ((fun i => (xs.drop (m * i)).take m) ∘ Nat.succ) = (List.range c).map fun i => ((xs.drop m).drop (m * i)).take m := by
      apply List.map_congr_left
      intro i _
      show (xs.drop (m * (i + 1))).take m = _
      rw [List.drop_drop, Nat.mul_succ, Nat.add_comm]
    rw [e, ih, List.take_append_drop]
end K37

set_option linter.all false
set_option maxRecDepth 100000
/-! the plain laws: the windows that are drawn, the words that are drawn -/
namespace K37
theorem negS_app (s t : List (Nat × Int)) : negS (s ++ t) = negS s + negS t := by
  unfold negS ways
  rw [List.map_append, List.filter_append, List.sum_append]
theorem posS_app (s t : List (Nat × Int)) : posS (s ++ t) = posS s + posS t := by
  unfold posS ways
  rw [List.map_append, List.filter_append, List.sum_append]
/-- max and min as they are asked -/
def pmax (i j : Int) : Int := if j > i then j else i
def pmin (i j : Int) : Int := if j < i then j else i
def pabs (i : Int) : Int := if i < 0 then -i else i
theorem negS_one (x : Nat × Int) : negS [x] = pmin 0 (((x.1 : Int) - 1) * x.2) := by
  rw [negS_cons]
  show (if ((x.1 : Int) - 1) * x.2 < 0 then ((x.1 : Int) - 1) * x.2 else 0) + 0 = _
  rw [Int.add_zero]
  rfl
theorem posS_one (x : Nat × Int) : posS [x] = pmax 0 (((x.1 : Int) - 1) * x.2) := by
  rw [posS_cons]
  show (if 0 < ((x.1 : Int) - 1) * x.2 then ((x.1 : Int) - 1) * x.2 else 0) + 0 = _
  rw [Int.add_zero]
  rfl
/-- the sides so far -/
structure Drawn (room : Int) (s : List (Nat × Int)) (low high : Int) (many : Nat) : Prop where
  hmany : many = prodN (s.map (·.1))
  le : many ≤ 200
  side : ∀ x ∈ s, x.1 ≤ 16 ∧ -512 ≤ x.2 ∧ x.2 ≤ 512
  hlow : low = negS s
  hhigh : high = posS s
  hroom : 0 ∉ s.map (·.1) → 0 ≤ room → high - low ≤ room
theorem Drawn.nil (room : Int) : Drawn room [] 0 0 1 where
  hmany := rfl
  le := by decide
  side := fun x h => nomatch h
  hlow := rfl
  hhigh := rfl
  hroom := fun _ h => by omega
theorem Drawn.step {room : Int} {s : List (Nat × Int)} {low high : Int} {many : Nat} (D : Drawn room s low high many) {c : Nat} {t : Int} (hc : c ≤ 16) (hm : many * c ≤ 200) (ht : -512 ≤ t ∧ t ≤ 512)
    (hr : t = 0 ∨ pmax (high - low) 0 + pabs (pmax ((c : Int) - 1) 0 * t) ≤ room) : Drawn room (s ++ [(c, t)]) (low + pmin 0 (((c : Int) - 1) * t)) (high + pmax 0 (((c : Int) - 1) * t)) (many * c) where
  hmany := by
    rw [List.map_append, prodN_app, D.hmany]
    show _ = prodN _ * (1 * c)
    rw [Nat.one_mul]
  le := hm
  side := fun x hx => by
    rcases List.mem_append.mp hx with hx | hx
    · exact D.side x hx
    · rw [List.mem_singleton] at hx
      subst hx
      exact ⟨hc, ht⟩
  hlow := by rw [negS_app, negS_one, D.hlow]
  hhigh := by rw [posS_app, posS_one, D.hhigh]
  hroom := fun h0 h => by
    rw [List.map_append, List.mem_append, not_or] at h0
    have h1 := D.hroom h0.1 h
    have h2 : c ≠ 0 := fun z => h0.2 (by rw [z]; simp)
    rcases hr with rfl | hr
    · rw [Int.mul_zero]
      show high + 0 - (low + 0) ≤ room
      omega
    · have e : pmax ((c : Int) - 1) 0 = (c : Int) - 1 := by
        unfold pmax
        split <;> omega
      rw [e] at hr
      unfold pmax pmin pabs at *
      generalize ((c : Int) - 1) * t = q at *
      split at hr <;> split at hr <;> split <;> first | omega | (split <;> omega)
theorem Drawn.win {room : Int} {s : List (Nat × Int)} {low high : Int} {many : Nat} (D : Drawn room s low high many) (hn : s.length ≤ 4) {w : Nat} (hw : w = 1 ∨ w = 2 ∨ w = 4 ∨ w = 8) {b : Int} (hb : 0 ≤ b ∧ b ≤ 512) (o : Bool) : IsWin ⟨b, s, w, o⟩ where
  b := hb
  n := by show s.length ≤ 5; omega
  s := fun x hx => by
    have := D.side x hx
    omega
  p := by
    show prodN (s.map (·.1)) ≤ 4096
    have h1 := D.hmany
    have h2 := D.le
    omega
  w := hw
theorem Drawn.last {L : Nat} {w : Nat} {s : List (Nat × Int)} {low high : Int} {many : Nat} (D : Drawn ((L : Int) - w) s low high many) (hn : s.length ≤ 4) (hw : w = 1 ∨ w = 2 ∨ w = 4 ∨ w = 8) (hL : L ≤ 100) (h0 : 0 ∉ s.map (·.1)) (hr : 0 ≤ (L : Int) - w) (m : Int) (o : Bool) :
    0 < (L : Int) - w - high + low + 1 ∧ IsWin ⟨m % ((L : Int) - w - high + low + 1) - low, s, w, o⟩ ∧ (Win.mk (m % ((L : Int) - w - high + low + 1) - low) s w o).fits L := by
  have h1 := D.hroom h0 hr
  have hl : low ≤ 0 := by
    rw [D.hlow]
    unfold negS
    generalize ways s = l
    induction l with
    | nil => exact Int.le_refl _
    | cons x l ih =>
      rw [List.filter_cons]
      split
      · rename_i h
        rw [List.sum_cons]
        have h : x < 0 := by simpa using h
        omega
      · exact ih
  have hh : 0 ≤ high := by
    rw [D.hhigh]
    unfold posS
    generalize ways s = l
    induction l with
    | nil => exact Int.le_refl _
    | cons x l ih =>
      rw [List.filter_cons]
      split
      · rename_i h
        rw [List.sum_cons]
        have h : 0 < x := by simpa using h
        omega
      · exact ih
  have hp : 0 < (L : Int) - w - high + low + 1 := by omega
  have b0 := Int.emod_nonneg m (show (L : Int) - w - high + low + 1 ≠ 0 by omega)
  have b1 := Int.emod_lt_of_pos m hp
  refine ⟨hp, D.win hn hw ⟨by omega, by omega⟩ o, .inr ?_⟩
  have e1 : (Win.mk (m % ((L : Int) - w - high + low + 1) - low) s w o).neg = low := D.hlow.symm
  have e2 : (Win.mk (m % ((L : Int) - w - high + low + 1) - low) s w o).pos = high := D.hhigh.symm
  rw [e1, e2]
  show (0 : Int) ≤ m % ((L : Int) - w - high + low + 1) - low + low ∧ m % ((L : Int) - w - high + low + 1) - low + high + (w : Int) ≤ L
  omega
/-- without cells -/
theorem zero_win {s : List (Nat × Int)} (hn : s.length ≤ 5) (hs : ∀ x ∈ s, x.1 ≤ 4096 ∧ -512 ≤ x.2 ∧ x.2 ≤ 512) (h0 : 0 ∈ s.map (·.1)) {w : Nat} (hw : w = 1 ∨ w = 2 ∨ w = 4 ∨ w = 8) (m : Int) (o : Bool) (L : Nat) :
    IsWin ⟨m % 513, s, w, o⟩ ∧ (Win.mk (m % 513) s w o).fits L := by
  have hp : prodN (s.map (·.1)) = 0 := prodN_zero h0
  refine ⟨⟨?_, hn, hs, ?_, hw⟩, .inl hp⟩
  · show 0 ≤ m % 513 ∧ m % 513 ≤ 512
    omega
  · show prodN (s.map (·.1)) ≤ 4096
    rw [hp]
    decide
/-! ### words -/
def anyList (n : Int) (w : Nat) : List Int := [0, 2 ^ (8 * w) - 1, 1 * 2 ^ (8 * (n / 8 % (w : Int))).toNat, (n + 1) ^ 7 * 48271 % 2 ^ (8 * w), (n + 1) ^ 7 * 48271 % 2 ^ (8 * w), (n + 1) ^ 7 * 48271 % 2 ^ (8 * w), 1, 2 ^ (8 * w) / 2]
def anyWord (n : Int) (w : Nat) : Int := (anyList n w).getD (n % 8).toNat 0
theorem getD_all {P : Int → Prop} : ∀ {l : List Int} {i : Nat}, (∀ x ∈ l, P x) → i < l.length → P (l.getD i 0)
  | l, i, h, hi => by
    rw [List.getD_eq_getElem?_getD, List.getElem?_eq_getElem hi]
    exact h _ (List.getElem_mem hi)
theorem anyWord_fits {n : Int} {w : Nat} (hw : w = 1 ∨ w = 2 ∨ w = 4 ∨ w = 8) : 0 ≤ anyWord n w ∧ anyWord n w < 256 ^ w := by
  unfold anyWord
  refine getD_all (P := fun x => 0 ≤ x ∧ x < 256 ^ w) (fun x hx => ?_) (by show (n % 8).toNat < 8; omega)
  have hp : ∀ k : Nat, k < w → (0 : Int) ≤ 2 ^ (8 * k) ∧ (2 : Int) ^ (8 * k) < 256 ^ w := fun k hk => by
    rw [Int.pow_mul, show (2 : Int) ^ 8 = 256 by decide]
    exact ⟨Int.le_of_lt (Int.pow_pos (by decide)), Int.pow_lt_pow_of_lt (by decide) hk⟩
  have hk : (n / 8 % (w : Int)).toNat < w := by
    have h1 : (w : Int) ≠ 0 := by omega
    have h2 := Int.emod_nonneg (n / 8) h1
    have h3 := Int.emod_lt_of_pos (n / 8) (show (0 : Int) < w by omega)
    omega
  have h1 := hp _ hk
  rw [show 8 * (n / 8 % (w : Int)).toNat = (8 * (n / 8 % (w : Int))).toNat by omega] at h1
  have e : (2 : Int) ^ (8 * w) = 256 ^ w := by rw [Int.pow_mul, show (2 : Int) ^ 8 = 256 by decide]
  have hq : (256 : Int) ≤ 256 ^ w := by rcases hw with rfl | rfl | rfl | rfl <;> decide
  have hmod := Int.emod_nonneg ((n + 1) ^ 7 * 48271) (show (256 : Int) ^ w ≠ 0 by omega)
  have hmod2 := Int.emod_lt_of_pos ((n + 1) ^ 7 * 48271) (show (0 : Int) < 256 ^ w by omega)
  unfold anyList at hx
  rw [e] at hx
  simp only [List.mem_cons, List.not_mem_nil, or_false] at hx
  rcases hx with rfl | rfl | rfl | rfl | rfl | rfl | rfl | rfl <;> omega
def lenList (n : Int) : List Int := [0, 1, 2, 8, 9, 16, 24, 40, 41, 100, 512, 3 + n / 16 % 60, 64, 30, 17, n / 16 % 513]
def lawLen (n : Int) : Int := (lenList n).getD (n % 16).toNat 0
theorem lawLen_fits (n : Int) : 0 ≤ lawLen n ∧ lawLen n ≤ 1000 := by
  unfold lawLen
  refine getD_all (P := fun x => 0 ≤ x ∧ x ≤ 1000) (fun x hx => ?_) (by show (n % 16).toNat < 16; omega)
  unfold lenList at hx
  simp only [List.mem_cons, List.not_mem_nil, or_false] at hx
  rcases hx with rfl | rfl | rfl | rfl | rfl | rfl | rfl | rfl | rfl | rfl | rfl | rfl | rfl | rfl | rfl | rfl <;> omega
end K37

set_option Elab.async false
set_option linter.all false
set_option maxRecDepth 100000
set_option maxHeartbeats 4000000
namespace K37
open PySem PySem.Spec PyProof.Rows L2 RZ
local macro_rules | `(tactic| walk_at "ev") => `(tactic| first
  | with_reducible exact ev_int
  | with_reducible exact ev_str
  | with_reducible exact ev_bl
  | with_reducible exact ev_non
  | exact ev_var rfl
  | with_reducible exact ea_nil
  | with_reducible apply ea_cons
  | with_reducible apply ev_isiI
  | with_reducible apply ev_isiB
  | with_reducible apply ev_isiT
  | with_reducible apply ev_isiS
  | with_reducible apply ev_isiL
  | with_reducible apply ev_chain
  | with_reducible apply ev_andV
  | with_reducible apply ev_orV
  | with_reducible apply ev_notV
  | with_reducible apply ev_kdI
  | with_reducible apply ev_op
  | with_reducible apply ev_un
  | with_reducible exact rd_B0
  | with_reducible exact rd_I0
  | with_reducible apply rd_I
  | with_reducible exact ud_neg
  | with_reducible exact rd_eqI
  | with_reducible exact rd_neI
  | with_reducible exact rd_eqS
  | with_reducible exact rd_isN
  | exact rd_ixT rfl
  | exact rd_ixL rfl
  | with_reducible apply ev_call
  | with_reducible apply ev_cb
  | exact cd_len (.inl rfl)
  | exact cd_len (.inr rfl)
  | with_reducible exact cd_abs
  | with_reducible exact cd_max
  | with_reducible exact cd_min
  | with_reducible exact cd_intB
  | with_reducible exact cd_tuple
  | with_reducible exact cd_allM
  | with_reducible exact cd_sumM
  | with_reducible apply ev_tup
  | with_reducible apply ev_lst
  | with_reducible apply ev_sl
  | with_reducible exact sd_tup
  | with_reducible exact eo_none
  | with_reducible apply eo_some
  | with_reducible apply ev_revT
  | with_reducible apply et_not
  | with_reducible apply et_and
  | with_reducible apply et_or
  | with_reducible apply et_test
  | with_reducible apply et_B
  | with_reducible exact et_yes
  | with_reducible exact gd_name
  | with_reducible apply gd_tup
  | with_reducible apply gds_cons
  | with_reducible exact gds_nil
  | with_reducible (exact Nat.le_of_ble_eq_true rfl)
  | (with_reducible show (_ : List PD → PD → Prop) _ _); assumption
  | with_reducible (refine fun (_ : _ = true) => ?_)
  | with_reducible (refine fun (_ : _ = false) => ?_))
/-! ### data -/
abbrev nD (n : Nat) : PD := .int (n : Int)
abbrev rowD (r : List Int) : PD := .tuple (r.map PyData.int)
abbrev sideD (x : Nat × Int) : PD := .tuple [.int (x.1 : Int), .int x.2]
def ordS (b : Bool) : Str := if b then "low" else "high"
abbrev winD (w : Win) : PD := .tuple [.int w.b, .tuple (w.s.map sideD), .int (w.w : Int), .str (ordS w.low)]
abbrev cellD (c : List Nat) : PD := .tuple (c.map nD)
theorem ordS_flat (b : Bool) : inV (.str (ordS b)) [.str "low", .str "high"] = true := by cases b <;> decide +kernel
section
variable {P : Program} {w : World} {K : PySem.W.Frag} {mg : Str → Option Value} {base : Heap} {wa oa da : Addr}
def R_is_among : List PD → PD → Prop := fun ds d => ∃ t l m : Int, ds = [.int t, .int l, .int m] ∧ d = .bool (decide (l ≤ t) && decide (t ≤ m))
abbrev FN_is_among (P : Program) (w : World) (K : PySem.W.Frag) (mg : Str → Option Value) (base : Heap) : Prop := FnX P w K mg base "is_among" ["thing", "least", "most"] 1 (spD K R_is_among)
theorem ok_is_among (T : Top K mg wa oa da) (F : TopF K mg "is_among" s_is_among ["thing", "least", "most"])  : FN_is_among P w K mg base := by
  refine fx_pure F sc_is_among (fun ds d h => by first | (obtain ⟨_, rfl, _⟩ := h; rfl) | (obtain ⟨_, _, rfl, _⟩ := h; rfl) | (obtain ⟨_, _, _, rfl, _⟩ := h; rfl) | (obtain ⟨_, _, _, _, rfl, _⟩ := h; rfl) | (obtain ⟨_, _, _, _, _, rfl, _⟩ := h; rfl) | (obtain ⟨_, _, _, _, _, _, rfl, _⟩ := h; rfl) | (obtain ⟨_, _, _, _, _, _, _, rfl, _⟩ := h; rfl) | (obtain ⟨_, _, _, _, _, _, _, _, rfl, _⟩ := h; rfl) | (obtain ⟨_, _, _, _, _, _, _, _, _, rfl, _⟩ := h; rfl) | (obtain ⟨_, _, _, _, _, _, _, _, _, _, rfl, _⟩ := h; rfl) | (obtain ⟨_, _, _, _, _, _, _, _, _, _, _, rfl, _⟩ := h; rfl) | (obtain ⟨_, _, _, _, _, _, _, _, _, _, _, _, rfl, _⟩ := h; rfl) | (obtain ⟨_, _, _, _, _, _, _, _, _, _, _, _, _, rfl, _⟩ := h; rfl) | (obtain ⟨_, _, _, _, _, _, _, _, _, _, _, _, _, _, rfl, _⟩ := h; rfl)) 0 rfl fun f cdv A outer s H E ds d hr h => ?_
  obtain ⟨t, l, m, rfl, rfl⟩ := h
  refine ⟨_, (pss_one (ps_ret (pe_and (pe_callB (call_isiK' K rfl) (by rfl) T.b.isinstance (by decide +kernel) (pa_cons (pv 0) (pa_cons (pe_bltn (v := .ty "int") (by rfl) T.b.int (by decide +kernel) rfl) pa_nil))) (pe_and (pe_not (pe_callB (call_isiK' K rfl) (by rfl) T.b.isinstance (by decide +kernel) (pa_cons (pv 0) (pa_cons (pe_bltn (v := .ty "bool") (by rfl) T.b.bool (by decide +kernel) rfl) pa_nil)))) (pe_one (pe_chain op_le op_le (pv 1) (pv 0) (pv 2))))))), ?_⟩
  dsimp only [cxOf, List.map, List.replicate, List.cons_append, List.nil_append]
  apply st_ret
  case h => repeat' walk_at "ev"
  case k => rfl
def R_is_row : List PD → PD → Prop := fun ds d => ∃ r, IsRow r ∧ ds = [rowD r] ∧ d = .bool true
abbrev FN_is_row (P : Program) (w : World) (K : PySem.W.Frag) (mg : Str → Option Value) (base : Heap) : Prop := FnX P w K mg base "is_row" ["thing"] 2 (spD K R_is_row)
theorem ok_is_row (T : Top K mg wa oa da) (F : TopF K mg "is_row" s_is_row ["thing"]) (G_is_among : FN_is_among P w K mg base) : FN_is_row P w K mg base := by
  refine fx_pure F sc_is_row (fun ds d h => by first | (obtain ⟨_, rfl, _⟩ := h; rfl) | (obtain ⟨_, _, rfl, _⟩ := h; rfl) | (obtain ⟨_, _, _, rfl, _⟩ := h; rfl) | (obtain ⟨_, _, _, _, rfl, _⟩ := h; rfl) | (obtain ⟨_, _, _, _, _, rfl, _⟩ := h; rfl) | (obtain ⟨_, _, _, _, _, _, rfl, _⟩ := h; rfl) | (obtain ⟨_, _, _, _, _, _, _, rfl, _⟩ := h; rfl) | (obtain ⟨_, _, _, _, _, _, _, _, rfl, _⟩ := h; rfl) | (obtain ⟨_, _, _, _, _, _, _, _, _, rfl, _⟩ := h; rfl) | (obtain ⟨_, _, _, _, _, _, _, _, _, _, rfl, _⟩ := h; rfl) | (obtain ⟨_, _, _, _, _, _, _, _, _, _, _, rfl, _⟩ := h; rfl) | (obtain ⟨_, _, _, _, _, _, _, _, _, _, _, _, rfl, _⟩ := h; rfl) | (obtain ⟨_, _, _, _, _, _, _, _, _, _, _, _, _, rfl, _⟩ := h; rfl) | (obtain ⟨_, _, _, _, _, _, _, _, _, _, _, _, _, _, rfl, _⟩ := h; rfl)) 1 rfl fun f cdv A outer s H E ds d hr h => ?_
  obtain ⟨r, hR, rfl, rfl⟩ := h
  refine ⟨_, (pss_cons (ps_if (PW.pt (pw_or (pt_not (pt_val (pe_callB (call_isiK' K rfl) (by rfl) T.b.isinstance (by decide +kernel) (pa_cons (pv 0) (pa_cons (pe_bltn (v := .ty "tuple") (by rfl) T.b.tuple (by decide +kernel) rfl) pa_nil))))) (pw_or1 (pt_cmpR op_gt (pe_callB (cr_lenK K rfl) (by rfl) T.b.len (by decide +kernel) (pa_cons (pv 0) pa_nil)) (pe_globV rfl T.most_length) (nomark _)))))
        (pss_one (ps_ret (pe_bl)))
        pss_nil)
      (pss_one (ps_ret (pe_callB (cr_allK K rfl rfl) (by rfl) T.b.all (by decide +kernel) (pa_cons (pe_lc (own := [("byte", 1)]) (tt := tYes) rfl sc_is_row.nd (pi_tupK K rfl (pv 0)) (blkOk_by (N := ["thing", "byte"]) (sc := defScope s_is_row) (by decide +kernel)) (fun _ _ _ _ _ => (pg_name (i := 1) sc_is_row.nd rfl (Or.inl rfl))) (fun _ _ _ _ _ => pts_nil) (fun _ _ _ _ _ => (pe_callX G_is_among (hr.mono (by decide)) (by rfl) (pa_cons (pv 1) (pa_cons (pe_int) (pa_cons (pe_globV rfl T.most_byte) pa_nil)))))) pa_nil))))), ?_⟩
  dsimp only [cxOf, List.map, List.replicate, List.cons_append, List.nil_append]
  apply st_guard
  case h => repeat' walk_at "ev"
  case e =>
    have := hR.len
    simp [List.length_map]
    omega
  refine' st_ret (ev_cb (ea_cons (el_d (el_map (xs := r) (enc := PyData.int) (fun x => .bool (decide (0 ≤ x) && decide (x ≤ 255))) (it_tup (ev_var rfl)) (by have := hR.len; omega) fun a ha => ⟨_, _, gd_name, by decide, ?_⟩)) ea_nil) cd_allM) ?_
  · repeat' walk_at "ev"
    exact ⟨_, _, _, rfl, rfl⟩
  · congr 1
    rw [List.all_eq_true]
    intro x hx
    have := hR.byte x hx
    simp [this]
def R_is_side : List PD → PD → Prop := fun ds d => ∃ x : Nat × Int, (x.1 ≤ 4096 ∧ -512 ≤ x.2 ∧ x.2 ≤ 512) ∧ ds = [sideD x] ∧ d = .bool true
abbrev FN_is_side (P : Program) (w : World) (K : PySem.W.Frag) (mg : Str → Option Value) (base : Heap) : Prop := FnX P w K mg base "is_side" ["thing"] 2 (spD K R_is_side)
theorem ok_is_side (T : Top K mg wa oa da) (F : TopF K mg "is_side" s_is_side ["thing"]) (G_is_among : FN_is_among P w K mg base) : FN_is_side P w K mg base := by
  refine fx_pure F sc_is_side (fun ds d h => by first | (obtain ⟨_, rfl, _⟩ := h; rfl) | (obtain ⟨_, _, rfl, _⟩ := h; rfl) | (obtain ⟨_, _, _, rfl, _⟩ := h; rfl) | (obtain ⟨_, _, _, _, rfl, _⟩ := h; rfl) | (obtain ⟨_, _, _, _, _, rfl, _⟩ := h; rfl) | (obtain ⟨_, _, _, _, _, _, rfl, _⟩ := h; rfl) | (obtain ⟨_, _, _, _, _, _, _, rfl, _⟩ := h; rfl) | (obtain ⟨_, _, _, _, _, _, _, _, rfl, _⟩ := h; rfl) | (obtain ⟨_, _, _, _, _, _, _, _, _, rfl, _⟩ := h; rfl) | (obtain ⟨_, _, _, _, _, _, _, _, _, _, rfl, _⟩ := h; rfl) | (obtain ⟨_, _, _, _, _, _, _, _, _, _, _, rfl, _⟩ := h; rfl) | (obtain ⟨_, _, _, _, _, _, _, _, _, _, _, _, rfl, _⟩ := h; rfl) | (obtain ⟨_, _, _, _, _, _, _, _, _, _, _, _, _, rfl, _⟩ := h; rfl) | (obtain ⟨_, _, _, _, _, _, _, _, _, _, _, _, _, _, rfl, _⟩ := h; rfl)) 0 rfl fun f cdv A outer s H E ds d hr h => ?_
  obtain ⟨r, hR, rfl, rfl⟩ := h
  refine ⟨_, (pss_cons (ps_if (PW.pt (pw_or (pt_not (pt_val (pe_callB (call_isiK' K rfl) (by rfl) T.b.isinstance (by decide +kernel) (pa_cons (pv 0) (pa_cons (pe_bltn (v := .ty "tuple") (by rfl) T.b.tuple (by decide +kernel) rfl) pa_nil))))) (pw_or1 (pt_cmpR op_ne (pe_callB (cr_lenK K rfl) (by rfl) T.b.len (by decide +kernel) (pa_cons (pv 0) pa_nil)) (pe_int) (nomark _)))))
        (pss_one (ps_ret (pe_bl)))
        pss_nil)
      (pss_one (ps_ret (pe_and (pe_callX G_is_among (hr.mono (by decide)) (by rfl) (pa_cons (pe_ix (ix_tupK K rfl) (pv 0) (pe_int) (fun _ _ => rfl)) (pa_cons (pe_int) (pa_cons (pe_globV rfl T.most_cells) pa_nil)))) (pe_one (pe_callX G_is_among (hr.mono (by decide)) (by rfl) (pa_cons (pe_ix (ix_tupK K rfl) (pv 0) (pe_int) (fun _ _ => rfl)) (pa_cons (pe_un un_neg (pe_globV rfl T.most_step)) (pa_cons (pe_globV rfl T.most_step) pa_nil))))))))), ?_⟩
  dsimp only [cxOf, List.map, List.replicate, List.cons_append, List.nil_append]
  apply st_guard
  case h => repeat' walk_at "ev"
  case e => rfl
  apply st_ret
  case h =>
    repeat' walk_at "ev"
    · exact ⟨_, _, _, rfl, rfl⟩
    · exact ⟨_, _, _, rfl, rfl⟩
  case k =>
    have h1 : (0 : Int) ≤ (r.1 : Int) := by omega
    have h2 : (r.1 : Int) ≤ 4096 := by omega
    simp [h1, h2, hR]
def R_many_by : List PD → PD → Prop := fun ds d => ∃ (l : PD) (ns : List Nat), ds = [l] ∧ (l = .list (ns.map nD) ∨ l = .tuple (ns.map nD)) ∧ (∀ n ∈ ns, n ≤ 4096) ∧ d = nD (prodN ns)
abbrev FN_many_by (P : Program) (w : World) (K : PySem.W.Frag) (mg : Str → Option Value) (base : Heap) : Prop := FnX P w K mg base "many_by" ["counts"] 1 (spD K R_many_by)
theorem ok_many_by (T : Top K mg wa oa da) (F : TopF K mg "many_by" s_many_by ["counts"])  : FN_many_by P w K mg base := by
  refine fx_pure F sc_many_by (fun ds d h => by first | (obtain ⟨_, rfl, _⟩ := h; rfl) | (obtain ⟨_, _, rfl, _⟩ := h; rfl) | (obtain ⟨_, _, _, rfl, _⟩ := h; rfl) | (obtain ⟨_, _, _, _, rfl, _⟩ := h; rfl) | (obtain ⟨_, _, _, _, _, rfl, _⟩ := h; rfl) | (obtain ⟨_, _, _, _, _, _, rfl, _⟩ := h; rfl) | (obtain ⟨_, _, _, _, _, _, _, rfl, _⟩ := h; rfl) | (obtain ⟨_, _, _, _, _, _, _, _, rfl, _⟩ := h; rfl) | (obtain ⟨_, _, _, _, _, _, _, _, _, rfl, _⟩ := h; rfl) | (obtain ⟨_, _, _, _, _, _, _, _, _, _, rfl, _⟩ := h; rfl) | (obtain ⟨_, _, _, _, _, _, _, _, _, _, _, rfl, _⟩ := h; rfl) | (obtain ⟨_, _, _, _, _, _, _, _, _, _, _, _, rfl, _⟩ := h; rfl) | (obtain ⟨_, _, _, _, _, _, _, _, _, _, _, _, _, rfl, _⟩ := h; rfl) | (obtain ⟨_, _, _, _, _, _, _, _, _, _, _, _, _, _, rfl, _⟩ := h; rfl)) 2 rfl fun f cdv A outer s H E ds d hr h => ?_
  obtain ⟨l, ns, rfl, hl, hn, rfl⟩ := h
  have turn : ∀ l : PD, ∀ (i : Nat) (h : i < ns.length) M' ρ', (M' = [] ∧ ∃ s, ρ' = [Sl.val l, .val (nD (prodN (ns.take i))), s]) → ∃ ρ'' js, GD K (gName 2) (nD ns[i]) ρ' ρ'' js ∧
      StD K [] M' ρ'' (tAsg (tOp (rI CMul fun i j => .int (i * j)) (tVar 1) (tVar 2)) (gName 1)) (fun M' ρ' => M' = [] ∧ ∃ s, ρ' = [Sl.val l, .val (nD (prodN (ns.take (i + 1)))), s]) (fun _ d' => d' = nD (prodN ns)) := by
    rintro l i h M' ρ' ⟨rfl, s, rfl⟩
    refine ⟨_, _, gd_name, st_one (st_set (d := nD (prodN (ns.take (i + 1)))) (ev_is (ev_op (ev_var rfl) (ev_var rfl) (rd_I ?_)) ?_) (st_next ⟨rfl, _, rfl⟩))⟩
    · have := hn _ (List.getElem_mem h)
      refine .inr ⟨?_, ?_⟩ <;> omega
    · rw [prodN_take ns i h]
      show PyData.int _ = PyData.int _
      rw [Int.natCast_mul]
  rcases hl with rfl | rfl
  · refine ⟨_, (pss_cons (ps_set (i := 1) sc_many_by.nd rfl (Or.inl rfl) (pe_int))
      (pss_cons (ps_for PassesOwn.never rfl (pi_listK K rfl (pv 0)) (pg_name (i := 2) sc_many_by.nd rfl (Or.inl rfl))
        (pss_one (ps_set (i := 1) sc_many_by.nd rfl (Or.inl rfl) (pe_op op_mul (pv 1) (pv 2)))))
      (pss_one (ps_ret (pv 1))))), ?_⟩
    dsimp only [cxOf, List.map, List.replicate, List.cons_append, List.nil_append]
    refine st_set ev_int (st_forT (xs := ns) (enc := nD) (fun i M' ρ' => M' = [] ∧ ∃ s, ρ' = [Sl.val (.list (ns.map nD)), .val (nD (prodN (ns.take i))), s]) (it_list (ev_var rfl)) ⟨rfl, _, rfl⟩ (turn _) ?_)
    rintro M' ρ' ⟨rfl, s, rfl⟩
    exact st_ret (ev_var rfl) (by rw [List.take_length])
  · refine ⟨_, (pss_cons (ps_set (i := 1) sc_many_by.nd rfl (Or.inl rfl) (pe_int))
      (pss_cons (ps_for PassesOwn.never rfl (pi_tupK K rfl (pv 0)) (pg_name (i := 2) sc_many_by.nd rfl (Or.inl rfl))
        (pss_one (ps_set (i := 1) sc_many_by.nd rfl (Or.inl rfl) (pe_op op_mul (pv 1) (pv 2)))))
      (pss_one (ps_ret (pv 1))))), ?_⟩
    dsimp only [cxOf, List.map, List.replicate, List.cons_append, List.nil_append]
    refine st_set ev_int (st_forT (xs := ns) (enc := nD) (fun i M' ρ' => M' = [] ∧ ∃ s, ρ' = [Sl.val (.tuple (ns.map nD)), .val (nD (prodN (ns.take i))), s]) (it_tup (ev_var rfl)) ⟨rfl, _, rfl⟩ (turn _) ?_)
    rintro M' ρ' ⟨rfl, s, rfl⟩
    exact st_ret (ev_var rfl) (by rw [List.take_length])
def R_is_width : List PD → PD → Prop := fun ds d => ∃ n : Nat, (n = 1 ∨ n = 2 ∨ n = 4 ∨ n = 8) ∧ ds = [nD n] ∧ d = .bool true
abbrev FN_is_width (P : Program) (w : World) (K : PySem.W.Frag) (mg : Str → Option Value) (base : Heap) : Prop := FnX P w K mg base "is_width" ["thing"] 2 (spD K R_is_width)
theorem ok_is_width (T : Top K mg wa oa da) (F : TopF K mg "is_width" s_is_width ["thing"]) (G_is_among : FN_is_among P w K mg base) : FN_is_width P w K mg base := by
  refine fx_pure F sc_is_width (fun ds d h => by first | (obtain ⟨_, rfl, _⟩ := h; rfl) | (obtain ⟨_, _, rfl, _⟩ := h; rfl) | (obtain ⟨_, _, _, rfl, _⟩ := h; rfl) | (obtain ⟨_, _, _, _, rfl, _⟩ := h; rfl) | (obtain ⟨_, _, _, _, _, rfl, _⟩ := h; rfl) | (obtain ⟨_, _, _, _, _, _, rfl, _⟩ := h; rfl) | (obtain ⟨_, _, _, _, _, _, _, rfl, _⟩ := h; rfl) | (obtain ⟨_, _, _, _, _, _, _, _, rfl, _⟩ := h; rfl) | (obtain ⟨_, _, _, _, _, _, _, _, _, rfl, _⟩ := h; rfl) | (obtain ⟨_, _, _, _, _, _, _, _, _, _, rfl, _⟩ := h; rfl) | (obtain ⟨_, _, _, _, _, _, _, _, _, _, _, rfl, _⟩ := h; rfl) | (obtain ⟨_, _, _, _, _, _, _, _, _, _, _, _, rfl, _⟩ := h; rfl) | (obtain ⟨_, _, _, _, _, _, _, _, _, _, _, _, _, rfl, _⟩ := h; rfl) | (obtain ⟨_, _, _, _, _, _, _, _, _, _, _, _, _, _, rfl, _⟩ := h; rfl)) 0 rfl fun f cdv A outer s H E ds d hr h => ?_
  obtain ⟨n, hn, rfl, rfl⟩ := h
  refine ⟨_, (pss_one (ps_ret (pe_and (pe_callX G_is_among (hr.mono (by decide)) (by rfl) (pa_cons (pv 0) (pa_cons (pe_int) (pa_cons (pe_globV rfl T.most_width) pa_nil)))) (pe_one (pe_cmpR (op_inK K rfl) (pv 0) (pe_globV rfl T.widths) rfl))))), ?_⟩
  dsimp only [cxOf, List.map, List.replicate, List.cons_append, List.nil_append]
  apply st_ret
  case h =>
    apply ev_andV
    case h1 =>
      repeat' walk_at "ev"
      exact ⟨_, _, _, rfl, rfl⟩
    case h2 =>
      refine fun _ => ev_inK (b := true) T.wt (ev_var rfl) (fun H v h => by cases h; rfl) rfl rfl ?_
      rcases hn with rfl | rfl | rfl | rfl <;> decide
  case k => rcases hn with rfl | rfl | rfl | rfl <;> rfl
def R_is_order : List PD → PD → Prop := fun ds d => ∃ b : Bool, ds = [.str (ordS b)] ∧ d = .bool true
abbrev FN_is_order (P : Program) (w : World) (K : PySem.W.Frag) (mg : Str → Option Value) (base : Heap) : Prop := FnX P w K mg base "is_order" ["thing"] 1 (spD K R_is_order)
theorem ok_is_order (T : Top K mg wa oa da) (F : TopF K mg "is_order" s_is_order ["thing"])  : FN_is_order P w K mg base := by
  refine fx_pure F sc_is_order (fun ds d h => by first | (obtain ⟨_, rfl, _⟩ := h; rfl) | (obtain ⟨_, _, rfl, _⟩ := h; rfl) | (obtain ⟨_, _, _, rfl, _⟩ := h; rfl) | (obtain ⟨_, _, _, _, rfl, _⟩ := h; rfl) | (obtain ⟨_, _, _, _, _, rfl, _⟩ := h; rfl) | (obtain ⟨_, _, _, _, _, _, rfl, _⟩ := h; rfl) | (obtain ⟨_, _, _, _, _, _, _, rfl, _⟩ := h; rfl) | (obtain ⟨_, _, _, _, _, _, _, _, rfl, _⟩ := h; rfl) | (obtain ⟨_, _, _, _, _, _, _, _, _, rfl, _⟩ := h; rfl) | (obtain ⟨_, _, _, _, _, _, _, _, _, _, rfl, _⟩ := h; rfl) | (obtain ⟨_, _, _, _, _, _, _, _, _, _, _, rfl, _⟩ := h; rfl) | (obtain ⟨_, _, _, _, _, _, _, _, _, _, _, _, rfl, _⟩ := h; rfl) | (obtain ⟨_, _, _, _, _, _, _, _, _, _, _, _, _, rfl, _⟩ := h; rfl) | (obtain ⟨_, _, _, _, _, _, _, _, _, _, _, _, _, _, rfl, _⟩ := h; rfl)) 0 rfl fun f cdv A outer s H E ds d hr h => ?_
  obtain ⟨b, rfl, rfl⟩ := h
  refine ⟨_, (pss_one (ps_ret (pe_and (pe_callB (call_isiK' K rfl) (by rfl) T.b.isinstance (by decide +kernel) (pa_cons (pv 0) (pa_cons (pe_bltn (v := .ty "str") (by rfl) T.b.str (by decide +kernel) rfl) pa_nil))) (pe_one (pe_cmpR (op_inK K rfl) (pv 0) (pe_globV rfl T.orders) rfl))))), ?_⟩
  dsimp only [cxOf, List.map, List.replicate, List.cons_append, List.nil_append]
  apply st_ret
  case h =>
    apply ev_andV
    case h1 => repeat' walk_at "ev"
    case h2 => exact fun _ => ev_inK (b := true) T.ot (ev_var rfl) (fun H v h => by cases h; rfl) rfl rfl (ordS_flat b)
  case k => rfl
end
end K37

set_option Elab.async false
set_option linter.all false
set_option maxRecDepth 100000
set_option maxHeartbeats 4000000
namespace K37
open PySem PySem.Spec PyProof.Rows L2 RZ
local macro_rules | `(tactic| walk_at "ev") => `(tactic| first
  | with_reducible exact ev_int
  | with_reducible exact ev_str
  | with_reducible exact ev_bl
  | with_reducible exact ev_non
  | exact ev_var rfl
  | with_reducible exact ea_nil
  | with_reducible apply ea_cons
  | with_reducible apply ev_isiI
  | with_reducible apply ev_isiB
  | with_reducible apply ev_isiT
  | with_reducible apply ev_isiS
  | with_reducible apply ev_isiL
  | with_reducible apply ev_chain
  | with_reducible apply ev_andV
  | with_reducible apply ev_orV
  | with_reducible apply ev_notV
  | with_reducible apply ev_kdI
  | with_reducible apply ev_op
  | with_reducible apply ev_un
  | with_reducible exact rd_B0
  | with_reducible exact rd_I0
  | with_reducible apply rd_I
  | with_reducible exact ud_neg
  | with_reducible exact rd_eqI
  | with_reducible exact rd_neI
  | with_reducible exact rd_eqS
  | with_reducible exact rd_isN
  | exact rd_ixT rfl
  | exact rd_ixL rfl
  | with_reducible apply ev_call
  | with_reducible apply ev_cb
  | exact cd_len (.inl rfl)
  | exact cd_len (.inr rfl)
  | with_reducible exact cd_abs
  | with_reducible exact cd_max
  | with_reducible exact cd_min
  | with_reducible exact cd_intB
  | with_reducible exact cd_tuple
  | with_reducible exact cd_allM
  | with_reducible exact cd_sumM
  | with_reducible apply ev_tup
  | with_reducible apply ev_lst
  | with_reducible apply ev_sl
  | with_reducible exact sd_tup
  | with_reducible exact eo_none
  | with_reducible apply eo_some
  | with_reducible apply ev_revT
  | with_reducible apply et_not
  | with_reducible apply et_and
  | with_reducible apply et_or
  | with_reducible apply et_test
  | with_reducible apply et_B
  | with_reducible exact et_yes
  | with_reducible exact gd_name
  | with_reducible apply gd_tup
  | with_reducible apply gds_cons
  | with_reducible exact gds_nil
  | with_reducible (exact Nat.le_of_ble_eq_true rfl)
  | (with_reducible show (_ : List PD → PD → Prop) _ _); assumption
  | with_reducible (refine fun (_ : _ = true) => ?_)
  | with_reducible (refine fun (_ : _ = false) => ?_))
section
variable {P : Program} {w : World} {K : PySem.W.Frag} {mg : Str → Option Value} {base : Heap} {wa oa da : Addr}
def R_is_window : List PD → PD → Prop := fun ds d => ∃ w : Win, IsWin w ∧ ds = [winD w] ∧ d = .bool true
abbrev FN_is_window (P : Program) (w : World) (K : PySem.W.Frag) (mg : Str → Option Value) (base : Heap) : Prop := FnX P w K mg base "is_window" ["thing"] 3 (spD K R_is_window)
theorem ok_is_window (T : Top K mg wa oa da) (F : TopF K mg "is_window" s_is_window ["thing"]) (G_is_width : FN_is_width P w K mg base) (G_is_order : FN_is_order P w K mg base) (G_is_among : FN_is_among P w K mg base) (G_many_by : FN_many_by P w K mg base) (G_is_side : FN_is_side P w K mg base) : FN_is_window P w K mg base := by
  refine fx_pure F sc_is_window (fun ds d h => by first | (obtain ⟨_, rfl, _⟩ := h; rfl) | (obtain ⟨_, _, rfl, _⟩ := h; rfl) | (obtain ⟨_, _, _, rfl, _⟩ := h; rfl) | (obtain ⟨_, _, _, _, rfl, _⟩ := h; rfl) | (obtain ⟨_, _, _, _, _, rfl, _⟩ := h; rfl) | (obtain ⟨_, _, _, _, _, _, rfl, _⟩ := h; rfl) | (obtain ⟨_, _, _, _, _, _, _, rfl, _⟩ := h; rfl) | (obtain ⟨_, _, _, _, _, _, _, _, rfl, _⟩ := h; rfl) | (obtain ⟨_, _, _, _, _, _, _, _, _, rfl, _⟩ := h; rfl) | (obtain ⟨_, _, _, _, _, _, _, _, _, _, rfl, _⟩ := h; rfl) | (obtain ⟨_, _, _, _, _, _, _, _, _, _, _, rfl, _⟩ := h; rfl) | (obtain ⟨_, _, _, _, _, _, _, _, _, _, _, _, rfl, _⟩ := h; rfl) | (obtain ⟨_, _, _, _, _, _, _, _, _, _, _, _, _, rfl, _⟩ := h; rfl) | (obtain ⟨_, _, _, _, _, _, _, _, _, _, _, _, _, _, rfl, _⟩ := h; rfl)) 1 rfl fun f cdv A outer s H E ds d hr h => ?_
  obtain ⟨w', hw, rfl, rfl⟩ := h
  refine ⟨_, (pss_cons (ps_if (PW.pt (pw_or (pt_not (pt_val (pe_callB (call_isiK' K rfl) (by rfl) T.b.isinstance (by decide +kernel) (pa_cons (pv 0) (pa_cons (pe_bltn (v := .ty "tuple") (by rfl) T.b.tuple (by decide +kernel) rfl) pa_nil))))) (pw_or (pt_cmpR op_ne (pe_callB (cr_lenK K rfl) (by rfl) T.b.len (by decide +kernel) (pa_cons (pv 0) pa_nil)) (pe_int) (nomark _)) (pw_or1 (pt_not (pt_val (pe_callX G_is_among (hr.mono (by decide)) (by rfl) (pa_cons (pe_ix (ix_tupK K rfl) (pv 0) (pe_int) (fun _ _ => rfl)) (pa_cons (pe_int) (pa_cons (pe_globV rfl T.most_length) pa_nil))))))))))
        (pss_one (ps_ret (pe_bl)))
        pss_nil)
      (pss_cons (ps_if (PW.pt (pw_or (pt_not (pt_val (pe_callB (call_isiK' K rfl) (by rfl) T.b.isinstance (by decide +kernel) (pa_cons (pe_ix (ix_tupK K rfl) (pv 0) (pe_int) (fun _ _ => rfl)) (pa_cons (pe_bltn (v := .ty "tuple") (by rfl) T.b.tuple (by decide +kernel) rfl) pa_nil))))) (pw_or (pt_cmpR op_gt (pe_callB (cr_lenK K rfl) (by rfl) T.b.len (by decide +kernel) (pa_cons (pe_ix (ix_tupK K rfl) (pv 0) (pe_int) (fun _ _ => rfl)) pa_nil)) (pe_globV rfl T.most_sides) (nomark _)) (pw_or1 (pt_not (pt_val (pe_callB (cr_allK K rfl rfl) (by rfl) T.b.all (by decide +kernel) (pa_cons (pe_lc (own := [("side", 1)]) (tt := tYes) rfl sc_is_window.nd (pi_tupK K rfl (pe_ix (ix_tupK K rfl) (pv 0) (pe_int) (fun _ _ => rfl))) (blkOk_by (N := ["thing", "side"]) (sc := defScope s_is_window) (by decide +kernel)) (fun _ _ _ _ _ => (pg_name (i := 1) sc_is_window.nd rfl (Or.inl rfl))) (fun _ _ _ _ _ => pts_nil) (fun _ _ _ _ _ => (pe_callX G_is_side (hr.mono (by decide)) (by rfl) (pa_cons (pv 1) pa_nil)))) pa_nil))))))))
        (pss_one (ps_ret (pe_bl)))
        pss_nil)
      (pss_one (ps_ret (pe_and (pe_cmpR op_le (pe_callX G_many_by (hr.mono (by decide)) (by rfl) (pa_cons (pe_lc (own := [("side", 1)]) (tt := tYes) rfl sc_is_window.nd (pi_tupK K rfl (pe_ix (ix_tupK K rfl) (pv 0) (pe_int) (fun _ _ => rfl))) (blkOk_by (N := ["thing", "side"]) (sc := defScope s_is_window) (by decide +kernel)) (fun _ _ _ _ _ => (pg_name (i := 1) sc_is_window.nd rfl (Or.inl rfl))) (fun _ _ _ _ _ => pts_nil) (fun _ _ _ _ _ => (pe_ix (ix_tupK K rfl) (pv 1) (pe_int) (fun _ _ => rfl)))) pa_nil)) (pe_globV rfl T.most_cells) (nomark _)) (pe_and (pe_callX G_is_width (hr.mono (by decide)) (by rfl) (pa_cons (pe_ix (ix_tupK K rfl) (pv 0) (pe_int) (fun _ _ => rfl)) pa_nil)) (pe_one (pe_callX G_is_order (hr.mono (by decide)) (by rfl) (pa_cons (pe_ix (ix_tupK K rfl) (pv 0) (pe_int) (fun _ _ => rfl)) pa_nil))))))))), ?_⟩
  dsimp only [cxOf, List.map, List.replicate, List.cons_append, List.nil_append]
  apply st_guard
  case h =>
    repeat' walk_at "ev"
    exact ⟨_, _, _, rfl, rfl⟩
  case e =>
    have := hw.b
    simp [this]
  apply st_guard
  case h =>
    apply et_or
    case h1 => repeat' walk_at "ev"
    case h2 =>
      intro _
      apply et_or
      case h1 => repeat' walk_at "ev"
      case h2 =>
        intro _
        refine et_not (et_B (b := true) (ev_is (ev_cb (ea_cons (el_d (el_map (xs := w'.s) (enc := sideD) (fun x => PyData.bool ((fun _ => true) x)) (it_tup ?_) (by have := hw.n; omega) fun a ha => ⟨_, _, gd_name, by decide, ?_⟩)) ea_nil) cd_allM) ?_))
        · repeat' walk_at "ev"
        · repeat' walk_at "ev"
          exact ⟨a, hw.s a ha, rfl, rfl⟩
        · simp
  case e =>
    have := hw.n
    simp
    omega
  apply st_ret
  case h =>
    apply ev_andV
    case h1 =>
      refine ev_op (ev_call (ea_cons (el_d (el_map (xs := w'.s) (enc := sideD) (fun x => nD x.1) (it_tup ?_) (by have := hw.n; omega) fun a ha => ⟨_, _, gd_name, by decide, ?_⟩)) ea_nil) ⟨_, w'.counts, rfl, .inl ?_, ?_, rfl⟩) ev_int rd_B0
      · repeat' walk_at "ev"
      · repeat' walk_at "ev"
      · unfold Win.counts
        rw [List.map_map]
        rfl
      · intro n hn
        obtain ⟨x, hx, rfl⟩ := List.mem_map.mp hn
        exact (hw.s x hx).1
    case h2 =>
      intro _
      repeat' walk_at "ev"
      · exact ⟨_, hw.w, rfl, rfl⟩
      · exact ⟨_, rfl, rfl⟩
  case k =>
    have := hw.p
    simp
    omega
def R_need_window : List PD → PD → Prop := fun ds d => ∃ w : Win, IsWin w ∧ ds = [winD w] ∧ d = .none
abbrev FN_need_window (P : Program) (w : World) (K : PySem.W.Frag) (mg : Str → Option Value) (base : Heap) : Prop := FnX P w K mg base "need_window" ["thing"] 4 (spD K R_need_window)
theorem ok_need_window (T : Top K mg wa oa da) (F : TopF K mg "need_window" s_need_window ["thing"]) (G_is_window : FN_is_window P w K mg base) : FN_need_window P w K mg base := by
  refine fx_pure F sc_need_window (fun ds d h => by first | (obtain ⟨_, rfl, _⟩ := h; rfl) | (obtain ⟨_, _, rfl, _⟩ := h; rfl) | (obtain ⟨_, _, _, rfl, _⟩ := h; rfl) | (obtain ⟨_, _, _, _, rfl, _⟩ := h; rfl) | (obtain ⟨_, _, _, _, _, rfl, _⟩ := h; rfl) | (obtain ⟨_, _, _, _, _, _, rfl, _⟩ := h; rfl) | (obtain ⟨_, _, _, _, _, _, _, rfl, _⟩ := h; rfl) | (obtain ⟨_, _, _, _, _, _, _, _, rfl, _⟩ := h; rfl) | (obtain ⟨_, _, _, _, _, _, _, _, _, rfl, _⟩ := h; rfl) | (obtain ⟨_, _, _, _, _, _, _, _, _, _, rfl, _⟩ := h; rfl) | (obtain ⟨_, _, _, _, _, _, _, _, _, _, _, rfl, _⟩ := h; rfl) | (obtain ⟨_, _, _, _, _, _, _, _, _, _, _, _, rfl, _⟩ := h; rfl) | (obtain ⟨_, _, _, _, _, _, _, _, _, _, _, _, _, rfl, _⟩ := h; rfl) | (obtain ⟨_, _, _, _, _, _, _, _, _, _, _, _, _, _, rfl, _⟩ := h; rfl)) 0 rfl fun f cdv A outer s H E ds d hr h => ?_
  obtain ⟨w', hw, rfl, rfl⟩ := h
  refine ⟨_, (pss_one (ps_if (pt_not (pt_val (pe_callX G_is_window (hr.mono (by decide)) (by rfl) (pa_cons (pv 0) pa_nil))))
        (pss_one ps_never)
        pss_nil)), ?_⟩
  dsimp only [cxOf, List.map, List.replicate, List.cons_append, List.nil_append]
  apply st_one
  apply st_guard
  case h =>
    repeat' walk_at "ev"
    exact ⟨w', hw, rfl, rfl⟩
  case e => rfl
  exact st_next rfl
def R_counts_in : List PD → PD → Prop := fun ds d => ∃ w : Win, w.s.length ≤ 5 ∧ ds = [winD w] ∧ d = .tuple (w.counts.map nD)
abbrev FN_counts_in (P : Program) (w : World) (K : PySem.W.Frag) (mg : Str → Option Value) (base : Heap) : Prop := FnX P w K mg base "counts_in" ["window"] 1 (spD K R_counts_in)
theorem ok_counts_in (T : Top K mg wa oa da) (F : TopF K mg "counts_in" s_counts_in ["window"])  : FN_counts_in P w K mg base := by
  refine fx_pure F sc_counts_in (fun ds d h => by first | (obtain ⟨_, rfl, _⟩ := h; rfl) | (obtain ⟨_, _, rfl, _⟩ := h; rfl) | (obtain ⟨_, _, _, rfl, _⟩ := h; rfl) | (obtain ⟨_, _, _, _, rfl, _⟩ := h; rfl) | (obtain ⟨_, _, _, _, _, rfl, _⟩ := h; rfl) | (obtain ⟨_, _, _, _, _, _, rfl, _⟩ := h; rfl) | (obtain ⟨_, _, _, _, _, _, _, rfl, _⟩ := h; rfl) | (obtain ⟨_, _, _, _, _, _, _, _, rfl, _⟩ := h; rfl) | (obtain ⟨_, _, _, _, _, _, _, _, _, rfl, _⟩ := h; rfl) | (obtain ⟨_, _, _, _, _, _, _, _, _, _, rfl, _⟩ := h; rfl) | (obtain ⟨_, _, _, _, _, _, _, _, _, _, _, rfl, _⟩ := h; rfl) | (obtain ⟨_, _, _, _, _, _, _, _, _, _, _, _, rfl, _⟩ := h; rfl) | (obtain ⟨_, _, _, _, _, _, _, _, _, _, _, _, _, rfl, _⟩ := h; rfl) | (obtain ⟨_, _, _, _, _, _, _, _, _, _, _, _, _, _, rfl, _⟩ := h; rfl)) 2 rfl fun f cdv A outer s H E ds d hr h => ?_
  obtain ⟨w', hn, rfl, rfl⟩ := h
  refine ⟨_, (pss_one (ps_ret (pe_callTy (cr_tupleK K rfl) (by rfl) T.b.tuple (by decide +kernel) (pa_cons (pe_lc (own := [("count", 1), ("step", 2)]) (tt := tYes) rfl sc_counts_in.nd (pi_tupK K rfl (pe_ix (ix_tupK K rfl) (pv 0) (pe_int) (fun _ _ => rfl))) (blkOk_by (N := ["window", "count", "step"]) (sc := defScope s_counts_in) (by decide +kernel)) (fun _ _ _ _ _ => (pg_tupK K rfl (n := 2) rfl (pgs_cons (pg_name (i := 1) sc_counts_in.nd rfl (Or.inl rfl)) (pgs_cons (pg_name (i := 2) sc_counts_in.nd rfl (Or.inl rfl)) pgs_nil)))) (fun _ _ _ _ _ => pts_nil) (fun _ _ _ _ _ => (pv 1))) pa_nil)))), ?_⟩
  dsimp only [cxOf, List.map, List.replicate, List.cons_append, List.nil_append]
  refine' st_ret (ev_cb (ea_cons (el_d (el_map (xs := w'.s) (enc := sideD) (fun x => nD x.1) (it_tup ?_) (by omega) fun a ha => ⟨_, _, gd_tup (gds_cons gd_name (gds_cons gd_name gds_nil)), by decide, ?_⟩)) ea_nil) cd_tuple) ?_
  · repeat' walk_at "ev"
  · repeat' walk_at "ev"
  · unfold Win.counts
    rw [List.map_map]
    rfl
theorem mem_ints0 (l : List Nat) : (0 : Int) ∈ l.map (fun n : Nat => (n : Int)) ↔ 0 ∈ l := by
  constructor
  · intro h
    obtain ⟨n, hn, e⟩ := List.mem_map.mp h
    have : n = 0 := by omega
    rw [← this]
    exact hn
  · intro h
    exact List.mem_map.mpr ⟨0, h, rfl⟩
def R_places_in : List PD → PD → Prop := fun ds d => ∃ w : Win, IsWin w ∧ ds = [winD w] ∧ d = .list (w.places.map PyData.int)
abbrev FN_places_in (P : Program) (w : World) (K : PySem.W.Frag) (mg : Str → Option Value) (base : Heap) : Prop := FnX P w K mg base "places_in" ["window"] 2 (spD K R_places_in)
theorem ok_places_in (T : Top K mg wa oa da) (F : TopF K mg "places_in" s_places_in ["window"]) (G_counts_in : FN_counts_in P w K mg base) : FN_places_in P w K mg base := by
  refine fx_pure F sc_places_in (fun ds d h => by first | (obtain ⟨_, rfl, _⟩ := h; rfl) | (obtain ⟨_, _, rfl, _⟩ := h; rfl) | (obtain ⟨_, _, _, rfl, _⟩ := h; rfl) | (obtain ⟨_, _, _, _, rfl, _⟩ := h; rfl) | (obtain ⟨_, _, _, _, _, rfl, _⟩ := h; rfl) | (obtain ⟨_, _, _, _, _, _, rfl, _⟩ := h; rfl) | (obtain ⟨_, _, _, _, _, _, _, rfl, _⟩ := h; rfl) | (obtain ⟨_, _, _, _, _, _, _, _, rfl, _⟩ := h; rfl) | (obtain ⟨_, _, _, _, _, _, _, _, _, rfl, _⟩ := h; rfl) | (obtain ⟨_, _, _, _, _, _, _, _, _, _, rfl, _⟩ := h; rfl) | (obtain ⟨_, _, _, _, _, _, _, _, _, _, _, rfl, _⟩ := h; rfl) | (obtain ⟨_, _, _, _, _, _, _, _, _, _, _, _, rfl, _⟩ := h; rfl) | (obtain ⟨_, _, _, _, _, _, _, _, _, _, _, _, _, rfl, _⟩ := h; rfl) | (obtain ⟨_, _, _, _, _, _, _, _, _, _, _, _, _, _, rfl, _⟩ := h; rfl)) 6 rfl fun f cdv A outer s H E ds d hr h => ?_
  obtain ⟨w', hw, rfl, rfl⟩ := h
  refine ⟨_, (pss_cons (ps_set (i := 1) sc_places_in.nd rfl (Or.inl rfl) (pe_ifExp (pt_cmpR (op_ninK K rfl) (pe_int) (pe_callX G_counts_in (hr.mono (by decide)) (by rfl) (pa_cons (pv 0) pa_nil)) rfl) (pe_lst (pa_cons (pe_ix (ix_tupK K rfl) (pv 0) (pe_int) (fun _ _ => rfl)) pa_nil)) (pe_lst pa_nil)))
      (pss_cons (ps_for PassesOwn.never rfl (pi_tupK K rfl (pe_ix (ix_tupK K rfl) (pv 0) (pe_int) (fun _ _ => rfl))) (pg_tupK K rfl (n := 2) rfl (pgs_cons (pg_name (i := 2) sc_places_in.nd rfl (Or.inl rfl)) (pgs_cons (pg_name (i := 3) sc_places_in.nd rfl (Or.inr rfl)) pgs_nil)))
        (pss_cons (ps_set (i := 4) sc_places_in.nd rfl (Or.inl rfl) (pe_lst pa_nil))
        (pss_cons (ps_for PassesOwn.never rfl (pi_listK K rfl (pv 1)) (pg_name (i := 5) sc_places_in.nd rfl (Or.inr rfl))
          (pss_one (ps_expr (pe_bm PySem.F.plainAttrs_list PySem.F.slot_list_extend PySem.F.type_list_extend mt_extend (pv 4) (pa_cons (pe_lc (own := [("number", 6)]) (tt := tYes) rfl sc_places_in.nd (pi_range1 (by rfl) T.b.range (pa_cons (pv 2) pa_nil)) (blkOk_by (N := ["window", "found", "count", "step", "longer", "place", "number"]) (sc := defScope s_places_in) (by decide +kernel)) (fun _ _ _ _ _ => (pg_name (i := 6) sc_places_in.nd rfl (Or.inl rfl))) (fun _ _ _ _ _ => pts_nil) (fun _ _ _ _ _ => (pe_op op_add (pv 5) (pe_op op_mul (pv 6) (pv 3))))) pa_nil)))))
        (pss_one (ps_set (i := 1) sc_places_in.nd rfl (Or.inl rfl) (pv 4))))))
      (pss_one (ps_ret (pv 1))))), ?_⟩
  dsimp only [cxOf, List.map, List.replicate, List.cons_append, List.nil_append]
  have hnD : ∀ l : List Nat, l.map nD = (l.map fun n : Nat => (n : Int)).map PyData.int := fun l => by rw [List.map_map]; rfl
  refine st_set (d := .list (w'.start.map PyData.int)) (ev_if (b := !decide (0 ∈ w'.counts)) ?_ (fun hb => ?_) (fun hb => ?_)) ?_
  · refine et_is (et_test (ev_op ev_int (ev_call (ea_cons (ev_var rfl) ea_nil) ⟨w', hw.n, rfl, rfl⟩) (rd_ninI (ns := w'.counts.map fun n : Nat => (n : Int)) (.inr (by rw [hnD]))))) ?_
    congr 1
    exact decide_eq_decide.mpr (mem_ints0 _)
  · have h0 : 0 ∉ w'.counts := by simpa using hb
    apply ev_is
    case h => repeat' walk_at "ev"
    case q =>
      rw [Win.start, if_neg h0]
      rfl
  · have h0 : 0 ∈ w'.counts := by simpa using hb
    refine ev_is (ev_lst ea_nil) ?_
    rw [Win.start, if_pos h0]
    rfl
  refine st_forT (xs := w'.s) (enc := sideD) (fun i M' ρ' => M' = [] ∧ ∃ s2 s3 s4 s5 s6, ρ' = [Sl.val (winD w'), .val (.list ((placesFrom w'.start (w'.s.take i)).map PyData.int)), s2, s3, s4, s5, s6]) (it_tup ?_) ⟨rfl, _, _, _, _, _, rfl⟩ ?_ ?_
  · repeat' walk_at "ev"
  · rintro i hi M' ρ' ⟨rfl, s2, s3, s4, s5, s6, rfl⟩
    refine ⟨_, _, gd_tup (gds_cons gd_name (gds_cons gd_name gds_nil)), st_new fun p _ _ => ?_⟩
    have hb := hw.len_take (i + 1)
    rw [placesFrom_take _ _ _ hi] at hb
    refine st_forT (xs := placesFrom w'.start (w'.s.take i)) (enc := PyData.int) (fun j M' ρ' => M' = [(p, .lst ((((placesFrom w'.start (w'.s.take i)).take j).flatMap fun q => (List.range w'.s[i].1).map fun (n : Nat) => q + (n : Int) * w'.s[i].2).map PyData.int))] ∧
      ∃ s5 s6, ρ' = [Sl.val (winD w'), .val (.list ((placesFrom w'.start (w'.s.take i)).map PyData.int)), .val (.int (w'.s[i].1 : Int)), .val (.int w'.s[i].2), .ml p, s5, s6]) (it_list (ev_var rfl)) ⟨rfl, _, _, rfl⟩ ?_ ?_
    · rintro j hj M' ρ' ⟨rfl, s5, s6, rfl⟩
      refine ⟨_, _, gd_name, st_one (st_ext rfl (el_map (xs := List.range w'.s[i].1) (enc := fun n : Nat => PyData.int (0 + (n : Int))) (fun n : Nat => PyData.int ((placesFrom w'.start (w'.s.take i))[j] + (n : Int) * w'.s[i].2)) ?_ ?_ fun a ha => ⟨_, _, gd_name, by decide, ?_⟩) ?_ (st_next ⟨?_, _, _, rfl⟩))⟩
      · have := it_range1 (K := K) (Md := [(p, MO.lst ((((placesFrom w'.start (w'.s.take i)).take j).flatMap fun q => (List.range w'.s[i].1).map fun (n : Nat) => q + (n : Int) * w'.s[i].2).map PyData.int))]) (ρ := [Sl.val (winD w'), .val (.list ((placesFrom w'.start (w'.s.take i)).map PyData.int)), .val (.int (w'.s[i].1 : Int)), .val (.int w'.s[i].2), .ml p, .val (.int (placesFrom w'.start (w'.s.take i))[j]), s6]) (ta := tCons (tVar 2) tNil) (n := (w'.s[i].1 : Int)) (ea_cons (ev_var rfl) ea_nil) (by have := (hw.s _ (List.getElem_mem hi)).1; omega)
        exact this
      · rw [List.length_range]
        have := (hw.s _ (List.getElem_mem hi)).1
        omega
      · rw [show (PyData.int ((placesFrom w'.start (w'.s.take i))[j] + (a : Int) * w'.s[i].2)) = PyData.int ((placesFrom w'.start (w'.s.take i))[j] + (0 + (a : Int)) * w'.s[i].2) by rw [Int.zero_add]]
        repeat' walk_at "ev"
        have h1 := List.mem_range.mp ha
        have h2 := (hw.s _ (List.getElem_mem hi)).1
        refine .inl ⟨?_, ?_⟩ <;> omega
      · rw [List.length_map, List.length_map, List.length_range]
        have h1 := flatMap_len_take (l := placesFrom w'.start (w'.s.take i)) w'.s[i] j
        have h2 := (hw.s _ (List.getElem_mem hi)).1
        omega
      · rw [take_flatMap _ _ _ hj, List.map_append, List.map_map]
        rfl
    · rintro M' ρ' ⟨rfl, s5, s6, rfl⟩
      rw [List.take_length, ← placesFrom_take _ _ _ hi]
      exact st_freeze (i := 4) rfl (by simp) (st_one (st_set (ev_var rfl) (st_next ⟨rfl, _, _, _, _, _, rfl⟩)))
  · rintro M' ρ' ⟨rfl, s2, s3, s4, s5, s6, rfl⟩
    exact st_ret (ev_var rfl) (by rw [List.take_length, w'.places_start])
end
end K37

set_option Elab.async false
set_option linter.all false
set_option maxRecDepth 100000
set_option maxHeartbeats 4000000
namespace K37
open PySem PySem.Spec PyProof.Rows L2 RZ
local macro_rules | `(tactic| walk_at "ev") => `(tactic| first
  | with_reducible exact ev_int
  | with_reducible exact ev_str
  | with_reducible exact ev_bl
  | with_reducible exact ev_non
  | exact ev_var rfl
  | with_reducible exact ea_nil
  | with_reducible apply ea_cons
  | with_reducible apply ev_isiI
  | with_reducible apply ev_isiB
  | with_reducible apply ev_isiT
  | with_reducible apply ev_isiS
  | with_reducible apply ev_isiL
  | with_reducible apply ev_chain
  | with_reducible apply ev_andV
  | with_reducible apply ev_orV
  | with_reducible apply ev_notV
  | with_reducible apply ev_kdI
  | with_reducible apply ev_op
  | with_reducible apply ev_un
  | with_reducible exact rd_B0
  | with_reducible exact rd_I0
  | with_reducible apply rd_I
  | with_reducible exact ud_neg
  | with_reducible exact rd_eqI
  | with_reducible exact rd_neI
  | with_reducible exact rd_eqS
  | with_reducible exact rd_isN
  | exact rd_ixT rfl
  | exact rd_ixL rfl
  | with_reducible apply ev_call
  | with_reducible apply ev_cb
  | exact cd_len (.inl rfl)
  | exact cd_len (.inr rfl)
  | with_reducible exact cd_abs
  | with_reducible exact cd_max
  | with_reducible exact cd_min
  | with_reducible exact cd_intB
  | with_reducible exact cd_tuple
  | with_reducible exact cd_allM
  | with_reducible exact cd_sumM
  | with_reducible apply ev_tup
  | with_reducible apply ev_lst
  | with_reducible apply ev_sl
  | with_reducible exact sd_tup
  | with_reducible exact eo_none
  | with_reducible apply eo_some
  | with_reducible apply ev_revT
  | with_reducible apply et_not
  | with_reducible apply et_and
  | with_reducible apply et_or
  | with_reducible apply et_test
  | with_reducible apply et_B
  | with_reducible exact et_yes
  | with_reducible exact gd_name
  | with_reducible apply gd_tup
  | with_reducible apply gds_cons
  | with_reducible exact gds_nil
  | with_reducible (exact Nat.le_of_ble_eq_true rfl)
  | (with_reducible show (_ : List PD → PD → Prop) _ _); assumption
  | with_reducible (refine fun (_ : _ = true) => ?_)
  | with_reducible (refine fun (_ : _ = false) => ?_))
section
variable {P : Program} {w : World} {K : PySem.W.Frag} {mg : Str → Option Value} {base : Heap} {wa oa da : Addr}
def spanD (w : Win) : PD := if prodN w.counts = 0 then .none else .tuple [.int (w.b + w.neg), .int (w.b + w.pos + w.w)]
def R_span_in : List PD → PD → Prop := fun ds d => ∃ w : Win, IsWin w ∧ ds = [winD w] ∧ d = spanD w
abbrev FN_span_in (P : Program) (w : World) (K : PySem.W.Frag) (mg : Str → Option Value) (base : Heap) : Prop := FnX P w K mg base "span_in" ["window"] 2 (spD K R_span_in)
theorem ok_span_in (T : Top K mg wa oa da) (F : TopF K mg "span_in" s_span_in ["window"]) (G_many_by : FN_many_by P w K mg base) (G_counts_in : FN_counts_in P w K mg base) : FN_span_in P w K mg base := by
  refine fx_pure F sc_span_in (fun ds d h => by first | (obtain ⟨_, rfl, _⟩ := h; rfl) | (obtain ⟨_, _, rfl, _⟩ := h; rfl) | (obtain ⟨_, _, _, rfl, _⟩ := h; rfl) | (obtain ⟨_, _, _, _, rfl, _⟩ := h; rfl) | (obtain ⟨_, _, _, _, _, rfl, _⟩ := h; rfl) | (obtain ⟨_, _, _, _, _, _, rfl, _⟩ := h; rfl) | (obtain ⟨_, _, _, _, _, _, _, rfl, _⟩ := h; rfl) | (obtain ⟨_, _, _, _, _, _, _, _, rfl, _⟩ := h; rfl) | (obtain ⟨_, _, _, _, _, _, _, _, _, rfl, _⟩ := h; rfl) | (obtain ⟨_, _, _, _, _, _, _, _, _, _, rfl, _⟩ := h; rfl) | (obtain ⟨_, _, _, _, _, _, _, _, _, _, _, rfl, _⟩ := h; rfl) | (obtain ⟨_, _, _, _, _, _, _, _, _, _, _, _, rfl, _⟩ := h; rfl) | (obtain ⟨_, _, _, _, _, _, _, _, _, _, _, _, _, rfl, _⟩ := h; rfl) | (obtain ⟨_, _, _, _, _, _, _, _, _, _, _, _, _, _, rfl, _⟩ := h; rfl)) 5 rfl fun f cdv A outer s H E ds d hr h => ?_
  obtain ⟨w', hw, rfl, rfl⟩ := h
  refine ⟨_, (pss_cons (ps_if (pt_cmpR op_eq (pe_callX G_many_by (hr.mono (by decide)) (by rfl) (pa_cons (pe_callX G_counts_in (hr.mono (by decide)) (by rfl) (pa_cons (pv 0) pa_nil)) pa_nil)) (pe_int) (nomark _))
        (pss_one (ps_ret (pe_non)))
        pss_nil)
      (pss_cons (ps_setLc (i := 1) (own := [("count", 2), ("step", 3)]) (tt := tYes) rfl sc_span_in.nd rfl rfl (sw_true rfl rfl rfl (by decide +kernel)) (pi_tupK K rfl (pe_ix (ix_tupK K rfl) (pv 0) (pe_int) (fun _ _ => rfl))) (blkOk_by (N := ["window", "ways", "count", "step", "least", "way"]) (sc := defScope s_span_in) (by decide +kernel)) (fun _ _ _ _ _ => (pg_tupK K rfl (n := 2) rfl (pgs_cons (pg_name (i := 2) sc_span_in.nd rfl (Or.inl rfl)) (pgs_cons (pg_name (i := 3) sc_span_in.nd rfl (Or.inl rfl)) pgs_nil)))) (fun _ _ _ _ _ => pts_nil) (fun _ _ _ _ _ => (pe_op op_mul (pe_op op_sub (pv 2) (pe_int)) (pv 3))))
      (pss_cons (ps_set (i := 4) sc_span_in.nd rfl (Or.inl rfl) (pe_op op_add (pe_ix (ix_tupK K rfl) (pv 0) (pe_int) (fun _ _ => rfl)) (pe_callB (cr_sumK K rfl rfl) (by rfl) T.b.sum (by decide +kernel) (pa_cons (pe_lc (own := [("way", 5)]) rfl sc_span_in.nd (pi_listK K rfl (pv 1)) (blkOk_by (N := ["window", "ways", "count", "step", "least", "way"]) (sc := defScope s_span_in) (by decide +kernel)) (fun _ _ _ _ _ => (pg_name (i := 5) sc_span_in.nd rfl (Or.inl rfl))) (fun _ _ _ _ _ => (pts_one (pt_cmpR op_lt (pv 5) (pe_int) (nomark _)))) (fun _ _ _ _ _ => (pv 5))) pa_nil))))
      (pss_one (ps_ret (pe_tup (pa_cons (pv 4) (pa_cons (pe_op op_add (pe_op op_add (pe_ix (ix_tupK K rfl) (pv 0) (pe_int) (fun _ _ => rfl)) (pe_callB (cr_sumK K rfl rfl) (by rfl) T.b.sum (by decide +kernel) (pa_cons (pe_lc (own := [("way", 5)]) rfl sc_span_in.nd (pi_listK K rfl (pv 1)) (blkOk_by (N := ["window", "ways", "count", "step", "least", "way"]) (sc := defScope s_span_in) (by decide +kernel)) (fun _ _ _ _ _ => (pg_name (i := 5) sc_span_in.nd rfl (Or.inl rfl))) (fun _ _ _ _ _ => (pts_one (pt_cmpR op_gt (pv 5) (pe_int) (nomark _)))) (fun _ _ _ _ _ => (pv 5))) pa_nil))) (pe_ix (ix_tupK K rfl) (pv 0) (pe_int) (fun _ _ => rfl))) pa_nil)))))))), ?_⟩
  dsimp only [cxOf, List.map, List.replicate, List.cons_append, List.nil_append]
  have hc : ∀ n ∈ w'.counts, n ≤ 4096 := fun n hn => by
    obtain ⟨x, hx, rfl⟩ := List.mem_map.mp hn
    exact (hw.s x hx).1
  have c1 : R_counts_in [winD w'] (.tuple (w'.counts.map nD)) := ⟨w', hw.n, rfl, rfl⟩
  have c2 : R_many_by [.tuple (w'.counts.map nD)] (nD (prodN w'.counts)) := ⟨_, w'.counts, rfl, .inr rfl, hc, rfl⟩
  apply st_if
  case h => repeat' walk_at "ev"
  case h1 =>
    intro hb
    refine st_retS ev_non ?_
    have : prodN w'.counts = 0 := by simpa using hb
    rw [spanD, if_pos this]
  case h2 =>
    intro hb
    have h0 : prodN w'.counts ≠ 0 := by simpa using hb
    apply st_skip
    refine st_set (d := .list ((ways w'.s).map PyData.int)) (ev_is (el_d (el_map (xs := w'.s) (enc := sideD) (fun x => PyData.int (((x.1 : Int) - 1) * x.2)) (it_tup ?_) (by have := hw.n; omega) fun a ha => ⟨_, _, gd_tup (gds_cons gd_name (gds_cons gd_name gds_nil)), by decide, ?_⟩)) ?_) ?_
    · repeat' walk_at "ev"
    · repeat' walk_at "ev"
      have := (hw.s a ha).1
      refine .inl ⟨?_, ?_⟩ <;> omega
    · unfold ways
      rw [List.map_map]
      rfl
    have hl : (ways w'.s).length ≤ 100000 := by
      unfold ways
      rw [List.length_map]
      have := hw.n
      omega
    refine st_set (d := .int (w'.b + w'.neg)) (ev_op ?_ (ev_is (ev_cb (ea_cons (el_d (el_filt (xs := ways w'.s) (enc := PyData.int) (fun x => decide (x < 0)) (fun x => PyData.int (id x)) (it_list (ev_var rfl)) hl fun a ha => ⟨_, _, gd_name, by decide, ?_, fun _ => ?_⟩)) ea_nil) cd_sumM) ?_) rd_I0) ?_
    · repeat' walk_at "ev"
    · repeat' walk_at "ev"
    · repeat' walk_at "ev"
    · rw [List.map_id]
      rfl
    refine st_ret (d := .tuple [.int (w'.b + w'.neg), .int (w'.b + w'.pos + w'.w)]) (ev_tup (ea_cons (ev_var rfl) (ea_cons (ev_op (ev_op ?_ (ev_is (ev_cb (ea_cons (el_d (el_filt (xs := ways w'.s) (enc := PyData.int) (fun x => decide (0 < x)) (fun x => PyData.int (id x)) (it_list (ev_var rfl)) hl fun a ha => ⟨_, _, gd_name, by decide, ?_, fun _ => ?_⟩)) ea_nil) cd_sumM) ?_) rd_I0) ?_ rd_I0) ea_nil))) ?_
    · repeat' walk_at "ev"
    · repeat' walk_at "ev"
    · repeat' walk_at "ev"
    · rw [List.map_id]
      rfl
    · repeat' walk_at "ev"
    · rw [spanD, if_neg h0]
def R_fits_in : List PD → PD → Prop := fun ds d => ∃ (w : Win) (L : Nat), IsWin w ∧ ds = [winD w, nD L] ∧ d = .bool (decide (w.fits L))
abbrev FN_fits_in (P : Program) (w : World) (K : PySem.W.Frag) (mg : Str → Option Value) (base : Heap) : Prop := FnX P w K mg base "fits_in" ["window", "length"] 3 (spD K R_fits_in)
theorem ok_fits_in (T : Top K mg wa oa da) (F : TopF K mg "fits_in" s_fits_in ["window", "length"]) (G_span_in : FN_span_in P w K mg base) : FN_fits_in P w K mg base := by
  refine fx_pure F sc_fits_in (fun ds d h => by first | (obtain ⟨_, rfl, _⟩ := h; rfl) | (obtain ⟨_, _, rfl, _⟩ := h; rfl) | (obtain ⟨_, _, _, rfl, _⟩ := h; rfl) | (obtain ⟨_, _, _, _, rfl, _⟩ := h; rfl) | (obtain ⟨_, _, _, _, _, rfl, _⟩ := h; rfl) | (obtain ⟨_, _, _, _, _, _, rfl, _⟩ := h; rfl) | (obtain ⟨_, _, _, _, _, _, _, rfl, _⟩ := h; rfl) | (obtain ⟨_, _, _, _, _, _, _, _, rfl, _⟩ := h; rfl) | (obtain ⟨_, _, _, _, _, _, _, _, _, rfl, _⟩ := h; rfl) | (obtain ⟨_, _, _, _, _, _, _, _, _, _, rfl, _⟩ := h; rfl) | (obtain ⟨_, _, _, _, _, _, _, _, _, _, _, rfl, _⟩ := h; rfl) | (obtain ⟨_, _, _, _, _, _, _, _, _, _, _, _, rfl, _⟩ := h; rfl) | (obtain ⟨_, _, _, _, _, _, _, _, _, _, _, _, _, rfl, _⟩ := h; rfl) | (obtain ⟨_, _, _, _, _, _, _, _, _, _, _, _, _, _, rfl, _⟩ := h; rfl)) 1 rfl fun f cdv A outer s H E ds d hr h => ?_
  obtain ⟨w', L, hw, rfl, rfl⟩ := h
  refine ⟨_, (pss_cons (ps_set (i := 2) sc_fits_in.nd rfl (Or.inl rfl) (pe_callX G_span_in (hr.mono (by decide)) (by rfl) (pa_cons (pv 0) pa_nil)))
      (pss_one (ps_ret (pe_or (pe_cmpR op_isN' (pv 2) (pe_non) (nomark _)) (pe_one (pe_and (pe_cmpR op_le (pe_int) (pe_ix (ix_tupK K rfl) (pv 2) (pe_int) (fun _ _ => rfl)) (nomark _)) (pe_one (pe_cmpR op_le (pe_ix (ix_tupK K rfl) (pv 2) (pe_int) (fun _ _ => rfl)) (pv 1) (nomark _))))))))), ?_⟩
  dsimp only [cxOf, List.map, List.replicate, List.cons_append, List.nil_append]
  refine st_set (d := spanD w') (ev_call (ea_cons (ev_var rfl) ea_nil) ⟨w', hw, rfl, rfl⟩) ?_
  by_cases h0 : prodN w'.counts = 0
  · rw [spanD, if_pos h0]
    refine st_ret (d := .bool (noneD .none || false)) (ev_orV ?_ (fun h => by simp [noneD] at h)) ?_
    · repeat' walk_at "ev"
    · have : w'.fits L := .inl h0
      simp [this, noneD]
  · rw [spanD, if_neg h0]
    apply st_ret
    case h => repeat' walk_at "ev"
    case k =>
      show PyData.bool _ = _
      congr 1
      rw [Bool.eq_iff_iff]
      simp [Win.fits, h0, noneD]
def R_places : List PD → PD → Prop := fun ds d => ∃ w : Win, IsWin w ∧ ds = [winD w] ∧ d = .list (w.places.map PyData.int)
abbrev FN_places (P : Program) (w : World) (K : PySem.W.Frag) (mg : Str → Option Value) (base : Heap) : Prop := FnX P w K mg base "places" ["window"] 5 (spD K R_places)
theorem ok_places (T : Top K mg wa oa da) (F : TopF K mg "places" s_places ["window"]) (G_need_window : FN_need_window P w K mg base) (G_places_in : FN_places_in P w K mg base) : FN_places P w K mg base := by
  refine fx_pure F sc_places (fun ds d h => by first | (obtain ⟨_, rfl, _⟩ := h; rfl) | (obtain ⟨_, _, rfl, _⟩ := h; rfl) | (obtain ⟨_, _, _, rfl, _⟩ := h; rfl) | (obtain ⟨_, _, _, _, rfl, _⟩ := h; rfl) | (obtain ⟨_, _, _, _, _, rfl, _⟩ := h; rfl) | (obtain ⟨_, _, _, _, _, _, rfl, _⟩ := h; rfl) | (obtain ⟨_, _, _, _, _, _, _, rfl, _⟩ := h; rfl) | (obtain ⟨_, _, _, _, _, _, _, _, rfl, _⟩ := h; rfl) | (obtain ⟨_, _, _, _, _, _, _, _, _, rfl, _⟩ := h; rfl) | (obtain ⟨_, _, _, _, _, _, _, _, _, _, rfl, _⟩ := h; rfl) | (obtain ⟨_, _, _, _, _, _, _, _, _, _, _, rfl, _⟩ := h; rfl) | (obtain ⟨_, _, _, _, _, _, _, _, _, _, _, _, rfl, _⟩ := h; rfl) | (obtain ⟨_, _, _, _, _, _, _, _, _, _, _, _, _, rfl, _⟩ := h; rfl) | (obtain ⟨_, _, _, _, _, _, _, _, _, _, _, _, _, _, rfl, _⟩ := h; rfl)) 0 rfl fun f cdv A outer s H E ds d hr h => ?_
  obtain ⟨w', hw, rfl, rfl⟩ := h
  refine ⟨_, (pss_cons (ps_expr (pe_callX G_need_window (hr.mono (by decide)) (by rfl) (pa_cons (pv 0) pa_nil)))
      (pss_one (ps_ret (pe_callX G_places_in (hr.mono (by decide)) (by rfl) (pa_cons (pv 0) pa_nil))))), ?_⟩
  dsimp only [cxOf, List.map, List.replicate, List.cons_append, List.nil_append]
  refine st_drop (ev_call (ea_cons (ev_var rfl) ea_nil) ⟨w', hw, rfl, rfl⟩) ?_
  exact st_ret (ev_call (ea_cons (ev_var rfl) ea_nil) ⟨w', hw, rfl, rfl⟩) rfl
def R_need_cell : List PD → PD → Prop := fun ds d => ∃ (w : Win) (c : List Nat), IsWin w ∧ CellOk w c ∧ ds = [winD w, cellD c] ∧ d = .none
abbrev FN_need_cell (P : Program) (w : World) (K : PySem.W.Frag) (mg : Str → Option Value) (base : Heap) : Prop := FnX P w K mg base "need_cell" ["window", "thing"] 5 (spD K R_need_cell)
theorem ok_need_cell (T : Top K mg wa oa da) (F : TopF K mg "need_cell" s_need_cell ["window", "thing"]) (G_need_window : FN_need_window P w K mg base) (G_is_among : FN_is_among P w K mg base) : FN_need_cell P w K mg base := by
  refine fx_pure F sc_need_cell (fun ds d h => by first | (obtain ⟨_, rfl, _⟩ := h; rfl) | (obtain ⟨_, _, rfl, _⟩ := h; rfl) | (obtain ⟨_, _, _, rfl, _⟩ := h; rfl) | (obtain ⟨_, _, _, _, rfl, _⟩ := h; rfl) | (obtain ⟨_, _, _, _, _, rfl, _⟩ := h; rfl) | (obtain ⟨_, _, _, _, _, _, rfl, _⟩ := h; rfl) | (obtain ⟨_, _, _, _, _, _, _, rfl, _⟩ := h; rfl) | (obtain ⟨_, _, _, _, _, _, _, _, rfl, _⟩ := h; rfl) | (obtain ⟨_, _, _, _, _, _, _, _, _, rfl, _⟩ := h; rfl) | (obtain ⟨_, _, _, _, _, _, _, _, _, _, rfl, _⟩ := h; rfl) | (obtain ⟨_, _, _, _, _, _, _, _, _, _, _, rfl, _⟩ := h; rfl) | (obtain ⟨_, _, _, _, _, _, _, _, _, _, _, _, rfl, _⟩ := h; rfl) | (obtain ⟨_, _, _, _, _, _, _, _, _, _, _, _, _, rfl, _⟩ := h; rfl) | (obtain ⟨_, _, _, _, _, _, _, _, _, _, _, _, _, _, rfl, _⟩ := h; rfl)) 2 rfl fun f cdv A outer s H E ds d hr h => ?_
  obtain ⟨w', c, hw, hc, rfl, rfl⟩ := h
  refine ⟨_, (pss_cons (ps_expr (pe_callX G_need_window (hr.mono (by decide)) (by rfl) (pa_cons (pv 0) pa_nil)))
      (pss_cons (ps_if (PW.pt (pw_or (pt_not (pt_val (pe_callB (call_isiK' K rfl) (by rfl) T.b.isinstance (by decide +kernel) (pa_cons (pv 1) (pa_cons (pe_bltn (v := .ty "tuple") (by rfl) T.b.tuple (by decide +kernel) rfl) pa_nil))))) (pw_or1 (pt_cmpR op_ne (pe_callB (cr_lenK K rfl) (by rfl) T.b.len (by decide +kernel) (pa_cons (pv 1) pa_nil)) (pe_callB (cr_lenK K rfl) (by rfl) T.b.len (by decide +kernel) (pa_cons (pe_ix (ix_tupK K rfl) (pv 0) (pe_int) (fun _ _ => rfl)) pa_nil)) (nomark _)))))
        (pss_one ps_never)
        pss_nil)
      (pss_one (ps_if (pt_not (pt_val (pe_callB (cr_allK K rfl rfl) (by rfl) T.b.all (by decide +kernel) (pa_cons (pe_lc (own := [("number", 2), ("side", 3)]) (tt := tYes) rfl sc_need_cell.nd (pi_zipK K rfl (by rfl) T.b.zip (pa_cons (pv 1) (pa_cons (pe_ix (ix_tupK K rfl) (pv 0) (pe_int) (fun _ _ => rfl)) pa_nil))) (blkOk_by (N := ["window", "thing", "number", "side"]) (sc := defScope s_need_cell) (by decide +kernel)) (fun _ _ _ _ _ => (pg_tupK K rfl (n := 2) rfl (pgs_cons (pg_name (i := 2) sc_need_cell.nd rfl (Or.inl rfl)) (pgs_cons (pg_name (i := 3) sc_need_cell.nd rfl (Or.inl rfl)) pgs_nil)))) (fun _ _ _ _ _ => pts_nil) (fun _ _ _ _ _ => (pe_callX G_is_among (hr.mono (by decide)) (by rfl) (pa_cons (pv 2) (pa_cons (pe_int) (pa_cons (pe_op op_sub (pe_ix (ix_tupK K rfl) (pv 3) (pe_int) (fun _ _ => rfl)) (pe_int)) pa_nil)))))) pa_nil))))
        (pss_one ps_never)
        pss_nil)))), ?_⟩
  dsimp only [cxOf, List.map, List.replicate, List.cons_append, List.nil_append]
  refine st_drop (ev_call (ea_cons (ev_var rfl) ea_nil) ⟨w', hw, rfl, rfl⟩) ?_
  apply st_guard
  case h => repeat' walk_at "ev"
  case e =>
    have := hc.len
    simp [this]
  apply st_one
  refine st_guard (b := false) (et_is (et_not (et_B (ev_cb (ea_cons (el_d (el_map (xs := c.zip w'.s) (enc := fun p => PyData.tuple [nD p.1, sideD p.2]) (fun p => PyData.bool (decide ((0 : Int) ≤ (p.1 : Int)) && decide ((p.1 : Int) ≤ (p.2.1 : Int) - 1))) ?_ ?_ fun a ha => ⟨_, _, gd_tup (gds_cons gd_name (gds_cons gd_name gds_nil)), by decide, ?_⟩)) ea_nil) cd_allM))) ?_) rfl (st_next rfl)
  · rw [← zipD_map nD sideD]
    apply it_zipT
    repeat' walk_at "ev"
  · rw [List.length_zip]
    have := hw.n
    omega
  · repeat' walk_at "ev"
    exact ⟨_, _, _, rfl, rfl⟩
  · rw [Bool.not_eq_false', List.all_eq_true]
    intro p hp
    have := hc.lt p hp
    simp
    omega
def R_place_in : List PD → PD → Prop := fun ds d => ∃ (w : Win) (c : List Nat), IsWin w ∧ CellOk w c ∧ ds = [winD w, cellD c] ∧ d = .int (w.place c)
abbrev FN_place_in (P : Program) (w : World) (K : PySem.W.Frag) (mg : Str → Option Value) (base : Heap) : Prop := FnX P w K mg base "place_in" ["window", "cell"] 1 (spD K R_place_in)
theorem ok_place_in (T : Top K mg wa oa da) (F : TopF K mg "place_in" s_place_in ["window", "cell"])  : FN_place_in P w K mg base := by
  refine fx_pure F sc_place_in (fun ds d h => by first | (obtain ⟨_, rfl, _⟩ := h; rfl) | (obtain ⟨_, _, rfl, _⟩ := h; rfl) | (obtain ⟨_, _, _, rfl, _⟩ := h; rfl) | (obtain ⟨_, _, _, _, rfl, _⟩ := h; rfl) | (obtain ⟨_, _, _, _, _, rfl, _⟩ := h; rfl) | (obtain ⟨_, _, _, _, _, _, rfl, _⟩ := h; rfl) | (obtain ⟨_, _, _, _, _, _, _, rfl, _⟩ := h; rfl) | (obtain ⟨_, _, _, _, _, _, _, _, rfl, _⟩ := h; rfl) | (obtain ⟨_, _, _, _, _, _, _, _, _, rfl, _⟩ := h; rfl) | (obtain ⟨_, _, _, _, _, _, _, _, _, _, rfl, _⟩ := h; rfl) | (obtain ⟨_, _, _, _, _, _, _, _, _, _, _, rfl, _⟩ := h; rfl) | (obtain ⟨_, _, _, _, _, _, _, _, _, _, _, _, rfl, _⟩ := h; rfl) | (obtain ⟨_, _, _, _, _, _, _, _, _, _, _, _, _, rfl, _⟩ := h; rfl) | (obtain ⟨_, _, _, _, _, _, _, _, _, _, _, _, _, _, rfl, _⟩ := h; rfl)) 2 rfl fun f cdv A outer s H E ds d hr h => ?_
  obtain ⟨w', c, hw, hc, rfl, rfl⟩ := h
  refine ⟨_, (pss_one (ps_ret (pe_op op_add (pe_ix (ix_tupK K rfl) (pv 0) (pe_int) (fun _ _ => rfl)) (pe_callB (cr_sumK K rfl rfl) (by rfl) T.b.sum (by decide +kernel) (pa_cons (pe_lc (own := [("number", 2), ("side", 3)]) (tt := tYes) rfl sc_place_in.nd (pi_zipK K rfl (by rfl) T.b.zip (pa_cons (pv 1) (pa_cons (pe_ix (ix_tupK K rfl) (pv 0) (pe_int) (fun _ _ => rfl)) pa_nil))) (blkOk_by (N := ["window", "cell", "number", "side"]) (sc := defScope s_place_in) (by decide +kernel)) (fun _ _ _ _ _ => (pg_tupK K rfl (n := 2) rfl (pgs_cons (pg_name (i := 2) sc_place_in.nd rfl (Or.inl rfl)) (pgs_cons (pg_name (i := 3) sc_place_in.nd rfl (Or.inl rfl)) pgs_nil)))) (fun _ _ _ _ _ => pts_nil) (fun _ _ _ _ _ => (pe_op op_mul (pv 2) (pe_ix (ix_tupK K rfl) (pv 3) (pe_int) (fun _ _ => rfl))))) pa_nil))))), ?_⟩
  dsimp only [cxOf, List.map, List.replicate, List.cons_append, List.nil_append]
  refine st_ret (d := .int (w'.place c)) (ev_op ?_ (ev_cb (ea_cons (el_d (el_map (xs := c.zip w'.s) (enc := fun p => PyData.tuple [nD p.1, sideD p.2]) (fun p => PyData.int ((p.1 : Int) * p.2.2)) ?_ ?_ fun a ha => ⟨_, _, gd_tup (gds_cons gd_name (gds_cons gd_name gds_nil)), by decide, ?_⟩)) ea_nil) cd_sumM) rd_I0) rfl
  · repeat' walk_at "ev"
  · rw [← zipD_map nD sideD]
    apply it_zipT
    repeat' walk_at "ev"
  · rw [List.length_zip]
    have := hw.n
    omega
  · repeat' walk_at "ev"
    have h1 := hc.lt a ha
    have h2 := (hw.s a.2 (List.of_mem_zip ha).2).1
    refine .inl ⟨?_, ?_⟩ <;> omega
def R_cell_by : List PD → PD → Prop := fun ds d => ∃ (cs : List Nat) (n : Nat), (∀ c ∈ cs, 0 < c ∧ c ≤ 4096) ∧ cs.length ≤ 5 ∧ ds = [.tuple (cs.map nD), nD n] ∧ d = cellD (cellBy cs n)
abbrev FN_cell_by (P : Program) (w : World) (K : PySem.W.Frag) (mg : Str → Option Value) (base : Heap) : Prop := FnX P w K mg base "cell_by" ["counts", "number"] 1 (spD K R_cell_by)
theorem ok_cell_by (T : Top K mg wa oa da) (F : TopF K mg "cell_by" s_cell_by ["counts", "number"])  : FN_cell_by P w K mg base := by
  refine fx_pure F sc_cell_by (fun ds d h => by first | (obtain ⟨_, rfl, _⟩ := h; rfl) | (obtain ⟨_, _, rfl, _⟩ := h; rfl) | (obtain ⟨_, _, _, rfl, _⟩ := h; rfl) | (obtain ⟨_, _, _, _, rfl, _⟩ := h; rfl) | (obtain ⟨_, _, _, _, _, rfl, _⟩ := h; rfl) | (obtain ⟨_, _, _, _, _, _, rfl, _⟩ := h; rfl) | (obtain ⟨_, _, _, _, _, _, _, rfl, _⟩ := h; rfl) | (obtain ⟨_, _, _, _, _, _, _, _, rfl, _⟩ := h; rfl) | (obtain ⟨_, _, _, _, _, _, _, _, _, rfl, _⟩ := h; rfl) | (obtain ⟨_, _, _, _, _, _, _, _, _, _, rfl, _⟩ := h; rfl) | (obtain ⟨_, _, _, _, _, _, _, _, _, _, _, rfl, _⟩ := h; rfl) | (obtain ⟨_, _, _, _, _, _, _, _, _, _, _, _, rfl, _⟩ := h; rfl) | (obtain ⟨_, _, _, _, _, _, _, _, _, _, _, _, _, rfl, _⟩ := h; rfl) | (obtain ⟨_, _, _, _, _, _, _, _, _, _, _, _, _, _, rfl, _⟩ := h; rfl)) 2 rfl fun f cdv A outer s H E ds d hr h => ?_
  obtain ⟨cs, n, hc, hl, rfl, rfl⟩ := h
  refine ⟨_, (pss_cons (ps_set (i := 2) sc_cell_by.nd rfl (Or.inl rfl) (pe_lst pa_nil))
      (pss_cons (ps_for PassesOwn.never rfl (pi_tupK K rfl (pe_revTK K rfl (pv 0))) (pg_name (i := 3) sc_cell_by.nd rfl (Or.inl rfl))
        (pss_cons (ps_expr (pe_bm PySem.F.plainAttrs_list PySem.F.slot_list_append PySem.F.type_list_append mt_append (pv 2) (pa_cons (pe_op op_mod (pv 1) (pv 3)) pa_nil)))
        (pss_one (ps_set (i := 1) sc_cell_by.nd rfl (Or.inl rfl) (pe_op op_fdiv (pv 1) (pv 3))))))
      (pss_one (ps_ret (pe_callTy (cr_tupleK K rfl) (by rfl) T.b.tuple (by decide +kernel) (pa_cons (pe_revLK K rfl (pv 2)) pa_nil)))))), ?_⟩
  dsimp only [cxOf, List.map, List.replicate, List.cons_append, List.nil_append]
  refine st_new fun p _ _ => ?_
  refine st_forT (xs := cs.reverse) (enc := nD) (fun i M' ρ' => M' = [(p, .lst (((cs.reverse.take i).foldl cellStep ([], n)).1.map nD))] ∧ ∃ s, ρ' = [Sl.val (.tuple (cs.map nD)), .val (nD ((cs.reverse.take i).foldl cellStep ([], n)).2), .ml p, s]) ?_ ⟨rfl, _, rfl⟩ ?_ ?_
  · rw [List.map_reverse]
    exact it_tup (ev_revT (ev_var rfl))
  · rintro i hi M' ρ' ⟨rfl, s, rfl⟩
    have hci := hc _ (List.mem_reverse.mp (List.getElem_mem hi))
    refine ⟨_, _, gd_name, ?_⟩
    refine st_app (d := nD (((cs.reverse.take i).foldl cellStep ([], n)).2 % cs.reverse[i])) rfl (ev_is (ev_op (ev_var rfl) (ev_var rfl) (rd_I ?_)) ?_) ?_ ?_
    · show (0 : Int) < _
      omega
    · rfl
    · rw [List.length_map, cell_len]
      have h1 : (cs.reverse.take i).length ≤ cs.reverse.length := by rw [List.length_take]; omega
      rw [List.length_reverse] at h1
      show [].length + _ < _
      rw [List.length_nil]
      omega
    · refine st_one (st_set (d := nD (((cs.reverse.take i).foldl cellStep ([], n)).2 / cs.reverse[i])) (ev_is (ev_op (ev_var rfl) (ev_var rfl) (rd_I ?_)) ?_) (st_next ⟨?_, .val (nD cs.reverse[i]), ?_⟩))
      · show (0 : Int) < _ ∧ _ < _
        omega
      · rfl
      · rw [foldl_take_succ _ _ _ _ hi, cellStep, List.map_append]
        rfl
      · rw [foldl_take_succ _ _ _ _ hi]
        rfl
  · rintro M' ρ' ⟨rfl, s, rfl⟩
    rw [List.take_length]
    refine st_freeze (i := 2) rfl (by simp) ?_
    refine st_ret (ev_cb (ea_cons (el_d (el_revL (ev_var rfl))) ea_nil) cd_tuple) ?_
    rw [cellBy_eq, ← List.map_reverse]
def R_need_row : List PD → PD → Prop := fun ds d => ∃ r, IsRow r ∧ ds = [rowD r] ∧ d = .none
abbrev FN_need_row (P : Program) (w : World) (K : PySem.W.Frag) (mg : Str → Option Value) (base : Heap) : Prop := FnX P w K mg base "need_row" ["thing"] 3 (spD K R_need_row)
theorem ok_need_row (T : Top K mg wa oa da) (F : TopF K mg "need_row" s_need_row ["thing"]) (G_is_row : FN_is_row P w K mg base) : FN_need_row P w K mg base := by
  refine fx_pure F sc_need_row (fun ds d h => by first | (obtain ⟨_, rfl, _⟩ := h; rfl) | (obtain ⟨_, _, rfl, _⟩ := h; rfl) | (obtain ⟨_, _, _, rfl, _⟩ := h; rfl) | (obtain ⟨_, _, _, _, rfl, _⟩ := h; rfl) | (obtain ⟨_, _, _, _, _, rfl, _⟩ := h; rfl) | (obtain ⟨_, _, _, _, _, _, rfl, _⟩ := h; rfl) | (obtain ⟨_, _, _, _, _, _, _, rfl, _⟩ := h; rfl) | (obtain ⟨_, _, _, _, _, _, _, _, rfl, _⟩ := h; rfl) | (obtain ⟨_, _, _, _, _, _, _, _, _, rfl, _⟩ := h; rfl) | (obtain ⟨_, _, _, _, _, _, _, _, _, _, rfl, _⟩ := h; rfl) | (obtain ⟨_, _, _, _, _, _, _, _, _, _, _, rfl, _⟩ := h; rfl) | (obtain ⟨_, _, _, _, _, _, _, _, _, _, _, _, rfl, _⟩ := h; rfl) | (obtain ⟨_, _, _, _, _, _, _, _, _, _, _, _, _, rfl, _⟩ := h; rfl) | (obtain ⟨_, _, _, _, _, _, _, _, _, _, _, _, _, _, rfl, _⟩ := h; rfl)) 0 rfl fun f cdv A outer s H E ds d hr h => ?_
  obtain ⟨r, hr', rfl, rfl⟩ := h
  refine ⟨_, (pss_one (ps_if (pt_not (pt_val (pe_callX G_is_row (hr.mono (by decide)) (by rfl) (pa_cons (pv 0) pa_nil))))
        (pss_one ps_never)
        pss_nil)), ?_⟩
  dsimp only [cxOf, List.map, List.replicate, List.cons_append, List.nil_append]
  apply st_one
  apply st_guard
  case h =>
    repeat' walk_at "ev"
    exact ⟨r, hr', rfl, rfl⟩
  case e => rfl
  exact st_next rfl
def R_need_seen : List PD → PD → Prop := fun ds d => ∃ (r : List Int) (w : Win), IsRow r ∧ IsWin w ∧ w.fits r.length ∧ ds = [rowD r, winD w] ∧ d = .none
abbrev FN_need_seen (P : Program) (w : World) (K : PySem.W.Frag) (mg : Str → Option Value) (base : Heap) : Prop := FnX P w K mg base "need_seen" ["row", "window"] 5 (spD K R_need_seen)
theorem ok_need_seen (T : Top K mg wa oa da) (F : TopF K mg "need_seen" s_need_seen ["row", "window"]) (G_need_row : FN_need_row P w K mg base) (G_need_window : FN_need_window P w K mg base) (G_fits_in : FN_fits_in P w K mg base) : FN_need_seen P w K mg base := by
  refine fx_pure F sc_need_seen (fun ds d h => by first | (obtain ⟨_, rfl, _⟩ := h; rfl) | (obtain ⟨_, _, rfl, _⟩ := h; rfl) | (obtain ⟨_, _, _, rfl, _⟩ := h; rfl) | (obtain ⟨_, _, _, _, rfl, _⟩ := h; rfl) | (obtain ⟨_, _, _, _, _, rfl, _⟩ := h; rfl) | (obtain ⟨_, _, _, _, _, _, rfl, _⟩ := h; rfl) | (obtain ⟨_, _, _, _, _, _, _, rfl, _⟩ := h; rfl) | (obtain ⟨_, _, _, _, _, _, _, _, rfl, _⟩ := h; rfl) | (obtain ⟨_, _, _, _, _, _, _, _, _, rfl, _⟩ := h; rfl) | (obtain ⟨_, _, _, _, _, _, _, _, _, _, rfl, _⟩ := h; rfl) | (obtain ⟨_, _, _, _, _, _, _, _, _, _, _, rfl, _⟩ := h; rfl) | (obtain ⟨_, _, _, _, _, _, _, _, _, _, _, _, rfl, _⟩ := h; rfl) | (obtain ⟨_, _, _, _, _, _, _, _, _, _, _, _, _, rfl, _⟩ := h; rfl) | (obtain ⟨_, _, _, _, _, _, _, _, _, _, _, _, _, _, rfl, _⟩ := h; rfl)) 0 rfl fun f cdv A outer s H E ds d hr h => ?_
  obtain ⟨r, w', hr', hw, hf, rfl, rfl⟩ := h
  refine ⟨_, (pss_cons (ps_expr (pe_callX G_need_row (hr.mono (by decide)) (by rfl) (pa_cons (pv 0) pa_nil)))
      (pss_cons (ps_expr (pe_callX G_need_window (hr.mono (by decide)) (by rfl) (pa_cons (pv 1) pa_nil)))
      (pss_one (ps_if (pt_not (pt_val (pe_callX G_fits_in (hr.mono (by decide)) (by rfl) (pa_cons (pv 1) (pa_cons (pe_callB (cr_lenK K rfl) (by rfl) T.b.len (by decide +kernel) (pa_cons (pv 0) pa_nil)) pa_nil)))))
        (pss_one ps_never)
        pss_nil)))), ?_⟩
  dsimp only [cxOf, List.map, List.replicate, List.cons_append, List.nil_append]
  refine st_drop (ev_call (ea_cons (ev_var rfl) ea_nil) ⟨r, hr', rfl, rfl⟩) ?_
  refine st_drop (ev_call (ea_cons (ev_var rfl) ea_nil) ⟨w', hw, rfl, rfl⟩) ?_
  apply st_one
  refine st_guard (b := false) (et_is (et_not (et_B (ev_call (ea_cons (ev_var rfl) (ea_cons (ev_cb (ea_cons (ev_var rfl) ea_nil) (cd_len (.inr rfl))) ea_nil)) ⟨w', r.length, hw, ?_, rfl⟩))) ?_) rfl (st_next rfl)
  · rw [List.length_map]
  · simp [hf]
end
end K37

set_option Elab.async false
set_option linter.all false
set_option maxRecDepth 100000
set_option maxHeartbeats 4000000
namespace K37
open PySem PySem.Spec PyProof.Rows L2 RZ
local macro_rules | `(tactic| walk_at "ev") => `(tactic| first
  | with_reducible exact ev_int
  | with_reducible exact ev_str
  | with_reducible exact ev_bl
  | with_reducible exact ev_non
  | exact ev_var rfl
  | with_reducible exact ea_nil
  | with_reducible apply ea_cons
  | with_reducible apply ev_isiI
  | with_reducible apply ev_isiB
  | with_reducible apply ev_isiT
  | with_reducible apply ev_isiS
  | with_reducible apply ev_isiL
  | with_reducible apply ev_chain
  | with_reducible apply ev_andV
  | with_reducible apply ev_orV
  | with_reducible apply ev_notV
  | with_reducible apply ev_kdI
  | with_reducible apply ev_op
  | with_reducible apply ev_un
  | with_reducible exact rd_B0
  | with_reducible exact rd_I0
  | with_reducible apply rd_I
  | with_reducible exact ud_neg
  | with_reducible exact rd_eqI
  | with_reducible exact rd_neI
  | with_reducible exact rd_eqS
  | with_reducible exact rd_isN
  | exact rd_ixT rfl
  | exact rd_ixL rfl
  | with_reducible apply ev_call
  | with_reducible apply ev_cb
  | exact cd_len (.inl rfl)
  | exact cd_len (.inr rfl)
  | with_reducible exact cd_abs
  | with_reducible exact cd_max
  | with_reducible exact cd_min
  | with_reducible exact cd_intB
  | with_reducible exact cd_tuple
  | with_reducible exact cd_allM
  | with_reducible exact cd_sumM
  | with_reducible apply ev_tup
  | with_reducible apply ev_lst
  | with_reducible apply ev_sl
  | with_reducible exact sd_tup
  | with_reducible exact eo_none
  | with_reducible apply eo_some
  | with_reducible apply ev_revT
  | with_reducible apply et_not
  | with_reducible apply et_and
  | with_reducible apply et_or
  | with_reducible apply et_test
  | with_reducible apply et_B
  | with_reducible exact et_yes
  | with_reducible exact gd_name
  | with_reducible apply gd_tup
  | with_reducible apply gds_cons
  | with_reducible exact gds_nil
  | with_reducible (exact Nat.le_of_ble_eq_true rfl)
  | (with_reducible show (_ : List PD → PD → Prop) _ _); assumption
  | with_reducible (refine fun (_ : _ = true) => ?_)
  | with_reducible (refine fun (_ : _ = false) => ?_))
section
variable {P : Program} {w : World} {K : PySem.W.Frag} {mg : Str → Option Value} {base : Heap} {wa oa da : Addr}
theorem ordS_low (b : Bool) : decide (ordS b = "low") = b := by cases b <;> decide +kernel
/-- the digits so far -/
theorem wIs {w : Win} (h : IsWin w) : w.w ≤ 8 := by rcases h.w with h | h | h | h <;> omega
def R_word_in : List PD → PD → Prop := fun ds d => ∃ (r : List Int) (p : Nat) (w : Win), r.length ≤ 512 ∧ p ≤ 4096 ∧ w.w ≤ 8 ∧ ds = [rowD r, nD p, winD w] ∧ d = .int (wordIn r p w.w w.low)
abbrev FN_word_in (P : Program) (w : World) (K : PySem.W.Frag) (mg : Str → Option Value) (base : Heap) : Prop := FnX P w K mg base "word_in" ["row", "place", "window"] 1 (spD K R_word_in)
theorem ok_word_in (T : Top K mg wa oa da) (F : TopF K mg "word_in" s_word_in ["row", "place", "window"])  : FN_word_in P w K mg base := by
  refine fx_pure F sc_word_in (fun ds d h => by first | (obtain ⟨_, rfl, _⟩ := h; rfl) | (obtain ⟨_, _, rfl, _⟩ := h; rfl) | (obtain ⟨_, _, _, rfl, _⟩ := h; rfl) | (obtain ⟨_, _, _, _, rfl, _⟩ := h; rfl) | (obtain ⟨_, _, _, _, _, rfl, _⟩ := h; rfl) | (obtain ⟨_, _, _, _, _, _, rfl, _⟩ := h; rfl) | (obtain ⟨_, _, _, _, _, _, _, rfl, _⟩ := h; rfl) | (obtain ⟨_, _, _, _, _, _, _, _, rfl, _⟩ := h; rfl) | (obtain ⟨_, _, _, _, _, _, _, _, _, rfl, _⟩ := h; rfl) | (obtain ⟨_, _, _, _, _, _, _, _, _, _, rfl, _⟩ := h; rfl) | (obtain ⟨_, _, _, _, _, _, _, _, _, _, _, rfl, _⟩ := h; rfl) | (obtain ⟨_, _, _, _, _, _, _, _, _, _, _, _, rfl, _⟩ := h; rfl) | (obtain ⟨_, _, _, _, _, _, _, _, _, _, _, _, _, rfl, _⟩ := h; rfl) | (obtain ⟨_, _, _, _, _, _, _, _, _, _, _, _, _, _, rfl, _⟩ := h; rfl)) 3 rfl fun f cdv A outer s H E ds d hr h => ?_
  obtain ⟨r, p, w', hl, hp, hw, rfl, rfl⟩ := h
  refine ⟨_, (pss_cons (ps_set (i := 3) sc_word_in.nd rfl (Or.inl rfl) (pe_slice (sl_tupK K rfl) (pv 0) (po_some (pv 1)) (po_some (pe_op op_add (pv 1) (pe_ix (ix_tupK K rfl) (pv 2) (pe_int) (fun _ _ => rfl))))))
      (pss_cons (ps_set (i := 4) sc_word_in.nd rfl (Or.inl rfl) (pe_int))
      (pss_cons (ps_for PassesOwn.never rfl (pi_tupK K rfl (pe_ifExp (pt_cmpR op_eq (pe_ix (ix_tupK K rfl) (pv 2) (pe_int) (fun _ _ => rfl)) (pe_globV rfl T.low) (nomark _)) (pe_revTK K rfl (pv 3)) (pv 3))) (pg_name (i := 5) sc_word_in.nd rfl (Or.inl rfl))
        (pss_one (ps_set (i := 4) sc_word_in.nd rfl (Or.inl rfl) (pe_op op_add (pe_op op_mul (pv 4) (pe_globV rfl T.many_bytes)) (pv 5)))))
      (pss_one (ps_ret (pv 4)))))), ?_⟩
  dsimp only [cxOf, List.map, List.replicate, List.cons_append, List.nil_append]
  refine st_set (d := .tuple (((r.drop p).take w'.w).map PyData.int)) (ev_is (ev_sl (lo := some (p : Int)) (hi := some ((p : Int) + (w'.w : Int))) (ev_var rfl) (eo_some (ev_var rfl)) (eo_some (ev_op (ev_var rfl) ?_ rd_I0)) sd_tup) ?_) ?_
  · repeat' walk_at "ev"
  · rw [show (p : Int) + (w'.w : Int) = ((p + w'.w : Nat) : Int) by omega, cutP_mid, List.map_take, List.map_drop, Nat.add_sub_cancel_left]
  refine st_set ev_int ?_
  refine st_forT (xs := if w'.low then ((r.drop p).take w'.w).reverse else (r.drop p).take w'.w) (enc := PyData.int) (fun i M' ρ' => M' = [] ∧ ∃ s, ρ' = [Sl.val (rowD r), .val (nD p), .val (winD w'), .val (.tuple (((r.drop p).take w'.w).map PyData.int)),
    .val (.int (horner ((if w'.low then ((r.drop p).take w'.w).reverse else (r.drop p).take w'.w).take i))), s]) (it_tup (ev_if (b := w'.low) (et_is (et_test (ev_op ?_ ev_str rd_eqS)) (ordS_low _)) (fun hb => ?_) (fun hb => ?_))) ⟨rfl, _, rfl⟩ ?_ ?_
  · repeat' walk_at "ev"
  · rw [hb, if_pos rfl, List.map_reverse]
    exact ev_revT (ev_var rfl)
  · rw [hb, if_neg Bool.false_ne_true]
    exact ev_var rfl
  · generalize hx : (if w'.low then ((r.drop p).take w'.w).reverse else (r.drop p).take w'.w) = xs
    rintro i hi M' ρ' ⟨rfl, s, rfl⟩
    refine ⟨_, _, gd_name, st_one (st_set (d := .int (horner (xs.take (i + 1)))) (ev_is (ev_op (ev_op (ev_var rfl) ev_int (rd_I ?_)) (ev_var rfl) rd_I0) ?_) (st_next ⟨rfl, _, rfl⟩))⟩
    · exact .inr ⟨by decide, by decide⟩
    · unfold horner
      rw [foldl_take_succ _ _ _ _ hi]
  · rintro M' ρ' ⟨rfl, s, rfl⟩
    exact st_ret (ev_var rfl) (by rw [List.take_length]; rfl)
def R_bytes_of : List PD → PD → Prop := fun ds d => ∃ (x : Int) (w : Win), w.w ≤ 8 ∧ ds = [.int x, winD w] ∧ d = .tuple ((bytesOf x w.w w.low).map PyData.int)
abbrev FN_bytes_of (P : Program) (w : World) (K : PySem.W.Frag) (mg : Str → Option Value) (base : Heap) : Prop := FnX P w K mg base "bytes_of" ["word", "window"] 1 (spD K R_bytes_of)
theorem ok_bytes_of (T : Top K mg wa oa da) (F : TopF K mg "bytes_of" s_bytes_of ["word", "window"])  : FN_bytes_of P w K mg base := by
  refine fx_pure F sc_bytes_of (fun ds d h => by first | (obtain ⟨_, rfl, _⟩ := h; rfl) | (obtain ⟨_, _, rfl, _⟩ := h; rfl) | (obtain ⟨_, _, _, rfl, _⟩ := h; rfl) | (obtain ⟨_, _, _, _, rfl, _⟩ := h; rfl) | (obtain ⟨_, _, _, _, _, rfl, _⟩ := h; rfl) | (obtain ⟨_, _, _, _, _, _, rfl, _⟩ := h; rfl) | (obtain ⟨_, _, _, _, _, _, _, rfl, _⟩ := h; rfl) | (obtain ⟨_, _, _, _, _, _, _, _, rfl, _⟩ := h; rfl) | (obtain ⟨_, _, _, _, _, _, _, _, _, rfl, _⟩ := h; rfl) | (obtain ⟨_, _, _, _, _, _, _, _, _, _, rfl, _⟩ := h; rfl) | (obtain ⟨_, _, _, _, _, _, _, _, _, _, _, rfl, _⟩ := h; rfl) | (obtain ⟨_, _, _, _, _, _, _, _, _, _, _, _, rfl, _⟩ := h; rfl) | (obtain ⟨_, _, _, _, _, _, _, _, _, _, _, _, _, rfl, _⟩ := h; rfl) | (obtain ⟨_, _, _, _, _, _, _, _, _, _, _, _, _, _, rfl, _⟩ := h; rfl)) 2 rfl fun f cdv A outer s H E ds d hr h => ?_
  obtain ⟨x, w', hw, rfl, rfl⟩ := h
  refine ⟨_, (pss_cons (ps_set (i := 2) sc_bytes_of.nd rfl (Or.inl rfl) (pe_lst pa_nil))
      (pss_cons (ps_for PassesOwn.never rfl (pi_range1 (by rfl) T.b.range (pa_cons (pe_ix (ix_tupK K rfl) (pv 1) (pe_int) (fun _ _ => rfl)) pa_nil)) (pg_name (i := 3) sc_bytes_of.nd rfl (Or.inl rfl))
        (pss_cons (ps_expr (pe_bm PySem.F.plainAttrs_list PySem.F.slot_list_append PySem.F.type_list_append mt_append (pv 2) (pa_cons (pe_op op_mod (pv 0) (pe_globV rfl T.many_bytes)) pa_nil)))
        (pss_one (ps_set (i := 0) sc_bytes_of.nd rfl (Or.inl rfl) (pe_op op_fdiv (pv 0) (pe_globV rfl T.many_bytes))))))
      (pss_one (ps_ret (pe_callTy (cr_tupleK K rfl) (by rfl) T.b.tuple (by decide +kernel) (pa_cons (pe_ifExp (pt_cmpR op_eq (pe_ix (ix_tupK K rfl) (pv 1) (pe_int) (fun _ _ => rfl)) (pe_globV rfl T.low) (nomark _)) (pv 2) (pe_revLK K rfl (pv 2))) pa_nil)))))), ?_⟩
  dsimp only [cxOf, List.map, List.replicate, List.cons_append, List.nil_append]
  refine st_new fun p _ _ => ?_
  refine st_forT (xs := List.range w'.w) (enc := fun i : Nat => PyData.int (0 + (i : Int))) (fun i M' ρ' => M' = [(p, .lst ((digits x i).map PyData.int))] ∧ ∃ s, ρ' = [Sl.val (.int (x / 256 ^ i)), .val (winD w'), .ml p, s]) ?_ ⟨rfl, .no, ?_⟩ ?_ ?_
  · have := it_range1 (K := K) (Md := [(p, MO.lst [])]) (ρ := [Sl.val (.int x), .val (winD w'), .ml p, .no]) (ta := tCons (tOp (rIxT K) (tVar 1) (tC (.int 2))) tNil) (n := (w'.w : Int)) (by repeat' walk_at "ev") (by omega)
    exact this
  · rw [Int.pow_zero, Int.ediv_one]
    rfl
  · rintro i hi M' ρ' ⟨rfl, s, rfl⟩
    refine ⟨_, _, gd_name, ?_⟩
    refine st_app (d := .int (x / 256 ^ i % 256)) rfl (ev_op (ev_var rfl) ev_int (rd_I ?_)) ?_ ?_
    · show (0 : Int) < 256
      decide
    · rw [List.length_map]
      unfold digits
      rw [List.length_map, List.length_range]
      rw [List.length_range] at hi
      omega
    · refine st_one (st_set (d := .int (x / 256 ^ (i + 1))) (ev_is (ev_op (ev_var rfl) ev_int (rd_I ?_)) ?_) (st_next ⟨?_, .val (.int (0 + ((List.range w'.w)[i] : Int))), rfl⟩))
      · exact ⟨by decide, by decide⟩
      · rw [Int.pow_succ, Int.ediv_ediv_of_nonneg (Int.le_of_lt (Int.pow_pos (by decide)))]
      · unfold digits
        rw [List.range_succ, List.map_append, List.map_append]
        rfl
  · rintro M' ρ' ⟨rfl, s, rfl⟩
    rw [List.length_range]
    refine st_freeze (i := 2) rfl (by simp) ?_
    refine st_ret (ev_cb (ea_cons (ev_if (d := .list ((bytesOf x w'.w w'.low).map PyData.int)) (b := w'.low) (et_is (et_test (ev_op ?_ ev_str rd_eqS)) (ordS_low _)) (fun hb => ?_) (fun hb => ?_)) ea_nil) cd_tuple) rfl
    · repeat' walk_at "ev"
    · rw [bytesOf, hb, if_pos rfl]
      exact ev_var rfl
    · rw [bytesOf, hb, if_neg Bool.false_ne_true, List.map_reverse]
      exact el_d (el_revL (ev_var rfl))
theorem manyW_eq {n : Nat} (h : n = 1 ∨ n = 2 ∨ n = 4 ∨ n = 8) : manyW (n : Int) = some (256 ^ n) := by
  rcases h with rfl | rfl | rfl | rfl <;> decide
def R_fits_width : List PD → PD → Prop := fun ds d => ∃ (x : Int) (w : Win), IsWin w ∧ ds = [.int x, winD w] ∧ d = .bool (decide (0 ≤ x) && decide (x ≤ 256 ^ w.w - 1))
abbrev FN_fits_width (P : Program) (w : World) (K : PySem.W.Frag) (mg : Str → Option Value) (base : Heap) : Prop := FnX P w K mg base "fits_width" ["thing", "window"] 2 (spD K R_fits_width)
theorem ok_fits_width (T : Top K mg wa oa da) (F : TopF K mg "fits_width" s_fits_width ["thing", "window"]) (G_is_among : FN_is_among P w K mg base) : FN_fits_width P w K mg base := by
  refine fx_pure F sc_fits_width (fun ds d h => by first | (obtain ⟨_, rfl, _⟩ := h; rfl) | (obtain ⟨_, _, rfl, _⟩ := h; rfl) | (obtain ⟨_, _, _, rfl, _⟩ := h; rfl) | (obtain ⟨_, _, _, _, rfl, _⟩ := h; rfl) | (obtain ⟨_, _, _, _, _, rfl, _⟩ := h; rfl) | (obtain ⟨_, _, _, _, _, _, rfl, _⟩ := h; rfl) | (obtain ⟨_, _, _, _, _, _, _, rfl, _⟩ := h; rfl) | (obtain ⟨_, _, _, _, _, _, _, _, rfl, _⟩ := h; rfl) | (obtain ⟨_, _, _, _, _, _, _, _, _, rfl, _⟩ := h; rfl) | (obtain ⟨_, _, _, _, _, _, _, _, _, _, rfl, _⟩ := h; rfl) | (obtain ⟨_, _, _, _, _, _, _, _, _, _, _, rfl, _⟩ := h; rfl) | (obtain ⟨_, _, _, _, _, _, _, _, _, _, _, _, rfl, _⟩ := h; rfl) | (obtain ⟨_, _, _, _, _, _, _, _, _, _, _, _, _, rfl, _⟩ := h; rfl) | (obtain ⟨_, _, _, _, _, _, _, _, _, _, _, _, _, _, rfl, _⟩ := h; rfl)) 0 rfl fun f cdv A outer s H E ds d hr h => ?_
  obtain ⟨x, w', hw, rfl, rfl⟩ := h
  refine ⟨_, (pss_one (ps_ret (pe_callX G_is_among (hr.mono (by decide)) (by rfl) (pa_cons (pv 0) (pa_cons (pe_int) (pa_cons (pe_op op_sub (pe_ix (ix_kdI T.kd) (pe_globV rfl T.many_words) (pe_ix (ix_tupK K rfl) (pv 1) (pe_int) (fun _ _ => rfl)) (fun _ _ => rfl)) (pe_int)) pa_nil)))))), ?_⟩
  dsimp only [cxOf, List.map, List.replicate, List.cons_append, List.nil_append]
  refine st_ret (ev_call (ea_cons (ev_var rfl) (ea_cons ev_int (ea_cons (ev_op (ev_kdI ?_ (manyW_eq hw.w)) ev_int rd_I0) ea_nil))) ⟨_, _, _, rfl, rfl⟩) rfl
  repeat' walk_at "ev"
def R_with_word : List PD → PD → Prop := fun ds d => ∃ (r : List Int) (p : Nat) (x : Int) (w : Win), r.length ≤ 512 ∧ p ≤ 4096 ∧ w.w ≤ 8 ∧ ds = [rowD r, nD p, .int x, winD w] ∧ d = rowD (withWord r p x w.w w.low)
theorem digits_len (x : Int) (w : Nat) : (digits x w).length = w := by unfold digits; rw [List.length_map, List.length_range]
theorem bytesOf_len (x : Int) (w : Nat) (b : Bool) : (bytesOf x w b).length = w := by
  unfold bytesOf
  split
  · exact digits_len x w
  · rw [List.length_reverse]
    exact digits_len x w
abbrev FN_with_word (P : Program) (w : World) (K : PySem.W.Frag) (mg : Str → Option Value) (base : Heap) : Prop := FnX P w K mg base "with_word" ["row", "place", "word", "window"] 2 (spD K R_with_word)
theorem ok_with_word (T : Top K mg wa oa da) (F : TopF K mg "with_word" s_with_word ["row", "place", "word", "window"]) (G_bytes_of : FN_bytes_of P w K mg base) : FN_with_word P w K mg base := by
  refine fx_pure F sc_with_word (fun ds d h => by first | (obtain ⟨_, rfl, _⟩ := h; rfl) | (obtain ⟨_, _, rfl, _⟩ := h; rfl) | (obtain ⟨_, _, _, rfl, _⟩ := h; rfl) | (obtain ⟨_, _, _, _, rfl, _⟩ := h; rfl) | (obtain ⟨_, _, _, _, _, rfl, _⟩ := h; rfl) | (obtain ⟨_, _, _, _, _, _, rfl, _⟩ := h; rfl) | (obtain ⟨_, _, _, _, _, _, _, rfl, _⟩ := h; rfl) | (obtain ⟨_, _, _, _, _, _, _, _, rfl, _⟩ := h; rfl) | (obtain ⟨_, _, _, _, _, _, _, _, _, rfl, _⟩ := h; rfl) | (obtain ⟨_, _, _, _, _, _, _, _, _, _, rfl, _⟩ := h; rfl) | (obtain ⟨_, _, _, _, _, _, _, _, _, _, _, rfl, _⟩ := h; rfl) | (obtain ⟨_, _, _, _, _, _, _, _, _, _, _, _, rfl, _⟩ := h; rfl) | (obtain ⟨_, _, _, _, _, _, _, _, _, _, _, _, _, rfl, _⟩ := h; rfl) | (obtain ⟨_, _, _, _, _, _, _, _, _, _, _, _, _, _, rfl, _⟩ := h; rfl)) 0 rfl fun f cdv A outer s H E ds d hr h => ?_
  obtain ⟨r, p, x, w', hl, hp, hw, rfl, rfl⟩ := h
  refine ⟨_, (pss_one (ps_ret (pe_op (op_catK K rfl) (pe_op (op_catK K rfl) (pe_slice (sl_tupK K rfl) (pv 0) po_none (po_some (pv 1))) (pe_callX G_bytes_of (hr.mono (by decide)) (by rfl) (pa_cons (pv 2) (pa_cons (pv 3) pa_nil)))) (pe_slice (sl_tupK K rfl) (pv 0) (po_some (pe_op op_add (pv 1) (pe_ix (ix_tupK K rfl) (pv 3) (pe_int) (fun _ _ => rfl)))) po_none)))), ?_⟩
  dsimp only [cxOf, List.map, List.replicate, List.cons_append, List.nil_append]
  refine st_ret (ev_op (ev_op (ev_sl (lo := none) (hi := some (p : Int)) (ev_var rfl) eo_none (eo_some (ev_var rfl)) sd_tup) (ev_call (ea_cons (ev_var rfl) (ea_cons (ev_var rfl) ea_nil)) ⟨x, w', hw, rfl, rfl⟩) (rd_catT ?_))
    (ev_sl (lo := some ((p : Int) + (w'.w : Int))) (hi := none) (ev_var rfl) (eo_some (ev_op (ev_var rfl) ?_ rd_I0)) eo_none sd_tup) (rd_catT ?_)) ?_
  · rw [cutP_to, List.length_take, List.length_map, List.length_map, bytesOf_len]
    omega
  · repeat' walk_at "ev"
  · rw [cutP_to, show (p : Int) + (w'.w : Int) = ((p + w'.w : Nat) : Int) by omega, cutP_from, List.length_append, List.length_take, List.length_drop, List.length_map, List.length_map, bytesOf_len]
    omega
  · rw [cutP_to, show (p : Int) + (w'.w : Int) = ((p + w'.w : Nat) : Int) by omega, cutP_from, rowD, withWord, List.map_append, List.map_append, List.map_take, List.map_drop]
theorem fitsW {w : Win} {L : Nat} (h : w.fits L) {p : Int} (hp : p ∈ w.places) (hl : L ≤ 512) : 0 ≤ p ∧ p.toNat ≤ 4096 ∧ ((p.toNat : Nat) : Int) = p ∧ p.toNat + w.w ≤ L := by
  have := w.fits_place h hp
  omega
def R_words_in : List PD → PD → Prop := fun ds d => ∃ (r : List Int) (w : Win), IsRow r ∧ IsWin w ∧ w.fits r.length ∧ ds = [rowD r, winD w] ∧ d = .list ((w.words r).map PyData.int)
abbrev FN_words_in (P : Program) (w : World) (K : PySem.W.Frag) (mg : Str → Option Value) (base : Heap) : Prop := FnX P w K mg base "words_in" ["row", "window"] 3 (spD K R_words_in)
theorem ok_words_in (T : Top K mg wa oa da) (F : TopF K mg "words_in" s_words_in ["row", "window"]) (G_word_in : FN_word_in P w K mg base) (G_places_in : FN_places_in P w K mg base) : FN_words_in P w K mg base := by
  refine fx_pure F sc_words_in (fun ds d h => by first | (obtain ⟨_, rfl, _⟩ := h; rfl) | (obtain ⟨_, _, rfl, _⟩ := h; rfl) | (obtain ⟨_, _, _, rfl, _⟩ := h; rfl) | (obtain ⟨_, _, _, _, rfl, _⟩ := h; rfl) | (obtain ⟨_, _, _, _, _, rfl, _⟩ := h; rfl) | (obtain ⟨_, _, _, _, _, _, rfl, _⟩ := h; rfl) | (obtain ⟨_, _, _, _, _, _, _, rfl, _⟩ := h; rfl) | (obtain ⟨_, _, _, _, _, _, _, _, rfl, _⟩ := h; rfl) | (obtain ⟨_, _, _, _, _, _, _, _, _, rfl, _⟩ := h; rfl) | (obtain ⟨_, _, _, _, _, _, _, _, _, _, rfl, _⟩ := h; rfl) | (obtain ⟨_, _, _, _, _, _, _, _, _, _, _, rfl, _⟩ := h; rfl) | (obtain ⟨_, _, _, _, _, _, _, _, _, _, _, _, rfl, _⟩ := h; rfl) | (obtain ⟨_, _, _, _, _, _, _, _, _, _, _, _, _, rfl, _⟩ := h; rfl) | (obtain ⟨_, _, _, _, _, _, _, _, _, _, _, _, _, _, rfl, _⟩ := h; rfl)) 1 rfl fun f cdv A outer s H E ds d hr h => ?_
  obtain ⟨r, w', hr', hw, hf, rfl, rfl⟩ := h
  refine ⟨_, (pss_one (ps_ret (pe_lc (own := [("place", 2)]) (tt := tYes) rfl sc_words_in.nd (pi_listK K rfl (pe_callX G_places_in (hr.mono (by decide)) (by rfl) (pa_cons (pv 1) pa_nil))) (blkOk_by (N := ["row", "window", "place"]) (sc := defScope s_words_in) (by decide +kernel)) (fun _ _ _ _ _ => (pg_name (i := 2) sc_words_in.nd rfl (Or.inl rfl))) (fun _ _ _ _ _ => pts_nil) (fun _ _ _ _ _ => (pe_callX G_word_in (hr.mono (by decide)) (by rfl) (pa_cons (pv 0) (pa_cons (pv 2) (pa_cons (pv 1) pa_nil)))))))), ?_⟩
  dsimp only [cxOf, List.map, List.replicate, List.cons_append, List.nil_append]
  refine st_ret (el_d (el_map (xs := w'.places) (enc := PyData.int) (fun p => PyData.int (wordIn r p.toNat w'.w w'.low)) (it_list (ev_call (ea_cons (ev_var rfl) ea_nil) ⟨w', hw, rfl, rfl⟩)) (by have := hw.len; omega) fun a ha => ⟨_, _, gd_name, by decide, ?_⟩)) ?_
  · obtain ⟨h0, h1, h2, h3⟩ := fitsW hf ha hr'.len
    refine ev_call (ea_cons (ev_var rfl) (ea_cons (ev_var rfl) (ea_cons (ev_var rfl) ea_nil))) ⟨r, a.toNat, w', hr'.len, h1, wIs hw, ?_, rfl⟩
    rw [nD, h2]
  · unfold Win.words
    rw [List.map_map]
    rfl
def R_word_at : List PD → PD → Prop := fun ds d => ∃ (r : List Int) (w : Win) (c : List Nat), IsRow r ∧ IsWin w ∧ w.fits r.length ∧ CellOk w c ∧ 0 ≤ w.place c ∧ w.place c ≤ 512 ∧ ds = [rowD r, winD w, cellD c] ∧ d = .int (wordIn r (w.place c).toNat w.w w.low)
abbrev FN_word_at (P : Program) (w : World) (K : PySem.W.Frag) (mg : Str → Option Value) (base : Heap) : Prop := FnX P w K mg base "word_at" ["row", "window", "cell"] 6 (spD K R_word_at)
theorem ok_word_at (T : Top K mg wa oa da) (F : TopF K mg "word_at" s_word_at ["row", "window", "cell"]) (G_need_seen : FN_need_seen P w K mg base) (G_need_cell : FN_need_cell P w K mg base) (G_word_in : FN_word_in P w K mg base) (G_place_in : FN_place_in P w K mg base) : FN_word_at P w K mg base := by
  refine fx_pure F sc_word_at (fun ds d h => by first | (obtain ⟨_, rfl, _⟩ := h; rfl) | (obtain ⟨_, _, rfl, _⟩ := h; rfl) | (obtain ⟨_, _, _, rfl, _⟩ := h; rfl) | (obtain ⟨_, _, _, _, rfl, _⟩ := h; rfl) | (obtain ⟨_, _, _, _, _, rfl, _⟩ := h; rfl) | (obtain ⟨_, _, _, _, _, _, rfl, _⟩ := h; rfl) | (obtain ⟨_, _, _, _, _, _, _, rfl, _⟩ := h; rfl) | (obtain ⟨_, _, _, _, _, _, _, _, rfl, _⟩ := h; rfl) | (obtain ⟨_, _, _, _, _, _, _, _, _, rfl, _⟩ := h; rfl) | (obtain ⟨_, _, _, _, _, _, _, _, _, _, rfl, _⟩ := h; rfl) | (obtain ⟨_, _, _, _, _, _, _, _, _, _, _, rfl, _⟩ := h; rfl) | (obtain ⟨_, _, _, _, _, _, _, _, _, _, _, _, rfl, _⟩ := h; rfl) | (obtain ⟨_, _, _, _, _, _, _, _, _, _, _, _, _, rfl, _⟩ := h; rfl) | (obtain ⟨_, _, _, _, _, _, _, _, _, _, _, _, _, _, rfl, _⟩ := h; rfl)) 0 rfl fun f cdv A outer s H E ds d hr h => ?_
  obtain ⟨r, w', c, hr', hw, hf, hc, hp0, hp1, rfl, rfl⟩ := h
  refine ⟨_, (pss_cons (ps_expr (pe_callX G_need_seen (hr.mono (by decide)) (by rfl) (pa_cons (pv 0) (pa_cons (pv 1) pa_nil))))
      (pss_cons (ps_expr (pe_callX G_need_cell (hr.mono (by decide)) (by rfl) (pa_cons (pv 1) (pa_cons (pv 2) pa_nil))))
      (pss_one (ps_ret (pe_callX G_word_in (hr.mono (by decide)) (by rfl) (pa_cons (pv 0) (pa_cons (pe_callX G_place_in (hr.mono (by decide)) (by rfl) (pa_cons (pv 1) (pa_cons (pv 2) pa_nil))) (pa_cons (pv 1) pa_nil)))))))), ?_⟩
  dsimp only [cxOf, List.map, List.replicate, List.cons_append, List.nil_append]
  refine st_drop (ev_call (ea_cons (ev_var rfl) (ea_cons (ev_var rfl) ea_nil)) ⟨r, w', hr', hw, hf, rfl, rfl⟩) ?_
  refine st_drop (ev_call (ea_cons (ev_var rfl) (ea_cons (ev_var rfl) ea_nil)) ⟨w', c, hw, hc, rfl, rfl⟩) ?_
  refine st_ret (ev_call (ea_cons (ev_var rfl) (ea_cons (ev_call (ea_cons (ev_var rfl) (ea_cons (ev_var rfl) ea_nil)) ⟨w', c, hw, hc, rfl, rfl⟩) (ea_cons (ev_var rfl) ea_nil))) ⟨r, (w'.place c).toNat, w', hr'.len, by omega, wIs hw, ?_, rfl⟩) rfl
  rw [nD, show (((w'.place c).toNat : Nat) : Int) = w'.place c by omega]
def R_words_of : List PD → PD → Prop := fun ds d => ∃ (r : List Int) (w : Win), IsRow r ∧ IsWin w ∧ w.fits r.length ∧ ds = [rowD r, winD w] ∧ d = .list ((w.words r).map PyData.int)
abbrev FN_words_of (P : Program) (w : World) (K : PySem.W.Frag) (mg : Str → Option Value) (base : Heap) : Prop := FnX P w K mg base "words_of" ["row", "window"] 6 (spD K R_words_of)
theorem ok_words_of (T : Top K mg wa oa da) (F : TopF K mg "words_of" s_words_of ["row", "window"]) (G_need_seen : FN_need_seen P w K mg base) (G_words_in : FN_words_in P w K mg base) : FN_words_of P w K mg base := by
  refine fx_pure F sc_words_of (fun ds d h => by first | (obtain ⟨_, rfl, _⟩ := h; rfl) | (obtain ⟨_, _, rfl, _⟩ := h; rfl) | (obtain ⟨_, _, _, rfl, _⟩ := h; rfl) | (obtain ⟨_, _, _, _, rfl, _⟩ := h; rfl) | (obtain ⟨_, _, _, _, _, rfl, _⟩ := h; rfl) | (obtain ⟨_, _, _, _, _, _, rfl, _⟩ := h; rfl) | (obtain ⟨_, _, _, _, _, _, _, rfl, _⟩ := h; rfl) | (obtain ⟨_, _, _, _, _, _, _, _, rfl, _⟩ := h; rfl) | (obtain ⟨_, _, _, _, _, _, _, _, _, rfl, _⟩ := h; rfl) | (obtain ⟨_, _, _, _, _, _, _, _, _, _, rfl, _⟩ := h; rfl) | (obtain ⟨_, _, _, _, _, _, _, _, _, _, _, rfl, _⟩ := h; rfl) | (obtain ⟨_, _, _, _, _, _, _, _, _, _, _, _, rfl, _⟩ := h; rfl) | (obtain ⟨_, _, _, _, _, _, _, _, _, _, _, _, _, rfl, _⟩ := h; rfl) | (obtain ⟨_, _, _, _, _, _, _, _, _, _, _, _, _, _, rfl, _⟩ := h; rfl)) 0 rfl fun f cdv A outer s H E ds d hr h => ?_
  obtain ⟨r, w', hr', hw, hf, rfl, rfl⟩ := h
  refine ⟨_, (pss_cons (ps_expr (pe_callX G_need_seen (hr.mono (by decide)) (by rfl) (pa_cons (pv 0) (pa_cons (pv 1) pa_nil))))
      (pss_one (ps_ret (pe_callX G_words_in (hr.mono (by decide)) (by rfl) (pa_cons (pv 0) (pa_cons (pv 1) pa_nil)))))), ?_⟩
  dsimp only [cxOf, List.map, List.replicate, List.cons_append, List.nil_append]
  refine st_drop (ev_call (ea_cons (ev_var rfl) (ea_cons (ev_var rfl) ea_nil)) ⟨r, w', hr', hw, hf, rfl, rfl⟩) ?_
  exact st_ret (ev_call (ea_cons (ev_var rfl) (ea_cons (ev_var rfl) ea_nil)) ⟨r, w', hr', hw, hf, rfl, rfl⟩) rfl
def R_written : List PD → PD → Prop := fun ds d => ∃ (r : List Int) (w : Win) (c : List Nat) (x : Int), IsRow r ∧ IsWin w ∧ w.fits r.length ∧ CellOk w c ∧ 0 ≤ w.place c ∧ w.place c ≤ 512 ∧ 0 ≤ x ∧ x < 256 ^ w.w ∧ ds = [rowD r, winD w, cellD c, .int x] ∧ d = rowD (withWord r (w.place c).toNat x w.w w.low)
abbrev FN_written (P : Program) (w : World) (K : PySem.W.Frag) (mg : Str → Option Value) (base : Heap) : Prop := FnX P w K mg base "written" ["row", "window", "cell", "word"] 6 (spD K R_written)
theorem ok_written (T : Top K mg wa oa da) (F : TopF K mg "written" s_written ["row", "window", "cell", "word"]) (G_need_seen : FN_need_seen P w K mg base) (G_need_cell : FN_need_cell P w K mg base) (G_with_word : FN_with_word P w K mg base) (G_fits_width : FN_fits_width P w K mg base) (G_place_in : FN_place_in P w K mg base) : FN_written P w K mg base := by
  refine fx_pure F sc_written (fun ds d h => by first | (obtain ⟨_, rfl, _⟩ := h; rfl) | (obtain ⟨_, _, rfl, _⟩ := h; rfl) | (obtain ⟨_, _, _, rfl, _⟩ := h; rfl) | (obtain ⟨_, _, _, _, rfl, _⟩ := h; rfl) | (obtain ⟨_, _, _, _, _, rfl, _⟩ := h; rfl) | (obtain ⟨_, _, _, _, _, _, rfl, _⟩ := h; rfl) | (obtain ⟨_, _, _, _, _, _, _, rfl, _⟩ := h; rfl) | (obtain ⟨_, _, _, _, _, _, _, _, rfl, _⟩ := h; rfl) | (obtain ⟨_, _, _, _, _, _, _, _, _, rfl, _⟩ := h; rfl) | (obtain ⟨_, _, _, _, _, _, _, _, _, _, rfl, _⟩ := h; rfl) | (obtain ⟨_, _, _, _, _, _, _, _, _, _, _, rfl, _⟩ := h; rfl) | (obtain ⟨_, _, _, _, _, _, _, _, _, _, _, _, rfl, _⟩ := h; rfl) | (obtain ⟨_, _, _, _, _, _, _, _, _, _, _, _, _, rfl, _⟩ := h; rfl) | (obtain ⟨_, _, _, _, _, _, _, _, _, _, _, _, _, _, rfl, _⟩ := h; rfl)) 0 rfl fun f cdv A outer s H E ds d hr h => ?_
  obtain ⟨r, w', c, x, hr', hw, hf, hc, hp0, hp1, hx0, hx1, rfl, rfl⟩ := h
  refine ⟨_, (pss_cons (ps_expr (pe_callX G_need_seen (hr.mono (by decide)) (by rfl) (pa_cons (pv 0) (pa_cons (pv 1) pa_nil))))
      (pss_cons (ps_expr (pe_callX G_need_cell (hr.mono (by decide)) (by rfl) (pa_cons (pv 1) (pa_cons (pv 2) pa_nil))))
      (pss_cons (ps_if (pt_not (pt_val (pe_callX G_fits_width (hr.mono (by decide)) (by rfl) (pa_cons (pv 3) (pa_cons (pv 1) pa_nil)))))
        (pss_one ps_never)
        pss_nil)
      (pss_one (ps_ret (pe_callX G_with_word (hr.mono (by decide)) (by rfl) (pa_cons (pv 0) (pa_cons (pe_callX G_place_in (hr.mono (by decide)) (by rfl) (pa_cons (pv 1) (pa_cons (pv 2) pa_nil))) (pa_cons (pv 3) (pa_cons (pv 1) pa_nil)))))))))), ?_⟩
  dsimp only [cxOf, List.map, List.replicate, List.cons_append, List.nil_append]
  refine st_drop (ev_call (ea_cons (ev_var rfl) (ea_cons (ev_var rfl) ea_nil)) ⟨r, w', hr', hw, hf, rfl, rfl⟩) ?_
  refine st_drop (ev_call (ea_cons (ev_var rfl) (ea_cons (ev_var rfl) ea_nil)) ⟨w', c, hw, hc, rfl, rfl⟩) ?_
  refine st_guard (et_not (et_B (ev_call (ea_cons (ev_var rfl) (ea_cons (ev_var rfl) ea_nil)) ⟨x, w', hw, rfl, rfl⟩))) ?_ ?_
  · have h1 : x ≤ 256 ^ w'.w - 1 := by omega
    simp [hx0, h1]
  · refine st_ret (ev_call (ea_cons (ev_var rfl) (ea_cons (ev_call (ea_cons (ev_var rfl) (ea_cons (ev_var rfl) ea_nil)) ⟨w', c, hw, hc, rfl, rfl⟩) (ea_cons (ev_var rfl) (ea_cons (ev_var rfl) ea_nil)))) ⟨r, (w'.place c).toNat, x, w', hr'.len, by omega, wIs hw, ?_, rfl⟩) rfl
    rw [nD, show (((w'.place c).toNat : Nat) : Int) = w'.place c by omega]
end
end K37

set_option Elab.async false
set_option linter.all false
set_option maxRecDepth 100000
set_option maxHeartbeats 4000000
/-! own rules: enumerate(tuple), zip of three in a comprehension -/
namespace K37
open PySem PySem.Spec PyProof.Rows L2 RZ

theorem meets_enumerate_new1 {v : Value} {o : Obj} {H : Heap → Prop} (B : Begins v o H) :
    Meets (Builtin.«enumerate.__new__» ⟨[.type "enumerate", v], []⟩) (fun _ R s => H s.heap ∧
      R (.ok (.ret (.ref (s.heap.push o).objs.size))) { s with heap := (s.heap.push o).push { cls := .type "enumerate", data := .fields #[.none, .bool false, .ref s.heap.objs.size, rawInt 0, .none, .none] } }) :=
  .of_wp fun prog w A R s h => by
    obtain ⟨hp, g, d, tk, os⟩ := s; obtain ⟨h1, h⟩ := h
    have hsub := sub_enumerate
    have q1 : ∀ {A' : Around} {E : Value → Shared → Prop} {Q : Value → Shared → Prop}, Q (.ref hp.objs.size) ⟨hp.push o, g, d, tk, os⟩ → wpAny (model prog w) A' (pyIter v) Q E ⟨hp, g, d, tk, os⟩ :=
      fun q => B.iter prog w _ _ ⟨hp, g, d, tk, os⟩ _ h1 q
    wp_walk using q1
    refine wpAny_stack_any fun st => wpAny_pure ?_
    split
    · rename_i c _ _ _ _ _
      cases (c == Value.type "enumerate")
      · wp_walk using q1
        exact ⟨_, rfl, h⟩
      · wp_walk using q1
        exact ⟨_, rfl, h⟩
    · wp_walk using q1
      exact ⟨_, rfl, h⟩
section
variable {prog : Program} {w : World} {A : Around} {E : Value → Shared → Prop} {s : Shared}
/-- enumerate(v): its two new cells -/
theorem enum_begins1 {v : Value} {o : Obj} {H : Heap → Prop} {Q : Value → Shared → Prop} (B : Begins v o H) (h1 : H s.heap)
    (h : ∀ h', IsEnum h' (s.heap.objs.size + 1) s.heap.objs.size 0 .none → h'.get? s.heap.objs.size = some o → h'.objs.size = s.heap.objs.size + 2 →
      (∀ b o, s.heap.get? b = some o → h'.get? b = some o) → Q (.ref (s.heap.objs.size + 1)) { s with heap := h' }) :
    wpAny (model prog w) A (call (.type "enumerate") [v]) Q E s := by
  refine callType_new F.called_enumerate (by decide) (F.typeCall_enumerate_1 _) (F.newCall_enumerate_1 _) (fun obj => F.args_object_init_2 obj _) F.entry_enumerate_new
    (meets_enumerate_new1 B) ⟨h1, ?_⟩
  have hz : (s.heap.push o).objs.size = s.heap.objs.size + 1 := Heap.size_push ..
  show _ ∧ _
  rw [hz]
  have he : IsEnum ((s.heap.push o).push { cls := .type "enumerate", data := .fields #[.none, .bool false, .ref s.heap.objs.size, rawInt 0, .none, .none] }) (s.heap.objs.size + 1) s.heap.objs.size 0 .none := by
    have := Heap.get?_push_size (s.heap.push o) (o := { cls := .type "enumerate", data := .fields #[.none, .bool false, .ref s.heap.objs.size, rawInt 0, .none, .none] }) rfl
    rw [hz] at this; exact this
  refine ⟨⟨_, he, rfl⟩, h _ he (Heap.get?_push_of_some _ (Heap.get?_push_size _ B.free)) (by rw [Heap.size_push, hz]) fun b o x => Heap.get?_push_of_some _ (Heap.get?_push_of_some _ x)⟩
end
/-- the tuple at a, each item in a new pair -/
def IteT (K : PySem.W.Frag) (a : Addr) : It :=
  ⟨fun i H => ∃ (xs : List V) (x : V), SqT K H a xs ∧ xs[i]? = some x, fun i H v H' => ∃ T x, v = .ref T ∧ H T = none ∧ H' = upd H T (.tup [.int (i : Nat), x]) ∧ ∀ xs, SqT K H a xs → xs[i]? = some x, fun i H => ∃ xs : List V, SqT K H a xs ∧ xs.length = i⟩
theorem turn_enumT {P : Program} {w : World} {K : PySem.W.Frag} {elts : List Expr} {kk : Nat} {tpos : Pos} (a e it : Addr) :
    Turn P w K (.Tuple elts kk tpos) (IteT K a) [e, it] e (fun i h => (∃ old, IsEnum h e it ((i : Nat) : Int) old) ∧ h.IsTupleIter it a i ∧ e ≠ it ∧ a ≠ it ∧ a ≠ e) where
  mem := by simp
  obj := fun i h st b hb => by
    obtain ⟨⟨old, he⟩, ⟨o, ho, hc, hd⟩, _⟩ := st
    have e' : b = e ∨ b = it := by simpa using hb
    rcases e' with z | z
    · rw [z]; exact ⟨_, he, fun v q => nomatch q⟩
    · rw [z]; exact ⟨o, ho, fun v q => by rw [hd] at q; cases q⟩
  keep := fun i h h' st k => let ⟨⟨old, he⟩, hi, hne⟩ := st; ⟨⟨old, k e (by simp) _ he⟩, hi.at fun o q => k it (by simp) o q, hne⟩
  item := by
    intro X hP hw hK hc i pins s σ H E I hf st hg
    subst hP hw hK
    obtain ⟨⟨old, he⟩, hit, hne, ha1, ha2⟩ := st
    obtain ⟨xs, x, hq, hx⟩ := hg
    obtain ⟨its, rv, p, hz⟩ := I.tuple hq
    obtain ⟨u, hu, ru⟩ := rv.get hx
    have hel : e < s.heap.objs.size := Heap.lt_size he
    have hil : it < s.heap.objs.size := by obtain ⟨_, q, _⟩ := hit; exact Heap.lt_size q
    have hlt : i < its.toArray.size := by
      have := (List.getElem?_eq_some_iff.mp hu).1
      simpa using this
    have hef : e ∉ [it, a] := by simp [hne, Ne.symm ha2]
    refine wpAny_pyNext_enum_itemC (Draws.tuple (prog := X.prog) (w := X.w) (A := X.A.in1) (I.ok.hd hc) it a ha1 its.toArray) he ⟨hit, p⟩ hlt hne hef fun u' h' tk hu' ho hst' hT hsz hk => ?_
    obtain ⟨hit', _⟩ := hst'
    have eu : u' = u := by
      have e1 : its.toArray[i]? = some u := by simpa using hu
      rw [hu'] at e1
      exact Option.some.inj e1
    subst eu
    refine ⟨_, rfl, wpAny_letOwnedTupleGo_enum (s := { s with heap := h', toks := tk + 1 }) ho fun h'' he' sb => ?_⟩
    have hT2 : h''.get? s.heap.objs.size = some { cls := .type "tuple", data := .seq #[.int i tk, u'] } := (sb.2 _ (Nat.ne_of_gt hel)).trans hT
    have new : ObjOk X.prog X.w (upd H s.heap.objs.size (.tup [.int (i : Nat), x])) h'' s.heap.objs.size (.tup [.int (i : Nat), x]) :=
      ⟨by show 2 ≤ sizeLine; decide, [.int i tk, u'], .cons ⟨_, rfl⟩ (.cons ru .nil), ⟨_, hT2, rfl, _, rfl⟩⟩
    have I1 : Inv X pins σ (upd H s.heap.objs.size (.tup [.int (i : Nat), x])) { s with heap := h'', toks := tk + 1 } :=
      I.turnedNew (ch := [e, it]) (fun b ob hb q => (sb.2 b (fun z => hb (by simp [z]))).trans (hk b ob (fun z => hb (by simp [z])) (fun z => hb (by simp [z])) q)) hf (Nat.le_refl _) new
    refine ⟨.ref s.heap.objs.size, _, I1, rfl, ⟨_, x, rfl, I.hok.fresh (Nat.le_refl _), rfl, fun ys hy => by rw [I.tuple_inj hy hq]; exact hx⟩, ⟨⟨u', ?_⟩, hit'.at fun o q => (sb.2 it (Ne.symm hne)).trans q, hne, ha1, ha2⟩, fun b hb => ?_⟩
    · have e1 : ((i + 1 : Nat) : Int) = (i : Int) + 1 := by omega
      rw [e1]; exact he'
    · have hb' : b < s.heap.objs.size := by
        have e' : b = e ∨ b = it := by simpa using hb
        rcases e' with z | z
        · rw [z]; exact hel
        · rw [z]; exact hil
      rw [upd_ne (Nat.ne_of_lt hb')]
      exact (hf b hb).1
  done := by
    intro X hP hw hK hc i pins s σ H E I hf st hg
    subst hP hw hK
    obtain ⟨⟨old, he⟩, hit, hne, ha1, ha2⟩ := st
    obtain ⟨xs, hq, hx⟩ := hg
    obtain ⟨its, rv, p, hz⟩ := I.tuple hq
    obtain ⟨f0, f1, f2, f3, f4, f5⟩ := hf it (by simp)
    have hl := rv.length
    have en : i = its.toArray.size := by rw [List.size_toArray]; omega
    exact wpAny_pyNext_enum_endD (Draws.tuple (prog := X.prog) (w := X.w) (A := X.A.in1) (I.ok.hd hc) it a ha1 its.toArray) he (by rw [← en]; exact ⟨hit, p⟩) fun h' eb => ⟨rfl, I.turned (t' := s.toks) (fun b o hb q => eb b o hb q) f0 f1 f3 f4 f5⟩
  self := fun A i s Q E st h => let ⟨⟨_, he⟩, _⟩ := st; wpAny_pyIter_enum he h
def iEnumT (K : PySem.W.Frag) (ta : TA) : TI := fun σ H R => ta σ H fun vs H1 => ∃ a xs, vs = [.ref a] ∧ SqT K H1 a xs ∧ R (IteT K a) H1
theorem pi_enumT0 {X : Cx} {e : Expr} {ta : TA} {p pos tpos : Pos} {elts : List Expr} {kk : Nat} (hg : Gl X "enumerate") (hm : X.mg "enumerate" = none) (ha : PA X [e] ta) (hs : starEach [e] X.env = [(false, eval e X.env)] := by rfl) :
    PI X (.Tuple elts kk tpos) (.Call (.Name "enumerate" p) [e] [] pos) (iEnumT X.K ta) := by
  refine ⟨fun pins s σ H R I h => ?_⟩
  refine Call_ (ld_blt I hg hm boot_enumerate (PyProof.Rows.callWith_type1 (thn (ha.run pos pins s σ H _ I h) fun us s1 ⟨vs, H1, I1, r1, q1⟩ => ?_) hs rfl))
  obtain ⟨a, xs, ex, hq, q⟩ := q1
  subst ex
  cases r1 with
  | cons r rr =>
    cases rr
    cases r
    obtain ⟨its, rv, p', hz⟩ := I1.tuple hq
    have hal : a < s1.heap.objs.size := by obtain ⟨o, e, _⟩ := p'; exact Heap.lt_size e
    refine enum_begins1 (begins_tuple a its.toArray) p' fun h' he hit hsz hk => wpAny_pyIter_enum he ?_
    have I2 : Inv X pins σ H1 { s1 with heap := h' } := I1.kept (t' := s1.toks) hk
    refine ⟨s1.heap.objs.size + 1, [s1.heap.objs.size + 1, s1.heap.objs.size], _, _, H1, rfl, I2, turn_enumT a (s1.heap.objs.size + 1) s1.heap.objs.size, ⟨⟨.none, he⟩, ⟨_, hit, rfl, rfl⟩, Nat.succ_ne_self _, Nat.ne_of_lt hal, Nat.ne_of_lt (Nat.lt_succ_of_lt hal)⟩, fun b hb => ?_, q⟩
    have e' : b = s1.heap.objs.size + 1 ∨ b = s1.heap.objs.size := by simpa using hb
    have hle : s1.heap.objs.size ≤ b := by
      rcases e' with z | z
      · rw [z]; exact Nat.le_add_right _ _
      · rw [z]; exact Nat.le_refl _
    exact I1.fpOk hle (I1.hok.fresh hle)
theorem pi_enumT {X : Cx} (K : PySem.W.Frag) (h : X.K = K) {e : Expr} {ta : TA} {p pos tpos : Pos} {elts : List Expr} {kk : Nat} (hg : Gl X "enumerate") (hm : X.mg "enumerate" = none) (ha : PA X [e] ta) (hs : starEach [e] X.env = [(false, eval e X.env)] := by rfl) :
    PI X (.Tuple elts kk tpos) (.Call (.Name "enumerate" p) [e] [] pos) (iEnumT K ta) := h ▸ pi_enumT0 hg hm ha hs
theorem it_enumT {K : PySem.W.Frag} {Md : Ms} {ρ : List Sl} {ta : TA} {ds : List PD} (ha : EvA K Md ρ ta [.tuple ds]) : ItD K Md ρ (iEnumT K ta) (enumD ds) := .mk <| fun E hi R k => ha E hi _ fun vs H' H2 E' s p => by
  cases p with
  | cons p1 p2 =>
    cases p2
    cases p1 with
    | @tup a xs _ h1 h2 =>
      have hlen : xs.length = (enumD ds).length := by rw [enumD_len, dpa_len h2]
      refine ⟨a, xs, rfl, sqt_mono E'.sub h1, k _ H' H2 E' s ⟨fun i d H1 s1 e => ?_, fun i d Ha H1 x H3 sa sb e y => ?_, fun H1 s1 => ?_⟩⟩
      · obtain ⟨a', e1, _⟩ := enumD_get e
        obtain ⟨v, e2, _⟩ := dpa_get h2 e1
        exact ⟨xs, v, sqt_mono s1 h1, e2⟩
      · obtain ⟨a', e1, rfl⟩ := enumD_get e
        obtain ⟨v, e2, pv⟩ := dpa_get h2 e1
        obtain ⟨T, x', rfl, hT, rfl, f⟩ := y
        have ex := f xs (sqt_mono (sa.trans sb) h1)
        rw [e2] at ex
        cases ex
        have X := Ext.new (o := .tup [.int (i : Nat), v]) sb hT
        exact ⟨_, X, .tup (SqT.of upd_same) (.cons (.int _) (.cons (dp_mono (sa.trans X.known) pv) .nil))⟩
      · exact ⟨xs, sqt_mono s1 h1, hlen⟩

/-! ### zip of three lists -/
def Itz3 (K : PySem.W.Frag) (a b c : Addr) : It :=
  ⟨fun i H => ∃ (xs ys zs : List V) (x y z : V), SqL K H a xs ∧ SqL K H b ys ∧ SqL K H c zs ∧ xs[i]? = some x ∧ ys[i]? = some y ∧ zs[i]? = some z,
    fun i H v H' => ∃ T x y z, v = .ref T ∧ H T = none ∧ H' = upd H T (.tup [x, y, z]) ∧ (∀ xs, SqL K H a xs → xs[i]? = some x) ∧ (∀ ys, SqL K H b ys → ys[i]? = some y) ∧ ∀ zs, SqL K H c zs → zs[i]? = some z,
    fun i H => ∃ xs ys zs : List V, SqL K H a xs ∧ SqL K H b ys ∧ SqL K H c zs ∧ i ≤ xs.length ∧ i ≤ ys.length ∧ i ≤ zs.length ∧ (i = xs.length ∨ i = ys.length ∨ i = zs.length)⟩
theorem turn_zip3 {P : Program} {w : World} {K : PySem.W.Frag} {elts : List Expr} {kk : Nat} {tpos : Pos} {a b c z TI TO i1 i2 i3 : Addr} (D : ZipSep3 z TI TO i1 i2 i3 [i1, a] [i2, b] [i3, c]) (hna : a ≠ i1) (hnb : b ≠ i2) (hnc : c ≠ i3) :
    Turn P w K (.Tuple elts kk tpos) (Itz3 K a b c) [z, TI, TO, i1, i2, i3] z (fun i h => IsZip h z TI TO .none ∧ IsTupOf3 h TI (.ref i1) (.ref i2) (.ref i3) ∧ (∃ x y u, IsTupOf3 h TO x y u) ∧ h.IsListIter i1 a i ∧ h.IsListIter i2 b i ∧ h.IsListIter i3 c i) where
  mem := by simp
  obj := fun i h st b hb => by
    obtain ⟨hz, hTI, ⟨x, y, u, hTO⟩, ⟨o1, e1, _, d1⟩, ⟨o2, e2, _, d2⟩, ⟨o3, e3, _, d3⟩⟩ := st
    have e' : b = z ∨ b = TI ∨ b = TO ∨ b = i1 ∨ b = i2 ∨ b = i3 := by simpa using hb
    rcases e' with q | q | q | q | q | q
    · rw [q]; exact ⟨_, hz, fun v q => nomatch q⟩
    · rw [q]; exact ⟨_, hTI, fun v q => nomatch q⟩
    · rw [q]; exact ⟨_, hTO, fun v q => nomatch q⟩
    · rw [q]; exact ⟨o1, e1, fun v q => by rw [d1] at q; cases q⟩
    · rw [q]; exact ⟨o2, e2, fun v q => by rw [d2] at q; cases q⟩
    · rw [q]; exact ⟨o3, e3, fun v q => by rw [d3] at q; cases q⟩
  keep := fun i h h' st k => by
    obtain ⟨hz, hTI, ⟨x, y, u, hTO⟩, h1, h2, h3⟩ := st
    exact ⟨k z (by simp) _ hz, k TI (by simp) _ hTI, ⟨x, y, u, k TO (by simp) _ hTO⟩, h1.at fun o q => k i1 (by simp) o q, h2.at fun o q => k i2 (by simp) o q, h3.at fun o q => k i3 (by simp) o q⟩
  item := by
    intro X hP hw hK hc i pins s σ H E I hf st hg
    subst hP hw hK
    obtain ⟨hz, hTI, ⟨x0, y0, u0, hTO⟩, h1, h2, h3⟩ := st
    obtain ⟨xs, ys, zs, x, y, u, hqx, hqy, hqu, hx, hy, hu⟩ := hg
    obtain ⟨its, rv, p, _⟩ := I.list hqx
    obtain ⟨its2, rv2, p2, _⟩ := I.list hqy
    obtain ⟨its3, rv3, p3, _⟩ := I.list hqu
    obtain ⟨u1, hu1, ru1⟩ := rv.get hx
    obtain ⟨u2, hu2, ru2⟩ := rv2.get hy
    obtain ⟨u3, hu3, ru3⟩ := rv3.get hu
    have hzl : z < s.heap.objs.size := Heap.lt_size hz
    have hh : X.A.in1.handled = none := I.ok.hd hc
    have lt : ∀ {ws : List Value} {v : Value}, ws[i]? = some v → i < ws.toArray.size := fun q => by
      have := (List.getElem?_eq_some_iff.mp q).1
      simpa using this
    refine wpAny_pyNext_zipD3_item D (Draws.list (prog := X.prog) (w := X.w) hh i1 a hna its.toArray) (Draws.list (prog := X.prog) (w := X.w) hh i2 b hnb its2.toArray) (Draws.list (prog := X.prog) (w := X.w) hh i3 c hnc its3.toArray) hz hTI hTO ⟨h1, p.isList⟩ ⟨h2, p2.isList⟩ ⟨h3, p3.isList⟩ (lt hu1) (lt hu2) (lt hu3)
      fun v1 v2 v3 h' tk w1 w2 w3 z' TO' s1 s2 s3 hT hsz hk => ?_
    have e1 : v1 = u1 := by
      have e1 : its.toArray[i]? = some u1 := by simpa using hu1
      rw [w1] at e1
      exact Option.some.inj e1
    have e2 : v2 = u2 := by
      have e1 : its2.toArray[i]? = some u2 := by simpa using hu2
      rw [w2] at e1
      exact Option.some.inj e1
    have e3 : v3 = u3 := by
      have e1 : its3.toArray[i]? = some u3 := by simpa using hu3
      rw [w3] at e1
      exact Option.some.inj e1
    subst e1 e2 e3
    refine ⟨_, rfl, wpAny_letOwnedTupleGo_zip (s := { s with heap := h', toks := tk }) z' fun h'' z'' sb => ?_⟩
    have hT2 : h''.get? s.heap.objs.size = some { cls := .type "tuple", data := .seq #[v1, v2, v3] } := (sb.2 _ (Nat.ne_of_gt hzl)).trans hT
    have new : ObjOk X.prog X.w (upd H s.heap.objs.size (.tup [x, y, u])) h'' s.heap.objs.size (.tup [x, y, u]) :=
      ⟨by show 3 ≤ sizeLine; decide, [v1, v2, v3], .cons ru1 (.cons ru2 (.cons ru3 .nil)), ⟨_, hT2, rfl, _, rfl⟩⟩
    have I1 : Inv X pins σ (upd H s.heap.objs.size (.tup [x, y, u])) { s with heap := h'', toks := tk } :=
      I.turnedNew (t' := tk) (ch := [z, TI, TO, i1, i2, i3]) (fun c o hb q => (sb.2 c (fun q' => hb (by simp [q']))).trans (hk c o (fun q' => hb (by simp [q'])) (fun q' => hb (by simp [q'])) (fun q' => hb (by simp [q'])) (fun q' => hb (by simp [q'])) (fun q' => hb (by simp [q'])) q)) hf (Nat.le_refl _) new
    refine ⟨.ref s.heap.objs.size, _, I1, rfl, ⟨_, x, y, u, rfl, I.hok.fresh (Nat.le_refl _), rfl, fun l hl => by rw [I.list_inj hl hqx]; exact hx, fun l hl => by rw [I.list_inj hl hqy]; exact hy, fun l hl => by rw [I.list_inj hl hqu]; exact hu⟩, ⟨z'', ?_, ⟨v1, v2, v3, ?_⟩, ?_, ?_, ?_⟩, fun c hcm => ?_⟩
    · exact (sb.2 _ D.TIz).trans (hk _ _ D.TIz D.TITO D.TIi1 D.TIi2 D.TIi3 hTI)
    · exact (sb.2 _ D.TOz).trans TO'
    · exact s1.1.at fun o q => (sb.2 _ (fun e => D.zf1 (by rw [← e]; simp))).trans q
    · exact s2.1.at fun o q => (sb.2 _ (fun e => D.zf2 (by rw [← e]; simp))).trans q
    · exact s3.1.at fun o q => (sb.2 _ (fun e => D.zf3 (by rw [← e]; simp))).trans q
    · have hlt : c < s.heap.objs.size := by
        have e' : c = z ∨ c = TI ∨ c = TO ∨ c = i1 ∨ c = i2 ∨ c = i3 := by simpa using hcm
        rcases e' with q | q | q | q | q | q
        · rw [q]; exact hzl
        · rw [q]; exact Heap.lt_size hTI
        · rw [q]; exact Heap.lt_size hTO
        · rw [q]; obtain ⟨_, e1, _⟩ := h1; exact Heap.lt_size e1
        · rw [q]; obtain ⟨_, e2, _⟩ := h2; exact Heap.lt_size e2
        · rw [q]; obtain ⟨_, e2, _⟩ := h3; exact Heap.lt_size e2
      rw [upd_ne (Nat.ne_of_lt hlt)]
      exact (hf c hcm).1
  done := by
    intro X hP hw hK hc i pins s σ H E I hf st hg
    subst hP hw hK
    obtain ⟨hz, hTI, ⟨x0, y0, u0, hTO⟩, h1, h2, h3⟩ := st
    obtain ⟨xs, ys, zs, hqx, hqy, hqu, l1, l2, l3, hend⟩ := hg
    obtain ⟨its, rv, p, _⟩ := I.list hqx
    obtain ⟨its2, rv2, p2, _⟩ := I.list hqy
    obtain ⟨its3, rv3, p3, _⟩ := I.list hqu
    have g1 := rv.length
    have g2 := rv2.length
    have g3 := rv3.length
    have hh : X.A.in1.handled = none := I.ok.hd hc
    exact wpAny_pyNext_zipD3_end D (Draws.list (prog := X.prog) (w := X.w) hh i1 a hna its.toArray) (Draws.list (prog := X.prog) (w := X.w) hh i2 b hnb its2.toArray) (Draws.list (prog := X.prog) (w := X.w) hh i3 c hnc its3.toArray) hz hTI hTO ⟨h1, p.isList⟩ ⟨h2, p2.isList⟩ ⟨h3, p3.isList⟩
      (by rw [List.size_toArray]; omega) (by rw [List.size_toArray]; omega) (by rw [List.size_toArray]; omega) (by simp only [List.size_toArray]; omega) fun h' tk hk => ⟨rfl, I.turnedL (t' := tk) (ch := [z, TI, TO, i1, i2, i3]) (fun c o hb q =>
      hk c o (fun q' => hb (by simp [q'])) (fun q' => hb (by simp [q'])) (fun q' => hb (by simp [q'])) (fun q' => hb (by simp [q'])) (fun q' => hb (by simp [q'])) q) hf⟩
  self := fun A i s Q E st h => wpAny_pyIter_zip st.1 h
def iZip3 (K : PySem.W.Frag) (ta : TA) : TI := fun σ H R => ta σ H fun vs H1 => ∃ a b c xs ys zs, vs = [.ref a, .ref b, .ref c] ∧ SqL K H1 a xs ∧ SqL K H1 b ys ∧ SqL K H1 c zs ∧ R (Itz3 K a b c) H1
theorem pi_zip30 {X : Cx} {e e2 e3 : Expr} {ta : TA} {p pos tpos : Pos} {elts : List Expr} {kk : Nat} (hg : Gl X "zip") (hm : X.mg "zip" = none) (ha : PA X [e, e2, e3] ta)
    (hs : starEach [e, e2, e3] X.env = (false, eval e X.env) :: starEach [e2, e3] X.env := by rfl) (hpl : (backTo pos (starEach [e2, e3] X.env)).any (·.1) = false := by rfl) :
    PI X (.Tuple elts kk tpos) (.Call (.Name "zip" p) [e, e2, e3] [] pos) (iZip3 X.K ta) := by
  refine ⟨fun pins s σ H R I h => ?_⟩
  refine Call_ (ld_blt I hg hm PyProof.Rows.boot_zip (PyProof.Rows.callWith_type1 (thn (ha.run pos pins s σ H _ I h) fun us s1 ⟨vs, H1, I1, r1, q1⟩ => ?_) hs hpl))
  obtain ⟨a, b, c, xs, ys, zs, ex, hqx, hqy, hqu, q⟩ := q1
  subst ex
  cases r1 with
  | cons r rr =>
    cases rr with
    | cons r' rr =>
      cases rr with
      | cons r'' rr =>
        cases rr
        cases r
        cases r'
        cases r''
        obtain ⟨its, rv, p1, _⟩ := I1.list hqx
        obtain ⟨its2, rv2, p2, _⟩ := I1.list hqy
        obtain ⟨its3, rv3, p3, _⟩ := I1.list hqu
        have la : a < s1.heap.objs.size := p1.lt
        have lb : b < s1.heap.objs.size := p2.lt
        have lc : c < s1.heap.objs.size := p3.lt
        refine zip_begins3 (begins_list a its.toArray) (begins_list b its2.toArray) (begins_list c its3.toArray) p1.isList p2.isList p3.isList fun h' hz hTI hTO h1 h2 h3 hsz hk => wpAny_pyIter_zip hz ?_
        have I2 : Inv X pins σ H1 { s1 with heap := h' } := I1.kept (t' := s1.toks) hk
        refine ⟨s1.heap.objs.size + 5, [s1.heap.objs.size + 5, s1.heap.objs.size + 3, s1.heap.objs.size + 4, s1.heap.objs.size, s1.heap.objs.size + 1, s1.heap.objs.size + 2], _, _, H1, rfl, I2,
          turn_zip3 (zip_sep3 (N := s1.heap.objs.size) (fp1 := [a]) (fp2 := [b]) (fp3 := [c]) (by simpa using la) (by simpa using lb) (by simpa using lc)) (Nat.ne_of_lt la) (Nat.ne_of_lt (Nat.lt_add_right 1 lb)) (Nat.ne_of_lt (Nat.lt_add_right 2 lc)), ⟨hz, hTI, ⟨_, _, _, hTO⟩, ⟨_, h1, rfl, rfl⟩, ⟨_, h2, rfl, rfl⟩, ⟨_, h3, rfl, rfl⟩⟩, fun c hcm => ?_, q⟩
        have e' : c = s1.heap.objs.size + 5 ∨ c = s1.heap.objs.size + 3 ∨ c = s1.heap.objs.size + 4 ∨ c = s1.heap.objs.size ∨ c = s1.heap.objs.size + 1 ∨ c = s1.heap.objs.size + 2 := by simpa using hcm
        have hle : s1.heap.objs.size ≤ c := by
          rcases e' with z | z | z | z | z | z
          · rw [z]; exact Nat.le_add_right _ _
          · rw [z]; exact Nat.le_add_right _ _
          · rw [z]; exact Nat.le_add_right _ _
          · rw [z]; exact Nat.le_refl _
          · rw [z]; exact Nat.le_add_right _ _
          · rw [z]; exact Nat.le_add_right _ _
        exact I1.fpOk hle (I1.hok.fresh hle)
theorem pi_zip3 {X : Cx} (K : PySem.W.Frag) (h : X.K = K) {e e2 e3 : Expr} {ta : TA} {p pos tpos : Pos} {elts : List Expr} {kk : Nat} (hg : Gl X "zip") (hm : X.mg "zip" = none) (ha : PA X [e, e2, e3] ta)
    (hs : starEach [e, e2, e3] X.env = (false, eval e X.env) :: starEach [e2, e3] X.env := by rfl) (hpl : (backTo pos (starEach [e2, e3] X.env)).any (·.1) = false := by rfl) :
    PI X (.Tuple elts kk tpos) (.Call (.Name "zip" p) [e, e2, e3] [] pos) (iZip3 K ta) := h ▸ pi_zip30 hg hm ha hs hpl
theorem it_zip3 {α : Type} {K : PySem.W.Frag} {Md : Ms} {ρ : List Sl} {ta : TA} {xs : List α} {f g k : α → PD} (ha : EvA K Md ρ ta [.list (xs.map f), .list (xs.map g), .list (xs.map k)]) : ItD K Md ρ (iZip3 K ta) (xs.map fun x => PyData.tuple [f x, g x, k x]) := .mk <| fun E hi R kk => ha E hi _ fun vs H' H2 E' s p => by
  cases p with
  | cons p1 p2 =>
    cases p2 with
    | cons p2 p3 =>
      cases p3 with
      | cons p3 p4 =>
        cases p4
        cases p1 with
        | @lst a vs1 _ a1 a2 =>
          cases p2 with
          | @lst b vs2 _ b1 b2 =>
            cases p3 with
            | @lst c vs3 _ c1 c2 =>
              have l1 : vs1.length = xs.length := by rw [dpa_len a2, List.length_map]
              have l2 : vs2.length = xs.length := by rw [dpa_len b2, List.length_map]
              have l3 : vs3.length = xs.length := by rw [dpa_len c2, List.length_map]
              have get : ∀ {i : Nat} {d : PD} {h : α → PD}, (xs.map h)[i]? = some d → ∃ x, xs[i]? = some x ∧ d = h x := fun {i d h} e => by
                rw [List.getElem?_map] at e
                cases q : xs[i]? with
                | none => rw [q] at e; cases e
                | some x => rw [q] at e; cases e; exact ⟨x, rfl, rfl⟩
              have put : ∀ {i : Nat} {x : α} (h : α → PD), xs[i]? = some x → (xs.map h)[i]? = some (h x) := fun {i x} h e => by rw [List.getElem?_map, e]; rfl
              refine ⟨a, b, c, vs1, vs2, vs3, rfl, E'.sub.seq a1, E'.sub.seq b1, E'.sub.seq c1, kk _ H' H2 E' s ⟨fun i d H1 s1 e => ?_, fun i d Ha H1 x H3 sa sb e y => ?_, fun H1 s1 => ?_⟩⟩
              · obtain ⟨x, e1, rfl⟩ := get e
                obtain ⟨v1, g1, _⟩ := dpa_get a2 (put f e1)
                obtain ⟨v2, g2, _⟩ := dpa_get b2 (put g e1)
                obtain ⟨v3, g3, _⟩ := dpa_get c2 (put k e1)
                exact ⟨vs1, vs2, vs3, v1, v2, v3, s1.seq a1, s1.seq b1, s1.seq c1, g1, g2, g3⟩
              · obtain ⟨x', e1, rfl⟩ := get e
                obtain ⟨v1, g1, q1⟩ := dpa_get a2 (put f e1)
                obtain ⟨v2, g2, q2⟩ := dpa_get b2 (put g e1)
                obtain ⟨v3, g3, q3⟩ := dpa_get c2 (put k e1)
                obtain ⟨T, y1, y2, y3, rfl, hT, rfl, f1, f2, f3⟩ := y
                have ss := sa.trans sb
                have r1 := f1 vs1 (ss.seq a1)
                have r2 := f2 vs2 (ss.seq b1)
                have r3 := f3 vs3 (ss.seq c1)
                rw [g1] at r1
                rw [g2] at r2
                rw [g3] at r3
                cases r1
                cases r2
                cases r3
                have X := Ext.new (o := .tup [v1, v2, v3]) sb hT
                have u := sa.trans X.known
                exact ⟨_, X, .tup (SqT.of upd_same) (.cons (dp_mono u q1) (.cons (dp_mono u q2) (.cons (dp_mono u q3) .nil)))⟩
              · refine ⟨vs1, vs2, vs3, s1.seq a1, s1.seq b1, s1.seq c1, ?_, ?_, ?_, ?_⟩ <;> rw [List.length_map] <;> omega
end K37

set_option Elab.async false
set_option linter.all false
set_option maxRecDepth 100000
set_option maxHeartbeats 4000000
/-! zip's next, whatever became of the tuple that it gave out (printed by zipany.py) -/
namespace K37
open PySem PySem.Spec PyProof.Rows L2 RZ
abbrev IsZipF (h : Heap) (z TI TO : Addr) (f0 f1 : Value) : Prop :=
  h.get? z = some { cls := .type "zip", dict := none, data := .fields #[f0, f1, .bool false, .ref TI, .ref TO], slots := #[] }
def ZFld (f0 f1 : Value) : Prop := (f0 = .none ∨ ∃ T : Nat, f0 = rawInt T) ∧ ∃ b, f1 = .bool b
section
variable {prog : Program} {w : World} {A : Around} {E : Value → Shared → Prop} {s : Shared}
theorem wpAny_alive {a : Addr} {Q : Option Obj → Shared → Prop} (h : Q (s.heap.get? a) s) : wpAny (model prog w) A (loadIfAlive a) Q E s := fun _ _ _ => h
theorem wpAny_isFreeZ {z TI TO : Addr} {f0 f1 : Value} {Q : Bool → Shared → Prop} (hz : IsZipF s.heap z TI TO f0 f1) (hf : ZFld f0 f1)
    (h : ∀ b h' f2, IsZipF h' z TI TO f0 f2 → (∃ b, f2 = .bool b) → Heap.SameBut z s.heap h' → Q b { s with heap := h' }) : wpAny (model prog w) A (Builtin.SmallTypes.ownedTupleIsFree (.ref z)) Q E s := by
  obtain ⟨hf0, b1, rfl⟩ := hf
  unfold Builtin.SmallTypes.ownedTupleIsFree
  rcases hf0 with rfl | ⟨T, rfl⟩
  · refine wpAny_bind (wpAny_field hz rfl (x := .none) rfl (wpAny_pure ?_))
    exact h true s.heap _ hz ⟨_, rfl⟩ (Heap.SameBut.refl _ _)
  · refine wpAny_bind (wpAny_field hz rfl (x := rawInt T) rfl ?_)
    show wpAny _ _ (loadIfAlive ((T : Int).toNat) >>= _) _ _ _
    rw [Int.toNat_natCast]
    refine wpAny_bind (wpAny_alive ?_)
    cases s.heap.get? T with
    | none =>
      simp only [Option.isNone_none, if_true]
      exact wpAny_pure (h true s.heap _ hz ⟨_, rfl⟩ (Heap.SameBut.refl _ _))
    | some oT =>
      simp only [Option.isNone_some, Bool.false_eq_true, if_false]
      refine wpAny_bind (wpAny_field hz rfl (x := .bool b1) rfl ?_)
      cases b1 with
      | true =>
        rw [if_neg (show ¬ ((Value.bool true != Value.bool true) = true) from Bool.false_ne_true)]
        exact wpAny_pure (h false s.heap _ hz ⟨_, rfl⟩ (Heap.SameBut.refl _ _))
      | false =>
        rw [if_pos (show (Value.bool false != Value.bool true) = true from rfl)]
        exact wpAny_bind (wpAny_setField_rec hz (by simp) fun h1 hz1 hs1 => wpAny_pure (h false h1 _ hz1 ⟨_, rfl⟩ hs1))
theorem zipA2_item {z TI TO i1 i2 : Addr} {fp1 fp2 : List Addr} {n1 n2 i : Nat} {P1 P2 : Nat → Value → Prop} {St1 St2 : Nat → Heap → Prop} {a1 a2 f0 f1 : Value} {Q : Value → Shared → Prop} (S : ZipSep2 z TI TO i1 i2 fp1 fp2) (D1 : Draws prog w A i1 fp1 n1 P1 St1) (D2 : Draws prog w A i2 fp2 n2 P2 St2)
    (hz : IsZipF s.heap z TI TO f0 f1) (hf : ZFld f0 f1) (hTI : IsTupOf2 s.heap TI (.ref i1) (.ref i2)) (hTO : IsTupOf2 s.heap TO a1 a2) (st1 : St1 i s.heap) (st2 : St2 i s.heap) (hlt1 : i < n1) (hlt2 : i < n2)
    (hQ : ∀ x1 x2 h' tk, P1 i x1 → P2 i x2 → (∃ f0 f1, IsZipF h' z TI TO f0 f1 ∧ ZFld f0 f1) → (∃ a1 a2, IsTupOf2 h' TO a1 a2) → St1 (i + 1) h' → St2 (i + 1) h' → IsTupOf2 h' s.heap.objs.size x1 x2 → h'.objs.size = s.heap.objs.size + 1 →
      (∀ c o, c ≠ z → c ≠ TO → c ≠ i1 → c ≠ i2 → s.heap.get? c = some o → h'.get? c = some o) → Q (.ref s.heap.objs.size) { s with heap := h', toks := tk }) :
    wpAny (model prog w) A (Builtin.«zip.__next__» ⟨[.ref z], []⟩) (fun fin s' => ∃ v, fin = .done (.ret v) ∧ Q v s') E s := by
  obtain ⟨hp, g, d, tk0, os⟩ := s
  show wpAny _ _ (field (.ref z) 2 >>= _) _ _ _
  refine wpAny_bind (wpAny_field hz rfl (x := .bool false) rfl ?_)
  show wpAny _ _ (field (.ref z) 3 >>= _) _ _ _
  refine wpAny_bind (wpAny_field hz rfl (x := .ref TI) rfl ?_)
  refine wpAny_bind (wpAny_seqItems hTI rfl ?_)
  show wpAny _ _ (Builtin.SmallTypes.ownedTupleIsFree (.ref z) >>= _) _ _ _
  refine wpAny_bind (wpAny_isFreeZ hz hf fun b hq f2 hzq hf2 hsq => ?_)
  replace hzq : IsZipF hq z TI TO f0 f2 := hzq
  replace hsq : Heap.SameBut z hp hq := hsq
  have hTOq : IsTupOf2 hq TO a1 a2 := hsq.extBut _ _ S.TOz hTO
  have sq1 : St1 i hq := D1.over st1 hsq S.zf1
  have sq2 : St2 i hq := D2.over st2 hsq S.zf2
  cases b with
  | true =>
    simp only [if_true]
    refine wpAny_bind (wpAny_rule ?_)
    refine wpAny_bind (wpAny_field (s := ⟨hq, g, d, tk0, os⟩) hzq rfl (x := .ref TO) rfl ?_)
    refine wpAny_bind (wpAny_setField_rec (s := ⟨hq, g, d, tk0, os⟩) hzq (by simp) fun g0 hz0 hs0 => ?_)
    replace hz0 : IsZipF g0 z TI TO .ellipsis f2 := hz0
    replace hs0 : Heap.SameBut z hq g0 := hs0
    refine wpAny_bind ?_
    simp only [List.zipIdx_cons, List.zipIdx_nil, List.forIn_cons, List.forIn_nil]
    refine wpAny_bind (wpAny_bind (wpAny_onRaise ?_))
    show wpAny _ _ (Builtin.SmallTypes.nextOf (.ref i1) >>= _) _ _ ⟨g0, g, d, tk0, os⟩
    refine wpAny_bind (D1.item i _ _ _ hlt1 (D1.over sq1 hs0 S.zf1) fun x1 p1 tk1 hx1 sn1 hp1 => wpAny_pure ?_)
    replace hp1 : Heap.SameBut i1 g0 p1 := hp1
    have hU1 : IsTupOf2 p1 TO a1 a2 := hp1.extBut _ _ S.Ti1 (hs0.extBut _ _ S.TOz hTOq)
    refine wpAny_bind (wpAny_seqItems (s := ⟨p1, g, d, tk1, os⟩) hU1 rfl ?_)
    refine wpAny_bind (updateSeq_IsTupOf2 (s := ⟨p1, g, d, tk1, os⟩) hU1 fun g1 hT1 hs1 => ?_)
    replace hT1 : IsTupOf2 g1 TO x1 a2 := hT1
    replace hs1 : Heap.SameBut TO p1 g1 := hs1
    refine wpAny_bind (wpAny_letGo (wpAny_pure ?_))
    refine wpAny_bind (wpAny_bind (wpAny_onRaise ?_))
    show wpAny _ _ (Builtin.SmallTypes.nextOf (.ref i2) >>= _) _ _ ⟨g1, g, d, tk1, os⟩
    refine wpAny_bind (D2.item i _ _ _ hlt2 (D2.over (D2.over (D2.over sq2 hs0 S.zf2) hp1 S.sep1_2) hs1 S.Tf2) fun x2 p2 tk2 hx2 sn2 hp2 => wpAny_pure ?_)
    replace hp2 : Heap.SameBut i2 g1 p2 := hp2
    have hU2 : IsTupOf2 p2 TO x1 a2 := hp2.extBut _ _ S.Ti2 hT1
    refine wpAny_bind (wpAny_seqItems (s := ⟨p2, g, d, tk2, os⟩) hU2 rfl ?_)
    refine wpAny_bind (updateSeq_IsTupOf2 (s := ⟨p2, g, d, tk2, os⟩) hU2 fun g2 hT2 hs2 => ?_)
    replace hT2 : IsTupOf2 g2 TO x1 x2 := hT2
    replace hs2 : Heap.SameBut TO p2 g2 := hs2
    refine wpAny_bind (wpAny_letGo (wpAny_pure (wpAny_pure ?_)))
    refine wpAny_bind (wpAny_seqItems (s := ⟨g2, g, d, tk2, os⟩) hT2 rfl ?_)
    refine wpAny_bind (wpAny_newTuple ?_)
    have hsz : g2.objs.size = hp.objs.size := by rw [hs2.1, hp2.1, hs1.1, hp1.1, hs0.1, hsq.1]
    have hzz : IsZipF g2 z TI TO .ellipsis f2 := hs2.extBut _ _ S.TOz.symm (hp2.extBut _ _ S.zi2 (hs1.extBut _ _ S.TOz.symm (hp1.extBut _ _ S.zi1 (hz0))))
    have hkk : ∀ c o, c ≠ z → c ≠ TO → c ≠ i1 → c ≠ i2 → hp.get? c = some o → g2.get? c = some o := fun c o cz cT c1 c2 e => hs2.extBut _ _ cT (hp2.extBut _ _ c2 (hs1.extBut _ _ cT (hp1.extBut _ _ c1 (hs0.extBut _ _ cz (hsq.extBut _ _ cz e)))))
    have hj1 : St1 (i + 1) g2 := D1.over (D1.over (D1.over sn1 hs1 S.Tf1) hp2 S.sep2_1) hs2 S.Tf1
    have hj2 : St2 (i + 1) g2 := D2.over sn2 hs2 S.Tf2
    have hzlt : z < g2.objs.size := Heap.lt_size hzz
    show wpAny _ _ (Builtin.SmallTypes.ownedTupleHandOut (.ref z) (.ref g2.objs.size) >>= _) _ _ ⟨g2.push { cls := .type "tuple", data := .seq #[x1, x2] }, g, d, tk2, os⟩
    refine wpAny_bind ?_
    unfold Builtin.SmallTypes.ownedTupleHandOut
    have hz6 : IsZipF (g2.push { cls := .type "tuple", data := .seq #[x1, x2] }) z TI TO .ellipsis f2 := Heap.get?_push_of_some _ hzz
    refine wpAny_bind (wpAny_setField_rec hz6 (by simp) fun h7 hz7 hs7 => ?_)
    replace hz7 : IsZipF h7 z TI TO (rawInt g2.objs.size) f2 := hz7
    refine wpAny_setField_rec hz7 (by simp) fun h8 hz8 hs8 => ?_
    replace hz8 : IsZipF h8 z TI TO (rawInt g2.objs.size) (.bool false) := hz8
    replace hs7 : Heap.SameBut z (g2.push { cls := .type "tuple", data := .seq #[x1, x2] }) h7 := hs7
    replace hs8 : Heap.SameBut z h7 h8 := hs8
    have up : ∀ c o, c ≠ z → g2.get? c = some o → h8.get? c = some o := fun c o c1 e => hs8.extBut _ _ c1 (hs7.extBut _ _ c1 (Heap.get?_push_of_some _ e))
    have hT8 : IsTupOf2 h8 g2.objs.size x1 x2 := hs8.extBut _ _ (Nat.ne_of_gt hzlt) (hs7.extBut _ _ (Nat.ne_of_gt hzlt) (Heap.get?_push_size _ rfl))
    have hz9 : h8.objs.size = g2.objs.size + 1 := by rw [hs8.1, hs7.1, Heap.size_push]
    rw [hsz] at hz8 hT8 hz9
    refine wpAny_pure ⟨_, rfl, ?_⟩
    show Q (.ref g2.objs.size) ⟨h8, g, d, tk2, os⟩
    rw [hsz]
    exact hQ x1 x2 h8 tk2 hx1 hx2 ⟨_, _, hz8, .inr ⟨_, rfl⟩, _, rfl⟩ ⟨x1, x2, up _ _ S.TOz hT2⟩ (D1.frame _ _ _ hj1 fun b hb o e => up b o (fun q => S.zf1 (q ▸ hb)) e) (D2.frame _ _ _ hj2 fun b hb o e => up b o (fun q => S.zf2 (q ▸ hb)) e) hT8 hz9 fun c o cz cT c1 c2 e => up c o cz (hkk c o cz cT c1 c2 e)
  | false =>
    simp only [Bool.false_eq_true, if_false]
    refine wpAny_bind ?_
    rw [← Array.forIn_toList]
    simp only [List.forIn_cons, List.forIn_nil]
    refine wpAny_bind (wpAny_bind (wpAny_holding ?_))
    show wpAny _ _ (Builtin.SmallTypes.nextOf (.ref i1) >>= _) _ _ ⟨hq, g, d, tk0, os⟩
    refine wpAny_bind (D1.item i _ _ _ hlt1 (sq1) fun x1 p1 tk1 hx1 sn1 hp1 => wpAny_pure ?_)
    replace hp1 : Heap.SameBut i1 hq p1 := hp1
    refine wpAny_pure ?_
    refine wpAny_bind (wpAny_bind (wpAny_holding ?_))
    show wpAny _ _ (Builtin.SmallTypes.nextOf (.ref i2) >>= _) _ _ ⟨p1, g, d, tk1, os⟩
    refine wpAny_bind (D2.item i _ _ _ hlt2 (D2.over (sq2) hp1 S.sep1_2) fun x2 p2 tk2 hx2 sn2 hp2 => wpAny_pure ?_)
    replace hp2 : Heap.SameBut i2 p1 p2 := hp2
    refine wpAny_pure (wpAny_pure ?_)
    show wpAny _ _ (newTuple [x1, x2] >>= _) _ _ ⟨p2, g, d, tk2, os⟩
    refine wpAny_bind (wpAny_newTuple ?_)
    have hsz : p2.objs.size = hp.objs.size := by rw [hp2.1, hp1.1, hsq.1]
    have hzz : IsZipF p2 z TI TO f0 f2 := hp2.extBut _ _ S.zi2 (hp1.extBut _ _ S.zi1 (hzq))
    have hTOn : IsTupOf2 p2 TO a1 a2 := hp2.extBut _ _ S.Ti2 (hp1.extBut _ _ S.Ti1 (hTOq))
    have hkk : ∀ c o, c ≠ z → c ≠ TO → c ≠ i1 → c ≠ i2 → hp.get? c = some o → p2.get? c = some o := fun c o cz cT c1 c2 e => hp2.extBut _ _ c2 (hp1.extBut _ _ c1 (hsq.extBut _ _ cz e))
    have hj1 : St1 (i + 1) p2 := D1.over (sn1) hp2 S.sep2_1
    have hj2 : St2 (i + 1) p2 := sn2
    have up : ∀ c o, p2.get? c = some o → (p2.push { cls := .type "tuple", data := .seq #[x1, x2] }).get? c = some o := fun c o e => Heap.get?_push_of_some _ e
    have hT8 : IsTupOf2 (p2.push { cls := .type "tuple", data := .seq #[x1, x2] }) p2.objs.size x1 x2 := Heap.get?_push_size _ rfl
    have hz9 : (p2.push { cls := .type "tuple", data := .seq #[x1, x2] }).objs.size = p2.objs.size + 1 := Heap.size_push ..
    rw [hsz] at hT8 hz9
    refine wpAny_pure ⟨_, rfl, ?_⟩
    show Q (.ref p2.objs.size) ⟨_, g, d, tk2, os⟩
    rw [hsz]
    exact hQ x1 x2 _ tk2 hx1 hx2 ⟨_, _, up _ _ hzz, hf.1, hf2⟩ ⟨a1, a2, up _ _ hTOn⟩ (D1.frame _ _ _ hj1 fun b hb o e => up b o e) (D2.frame _ _ _ hj2 fun b hb o e => up b o e) hT8 hz9 fun c o cz cT c1 c2 e => up c o (hkk c o cz cT c1 c2 e)
theorem zipA2_end {z TI TO i1 i2 : Addr} {fp1 fp2 : List Addr} {n1 n2 i : Nat} {P1 P2 : Nat → Value → Prop} {St1 St2 : Nat → Heap → Prop} {a1 a2 f0 f1 : Value} {Q : Fin → Shared → Prop} (S : ZipSep2 z TI TO i1 i2 fp1 fp2) (D1 : Draws prog w A i1 fp1 n1 P1 St1) (D2 : Draws prog w A i2 fp2 n2 P2 St2)
    (hz : IsZipF s.heap z TI TO f0 f1) (hf : ZFld f0 f1) (hTI : IsTupOf2 s.heap TI (.ref i1) (.ref i2)) (hTO : IsTupOf2 s.heap TO a1 a2) (st1 : St1 i s.heap) (st2 : St2 i s.heap) (hle1 : i ≤ n1) (hle2 : i ≤ n2) (hend : i = n1 ∨ i = n2)
    (hE : ∀ h' tk e, (∀ c o, c ≠ z → c ≠ TO → c ≠ i1 → c ≠ i2 → s.heap.get? c = some o → h'.get? c = some o) → (∃ o, h'.get? e = some o ∧ o.cls = .type "StopIteration") → E (.ref e) { s with heap := h', toks := tk }) :
    wpAny (model prog w) A (Builtin.«zip.__next__» ⟨[.ref z], []⟩) Q E s := by
  obtain ⟨hp, g, d, tk0, os⟩ := s
  show wpAny _ _ (field (.ref z) 2 >>= _) _ _ _
  refine wpAny_bind (wpAny_field hz rfl (x := .bool false) rfl ?_)
  show wpAny _ _ (field (.ref z) 3 >>= _) _ _ _
  refine wpAny_bind (wpAny_field hz rfl (x := .ref TI) rfl ?_)
  refine wpAny_bind (wpAny_seqItems hTI rfl ?_)
  show wpAny _ _ (Builtin.SmallTypes.ownedTupleIsFree (.ref z) >>= _) _ _ _
  refine wpAny_bind (wpAny_isFreeZ hz hf fun b hq f2 hzq hf2 hsq => ?_)
  replace hzq : IsZipF hq z TI TO f0 f2 := hzq
  replace hsq : Heap.SameBut z hp hq := hsq
  have hTOq : IsTupOf2 hq TO a1 a2 := hsq.extBut _ _ S.TOz hTO
  have sq1 : St1 i hq := D1.over st1 hsq S.zf1
  have sq2 : St2 i hq := D2.over st2 hsq S.zf2
  cases b with
  | true =>
    simp only [if_true]
    refine wpAny_bind (wpAny_rule ?_)
    refine wpAny_bind (wpAny_field (s := ⟨hq, g, d, tk0, os⟩) hzq rfl (x := .ref TO) rfl ?_)
    refine wpAny_bind (wpAny_setField_rec (s := ⟨hq, g, d, tk0, os⟩) hzq (by simp) fun g0 hz0 hs0 => ?_)
    replace hz0 : IsZipF g0 z TI TO .ellipsis f2 := hz0
    replace hs0 : Heap.SameBut z hq g0 := hs0
    refine wpAny_bind ?_
    simp only [List.zipIdx_cons, List.zipIdx_nil, List.forIn_cons, List.forIn_nil]
    refine wpAny_bind (wpAny_bind (wpAny_onRaise ?_))
    show wpAny _ _ (Builtin.SmallTypes.nextOf (.ref i1) >>= _) _ _ ⟨g0, g, d, tk0, os⟩
    by_cases hlt1 : i < n1
    · refine wpAny_bind (D1.item i _ _ _ hlt1 (D1.over sq1 hs0 S.zf1) fun x1 p1 tk1 hx1 sn1 hp1 => wpAny_pure ?_)
      replace hp1 : Heap.SameBut i1 g0 p1 := hp1
      have hU1 : IsTupOf2 p1 TO a1 a2 := hp1.extBut _ _ S.Ti1 (hs0.extBut _ _ S.TOz hTOq)
      refine wpAny_bind (wpAny_seqItems (s := ⟨p1, g, d, tk1, os⟩) hU1 rfl ?_)
      refine wpAny_bind (updateSeq_IsTupOf2 (s := ⟨p1, g, d, tk1, os⟩) hU1 fun g1 hT1 hs1 => ?_)
      replace hT1 : IsTupOf2 g1 TO x1 a2 := hT1
      replace hs1 : Heap.SameBut TO p1 g1 := hs1
      refine wpAny_bind (wpAny_letGo (wpAny_pure ?_))
      refine wpAny_bind (wpAny_bind (wpAny_onRaise ?_))
      show wpAny _ _ (Builtin.SmallTypes.nextOf (.ref i2) >>= _) _ _ ⟨g1, g, d, tk1, os⟩
      by_cases hlt2 : i < n2
      · omega
      · have hi : i = n2 := by omega
        refine wpAny_bind (D2.done ⟨g1, g, d, tk1, os⟩ _ _ (by rw [← hi]; exact D2.over (D2.over (D2.over sq2 hs0 S.zf2) hp1 S.sep1_2) hs1 S.Tf2) fun q e hq' he => ?_)
        replace hq' : Heap.ExtBut i2 g1 q := hq'
        obtain ⟨oe, hoe, hce⟩ := he
        replace hoe : q.get? e = some oe := hoe
        have hzq' : IsZipF q z TI TO .ellipsis f2 := hq' _ _ S.zi2 (hs1.extBut _ _ S.TOz.symm (hp1.extBut _ _ S.zi1 (hz0)))
        have hez : e ≠ z := fun x => by subst x; rw [hzq'] at hoe; cases hoe; simp at hce
        refine wpAny_setField_rec (s := ⟨q, g, d, tk1, os⟩) hzq' (by simp) fun q' _ hq'' => ?_
        replace hq'' : Heap.SameBut z q q' := hq''
        exact hE q' tk1 e (fun c o cz cT c1 c2 x => hq''.extBut _ _ cz (hq' _ _ c2 (hs1.extBut _ _ cT (hp1.extBut _ _ c1 (hs0.extBut _ _ cz (hsq.extBut _ _ cz x)))))) ⟨oe, hq''.extBut _ _ hez hoe, hce⟩
    · have hi : i = n1 := by omega
      refine wpAny_bind (D1.done ⟨g0, g, d, tk0, os⟩ _ _ (by rw [← hi]; exact D1.over sq1 hs0 S.zf1) fun q e hq' he => ?_)
      replace hq' : Heap.ExtBut i1 g0 q := hq'
      obtain ⟨oe, hoe, hce⟩ := he
      replace hoe : q.get? e = some oe := hoe
      have hzq' : IsZipF q z TI TO .ellipsis f2 := hq' _ _ S.zi1 (hz0)
      have hez : e ≠ z := fun x => by subst x; rw [hzq'] at hoe; cases hoe; simp at hce
      refine wpAny_setField_rec (s := ⟨q, g, d, tk0, os⟩) hzq' (by simp) fun q' _ hq'' => ?_
      replace hq'' : Heap.SameBut z q q' := hq''
      exact hE q' tk0 e (fun c o cz cT c1 c2 x => hq''.extBut _ _ cz (hq' _ _ c1 (hs0.extBut _ _ cz (hsq.extBut _ _ cz x)))) ⟨oe, hq''.extBut _ _ hez hoe, hce⟩
  | false =>
    simp only [Bool.false_eq_true, if_false]
    refine wpAny_bind ?_
    rw [← Array.forIn_toList]
    simp only [List.forIn_cons, List.forIn_nil]
    refine wpAny_bind (wpAny_bind (wpAny_holding ?_))
    show wpAny _ _ (Builtin.SmallTypes.nextOf (.ref i1) >>= _) _ _ ⟨hq, g, d, tk0, os⟩
    by_cases hlt1 : i < n1
    · refine wpAny_bind (D1.item i _ _ _ hlt1 (sq1) fun x1 p1 tk1 hx1 sn1 hp1 => wpAny_pure ?_)
      replace hp1 : Heap.SameBut i1 hq p1 := hp1
      refine wpAny_pure ?_
      refine wpAny_bind (wpAny_bind (wpAny_holding ?_))
      show wpAny _ _ (Builtin.SmallTypes.nextOf (.ref i2) >>= _) _ _ ⟨p1, g, d, tk1, os⟩
      by_cases hlt2 : i < n2
      · omega
      · have hi : i = n2 := by omega
        refine wpAny_bind (D2.done ⟨p1, g, d, tk1, os⟩ _ _ (by rw [← hi]; exact D2.over (sq2) hp1 S.sep1_2) fun q e hq' he => ?_)
        replace hq' : Heap.ExtBut i2 p1 q := hq'
        exact hE q tk1 e (fun c o cz cT c1 c2 x => hq' _ _ c2 (hp1.extBut _ _ c1 (hsq.extBut _ _ cz x))) he
    · have hi : i = n1 := by omega
      refine wpAny_bind (D1.done ⟨hq, g, d, tk0, os⟩ _ _ (by rw [← hi]; exact sq1) fun q e hq' he => ?_)
      replace hq' : Heap.ExtBut i1 hq q := hq'
      exact hE q tk0 e (fun c o cz cT c1 c2 x => hq' _ _ c1 (hsq.extBut _ _ cz x)) he
theorem zipA3_item {z TI TO i1 i2 i3 : Addr} {fp1 fp2 fp3 : List Addr} {n1 n2 n3 i : Nat} {P1 P2 P3 : Nat → Value → Prop} {St1 St2 St3 : Nat → Heap → Prop} {a1 a2 a3 f0 f1 : Value} {Q : Value → Shared → Prop} (S : ZipSep3 z TI TO i1 i2 i3 fp1 fp2 fp3) (D1 : Draws prog w A i1 fp1 n1 P1 St1) (D2 : Draws prog w A i2 fp2 n2 P2 St2) (D3 : Draws prog w A i3 fp3 n3 P3 St3)
    (hz : IsZipF s.heap z TI TO f0 f1) (hf : ZFld f0 f1) (hTI : IsTupOf3 s.heap TI (.ref i1) (.ref i2) (.ref i3)) (hTO : IsTupOf3 s.heap TO a1 a2 a3) (st1 : St1 i s.heap) (st2 : St2 i s.heap) (st3 : St3 i s.heap) (hlt1 : i < n1) (hlt2 : i < n2) (hlt3 : i < n3)
    (hQ : ∀ x1 x2 x3 h' tk, P1 i x1 → P2 i x2 → P3 i x3 → (∃ f0 f1, IsZipF h' z TI TO f0 f1 ∧ ZFld f0 f1) → (∃ a1 a2 a3, IsTupOf3 h' TO a1 a2 a3) → St1 (i + 1) h' → St2 (i + 1) h' → St3 (i + 1) h' → IsTupOf3 h' s.heap.objs.size x1 x2 x3 → h'.objs.size = s.heap.objs.size + 1 →
      (∀ c o, c ≠ z → c ≠ TO → c ≠ i1 → c ≠ i2 → c ≠ i3 → s.heap.get? c = some o → h'.get? c = some o) → Q (.ref s.heap.objs.size) { s with heap := h', toks := tk }) :
    wpAny (model prog w) A (Builtin.«zip.__next__» ⟨[.ref z], []⟩) (fun fin s' => ∃ v, fin = .done (.ret v) ∧ Q v s') E s := by
  obtain ⟨hp, g, d, tk0, os⟩ := s
  show wpAny _ _ (field (.ref z) 2 >>= _) _ _ _
  refine wpAny_bind (wpAny_field hz rfl (x := .bool false) rfl ?_)
  show wpAny _ _ (field (.ref z) 3 >>= _) _ _ _
  refine wpAny_bind (wpAny_field hz rfl (x := .ref TI) rfl ?_)
  refine wpAny_bind (wpAny_seqItems hTI rfl ?_)
  show wpAny _ _ (Builtin.SmallTypes.ownedTupleIsFree (.ref z) >>= _) _ _ _
  refine wpAny_bind (wpAny_isFreeZ hz hf fun b hq f2 hzq hf2 hsq => ?_)
  replace hzq : IsZipF hq z TI TO f0 f2 := hzq
  replace hsq : Heap.SameBut z hp hq := hsq
  have hTOq : IsTupOf3 hq TO a1 a2 a3 := hsq.extBut _ _ S.TOz hTO
  have sq1 : St1 i hq := D1.over st1 hsq S.zf1
  have sq2 : St2 i hq := D2.over st2 hsq S.zf2
  have sq3 : St3 i hq := D3.over st3 hsq S.zf3
  cases b with
  | true =>
    simp only [if_true]
    refine wpAny_bind (wpAny_rule ?_)
    refine wpAny_bind (wpAny_field (s := ⟨hq, g, d, tk0, os⟩) hzq rfl (x := .ref TO) rfl ?_)
    refine wpAny_bind (wpAny_setField_rec (s := ⟨hq, g, d, tk0, os⟩) hzq (by simp) fun g0 hz0 hs0 => ?_)
    replace hz0 : IsZipF g0 z TI TO .ellipsis f2 := hz0
    replace hs0 : Heap.SameBut z hq g0 := hs0
    refine wpAny_bind ?_
    simp only [List.zipIdx_cons, List.zipIdx_nil, List.forIn_cons, List.forIn_nil]
    refine wpAny_bind (wpAny_bind (wpAny_onRaise ?_))
    show wpAny _ _ (Builtin.SmallTypes.nextOf (.ref i1) >>= _) _ _ ⟨g0, g, d, tk0, os⟩
    refine wpAny_bind (D1.item i _ _ _ hlt1 (D1.over sq1 hs0 S.zf1) fun x1 p1 tk1 hx1 sn1 hp1 => wpAny_pure ?_)
    replace hp1 : Heap.SameBut i1 g0 p1 := hp1
    have hU1 : IsTupOf3 p1 TO a1 a2 a3 := hp1.extBut _ _ S.Ti1 (hs0.extBut _ _ S.TOz hTOq)
    refine wpAny_bind (wpAny_seqItems (s := ⟨p1, g, d, tk1, os⟩) hU1 rfl ?_)
    refine wpAny_bind (updateSeq_IsTupOf3 (s := ⟨p1, g, d, tk1, os⟩) hU1 fun g1 hT1 hs1 => ?_)
    replace hT1 : IsTupOf3 g1 TO x1 a2 a3 := hT1
    replace hs1 : Heap.SameBut TO p1 g1 := hs1
    refine wpAny_bind (wpAny_letGo (wpAny_pure ?_))
    refine wpAny_bind (wpAny_bind (wpAny_onRaise ?_))
    show wpAny _ _ (Builtin.SmallTypes.nextOf (.ref i2) >>= _) _ _ ⟨g1, g, d, tk1, os⟩
    refine wpAny_bind (D2.item i _ _ _ hlt2 (D2.over (D2.over (D2.over sq2 hs0 S.zf2) hp1 S.sep1_2) hs1 S.Tf2) fun x2 p2 tk2 hx2 sn2 hp2 => wpAny_pure ?_)
    replace hp2 : Heap.SameBut i2 g1 p2 := hp2
    have hU2 : IsTupOf3 p2 TO x1 a2 a3 := hp2.extBut _ _ S.Ti2 hT1
    refine wpAny_bind (wpAny_seqItems (s := ⟨p2, g, d, tk2, os⟩) hU2 rfl ?_)
    refine wpAny_bind (updateSeq_IsTupOf3 (s := ⟨p2, g, d, tk2, os⟩) hU2 fun g2 hT2 hs2 => ?_)
    replace hT2 : IsTupOf3 g2 TO x1 x2 a3 := hT2
    replace hs2 : Heap.SameBut TO p2 g2 := hs2
    refine wpAny_bind (wpAny_letGo (wpAny_pure ?_))
    refine wpAny_bind (wpAny_bind (wpAny_onRaise ?_))
    show wpAny _ _ (Builtin.SmallTypes.nextOf (.ref i3) >>= _) _ _ ⟨g2, g, d, tk2, os⟩
    refine wpAny_bind (D3.item i _ _ _ hlt3 (D3.over (D3.over (D3.over (D3.over (D3.over sq3 hs0 S.zf3) hp1 S.sep1_3) hs1 S.Tf3) hp2 S.sep2_3) hs2 S.Tf3) fun x3 p3 tk3 hx3 sn3 hp3 => wpAny_pure ?_)
    replace hp3 : Heap.SameBut i3 g2 p3 := hp3
    have hU3 : IsTupOf3 p3 TO x1 x2 a3 := hp3.extBut _ _ S.Ti3 hT2
    refine wpAny_bind (wpAny_seqItems (s := ⟨p3, g, d, tk3, os⟩) hU3 rfl ?_)
    refine wpAny_bind (updateSeq_IsTupOf3 (s := ⟨p3, g, d, tk3, os⟩) hU3 fun g3 hT3 hs3 => ?_)
    replace hT3 : IsTupOf3 g3 TO x1 x2 x3 := hT3
    replace hs3 : Heap.SameBut TO p3 g3 := hs3
    refine wpAny_bind (wpAny_letGo (wpAny_pure (wpAny_pure ?_)))
    refine wpAny_bind (wpAny_seqItems (s := ⟨g3, g, d, tk3, os⟩) hT3 rfl ?_)
    refine wpAny_bind (wpAny_newTuple ?_)
    have hsz : g3.objs.size = hp.objs.size := by rw [hs3.1, hp3.1, hs2.1, hp2.1, hs1.1, hp1.1, hs0.1, hsq.1]
    have hzz : IsZipF g3 z TI TO .ellipsis f2 := hs3.extBut _ _ S.TOz.symm (hp3.extBut _ _ S.zi3 (hs2.extBut _ _ S.TOz.symm (hp2.extBut _ _ S.zi2 (hs1.extBut _ _ S.TOz.symm (hp1.extBut _ _ S.zi1 (hz0))))))
    have hkk : ∀ c o, c ≠ z → c ≠ TO → c ≠ i1 → c ≠ i2 → c ≠ i3 → hp.get? c = some o → g3.get? c = some o := fun c o cz cT c1 c2 c3 e => hs3.extBut _ _ cT (hp3.extBut _ _ c3 (hs2.extBut _ _ cT (hp2.extBut _ _ c2 (hs1.extBut _ _ cT (hp1.extBut _ _ c1 (hs0.extBut _ _ cz (hsq.extBut _ _ cz e)))))))
    have hj1 : St1 (i + 1) g3 := D1.over (D1.over (D1.over (D1.over (D1.over sn1 hs1 S.Tf1) hp2 S.sep2_1) hs2 S.Tf1) hp3 S.sep3_1) hs3 S.Tf1
    have hj2 : St2 (i + 1) g3 := D2.over (D2.over (D2.over sn2 hs2 S.Tf2) hp3 S.sep3_2) hs3 S.Tf2
    have hj3 : St3 (i + 1) g3 := D3.over sn3 hs3 S.Tf3
    have hzlt : z < g3.objs.size := Heap.lt_size hzz
    show wpAny _ _ (Builtin.SmallTypes.ownedTupleHandOut (.ref z) (.ref g3.objs.size) >>= _) _ _ ⟨g3.push { cls := .type "tuple", data := .seq #[x1, x2, x3] }, g, d, tk3, os⟩
    refine wpAny_bind ?_
    unfold Builtin.SmallTypes.ownedTupleHandOut
    have hz6 : IsZipF (g3.push { cls := .type "tuple", data := .seq #[x1, x2, x3] }) z TI TO .ellipsis f2 := Heap.get?_push_of_some _ hzz
    refine wpAny_bind (wpAny_setField_rec hz6 (by simp) fun h7 hz7 hs7 => ?_)
    replace hz7 : IsZipF h7 z TI TO (rawInt g3.objs.size) f2 := hz7
    refine wpAny_setField_rec hz7 (by simp) fun h8 hz8 hs8 => ?_
    replace hz8 : IsZipF h8 z TI TO (rawInt g3.objs.size) (.bool false) := hz8
    replace hs7 : Heap.SameBut z (g3.push { cls := .type "tuple", data := .seq #[x1, x2, x3] }) h7 := hs7
    replace hs8 : Heap.SameBut z h7 h8 := hs8
    have up : ∀ c o, c ≠ z → g3.get? c = some o → h8.get? c = some o := fun c o c1 e => hs8.extBut _ _ c1 (hs7.extBut _ _ c1 (Heap.get?_push_of_some _ e))
    have hT8 : IsTupOf3 h8 g3.objs.size x1 x2 x3 := hs8.extBut _ _ (Nat.ne_of_gt hzlt) (hs7.extBut _ _ (Nat.ne_of_gt hzlt) (Heap.get?_push_size _ rfl))
    have hz9 : h8.objs.size = g3.objs.size + 1 := by rw [hs8.1, hs7.1, Heap.size_push]
    rw [hsz] at hz8 hT8 hz9
    refine wpAny_pure ⟨_, rfl, ?_⟩
    show Q (.ref g3.objs.size) ⟨h8, g, d, tk3, os⟩
    rw [hsz]
    exact hQ x1 x2 x3 h8 tk3 hx1 hx2 hx3 ⟨_, _, hz8, .inr ⟨_, rfl⟩, _, rfl⟩ ⟨x1, x2, x3, up _ _ S.TOz hT3⟩ (D1.frame _ _ _ hj1 fun b hb o e => up b o (fun q => S.zf1 (q ▸ hb)) e) (D2.frame _ _ _ hj2 fun b hb o e => up b o (fun q => S.zf2 (q ▸ hb)) e) (D3.frame _ _ _ hj3 fun b hb o e => up b o (fun q => S.zf3 (q ▸ hb)) e) hT8 hz9 fun c o cz cT c1 c2 c3 e => up c o cz (hkk c o cz cT c1 c2 c3 e)
  | false =>
    simp only [Bool.false_eq_true, if_false]
    refine wpAny_bind ?_
    rw [← Array.forIn_toList]
    simp only [List.forIn_cons, List.forIn_nil]
    refine wpAny_bind (wpAny_bind (wpAny_holding ?_))
    show wpAny _ _ (Builtin.SmallTypes.nextOf (.ref i1) >>= _) _ _ ⟨hq, g, d, tk0, os⟩
    refine wpAny_bind (D1.item i _ _ _ hlt1 (sq1) fun x1 p1 tk1 hx1 sn1 hp1 => wpAny_pure ?_)
    replace hp1 : Heap.SameBut i1 hq p1 := hp1
    refine wpAny_pure ?_
    refine wpAny_bind (wpAny_bind (wpAny_holding ?_))
    show wpAny _ _ (Builtin.SmallTypes.nextOf (.ref i2) >>= _) _ _ ⟨p1, g, d, tk1, os⟩
    refine wpAny_bind (D2.item i _ _ _ hlt2 (D2.over (sq2) hp1 S.sep1_2) fun x2 p2 tk2 hx2 sn2 hp2 => wpAny_pure ?_)
    replace hp2 : Heap.SameBut i2 p1 p2 := hp2
    refine wpAny_pure ?_
    refine wpAny_bind (wpAny_bind (wpAny_holding ?_))
    show wpAny _ _ (Builtin.SmallTypes.nextOf (.ref i3) >>= _) _ _ ⟨p2, g, d, tk2, os⟩
    refine wpAny_bind (D3.item i _ _ _ hlt3 (D3.over (D3.over (sq3) hp1 S.sep1_3) hp2 S.sep2_3) fun x3 p3 tk3 hx3 sn3 hp3 => wpAny_pure ?_)
    replace hp3 : Heap.SameBut i3 p2 p3 := hp3
    refine wpAny_pure (wpAny_pure ?_)
    show wpAny _ _ (newTuple [x1, x2, x3] >>= _) _ _ ⟨p3, g, d, tk3, os⟩
    refine wpAny_bind (wpAny_newTuple ?_)
    have hsz : p3.objs.size = hp.objs.size := by rw [hp3.1, hp2.1, hp1.1, hsq.1]
    have hzz : IsZipF p3 z TI TO f0 f2 := hp3.extBut _ _ S.zi3 (hp2.extBut _ _ S.zi2 (hp1.extBut _ _ S.zi1 (hzq)))
    have hTOn : IsTupOf3 p3 TO a1 a2 a3 := hp3.extBut _ _ S.Ti3 (hp2.extBut _ _ S.Ti2 (hp1.extBut _ _ S.Ti1 (hTOq)))
    have hkk : ∀ c o, c ≠ z → c ≠ TO → c ≠ i1 → c ≠ i2 → c ≠ i3 → hp.get? c = some o → p3.get? c = some o := fun c o cz cT c1 c2 c3 e => hp3.extBut _ _ c3 (hp2.extBut _ _ c2 (hp1.extBut _ _ c1 (hsq.extBut _ _ cz e)))
    have hj1 : St1 (i + 1) p3 := D1.over (D1.over (sn1) hp2 S.sep2_1) hp3 S.sep3_1
    have hj2 : St2 (i + 1) p3 := D2.over (sn2) hp3 S.sep3_2
    have hj3 : St3 (i + 1) p3 := sn3
    have up : ∀ c o, p3.get? c = some o → (p3.push { cls := .type "tuple", data := .seq #[x1, x2, x3] }).get? c = some o := fun c o e => Heap.get?_push_of_some _ e
    have hT8 : IsTupOf3 (p3.push { cls := .type "tuple", data := .seq #[x1, x2, x3] }) p3.objs.size x1 x2 x3 := Heap.get?_push_size _ rfl
    have hz9 : (p3.push { cls := .type "tuple", data := .seq #[x1, x2, x3] }).objs.size = p3.objs.size + 1 := Heap.size_push ..
    rw [hsz] at hT8 hz9
    refine wpAny_pure ⟨_, rfl, ?_⟩
    show Q (.ref p3.objs.size) ⟨_, g, d, tk3, os⟩
    rw [hsz]
    exact hQ x1 x2 x3 _ tk3 hx1 hx2 hx3 ⟨_, _, up _ _ hzz, hf.1, hf2⟩ ⟨a1, a2, a3, up _ _ hTOn⟩ (D1.frame _ _ _ hj1 fun b hb o e => up b o e) (D2.frame _ _ _ hj2 fun b hb o e => up b o e) (D3.frame _ _ _ hj3 fun b hb o e => up b o e) hT8 hz9 fun c o cz cT c1 c2 c3 e => up c o (hkk c o cz cT c1 c2 c3 e)
theorem zipA3_end {z TI TO i1 i2 i3 : Addr} {fp1 fp2 fp3 : List Addr} {n1 n2 n3 i : Nat} {P1 P2 P3 : Nat → Value → Prop} {St1 St2 St3 : Nat → Heap → Prop} {a1 a2 a3 f0 f1 : Value} {Q : Fin → Shared → Prop} (S : ZipSep3 z TI TO i1 i2 i3 fp1 fp2 fp3) (D1 : Draws prog w A i1 fp1 n1 P1 St1) (D2 : Draws prog w A i2 fp2 n2 P2 St2) (D3 : Draws prog w A i3 fp3 n3 P3 St3)
    (hz : IsZipF s.heap z TI TO f0 f1) (hf : ZFld f0 f1) (hTI : IsTupOf3 s.heap TI (.ref i1) (.ref i2) (.ref i3)) (hTO : IsTupOf3 s.heap TO a1 a2 a3) (st1 : St1 i s.heap) (st2 : St2 i s.heap) (st3 : St3 i s.heap) (hle1 : i ≤ n1) (hle2 : i ≤ n2) (hle3 : i ≤ n3) (hend : i = n1 ∨ i = n2 ∨ i = n3)
    (hE : ∀ h' tk e, (∀ c o, c ≠ z → c ≠ TO → c ≠ i1 → c ≠ i2 → c ≠ i3 → s.heap.get? c = some o → h'.get? c = some o) → (∃ o, h'.get? e = some o ∧ o.cls = .type "StopIteration") → E (.ref e) { s with heap := h', toks := tk }) :
    wpAny (model prog w) A (Builtin.«zip.__next__» ⟨[.ref z], []⟩) Q E s := by
  obtain ⟨hp, g, d, tk0, os⟩ := s
  show wpAny _ _ (field (.ref z) 2 >>= _) _ _ _
  refine wpAny_bind (wpAny_field hz rfl (x := .bool false) rfl ?_)
  show wpAny _ _ (field (.ref z) 3 >>= _) _ _ _
  refine wpAny_bind (wpAny_field hz rfl (x := .ref TI) rfl ?_)
  refine wpAny_bind (wpAny_seqItems hTI rfl ?_)
  show wpAny _ _ (Builtin.SmallTypes.ownedTupleIsFree (.ref z) >>= _) _ _ _
  refine wpAny_bind (wpAny_isFreeZ hz hf fun b hq f2 hzq hf2 hsq => ?_)
  replace hzq : IsZipF hq z TI TO f0 f2 := hzq
  replace hsq : Heap.SameBut z hp hq := hsq
  have hTOq : IsTupOf3 hq TO a1 a2 a3 := hsq.extBut _ _ S.TOz hTO
  have sq1 : St1 i hq := D1.over st1 hsq S.zf1
  have sq2 : St2 i hq := D2.over st2 hsq S.zf2
  have sq3 : St3 i hq := D3.over st3 hsq S.zf3
  cases b with
  | true =>
    simp only [if_true]
    refine wpAny_bind (wpAny_rule ?_)
    refine wpAny_bind (wpAny_field (s := ⟨hq, g, d, tk0, os⟩) hzq rfl (x := .ref TO) rfl ?_)
    refine wpAny_bind (wpAny_setField_rec (s := ⟨hq, g, d, tk0, os⟩) hzq (by simp) fun g0 hz0 hs0 => ?_)
    replace hz0 : IsZipF g0 z TI TO .ellipsis f2 := hz0
    replace hs0 : Heap.SameBut z hq g0 := hs0
    refine wpAny_bind ?_
    simp only [List.zipIdx_cons, List.zipIdx_nil, List.forIn_cons, List.forIn_nil]
    refine wpAny_bind (wpAny_bind (wpAny_onRaise ?_))
    show wpAny _ _ (Builtin.SmallTypes.nextOf (.ref i1) >>= _) _ _ ⟨g0, g, d, tk0, os⟩
    by_cases hlt1 : i < n1
    · refine wpAny_bind (D1.item i _ _ _ hlt1 (D1.over sq1 hs0 S.zf1) fun x1 p1 tk1 hx1 sn1 hp1 => wpAny_pure ?_)
      replace hp1 : Heap.SameBut i1 g0 p1 := hp1
      have hU1 : IsTupOf3 p1 TO a1 a2 a3 := hp1.extBut _ _ S.Ti1 (hs0.extBut _ _ S.TOz hTOq)
      refine wpAny_bind (wpAny_seqItems (s := ⟨p1, g, d, tk1, os⟩) hU1 rfl ?_)
      refine wpAny_bind (updateSeq_IsTupOf3 (s := ⟨p1, g, d, tk1, os⟩) hU1 fun g1 hT1 hs1 => ?_)
      replace hT1 : IsTupOf3 g1 TO x1 a2 a3 := hT1
      replace hs1 : Heap.SameBut TO p1 g1 := hs1
      refine wpAny_bind (wpAny_letGo (wpAny_pure ?_))
      refine wpAny_bind (wpAny_bind (wpAny_onRaise ?_))
      show wpAny _ _ (Builtin.SmallTypes.nextOf (.ref i2) >>= _) _ _ ⟨g1, g, d, tk1, os⟩
      by_cases hlt2 : i < n2
      · refine wpAny_bind (D2.item i _ _ _ hlt2 (D2.over (D2.over (D2.over sq2 hs0 S.zf2) hp1 S.sep1_2) hs1 S.Tf2) fun x2 p2 tk2 hx2 sn2 hp2 => wpAny_pure ?_)
        replace hp2 : Heap.SameBut i2 g1 p2 := hp2
        have hU2 : IsTupOf3 p2 TO x1 a2 a3 := hp2.extBut _ _ S.Ti2 hT1
        refine wpAny_bind (wpAny_seqItems (s := ⟨p2, g, d, tk2, os⟩) hU2 rfl ?_)
        refine wpAny_bind (updateSeq_IsTupOf3 (s := ⟨p2, g, d, tk2, os⟩) hU2 fun g2 hT2 hs2 => ?_)
        replace hT2 : IsTupOf3 g2 TO x1 x2 a3 := hT2
        replace hs2 : Heap.SameBut TO p2 g2 := hs2
        refine wpAny_bind (wpAny_letGo (wpAny_pure ?_))
        refine wpAny_bind (wpAny_bind (wpAny_onRaise ?_))
        show wpAny _ _ (Builtin.SmallTypes.nextOf (.ref i3) >>= _) _ _ ⟨g2, g, d, tk2, os⟩
        by_cases hlt3 : i < n3
        · omega
        · have hi : i = n3 := by omega
          refine wpAny_bind (D3.done ⟨g2, g, d, tk2, os⟩ _ _ (by rw [← hi]; exact D3.over (D3.over (D3.over (D3.over (D3.over sq3 hs0 S.zf3) hp1 S.sep1_3) hs1 S.Tf3) hp2 S.sep2_3) hs2 S.Tf3) fun q e hq' he => ?_)
          replace hq' : Heap.ExtBut i3 g2 q := hq'
          obtain ⟨oe, hoe, hce⟩ := he
          replace hoe : q.get? e = some oe := hoe
          have hzq' : IsZipF q z TI TO .ellipsis f2 := hq' _ _ S.zi3 (hs2.extBut _ _ S.TOz.symm (hp2.extBut _ _ S.zi2 (hs1.extBut _ _ S.TOz.symm (hp1.extBut _ _ S.zi1 (hz0)))))
          have hez : e ≠ z := fun x => by subst x; rw [hzq'] at hoe; cases hoe; simp at hce
          refine wpAny_setField_rec (s := ⟨q, g, d, tk2, os⟩) hzq' (by simp) fun q' _ hq'' => ?_
          replace hq'' : Heap.SameBut z q q' := hq''
          exact hE q' tk2 e (fun c o cz cT c1 c2 c3 x => hq''.extBut _ _ cz (hq' _ _ c3 (hs2.extBut _ _ cT (hp2.extBut _ _ c2 (hs1.extBut _ _ cT (hp1.extBut _ _ c1 (hs0.extBut _ _ cz (hsq.extBut _ _ cz x)))))))) ⟨oe, hq''.extBut _ _ hez hoe, hce⟩
      · have hi : i = n2 := by omega
        refine wpAny_bind (D2.done ⟨g1, g, d, tk1, os⟩ _ _ (by rw [← hi]; exact D2.over (D2.over (D2.over sq2 hs0 S.zf2) hp1 S.sep1_2) hs1 S.Tf2) fun q e hq' he => ?_)
        replace hq' : Heap.ExtBut i2 g1 q := hq'
        obtain ⟨oe, hoe, hce⟩ := he
        replace hoe : q.get? e = some oe := hoe
        have hzq' : IsZipF q z TI TO .ellipsis f2 := hq' _ _ S.zi2 (hs1.extBut _ _ S.TOz.symm (hp1.extBut _ _ S.zi1 (hz0)))
        have hez : e ≠ z := fun x => by subst x; rw [hzq'] at hoe; cases hoe; simp at hce
        refine wpAny_setField_rec (s := ⟨q, g, d, tk1, os⟩) hzq' (by simp) fun q' _ hq'' => ?_
        replace hq'' : Heap.SameBut z q q' := hq''
        exact hE q' tk1 e (fun c o cz cT c1 c2 c3 x => hq''.extBut _ _ cz (hq' _ _ c2 (hs1.extBut _ _ cT (hp1.extBut _ _ c1 (hs0.extBut _ _ cz (hsq.extBut _ _ cz x)))))) ⟨oe, hq''.extBut _ _ hez hoe, hce⟩
    · have hi : i = n1 := by omega
      refine wpAny_bind (D1.done ⟨g0, g, d, tk0, os⟩ _ _ (by rw [← hi]; exact D1.over sq1 hs0 S.zf1) fun q e hq' he => ?_)
      replace hq' : Heap.ExtBut i1 g0 q := hq'
      obtain ⟨oe, hoe, hce⟩ := he
      replace hoe : q.get? e = some oe := hoe
      have hzq' : IsZipF q z TI TO .ellipsis f2 := hq' _ _ S.zi1 (hz0)
      have hez : e ≠ z := fun x => by subst x; rw [hzq'] at hoe; cases hoe; simp at hce
      refine wpAny_setField_rec (s := ⟨q, g, d, tk0, os⟩) hzq' (by simp) fun q' _ hq'' => ?_
      replace hq'' : Heap.SameBut z q q' := hq''
      exact hE q' tk0 e (fun c o cz cT c1 c2 c3 x => hq''.extBut _ _ cz (hq' _ _ c1 (hs0.extBut _ _ cz (hsq.extBut _ _ cz x)))) ⟨oe, hq''.extBut _ _ hez hoe, hce⟩
  | false =>
    simp only [Bool.false_eq_true, if_false]
    refine wpAny_bind ?_
    rw [← Array.forIn_toList]
    simp only [List.forIn_cons, List.forIn_nil]
    refine wpAny_bind (wpAny_bind (wpAny_holding ?_))
    show wpAny _ _ (Builtin.SmallTypes.nextOf (.ref i1) >>= _) _ _ ⟨hq, g, d, tk0, os⟩
    by_cases hlt1 : i < n1
    · refine wpAny_bind (D1.item i _ _ _ hlt1 (sq1) fun x1 p1 tk1 hx1 sn1 hp1 => wpAny_pure ?_)
      replace hp1 : Heap.SameBut i1 hq p1 := hp1
      refine wpAny_pure ?_
      refine wpAny_bind (wpAny_bind (wpAny_holding ?_))
      show wpAny _ _ (Builtin.SmallTypes.nextOf (.ref i2) >>= _) _ _ ⟨p1, g, d, tk1, os⟩
      by_cases hlt2 : i < n2
      · refine wpAny_bind (D2.item i _ _ _ hlt2 (D2.over (sq2) hp1 S.sep1_2) fun x2 p2 tk2 hx2 sn2 hp2 => wpAny_pure ?_)
        replace hp2 : Heap.SameBut i2 p1 p2 := hp2
        refine wpAny_pure ?_
        refine wpAny_bind (wpAny_bind (wpAny_holding ?_))
        show wpAny _ _ (Builtin.SmallTypes.nextOf (.ref i3) >>= _) _ _ ⟨p2, g, d, tk2, os⟩
        by_cases hlt3 : i < n3
        · omega
        · have hi : i = n3 := by omega
          refine wpAny_bind (D3.done ⟨p2, g, d, tk2, os⟩ _ _ (by rw [← hi]; exact D3.over (D3.over (sq3) hp1 S.sep1_3) hp2 S.sep2_3) fun q e hq' he => ?_)
          replace hq' : Heap.ExtBut i3 p2 q := hq'
          exact hE q tk2 e (fun c o cz cT c1 c2 c3 x => hq' _ _ c3 (hp2.extBut _ _ c2 (hp1.extBut _ _ c1 (hsq.extBut _ _ cz x)))) he
      · have hi : i = n2 := by omega
        refine wpAny_bind (D2.done ⟨p1, g, d, tk1, os⟩ _ _ (by rw [← hi]; exact D2.over (sq2) hp1 S.sep1_2) fun q e hq' he => ?_)
        replace hq' : Heap.ExtBut i2 p1 q := hq'
        exact hE q tk1 e (fun c o cz cT c1 c2 c3 x => hq' _ _ c2 (hp1.extBut _ _ c1 (hsq.extBut _ _ cz x))) he
    · have hi : i = n1 := by omega
      refine wpAny_bind (D1.done ⟨hq, g, d, tk0, os⟩ _ _ (by rw [← hi]; exact sq1) fun q e hq' he => ?_)
      replace hq' : Heap.ExtBut i1 hq q := hq'
      exact hE q tk0 e (fun c o cz cT c1 c2 c3 x => hq' _ _ c1 (hsq.extBut _ _ cz x)) he
end
end K37

set_option Elab.async false
set_option linter.all false
set_option maxRecDepth 100000
set_option maxHeartbeats 4000000
/-! list(zip(x, y, z)) -/
namespace K37
open PySem PySem.Spec PyProof.Rows L2 RZ

/-- an iterator that gives new tuples -/
structure HW (prog : Program) (w : World) (A : Around) (I : Addr) (fp wr : List Addr) (n : Nat) (vals : Nat → Array Value) (St : Nat → Heap → Prop) : Prop where
  sub : ∀ b ∈ wr, b ∈ fp
  frame : ∀ i h h', St i h → (∀ b ∈ fp, ∀ o, h.get? b = some o → h'.get? b = some o) → St i h'
  there : ∀ i h, St i h → ∀ b ∈ fp, b < h.objs.size
  item : ∀ i (s : Shared) (Q : Option Value → Shared → Prop) (E : Value → Shared → Prop), i < n → St i s.heap →
    (∀ h' tk, St (i + 1) h' → h'.get? s.heap.objs.size = some { cls := .type "tuple", data := .seq (vals i) } → h'.objs.size = s.heap.objs.size + 1 → (∀ b o, b ∉ wr → s.heap.get? b = some o → h'.get? b = some o) → Q (some (.ref s.heap.objs.size)) { s with heap := h', toks := tk }) →
    wpAny (model prog w) A (pyNext (.ref I)) Q E s
  done : ∀ (s : Shared) (Q : Option Value → Shared → Prop) (E : Value → Shared → Prop), St n s.heap → (∀ h' tk, (∀ b o, b ∉ wr → s.heap.get? b = some o → h'.get? b = some o) → Q none { s with heap := h', toks := tk }) → wpAny (model prog w) A (pyNext (.ref I)) Q E s
  self : ∀ (A : Around) i (s : Shared) (Q : Value → Shared → Prop) (E : Value → Shared → Prop), St i s.heap → Q (.ref I) s → wpAny (model prog w) A (pyIter (.ref I)) Q E s
  type : ∀ i (s : Shared), St i s.heap → s.TypeIs (.ref I) "zip"
structure HG (fp : List Addr) (vals : Nat → Array Value) (S : Addr) (h : Heap) (as : List Addr) : Prop where
  rise : as.Pairwise (· < ·)
  above : ∀ a ∈ as, S < a
  off : ∀ a ∈ as, a ∉ fp
  at_ : ∀ (j : Nat) (a : Addr), as[j]? = some a → h.get? a = some { cls := .type "tuple", data := .seq (vals j) }
theorem HG.there {fp : List Addr} {vals : Nat → Array Value} {S : Addr} {h : Heap} {as : List Addr} (g : HG fp vals S h as) {a : Addr} (ha : a ∈ as) : a < h.objs.size := by
  obtain ⟨j, hj⟩ := List.mem_iff_getElem?.mp ha
  exact Heap.lt_size (g.at_ j a hj)
section
variable {prog : Program} {w : World} {A : Around} {E : Value → Shared → Prop} {s : Shared} {I : Addr} {fp wr : List Addr} {n : Nat} {vals : Nat → Array Value} {St : Nat → Heap → Prop}
theorem hw_loop (W : HW prog w A.in1 I fp wr n vals St) (hn : n ≤ sizeLine) (S : Addr) (hSf : S ∉ fp) (res : Value) {R : Result → Shared → Prop} {h1 : Heap}
    (hR : ∀ h' tk acc c as, (∀ b o, b ≠ S → b ∉ wr → h1.get? b = some o → h'.get? b = some o) → h'.get? S = some { cls := .type "list", dict := none, data := .seq acc c, slots := #[] } → as.length = n → HG fp vals S h' as →
      acc.toList = as.map Value.ref → R (.ok (.ret res)) { s with heap := h', toks := tk }) :
    ∀ (k i : Nat) (h : Heap) (tk c : Nat) (acc : Array Value) (as : List Addr), n - i = k → i ≤ n → St i h → (∀ b o, b ≠ S → b ∉ wr → h1.get? b = some o → h.get? b = some o) →
      h.get? S = some { cls := .type "list", dict := none, data := .seq acc c, slots := #[] } → acc.toList = as.map Value.ref → as.length = i → HG fp vals S h as →
      codeAny (model prog w) A (.builtin "list.extend.loop" ⟨[.ref S, .ref I, res], []⟩) R { s with heap := h, toks := tk } := by
  have hSw : S ∉ wr := fun h => hSf (W.sub _ h)
  intro k
  induction k with
  | zero =>
    intro i h tk c acc as hk hi hst hkeep hS hacc hal hG
    have hin : i = n := by omega
    refine codeAny_builtin PySem.F.entry_extend_loop ?_
    rw [Around.under_plainId PySem.F.plain_extend_loop _]
    show wpAny _ A.in1 (pyNext (.ref I) >>= _) _ _ _
    refine wpAny_bind (W.done { s with heap := h, toks := tk } _ _ (by rw [← hin]; exact hst) fun h' tk' he => ?_)
    refine wpAny_pure (hR h' tk' acc c as (fun b o h1 h2 e => he b o h2 (hkeep b o h1 h2 e)) (he S _ hSw hS) (by omega) ⟨hG.rise, hG.above, hG.off, fun j a hj => ?_⟩ hacc)
    exact he a _ (fun z => hG.off a (List.mem_of_getElem? hj) (W.sub _ z)) (hG.at_ j a hj)
  | succ k ih =>
    intro i h tk c acc as hk hi hst hkeep hS hacc hal hG
    have hlt : i < n := by omega
    have hsz : acc.size = i := by rw [← Array.length_toList, hacc, List.length_map, hal]
    refine codeAny_builtin PySem.F.entry_extend_loop ?_
    rw [Around.under_plainId PySem.F.plain_extend_loop _]
    show wpAny _ A.in1 (pyNext (.ref I) >>= _) _ _ _
    refine wpAny_bind (W.item i { s with heap := h, toks := tk } _ _ hlt hst fun h' tk' hst' ht hz hkp => ?_)
    dsimp only at ht hz hkp ⊢
    have hS' := hkp S _ hSw hS
    have up : ∀ b o, b ≠ S → h'.get? b = some o → (h'.update S (Obj.mapSeq (·.push (Value.ref h.objs.size)))).get? b = some o := fun b o hb e => (Heap.get?_update_other _ _ (Ne.symm hb)).trans e
    have hSl : S < h.objs.size := Heap.lt_size hS
    show wpAny _ A.in1 (updateSeq S (·.push (Value.ref h.objs.size)) >>= _) _ _ _
    refine wpAny_bind ?_
    refine wpAny_updateSeq hS' rfl (wpAny_pure ⟨plainId_quiet PySem.F.plain_extend_loop _, ih (i + 1) _ tk' _ (acc.push (Value.ref h.objs.size)) (as ++ [h.objs.size]) (by omega) hlt (W.frame _ _ _ hst' fun b hb o e => up b o (fun z => hSf (z ▸ hb)) e)
      (fun b o h1 h2 e => up b o h1 (hkp b o h2 (hkeep b o h1 h2 e))) (Heap.get?_update_self _ hS' rfl) (by rw [Array.toList_push, hacc, List.map_append]; rfl) (by rw [List.length_append, hal]; rfl) ⟨?_, ?_, ?_, ?_⟩⟩) (by rw [hsz]; omega) (by show (acc.push (Value.ref h.objs.size)).size ≤ sizeLine + 1; rw [Array.size_push, hsz]; omega)
    · refine List.pairwise_append.mpr ⟨hG.rise, List.pairwise_singleton _ _, fun a ha b hb => ?_⟩
      rw [List.mem_singleton.mp hb]
      exact hG.there ha
    · intro a ha
      rcases List.mem_append.mp ha with ha | ha
      · exact hG.above a ha
      · rw [List.mem_singleton.mp ha]; exact hSl
    · intro a ha
      rcases List.mem_append.mp ha with ha | ha
      · exact hG.off a ha
      · rw [List.mem_singleton.mp ha]
        exact fun z => Nat.lt_irrefl _ (W.there _ _ hst _ z)
    · intro j b hj
      rcases Nat.lt_trichotomy j as.length with h1 | h1 | h1
      · rw [List.getElem?_append_left h1] at hj
        have e3 := hG.at_ j b hj
        have hb := hG.above b (List.mem_of_getElem? hj)
        exact up b _ (Nat.ne_of_gt hb) (hkp b _ (fun z => hG.off b (List.mem_of_getElem? hj) (W.sub _ z)) e3)
      · subst h1
        have hb : h.objs.size = b := by simpa using hj
        subst hb
        subst hal
        exact up _ _ (Nat.ne_of_gt hSl) ht
      · have hnone : (as ++ [h.objs.size])[j]? = none := List.getElem?_eq_none (by rw [List.length_append, List.length_singleton]; omega)
        rw [hnone] at hj; cases hj
theorem zip_no_len : typeLookup (.type "zip") "__len__" = pure none := am_miss_of_fast (by decide +kernel)
theorem zip_no_hint : typeLookup (.type "zip") "__length_hint__" = pure none := am_miss_of_fast (by decide +kernel)
theorem hw_extend (W : HW prog w A.in1 I fp wr n vals St) (hn : n ≤ sizeLine) (S : Addr) (hSf : S ∉ fp) (hI : I ∈ fp) (res : Value) (c0 : Nat) (hst : St 0 s.heap) (hS : s.heap.get? S = some { cls := .type "list", data := .seq #[] c0 }) {R : Result → Shared → Prop}
    (hR : ∀ h' tk acc c as, (∀ b o, b ≠ S → b ∉ wr → s.heap.get? b = some o → h'.get? b = some o) → h'.get? S = some { cls := .type "list", dict := none, data := .seq acc c, slots := #[] } → as.length = n → HG fp vals S h' as →
      acc.toList = as.map Value.ref → R (.ok (.ret res)) { s with heap := h', toks := tk }) :
    wpAny (model prog w) A.in1 (Builtin.List.listExtendWith (.ref S) (.ref I) res)
      (fun fin s' => match fin with | .done f => R (.ok f) s' | .again c' => c'.quiet = true ∧ codeAny (model prog w) A c' R s') (fun e s' => R (.error e) s') s := by
  have hSI : S ≠ I := fun e => hSf (e ▸ hI)
  unfold Builtin.List.listExtendWith
  refine wpAny_bind (wpAny_typeOf (W.type 0 s hst) ?_)
  have h1 : Builtin.List.listSameRef (.ref S) (.ref I) = false := by simp [Builtin.List.listSameRef, hSI]
  have h2 : (Value.type "zip" == Value.type "list") = false := by decide
  have h3 : (Value.type "zip" == Value.type "tuple") = false := by decide
  simp only [h1, h2, h3, Bool.or_false, Bool.false_eq_true, if_false]
  refine wpAny_bind (W.self _ 0 s _ _ hst ?_)
  refine wpAny_bind (wpAny_holding ?_)
  unfold Builtin.List.listLengthHint
  refine wpAny_bind (wpAny_specialOf (W.type 0 s hst) zip_no_len ?_)
  show wpAny _ A.in1 (specialOf (Value.ref I) (Str.ofString "__length_hint__") >>= _) _ _ _
  refine wpAny_bind (wpAny_specialOf (W.type 0 s hst) zip_no_hint ?_)
  refine wpAny_pure ?_
  show wpAny _ A.in1 (rule "list.extend.makes-room" >>= fun _ => Builtin.List.listTouch (.ref S) >>= fun _ =>
    again (.builtin "list.extend.loop" ⟨[.ref S, .ref I, res], []⟩)) _ _ _
  refine wpAny_bind (wpAny_rule ?_)
  refine wpAny_bind ?_
  show wpAny _ A.in1 (updateSeq S (·.push .none) >>= fun _ => updateSeq S (·.pop)) _ _ _
  refine wpAny_bind (wpAny_updateSeq hS rfl ?_)
  have hS2 := Heap.get?_update_self (Obj.mapSeq (·.push Value.none)) hS rfl
  refine wpAny_updateSeq (hz := by seq_fits) hS2 rfl ?_
  have hS3 := Heap.get?_update_self (Obj.mapSeq (·.pop)) hS2 rfl
  have oth : ∀ b o, b ≠ S → s.heap.get? b = some o → ((s.heap.update S (Obj.mapSeq (·.push Value.none))).update S (Obj.mapSeq (·.pop))).get? b = some o :=
    fun b o hb e => (Heap.get?_update_other _ _ (Ne.symm hb)).trans ((Heap.get?_update_other _ _ (Ne.symm hb)).trans e)
  refine wpAny_pure ⟨plainId_quiet PySem.F.plain_extend_loop _, hw_loop (s := s) (h1 := s.heap) W hn S hSf res (fun h' tk acc c as hk hS' hl hG hacc => hR h' tk acc c as hk hS' hl hG hacc) n 0 _ s.toks _ #[] [] rfl (Nat.zero_le _)
    (W.frame 0 _ _ hst fun b hb o e => oth b o (fun h => hSf (h ▸ hb)) e) (fun b o hb _ e => oth b o hb e) hS3 rfl rfl ⟨List.Pairwise.nil, (fun _ ha => nomatch ha), (fun _ ha => nomatch ha), (fun j a hj => by simp at hj)⟩⟩
theorem hw_init (W : HW prog w A.in1 I fp wr n vals St) (hn : n ≤ sizeLine) (S : Addr) (hSf : S ∉ fp) (hI : I ∈ fp) (hst : St 0 s.heap) (hS : s.heap.get? S = some { cls := .type "list", data := .seq #[] }) {R : Result → Shared → Prop}
    (hR : ∀ h' tk acc c as, (∀ b o, b ≠ S → b ∉ wr → s.heap.get? b = some o → h'.get? b = some o) → h'.get? S = some { cls := .type "list", dict := none, data := .seq acc c, slots := #[] } → as.length = n → HG fp vals S h' as →
      acc.toList = as.map Value.ref → R (.ok (.ret .none)) { s with heap := h', toks := tk }) :
    wpAny (model prog w) A.in1 (Builtin.«list.__init__» ⟨[.ref S, .ref I], []⟩)
      (fun fin s' => match fin with | .done f => R (.ok f) s' | .again c' => c'.quiet = true ∧ codeAny (model prog w) A c' R s') (fun e s' => R (.error e) s') s := by
  show wpAny _ _ (do let old ← Builtin.List.listItems (.ref S); Builtin.List.listUpdate (.ref S) (fun _ => #[]); letGo old.toList.reverse; Builtin.List.listExtendWith (.ref S) (.ref I) .none) _ _ s
  refine wpAny_bind ?_
  unfold Builtin.List.listItems
  refine wpAny_bind (wpAny_seqItems hS rfl (wpAny_pure ?_))
  show wpAny _ _ (updateSeq S (fun _ => #[]) >>= fun _ => letGo (#[] : Array Value).toList.reverse >>= fun _ => Builtin.List.listExtendWith (.ref S) (.ref I) .none) _ _ s
  refine wpAny_bind (wpAny_updateSeq hS rfl ?_)
  have hS2 := Heap.get?_update_self (Obj.mapSeq (fun _ => (#[] : Array Value))) hS rfl
  have oth : ∀ b o, b ≠ S → s.heap.get? b = some o → (s.heap.update S (Obj.mapSeq (fun _ => (#[] : Array Value)))).get? b = some o :=
    fun b o hb e => (Heap.get?_update_other _ _ (Ne.symm hb)).trans e
  refine wpAny_bind (wpAny_letGo ?_)
  refine hw_extend W hn S hSf hI .none _ (W.frame 0 _ _ hst fun b hb o e => oth b o (fun h => hSf (h ▸ hb)) e) hS2 (fun h' tk acc c as hk hS' hl hG hacc => ?_)
  exact hR h' tk acc c as (fun b o hb hw e => hk b o hb hw (oth b o hb e)) hS' hl hG hacc
theorem hw_call {Q : Value → Shared → Prop} (W : HW prog w A.in1.in1 I fp wr n vals St) (hn : n ≤ sizeLine) (hI : I ∈ fp) (hst : St 0 s.heap)
    (hQ : ∀ h' tk acc c as, (∀ b o, b ∉ wr → s.heap.get? b = some o → h'.get? b = some o) → h'.get? s.heap.objs.size = some { cls := .type "list", dict := none, data := .seq acc c, slots := #[] } → as.length = n → HG fp vals s.heap.objs.size h' as →
      acc.toList = as.map Value.ref → Q (.ref s.heap.objs.size) { s with heap := h', toks := tk }) :
    wpAny (model prog w) A (call (.type "list") [.ref I]) Q E s := by
  have hSf : s.heap.objs.size ∉ fp := fun z => Nat.lt_irrefl _ (W.there _ _ hst _ z)
  refine callType_codes (Q₁ := fun obj s₁ => obj = .ref s.heap.objs.size ∧ s₁ = { s with heap := s.heap.push { cls := .type "list", data := .seq #[] } }) PySem.F.called_list (PySem.F.typeCall_list_1 _) PySem.F.entry_list_init
    (code_list_new _ ⟨rfl, rfl⟩) fun obj s₁ h₁ => ?_
  obtain ⟨rfl, rfl⟩ := h₁
  have hS : (s.heap.push { cls := .type "list", data := .seq #[] }).get? s.heap.objs.size = some { cls := .type "list", data := .seq #[] } := Heap.get?_push_size _ rfl
  refine ⟨⟨_, hS, rfl⟩, PySem.F.args_list_init_2 _ _, hw_init (A := A.in1) W hn _ hSf hI (W.frame 0 _ _ hst fun b hb o e => Heap.get?_push_of_some _ e) hS (fun h' tk acc c as hk hS' hl hG hacc => ?_)⟩
  exact ⟨rfl, hQ h' tk acc c as (fun b o hb e => hk b o (Nat.ne_of_lt (Heap.lt_size e)) hb (Heap.get?_push_of_some _ e)) hS' hl hG hacc⟩
end
/-- zip of three lists of one length -/
theorem hw_zip3 {prog : Program} {w : World} {A : Around} (hh : A.handled = none) {z TI TO i1 i2 i3 a b c : Addr} (D : ZipSep3 z TI TO i1 i2 i3 [i1, a] [i2, b] [i3, c]) (hna : a ≠ i1) (hnb : b ≠ i2) (hnc : c ≠ i3)
    (xs ys zs : Array Value) (n : Nat) (h1 : xs.size = n) (h2 : ys.size = n) (h3 : zs.size = n) (vals : Nat → Array Value) (hv : ∀ i x y z, xs[i]? = some x → ys[i]? = some y → zs[i]? = some z → vals i = #[x, y, z])
    (da : a ≠ z ∧ a ≠ TO ∧ a ≠ i2 ∧ a ≠ i3) (db : b ≠ z ∧ b ≠ TO ∧ b ≠ i1 ∧ b ≠ i3) (dc : c ≠ z ∧ c ≠ TO ∧ c ≠ i1 ∧ c ≠ i2) :
    HW prog w A z [z, TI, TO, i1, i2, i3, a, b, c] [z, TO, i1, i2, i3] n vals
      (fun i h => (∃ f0 f1, IsZipF h z TI TO f0 f1 ∧ ZFld f0 f1) ∧ IsTupOf3 h TI (.ref i1) (.ref i2) (.ref i3) ∧ (∃ x y u, IsTupOf3 h TO x y u) ∧ (h.IsListIter i1 a i ∧ h.IsList a xs) ∧ (h.IsListIter i2 b i ∧ h.IsList b ys) ∧ (h.IsListIter i3 c i ∧ h.IsList c zs)) where
  sub := fun b hb => by
    simp only [List.mem_cons, List.not_mem_nil, or_false] at hb ⊢
    rcases hb with rfl | rfl | rfl | rfl | rfl <;> simp
  frame := fun i h h' st k => by
    obtain ⟨⟨f0, f1, hz, hf⟩, hTI, ⟨x, y, u, hTO⟩, ⟨g1, l1⟩, ⟨g2, l2⟩, ⟨g3, l3⟩⟩ := st
    exact ⟨⟨f0, f1, k z (by simp) _ hz, hf⟩, k TI (by simp) _ hTI, ⟨x, y, u, k TO (by simp) _ hTO⟩, ⟨g1.at fun o q => k i1 (by simp) o q, l1.at fun o q => k a (by simp) o q⟩, ⟨g2.at fun o q => k i2 (by simp) o q, l2.at fun o q => k b (by simp) o q⟩, ⟨g3.at fun o q => k i3 (by simp) o q, l3.at fun o q => k c (by simp) o q⟩⟩
  there := fun i h st b' hb => by
    obtain ⟨⟨f0, f1, hz, hf⟩, hTI, ⟨x, y, u, hTO⟩, ⟨⟨_, g1, _⟩, ⟨_, l1, _⟩⟩, ⟨⟨_, g2, _⟩, ⟨_, l2, _⟩⟩, ⟨⟨_, g3, _⟩, ⟨_, l3, _⟩⟩⟩ := st
    simp only [List.mem_cons, List.not_mem_nil, or_false] at hb
    rcases hb with rfl | rfl | rfl | rfl | rfl | rfl | rfl | rfl | rfl
    · exact Heap.lt_size hz
    · exact Heap.lt_size hTI
    · exact Heap.lt_size hTO
    · exact Heap.lt_size g1
    · exact Heap.lt_size g2
    · exact Heap.lt_size g3
    · exact Heap.lt_size l1
    · exact Heap.lt_size l2
    · exact Heap.lt_size l3
  item := fun i s Q E hi st hQ => by
    obtain ⟨⟨f0, f1, hz, hf⟩, hTI, ⟨x0, y0, u0, hTO⟩, st1, st2, st3⟩ := st
    have hT : s.TypeIs (.ref z) "zip" := ⟨_, hz, rfl⟩
    unfold pyNext
    refine wpAny_bind (wpAny_attempt (wpAny_callSpecial?_slot (name := Str.ofString "__next__") hT PySem.F.slot_zip_next
      (wpAny_call_entry PySem.F.slot_zip_next hT PySem.F.entry_zip_next
        (zipA3_item D (Draws.list (prog := prog) (w := w) (A := A.in1) hh i1 a hna xs) (Draws.list (prog := prog) (w := w) (A := A.in1) hh i2 b hnb ys) (Draws.list (prog := prog) (w := w) (A := A.in1) hh i3 c hnc zs) hz hf hTI hTO st1 st2 st3 (by omega) (by omega) (by omega)
          fun x1 x2 x3 h' tk w1 w2 w3 z' TO' s1 s2 s3 hT' hsz hk => wpAny_pure ?_) (PySem.F.args_zip_next_1 _))))
    refine hQ h' tk ⟨z', hk _ _ D.TIz D.TITO D.TIi1 D.TIi2 D.TIi3 hTI, TO', s1, s2, s3⟩ ?_ hsz fun b o hb e => hk b o (fun q => hb (by simp [q])) (fun q => hb (by simp [q])) (fun q => hb (by simp [q])) (fun q => hb (by simp [q])) (fun q => hb (by simp [q])) e
    rw [hv i x1 x2 x3 w1 w2 w3]
    exact hT'
  done := fun s Q E st hQ => by
    obtain ⟨⟨f0, f1, hz, hf⟩, hTI, ⟨x0, y0, u0, hTO⟩, st1, st2, st3⟩ := st
    have hT : s.TypeIs (.ref z) "zip" := ⟨_, hz, rfl⟩
    unfold pyNext
    refine wpAny_bind (wpAny_attempt (wpAny_callSpecial?_slot (name := Str.ofString "__next__") hT PySem.F.slot_zip_next
      (wpAny_call_entry PySem.F.slot_zip_next hT PySem.F.entry_zip_next
        (zipA3_end D (Draws.list (prog := prog) (w := w) (A := A.in1) hh i1 a hna xs) (Draws.list (prog := prog) (w := w) (A := A.in1) hh i2 b hnb ys) (Draws.list (prog := prog) (w := w) (A := A.in1) hh i3 c hnc zs) hz hf hTI hTO st1 st2 st3 (by omega) (by omega) (by omega) (by omega)
          fun h' tk e hk he => ?_) (PySem.F.args_zip_next_1 _))))
    obtain ⟨o, ho, hc⟩ := he
    refine wpAny_bind (wpAny_isInstance (T := "StopIteration") (b := true) ⟨o, ho, hc⟩ isSubtype_stop ?_)
    exact wpAny_pure (hQ _ _ fun b o hb e => hk b o (fun q => hb (by simp [q])) (fun q => hb (by simp [q])) (fun q => hb (by simp [q])) (fun q => hb (by simp [q])) (fun q => hb (by simp [q])) e)
  self := fun A i s Q E st h => by
    obtain ⟨⟨f0, f1, hz, hf⟩, _⟩ := st
    have hT : s.TypeIs (.ref z) "zip" := ⟨_, hz, rfl⟩
    refine wpAny_pyIter_slot hT PySem.F.slot_zip_iter (wpAny_call_entry PySem.F.slot_zip_iter hT PySem.F.entry_zip_iter ?_ (PySem.F.args_zip_iter_1 _))
    show wpAny _ _ (ret (.ref z)) _ _ s
    exact wpAny_pure ⟨_, rfl, "zip", _, hT, PySem.F.slot_zip_next.lookup, h⟩
  type := fun i s st => by
    obtain ⟨⟨f0, f1, hz, hf⟩, _⟩ := st
    exact ⟨_, hz, rfl⟩

/-- tuples tracked at their addresses -/
def putL : Hp → List Addr → List (List V) → Hp
  | H, a :: as, xs :: xss => putL (upd H a (.tup xs)) as xss
  | H, _, _ => H
theorem putL_off {b : Addr} : ∀ (as : List Addr) (xss : List (List V)) (H : Hp), b ∉ as → putL H as xss b = H b
  | [], _, _, _ => rfl
  | _ :: _, [], _, _ => rfl
  | a :: as, p :: xss, H, h => by
    show putL (upd H a (.tup p)) as xss b = H b
    rw [putL_off as xss _ (fun z => h (List.mem_cons_of_mem _ z)), upd_ne (fun z => h (by rw [z]; exact List.mem_cons_self))]
theorem putL_at : ∀ (as : List Addr) (xss : List (List V)) (H : Hp), as.length = xss.length → as.Nodup → ∀ (j : Nat) a xs, as[j]? = some a → xss[j]? = some xs → putL H as xss a = some (.tup xs)
  | [], _, _, _, _ => fun j a xs h => by simp at h
  | _ :: _, [], _, h, _ => by cases h
  | a :: as, p :: xss, H, h, hn => by
    have hn' := List.nodup_cons.mp hn
    intro j a' xs e1 e2
    cases j with
    | zero =>
      simp at e1 e2
      subst e1 e2
      show putL (upd H a (.tup p)) as xss a = some (.tup p)
      rw [putL_off as xss _ hn'.1, upd_same]
    | succ j => exact putL_at as xss (upd H a (.tup p)) (Nat.succ.inj h) hn'.2 j a' xs (by simpa using e1) (by simpa using e2)
section
variable {X : Cx}
theorem tuples_laid {pins : List (Addr × Obj)} {σ : L2.St} {H : Hp} {s : Shared} {h' : Heap} {tk : Nat} {S : Addr} {xss : List (List V)} {fp : List Addr} {vals : Nat → Array Value} {acc : Array Value} {c : Nat} {as : List Addr} (I : Inv X pins σ H s) (hz : xss.length ≤ sizeLine) (hle : s.heap.objs.size ≤ S)
    (hval : ∀ (j : Nat) xs, xss[j]? = some xs → xs.length ≤ sizeLine ∧ Vals xs (vals j).toList)
    (hk : ∀ b o, s.heap.get? b = some o → h'.get? b = some o) (hS : h'.get? S = some { cls := .type "list", dict := none, data := .seq acc c, slots := #[] }) (hl : as.length = xss.length) (hG : HG fp vals S h' as) (hacc : acc.toList = as.map Value.ref) :
    ∃ H' : Hp, (∀ b o, H b = some o → H' b = some o) ∧ H S = none ∧ (∀ t ∈ as, H t = none) ∧ (∀ b, H' b ≠ none → H b ≠ none ∨ b = S ∨ b ∈ as) ∧ H' S = some (.lst (as.map V.ref)) ∧ (∀ (j : Nat) a xs, as[j]? = some a → xss[j]? = some xs → H' a = some (.tup xs)) ∧ Inv X pins σ H' { s with heap := h', toks := tk } := by
  have hSn : S ∉ as := fun z => Nat.lt_irrefl _ (hG.above _ z)
  have nd : as.Nodup := List.Pairwise.imp (fun {a b} (h : a < b) => Nat.ne_of_lt h) hG.rise
  have new : ∀ t ∈ as, H t = none := fun t ht => I.hok.fresh (Nat.le_trans hle (Nat.le_of_lt (hG.above t ht)))
  have newS : H S = none := I.hok.fresh hle
  have atP := putL_at as xss (upd H S (.lst (as.map V.ref))) hl nd
  have off : ∀ b, b ∉ as → b ≠ S → putL (upd H S (.lst (as.map V.ref))) as xss b = H b := fun b h1 h2 => by rw [putL_off as xss _ h1, upd_ne h2]
  have low : ∀ b o, s.heap.get? b = some o → b ∉ as ∧ b ≠ S := fun b o e => ⟨fun z => absurd (Heap.lt_size e) (Nat.not_lt.mpr (Nat.le_trans hle (Nat.le_of_lt (hG.above b z)))), fun z => absurd (Heap.lt_size e) (Nat.not_lt.mpr (by rw [z]; exact hle))⟩
  have kp : ∀ b u, H b = some u → (putL (upd H S (.lst (as.map V.ref))) as xss) b = some u := fun b u e => by
    rw [off b (fun z => by rw [new b z] at e; cases e) (fun z => by rw [z, newS] at e; cases e)]
    exact e
  have eS : putL (upd H S (.lst (as.map V.ref))) as xss S = some (.lst (as.map V.ref)) := by rw [putL_off as xss _ hSn, upd_same]
  refine ⟨putL (upd H S (.lst (as.map V.ref))) as xss, kp, newS, new, fun b hb => ?_, eS, atP, ?_⟩
  · by_cases h1 : b ∈ as
    · exact .inr (.inr h1)
    · by_cases h2 : b = S
      · exact .inr (.inl h2)
      · rw [off b h1 h2] at hb
        exact .inl hb
  refine I.call' (ch := []) rfl ⟨fun b o q _ _ _ => hk b o q, fun b o q _ _ _ => ⟨o.slots, hk b o q⟩, fun b o q n _ => ?_, fun b o q _ => ⟨o, hk b o q⟩, fun b xs q => kp b _ q, fun b o u q => kp b _ q, fun b ps q => ⟨#[], by rw [kp b _ q]; simp⟩⟩ (fun b u q => ?_) I.bare fun b z => by simp at z
  · obtain ⟨z1, z2⟩ := low b o q
    rw [off b z1 z2]
    exact n
  · by_cases hb : b ∈ as
    · obtain ⟨j, e1⟩ := List.mem_iff_getElem?.mp hb
      have hj : j < xss.length := by rw [← hl]; exact (List.getElem?_eq_some_iff.mp e1).1
      have e2 : xss[j]? = some xss[j] := List.getElem?_eq_getElem hj
      rw [atP j b _ e1 e2] at q
      cases q
      obtain ⟨g1, g2⟩ := hval j _ e2
      exact ⟨g1, (vals j).toList, g2, ⟨_, hG.at_ j b e1, rfl, 0, by simp⟩⟩
    · by_cases hb2 : b = S
      · rw [hb2] at q ⊢
        rw [eS] at q
        cases q
        refine ⟨by rw [List.length_map]; omega, acc.toList, c, by rw [hacc]; exact LiI.vals_refs as, ?_⟩
        rw [Array.toArray_toList]
        exact hS
      · rw [off b hb hb2] at q
        exact (I.hok b u q).stay (fun d v _ y => hk d v y) (fun d y => kp d _ y) fun d xs y => kp d _ y
def tListZ3 (K : PySem.W.Frag) (ta : TA) : TE := fun σ H Q => ta σ H fun vs H1 => ∃ (a b c : Addr) (xs ys zs : List V), vs = [.ref a, .ref b, .ref c] ∧ SqL K H1 a xs ∧ SqL K H1 b ys ∧ SqL K H1 c zs ∧ ys.length = xs.length ∧ zs.length = xs.length ∧ xs.length ≤ 100000 ∧
  ∀ (H' : Hp) (p : Addr) (ts : List Addr), (∀ b o, H1 b = some o → H' b = some o) → H1 p = none → (∀ t ∈ ts, H1 t = none) → (∀ b, H' b ≠ none → H1 b ≠ none ∨ b = p ∨ b ∈ ts) → H' p = some (.lst (ts.map V.ref)) → ts.length = xs.length →
    (∀ (j : Nat) t x y z, ts[j]? = some t → xs[j]? = some x → ys[j]? = some y → zs[j]? = some z → H' t = some (.tup [x, y, z])) → Q (.ref p) H'
theorem pe_listZ30 {e e2 e3 : Expr} {ta : TA} {p p2 q pos : Pos} (hc : X.calm = true) (hg : Gl X "list") (hm : X.mg "list" = none) (hg2 : Gl X "zip") (hm2 : X.mg "zip" = none) (ha : PA X [e, e2, e3] ta)
    (na : starEach [.Call (.Name "zip" p2) [e, e2, e3] [] q] X.env = (false, eval (.Call (.Name "zip" p2) [e, e2, e3] [] q) X.env) :: starEach [] X.env := by rfl)
    (hs : starEach [e, e2, e3] X.env = (false, eval e X.env) :: starEach [e2, e3] X.env := by rfl) (hpl : (backTo q (starEach [e2, e3] X.env)).any (·.1) = false := by rfl) :
    PE X (.Call (.Name "list" p) [.Call (.Name "zip" p2) [e, e2, e3] [] q] [] pos) (tListZ3 X.K ta) := by
  refine ⟨fun pins s σ H Q I h => ?_⟩
  refine Call_ (ld_blt I hg hm (show bootBuiltins "list" = some (.type "list") by decide +kernel) ?_)
  refine PyProof.Rows.callWith_type1 (PyProof.Rows.args_cons ?_ na) na rfl
  refine Call_ (ld_blt I hg2 hm2 PyProof.Rows.boot_zip ?_)
  refine PyProof.Rows.callWith_type1 (thn (ha.run q pins s σ H _ I h) fun us s1 ⟨vs, H1, I1, r1, q1⟩ => ?_) hs hpl
  obtain ⟨a, b, c, xs, ys, zs, ex, hqx, hqy, hqu, l2, l3, hz, q1⟩ := q1
  subst ex
  cases r1 with
  | cons r rr =>
    cases rr with
    | cons r' rr =>
      cases rr with
      | cons r'' rr =>
        cases rr
        cases r
        cases r'
        cases r''
        obtain ⟨its, rv, p1, _⟩ := I1.list hqx
        obtain ⟨its2, rv2, p2, _⟩ := I1.list hqy
        obtain ⟨its3, rv3, p3, _⟩ := I1.list hqu
        have la : a < s1.heap.objs.size := p1.lt
        have lb : b < s1.heap.objs.size := p2.lt
        have lc : c < s1.heap.objs.size := p3.lt
        have g1 := rv.length
        have g2 := rv2.length
        have g3 := rv3.length
        refine zip_begins3 (begins_list a its.toArray) (begins_list b its2.toArray) (begins_list c its3.toArray) p1.isList p2.isList p3.isList fun h' hzz hTI hTO h1 h2 h3 hsz hk => ?_
        refine PyProof.Rows.args_nil ?_
        have hh : X.A.in1.in1.handled = none := I1.ok.hd hc
        have ne : ∀ {x y : Addr} (k : Nat), x < s1.heap.objs.size → y = s1.heap.objs.size + k → x ≠ y := fun {x y} k hx e z => by
          rw [z, e] at hx
          exact absurd hx (Nat.not_lt.mpr (Nat.le_add_right _ _))
        have W := hw_zip3 (prog := X.prog) (w := X.w) (A := X.A.in1.in1) hh (zip_sep3 (N := s1.heap.objs.size) (fp1 := [a]) (fp2 := [b]) (fp3 := [c]) (by simpa using la) (by simpa using lb) (by simpa using lc)) (ne 0 la rfl) (ne 1 lb rfl) (ne 2 lc rfl)
          its.toArray its2.toArray its3.toArray xs.length (by rw [List.size_toArray]; omega) (by rw [List.size_toArray]; omega) (by rw [List.size_toArray]; omega) (fun i => #[its.getD i .none, its2.getD i .none, its3.getD i .none])
          (fun i x y z e1 e2 e3 => by
            have e1' : its[i]? = some x := by simpa using e1
            have e2' : its2[i]? = some y := by simpa using e2
            have e3' : its3[i]? = some z := by simpa using e3
            rw [List.getD_eq_getElem?_getD, List.getD_eq_getElem?_getD, List.getD_eq_getElem?_getD, e1', e2', e3']
            rfl)
          ⟨ne 5 la rfl, ne 4 la rfl, ne 1 la rfl, ne 2 la rfl⟩ ⟨ne 5 lb rfl, ne 4 lb rfl, ne 0 lb rfl, ne 2 lb rfl⟩ ⟨ne 5 lc rfl, ne 4 lc rfl, ne 0 lc rfl, ne 1 lc rfl⟩
        refine hw_call (s := { s1 with heap := h' }) W (Nat.le_trans hz (by decide)) (by simp) ?_ fun h'' tk acc cc as hkk hS hl hG hacc => ?_
        · refine ⟨⟨_, _, hzz, .inl rfl, _, rfl⟩, hTI, ⟨_, _, _, hTO⟩, ⟨⟨_, h1, rfl, rfl⟩, ?_⟩, ⟨⟨_, h2, rfl, rfl⟩, ?_⟩, ⟨⟨_, h3, rfl, rfl⟩, ?_⟩⟩
          · exact p1.isList.at fun o e => hk _ _ e
          · exact p2.isList.at fun o e => hk _ _ e
          · exact p3.isList.at fun o e => hk _ _ e
        · dsimp only at hS hl hG hkk
          have keep : ∀ b o, s1.heap.get? b = some o → h''.get? b = some o := fun b o e => hkk b o (fun z => by
            have hb := Heap.lt_size e
            simp only [List.mem_cons, List.not_mem_nil, or_false] at z
            rcases z with z | z | z | z | z
            · exact ne 5 hb rfl z
            · exact ne 4 hb rfl z
            · exact ne 0 hb rfl z
            · exact ne 1 hb rfl z
            · exact ne 2 hb rfl z) (hk b o e)
          have hxl : ((xs.zip (ys.zip zs)).map fun p => [p.1, p.2.1, p.2.2]).length = xs.length := by
            rw [List.length_map, List.length_zip, List.length_zip]
            omega
          obtain ⟨H', k1, k2, k3, k4, k5, k6, J⟩ := tuples_laid (tk := tk) (xss := (xs.zip (ys.zip zs)).map fun p => [p.1, p.2.1, p.2.2]) I1 (by rw [hxl]; exact Nat.le_trans hz (by decide)) (by rw [hsz]; exact Nat.le_add_right _ _)
            (fun j l e => by
              rw [List.getElem?_map] at e
              cases hp : (xs.zip (ys.zip zs))[j]? with
              | none => rw [hp] at e; cases e
              | some p =>
                rw [hp] at e
                cases e
                obtain ⟨e1, e2⟩ := List.getElem?_zip_eq_some.mp hp
                obtain ⟨e2, e3⟩ := List.getElem?_zip_eq_some.mp e2
                obtain ⟨u1, hu1, r1⟩ := rv.get e1
                obtain ⟨u2, hu2, r2⟩ := rv2.get e2
                obtain ⟨u3, hu3, r3⟩ := rv3.get e3
                refine ⟨by show 3 ≤ sizeLine; decide, ?_⟩
                show Vals _ [its.getD j .none, its2.getD j .none, its3.getD j .none]
                rw [List.getD_eq_getElem?_getD, List.getD_eq_getElem?_getD, List.getD_eq_getElem?_getD, hu1, hu2, hu3]
                exact .cons r1 (.cons r2 (.cons r3 .nil))) keep hS (by rw [hxl]; exact hl) hG hacc
          refine ⟨.ref _, H', J, rfl, q1 H' _ as k1 k2 k3 k4 k5 hl fun j t x y z e1 e2 e3 e4 => k6 j t [x, y, z] e1 ?_⟩
          have e5 : (xs.zip (ys.zip zs))[j]? = some (x, y, z) := List.getElem?_zip_eq_some.mpr ⟨e2, List.getElem?_zip_eq_some.mpr ⟨e3, e4⟩⟩
          rw [List.getElem?_map, e5]
          rfl
theorem pe_listZip3 (K : PySem.W.Frag) (hK : X.K = K) {e e2 e3 : Expr} {ta : TA} {p p2 q pos : Pos} (hc : X.calm = true) (hg : Gl X "list") (hm : X.mg "list" = none) (hg2 : Gl X "zip") (hm2 : X.mg "zip" = none) (ha : PA X [e, e2, e3] ta)
    (na : starEach [.Call (.Name "zip" p2) [e, e2, e3] [] q] X.env = (false, eval (.Call (.Name "zip" p2) [e, e2, e3] [] q) X.env) :: starEach [] X.env := by rfl)
    (hs : starEach [e, e2, e3] X.env = (false, eval e X.env) :: starEach [e2, e3] X.env := by rfl) (hpl : (backTo q (starEach [e2, e3] X.env)).any (·.1) = false := by rfl) :
    PE X (.Call (.Name "list" p) [.Call (.Name "zip" p2) [e, e2, e3] [] q] [] pos) (tListZ3 K ta) := hK ▸ pe_listZ30 hc hg hm hg2 hm2 ha na hs hpl
end
theorem ev_listZ3 {α : Type} {K : PySem.W.Frag} {Md : Ms} {ρ : List Sl} {ta : TA} {xs : List α} {f g k : α → PD} (ha : EvA K Md ρ ta [.list (xs.map f), .list (xs.map g), .list (xs.map k)]) (hz : xs.length ≤ 100000) :
    EvD K Md ρ (tListZ3 K ta) (.list (xs.map fun x => PyData.tuple [f x, g x, k x])) := .mk <| fun E hi Q kk => ha E hi _ fun vs H' H2 E' s p => by
  cases p with
  | cons p1 p2 =>
    cases p2 with
    | cons p2 p3 =>
      cases p3 with
      | cons p3 p4 =>
        cases p4
        cases p1 with
        | @lst a vs1 _ a1 a2 =>
          cases p2 with
          | @lst b vs2 _ b1 b2 =>
            cases p3 with
            | @lst c vs3 _ c1 c2 =>
              have l1 : vs1.length = xs.length := by rw [dpa_len a2, List.length_map]
              have l2 : vs2.length = xs.length := by rw [dpa_len b2, List.length_map]
              have l3 : vs3.length = xs.length := by rw [dpa_len c2, List.length_map]
              refine ⟨a, b, c, vs1, vs2, vs3, rfl, E'.sub.seq a1, E'.sub.seq b1, E'.sub.seq c1, by omega, by omega, by omega, fun H3 q ts k1 k2 k3 k4 k5 k6 k7 => ?_⟩
              have X : Ext [] H' H2 (fun b => if b = q ∨ b ∈ ts then H3 b else H' b) H3 := by
                refine ⟨fun b o e => ?_, fun b o e => ?_, fun b o _ e => k1 b o e, fun b h0 hn => ?_⟩
                · have e1 := E'.sub b o e
                  show (if b = q ∨ b ∈ ts then H3 b else H' b) = some o
                  split
                  · exact k1 b o e1
                  · exact e
                · have e : (if b = q ∨ b ∈ ts then H3 b else H' b) = some o := e
                  split at e
                  · exact e
                  · exact k1 b o (E'.sub b o e)
                · have hn : (if b = q ∨ b ∈ ts then H3 b else H' b) ≠ none := hn
                  split at hn
                  · rename_i h
                    rcases h with h | h
                    · rw [h]; exact k2
                    · exact k3 b h
                  · exact absurd h0 hn
              refine kk _ _ _ (E'.grow X) (s.trans X.known) (.lst (xs := ts.map V.ref) (SqL.of (by show (if q = q ∨ q ∈ ts then H3 q else H' q) = _; rw [if_pos (.inl rfl)]; exact k5)) ?_)
              have at_ : ∀ (j : Nat) t x, ts[j]? = some t → xs[j]? = some x → Dp K (fun b => if b = q ∨ b ∈ ts then H3 b else H' b) (.ref t) (.tuple [f x, g x, k x]) := fun j t x e1 e2 => by
                have put : ∀ (h : α → PD), (xs.map h)[j]? = some (h x) := fun h => by rw [List.getElem?_map, e2]; rfl
                obtain ⟨v1, g1, q1⟩ := dpa_get a2 (put f)
                obtain ⟨v2, g2, q2⟩ := dpa_get b2 (put g)
                obtain ⟨v3, g3, q3⟩ := dpa_get c2 (put k)
                have e3 := k7 j t v1 v2 v3 e1 g1 g2 g3
                refine .tup (xs := [v1, v2, v3]) (SqT.of ?_) (.cons (dp_mono X.known q1) (.cons (dp_mono X.known q2) (.cons (dp_mono X.known q3) .nil)))
                show (if t = q ∨ t ∈ ts then H3 t else H' t) = _
                rw [if_pos (.inr (List.mem_of_getElem? e1))]
                exact e3
              have hl : ts.length = xs.length := by omega
              clear k3 k4 k5 k6 k7 a2 b2 c2
              generalize hHx : (fun b => if b = q ∨ b ∈ ts then H3 b else H' b) = Hx at at_ X
              clear hHx
              clear l1 l2 l3 ha hz X kk
              induction ts generalizing xs with
              | nil =>
                cases xs with
                | nil => exact .nil
                | cons x xs => cases hl
              | cons t ts ih =>
                cases xs with
                | nil => cases hl
                | cons x xs => exact .cons (at_ 0 t x rfl rfl) (ih (Nat.succ.inj hl) fun j t' x' e1 e2 => at_ (j + 1) t' x' e1 e2)
end K37

set_option Elab.async false
set_option linter.all false
set_option maxRecDepth 100000
set_option maxHeartbeats 4000000
/-! enumerate(zip(x, y)), the inner pair not let go -/
namespace K37
open PySem PySem.Spec PyProof.Rows L2 RZ
section
variable {prog : Program} {w : World} {A : Around} {E : Value → Shared → Prop} {s : Shared}
/-- enumerate's next over any iterator -/
theorem enum_next_gen {e it : Addr} {c : Int} {old : Value} {P : Value → Heap → Nat → Prop} {Q : Value → Shared → Prop} (he : IsEnum s.heap e it c old)
    (inner : ∀ Q' : Value → Shared → Prop, (∀ x h1 tk, P x h1 tk → Q' x { s with heap := h1, toks := tk }) → wpAny (model prog w) A (Builtin.SmallTypes.nextOf (.ref it)) Q' E s)
    (keep : ∀ x h1 tk, P x h1 tk → IsEnum h1 e it c old)
    (hQ : ∀ x h1 tk h', P x h1 tk → IsEnumOut h' e it (c + 1) x h1.objs.size →
      h'.get? h1.objs.size = some { cls := .type "tuple", data := .seq #[.int c tk, x] } → h'.objs.size = h1.objs.size + 1 →
      (∀ b o, b ≠ e → h1.get? b = some o → h'.get? b = some o) → Q (.ref h1.objs.size) { s with heap := h', toks := tk + 1 }) :
    wpAny (model prog w) A (Builtin.«enumerate.__next__» ⟨[.ref e], []⟩) (fun fin s' => ∃ v, fin = .done (.ret v) ∧ Q v s') E s := by
  obtain ⟨hp, g, d, tk0, os⟩ := s
  show wpAny _ _ (field (.ref e) 2 >>= _) _ _ _
  refine wpAny_bind (wpAny_field he rfl (x := .ref it) rfl ?_)
  refine wpAny_bind (inner _ fun x h1 tk hPx => ?_)
  have he1 : IsEnum h1 e it c old := keep x h1 tk hPx
  show wpAny _ _ (field (.ref e) 3 >>= _) _ _ ⟨h1, g, d, tk, os⟩
  refine wpAny_bind (wpAny_field he1 rfl (x := rawInt c) rfl ?_)
  show wpAny _ _ (field (.ref e) 4 >>= _) _ _ ⟨h1, g, d, tk, os⟩
  refine wpAny_bind (wpAny_field he1 rfl (x := .none) rfl ?_)
  show wpAny _ _ (mkInt c >>= _) _ _ ⟨h1, g, d, tk, os⟩
  refine wpAny_bind (wpAny_mkInt ?_)
  show wpAny _ _ (setField (.ref e) 3 (rawInt (c + 1)) >>= _) _ _ ⟨h1, g, d, tk + 1, os⟩
  refine wpAny_bind (wpAny_setField_rec he1 (by simp) fun h2 he2 hs2 => ?_)
  replace hs2 : Heap.SameBut e h1 h2 := hs2
  replace he2 : IsEnum h2 e it (c + 1) old := he2
  show wpAny _ _ (setField (.ref e) 4 .none >>= _) _ _ ⟨h2, g, d, tk + 1, os⟩
  refine wpAny_bind (wpAny_setField_rec he2 (by simp) fun h3 he3 hs3 => ?_)
  replace hs3 : Heap.SameBut e h2 h3 := hs3
  replace he3 : IsEnum h3 e it (c + 1) old := he3
  show wpAny _ _ (newTuple [.int c tk, x] >>= _) _ _ ⟨h3, g, d, tk + 1, os⟩
  refine wpAny_bind (wpAny_newTuple ?_)
  have he4 : IsEnum (h3.push { cls := .type "tuple", data := .seq #[.int c tk, x] }) e it (c + 1) old := Heap.get?_push_of_some _ he3
  generalize hh4 : h3.push { cls := .type "tuple", data := .seq #[.int c tk, x] } = h4 at he4
  have hsz : h3.objs.size = h1.objs.size := by rw [hs3.1, hs2.1]
  have hel : e < h1.objs.size := Heap.lt_size he1
  have ht4 : h4.get? h1.objs.size = some { cls := .type "tuple", data := .seq #[.int c tk, x] } := by rw [← hh4, ← hsz]; exact Heap.get?_push_size _ rfl
  have hz4 : h4.objs.size = h1.objs.size + 1 := by rw [← hh4, Heap.size_push, hsz]
  have hk4 : ∀ b o, b ≠ e → h1.get? b = some o → h4.get? b = some o := fun b o hbe hb => by
    rw [← hh4]; exact Heap.get?_push_of_some _ (hs3.extBut b o hbe (hs2.extBut b o hbe hb))
  show wpAny _ _ (Builtin.SmallTypes.ownedTupleIsFree (.ref e) >>= _) _ _ ⟨h4, g, d, tk + 1, os⟩
  rw [hsz]
  refine wpAny_bind ?_
  unfold Builtin.SmallTypes.ownedTupleIsFree
  refine wpAny_bind (wpAny_field he4 rfl (x := .none) rfl (wpAny_pure ?_))
  simp only [if_true]
  refine wpAny_bind (wpAny_rule ?_)
  refine wpAny_bind (wpAny_field he4 rfl (x := old) rfl ?_)
  refine wpAny_bind (wpAny_setField_rec he4 (by simp) fun h5 he5 hs5 => ?_)
  replace hs5 : Heap.SameBut e h4 h5 := hs5
  replace he5 : IsEnum h5 e it (c + 1) x := he5
  show wpAny _ _ (Builtin.SmallTypes.ownedTupleHandOut (.ref e) (.ref h1.objs.size) >>= _) _ _ ⟨h5, g, d, tk + 1, os⟩
  refine wpAny_bind ?_
  unfold Builtin.SmallTypes.ownedTupleHandOut
  refine wpAny_bind (wpAny_setField_rec he5 (by simp) fun h6 he6 hs6 => ?_)
  replace hs6 : Heap.SameBut e h5 h6 := hs6
  replace he6 : IsEnumOut h6 e it (c + 1) x h1.objs.size := he6
  refine wpAny_setField_rec he6 (by simp) fun h7 he7 hs7 => ?_
  replace hs7 : Heap.SameBut e h6 h7 := hs7
  replace he7 : IsEnumOut h7 e it (c + 1) x h1.objs.size := he7
  refine wpAny_bind (wpAny_letGo (wpAny_pure ⟨_, rfl, hQ x h1 tk h7 hPx he7 ?_ ?_ ?_⟩))
  · exact hs7.extBut _ _ (Nat.ne_of_gt hel) (hs6.extBut _ _ (Nat.ne_of_gt hel) (hs5.extBut _ _ (Nat.ne_of_gt hel) ht4))
  · rw [hs7.1, hs6.1, hs5.1, hz4]
  · exact fun b o hbe hb => hs7.extBut b o hbe (hs6.extBut b o hbe (hs5.extBut b o hbe (hk4 b o hbe hb)))
end
theorem meets_enumerate_newI {v : Value} {H : Heap → Prop} (it : ∀ (prog : Program) (w : World) (A : Around) (E : Value → Shared → Prop) (s : Shared) (Q : Value → Shared → Prop), H s.heap → Q v s → wpAny (model prog w) A (pyIter v) Q E s) :
    Meets (Builtin.«enumerate.__new__» ⟨[.type "enumerate", v], []⟩) (fun _ R s => H s.heap ∧
      R (.ok (.ret (.ref s.heap.objs.size))) { s with heap := s.heap.push { cls := .type "enumerate", data := .fields #[.none, .bool false, v, rawInt 0, .none, .none] } }) :=
  .of_wp fun prog w A R s h => by
    obtain ⟨hp, g, d, tk, os⟩ := s; obtain ⟨h1, h⟩ := h
    have hsub := sub_enumerate
    have q1 : ∀ {A' : Around} {E : Value → Shared → Prop} {Q : Value → Shared → Prop}, Q v ⟨hp, g, d, tk, os⟩ → wpAny (model prog w) A' (pyIter v) Q E ⟨hp, g, d, tk, os⟩ :=
      fun q => it prog w _ _ ⟨hp, g, d, tk, os⟩ _ h1 q
    wp_walk using q1
    refine wpAny_stack_any fun st => wpAny_pure ?_
    split
    · rename_i c _ _ _ _ _
      cases (c == Value.type "enumerate")
      · wp_walk using q1
        exact ⟨_, rfl, h⟩
      · wp_walk using q1
        exact ⟨_, rfl, h⟩
    · wp_walk using q1
      exact ⟨_, rfl, h⟩
section
variable {prog : Program} {w : World} {A : Around} {E : Value → Shared → Prop} {s : Shared} {a b z TI TO i1 i2 : Addr} {i : Nat} {xs ys : Array Value} {f0 f1 x0 y0 : Value}
theorem nextOf_zip2 {u1 u2 : Value} {Q : Value → Shared → Prop} (hh : A.in1.handled = none) (D : ZipSep2 z TI TO i1 i2 [i1, a] [i2, b]) (hna : a ≠ i1) (hnb : b ≠ i2) (hz : IsZipF s.heap z TI TO f0 f1) (hf : ZFld f0 f1) (hTI : IsTupOf2 s.heap TI (.ref i1) (.ref i2)) (hTO : IsTupOf2 s.heap TO x0 y0)
    (st1 : s.heap.IsListIter i1 a i ∧ s.heap.IsList a xs) (st2 : s.heap.IsListIter i2 b i ∧ s.heap.IsList b ys) (hx : xs[i]? = some u1) (hy : ys[i]? = some u2)
    (hQ : ∀ h' tk, (∃ f0 f1, IsZipF h' z TI TO f0 f1 ∧ ZFld f0 f1) → (∃ x y, IsTupOf2 h' TO x y) → h'.IsListIter i1 a (i + 1) → h'.IsListIter i2 b (i + 1) → IsTupOf2 h' s.heap.objs.size u1 u2 → h'.objs.size = s.heap.objs.size + 1 →
      (∀ c o, c ≠ z → c ≠ TO → c ≠ i1 → c ≠ i2 → s.heap.get? c = some o → h'.get? c = some o) → Q (.ref s.heap.objs.size) { s with heap := h', toks := tk }) :
    wpAny (model prog w) A (Builtin.SmallTypes.nextOf (.ref z)) Q E s := by
  have hT : s.TypeIs (.ref z) "zip" := ⟨_, hz, rfl⟩
  unfold Builtin.SmallTypes.nextOf
  refine wpAny_bind (wpAny_callSpecial?_slot (name := Str.ofString "__next__") hT PySem.F.slot_zip_next
    (wpAny_call_entry PySem.F.slot_zip_next hT PySem.F.entry_zip_next
      (zipA2_item D (Draws.list (prog := prog) (w := w) (A := A.in1) hh i1 a hna xs) (Draws.list (prog := prog) (w := w) (A := A.in1) hh i2 b hnb ys) hz hf hTI hTO st1 st2 (by have := Array.getElem?_eq_some_iff.mp hx; exact this.1) (by have := Array.getElem?_eq_some_iff.mp hy; exact this.1)
        fun x1 x2 h' tk w1 w2 z' TO' s1 s2 hT' hsz hk => ?_) (PySem.F.args_zip_next_1 _)))
  rw [hx] at w1
  rw [hy] at w2
  cases w1
  cases w2
  exact wpAny_pure (hQ h' tk z' TO' s1.1 s2.1 hT' hsz hk)
theorem nextOf_zip2_end {Q : Value → Shared → Prop} (hh : A.in1.handled = none) (D : ZipSep2 z TI TO i1 i2 [i1, a] [i2, b]) (hna : a ≠ i1) (hnb : b ≠ i2) (hz : IsZipF s.heap z TI TO f0 f1) (hf : ZFld f0 f1) (hTI : IsTupOf2 s.heap TI (.ref i1) (.ref i2)) (hTO : IsTupOf2 s.heap TO x0 y0)
    (st1 : s.heap.IsListIter i1 a i ∧ s.heap.IsList a xs) (st2 : s.heap.IsListIter i2 b i ∧ s.heap.IsList b ys) (h1 : i ≤ xs.size) (h2 : i ≤ ys.size) (he : i = xs.size ∨ i = ys.size)
    (hE : ∀ h' tk e, (∀ c o, c ≠ z → c ≠ TO → c ≠ i1 → c ≠ i2 → s.heap.get? c = some o → h'.get? c = some o) → (∃ o, h'.get? e = some o ∧ o.cls = .type "StopIteration") → E (.ref e) { s with heap := h', toks := tk }) :
    wpAny (model prog w) A (Builtin.SmallTypes.nextOf (.ref z)) Q E s := by
  have hT : s.TypeIs (.ref z) "zip" := ⟨_, hz, rfl⟩
  unfold Builtin.SmallTypes.nextOf
  exact wpAny_bind (wpAny_callSpecial?_slot (name := Str.ofString "__next__") hT PySem.F.slot_zip_next
    (wpAny_call_entry PySem.F.slot_zip_next hT PySem.F.entry_zip_next
      (zipA2_end D (Draws.list (prog := prog) (w := w) (A := A.in1) hh i1 a hna xs) (Draws.list (prog := prog) (w := w) (A := A.in1) hh i2 b hnb ys) hz hf hTI hTO st1 st2 h1 h2 he hE) (PySem.F.args_zip_next_1 _)))
end
/-- the lists at a and b, number and pair -/
def IteZ (K : PySem.W.Frag) (a b : Addr) : It :=
  ⟨fun i H => ∃ (xs ys : List V) (x y : V), SqL K H a xs ∧ SqL K H b ys ∧ xs[i]? = some x ∧ ys[i]? = some y,
    fun i H v H' => ∃ T O x y, v = .ref O ∧ H T = none ∧ (upd H T (.tup [x, y])) O = none ∧ H' = upd (upd H T (.tup [x, y])) O (.tup [.int (i : Nat), .ref T]) ∧ (∀ xs, SqL K H a xs → xs[i]? = some x) ∧ ∀ ys, SqL K H b ys → ys[i]? = some y,
    fun i H => ∃ xs ys : List V, SqL K H a xs ∧ SqL K H b ys ∧ i ≤ xs.length ∧ i ≤ ys.length ∧ (i = xs.length ∨ i = ys.length)⟩
theorem turn_enumZip {P : Program} {w : World} {K : PySem.W.Frag} {elts : List Expr} {kk : Nat} {tpos : Pos} {a b z TI TO i1 i2 e : Addr} (D : ZipSep2 z TI TO i1 i2 [i1, a] [i2, b]) (hna : a ≠ i1) (hnb : b ≠ i2)
    (he0 : e ≠ z ∧ e ≠ TI ∧ e ≠ TO ∧ e ≠ i1 ∧ e ≠ i2) :
    Turn P w K (.Tuple elts kk tpos) (IteZ K a b) [e, z, TI, TO, i1, i2] e (fun i h => (∃ old, IsEnum h e z ((i : Nat) : Int) old) ∧ (∃ f0 f1, IsZipF h z TI TO f0 f1 ∧ ZFld f0 f1) ∧ IsTupOf2 h TI (.ref i1) (.ref i2) ∧ (∃ x y, IsTupOf2 h TO x y) ∧ h.IsListIter i1 a i ∧ h.IsListIter i2 b i) where
  mem := by simp
  obj := fun i h st b hb => by
    obtain ⟨⟨old, he⟩, ⟨f0, f1, hz, _⟩, hTI, ⟨x, y, hTO⟩, ⟨o1, e1, _, d1⟩, ⟨o2, e2, _, d2⟩⟩ := st
    have e' : b = e ∨ b = z ∨ b = TI ∨ b = TO ∨ b = i1 ∨ b = i2 := by simpa using hb
    rcases e' with q | q | q | q | q | q
    · rw [q]; exact ⟨_, he, fun v q => nomatch q⟩
    · rw [q]; exact ⟨_, hz, fun v q => nomatch q⟩
    · rw [q]; exact ⟨_, hTI, fun v q => nomatch q⟩
    · rw [q]; exact ⟨_, hTO, fun v q => nomatch q⟩
    · rw [q]; exact ⟨o1, e1, fun v q => by rw [d1] at q; cases q⟩
    · rw [q]; exact ⟨o2, e2, fun v q => by rw [d2] at q; cases q⟩
  keep := fun i h h' st k => by
    obtain ⟨⟨old, he⟩, ⟨f0, f1, hz, hf⟩, hTI, ⟨x, y, hTO⟩, h1, h2⟩ := st
    exact ⟨⟨old, k e (by simp) _ he⟩, ⟨f0, f1, k z (by simp) _ hz, hf⟩, k TI (by simp) _ hTI, ⟨x, y, k TO (by simp) _ hTO⟩, h1.at fun o q => k i1 (by simp) o q, h2.at fun o q => k i2 (by simp) o q⟩
  item := by
    intro X hP hw hK hc i pins s σ H E I hf st hg
    subst hP hw hK
    obtain ⟨⟨old, he⟩, ⟨f0, f1, hz, hzf⟩, hTI, ⟨x0, y0, hTO⟩, h1, h2⟩ := st
    obtain ⟨xs, ys, x, y, hqx, hqy, hx, hy⟩ := hg
    obtain ⟨its, rv, p, _⟩ := I.list hqx
    obtain ⟨its2, rv2, p2, _⟩ := I.list hqy
    obtain ⟨u1, hu1, ru1⟩ := rv.get hx
    obtain ⟨u2, hu2, ru2⟩ := rv2.get hy
    have hh : X.A.in1.in1.handled = none := I.ok.hd hc
    have lt : ∀ {ws : List Value} {v : Value}, ws[i]? = some v → i < ws.toArray.size := fun q => by
      have := (List.getElem?_eq_some_iff.mp q).1
      simpa using this
    have hT : s.TypeIs (.ref e) "enumerate" := ⟨_, he, rfl⟩
    unfold pyNext
    refine wpAny_bind (wpAny_attempt (wpAny_callSpecial?_slot (name := Str.ofString "__next__") hT PySem.F.slot_enumerate_next
      (wpAny_call_entry PySem.F.slot_enumerate_next hT PySem.F.entry_enumerate_next
        (enum_next_gen (P := fun v h1' tk => v = .ref s.heap.objs.size ∧ (∃ f0 f1, IsZipF h1' z TI TO f0 f1 ∧ ZFld f0 f1) ∧ (∃ x y, IsTupOf2 h1' TO x y) ∧ h1'.IsListIter i1 a (i + 1) ∧ h1'.IsListIter i2 b (i + 1) ∧ IsTupOf2 h1' s.heap.objs.size u1 u2 ∧ h1'.objs.size = s.heap.objs.size + 1 ∧
          ∀ c o, c ≠ z → c ≠ TO → c ≠ i1 → c ≠ i2 → s.heap.get? c = some o → h1'.get? c = some o) he
          (fun Q' hQ' => nextOf_zip2 hh D hna hnb hz hzf hTI hTO ⟨h1, p.isList⟩ ⟨h2, p2.isList⟩ (by simpa using hu1) (by simpa using hu2) fun h' tk q1 q2 q3 q4 q5 q6 q7 => hQ' _ h' tk ⟨rfl, q1, q2, q3, q4, q5, q6, q7⟩)
          (fun v h1' tk q => q.2.2.2.2.2.2.2 _ _ he0.1 he0.2.2.1 he0.2.2.2.1 he0.2.2.2.2 he)
          fun v g1 tk h' q ho hT' hsz hk => wpAny_pure ?_) (PySem.F.args_enumerate_next_1 _))))
    obtain ⟨rfl, z', TO', g2, g3, g4, g5, g6⟩ := q
    have hN : s.heap.objs.size < g1.objs.size := by rw [g5]; exact Nat.lt_succ_self _
    have lz : z < s.heap.objs.size := Heap.lt_size hz
    have lTI : TI < s.heap.objs.size := Heap.lt_size hTI
    have lTO : TO < s.heap.objs.size := Heap.lt_size hTO
    have li1 : i1 < s.heap.objs.size := by obtain ⟨_, e1, _⟩ := h1; exact Heap.lt_size e1
    have li2 : i2 < s.heap.objs.size := by obtain ⟨_, e1, _⟩ := h2; exact Heap.lt_size e1
    have le : e < s.heap.objs.size := Heap.lt_size he
    have I1 : Inv X pins σ (upd H s.heap.objs.size (.tup [x, y])) { s with heap := g1, toks := tk } :=
      I.turnedNew (t' := tk) (ch := [z, TI, TO, i1, i2]) (fun c o hb q => g6 c o (fun q' => hb (by simp [q'])) (fun q' => hb (by simp [q'])) (fun q' => hb (by simp [q'])) (fun q' => hb (by simp [q'])) q) (fun b hb => hf b (List.mem_cons_of_mem _ hb)) (Nat.le_refl _)
        ⟨by show 2 ≤ sizeLine; decide, [u1, u2], .cons ru1 (.cons ru2 .nil), ⟨_, g4, rfl, _, rfl⟩⟩
    refine ⟨_, rfl, wpAny_letOwnedTupleGo_enum (s := { s with heap := h', toks := tk + 1 }) ho fun h'' he' sb => ?_⟩
    have hT2 : h''.get? g1.objs.size = some { cls := .type "tuple", data := .seq #[.int i tk, .ref s.heap.objs.size] } := (sb.2 _ (Nat.ne_of_gt (Nat.lt_trans le hN))).trans hT'
    have hTx : h''.get? s.heap.objs.size = some { cls := .type "tuple", data := .seq #[u1, u2] } := (sb.2 _ (Nat.ne_of_gt le)).trans (hk _ _ (Nat.ne_of_gt le) g4)
    have hfe := hf e (List.mem_cons_self ..)
    have I2 : Inv X pins σ (upd (upd H s.heap.objs.size (.tup [x, y])) g1.objs.size (.tup [.int (i : Nat), .ref s.heap.objs.size])) { s with heap := h'', toks := tk + 1 } :=
      I1.turnedNew (t' := tk + 1) (ch := [e]) (fun c o hb q => (sb.2 c (fun z => hb (by simp [z]))).trans (hk c o (fun z => hb (by simp [z])) q)) (fun b hb => by
          rw [List.mem_singleton.mp hb]
          exact ⟨by rw [upd_ne (Nat.ne_of_lt le)]; exact hfe.1, hfe.2⟩) (Nat.le_refl _)
        ⟨by show 2 ≤ sizeLine; decide, [.int i tk, .ref s.heap.objs.size], .cons ⟨_, rfl⟩ (.cons rfl .nil), ⟨_, hT2, rfl, _, rfl⟩⟩
    have keep : ∀ c o, c ≠ e → g1.get? c = some o → h''.get? c = some o := fun c o hc q => (sb.2 c hc).trans (hk c o hc q)
    refine ⟨.ref g1.objs.size, _, I2, rfl, ⟨_, _, x, y, rfl, I.hok.fresh (Nat.le_refl _), I1.hok.fresh (Nat.le_refl _), rfl, fun l hl => by rw [I.list_inj hl hqx]; exact hx, fun l hl => by rw [I.list_inj hl hqy]; exact hy⟩, ⟨⟨.ref s.heap.objs.size, ?_⟩, ?_, ?_, ?_, ?_, ?_⟩, fun c hcm => ?_⟩
    · have e1 : ((i + 1 : Nat) : Int) = (i : Int) + 1 := by omega
      rw [e1]
      exact he'
    · obtain ⟨f0', f1', q1, q2⟩ := z'
      exact ⟨f0', f1', keep _ _ (Ne.symm he0.1) q1, q2⟩
    · exact keep _ _ (Ne.symm he0.2.1) (g6 _ _ D.TIz D.TITO D.TIi1 D.TIi2 hTI)
    · obtain ⟨x', y', q⟩ := TO'
      exact ⟨x', y', keep _ _ (Ne.symm he0.2.2.1) q⟩
    · exact g2.at fun o q => keep _ o (Ne.symm he0.2.2.2.1) q
    · exact g3.at fun o q => keep _ o (Ne.symm he0.2.2.2.2) q
    · have hlt : c < s.heap.objs.size := by
        have e' : c = e ∨ c = z ∨ c = TI ∨ c = TO ∨ c = i1 ∨ c = i2 := by simpa using hcm
        rcases e' with q | q | q | q | q | q <;> rw [q] <;> assumption
      rw [upd_ne (Nat.ne_of_lt (Nat.lt_trans hlt hN)), upd_ne (Nat.ne_of_lt hlt)]
      exact (hf c hcm).1
  done := by
    intro X hP hw hK hc i pins s σ H E I hf st hg
    subst hP hw hK
    obtain ⟨⟨old, he⟩, ⟨f0, f1, hz, hzf⟩, hTI, ⟨x0, y0, hTO⟩, h1, h2⟩ := st
    obtain ⟨xs, ys, hqx, hqy, l1, l2, hend⟩ := hg
    obtain ⟨its, rv, p, _⟩ := I.list hqx
    obtain ⟨its2, rv2, p2, _⟩ := I.list hqy
    have g1 := rv.length
    have g2 := rv2.length
    have hh : X.A.in1.in1.handled = none := I.ok.hd hc
    have hT : s.TypeIs (.ref e) "enumerate" := ⟨_, he, rfl⟩
    unfold pyNext
    refine wpAny_bind (wpAny_attempt (wpAny_callSpecial?_slot (name := Str.ofString "__next__") hT PySem.F.slot_enumerate_next
      (wpAny_call_entry PySem.F.slot_enumerate_next hT PySem.F.entry_enumerate_next ?_ (PySem.F.args_enumerate_next_1 _))))
    show wpAny _ _ (field (.ref e) 2 >>= _) _ _ _
    refine wpAny_bind (wpAny_field he rfl (x := .ref z) rfl ?_)
    refine wpAny_bind (nextOf_zip2_end hh D hna hnb hz hzf hTI hTO ⟨h1, p.isList⟩ ⟨h2, p2.isList⟩ (by rw [List.size_toArray]; omega) (by rw [List.size_toArray]; omega) (by simp only [List.size_toArray]; omega) fun h' tk ex hk hx' => ?_)
    obtain ⟨o, ho, hc'⟩ := hx'
    refine wpAny_bind (wpAny_isInstance (T := "StopIteration") (b := true) ⟨o, ho, hc'⟩ isSubtype_stop ?_)
    exact wpAny_pure ⟨rfl, I.turnedL (t' := tk) (ch := [e, z, TI, TO, i1, i2]) (fun c o hb q =>
      hk c o (fun q' => hb (by simp [q'])) (fun q' => hb (by simp [q'])) (fun q' => hb (by simp [q'])) (fun q' => hb (by simp [q'])) q) hf⟩
  self := fun A i s Q E st h => let ⟨⟨_, he⟩, _⟩ := st; wpAny_pyIter_enum he h
def iEnumZ (K : PySem.W.Frag) (ta : TA) : TI := fun σ H R => ta σ H fun vs H1 => ∃ a b xs ys, vs = [.ref a, .ref b] ∧ SqL K H1 a xs ∧ SqL K H1 b ys ∧ R (IteZ K a b) H1
theorem pi_enumZip0 {X : Cx} {e e2 : Expr} {ta : TA} {p p2 q pos tpos : Pos} {elts : List Expr} {kk : Nat} (hg0 : Gl X "enumerate") (hm0 : X.mg "enumerate" = none) (hg : Gl X "zip") (hm : X.mg "zip" = none) (ha : PA X [e, e2] ta)
    (na : starEach [.Call (.Name "zip" p2) [e, e2] [] q] X.env = (false, eval (.Call (.Name "zip" p2) [e, e2] [] q) X.env) :: starEach [] X.env := by rfl)
    (hs : starEach [e, e2] X.env = (false, eval e X.env) :: starEach [e2] X.env := by rfl) (hpl : (backTo q (starEach [e2] X.env)).any (·.1) = false := by rfl) :
    PI X (.Tuple elts kk tpos) (.Call (.Name "enumerate" p) [.Call (.Name "zip" p2) [e, e2] [] q] [] pos) (iEnumZ X.K ta) := by
  refine ⟨fun pins s σ H R I h => ?_⟩
  refine Call_ (ld_blt I hg0 hm0 boot_enumerate ?_)
  refine PyProof.Rows.callWith_type1 (PyProof.Rows.args_cons ?_ na) na rfl
  refine Call_ (ld_blt I hg hm PyProof.Rows.boot_zip ?_)
  refine PyProof.Rows.callWith_type1 (thn (ha.run q pins s σ H _ I h) fun us s1 ⟨vs, H1, I1, r1, q1⟩ => ?_) hs hpl
  obtain ⟨a, b, xs, ys, ex, hqx, hqy, q1⟩ := q1
  subst ex
  cases r1 with
  | cons r rr =>
    cases rr with
    | cons r' rr =>
      cases rr
      cases r
      cases r'
      obtain ⟨its, rv, p1, _⟩ := I1.list hqx
      obtain ⟨its2, rv2, p2', _⟩ := I1.list hqy
      have la : a < s1.heap.objs.size := p1.lt
      have lb : b < s1.heap.objs.size := p2'.lt
      refine zip_begins2 (begins_list a its.toArray) (begins_list b its2.toArray) p1.isList p2'.isList fun h' hz hTI hTO h1 h2 hsz hk => ?_
      refine PyProof.Rows.args_nil ?_
      refine callType_new PySem.F.called_enumerate (by decide) (PySem.F.typeCall_enumerate_1 _) (PySem.F.newCall_enumerate_1 _) (fun obj => PySem.F.args_object_init_2 obj _) PySem.F.entry_enumerate_new
        (meets_enumerate_newI (v := .ref (s1.heap.objs.size + 4)) (H := fun h => IsZip h (s1.heap.objs.size + 4) (s1.heap.objs.size + 2) (s1.heap.objs.size + 3) .none) fun prog w A E s Q hz q => wpAny_pyIter_zip hz q) ⟨hz, ?_⟩
      show _ ∧ _
      have he : IsEnum (h'.push { cls := .type "enumerate", data := .fields #[.none, .bool false, .ref (s1.heap.objs.size + 4), rawInt 0, .none, .none] }) h'.objs.size (s1.heap.objs.size + 4) 0 .none := Heap.get?_push_size _ rfl
      have up : ∀ b o, h'.get? b = some o → (h'.push { cls := .type "enumerate", data := .fields #[.none, .bool false, .ref (s1.heap.objs.size + 4), rawInt 0, .none, .none] }).get? b = some o := fun b o q => Heap.get?_push_of_some _ q
      refine ⟨⟨_, he, rfl⟩, ?_⟩
      generalize hg : h'.push { cls := .type "enumerate", data := .fields #[.none, .bool false, .ref (s1.heap.objs.size + 4), rawInt 0, .none, .none] } = h2' at he up ⊢
      refine wpAny_pyIter_enum he ?_
      have I2 : Inv X pins σ H1 { s1 with heap := h2' } := I1.kept (t' := s1.toks) fun b o e => up b o (hk b o e)
      have ne : ∀ k, k < 5 → h'.objs.size ≠ s1.heap.objs.size + k := fun k hk z => by rw [hsz] at z; omega
      refine ⟨h'.objs.size, [h'.objs.size, s1.heap.objs.size + 4, s1.heap.objs.size + 2, s1.heap.objs.size + 3, s1.heap.objs.size, s1.heap.objs.size + 1], _, _, H1, rfl, I2,
        turn_enumZip (zip_sep2 (N := s1.heap.objs.size) (fp1 := [a]) (fp2 := [b]) (by simpa using la) (by simpa using lb)) (Nat.ne_of_lt la) (Nat.ne_of_lt (Nat.lt_add_right 1 lb)) ⟨ne 4 (by decide), ne 2 (by decide), ne 3 (by decide), ne 0 (by decide), ne 1 (by decide)⟩,
        ⟨⟨_, he⟩, ⟨_, _, up _ _ hz, .inl rfl, _, rfl⟩, up _ _ hTI, ⟨_, _, up _ _ hTO⟩, ⟨_, up _ _ h1, rfl, rfl⟩, ⟨_, up _ _ h2, rfl, rfl⟩⟩, fun c hcm => ?_, q1⟩
      have e' : c = h'.objs.size ∨ c = s1.heap.objs.size + 4 ∨ c = s1.heap.objs.size + 2 ∨ c = s1.heap.objs.size + 3 ∨ c = s1.heap.objs.size ∨ c = s1.heap.objs.size + 1 := by simpa using hcm
      have hle : s1.heap.objs.size ≤ c := by
        rcases e' with z | z | z | z | z | z
        · rw [z, hsz]; exact Nat.le_add_right _ _
        · rw [z]; exact Nat.le_add_right _ _
        · rw [z]; exact Nat.le_add_right _ _
        · rw [z]; exact Nat.le_add_right _ _
        · rw [z]; exact Nat.le_refl _
        · rw [z]; exact Nat.le_add_right _ _
      exact I1.fpOk hle (I1.hok.fresh hle)
theorem pi_enumZip {X : Cx} (K : PySem.W.Frag) (hK : X.K = K) {e e2 : Expr} {ta : TA} {p p2 q pos tpos : Pos} {elts : List Expr} {kk : Nat} (hg0 : Gl X "enumerate") (hm0 : X.mg "enumerate" = none) (hg : Gl X "zip") (hm : X.mg "zip" = none) (ha : PA X [e, e2] ta)
    (na : starEach [.Call (.Name "zip" p2) [e, e2] [] q] X.env = (false, eval (.Call (.Name "zip" p2) [e, e2] [] q) X.env) :: starEach [] X.env := by rfl)
    (hs : starEach [e, e2] X.env = (false, eval e X.env) :: starEach [e2] X.env := by rfl) (hpl : (backTo q (starEach [e2] X.env)).any (·.1) = false := by rfl) :
    PI X (.Tuple elts kk tpos) (.Call (.Name "enumerate" p) [.Call (.Name "zip" p2) [e, e2] [] q] [] pos) (iEnumZ K ta) := hK ▸ pi_enumZip0 hg0 hm0 hg hm ha na hs hpl
theorem it_enumZ {α : Type} {K : PySem.W.Frag} {Md : Ms} {ρ : List Sl} {ta : TA} {xs : List α} {f g : α → PD} (ha : EvA K Md ρ ta [.list (xs.map f), .list (xs.map g)]) :
    ItD K Md ρ (iEnumZ K ta) (xs.mapIdx fun i x => PyData.tuple [.int (i : Nat), .tuple [f x, g x]]) := .mk <| fun E hi R kk => ha E hi _ fun vs H' H2 E' s p => by
  cases p with
  | cons p1 p2 =>
    cases p2 with
    | cons p2 p3 =>
      cases p3
      cases p1 with
      | @lst a vs1 _ a1 a2 =>
        cases p2 with
        | @lst b vs2 _ b1 b2 =>
          have l1 : vs1.length = xs.length := by rw [dpa_len a2, List.length_map]
          have l2 : vs2.length = xs.length := by rw [dpa_len b2, List.length_map]
          have get : ∀ {i : Nat} {d : PD}, (xs.mapIdx fun i x => PyData.tuple [.int (i : Nat), .tuple [f x, g x]])[i]? = some d → ∃ x, xs[i]? = some x ∧ d = .tuple [.int (i : Nat), .tuple [f x, g x]] := fun {i d} e => by
            rw [List.getElem?_mapIdx] at e
            cases q : xs[i]? with
            | none => rw [q] at e; cases e
            | some x => rw [q] at e; cases e; exact ⟨x, rfl, rfl⟩
          have put : ∀ {i : Nat} {x : α} (h : α → PD), xs[i]? = some x → (xs.map h)[i]? = some (h x) := fun {i x} h e => by rw [List.getElem?_map, e]; rfl
          refine ⟨a, b, vs1, vs2, rfl, E'.sub.seq a1, E'.sub.seq b1, kk _ H' H2 E' s ⟨fun i d H1 s1 e => ?_, fun i d Ha H1 x H3 sa sb e y => ?_, fun H1 s1 => ?_⟩⟩
          · obtain ⟨x, e1, rfl⟩ := get e
            obtain ⟨v1, g1, _⟩ := dpa_get a2 (put f e1)
            obtain ⟨v2, g2, _⟩ := dpa_get b2 (put g e1)
            exact ⟨vs1, vs2, v1, v2, s1.seq a1, s1.seq b1, g1, g2⟩
          · obtain ⟨x', e1, rfl⟩ := get e
            obtain ⟨v1, g1, q1⟩ := dpa_get a2 (put f e1)
            obtain ⟨v2, g2, q2⟩ := dpa_get b2 (put g e1)
            obtain ⟨T, O, y1, y2, rfl, hT, hO, rfl, f1, f2⟩ := y
            have ss := sa.trans sb
            have r1 := f1 vs1 (ss.seq a1)
            have r2 := f2 vs2 (ss.seq b1)
            rw [g1] at r1
            rw [g2] at r2
            cases r1
            cases r2
            have X := Ext.new (o := .tup [v1, v2]) sb hT
            have X2 := Ext.new (o := .tup [.int (i : Nat), .ref T]) X.sub hO
            have u := sa.trans (X.known.trans X2.known)
            refine ⟨_, ⟨X.known.trans X2.known, X2.sub, fun c o hc e => X2.keep c o hc (X.keep c o hc e), fun c h0 hn => ?_⟩, .tup (SqT.of upd_same) (.cons (.int _) (.cons (dp_mono X2.known (.tup (SqT.of upd_same) (.cons (dp_mono (sa.trans X.known) q1) (.cons (dp_mono (sa.trans X.known) q2) .nil)))) .nil))⟩
            by_cases hcT : c = T
            · rw [hcT]; exact hT
            · by_cases hcO : c = O
              · have : H1 c = upd H1 T (.tup [v1, v2]) c := by rw [upd_ne hcT]
                rw [this, hcO]
                exact hO
              · rw [upd_ne hcO, upd_ne hcT] at hn
                exact absurd h0 hn
          · refine ⟨vs1, vs2, s1.seq a1, s1.seq b1, ?_, ?_, ?_⟩ <;> rw [List.length_mapIdx] <;> omega
end K37

set_option Elab.async false
set_option linter.all false
set_option maxRecDepth 100000
set_option maxHeartbeats 4000000
/-! dicts with int keys: update, membership; defs that get a changing object -/
namespace K37
open PySem PySem.Spec PyProof.Rows L2 RZ
/-! ### dicts -/
def rDUpd : V → List V → Hp → VK → Prop := fun x vs H Q => ∃ (a b : Addr) (kvs more : List (Key × V)), x = .ref a ∧ vs = [.ref b] ∧ a ≠ b ∧ H a = some (.dK kvs) ∧ H b = some (.dK more) ∧ kvs.length + more.length ≤ 100000 ∧ Q .non (upd H a (.dK (mergeK kvs more)))
def rDictP (K : PySem.W.Frag) : List V → Hp → VK → Prop := fun xs H Q => ∃ (a : Addr) (ps : List Addr) (kvs : List (Key × V)), xs = [.ref a] ∧ SqL K H a (ps.map V.ref) ∧ Paired (fun p kv => SqT K H p [kV kv.1, kv.2]) ps kvs ∧
    ∀ p, H p = none → Q (.ref p) (upd H p (.dK (mergeK [] kvs)))
section
variable {X : Cx}
theorem mt_update : MtR X "dict.update" rDUpd := by
  intro pins s σ H x vs v us Q I rx rv h
  obtain ⟨a, b, kvs, more, rfl, rfl, hab, ha, hb, hz, q⟩ := h
  cases rx
  obtain ⟨u, rfl, ru⟩ := rv.one
  cases ru
  obtain ⟨z1, hd1, vs1, rel1, dd1⟩ := dk_of I.hok ha
  obtain ⟨z2, hd2, vs2, rel2, dd2⟩ := dk_of I.hok hb
  have l1 := Paired.length rel1
  have l2 := Paired.length rel2
  refine call_meetsIn PySem.F.slot_dict_update dd1.typeIs PySem.F.entry_dict_update (PySem.F.args_dict_update_2 _ _) (meets_dict_update (mixKind X.prog X.w) a b hab hd2) ⟨vs1, vs2, dd1, dd2, by rw [← l1, ← l2]; exact Nat.le_trans hz (by decide), fun h' d1 d2 hs => ?_⟩
  have he : ∃ q, h'.get? a = some q := let ⟨q, _, _, hq, _⟩ := d1; ⟨q, hq⟩
  have hl := length_mergeK more kvs
  exact ⟨.non, _, d_write (t' := s.toks) I (by rw [ha]; exact True.intro) hs he (dk_new (by rw [sizeLine_eq]; omega) hd1 (KV.merge rel2 rel1) d1), rfl, q⟩
theorem cr_dictP (K : PySem.W.Frag) (h : X.K = K) (hc : X.calm = true) : CallR X (.type "dict") (rDictP K) := h ▸ call_dictP hc
end
/-- has the int key -/
def hasK (kvs : List (Key × V)) (i : Int) : Bool := (valV kvs (.inl i)).isSome
theorem hasK_put (kvs : List (Key × V)) (j i : Int) (v : V) : hasK (putK kvs (.inl j) v) i = (decide (i = j) || hasK kvs i) := by
  unfold hasK
  rw [valV_put]
  by_cases h : i = j
  · rw [if_pos (by rw [h]), decide_eq_true h, Bool.true_or]
    rfl
  · rw [if_neg (fun z => h (Sum.inl.inj z)), decide_eq_false h, Bool.false_or]
theorem hasK_merge : ∀ (more kvs : List (Key × V)) (i : Int), (∀ p ∈ more, ∃ j, p.1 = .inl j) → hasK (mergeK kvs more) i = (hasK kvs i || more.any fun p => decide (p.1 = .inl i))
  | [], kvs, i, _ => by
    show hasK kvs i = (hasK kvs i || false)
    rw [Bool.or_false]
  | p :: r, kvs, i, h => by
    obtain ⟨j, hj⟩ := h p (List.mem_cons_self ..)
    have ih := hasK_merge r (putK kvs p.1 p.2) i fun q hq => h q (List.mem_cons_of_mem _ hq)
    show hasK (mergeK (putK kvs p.1 p.2) r) i = _
    rw [ih, hj, hasK_put, List.any_cons, hj]
    have e : decide ((Sum.inl j : Key) = Sum.inl i) = decide (i = j) := decide_eq_decide.mpr ⟨fun z => (Sum.inl.inj z).symm, fun z => by rw [z]⟩
    rw [e]
    cases decide (i = j) <;> cases hasK kvs i <;> simp
/-- keys are ints -/
def IntK (kvs : List (Key × V)) : Prop := ∀ p ∈ kvs, ∃ j, p.1 = .inl j
theorem IntK.put {kvs : List (Key × V)} (h : IntK kvs) (j : Int) (v : V) : IntK (putK kvs (.inl j) v) := by
  intro p hp
  unfold putK at hp
  split at hp
  · obtain ⟨q, hq, rfl⟩ := List.mem_map.mp hp
    split
    · exact h q hq
    · exact h q hq
  · rcases List.mem_append.mp hp with hp | hp
    · exact h p hp
    · rw [List.mem_singleton.mp hp]
      exact ⟨j, rfl⟩
theorem IntK.merge : ∀ {more kvs : List (Key × V)}, IntK kvs → IntK more → IntK (mergeK kvs more)
  | [], _, h, _ => h
  | p :: r, kvs, h, hm => by
    obtain ⟨j, hj⟩ := hm p (List.mem_cons_self ..)
    show IntK (mergeK (putK kvs p.1 p.2) r)
    refine IntK.merge ?_ fun q hq => hm q (List.mem_cons_of_mem _ hq)
    rw [hj]
    exact h.put j _
/-- the pairs of {k: True} -/
def truePairs (ks : List Int) : List (Key × V) := ks.map fun k => (.inl k, .bl true)
theorem truePairs_int (ks : List Int) : IntK (truePairs ks) := fun p hp => by
  obtain ⟨k, _, rfl⟩ := List.mem_map.mp hp
  exact ⟨k, rfl⟩
theorem hasK_true (kvs : List (Key × V)) (ks : List Int) (i : Int) : hasK (mergeK kvs (mergeK [] (truePairs ks))) i = (hasK kvs i || decide (i ∈ ks)) := by
  have h1 := IntK.merge (kvs := []) (more := truePairs ks) (fun p hp => nomatch hp) (truePairs_int ks)
  rw [hasK_merge _ _ _ h1]
  congr 1
  have e : ∀ more : List (Key × V), (more.any fun p => decide (p.1 = .inl i)) = hasK more i := fun more => valV_any _ _
  rw [e, hasK_merge _ _ _ (truePairs_int ks)]
  show (false || _) = _
  rw [Bool.false_or, truePairs, List.any_map]
  rw [Bool.eq_iff_iff, List.any_eq_true, decide_eq_true_eq]
  constructor
  · rintro ⟨k, hk, e⟩
    have e : (Sum.inl k : Key) = Sum.inl i := by simpa using e
    cases e
    exact hk
  · intro h
    exact ⟨i, h, by simp⟩
section
variable {K : PySem.W.Frag} {C : List Addr} {M Md : Ms} {ρ : List Sl} {ta tb te tc tl ty td : TE} {t u tt : TT} {dx dy d e : PD} {b : Bool} {r : R2} {N : Ms → List Sl → Prop} {R : Ms → PD → Prop} {rest s1 s2 s3 : TS}
theorem ev_din {l : Addr} {kvs : List (Key × V)} {i : Int} {j : Nat} (ha : EvD K Md ρ ty (.int i)) (hj : ρ[j]? = some (.ml l)) (hm : (l, MO.dct kvs) ∈ Md) : EvD K Md ρ (tDIn ty (tVar j)) (.bool (hasK kvs i)) := .mk <| fun E hi Q k =>
  ha E hi _ fun x H' H2 E' s p => by
    cases p
    have h3 := (E'.mem _ (hi _ hm)).2.2
    exact ⟨.ref l, E'.mutA hj, l, valV kvs (.inl i), rfl, DGet.k (k := .inl i) h3, k _ H' H2 E' s (.bl _)⟩
theorem ev_dnotin {l : Addr} {kvs : List (Key × V)} {i : Int} {j : Nat} (ha : EvD K Md ρ ty (.int i)) (hj : ρ[j]? = some (.ml l)) (hm : (l, MO.dct kvs) ∈ Md) : EvD K Md ρ (tDNotIn ty (tVar j)) (.bool (!hasK kvs i)) := .mk <| fun E hi Q k =>
  ha E hi _ fun x H' H2 E' s p => by
    cases p
    have h3 := (E'.mem _ (hi _ hm)).2.2
    exact ⟨.ref l, E'.mutA hj, l, valV kvs (.inl i), rfl, DGet.k (k := .inl i) h3, k _ H' H2 E' s (.bl _)⟩
/-- d = {} -/
theorem st_newD {i : Nat} (k : ∀ p, p ∉ C → (∀ q ∈ M, q.1 ≠ p) → StD K C ((p, .dct []) :: M) (ρ.set i (.ml p)) rest N R) : StD K C M ρ (tSeq (tAsg tDNewK (gName i)) rest) N R := .mk <| fun {H0 H10 H H1 σ} E D hn hr =>
  fun p hp => by
    have hne : ∀ q ∈ M, q.1 ≠ p := fun q hq z => (E.mem q hq).2.2.some (by rw [z]; exact hp)
    have hC : p ∉ C := fun hc => by
      obtain ⟨q, hq, e⟩ := List.mem_map.mp (E.cin p hc)
      exact hne q hq e
    have E' := E.newM (o := .dK []) (m := .dct []) hp upd_same
    exact k p hC hne (E'.set (s := .ml p) rfl) D hn hr
theorem dpa_pairs {H : Hp} : ∀ {vs : List V} {ks : List Int}, DpAll K H vs (ks.map fun k => PyData.tuple [.int k, .bool true]) → ∃ ps : List Addr, vs = ps.map V.ref ∧ Paired (fun (p : Addr) (kv : Key × V) => SqT K H p [kV kv.1, kv.2]) ps (truePairs ks)
  | vs, [], h => by
    cases h
    exact ⟨[], rfl, .nil⟩
  | vs, k :: ks, h => by
    cases h with
    | cons h1 h2 =>
      obtain ⟨ps, rfl, g⟩ := dpa_pairs h2
      cases h1 with
      | @tup a xs _ q1 q2 =>
        cases q2 with
        | cons r1 r2 =>
          cases r2 with
          | cons r2 r3 =>
            cases r3
            cases r1
            cases r2
            exact ⟨a :: ps, rfl, .cons q1 g⟩
theorem paired_mono {H H' : Hp} (s : Same H H') {ps : List Addr} {kvs : List (Key × V)} (h : Paired (fun (p : Addr) (kv : Key × V) => SqT K H p [kV kv.1, kv.2]) ps kvs) : Paired (fun (p : Addr) (kv : Key × V) => SqT K H' p [kV kv.1, kv.2]) ps kvs := by
  induction h with
  | nil => exact .nil
  | cons h1 _ ih => exact .cons (sqt_mono s h1) ih
/-- d.update(dict(pairs)) -/
theorem st_dupd {l : Addr} {kvs : List (Key × V)} {i : Nat} {ks : List Int} (hi : ρ[i]? = some (.ml l)) (h : EvD K ((l, .dct kvs) :: M) ρ te (.list (ks.map fun k => PyData.tuple [.int k, .bool true]))) (hz : kvs.length + ks.length ≤ 100000)
    (k : StD K C ((l, .dct (mergeK kvs (mergeK [] (truePairs ks)))) :: M) ρ rest N R) :
    StD K C ((l, .dct kvs) :: M) ρ (tSeq (tDrop (tBM K "dict" rDUpd (tVar i) (tCons (tCB (rDictP K) (tCons te tNil)) tNil))) rest) N R := .mk <| fun {H0 H10 H H1 σ} E D hn hr => by
  have g3 : H1 l = some (.dK kvs) := (E.mem _ (List.mem_cons_self ..)).2.2
  refine ⟨.ref l, E.mutA hi, .inr (.inr (.inl ⟨rfl, .inl ⟨kvs, g3⟩⟩)), h E (Ins.refl _) _ fun v H' H2 E' s p => ?_⟩
  cases p with
  | @lst a xs _ q1 q2 =>
    obtain ⟨ps, rfl, g⟩ := dpa_pairs q2
    refine ⟨a, ps, truePairs ks, rfl, E'.sub.seq q1, paired_mono E'.sub g, fun p hp => ?_⟩
    have g4 : H2 l = some (.dK kvs) := (E'.mem _ (List.mem_cons_self ..)).2.2
    have hne : l ≠ p := fun z => by rw [z, hp] at g4; cases g4
    have E2 := E'.newM (o := .dK (mergeK [] (truePairs ks))) (m := .dct (mergeK [] (truePairs ks))) hp upd_same
    have hlen : (mergeK [] (truePairs ks)).length ≤ ks.length := by
      have := length_mergeK (truePairs ks) []
      rw [List.length_nil, Nat.zero_add] at this
      unfold truePairs at this ⊢
      rw [List.length_map] at this
      exact this
    refine ⟨l, p, kvs, _, rfl, rfl, hne, by rw [upd_ne hne]; exact g4, upd_same, by omega, ?_⟩
    have hC : p ∉ C := fun hc => by
      obtain ⟨q, hq, e⟩ := List.mem_map.mp (E'.cin p hc)
      exact (E'.mem q hq).2.2.some (by rw [e]; exact hp)
    have E3 := (E2.drop hC).chg (o := .dK (mergeK kvs (mergeK [] (truePairs ks)))) (m' := .dct (mergeK kvs (mergeK [] (truePairs ks)))) upd_same
    exact k E3 D (fun M' ρ' H'' H3 σ' n E'' s' => hn M' ρ' H'' H3 σ' n E'' (s.trans s')) (fun d' M' ρ' v' H'' H3 σ' q E'' s' p' => hr d' M' ρ' v' H'' H3 σ' q E'' (s.trans s') p')
end

/-! ### a foreign object changes -/
section
variable {K : PySem.W.Frag} {C : List Addr} {H0 H10 : Hp} {M : Ms} {H H1 H' H2 : Hp} {ρ : List Sl} {σ : L2.St}
theorem En.growX {p : Addr} {m m' : MO} (E : En K C H0 H10 ((p, m) :: M) H H1 ρ σ) (x : Ext [p] H H1 H' H2) (hn : H' p = none) (hm : MOk K H' H2 p m') : En K C H0 H10 ((p, m') :: M) H' H2 ρ σ where
  ext := ⟨E.ext.known.trans x.known, x.sub, fun b o hb e => by
    by_cases hbp : b = p
    · subst hbp
      rcases (E.mem _ (List.mem_cons_self ..)).2.1 with h | h
      · exact absurd h hb
      · rw [h] at e
        cases e
    · exact x.keep b o (by simp [hbp]) (E.ext.keep b o hb e), fun b h0 hn => by
    cases q : H b with
    | some u => exact E.ext.fresh b h0 (by rw [q]; simp)
    | none =>
      have q1 := x.fresh b q hn
      cases q2 : H10 b with
      | none => rfl
      | some u =>
        by_cases hc : b ∈ C
        · obtain ⟨p, hp, e⟩ := List.mem_map.mp (E.cin b hc)
          have := (E.mem p hp).2.2.some
          rw [e] at this
          exact absurd q1 this
        · rw [E.ext.keep b u hc q2] at q1
          cases q1⟩
  len := E.len
  slots := fun i s e => (E.slots i s e).mono x.known
  mem := fun q hq => by
    rcases List.mem_cons.mp hq with rfl | hq
    · exact ⟨hn, (E.mem _ (List.mem_cons_self ..)).2.1, hm⟩
    · obtain ⟨h1, h2, h3⟩ := E.mem q (List.mem_cons_of_mem _ hq)
      have hne : q.1 ≠ p := fun z => by
        have := E.nd
        rw [List.map_cons, List.nodup_cons] at this
        exact this.1 (List.mem_map.mpr ⟨q, hq, z⟩)
      refine ⟨?_, h2, h3.mono x.known fun u e => x.keep _ _ (by simp [hne]) e⟩
      cases z : H' q.1 with
      | none => rfl
      | some u =>
        have := x.fresh q.1 h1 (by rw [z]; simp)
        exact absurd this h3.some
  nd := E.nd
  cin := E.cin
end
/-- a put in at j -/
def insAt {α : Type} : Nat → α → List α → List α
  | 0, a, l => a :: l
  | _ + 1, a, [] => [a]
  | j + 1, a, x :: l => x :: insAt j a l
/-- the promise of a def that gets one changing object, as its argument j -/
def spM (K : PySem.W.Frag) (j : Nat) (Pre : List PD → MO → Prop) (R : List PD → MO → MO → PD → Prop) : Sp := fun vs H1 Q _ => ∃ H p m ws ds, Same H H1 ∧ H p = none ∧ MOk K H H1 p m ∧ vs = insAt j (.ref p) ws ∧ j ≤ ws.length ∧ DpAll K H ws ds ∧ Pre ds m ∧
  ∀ v H' H2 d m', R ds m m' d → Ext [p] H H1 H' H2 → H' p = none → MOk K H' H2 p m' → Dp K H' v d → Q v H2
section
variable (K : PySem.W.Frag)
structure EvAM (Md : Ms) (ρ : List Sl) (ta : TA) (j : Nat) (p : Addr) (ds : List PD) : Prop where
  run : ∀ {C : List Addr} {H0 H10 : Hp} {M : Ms} {H H1 : Hp} {σ : L2.St}, En K C H0 H10 M H H1 ρ σ → Ins Md M →
    ∀ Q : List V → Hp → Prop, (∀ ws H' H2, En K C H0 H10 M H' H2 ρ σ → Same H H' → DpAll K H' ws ds → j ≤ ws.length → Q (insAt j (.ref p) ws) H2) → ta σ H1 Q
/-- a reading that may change objects: some data -/
structure EvX (C : List Addr) (M : Ms) (ρ : List Sl) (te : TE) (P : Ms → PD → Prop) : Prop where
  run : ∀ {F : Ms} {H0 H10 : Hp} {H H1 : Hp} {σ : L2.St}, En K C H0 H10 (F ++ M) H H1 ρ σ →
    ∀ Q : VK, (∀ v d M' H' H2, P M' d → En K C H0 H10 (F ++ M') H' H2 ρ σ → Same H H' → Dp K H' v d → Q v H2) → te σ H1 Q
structure ExA (C : List Addr) (M : Ms) (ρ : List Sl) (ta : TA) (P : Ms → List PD → Prop) : Prop where
  run : ∀ {F : Ms} {H0 H10 : Hp} {H H1 : Hp} {σ : L2.St}, En K C H0 H10 (F ++ M) H H1 ρ σ →
    ∀ Q : List V → Hp → Prop, (∀ vs ds M' H' H2, P M' ds → En K C H0 H10 (F ++ M') H' H2 ρ σ → Same H H' → DpAll K H' vs ds → Q vs H2) → ta σ H1 Q
end
theorem ins_app (F M : Ms) : Ins M (F ++ M) := fun _ h => List.mem_append_right _ h
section
variable {K : PySem.W.Frag} {C : List Addr} {M Md : Ms} {ρ : List Sl} {ta tb te tc tl ty td : TE} {t u tt : TT} {dx dy d e : PD} {b : Bool} {r : R2} {N : Ms → List Sl → Prop} {R : Ms → PD → Prop} {rest s1 s2 s3 : TS} {P P' : Ms → PD → Prop}
theorem eam_here {tr : TA} {ds : List PD} {i : Nat} {p : Addr} (hi : ρ[i]? = some (.ml p)) (h : EvA K Md ρ tr ds) : EvAM K Md ρ (tCons (tVar i) tr) 0 p ds := .mk <| fun E hm Q k =>
  ⟨.ref p, E.mutA hi, h E hm _ fun ws H' H2 E' s q => k ws H' H2 E' s q (Nat.zero_le _)⟩
theorem eam_cons {tr : TA} {ds : List PD} {j : Nat} {p : Addr} (ha : EvD K Md ρ ta d) (h : EvAM K Md ρ tr j p ds) : EvAM K Md ρ (tCons ta tr) (j + 1) p (d :: ds) := .mk <| fun E hm Q k =>
  ha E hm _ fun x Ha H1a Ea sa px => h.run Ea hm _ fun ws H' H2 E' s q hj => k (x :: ws) H' H2 E' (sa.trans s) (.cons (dp_mono s px) q) (Nat.succ_le_succ hj)
theorem ex_weak (h : EvX K C M ρ te P) (w : ∀ M' d, P M' d → P' M' d) : EvX K C M ρ te P' := .mk <| fun E Q k => h.run E Q fun v d M' H' H2 p => k v d M' H' H2 (w M' d p)
theorem ex_pure (h : EvD K M ρ te d) : EvX K C M ρ te (fun M' d' => M' = M ∧ d' = d) := .mk <| fun {F _ _ _ _ _} E Q k =>
  h E (ins_app F M) Q fun v H' H2 E' s p => k v d M H' H2 ⟨rfl, rfl⟩ E' s p
theorem ex_call {Pre : List PD → MO → Prop} {R : List PD → MO → MO → PD → Prop} {ta : TA} {j : Nat} {p : Addr} {m : MO} {ds : List PD} {E0 : XK} (ha : EvAM K ((p, m) :: M) ρ ta j p ds) (hp : Pre ds m) :
    EvX K C ((p, m) :: M) ρ (tCall (spM K j Pre R) [] E0 ta) (fun M' d => ∃ m', R ds m m' d ∧ M' = (p, m') :: M) := .mk <| fun {F _ _ _ _ _} E Q k =>
  ha.run E (ins_app F _) _ fun ws H' H2 E' s q hj => by
    have E2 := E'.perm (M' := (p, m) :: (F ++ M)) List.perm_middle
    obtain ⟨g1, g2, g3⟩ := E2.mem _ (List.mem_cons_self ..)
    refine ⟨H', p, m, ws, ds, E'.sub, g1, g3, List.append_nil _, hj, q, hp, fun v H'' H3 d m' hr x hn hm pv => ?_⟩
    have E3 := (E2.growX x hn hm).perm (M' := F ++ (p, m') :: M) List.perm_middle.symm
    exact k v d _ H'' H3 ⟨m', hr, rfl⟩ E3 (s.trans x.known) pv
/-- a def that reads a changing object -/
theorem ev_callM {Pre : List PD → MO → Prop} {R : List PD → MO → MO → PD → Prop} {ta : TA} {j : Nat} {p : Addr} {m : MO} {ds : List PD} {E0 : XK} (ha : EvAM K Md ρ ta j p ds) (hin : (p, m) ∈ Md) (hp : Pre ds m) (hR : ∀ m' e, R ds m m' e → m' = m ∧ e = d) :
    EvD K Md ρ (tCall (spM K j Pre R) [] E0 ta) d := .mk <| fun {C H0 H10 M H H1 σ} E hm Q k =>
  ha.run E hm _ fun ws H' H2 E' s q hj => by
    obtain ⟨M1, M2, eM⟩ := List.append_of_mem (hm _ hin)
    subst eM
    have E2 := E'.perm (M' := (p, m) :: (M1 ++ M2)) List.perm_middle
    obtain ⟨g1, g2, g3⟩ := E2.mem _ (List.mem_cons_self ..)
    refine ⟨H', p, m, ws, ds, E'.sub, g1, g3, List.append_nil _, hj, q, hp, fun v H'' H3 e m' hr x hn hmk pv => ?_⟩
    obtain ⟨rfl, rfl⟩ := hR m' e hr
    exact k v H'' H3 ((E2.growX x hn hmk).perm List.perm_middle.symm) (s.trans x.known) pv
theorem ex_opL {f : PD → PD} (ha : EvX K C M ρ ta P) (h : ∀ M' dx, P M' dx → EvD K M' ρ tb dy ∧ RD K r dx dy (f dx)) : EvX K C M ρ (tOp r ta tb) (fun M' e => ∃ dx, P M' dx ∧ e = f dx) := .mk <| fun {F _ _ _ _ _} E Q k =>
  ha.run E _ fun x dx M' Ha H1a hp Ea sa px => by
    obtain ⟨hb, hr⟩ := h M' dx hp
    exact hb Ea (ins_app F M') _ fun y Hb H1b Eb sb py => hr Eb.sub (dp_mono sb px) py Q fun v H' H2 x p => k v _ M' H' H2 ⟨dx, hp, rfl⟩ (Eb.grow x) ((sa.trans sb).trans x.known) p
theorem exa_nil : ExA K C M ρ tNil (fun M' ds => M' = M ∧ ds = []) := .mk <| fun {F H0 H10 H H1 σ} E Q k => k [] [] M H H1 ⟨rfl, rfl⟩ E (Same.refl _) .nil
theorem exa_cons {tr : TA} {P2 : Ms → PD → Ms → List PD → Prop} (ha : EvX K C M ρ ta P) (hr : ∀ M' d, P M' d → ExA K C M' ρ tr (P2 M' d)) : ExA K C M ρ (tCons ta tr) (fun M'' ds => ∃ M' d ds', P M' d ∧ P2 M' d M'' ds' ∧ ds = d :: ds') := .mk <| fun {F _ _ _ _ _} E Q k =>
  ha.run E _ fun x d M' Ha H1a hp Ea sa px => (hr M' d hp).run Ea _ fun vs ds M'' Hb H1b hq Eb sb ps => k (x :: vs) (d :: ds) M'' Hb H1b ⟨M', d, ds, hp, hq, rfl⟩ Eb (sa.trans sb) (.cons (dp_mono sb px) ps)
theorem ex_cb {rr : List V → Hp → VK → Prop} {ta : TA} {PA : Ms → List PD → Prop} (ha : ExA K C M ρ ta PA) (h : ∀ M' ds, PA M' ds → ∃ d, CD K rr ds d ∧ P M' d) : EvX K C M ρ (tCB rr ta) P := .mk <| fun {F _ _ _ _ _} E Q k =>
  ha.run E _ fun vs ds M' Ha H1a hp Ea sa px => by
    obtain ⟨d, hr, hP⟩ := h M' ds hp
    exact hr Ea.sub px Q fun v H' H2 x p => k v d M' H' H2 hP (Ea.grow x) (sa.trans x.known) p
theorem ex_callP {R : List PD → PD → Prop} {ta : TA} {PA : Ms → List PD → Prop} {E0 : XK} (ha : ExA K C M ρ ta PA) (h : ∀ M' ds, PA M' ds → ∃ d, R ds d ∧ P M' d) : EvX K C M ρ (tCall (spD K R) [] E0 ta) P := .mk <| fun {F _ _ _ _ _} E Q k =>
  ha.run E _ fun vs ds M' Ha H1a hp Ea sa px => by
    obtain ⟨d, hr, hP⟩ := h M' ds hp
    exact ⟨Ha, ds, d, Ea.sub, by rw [List.append_nil]; exact px, hr, fun v H' H2 x p => k v d M' H' H2 hP (Ea.grow x) (sa.trans x.known) p⟩
/-! statements -/
theorem st_setX {i : Nat} (h : EvX K C M ρ te P) (k : ∀ M' d, P M' d → StD K C M' (ρ.set i (.val d)) rest N R) : StD K C M ρ (tSeq (tAsg te (gName i)) rest) N R := .mk <| fun E D hn hr =>
  h.run (F := []) E _ fun v d M' H' H2 p E' s pv => (k M' d p) (E'.setV pv) D (fun M'' ρ' H'' H3 σ' n E'' s' => hn M'' ρ' H'' H3 σ' n E'' (s.trans s')) (fun d' M'' ρ' v' H'' H3 σ' q E'' s' p' => hr d' M'' ρ' v' H'' H3 σ' q E'' (s.trans s') p')
theorem st_parX {i j : Nat} {ta : TA} {PA : Ms → List PD → Prop} (h : ExA K C M ρ ta PA) (k : ∀ M' ds, PA M' ds → ∃ dx dy, ds = [dx, dy] ∧ StD K C M' ((ρ.set i (.val dx)).set j (.val dy)) rest N R) : StD K C M ρ (tSeq (tPar i j ta) rest) N R := .mk <| fun E D hn hr =>
  h.run (F := []) E _ fun vs ds M' H' H2 p E' s pv => by
    obtain ⟨dx, dy, rfl, k'⟩ := k M' ds p
    cases pv with
    | cons p1 p2 =>
      cases p2 with
      | cons p2 p3 =>
        cases p3
        exact ⟨_, _, rfl, k' ((E'.setV p1).setV p2) D (fun M'' ρ' H'' H3 σ' n E'' s' => hn M'' ρ' H'' H3 σ' n E'' (s.trans s')) (fun d' M'' ρ' v' H'' H3 σ' q E'' s' p' => hr d' M'' ρ' v' H'' H3 σ' q E'' (s.trans s') p')⟩
/-- a, b = x, [] -/
theorem st_parNewX {i j : Nat} (h : EvX K C M ρ te P) (k : ∀ M' d p, P M' d → p ∉ C → (∀ q ∈ M', q.1 ≠ p) → StD K C ((p, .lst []) :: M') ((ρ.set i (.val d)).set j (.ml p)) rest N R) : StD K C M ρ (tSeq (tPar i j (tCons te (tCons (tLst tNil) tNil))) rest) N R := .mk <| fun E D hn hr =>
  h.run (F := []) E _ fun v d M' H' H2 hp E' s pv => ⟨Nat.zero_le _, fun p hH => by
    have hne : ∀ q ∈ M', q.1 ≠ p := fun q hq z => (E'.mem q hq).2.2.some (by rw [z]; exact hH)
    have hC : p ∉ C := fun hc => by
      obtain ⟨q, hq, e⟩ := List.mem_map.mp (E'.cin p hc)
      exact hne q hq e
    have E2 := ((E'.setV (i := i) pv).newM (o := .lst []) (m := .lst []) hH ⟨[], upd_same, .nil⟩).set (i := j) (v := .ref p) (s := .ml p) rfl
    exact ⟨_, _, rfl, k M' d p hp hC hne E2 D (fun M'' ρ' H'' H3 σ' n E'' s' => hn M'' ρ' H'' H3 σ' n E'' (s.trans s')) (fun d' M'' ρ' v' H'' H3 σ' q E'' s' p' => hr d' M'' ρ' v' H'' H3 σ' q E'' (s.trans s') p')⟩⟩
theorem st_retX (h : EvX K C M ρ te P) (k : ∀ M' d, P M' d → R M' d) : StD K C M ρ (tRet te) N R := .mk <| fun E D hn hr =>
  h.run (F := []) E _ fun v d M' H' H2 p E' s pv => hr d M' ρ v H' H2 _ (k M' d p) E' s pv
/-- an item of a changing list -/
theorem ev_ixM {l : Addr} {ds : List PD} {i : Nat} {n : Int} (hi : ρ[i]? = some (.ml l)) (hm : (l, MO.lst ds) ∈ Md) (ha : EvD K Md ρ ta (.int n)) (h : atI ds n = some d) : EvD K Md ρ (tOp (rIxL K) (tVar i) ta) d := .mk <| fun E hmm Q k =>
  ⟨.ref l, E.mutA hi, ha E hmm _ fun x H' H2 E' s p => by
    cases p
    obtain ⟨xs, g1, g2⟩ := (E'.mem _ (hmm _ hm)).2.2
    obtain ⟨v, q1, q2⟩ := atI_dp g2 h
    exact ⟨l, xs, n, v, rfl, rfl, SqL.of g1, q1, k v H' H2 E' s q2⟩⟩
/-- l[0] = x, l of one item -/
theorem st_put0 {l : Addr} {d0 : PD} {i : Nat} (hi : ρ[i]? = some (.ml l)) (h : EvD K ((l, .lst [d0]) :: M) ρ te d) (k : StD K C ((l, .lst [d]) :: M) ρ rest N R) :
    StD K C ((l, .lst [d0]) :: M) ρ (tSeq (tAsg te (gSub (tVar i) (tC (.int 0)) rSetL)) rest) N R := .mk <| fun {H0 H10 H H1 σ} E D hn hr =>
  h E (Ins.refl _) _ fun v H' H2 E' s p => by
    obtain ⟨_, _, xs, g3, g4⟩ := E'.mem _ (List.mem_cons_self ..)
    cases g4 with
    | cons g4 g5 =>
      cases g5
      refine ⟨.ref l, E'.mutA hi, l, _, 0, 0, rfl, rfl, g3, rfl, ?_⟩
      exact k (E'.chg ⟨_, upd_same, .cons p .nil⟩) D (fun M' ρ' H'' H3 σ' n E'' s' => hn M' ρ' H'' H3 σ' n E'' (s.trans s')) (fun d' M' ρ' v' H'' H3 σ' q E'' s' p' => hr d' M' ρ' v' H'' H3 σ' q E'' (s.trans s') p')
/-- a comprehension whose elements change objects -/
theorem ex_lc {α : Type} {wi : TI} {g : TG} {vs : List Nat} {xs : List α} {enc : α → PD} (J : Nat → Ms → List PD → Prop) (hi : ItD K M ρ wi (xs.map enc)) (hl : xs.length ≤ 100000) (h0 : J 0 M [])
    (hs : ∀ (i : Nat) (h : i < xs.length) M' acc, J i M' acc → ∃ ρ' js, GD K g (enc xs[i]) (wipeR ρ vs) ρ' js ∧ (∀ j ∈ js, j ∈ vs) ∧ EvX K C M' ρ' te (fun M'' d => J (i + 1) M'' (acc ++ [d]))) :
    EvX K C M ρ (tLc wi g tYes te vs) (fun M' d => ∃ ds, J xs.length M' ds ∧ ds.length = xs.length ∧ d = .list ds) := by
  refine .mk <| fun {F H0 H10 H H1 σ} E Q k => ?_
  refine hi E (ins_app F M) _ fun Jt Hk H2 E2 s2 W => fun D hD => ?_
  have hDC : D ∉ C := fun hc => by
    obtain ⟨p, hp, e⟩ := List.mem_map.mp (E2.cin D hc)
    exact (E2.mem p hp).2.2.some (by rw [e]; exact hD)
  have hlen : (xs.map enc).length = xs.length := List.length_map ..
  refine ⟨fun i m Hx => m = xs.length - i ∧ i ≤ xs.length ∧ ∃ H' M' acc, J i M' acc ∧ acc.length = i ∧ En K C H0 H10 ((D, .lst acc) :: (F ++ M')) H' Hx ρ σ ∧ Same Hk H', ⟨xs.length, rfl, Nat.zero_le _, Hk, M, [], h0, rfl, ?_, Same.refl _⟩, ?_⟩
  · exact E2.newM hD ⟨[], upd_same, .nil⟩
  rintro i m Hx ⟨rfl, hil, H', M', acc, hJ, hal, E', s'⟩
  by_cases hlt : i < xs.length
  · have hd : (xs.map enc)[i]? = some (enc xs[i]) := by rw [List.getElem?_map, List.getElem?_eq_getElem hlt]; rfl
    refine .inr ⟨W.go i _ Hx (s'.trans E'.sub) hd, fun Hy => ∃ H' M' acc, J (i + 1) M' acc ∧ acc.length = i + 1 ∧ En K C H0 H10 ((D, .lst acc) :: (F ++ M')) H' Hy ρ σ ∧ Same Hk H', fun Hy q => ⟨xs.length - (i + 1), by omega, rfl, hlt, q⟩, fun x Hz y => ?_⟩
    obtain ⟨H'', x1, px⟩ := W.yld i _ H' Hx x Hz s' E'.sub hd y
    have E'' := E'.grow x1
    obtain ⟨ρ', js, hg, hjs, hb⟩ := hs i hlt M' acc hJ
    refine hg (E''.wipe vs) px _ fun σ2 E3 touch => ⟨wipe_eq (by rw [touch.1, wipe_length]) fun j hj => by rw [touch.2 j fun z => hj (hjs j z), wipe_out hj], ?_⟩
    refine (et_yes (K := K) (Md := (D, .lst acc) :: (F ++ M'))) E3 (Ins.refl _) _ fun H4 H5 E4 s4 => ?_
    rw [if_pos rfl]
    refine hb.run (F := (D, .lst acc) :: F) E4 _ fun y d M'' H6 H7 hJ' E5 s5 py => ?_
    obtain ⟨g1, g2, zs, g3, g4⟩ := E5.mem _ (List.mem_cons_self ..)
    refine ⟨zs, g3, Nat.lt_of_le_of_lt (show zs.length ≤ 100000 by rw [dpa_len g4]; omega) (by decide), H6, M'', acc ++ [d], hJ', by rw [List.length_append, hal]; rfl, ?_, ((s'.trans x1.known).trans s4).trans s5⟩
    exact (E'.back E5 ((x1.known.trans s4).trans s5)).chg ⟨_, upd_same, dpa_app g4 (.cons py .nil)⟩
  · have ei : i = xs.length := by omega
    subst ei
    refine .inl ⟨by rw [← hlen]; exact W.stop Hx (s'.trans E'.sub), ?_⟩
    obtain ⟨zs, E6, p6, s6⟩ := E'.freeze hDC
    exact k _ _ M' _ _ ⟨acc, hJ, hal, rfl⟩ E6 ((s2.trans s').trans s6) p6
end

/-! ### defs with a changing argument -/
def SlsOk (K : PySem.W.Frag) (H : Hp) (xs : List (Option V)) (ss : List Sl) : Prop := ∀ (i : Nat) s, ss[i]? = some s → SlOk K H xs[i]? s
theorem SlsOk.cons {K : PySem.W.Frag} {H : Hp} {x : Option V} {s : Sl} {xs : List (Option V)} {ss : List Sl} (h : SlOk K H (some x) s) (t : SlsOk K H xs ss) : SlsOk K H (x :: xs) (s :: ss) := fun i s' e => by
  cases i with
  | zero => simp at e; subst e; exact h
  | succ i => exact t i s' (by simpa using e)
theorem slsOk_ins {K : PySem.W.Frag} {H : Hp} {p : Addr} (n : Nat) : ∀ (j : Nat) {ws : List V} {ds : List PD}, DpAll K H ws ds → j ≤ ws.length → SlsOk K H ((insAt j (V.ref p) ws).map some ++ List.replicate n none) (insAt j (.ml p) (ds.map Sl.val) ++ List.replicate n Sl.no)
  | 0, ws, ds, h, _ => SlsOk.cons rfl (dpa_start h n)
  | j + 1, _, _, .nil, hj => absurd hj (Nat.not_succ_le_zero _)
  | j + 1, _ :: _, _ :: _, .cons h t, hj => SlsOk.cons ⟨_, rfl, h⟩ (slsOk_ins n j t (Nat.le_of_succ_le_succ hj))
theorem ins_len {α : Type} : ∀ (j : Nat) (a : α) (l : List α), (insAt j a l).length = l.length + 1
  | 0, _, _ => rfl
  | _ + 1, _, [] => rfl
  | j + 1, a, x :: l => by
    show (insAt j a l).length + 1 = l.length + 1 + 1
    rw [ins_len j a l]
section
variable {P : Program} {w : World} {K : PySem.W.Frag} {mg : Str → Option Value} {base : Heap}
theorem fx_mut {x : Str} {st : Stmt} {N ps : List Str} {k j : Nat} {Pre : List PD → MO → Prop} {R : List PD → MO → MO → PD → Prop}
    (F : TopF K mg x st ps) (S : FnScope N ps (defScope st)) (hlen : ∀ ds m, Pre ds m → ds.length + 1 = ps.length) (n : Nat) (hN : N.length = ps.length + n)
    (hb : ∀ (f : Addr) (cdv : Value) (A : Around) (outer : List PySem.Env) (s : Shared) (H : Hp) (E : XK) (p : Addr) (m : MO) (ds : List PD), Room k (A.deeper (envOfC x (defScope st) s.heap.objs.size f cdv)) → Pre ds m →
      ∃ t, PSs (cxOf CX0 P w K mg base N x (defScope st) f cdv A outer s H E).nox (defBody st) t ∧ StD K [p] [(p, m)] (insAt j (.ml p) (ds.map Sl.val) ++ List.replicate n Sl.no) t (fun _ _ => False) (fun M' d => ∃ m', (p, m') ∈ M' ∧ R ds m m' d)) :
    FnX P w K mg base x ps (k + 1) (spM K j Pre R) := by
  obtain ⟨f, fd, F, hm, hb'⟩ := F
  refine ⟨f, fd, ?_, hm, F.kp, hb'⟩
  refine F.ok S (fun vs H Q E h => ?_) fun cdv A outer s H vs Q E hr h => ?_
  · obtain ⟨Hk, p, m, ws, ds, s, hn, hmk, rfl, hj, pw, pre, _⟩ := h
    rw [ins_len, dpa_len pw]
    exact hlen ds m pre
  · obtain ⟨Hk, p, m, ws, ds, s0, hn, hmk, rfl, hj, pw, pre, q⟩ := h
    obtain ⟨t, h1, h2⟩ := hb f cdv A outer s H E p m ds hr pre
    have hl := hlen ds m pre
    have hv := dpa_len pw
    refine ⟨t, h1, h2 (H0 := Hk) (H10 := H) (H := Hk) (H1 := H) (σ := L2.start N (insAt j (V.ref p) ws)) ?_ _ (fun M' ρ' H' H2 σ' n E' s' => n.elim) fun d' M' ρ' v H' H2 σ' e E' s' p' => ?_⟩
    · refine ⟨Ext.refl s0, ?_, ?_, fun q hq => ?_, (by simp), fun c hc => hc⟩
      · rw [start_len (by rw [ins_len, hv]; omega), List.length_append, ins_len, List.length_map, List.length_replicate]
        omega
      · unfold L2.start
        rw [show N.length - (insAt j (V.ref p) ws).length = n by rw [ins_len, hv]; omega]
        exact slsOk_ins n j pw hj
      · rw [List.mem_singleton.mp hq]
        exact ⟨hn, .inl (List.mem_singleton.mpr rfl), hmk⟩
    · obtain ⟨m', hm', r⟩ := e
      obtain ⟨g1, g2, g3⟩ := E'.mem _ hm'
      exact q v H' H2 d' m' r E'.ext g1 g3 p'
end
end K37

set_option Elab.async false
set_option linter.all false
set_option maxRecDepth 100000
set_option maxHeartbeats 4000000
/-! sum(lists, []) -/
namespace K37
open PySem PySem.Spec PyProof.Rows L2 RZ

theorem addGen (l : Addr) (items : Array Value) (n : Nat) (b : Addr) (items2 : Array Value) (n2 : Nat) (sl2 : Array (Option Value)) (hc0 : items.size + items2.size ≤ sizeLine) :
    Meets (Builtin.«list.__add__» ⟨[.ref l, .ref b], []⟩) (fun _ R s => s.heap.get? l = some { cls := .type "list", dict := none, data := .seq items n, slots := #[] } ∧ s.heap.get? b = some { cls := .type "list", dict := none, data := .seq items2 n2, slots := sl2 } ∧ R (.ok (.ret (Value.ref s.heap.objs.size))) { s with heap := s.heap.push { cls := Value.type "list", data := Data.seq (items ++ items2) }, toks := s.toks }) :=
  .of_wp fun prog w A R s h => by obtain ⟨hp, g, d, tk, os⟩ := s; obtain ⟨hl, hb, h⟩ := h; have f1 := AutoSeq1.idx_int; have f2 := AutoSeq1.sub_tuple_tuple; have f3 := AutoSeq1.sub_list_list; have f4 := AutoSeq1.sub_tuple_list; have f5 := AutoSeq1.sub_list_tuple; wp_walk using AutoSeq1.wpAny_loadPart' hl, AutoSeq1.wpAny_loadPart' hb; exact ⟨_, rfl, h⟩
section
variable {prog : Program} {w : World} {A : Around} {E : Value → Shared → Prop} {s : Shared}
theorem addP {l b : Addr} {items items2 : Array Value} {n : Nat} {Q : Value → Shared → Prop} (hl : IsL s.heap l items n) (hb : PlainL s.heap b items2)
    (h : Q (.ref s.heap.objs.size) { s with heap := s.heap.push { cls := .type "list", data := .seq (items ++ items2) } }) (hsz : items.size + items2.size ≤ sizeLine) : wpAny (model prog w) A (binaryOp .Add (.ref l) (.ref b)) Q E s := by
  obtain ⟨⟨oc, od, dt, sl⟩, n2, e, h1, h2, h3⟩ := hb
  simp only at h1 h2 h3
  subst h1 h2 h3
  exact PySem.concat_meets ⟨_, hl, rfl⟩ ⟨_, e, rfl⟩ noFill_list_add seq_list_add F.slot_list_add F.entry_list_add (F.args_list_add_2 _ _) (addGen l items n b items2 n2 sl hsz) ⟨hl, e, h⟩
end
/-- the lists under the items -/
structure Subs (h : Heap) (items : Array Value) (sub : Nat → Array Value) : Prop where
  at_ : ∀ i v, items[i]? = some v → ∃ b, v = .ref b ∧ PlainL h b (sub i)
def catTo (sub : Nat → Array Value) : Nat → Array Value
  | 0 => #[]
  | n + 1 => catTo sub n ++ sub n
theorem catTo_mono (sub : Nat → Array Value) : ∀ {i n : Nat}, i ≤ n → (catTo sub i).size ≤ (catTo sub n).size := by
  intro i n h
  induction n with
  | zero =>
    have : i = 0 := by omega
    subst this
    exact Nat.le_refl _
  | succ n ih =>
    by_cases e : i = n + 1
    · subst e; exact Nat.le_refl _
    · refine Nat.le_trans (ih (by omega)) ?_
      show _ ≤ (catTo sub n ++ sub n).size
      rw [Array.size_append]
      omega
section
variable {prog : Program} {w : World} {A : Around} {R : Result → Shared → Prop} {I ax S : Addr} {items : Array Value} {sub : Nat → Array Value}
theorem sumL_loop (hh : A.in1.handled = none) (hax : ax ≠ I) (haS : ax ≠ S) (hIS : I ≠ S) (hz : (catTo sub items.size).size ≤ sizeLine) :
    ∀ (k i : Nat) (s : Shared) (T : Addr) (nT c : Nat), items.size - i = k → i ≤ items.size → s.heap.IsListIter I ax i → s.heap.IsList ax items → s.heap.get? S = some { cls := .type "list", dict := none, data := .seq #[Value.ref T] c, slots := #[] } →
    IsL s.heap T (catTo sub i) nT → T ≠ I → T ≠ S → Subs s.heap items sub → (∀ (i : Nat) v, items[i]? = some v → v ≠ Value.ref I ∧ v ≠ Value.ref S) →
    (∀ h' tk T' n', (∀ b o, b ≠ I → b ≠ S → s.heap.get? b = some o → h'.get? b = some o) → IsL h' T' (catTo sub items.size) n' → ((T' = T ∧ i = items.size) ∨ s.heap.objs.size ≤ T') → R (.ok (.ret (Value.ref T'))) { s with heap := h', toks := tk }) →
    codeAny (model prog w) A (.builtin "sum.loop" ⟨[Value.ref I, Value.ref S, rawInt 2, rawInt 0], []⟩) R s := by
  intro k
  induction k with
  | zero =>
    intro i s T nT c hk hi hit hl hS hT hTI hTS hsub hne hR
    have hin : i = items.size := by omega
    subst hin
    refine codeAny_builtin F.entry_sum_loop ?_
    rw [Around.under_plainId F.plain_sum_loop _]
    show wpAny _ A.in1 (seqItems? (.ref S) >>= _) _ _ s
    refine wpAny_bind (wpAny_seqItems hS rfl ?_)
    show wpAny _ A.in1 (tryCatch (pyNext (.ref I)) _ >>= _) _ _ s
    refine wpAny_bind (wpAny_tryCatch (wpAny_pyNext_list_end hh hit hl (by simp) fun h' he' => ?_))
    have keep : ∀ b o, b ≠ I → s.heap.get? b = some o → h'.get? b = some o := fun b o hb e => he' b o hb e
    exact wpAny_pure (hR h' s.toks T nT (fun b o hbI _ e => keep b o hbI e) (keep T _ hTI hT) (.inl ⟨rfl, rfl⟩))
  | succ k ih =>
    intro i s T nT c hk hi hit hl hS hT hTI hTS hsub hne hR
    have hlt : i < items.size := by omega
    have hP : items[i]? = some items[i] := by simp [hlt]
    refine codeAny_builtin F.entry_sum_loop ?_
    rw [Around.under_plainId F.plain_sum_loop _]
    show wpAny _ A.in1 (seqItems? (.ref S) >>= _) _ _ s
    refine wpAny_bind (wpAny_seqItems hS rfl ?_)
    show wpAny _ A.in1 (tryCatch (pyNext (.ref I)) _ >>= _) _ _ s
    refine wpAny_bind (wpAny_tryCatch (wpAny_pyNext_list_item hit hl (x := items[i]) hP fun h' hit' hs' => ?_))
    obtain ⟨b, hv, hb⟩ := hsub.at_ i _ hP
    obtain ⟨hbI, hbS⟩ := hne i _ hP
    rw [hv] at hbI hbS ⊢
    have hbI' : b ≠ I := fun z => hbI (by rw [z])
    have hbS' : b ≠ S := fun z => hbS (by rw [z])
    have hsize : h'.objs.size = s.heap.objs.size := hs'.1
    have keep : ∀ b o, b ≠ I → s.heap.get? b = some o → h'.get? b = some o := fun b o hb e => hs'.extBut b o hb e
    have hS' := keep S _ (Ne.symm hIS) hS
    have hT' : IsL h' T (catTo sub i) nT := keep T _ hTI hT
    have hb' : PlainL h' b (sub i) := by
      obtain ⟨o, n, e, r⟩ := hb
      exact ⟨o, n, keep b o hbI' e, r⟩
    have hsz : (catTo sub i).size + (sub i).size ≤ sizeLine := by
      have h1 := catTo_mono sub (show i + 1 ≤ items.size from hlt)
      have h2 : (catTo sub (i + 1)).size = (catTo sub i).size + (sub i).size := Array.size_append
      omega
    have hIlt : I < h'.objs.size := by obtain ⟨o, e, _⟩ := hit'; exact Heap.lt_size e
    have hSlt : S < h'.objs.size := Heap.lt_size hS'
    show wpAny _ A.in1 ((holding [Value.ref b] (binaryOp .Add (.ref T) (.ref b))).attempt >>= _) _ _ _
    refine wpAny_bind (wpAny_attempt (wpAny_holding (addP (s := { s with heap := h' }) hT' hb' ?_ hsz)))
    have hN : ∀ a o, h'.get? a = some o → (h'.push { cls := .type "list", data := .seq (catTo sub i ++ sub i) }).get? a = some o := fun a o e => Heap.get?_push_of_some _ e
    have hTn : IsL (h'.push { cls := .type "list", data := .seq (catTo sub i ++ sub i) }) h'.objs.size (catTo sub (i + 1)) 0 := IsL.new h' _
    generalize hg : h'.push { cls := .type "list", data := .seq (catTo sub i ++ sub i) } = g at hN hTn ⊢
    have hgs : g.objs.size = h'.objs.size + 1 := by rw [← hg, Heap.size_push]
    have hSn := hN S _ hS'
    show wpAny _ A.in1 (updateSeq S (fun _ => #[Value.ref h'.objs.size]) >>= _) _ _ _
    refine wpAny_bind ?_
    refine wpAny_updateSeq hSn rfl ?_
    have hS2 := Heap.get?_update_self (Obj.mapSeq fun _ => #[Value.ref h'.objs.size]) hSn rfl
    refine wpAny_bind (wpAny_letGo ?_)
    refine wpAny_bind ?_
    refine wpAny_updateSeq hS2 rfl (wpAny_pure ⟨plainId_quiet F.plain_sum_loop _, ?_⟩)
    have other : ∀ a o, a ≠ S → g.get? a = some o → ((g.update S (Obj.mapSeq fun _ => #[Value.ref h'.objs.size])).update S (Obj.mapSeq fun _ => #[Value.ref h'.objs.size])).get? a = some o := fun a o ha e =>
      (Heap.get?_update_other _ _ (Ne.symm ha)).trans ((Heap.get?_update_other _ _ (Ne.symm ha)).trans e)
    refine ih (i + 1) _ h'.objs.size 0 _ (by omega) hlt ?_ ?_ (Heap.get?_update_self _ hS2 rfl) (other _ _ (Nat.ne_of_gt hSlt) hTn) (Nat.ne_of_gt hIlt) (Nat.ne_of_gt hSlt) ?_ hne fun h'' tk'' T'' n'' hk'' hT'' hor => ?_
    · exact hit'.at fun o e => other _ _ hIS (hN _ _ e)
    · obtain ⟨o, e, r⟩ := hl
      exact ⟨o, other _ _ haS (hN _ _ (keep _ _ hax e)), r⟩
    · refine ⟨fun j v hj => ?_⟩
      obtain ⟨b2, e1, o, n, e, r⟩ := hsub.at_ j v hj
      obtain ⟨q1, q2⟩ := hne j v hj
      rw [e1] at q1 q2
      exact ⟨b2, e1, o, n, other _ _ (fun z => q2 (by rw [z])) (hN _ _ (keep _ _ (fun z => q1 (by rw [z])) e)), r⟩
    · refine hR h'' tk'' T'' n'' (fun a o ha hb e => hk'' a o ha hb (other _ _ hb (hN _ _ (keep _ _ ha e)))) hT'' ?_
      rcases hor with ⟨rfl, _⟩ | hor
      · exact .inr (by rw [hsize]; exact Nat.le_refl _)
      · refine .inr ?_
        have e1 : ((g.update S (Obj.mapSeq fun _ => #[Value.ref h'.objs.size])).update S (Obj.mapSeq fun _ => #[Value.ref h'.objs.size])).objs.size = g.objs.size := by
          rw [Heap.size_update, Heap.size_update]
        have hor' : ((g.update S (Obj.mapSeq fun _ => #[Value.ref h'.objs.size])).update S (Obj.mapSeq fun _ => #[Value.ref h'.objs.size])).objs.size ≤ T'' := hor
        rw [e1, hgs, hsize] at hor'
        omega
end

theorem args_sum2 (a b : Value) : argsOk "sum" ⟨[a, b], []⟩ := by unfold argsOk; kernel_rfl
theorem sub_list_str : isSubtype (.type "list") (.type "str") = pure false := by rw [isSubtype_type]; kernel_rfl
theorem sub_list_bytes : isSubtype (.type "list") (.type "bytes") = pure false := by rw [isSubtype_type]; kernel_rfl
theorem sub_list_bytearray : isSubtype (.type "list") (.type "bytearray") = pure false := by rw [isSubtype_type]; kernel_rfl
section
variable {prog : Program} {w : World} {A : Around} {E : Value → Shared → Prop} {s : Shared}
theorem call_sumL {ax T : Addr} {items : Array Value} {sub : Nat → Array Value} {nT : Nat} {Q : Value → Shared → Prop} (hh : A.handled = none) (hl : s.heap.IsList ax items) (hT : IsL s.heap T #[] nT)
    (hsub : Subs s.heap items sub) (hz : (catTo sub items.size).size ≤ sizeLine)
    (hQ : ∀ h' tk T' n', (∀ b o, s.heap.get? b = some o → h'.get? b = some o) → IsL h' T' (catTo sub items.size) n' → ((T' = T ∧ items.size = 0) ∨ s.heap.objs.size ≤ T') → Q (.ref T') { s with heap := h', toks := tk }) :
    wpAny (model prog w) A (call (.builtin "sum") [.ref ax, .ref T]) Q E s := by
  refine call_function_tree F.kind_sum F.plain_sum F.entry_sum (args_sum2 _ _) ?_
  unfold Builtin.«sum»
  simp only [List.length_cons, List.length_nil]
  rw [if_neg (by decide)]
  refine wpAny_bind (wpAny_of_eq (show Builtin.Builtins.bindParams "sum" ["start"] 0 ⟨[Value.ref T], []⟩ = pure [some (Value.ref T)] from rfl) ?_)
  refine wpAny_bind (wpAny_pyIter_list hl ?_)
  have hax : ax < s.heap.objs.size := by obtain ⟨o, e, _⟩ := hl; exact Heap.lt_size e
  have hTl : T < s.heap.objs.size := Heap.lt_size hT
  have hit : (s.heap.push { cls := .type "list_iterator", data := .fields #[.ref ax, Value.int 0 0] }).IsListIter s.heap.objs.size ax 0 := ⟨_, Heap.get?_push_size _ rfl, rfl, rfl⟩
  generalize hg : s.heap.push { cls := .type "list_iterator", data := .fields #[.ref ax, Value.int 0 0] } = g at hit ⊢
  have hgs : g.objs.size = s.heap.objs.size + 1 := by rw [← hg, Heap.size_push]
  have hk : ∀ b o, s.heap.get? b = some o → g.get? b = some o := fun b o e => by rw [← hg]; exact Heap.get?_push_of_some _ e
  refine wpAny_bind (wpAny_pure ?_)
  simp only [List.forIn_cons, List.forIn_nil]
  have hTT : Shared.TypeIs { s with heap := g } (.ref T) "list" := ⟨_, hk _ _ hT, rfl⟩
  refine wpAny_bind (wpAny_bind (wpAny_bind (wpAny_isInstance (T := "list") (b := false) hTT sub_list_str ?_)))
  simp only [Bool.false_eq_true, if_false]
  refine wpAny_pure (wpAny_bind (wpAny_bind (wpAny_isInstance (T := "list") (b := false) hTT sub_list_bytes ?_)))
  simp only [Bool.false_eq_true, if_false]
  refine wpAny_pure (wpAny_bind (wpAny_bind (wpAny_isInstance (T := "list") (b := false) hTT sub_list_bytearray ?_)))
  simp only [Bool.false_eq_true, if_false]
  refine wpAny_pure (wpAny_pure ?_)
  refine wpAny_bind (wpAny_newObj_type ?_)
  have hp : ∀ b o, g.get? b = some o → (g.push { cls := .type "list", data := .seq #[Value.ref T] }).get? b = some o := fun b o e => Heap.get?_push_of_some _ e
  have hit2 : (g.push { cls := .type "list", data := .seq #[Value.ref T] }).IsListIter s.heap.objs.size ax 0 := hit.at fun o e => hp _ _ e
  have hl2 : (g.push { cls := .type "list", data := .seq #[Value.ref T] }).IsList ax items := by
    obtain ⟨o, e, r⟩ := hl
    exact ⟨o, hp _ _ (hk _ _ e), r⟩
  have hS2 : (g.push { cls := .type "list", data := .seq #[Value.ref T] }).get? g.objs.size = some { cls := .type "list", dict := none, data := .seq #[Value.ref T] 0, slots := #[] } := Heap.get?_push_size _ rfl
  have hsub2 : Subs (g.push { cls := .type "list", data := .seq #[Value.ref T] }) items sub := ⟨fun j v hj => by
    obtain ⟨b, e1, o, n, e, r⟩ := hsub.at_ j v hj
    exact ⟨b, e1, o, n, hp _ _ (hk _ _ e), r⟩⟩
  refine wpAny_pure ⟨plainId_quiet F.plain_sum_loop _, sumL_loop (prog := prog) (w := w) (I := s.heap.objs.size) (S := g.objs.size) hh (Nat.ne_of_lt hax) (by rw [hgs]; exact Nat.ne_of_lt (Nat.lt_succ_of_lt hax)) (by rw [hgs]; exact Nat.ne_of_lt (Nat.lt_succ_self _)) hz items.size 0 _ T nT 0 rfl (Nat.zero_le _) hit2 hl2 hS2 (hp _ _ (hk _ _ hT))
    (Nat.ne_of_lt hTl) (by rw [hgs]; exact Nat.ne_of_lt (Nat.lt_succ_of_lt hTl)) hsub2 (fun j v hj => ?_) fun h' tk T' n' hkk hT' hor => ?_⟩
  · obtain ⟨b, e1, o, n, e, r⟩ := hsub.at_ j v hj
    have hb := Heap.lt_size e
    subst e1
    constructor
    · intro z
      cases z
      exact Nat.lt_irrefl _ hb
    · intro z
      cases z
      rw [hgs] at hb
      exact absurd hb (Nat.not_lt.mpr (Nat.le_succ _))
  · refine hQ h' tk T' n' (fun b o e => hkk b o (Nat.ne_of_lt (Heap.lt_size e)) (by rw [hgs]; exact Nat.ne_of_lt (Nat.lt_succ_of_lt (Heap.lt_size e))) (hp _ _ (hk _ _ e))) hT' ?_
    rcases hor with ⟨rfl, h0⟩ | hor
    · exact .inl ⟨rfl, h0.symm⟩
    · refine .inr ?_
      have hor' : (g.push { cls := .type "list", data := .seq #[Value.ref T] }).objs.size ≤ T' := hor
      rw [Heap.size_push, hgs] at hor'
      exact Nat.le_trans (Nat.le_add_right _ 2) hor'
end
/-- sum(list of lists, []) -/
def rSumL (K : PySem.W.Frag) : List V → Hp → VK → Prop := fun vs H Q => ∃ (a p : Addr) (ls : List Addr) (xss : List (List V)), vs = [.ref a, .ref p] ∧ SqL K H a (ls.map V.ref) ∧ H p = some (.lst []) ∧ ls.length = xss.length ∧
  (∀ (i : Nat) l xs, ls[i]? = some l → xss[i]? = some xs → SqL K H l xs) ∧ xss.flatten.length ≤ 100000 ∧ (ls = [] → Q (.ref p) H) ∧ ∀ q, H q = none → Q (.ref q) (upd H q (.lst xss.flatten))
theorem refs_vals : ∀ {ls : List Addr} {us : List Value}, Vals (ls.map V.ref) us → us = ls.map Value.ref
  | [], us, h => by cases h; rfl
  | l :: ls, us, h => by
    cases h with
    | cons r t =>
      cases r
      rw [refs_vals t]
      rfl
section
variable {X : Cx}
theorem cr_sumL (hc : X.calm = true) : CallR X (.builtin "sum") (rSumL X.K) := by
  intro pins s σ H vs us Q I r h
  obtain ⟨a, p, ls, xss, rfl, hS, hp, hlen, hsub, hz, q0, q1⟩ := h
  obtain ⟨u1, u2, rfl, r1, r2⟩ := vals2 r
  cases r1
  cases r2
  obtain ⟨its, rv, pl, _⟩ := I.list hS
  have e := refs_vals rv
  subst e
  obtain ⟨z, its0, n0, rv0, hl0, e0⟩ := I.lstM hp
  cases rv0
  -- the sublists' values
  have hex : ∀ (i : Nat) xs, xss[i]? = some xs → ∃ l its, ls[i]? = some l ∧ Vals xs its ∧ PlainL s.heap l its.toArray := fun i xs hx => by
    have hi : i < ls.length := by rw [hlen]; exact (List.getElem?_eq_some_iff.mp hx).1
    obtain ⟨its, rv', pl', _⟩ := I.list (hsub i ls[i] xs (List.getElem?_eq_getElem hi) hx)
    exact ⟨ls[i], its, List.getElem?_eq_getElem hi, rv', pl'⟩
  obtain ⟨sub, hsubv⟩ : ∃ sub : Nat → Array Value, ∀ (i : Nat) xs, xss[i]? = some xs → Vals xs (sub i).toList ∧ ∃ l, ls[i]? = some l ∧ PlainL s.heap l (sub i) := by
    refine Classical.axiomOfChoice (r := fun (i : Nat) (arr : Array Value) => ∀ xs, xss[i]? = some xs → Vals xs arr.toList ∧ ∃ l, ls[i]? = some l ∧ PlainL s.heap l arr) fun i => ?_
    cases hx : xss[i]? with
    | none => exact ⟨#[], fun xs h => by cases h⟩
    | some ys =>
      obtain ⟨l, its, h1, h2, h3⟩ := hex i ys hx
      exact ⟨its.toArray, fun xs h => by cases h; exact ⟨h2, l, h1, h3⟩⟩
  have cat : ∀ n, n ≤ xss.length → Vals (xss.take n).flatten (catTo sub n).toList := fun n => by
    induction n with
    | zero => intro _; exact .nil
    | succ n ih =>
      intro hn
      have hx : xss[n]? = some xss[n] := List.getElem?_eq_getElem hn
      rw [List.take_add_one, hx, List.flatten_append]
      show Vals (_ ++ [xss[n]].flatten) (catTo sub n ++ sub n).toList
      rw [Array.toList_append, List.flatten_cons, List.flatten_nil, List.append_nil]
      exact (ih (by omega)).append (hsubv n _ hx).1
  have hfull := cat xss.length (Nat.le_refl _)
  rw [List.take_length] at hfull
  have hsz : (ls.map Value.ref).toArray.size = xss.length := by rw [List.size_toArray, List.length_map, hlen]
  have hle : (catTo sub xss.length).size ≤ sizeLine := by
    have := hfull.length
    rw [← Array.length_toList, ← this]
    exact Nat.le_trans hz (by decide)
  refine call_sumL (sub := sub) (I.ok.hd hc) pl.isList e0 ⟨fun i v hv => ?_⟩ (by rw [hsz]; exact hle) fun h' tk T' n' hk hT' hor => ?_
  · rw [List.getElem?_toArray, List.getElem?_map] at hv
    cases hl : ls[i]? with
    | none => rw [hl] at hv; cases hv
    | some l =>
      rw [hl] at hv
      cases hv
      have hi : i < xss.length := by rw [← hlen]; exact (List.getElem?_eq_some_iff.mp hl).1
      obtain ⟨_, l', e1, e2⟩ := hsubv i _ (List.getElem?_eq_getElem hi)
      rw [hl] at e1
      cases e1
      exact ⟨l, rfl, e2⟩
  · rcases hor with ⟨rfl, h0⟩ | hor
    · have hls : ls = [] := by
        rw [hsz, ← hlen] at h0
        exact List.length_eq_zero_iff.mp h0
      exact ⟨.ref _, H, I.kept (t' := tk) hk, rfl, q0 hls⟩
    · refine ⟨.ref T', _, I.laid (t' := tk) (o := .lst xss.flatten) hk hor ?_, rfl, q1 T' (I.hok.fresh hor)⟩
      rw [hsz] at hT'
      exact ⟨Nat.le_trans hz (by decide), (catTo sub xss.length).toList, n', hfull, hT'⟩
end
theorem dpa_lists {K : PySem.W.Frag} {H : Hp} : ∀ {vs : List V} {dss : List (List PD)}, DpAll K H vs (dss.map PyData.list) → ∃ (ls : List Addr) (xss : List (List V)), vs = ls.map V.ref ∧ ls.length = xss.length ∧
    (∀ (i : Nat) l xs, ls[i]? = some l → xss[i]? = some xs → SqL K H l xs) ∧ DpAll K H xss.flatten dss.flatten
  | vs, [], h => by
    cases h
    exact ⟨[], [], rfl, rfl, fun i l xs h => by simp at h, .nil⟩
  | vs, ds :: dss, h => by
    cases h with
    | cons h1 h2 =>
      obtain ⟨ls, xss, rfl, e, g1, g2⟩ := dpa_lists h2
      cases h1 with
      | @lst a xs _ q1 q2 =>
        refine ⟨a :: ls, xs :: xss, rfl, by simp [e], fun i l ys hl hy => ?_, ?_⟩
        · cases i with
          | zero =>
            simp at hl hy
            subst hl hy
            exact q1
          | succ i => exact g1 i l ys (by simpa using hl) (by simpa using hy)
        · rw [List.flatten_cons, List.flatten_cons]
          exact dpa_app q2 g2
theorem cr_sumLK {X : Cx} (K : PySem.W.Frag) (h : X.K = K) (hc : X.calm = true) : CallR X (.builtin "sum") (rSumL K) := h ▸ cr_sumL hc
/-- sum(lists, []) as data: the start is a new empty list -/
theorem ev_sumL {K : PySem.W.Frag} {Md : Ms} {ρ : List Sl} {ta : TE} {dss : List (List PD)} (ha : EvD K Md ρ ta (.list (dss.map PyData.list))) (hz : dss.flatten.length ≤ 100000) :
    EvD K Md ρ (tCB (rSumL K) (tCons ta (tCons (tLst tNil) tNil))) (.list dss.flatten) := .mk <| fun E hm Q k => by
  refine ha E hm _ fun x Ha H1a Ea sa px => ⟨Nat.zero_le _, fun p hp => ?_⟩
  have X := Ext.new (o := .lst []) Ea.sub hp
  have E2 := Ea.grow X
  cases px with
  | @lst a xs _ h1 h2 =>
    obtain ⟨ls, xss, rfl, e, g1, g2⟩ := dpa_lists h2
    refine ⟨a, p, ls, xss, rfl, E2.sub.seq (X.known.seq h1), upd_same, e, fun i l ys hl hy => E2.sub.seq (X.known.seq (g1 i l ys hl hy)), by rw [dpa_len g2]; exact hz, fun h0 => ?_, fun q hq => ?_⟩
    · have e0 : xss = [] := by
        rw [h0] at e
        exact List.length_eq_zero_iff.mp e.symm
      subst e0
      have : dss.flatten = [] := by
        have := dpa_len g2
        exact List.length_eq_zero_iff.mp this.symm
      rw [this] at k
      exact k _ _ _ E2 (sa.trans X.known) (.lst (SqL.of upd_same) .nil)
    · have X2 := Ext.new (o := .lst xss.flatten) E2.sub hq
      exact k _ _ _ (E2.grow X2) ((sa.trans X.known).trans X2.known) (.lst (SqL.of upd_same) (dpa_mono X2.known (dpa_mono X.known g2)))
end K37

set_option Elab.async false
set_option linter.all false
set_option maxRecDepth 100000
set_option maxHeartbeats 4000000
namespace K37
open PySem PySem.Spec PyProof.Rows L2 RZ
local macro_rules | `(tactic| walk_at "ev") => `(tactic| first
  | with_reducible exact ev_int
  | with_reducible exact ev_str
  | with_reducible exact ev_bl
  | with_reducible exact ev_non
  | exact ev_var rfl
  | with_reducible exact ea_nil
  | with_reducible apply ea_cons
  | with_reducible apply ev_isiI
  | with_reducible apply ev_isiB
  | with_reducible apply ev_isiT
  | with_reducible apply ev_isiS
  | with_reducible apply ev_isiL
  | with_reducible apply ev_chain
  | with_reducible apply ev_andV
  | with_reducible apply ev_orV
  | with_reducible apply ev_notV
  | with_reducible apply ev_kdI
  | with_reducible apply ev_op
  | with_reducible apply ev_un
  | with_reducible exact rd_B0
  | with_reducible exact rd_I0
  | with_reducible apply rd_I
  | with_reducible exact ud_neg
  | with_reducible exact rd_eqI
  | with_reducible exact rd_neI
  | with_reducible exact rd_eqS
  | with_reducible exact rd_isN
  | exact rd_ixT rfl
  | exact rd_ixL rfl
  | with_reducible apply ev_call
  | with_reducible apply ev_cb
  | exact cd_len (.inl rfl)
  | exact cd_len (.inr rfl)
  | with_reducible exact cd_abs
  | with_reducible exact cd_max
  | with_reducible exact cd_min
  | with_reducible exact cd_intB
  | with_reducible exact cd_tuple
  | with_reducible exact cd_allM
  | with_reducible exact cd_sumM
  | with_reducible apply ev_tup
  | with_reducible apply ev_lst
  | with_reducible apply ev_sl
  | with_reducible exact sd_tup
  | with_reducible exact eo_none
  | with_reducible apply eo_some
  | with_reducible apply ev_revT
  | with_reducible apply et_not
  | with_reducible apply et_and
  | with_reducible apply et_or
  | with_reducible apply et_test
  | with_reducible apply et_B
  | with_reducible exact et_yes
  | with_reducible exact gd_name
  | with_reducible apply gd_tup
  | with_reducible apply gds_cons
  | with_reducible exact gds_nil
  | with_reducible (exact Nat.le_of_ble_eq_true rfl)
  | (with_reducible show (_ : List PD → PD → Prop) _ _); assumption
  | with_reducible (refine fun (_ : _ = true) => ?_)
  | with_reducible (refine fun (_ : _ = false) => ?_))
/-! ### equality of data -/
theorem eqvAll_ints : ∀ xs ys : List Int, PyData.eqvAll (xs.map PyData.int) (ys.map PyData.int) = decide (xs = ys)
  | [], [] => by simp [PyData.eqvAll]
  | [], _ :: _ => by simp [PyData.eqvAll]
  | _ :: _, [] => by simp [PyData.eqvAll]
  | x :: xs, y :: ys => by
    have ih := eqvAll_ints xs ys
    simp only [List.map_cons, PyData.eqvAll, PyData.eqv, ih]
    rw [Bool.eq_iff_iff]
    simp
theorem lay_ints : ∀ xs : List Int, PyData.canLayAll0 (xs.map PyData.int) = true ∧ PyData.depthAll (xs.map PyData.int) = 0
  | [] => by simp [PyData.canLayAll0, PyData.depthAll]
  | x :: xs => by
    obtain ⟨h1, h2⟩ := lay_ints xs
    simp [PyData.canLayAll0, PyData.depthAll, PyData.canLay0, PyData.depth, h1, h2]
theorem shaped_listI (xs : List Int) : SeqAt.shaped (.list (xs.map PyData.int)) = true := by
  obtain ⟨h1, h2⟩ := lay_ints xs
  simp [SeqAt.shaped, PyData.canLay0, PyData.depth, h1, h2]
theorem shaped_tupI (xs : List Int) : SeqAt.shaped (.tuple (xs.map PyData.int)) = true := by
  obtain ⟨h1, h2⟩ := lay_ints xs
  simp [SeqAt.shaped, PyData.canLay0, PyData.depth, h1, h2]
theorem shaped_none : SeqAt.shaped .none = true := by simp [SeqAt.shaped, PyData.canLay0, PyData.depth]
theorem shaped_list0 : SeqAt.shaped (.list []) = true := shaped_listI []
theorem shaped_tup0 : SeqAt.shaped (.tuple []) = true := shaped_tupI []
theorem nD_ints (l : List Nat) : l.map nD = (l.map fun n : Nat => (n : Int)).map PyData.int := by rw [List.map_map]; rfl
theorem shaped_tupN (xs : List Nat) : SeqAt.shaped (.tuple (xs.map nD)) = true := by rw [nD_ints]; exact shaped_tupI _
section
variable {K : PySem.W.Frag}
theorem rd_eqLI {xs ys : List Int} : RD K (rEqD K) (.list (xs.map PyData.int)) (.list (ys.map PyData.int)) (.bool (decide (xs = ys))) := by
  have h := rd_eqD (K := K) (shaped_listI xs) (shaped_listI ys)
  have e : PyData.eqv (.list (xs.map PyData.int)) (.list (ys.map PyData.int)) = decide (xs = ys) := by simp only [PyData.eqv]; exact eqvAll_ints xs ys
  rw [e] at h
  exact h
theorem rd_neLI {xs ys : List Int} : RD K (rNeD K) (.list (xs.map PyData.int)) (.list (ys.map PyData.int)) (.bool (!decide (xs = ys))) := by
  have h := rd_neD (K := K) (shaped_listI xs) (shaped_listI ys)
  have e : PyData.eqv (.list (xs.map PyData.int)) (.list (ys.map PyData.int)) = decide (xs = ys) := by simp only [PyData.eqv]; exact eqvAll_ints xs ys
  rw [e] at h
  exact h
theorem rd_neTI {xs ys : List Int} : RD K (rNeD K) (.tuple (xs.map PyData.int)) (.tuple (ys.map PyData.int)) (.bool (!decide (xs = ys))) := by
  have h := rd_neD (K := K) (shaped_tupI xs) (shaped_tupI ys)
  have e : PyData.eqv (.tuple (xs.map PyData.int)) (.tuple (ys.map PyData.int)) = decide (xs = ys) := by simp only [PyData.eqv]; exact eqvAll_ints xs ys
  rw [e] at h
  exact h
theorem eqvAll_nats (xs ys : List Nat) : PyData.eqvAll (xs.map nD) (ys.map nD) = decide (xs = ys) := by
  rw [nD_ints, nD_ints, eqvAll_ints]
  apply decide_eq_decide.mpr
  constructor
  · intro h
    exact List.map_inj_right (fun a b h => by omega) |>.mp h
  · intro h; rw [h]
theorem rd_neTN {xs ys : List Nat} : RD K (rNeD K) (.tuple (xs.map nD)) (.tuple (ys.map nD)) (.bool (!decide (xs = ys))) := by
  have h := rd_neD (K := K) (shaped_tupN xs) (shaped_tupN ys)
  have e : PyData.eqv (.tuple (xs.map nD)) (.tuple (ys.map nD)) = decide (xs = ys) := by simp only [PyData.eqv]; exact eqvAll_nats xs ys
  rw [e] at h
  exact h
theorem rd_eqTN {xs ys : List Nat} : RD K (rEqD K) (.tuple (xs.map nD)) (.tuple (ys.map nD)) (.bool (decide (xs = ys))) := by
  have h := rd_eqD (K := K) (shaped_tupN xs) (shaped_tupN ys)
  have e : PyData.eqv (.tuple (xs.map nD)) (.tuple (ys.map nD)) = decide (xs = ys) := by simp only [PyData.eqv]; exact eqvAll_nats xs ys
  rw [e] at h
  exact h
end
/-! ### what is filled -/
def fillR (r : List Int) (w b : Nat) (low : Bool) (ps : List (Int × Int)) : List Int := ps.foldl (fun r p => withWord r p.1.toNat p.2 b low) r
def Win.fill (w : Win) (r xs : List Int) : List Int := fillR r 0 w.w w.low (w.places.zip xs)
theorem withWord_len {r : List Int} {p w : Nat} {x : Int} {b : Bool} (h : p + w ≤ r.length) : (withWord r p x w b).length = r.length := by
  unfold withWord
  rw [List.length_append, List.length_append, List.length_take, List.length_drop, bytesOf_len]
  omega
theorem fillR_len {w b : Nat} {low : Bool} {n : Nat} : ∀ {ps : List (Int × Int)} {r : List Int}, r.length = n → (∀ p ∈ ps, p.1.toNat + b ≤ n) → (fillR r w b low ps).length = n
  | [], r, h, _ => h
  | p :: ps, r, h, hp => by
    have h1 := hp p (List.mem_cons_self ..)
    show (fillR (withWord r p.1.toNat p.2 b low) w b low ps).length = n
    exact fillR_len (by rw [withWord_len (by omega)]; exact h) fun q hq => hp q (List.mem_cons_of_mem _ hq)
theorem fillR_take {r : List Int} {w b : Nat} {low : Bool} {ps : List (Int × Int)} {i : Nat} (h : i < ps.length) : fillR r w b low (ps.take (i + 1)) = withWord (fillR r w b low (ps.take i)) ps[i].1.toNat ps[i].2 b low := by
  unfold fillR
  rw [foldl_take_succ _ _ _ _ h]
section
variable {P : Program} {w : World} {K : PySem.W.Frag} {mg : Str → Option Value} {base : Heap} {wa oa da : Addr}
def R_filled : List PD → PD → Prop := fun ds d => ∃ (r : List Int) (w : Win) (xs : List Int), IsRow r ∧ IsWin w ∧ w.fits r.length ∧ xs.length = w.places.length ∧ (∀ x ∈ xs, 0 ≤ x ∧ x < 256 ^ w.w) ∧ ds = [rowD r, winD w, .list (xs.map PyData.int)] ∧ d = rowD (w.fill r xs)
abbrev FN_filled (P : Program) (w : World) (K : PySem.W.Frag) (mg : Str → Option Value) (base : Heap) : Prop := FnX P w K mg base "filled" ["row", "window", "words"] 6 (spD K R_filled)
theorem ok_filled (T : Top K mg wa oa da) (F : TopF K mg "filled" s_filled ["row", "window", "words"]) (G_need_seen : FN_need_seen P w K mg base) (G_places_in : FN_places_in P w K mg base) (G_with_word : FN_with_word P w K mg base) (G_fits_width : FN_fits_width P w K mg base) : FN_filled P w K mg base := by
  refine fx_pure F sc_filled (fun ds d h => by first | (obtain ⟨_, rfl, _⟩ := h; rfl) | (obtain ⟨_, _, rfl, _⟩ := h; rfl) | (obtain ⟨_, _, _, rfl, _⟩ := h; rfl) | (obtain ⟨_, _, _, _, rfl, _⟩ := h; rfl) | (obtain ⟨_, _, _, _, _, rfl, _⟩ := h; rfl) | (obtain ⟨_, _, _, _, _, _, rfl, _⟩ := h; rfl) | (obtain ⟨_, _, _, _, _, _, _, rfl, _⟩ := h; rfl) | (obtain ⟨_, _, _, _, _, _, _, _, rfl, _⟩ := h; rfl) | (obtain ⟨_, _, _, _, _, _, _, _, _, rfl, _⟩ := h; rfl) | (obtain ⟨_, _, _, _, _, _, _, _, _, _, rfl, _⟩ := h; rfl) | (obtain ⟨_, _, _, _, _, _, _, _, _, _, _, rfl, _⟩ := h; rfl) | (obtain ⟨_, _, _, _, _, _, _, _, _, _, _, _, rfl, _⟩ := h; rfl) | (obtain ⟨_, _, _, _, _, _, _, _, _, _, _, _, _, rfl, _⟩ := h; rfl) | (obtain ⟨_, _, _, _, _, _, _, _, _, _, _, _, _, _, rfl, _⟩ := h; rfl)) 4 rfl fun f cdv A outer s H E ds d hr h => ?_
  obtain ⟨r, w', xs, hr', hw, hf, hl, hx, rfl, rfl⟩ := h
  refine ⟨_, (pss_cons (ps_expr (pe_callX G_need_seen (hr.mono (by decide)) (by rfl) (pa_cons (pv 0) (pa_cons (pv 1) pa_nil))))
      (pss_cons (ps_set (i := 3) sc_filled.nd rfl (Or.inl rfl) (pe_callX G_places_in (hr.mono (by decide)) (by rfl) (pa_cons (pv 1) pa_nil)))
      (pss_cons (ps_if (PW.pt (pw_or (pt_not (pt_val (pe_callB (call_isiTK K rfl) (by rfl) T.b.isinstance (by decide +kernel) (pa_cons (pv 2) (pa_cons (pe_tup (pa_cons (pe_bltn (v := .ty "list") (by rfl) T.b.list (by decide +kernel) rfl) (pa_cons (pe_bltn (v := .ty "tuple") (by rfl) T.b.tuple (by decide +kernel) rfl) pa_nil))) pa_nil))))) (pw_or1 (pt_cmpR op_ne (pe_callB (cr_lenK K rfl) (by rfl) T.b.len (by decide +kernel) (pa_cons (pv 2) pa_nil)) (pe_callB (cr_lenK K rfl) (by rfl) T.b.len (by decide +kernel) (pa_cons (pv 3) pa_nil)) (nomark _)))))
        (pss_one ps_never)
        pss_nil)
      (pss_cons (ps_if (pt_not (pt_val (pe_callB (cr_allK K rfl rfl) (by rfl) T.b.all (by decide +kernel) (pa_cons (pe_lc (own := [("word", 4)]) (tt := tYes) rfl sc_filled.nd (pi_listK K rfl (pv 2)) (blkOk_by (N := ["row", "window", "words", "some", "word", "found", "place"]) (sc := defScope s_filled) (by decide +kernel)) (fun _ _ _ _ _ => (pg_name (i := 4) sc_filled.nd rfl (Or.inl rfl))) (fun _ _ _ _ _ => pts_nil) (fun _ _ _ _ _ => (pe_callX G_fits_width (hr.mono (by decide)) (by rfl) (pa_cons (pv 4) (pa_cons (pv 1) pa_nil))))) pa_nil))))
        (pss_one ps_never)
        pss_nil)
      (pss_cons (ps_set (i := 5) sc_filled.nd rfl (Or.inl rfl) (pv 0))
      (pss_cons (ps_for PassesOwn.never rfl (pi_zipK K rfl (by rfl) T.b.zip (pa_cons (pv 3) (pa_cons (pv 2) pa_nil))) (pg_tupK K rfl (n := 2) rfl (pgs_cons (pg_name (i := 6) sc_filled.nd rfl (Or.inl rfl)) (pgs_cons (pg_name (i := 4) sc_filled.nd rfl (Or.inl rfl)) pgs_nil)))
        (pss_one (ps_set (i := 5) sc_filled.nd rfl (Or.inl rfl) (pe_callX G_with_word (hr.mono (by decide)) (by rfl) (pa_cons (pv 5) (pa_cons (pv 6) (pa_cons (pv 4) (pa_cons (pv 1) pa_nil))))))))
      (pss_one (ps_ret (pv 5))))))))), ?_⟩
  dsimp only [cxOf, List.map, List.replicate, List.cons_append, List.nil_append]
  refine st_drop (ev_call (ea_cons (ev_var rfl) (ea_cons (ev_var rfl) ea_nil)) ⟨r, w', hr', hw, hf, rfl, rfl⟩) ?_
  refine st_set (ev_call (ea_cons (ev_var rfl) ea_nil) ⟨w', hw, rfl, rfl⟩) ?_
  refine st_guard (b := false) (et_is (et_or (et_not (et_B (ev_isiL (ev_var rfl)))) fun _ => et_test (ev_op (ev_cb (ea_cons (ev_var rfl) ea_nil) (cd_len (.inl rfl))) (ev_cb (ea_cons (ev_var rfl) ea_nil) (cd_len (.inl rfl))) rd_neI)) ?_) rfl ?_
  · rw [List.length_map, List.length_map, hl]
    simp
  refine st_guard (b := false) (et_is (et_not (et_B (ev_cb (ea_cons (el_d (el_map (xs := xs) (enc := PyData.int) (fun x => PyData.bool (decide (0 ≤ x) && decide (x ≤ 256 ^ w'.w - 1))) (it_list (ev_var rfl)) (by have := hw.len; omega) fun a ha => ⟨_, _, gd_name, by decide, ?_⟩)) ea_nil) cd_allM))) ?_) rfl ?_
  · exact ev_call (ea_cons (ev_var rfl) (ea_cons (ev_var rfl) ea_nil)) ⟨a, w', hw, rfl, rfl⟩
  · rw [Bool.not_eq_false', List.all_eq_true]
    intro x h
    have h1 := hx x h
    have h2 : x ≤ 256 ^ w'.w - 1 := by omega
    simp [h1, h2]
  refine st_set (ev_var rfl) ?_
  have hps : ∀ p ∈ w'.places.zip xs, p.1.toNat + w'.w ≤ r.length := fun p hp => (fitsW hf (List.of_mem_zip hp).1 hr'.len).2.2.2
  refine st_forT (xs := w'.places.zip xs) (enc := fun p => PyData.tuple [.int p.1, .int p.2]) (fun i M' ρ' => M' = [] ∧ ∃ s1 s2, ρ' = [Sl.val (rowD r), .val (winD w'), .val (.list (xs.map PyData.int)), .val (.list (w'.places.map PyData.int)), s1, .val (rowD (fillR r 0 w'.w w'.low ((w'.places.zip xs).take i))), s2]) ?_ ⟨rfl, _, _, rfl⟩ ?_ ?_
  · rw [← zipD_map PyData.int PyData.int]
    exact it_zip (ea_cons (ev_var rfl) (ea_cons (ev_var rfl) ea_nil))
  · rintro i hi M' ρ' ⟨rfl, s1, s2, rfl⟩
    have hp := List.getElem_mem hi
    obtain ⟨h0, h1, h2, h3⟩ := fitsW (p := (w'.places.zip xs)[i].1) hf (List.of_mem_zip hp).1 hr'.len
    refine ⟨_, _, gd_tup (gds_cons gd_name (gds_cons gd_name gds_nil)), st_one (st_set (d := rowD (fillR r 0 w'.w w'.low ((w'.places.zip xs).take (i + 1)))) (ev_call (ea_cons (ev_var rfl) (ea_cons (ev_var rfl) (ea_cons (ev_var rfl) (ea_cons (ev_var rfl) ea_nil)))) ⟨fillR r 0 w'.w w'.low ((w'.places.zip xs).take i), (w'.places.zip xs)[i].1.toNat, (w'.places.zip xs)[i].2, w', ?_, h1, wIs hw, ?_, ?_⟩) (st_next ⟨rfl, .val (.int (w'.places.zip xs)[i].2), .val (.int (w'.places.zip xs)[i].1), rfl⟩))⟩
    · rw [fillR_len rfl fun p hp => hps p (List.mem_of_mem_take hp)]
      exact hr'.len
    · rw [nD, h2]
    · rw [fillR_take hi]
  · rintro M' ρ' ⟨rfl, s1, s2, rfl⟩
    rw [List.take_length]
    exact st_ret (ev_var rfl) rfl

/-! ### tables -/
def nest : List Int → List Nat → PD
  | xs, [] => .int (xs.headD 0)
  | xs, c :: cs => .list ((List.range c).map fun i => nest ((xs.drop (prodN cs * i)).take (prodN cs)) cs)
def R_sbs (n : Nat) : List PD → PD → Prop := fun ds d => ∃ (cs : List Nat) (xs : List Int), cs.length ≤ n ∧ (∀ c ∈ cs, 0 < c ∧ c ≤ 4096) ∧ prodN cs ≤ 4096 ∧ xs.length = prodN cs ∧ ds = [.list (xs.map PyData.int), .tuple (cs.map nD)] ∧ d = nest xs cs
abbrev FN_sbs (P : Program) (w : World) (K : PySem.W.Frag) (mg : Str → Option Value) (base : Heap) (n : Nat) : Prop := FnX P w K mg base "side_by_side" ["some", "counts"] (n + 2) (spD K (R_sbs n))
theorem cut_lt {c i m : Nat} (h : i < c) : m * i + m ≤ c * m := by
  have h1 : m * (i + 1) ≤ m * c := Nat.mul_le_mul_left _ h
  rw [Nat.mul_succ] at h1
  rw [Nat.mul_comm c m]
  exact h1
theorem ok_sbs (T : Top K mg wa oa da) (F : TopF K mg "side_by_side" s_side_by_side ["some", "counts"]) (G_many_by : FN_many_by P w K mg base) : ∀ n, FN_sbs P w K mg base n
  | 0 => by
    refine fx_pure F sc_side_by_side (fun ds d h => by obtain ⟨_, _, _, _, _, _, rfl, _⟩ := h; rfl) 2 rfl fun f cdv A outer s H E ds d hr h => ?_
    obtain ⟨cs, xs, hn, hc, hp, hl, rfl, rfl⟩ := h
    have e : cs = [] := List.length_eq_zero_iff.mp (by omega)
    subst e
    refine ⟨_, (pss_cons (ps_if (pt_cmpR (op_eqK K rfl hr.units) (pv 1) (pe_tup pa_nil) (nomark _))
        (pss_one (ps_ret (pe_ix (ix_listK K rfl) (pv 0) (pe_int) (fun _ _ => rfl))))
        pss_nil)
      pss_never), ?_⟩
    dsimp only [cxOf, List.map, List.replicate, List.cons_append, List.nil_append]
    refine st_ifT (b := true) (et_is (et_test (ev_op (ev_var rfl) (ev_tup ea_nil) (rd_eqTN (xs := []) (ys := [])))) rfl) rfl (st_assoc (st_retS (d := nest xs []) (ev_op (ev_var rfl) ev_int (rd_ixL ?_)) rfl))
    have hl' : xs.length = 1 := hl
    obtain ⟨x, rfl⟩ := List.length_eq_one_iff.mp hl'
    rfl
  | n + 1 => by
    have G_side_by_side := ok_sbs T F G_many_by n
    refine fx_pure F sc_side_by_side (fun ds d h => by obtain ⟨_, _, _, _, _, _, rfl, _⟩ := h; rfl) 2 rfl fun f cdv A outer s H E ds d hr h => ?_
    obtain ⟨cs, xs, hn, hc, hp, hl, rfl, rfl⟩ := h
    refine ⟨_, (pss_cons (ps_if (pt_cmpR (op_eqK K rfl hr.units) (pv 1) (pe_tup pa_nil) (nomark _))
        (pss_one (ps_ret (pe_ix (ix_listK K rfl) (pv 0) (pe_int) (fun _ _ => rfl))))
        pss_nil)
      (pss_cons (ps_set (i := 2) sc_side_by_side.nd rfl (Or.inr rfl) (pe_callX G_many_by (hr.mono (by omega)) (by rfl) (pa_cons (pe_slice (sl_tupK K rfl) (pv 1) (po_some (pe_int)) po_none) pa_nil)))
      (pss_one (ps_ret (pe_lc (own := [("number", 3)]) (tt := tYes) rfl sc_side_by_side.nd (pi_range1 (by rfl) T.b.range (pa_cons (pe_ix (ix_tupK K rfl) (pv 1) (pe_int) (fun _ _ => rfl)) pa_nil)) (blkOk_by (N := ["some", "counts", "many", "number"]) (sc := defScope s_side_by_side) (by decide +kernel)) (fun _ _ _ _ _ => (pg_name (i := 3) sc_side_by_side.nd rfl (Or.inl rfl))) (fun _ _ _ _ _ => pts_nil) (fun _ _ _ _ _ => (pe_callX G_side_by_side (hr.mono (by omega)) (by rfl) (pa_cons (pe_slice (sl_listK K rfl) (pv 0) (po_some (pe_op op_mul (pv 2) (pv 3))) (po_some (pe_op op_mul (pv 2) (pe_op op_add (pv 3) (pe_int))))) (pa_cons (pe_slice (sl_tupK K rfl) (pv 1) (po_some (pe_int)) po_none) pa_nil))))))))), ?_⟩
    dsimp only [cxOf, List.map, List.replicate, List.cons_append, List.nil_append]
    refine st_if (b := decide (cs = [])) (et_test (ev_op (ev_var rfl) (ev_tup ea_nil) (rd_eqTN (xs := cs) (ys := [])))) (fun hb => ?_) (fun hb => ?_)
    · have e : cs = [] := of_decide_eq_true hb
      subst e
      refine st_assoc (st_retS (d := nest xs []) (ev_op (ev_var rfl) ev_int (rd_ixL ?_)) rfl)
      have hl' : xs.length = 1 := hl
      obtain ⟨x, rfl⟩ := List.length_eq_one_iff.mp hl'
      rfl
    · have e : cs ≠ [] := of_decide_eq_false hb
      cases cs with
      | nil => exact absurd rfl e
      | cons c cs =>
        have hc0 := hc c (List.mem_cons_self ..)
        have hcs : ∀ x ∈ cs, 0 < x ∧ x ≤ 4096 := fun x hx => hc x (List.mem_cons_of_mem _ hx)
        have hpc : prodN (c :: cs) = c * prodN cs := prodN_cons _ _
        have hm : prodN cs ≤ 4096 := by
          have : prodN cs ≤ c * prodN cs := Nat.le_mul_of_pos_left _ hc0.1
          omega
        refine st_skip ?_
        refine st_set (d := nD (prodN cs)) (ev_call (ea_cons (ev_is (ev_sl (lo := some ((1 : Nat) : Int)) (hi := none) (ev_var rfl) (eo_some ev_int) eo_none sd_tup) (by rw [cutP_from]; rfl)) ea_nil) ⟨_, cs, rfl, .inr rfl, fun x hx => (hcs x hx).2, rfl⟩) ?_
        refine st_ret (el_d (el_map (xs := List.range c) (enc := fun i : Nat => PyData.int (0 + (i : Int))) (fun i => nest ((xs.drop (prodN cs * i)).take (prodN cs)) cs) ?_ ?_ fun i hi => ⟨_, _, gd_name, by decide, ?_⟩)) rfl
        · exact it_range1 (n := (c : Int)) (ea_cons (ev_op (ev_var rfl) ev_int (rd_ixT (atI_nat (j := 0) rfl))) ea_nil) (by omega)
        · rw [List.length_range]; omega
        · have hi' := List.mem_range.mp hi
          have hb := cut_lt (m := prodN cs) hi'
          refine ev_call (ea_cons (ev_is (el_d (el_slL (lo := some ((prodN cs * i : Nat) : Int)) (hi := some ((prodN cs * (i + 1) : Nat) : Int)) (ev_var rfl) (eo_some (ev_is (ev_op (ev_var rfl) (ev_var rfl) (rd_I ?_)) ?_)) (eo_some (ev_is (ev_op (ev_var rfl) (ev_op (ev_var rfl) ev_int rd_I0) (rd_I ?_)) ?_)))) ?_)
            (ea_cons (ev_is (ev_sl (lo := some ((1 : Nat) : Int)) (hi := none) (ev_var rfl) (eo_some ev_int) eo_none sd_tup) (by rw [cutP_from]; rfl)) ea_nil)) ⟨cs, (xs.drop (prodN cs * i)).take (prodN cs), ?_, hcs, hm, ?_, rfl, rfl⟩
          · exact .inl ⟨by omega, by omega⟩
          · show PyData.int _ = PyData.int _
            rw [Int.zero_add, Int.natCast_mul]
          · exact .inl ⟨by omega, by omega⟩
          · show PyData.int _ = PyData.int _
            rw [Int.zero_add, Int.natCast_mul]
            rfl
          · rw [cutP_mid, List.map_take, List.map_drop, Nat.mul_succ, Nat.add_sub_cancel_left]
          · rw [List.length_cons] at hn
            omega
          · rw [List.length_take, List.length_drop]
            omega
end
end K37

set_option Elab.async false
set_option linter.all false
set_option maxRecDepth 100000
set_option maxHeartbeats 4000000
namespace K37
open PySem PySem.Spec PyProof.Rows L2 RZ
local macro_rules | `(tactic| walk_at "ev") => `(tactic| first
  | with_reducible exact ev_int
  | with_reducible exact ev_str
  | with_reducible exact ev_bl
  | with_reducible exact ev_non
  | exact ev_var rfl
  | with_reducible exact ea_nil
  | with_reducible apply ea_cons
  | with_reducible apply ev_isiI
  | with_reducible apply ev_isiB
  | with_reducible apply ev_isiT
  | with_reducible apply ev_isiS
  | with_reducible apply ev_isiL
  | with_reducible apply ev_chain
  | with_reducible apply ev_andV
  | with_reducible apply ev_orV
  | with_reducible apply ev_notV
  | with_reducible apply ev_kdI
  | with_reducible apply ev_op
  | with_reducible apply ev_un
  | with_reducible exact rd_B0
  | with_reducible exact rd_I0
  | with_reducible apply rd_I
  | with_reducible exact ud_neg
  | with_reducible exact rd_eqI
  | with_reducible exact rd_neI
  | with_reducible exact rd_eqS
  | with_reducible exact rd_isN
  | exact rd_ixT rfl
  | exact rd_ixL rfl
  | with_reducible apply ev_call
  | with_reducible apply ev_cb
  | exact cd_len (.inl rfl)
  | exact cd_len (.inr rfl)
  | with_reducible exact cd_abs
  | with_reducible exact cd_max
  | with_reducible exact cd_min
  | with_reducible exact cd_intB
  | with_reducible exact cd_tuple
  | with_reducible exact cd_allM
  | with_reducible exact cd_sumM
  | with_reducible apply ev_tup
  | with_reducible apply ev_lst
  | with_reducible apply ev_sl
  | with_reducible exact sd_tup
  | with_reducible exact eo_none
  | with_reducible apply eo_some
  | with_reducible apply ev_revT
  | with_reducible apply et_not
  | with_reducible apply et_and
  | with_reducible apply et_or
  | with_reducible apply et_test
  | with_reducible apply et_B
  | with_reducible exact et_yes
  | with_reducible exact gd_name
  | with_reducible apply gd_tup
  | with_reducible apply gds_cons
  | with_reducible exact gds_nil
  | with_reducible (exact Nat.le_of_ble_eq_true rfl)
  | (with_reducible show (_ : List PD → PD → Prop) _ _); assumption
  | with_reducible (refine fun (_ : _ = true) => ?_)
  | with_reducible (refine fun (_ : _ = false) => ?_))
theorem atI_ints {l : List Int} {i : Int} (h0 : 0 ≤ i) (h1 : i < l.length) : atI (l.map PyData.int) i = some (.int (l.getD i.toNat 0)) := by
  have h2 : i.toNat < l.length := by omega
  have e : i = ((i.toNat : Nat) : Int) := by omega
  rw [e]
  refine atI_nat ?_
  rw [List.getElem?_map, Int.toNat_natCast, List.getElem?_eq_getElem h2, List.getD_eq_getElem?_getD, List.getElem?_eq_getElem h2]
  rfl
theorem atI_neg1 {l : List Int} (h : l ≠ []) : atI (l.map PyData.int) (-1) = some (.int (l.getLast h)) := by
  have e : l.map PyData.int = (l.dropLast.map PyData.int) ++ [.int (l.getLast h)] := by
    rw [← List.map_singleton, ← List.map_append, List.dropLast_concat_getLast]
  rw [e]
  exact atI_last _ _
theorem words_len {w : Win} {r : List Int} : (w.words r).length = w.places.length := by
  unfold Win.words
  rw [List.length_map]
theorem places_prod (w : Win) : w.places.length = prodN w.counts := by
  unfold Win.places
  rw [placesFrom_len, List.length_singleton, Nat.one_mul]
  rfl
theorem counts_pos {w : Win} (hw : IsWin w) (h : w.places ≠ []) : ∀ c ∈ w.counts, 0 < c ∧ c ≤ 4096 := by
  intro c hc
  have h0 : 0 ∉ w.counts := fun z => by
    apply h
    rw [← List.length_eq_zero_iff, places_prod]
    exact prodN_zero z
  refine ⟨?_, ?_⟩
  · rcases Nat.eq_zero_or_pos c with z | z
    · rw [z] at hc
      exact absurd hc h0
    · exact z
  · obtain ⟨x, hx, rfl⟩ := List.mem_map.mp hc
    exact (hw.s x hx).1
def tableD (w : Win) (r : List Int) : PD := if w.words r = [] then .list [] else nest (w.words r) w.counts
theorem enumD_idx {α : Type} (f : α → PD) (l : List α) : enumD (l.map f) = l.zipIdx.map fun q => PyData.tuple [nD q.2, f q.1] := by
  unfold enumD
  apply List.ext_getElem?
  intro i
  rw [List.getElem?_mapIdx, List.getElem?_map, List.getElem?_map, List.getElem?_zipIdx]
  cases l[i]? with
  | none => rfl
  | some x =>
    show some _ = some (PyData.tuple [nD (0 + i), f x])
    rw [Nat.zero_add]
section
variable {P : Program} {w : World} {K : PySem.W.Frag} {mg : Str → Option Value} {base : Heap} {wa oa da : Addr}
abbrev FN_side_by_side (P : Program) (w : World) (K : PySem.W.Frag) (mg : Str → Option Value) (base : Heap) : Prop := FN_sbs P w K mg base 5
def R_table_of : List PD → PD → Prop := fun ds d => ∃ (r : List Int) (w : Win), IsRow r ∧ IsWin w ∧ w.fits r.length ∧ ds = [rowD r, winD w] ∧ d = tableD w r
abbrev FN_table_of (P : Program) (w : World) (K : PySem.W.Frag) (mg : Str → Option Value) (base : Heap) : Prop := FnX P w K mg base "table_of" ["row", "window"] 8 (spD K R_table_of)
theorem ok_table_of (T : Top K mg wa oa da) (F : TopF K mg "table_of" s_table_of ["row", "window"]) (G_need_seen : FN_need_seen P w K mg base) (G_words_in : FN_words_in P w K mg base) (G_side_by_side : FN_side_by_side P w K mg base) (G_counts_in : FN_counts_in P w K mg base) : FN_table_of P w K mg base := by
  refine fx_pure F sc_table_of (fun ds d h => by first | (obtain ⟨_, rfl, _⟩ := h; rfl) | (obtain ⟨_, _, rfl, _⟩ := h; rfl) | (obtain ⟨_, _, _, rfl, _⟩ := h; rfl) | (obtain ⟨_, _, _, _, rfl, _⟩ := h; rfl) | (obtain ⟨_, _, _, _, _, rfl, _⟩ := h; rfl) | (obtain ⟨_, _, _, _, _, _, rfl, _⟩ := h; rfl) | (obtain ⟨_, _, _, _, _, _, _, rfl, _⟩ := h; rfl) | (obtain ⟨_, _, _, _, _, _, _, _, rfl, _⟩ := h; rfl) | (obtain ⟨_, _, _, _, _, _, _, _, _, rfl, _⟩ := h; rfl) | (obtain ⟨_, _, _, _, _, _, _, _, _, _, rfl, _⟩ := h; rfl) | (obtain ⟨_, _, _, _, _, _, _, _, _, _, _, rfl, _⟩ := h; rfl) | (obtain ⟨_, _, _, _, _, _, _, _, _, _, _, _, rfl, _⟩ := h; rfl) | (obtain ⟨_, _, _, _, _, _, _, _, _, _, _, _, _, rfl, _⟩ := h; rfl) | (obtain ⟨_, _, _, _, _, _, _, _, _, _, _, _, _, _, rfl, _⟩ := h; rfl)) 1 rfl fun f cdv A outer s H E ds d hr h => ?_
  obtain ⟨r, w', hr', hw, hf, rfl, rfl⟩ := h
  refine ⟨_, (pss_cons (ps_expr (pe_callX G_need_seen (hr.mono (by decide)) (by rfl) (pa_cons (pv 0) (pa_cons (pv 1) pa_nil))))
      (pss_cons (ps_set (i := 2) sc_table_of.nd rfl (Or.inl rfl) (pe_callX G_words_in (hr.mono (by decide)) (by rfl) (pa_cons (pv 0) (pa_cons (pv 1) pa_nil))))
      (pss_one (ps_ret (pe_ifExp (pt_cmpR (op_neK K rfl hr.units) (pv 2) (pe_lst pa_nil) (nomark _)) (pe_callX G_side_by_side (hr.mono (by decide)) (by rfl) (pa_cons (pv 2) (pa_cons (pe_callX G_counts_in (hr.mono (by decide)) (by rfl) (pa_cons (pv 1) pa_nil)) pa_nil))) (pe_lst pa_nil)))))), ?_⟩
  dsimp only [cxOf, List.map, List.replicate, List.cons_append, List.nil_append]
  refine st_drop (ev_call (ea_cons (ev_var rfl) (ea_cons (ev_var rfl) ea_nil)) ⟨r, w', hr', hw, hf, rfl, rfl⟩) ?_
  refine st_set (ev_call (ea_cons (ev_var rfl) (ea_cons (ev_var rfl) ea_nil)) ⟨r, w', hr', hw, hf, rfl, rfl⟩) ?_
  refine st_ret (ev_if (b := !decide (w'.words r = [])) (et_test (ev_op (ev_var rfl) (ev_lst ea_nil) (rd_neLI (ys := [])))) (fun hb => ?_) (fun hb => ?_)) rfl
  · have hne : w'.words r ≠ [] := by simpa using hb
    have hp : w'.places ≠ [] := fun z => hne (by unfold Win.words; rw [z]; rfl)
    refine ev_is (ev_call (ea_cons (ev_var rfl) (ea_cons (ev_call (ea_cons (ev_var rfl) ea_nil) ⟨w', hw.n, rfl, rfl⟩) ea_nil)) ⟨w'.counts, w'.words r, ?_, counts_pos hw hp, hw.p, ?_, rfl, rfl⟩) ?_
    · unfold Win.counts
      rw [List.length_map]
      exact hw.n
    · rw [words_len, places_prod]
    · rw [tableD, if_neg hne]
  · have he : w'.words r = [] := by simpa using hb
    refine ev_is (ev_lst ea_nil) ?_
    rw [tableD, if_pos he]
def unlikeD (w1 w2 : Win) (r : List Int) : PD := match firstNe ((w1.words r).zip (w2.words r)) with
  | some n => cellD (cellBy w1.counts n)
  | none => .none
def R_first_unlike : List PD → PD → Prop := fun ds d => ∃ (r : List Int) (w1 w2 : Win), IsRow r ∧ IsWin w1 ∧ IsWin w2 ∧ w1.fits r.length ∧ w2.fits r.length ∧ w1.counts = w2.counts ∧ ds = [rowD r, winD w1, winD w2] ∧ d = unlikeD w1 w2 r
abbrev FN_first_unlike (P : Program) (w : World) (K : PySem.W.Frag) (mg : Str → Option Value) (base : Heap) : Prop := FnX P w K mg base "first_unlike" ["row", "one", "other"] 6 (spD K R_first_unlike)
theorem ok_first_unlike (T : Top K mg wa oa da) (F : TopF K mg "first_unlike" s_first_unlike ["row", "one", "other"]) (G_need_row : FN_need_row P w K mg base) (G_need_window : FN_need_window P w K mg base) (G_need_seen : FN_need_seen P w K mg base) (G_counts_in : FN_counts_in P w K mg base) (G_words_in : FN_words_in P w K mg base) (G_cell_by : FN_cell_by P w K mg base) : FN_first_unlike P w K mg base := by
  refine fx_pure F sc_first_unlike (fun ds d h => by first | (obtain ⟨_, rfl, _⟩ := h; rfl) | (obtain ⟨_, _, rfl, _⟩ := h; rfl) | (obtain ⟨_, _, _, rfl, _⟩ := h; rfl) | (obtain ⟨_, _, _, _, rfl, _⟩ := h; rfl) | (obtain ⟨_, _, _, _, _, rfl, _⟩ := h; rfl) | (obtain ⟨_, _, _, _, _, _, rfl, _⟩ := h; rfl) | (obtain ⟨_, _, _, _, _, _, _, rfl, _⟩ := h; rfl) | (obtain ⟨_, _, _, _, _, _, _, _, rfl, _⟩ := h; rfl) | (obtain ⟨_, _, _, _, _, _, _, _, _, rfl, _⟩ := h; rfl) | (obtain ⟨_, _, _, _, _, _, _, _, _, _, rfl, _⟩ := h; rfl) | (obtain ⟨_, _, _, _, _, _, _, _, _, _, _, rfl, _⟩ := h; rfl) | (obtain ⟨_, _, _, _, _, _, _, _, _, _, _, _, rfl, _⟩ := h; rfl) | (obtain ⟨_, _, _, _, _, _, _, _, _, _, _, _, _, rfl, _⟩ := h; rfl) | (obtain ⟨_, _, _, _, _, _, _, _, _, _, _, _, _, _, rfl, _⟩ := h; rfl)) 3 rfl fun f cdv A outer s H E ds d hr h => ?_
  obtain ⟨r, w1, w2, hr', hw1, hw2, hf1, hf2, hcc, rfl, rfl⟩ := h
  refine ⟨_, (pss_cons (ps_expr (pe_callX G_need_row (hr.mono (by decide)) (by rfl) (pa_cons (pv 0) pa_nil)))
      (pss_cons (ps_expr (pe_callX G_need_window (hr.mono (by decide)) (by rfl) (pa_cons (pv 1) pa_nil)))
      (pss_cons (ps_expr (pe_callX G_need_window (hr.mono (by decide)) (by rfl) (pa_cons (pv 2) pa_nil)))
      (pss_cons (ps_expr (pe_callX G_need_seen (hr.mono (by decide)) (by rfl) (pa_cons (pv 0) (pa_cons (pv 1) pa_nil))))
      (pss_cons (ps_expr (pe_callX G_need_seen (hr.mono (by decide)) (by rfl) (pa_cons (pv 0) (pa_cons (pv 2) pa_nil))))
      (pss_cons (ps_if (pt_cmpR (op_neK K rfl hr.units) (pe_callX G_counts_in (hr.mono (by decide)) (by rfl) (pa_cons (pv 1) pa_nil)) (pe_callX G_counts_in (hr.mono (by decide)) (by rfl) (pa_cons (pv 2) pa_nil)) (nomark _))
        (pss_one ps_never)
        pss_nil)
      (pss_cons (ps_for PassesOwn.never rfl (pi_enumZip K rfl (by rfl) T.b.enumerate (by rfl) T.b.zip (pa_cons (pe_callX G_words_in (hr.mono (by decide)) (by rfl) (pa_cons (pv 0) (pa_cons (pv 1) pa_nil))) (pa_cons (pe_callX G_words_in (hr.mono (by decide)) (by rfl) (pa_cons (pv 0) (pa_cons (pv 2) pa_nil))) pa_nil))) (pg_tupK K rfl (n := 2) rfl (pgs_cons (pg_name (i := 3) sc_first_unlike.nd rfl (Or.inl rfl)) (pgs_cons (pg_tupK K rfl (n := 2) rfl (pgs_cons (pg_name (i := 4) sc_first_unlike.nd rfl (Or.inl rfl)) (pgs_cons (pg_name (i := 5) sc_first_unlike.nd rfl (Or.inl rfl)) pgs_nil))) pgs_nil)))
        (pss_one (ps_if (pt_cmpR op_ne (pv 4) (pv 5) (nomark _))
          (pss_one (ps_ret (pe_callX G_cell_by (hr.mono (by decide)) (by rfl) (pa_cons (pe_callX G_counts_in (hr.mono (by decide)) (by rfl) (pa_cons (pv 1) pa_nil)) (pa_cons (pv 3) pa_nil)))))
          pss_nil)))
      (pss_one (ps_ret (pe_non)))))))))), ?_⟩
  dsimp only [cxOf, List.map, List.replicate, List.cons_append, List.nil_append]
  refine st_drop (ev_call (ea_cons (ev_var rfl) ea_nil) ⟨r, hr', rfl, rfl⟩) ?_
  refine st_drop (ev_call (ea_cons (ev_var rfl) ea_nil) ⟨w1, hw1, rfl, rfl⟩) ?_
  refine st_drop (ev_call (ea_cons (ev_var rfl) ea_nil) ⟨w2, hw2, rfl, rfl⟩) ?_
  refine st_drop (ev_call (ea_cons (ev_var rfl) (ea_cons (ev_var rfl) ea_nil)) ⟨r, w1, hr', hw1, hf1, rfl, rfl⟩) ?_
  refine st_drop (ev_call (ea_cons (ev_var rfl) (ea_cons (ev_var rfl) ea_nil)) ⟨r, w2, hr', hw2, hf2, rfl, rfl⟩) ?_
  refine st_guard (b := false) (et_is (et_test (ev_op (ev_call (ea_cons (ev_var rfl) ea_nil) ⟨w1, hw1.n, rfl, rfl⟩) (ev_call (ea_cons (ev_var rfl) ea_nil) ⟨w2, hw2.n, rfl, rfl⟩) rd_neTN)) (by rw [hcc]; simp)) rfl ?_
  have hlen : (w1.words r).length = (w2.words r).length := by rw [words_len, words_len, places_prod, places_prod, hcc]
  have hz1 : ((w1.words r).zip (w2.words r)).map (fun p => PyData.int p.1) = (w1.words r).map PyData.int := by
    rw [show (fun p : Int × Int => PyData.int p.1) = PyData.int ∘ Prod.fst from rfl, ← List.map_map, List.map_fst_zip (by omega)]
  have hz2 : ((w1.words r).zip (w2.words r)).map (fun p => PyData.int p.2) = (w2.words r).map PyData.int := by
    rw [show (fun p : Int × Int => PyData.int p.2) = PyData.int ∘ Prod.snd from rfl, ← List.map_map, List.map_snd_zip (by omega)]
  have hu : unlikeD w1 w2 r = match firstNe ((w1.words r).zip (w2.words r)) with
    | some n => cellD (cellBy w1.counts n)
    | none => .none := rfl
  have hzl : ((w1.words r).zip (w2.words r)).length = w1.places.length := by rw [List.length_zip, words_len, words_len, places_prod, places_prod, hcc, Nat.min_self]
  generalize hxs : (w1.words r).zip (w2.words r) = xs at hz1 hz2 hu hzl
  refine st_forT (xs := xs.zipIdx) (enc := fun q => PyData.tuple [nD q.2, .tuple [.int q.1.1, .int q.1.2]]) (fun i M' ρ' => M' = [] ∧ (∀ p ∈ xs.take i, p.1 = p.2) ∧ ∃ s3 s4 s5, ρ' = [Sl.val (rowD r), .val (winD w1), .val (winD w2), s3, s4, s5]) ?_ ⟨rfl, (fun p hp => by rw [List.take_zero] at hp; cases hp), _, _, _, rfl⟩ ?_ ?_
  · have e : (xs.mapIdx fun i x => PyData.tuple [.int (i : Nat), .tuple [.int x.1, .int x.2]]) = xs.zipIdx.map fun q => PyData.tuple [nD q.2, .tuple [.int q.1.1, .int q.1.2]] := by
      apply List.ext_getElem?
      intro i
      rw [List.getElem?_mapIdx, List.getElem?_map, List.getElem?_zipIdx]
      cases xs[i]? with
      | none => rfl
      | some x =>
        show some _ = some (PyData.tuple [nD (0 + i), _])
        rw [Nat.zero_add]
    rw [← e]
    exact it_enumZ (f := fun p : Int × Int => PyData.int p.1) (g := fun p => PyData.int p.2)
      (ea_cons (ev_is (ev_call (ea_cons (ev_var rfl) (ea_cons (ev_var rfl) ea_nil)) ⟨r, w1, hr', hw1, hf1, rfl, rfl⟩) (by rw [hz1])) (ea_cons (ev_is (ev_call (ea_cons (ev_var rfl) (ea_cons (ev_var rfl) ea_nil)) ⟨r, w2, hr', hw2, hf2, rfl, rfl⟩) (by rw [hz2])) ea_nil))
  · rintro i hi M' ρ' ⟨rfl, hall, s3, s4, s5, rfl⟩
    have hi' : i < xs.length := by rw [List.length_zipIdx] at hi; exact hi
    have eg : xs.zipIdx[i] = (xs[i], i) := by rw [List.getElem_zipIdx, Nat.zero_add]
    rw [eg]
    refine ⟨_, _, gd_tup (gds_cons gd_name (gds_cons (gd_tup (gds_cons gd_name (gds_cons gd_name gds_nil))) gds_nil)), ?_⟩
    refine st_one (st_if (et_test (ev_op (ev_var rfl) (ev_var rfl) rd_neI)) (fun hb => ?_) (fun hb => ?_))
    · have hne : xs[i].1 ≠ xs[i].2 := by simpa using hb
      have hpl : w1.places ≠ [] := fun z => by
        rw [z] at hzl
        rw [hzl] at hi'
        cases hi'
      refine st_retS (ev_call (ea_cons (ev_call (ea_cons (ev_var rfl) ea_nil) ⟨w1, hw1.n, rfl, rfl⟩) (ea_cons (ev_var rfl) ea_nil)) ⟨w1.counts, i, counts_pos hw1 hpl, ?_, rfl, rfl⟩) ?_
      · unfold Win.counts
        rw [List.length_map]
        exact hw1.n
      · rw [hu, firstNe_some xs i hi' hall hne]
    · have he : xs[i].1 = xs[i].2 := by simpa using hb
      refine st_skip (st_next ⟨rfl, fun p hp => ?_, _, _, _, rfl⟩)
      rw [List.take_add_one, List.getElem?_eq_getElem hi'] at hp
      rcases List.mem_append.mp hp with hp | hp
      · exact hall p hp
      · have hp : p ∈ [xs[i]] := hp
        rw [List.mem_singleton] at hp
        rw [hp]
        exact he
  · rintro M' ρ' ⟨rfl, hall, s3, s4, s5, rfl⟩
    rw [List.length_zipIdx, List.take_length] at hall
    refine st_ret ev_non ?_
    rw [hu, firstNe_none xs hall]
end
end K37

set_option Elab.async false
set_option linter.all false
set_option maxRecDepth 100000
set_option maxHeartbeats 4000000
namespace K37
open PySem PySem.Spec PyProof.Rows L2 RZ
local macro_rules | `(tactic| walk_at "ev") => `(tactic| first
  | with_reducible exact ev_int
  | with_reducible exact ev_str
  | with_reducible exact ev_bl
  | with_reducible exact ev_non
  | exact ev_var rfl
  | with_reducible exact ea_nil
  | with_reducible apply ea_cons
  | with_reducible apply ev_isiI
  | with_reducible apply ev_isiB
  | with_reducible apply ev_isiT
  | with_reducible apply ev_isiS
  | with_reducible apply ev_isiL
  | with_reducible apply ev_chain
  | with_reducible apply ev_andV
  | with_reducible apply ev_orV
  | with_reducible apply ev_notV
  | with_reducible apply ev_kdI
  | with_reducible apply ev_op
  | with_reducible apply ev_un
  | with_reducible exact rd_B0
  | with_reducible exact rd_I0
  | with_reducible apply rd_I
  | with_reducible exact ud_neg
  | with_reducible exact rd_eqI
  | with_reducible exact rd_neI
  | with_reducible exact rd_eqS
  | with_reducible exact rd_isN
  | exact rd_ixT rfl
  | exact rd_ixL rfl
  | with_reducible apply ev_call
  | with_reducible apply ev_cb
  | exact cd_len (.inl rfl)
  | exact cd_len (.inr rfl)
  | with_reducible exact cd_abs
  | with_reducible exact cd_max
  | with_reducible exact cd_min
  | with_reducible exact cd_intB
  | with_reducible exact cd_tuple
  | with_reducible exact cd_allM
  | with_reducible exact cd_sumM
  | with_reducible apply ev_tup
  | with_reducible apply ev_lst
  | with_reducible apply ev_sl
  | with_reducible exact sd_tup
  | with_reducible exact eo_none
  | with_reducible apply eo_some
  | with_reducible apply ev_revT
  | with_reducible apply et_not
  | with_reducible apply et_and
  | with_reducible apply et_or
  | with_reducible apply et_test
  | with_reducible apply et_B
  | with_reducible exact et_yes
  | with_reducible exact gd_name
  | with_reducible apply gd_tup
  | with_reducible apply gds_cons
  | with_reducible exact gds_nil
  | with_reducible (exact Nat.le_of_ble_eq_true rfl)
  | (with_reducible show (_ : List PD → PD → Prop) _ _); assumption
  | with_reducible (refine fun (_ : _ = true) => ?_)
  | with_reducible (refine fun (_ : _ = false) => ?_))
theorem IsWin.ccell_len {w : Win} (h : IsWin w) {i : Nat} (hi : i ≤ w.s.length) : ∀ c ∈ cellsFrom w.cstart (w.s.take i), c.length ≤ 5 := by
  intro c hc
  unfold Win.cstart at hc
  split at hc
  · rw [cellsFrom_nil] at hc
    cases hc
  · have := ((cells_places w.b w.s i hi).1 c hc).1
    have := h.n
    omega
section
variable {P : Program} {w : World} {K : PySem.W.Frag} {mg : Str → Option Value} {base : Heap} {wa oa da : Addr}
def R_law_cells : List PD → PD → Prop := fun ds d => ∃ w : Win, IsWin w ∧ ds = [winD w] ∧ d = .list (w.cells.map cellD)
abbrev FN_law_cells (P : Program) (w : World) (K : PySem.W.Frag) (mg : Str → Option Value) (base : Heap) : Prop := FnX P w K mg base "_law_cells" ["_law_window_here"] 1 (spD K R_law_cells)
theorem ok_law_cells (T : Top K mg wa oa da) (F : TopF K mg "_law_cells" s_law_cells ["_law_window_here"])  : FN_law_cells P w K mg base := by
  refine fx_pure F sc_law_cells (fun ds d h => by first | (obtain ⟨_, rfl, _⟩ := h; rfl) | (obtain ⟨_, _, rfl, _⟩ := h; rfl) | (obtain ⟨_, _, _, rfl, _⟩ := h; rfl) | (obtain ⟨_, _, _, _, rfl, _⟩ := h; rfl) | (obtain ⟨_, _, _, _, _, rfl, _⟩ := h; rfl) | (obtain ⟨_, _, _, _, _, _, rfl, _⟩ := h; rfl) | (obtain ⟨_, _, _, _, _, _, _, rfl, _⟩ := h; rfl) | (obtain ⟨_, _, _, _, _, _, _, _, rfl, _⟩ := h; rfl) | (obtain ⟨_, _, _, _, _, _, _, _, _, rfl, _⟩ := h; rfl) | (obtain ⟨_, _, _, _, _, _, _, _, _, _, rfl, _⟩ := h; rfl) | (obtain ⟨_, _, _, _, _, _, _, _, _, _, _, rfl, _⟩ := h; rfl) | (obtain ⟨_, _, _, _, _, _, _, _, _, _, _, _, rfl, _⟩ := h; rfl) | (obtain ⟨_, _, _, _, _, _, _, _, _, _, _, _, _, rfl, _⟩ := h; rfl) | (obtain ⟨_, _, _, _, _, _, _, _, _, _, _, _, _, _, rfl, _⟩ := h; rfl)) 7 rfl fun f cdv A outer s H E ds d hr h => ?_
  obtain ⟨w', hw, rfl, rfl⟩ := h
  refine ⟨_, (pss_cons (ps_setLc (i := 1) (own := [("_law_count", 2), ("_law_step", 3)]) (tt := tYes) rfl sc_law_cells.nd rfl rfl (sw_true rfl rfl rfl (by decide +kernel)) (pi_tupK K rfl (pe_ix (ix_tupK K rfl) (pv 0) (pe_int) (fun _ _ => rfl))) (blkOk_by (N := ["_law_window_here", "_law_counts", "_law_count", "_law_step", "_law_found", "_law_longer", "_law_row_here", "_law_number"]) (sc := defScope s_law_cells) (by decide +kernel)) (fun _ _ _ _ _ => (pg_tupK K rfl (n := 2) rfl (pgs_cons (pg_name (i := 2) sc_law_cells.nd rfl (Or.inl rfl)) (pgs_cons (pg_name (i := 3) sc_law_cells.nd rfl (Or.inl rfl)) pgs_nil)))) (fun _ _ _ _ _ => pts_nil) (fun _ _ _ _ _ => (pv 2)))
      (pss_cons (ps_set (i := 4) sc_law_cells.nd rfl (Or.inl rfl) (pe_ifExp (pt_cmpR (op_inK K rfl) (pe_int) (pv 1) rfl) (pe_lst pa_nil) (pe_lst (pa_cons (pe_tup pa_nil) pa_nil))))
      (pss_cons (ps_for PassesOwn.never rfl (pi_listK K rfl (pv 1)) (pg_name (i := 2) sc_law_cells.nd rfl (Or.inl rfl))
        (pss_cons (ps_set (i := 5) sc_law_cells.nd rfl (Or.inl rfl) (pe_lst pa_nil))
        (pss_cons (ps_for PassesOwn.never rfl (pi_listK K rfl (pv 4)) (pg_name (i := 6) sc_law_cells.nd rfl (Or.inr rfl))
          (pss_one (ps_expr (pe_bm PySem.F.plainAttrs_list PySem.F.slot_list_extend PySem.F.type_list_extend mt_extend (pv 5) (pa_cons (pe_lc (own := [("_law_number", 7)]) (tt := tYes) rfl sc_law_cells.nd (pi_range1 (by rfl) T.b.range (pa_cons (pv 2) pa_nil)) (blkOk_by (N := ["_law_window_here", "_law_counts", "_law_count", "_law_step", "_law_found", "_law_longer", "_law_row_here", "_law_number"]) (sc := defScope s_law_cells) (by decide +kernel)) (fun _ _ _ _ _ => (pg_name (i := 7) sc_law_cells.nd rfl (Or.inl rfl))) (fun _ _ _ _ _ => pts_nil) (fun _ _ _ _ _ => (pe_op (op_catK K rfl) (pv 6) (pe_tup (pa_cons (pv 7) pa_nil))))) pa_nil)))))
        (pss_one (ps_set (i := 4) sc_law_cells.nd rfl (Or.inl rfl) (pv 5))))))
      (pss_one (ps_ret (pv 4)))))), ?_⟩
  dsimp only [cxOf, List.map, List.replicate, List.cons_append, List.nil_append]
  refine st_set (d := .list (w'.s.map fun x => nD x.1)) (el_d (el_map (xs := w'.s) (enc := sideD) (fun x => nD x.1) (it_tup ?_) (by have := hw.n; omega) fun a ha => ⟨_, _, gd_tup (gds_cons gd_name (gds_cons gd_name gds_nil)), by decide, ?_⟩)) ?_
  · repeat' walk_at "ev"
  · repeat' walk_at "ev"
  refine st_set (d := .list (w'.cstart.map cellD)) (ev_if (b := decide (0 ∈ w'.counts)) ?_ (fun hb => ?_) (fun hb => ?_)) ?_
  · refine et_is (et_test (ev_op ev_int (ev_var rfl) (rd_inI (ns := w'.counts.map fun n : Nat => (n : Int)) (.inl ?_)))) (decide_eq_decide.mpr (mem_ints0 _))
    unfold Win.counts
    rw [List.map_map, List.map_map]
    rfl
  · have h0 : 0 ∈ w'.counts := by simpa using hb
    refine ev_is (ev_lst ea_nil) ?_
    rw [Win.cstart, if_pos h0]
    rfl
  · have h0 : 0 ∉ w'.counts := by simpa using hb
    refine ev_is (ev_lst (ea_cons (ev_tup ea_nil) ea_nil)) ?_
    rw [Win.cstart, if_neg h0]
    rfl
  refine st_forT (xs := w'.s) (enc := fun x => nD x.1) (fun i M' ρ' => M' = [] ∧ ∃ s2 s3 s5 s6 s7, ρ' = [Sl.val (winD w'), .val (.list (w'.s.map fun x => nD x.1)), s2, s3, .val (.list ((cellsFrom w'.cstart (w'.s.take i)).map cellD)), s5, s6, s7]) (it_list (ev_var rfl)) ⟨rfl, _, _, _, _, _, rfl⟩ ?_ ?_
  · rintro i hi M' ρ' ⟨rfl, s2, s3, s5, s6, s7, rfl⟩
    refine ⟨_, _, gd_name, st_new fun p _ _ => ?_⟩
    have hb := hw.clen_take (i + 1)
    rw [cellsFrom_take _ _ _ hi] at hb
    have hc := hw.ccell_len (Nat.le_of_lt hi)
    generalize hl : cellsFrom w'.cstart (w'.s.take i) = l at hb hc
    have hx := (hw.s _ (List.getElem_mem hi)).1
    refine st_forT (xs := l) (enc := cellD) (fun j M' ρ' => M' = [(p, .lst (((l.take j).flatMap fun q => (List.range w'.s[i].1).map fun (n : Nat) => q ++ [n]).map cellD))] ∧
      ∃ s6 s7, ρ' = [Sl.val (winD w'), .val (.list (w'.s.map fun x => nD x.1)), .val (nD w'.s[i].1), s3, .val (.list (l.map cellD)), .ml p, s6, s7]) (it_list (ev_var rfl)) ⟨rfl, _, _, rfl⟩ ?_ ?_
    · rintro j hj M' ρ' ⟨rfl, s6, s7, rfl⟩
      refine ⟨_, _, gd_name, st_one (st_ext rfl (el_map (xs := List.range w'.s[i].1) (enc := fun n : Nat => PyData.int (0 + (n : Int))) (fun n : Nat => cellD (l[j] ++ [n])) ?_ ?_ fun a ha => ⟨_, _, gd_name, by decide, ?_⟩) ?_ (st_next ⟨?_, _, _, rfl⟩))⟩
      · exact it_range1 (n := (w'.s[i].1 : Int)) (ea_cons (ev_var rfl) ea_nil) (by omega)
      · rw [List.length_range]
        omega
      · refine ev_is (ev_op (ev_var rfl) (ev_tup (ea_cons (ev_var rfl) ea_nil)) (rd_catT ?_)) ?_
        · rw [List.length_map]
          have := hc _ (List.getElem_mem hj)
          show _ + 1 ≤ _
          omega
        · rw [cellD, List.map_append, Int.zero_add]
          rfl
      · rw [List.length_map, List.length_map, List.length_range]
        have h1 := cflat_len_take (l := l) w'.s[i] j
        omega
      · rw [take_flatMap _ _ _ hj, List.map_append, List.map_map]
        rfl
    · rintro M' ρ' ⟨rfl, s6, s7, rfl⟩
      rw [List.take_length]
      refine st_freeze (i := 5) rfl (by simp) (st_one (st_set (ev_var rfl) (st_next ⟨rfl, .val (nD w'.s[i].1), s3, .val (.list ((l.flatMap fun q => (List.range w'.s[i].1).map fun (n : Nat) => q ++ [n]).map cellD)), s6, s7, ?_⟩)))
      rw [cellsFrom_take _ _ _ hi, hl]
      rfl
  · rintro M' ρ' ⟨rfl, s2, s3, s5, s6, s7, rfl⟩
    exact st_ret (ev_var rfl) (by rw [List.take_length, w'.cells_start])
def R_law_any_word : List PD → PD → Prop := fun ds d => ∃ (n : Int) (w : Nat), (0 ≤ n ∧ n < 306783379) ∧ (w = 1 ∨ w = 2 ∨ w = 4 ∨ w = 8) ∧ ds = [.int n, nD w] ∧ d = .int (anyWord n w)
abbrev FN_law_any_word (P : Program) (w : World) (K : PySem.W.Frag) (mg : Str → Option Value) (base : Heap) : Prop := FnX P w K mg base "_law_any_word" ["_law_n", "_law_width"] 1 (spD K R_law_any_word)
theorem ok_law_any_word (T : Top K mg wa oa da) (F : TopF K mg "_law_any_word" s_law_any_word ["_law_n", "_law_width"])  : FN_law_any_word P w K mg base := by
  refine fx_pure F sc_law_any_word (fun ds d h => by first | (obtain ⟨_, rfl, _⟩ := h; rfl) | (obtain ⟨_, _, rfl, _⟩ := h; rfl) | (obtain ⟨_, _, _, rfl, _⟩ := h; rfl) | (obtain ⟨_, _, _, _, rfl, _⟩ := h; rfl) | (obtain ⟨_, _, _, _, _, rfl, _⟩ := h; rfl) | (obtain ⟨_, _, _, _, _, _, rfl, _⟩ := h; rfl) | (obtain ⟨_, _, _, _, _, _, _, rfl, _⟩ := h; rfl) | (obtain ⟨_, _, _, _, _, _, _, _, rfl, _⟩ := h; rfl) | (obtain ⟨_, _, _, _, _, _, _, _, _, rfl, _⟩ := h; rfl) | (obtain ⟨_, _, _, _, _, _, _, _, _, _, rfl, _⟩ := h; rfl) | (obtain ⟨_, _, _, _, _, _, _, _, _, _, _, rfl, _⟩ := h; rfl) | (obtain ⟨_, _, _, _, _, _, _, _, _, _, _, _, rfl, _⟩ := h; rfl) | (obtain ⟨_, _, _, _, _, _, _, _, _, _, _, _, _, rfl, _⟩ := h; rfl) | (obtain ⟨_, _, _, _, _, _, _, _, _, _, _, _, _, _, rfl, _⟩ := h; rfl)) 2 rfl fun f cdv A outer s H E ds d hr h => ?_
  obtain ⟨n, b, hn, hb, rfl, rfl⟩ := h
  refine ⟨_, (pss_cons (ps_set (i := 2) sc_law_any_word.nd rfl (Or.inl rfl) (pe_op op_shl (pe_int) (pe_op op_mul (pe_int) (pv 1))))
      (pss_cons (ps_set (i := 3) sc_law_any_word.nd rfl (Or.inl rfl) (pe_op op_mod (pe_op op_mul (pe_op op_pow (pe_op op_add (pv 0) (pe_int)) (pe_int)) (pe_int)) (pv 2)))
      (pss_one (ps_ret (pe_ix (ix_listK K rfl) (pe_lst (pa_cons (pe_int) (pa_cons (pe_op op_sub (pv 2) (pe_int)) (pa_cons (pe_op op_shl (pe_int) (pe_op op_mul (pe_int) (pe_op op_mod (pe_op op_fdiv (pv 0) (pe_int)) (pv 1)))) (pa_cons (pv 3) (pa_cons (pv 3) (pa_cons (pv 3) (pa_cons (pe_int) (pa_cons (pe_op op_fdiv (pv 2) (pe_int)) pa_nil))))))))) (pe_op op_mod (pv 0) (pe_int)) (fun _ _ => rfl)))))), ?_⟩
  dsimp only [cxOf, List.map, List.replicate, List.cons_append, List.nil_append]
  have hb8 : (1 : Int) ≤ (b : Int) ∧ (b : Int) ≤ 8 := by omega
  have hpos : (0 : Int) < 2 ^ (8 * b) := Int.pow_pos (by decide)
  refine st_set (d := .int (2 ^ (8 * b))) (ev_is (ev_op ev_int (ev_op ev_int (ev_var rfl) (rd_I ?_)) (rd_I ?_)) ?_) ?_
  · exact .inl ⟨by decide, by decide⟩
  · exact ⟨by omega, by omega, by decide⟩
  · show PyData.int _ = PyData.int _
    rw [Int.one_mul, show (8 * (b : Int)).toNat = 8 * b by omega]
  refine st_set (d := .int ((n + 1) ^ 7 * 48271 % 2 ^ (8 * b))) (ev_op (ev_op (ev_op (ev_op (ev_var rfl) ev_int rd_I0) ev_int (rd_I (g := fun i j => i ^ j.toNat) ?_)) ev_int (rd_I ?_)) (ev_var rfl) (rd_I ?_)) ?_
  · exact ⟨by decide, by decide, by omega⟩
  · exact .inr ⟨by decide, by decide⟩
  · exact hpos
  have h1 : (b : Int) ≠ 0 := by omega
  have h2 := Int.emod_nonneg (n / 8) h1
  have h3 := Int.emod_lt_of_pos (n / 8) (show (0 : Int) < b by omega)
  refine st_ret (ev_op (dx := .list ((anyList n b).map PyData.int)) (ev_is (ev_lst (ea_cons ev_int (ea_cons (ev_op (ev_var rfl) ev_int rd_I0) (ea_cons (ev_op ev_int (ev_op ev_int (ev_op (ev_op (ev_var rfl) ev_int (rd_I ?_)) (ev_var rfl) (rd_I ?_)) (rd_I ?_)) (rd_I ?_)) (ea_cons (ev_var rfl) (ea_cons (ev_var rfl) (ea_cons (ev_var rfl) (ea_cons ev_int (ea_cons (ev_op (ev_var rfl) ev_int (rd_I ?_)) ea_nil))))))))) rfl)
    (ev_op (ev_var rfl) ev_int (rd_I ?_)) (rd_ixL (atI_ints ?_ ?_))) rfl
  · exact ⟨by decide, by decide⟩
  · show (0 : Int) < b
    omega
  · exact .inl ⟨by decide, by decide⟩
  · exact ⟨by omega, by omega, by decide⟩
  · exact ⟨by decide, by decide⟩
  · show (0 : Int) < 8
    decide
  · omega
  · show n % 8 < ((8 : Nat) : Int)
    omega
def R_law_length : List PD → PD → Prop := fun ds d => ∃ n : Int, ds = [.int n] ∧ d = .int (lawLen n)
abbrev FN_law_length (P : Program) (w : World) (K : PySem.W.Frag) (mg : Str → Option Value) (base : Heap) : Prop := FnX P w K mg base "_law_length" ["_law_n"] 1 (spD K R_law_length)
theorem ok_law_length (T : Top K mg wa oa da) (F : TopF K mg "_law_length" s_law_length ["_law_n"])  : FN_law_length P w K mg base := by
  refine fx_pure F sc_law_length (fun ds d h => by first | (obtain ⟨_, rfl, _⟩ := h; rfl) | (obtain ⟨_, _, rfl, _⟩ := h; rfl) | (obtain ⟨_, _, _, rfl, _⟩ := h; rfl) | (obtain ⟨_, _, _, _, rfl, _⟩ := h; rfl) | (obtain ⟨_, _, _, _, _, rfl, _⟩ := h; rfl) | (obtain ⟨_, _, _, _, _, _, rfl, _⟩ := h; rfl) | (obtain ⟨_, _, _, _, _, _, _, rfl, _⟩ := h; rfl) | (obtain ⟨_, _, _, _, _, _, _, _, rfl, _⟩ := h; rfl) | (obtain ⟨_, _, _, _, _, _, _, _, _, rfl, _⟩ := h; rfl) | (obtain ⟨_, _, _, _, _, _, _, _, _, _, rfl, _⟩ := h; rfl) | (obtain ⟨_, _, _, _, _, _, _, _, _, _, _, rfl, _⟩ := h; rfl) | (obtain ⟨_, _, _, _, _, _, _, _, _, _, _, _, rfl, _⟩ := h; rfl) | (obtain ⟨_, _, _, _, _, _, _, _, _, _, _, _, _, rfl, _⟩ := h; rfl) | (obtain ⟨_, _, _, _, _, _, _, _, _, _, _, _, _, _, rfl, _⟩ := h; rfl)) 0 rfl fun f cdv A outer s H E ds d hr h => ?_
  obtain ⟨n, rfl, rfl⟩ := h
  refine ⟨_, (pss_one (ps_ret (pe_ix (ix_listK K rfl) (pe_lst (pa_cons (pe_int) (pa_cons (pe_int) (pa_cons (pe_int) (pa_cons (pe_int) (pa_cons (pe_int) (pa_cons (pe_int) (pa_cons (pe_int) (pa_cons (pe_int) (pa_cons (pe_int) (pa_cons (pe_int) (pa_cons (pe_int) (pa_cons (pe_op op_add (pe_int) (pe_op op_mod (pe_op op_fdiv (pv 0) (pe_int)) (pe_int))) (pa_cons (pe_int) (pa_cons (pe_int) (pa_cons (pe_int) (pa_cons (pe_op op_mod (pe_op op_fdiv (pv 0) (pe_int)) (pe_int)) pa_nil))))))))))))))))) (pe_op op_mod (pv 0) (pe_int)) (fun _ _ => rfl)))), ?_⟩
  dsimp only [cxOf, List.map, List.replicate, List.cons_append, List.nil_append]
  refine st_ret (ev_op (dx := .list ((lenList n).map PyData.int)) (ev_is (ev_lst (ea_cons ev_int (ea_cons ev_int (ea_cons ev_int (ea_cons ev_int (ea_cons ev_int (ea_cons ev_int (ea_cons ev_int (ea_cons ev_int (ea_cons ev_int (ea_cons ev_int (ea_cons ev_int (ea_cons (ev_op ev_int (ev_op (ev_op (ev_var rfl) ev_int (rd_I ?_)) ev_int (rd_I ?_)) rd_I0) (ea_cons ev_int (ea_cons ev_int (ea_cons ev_int (ea_cons (ev_op (ev_op (ev_var rfl) ev_int (rd_I ?_)) ev_int (rd_I ?_)) ea_nil))))))))))))))))) rfl)
    (ev_op (ev_var rfl) ev_int (rd_I ?_)) (rd_ixL (atI_ints ?_ ?_))) rfl
  · exact ⟨by decide, by decide⟩
  · show (0 : Int) < 60
    decide
  · exact ⟨by decide, by decide⟩
  · show (0 : Int) < 513
    decide
  · show (0 : Int) < 16
    decide
  · omega
  · show n % 16 < ((16 : Nat) : Int)
    omega
def R_law_bytes : List PD → PD → Prop := fun ds d => ∃ r : List Int, IsRow r ∧ ds = [rowD r] ∧ d = .list (r.map PyData.int)
abbrev FN_law_bytes (P : Program) (w : World) (K : PySem.W.Frag) (mg : Str → Option Value) (base : Heap) : Prop := FnX P w K mg base "_law_bytes" ["_law_row_here"] 7 (spD K R_law_bytes)
theorem ok_law_bytes (T : Top K mg wa oa da) (F : TopF K mg "_law_bytes" s_law_bytes ["_law_row_here"]) (G_words_of : FN_words_of P w K mg base) : FN_law_bytes P w K mg base := by
  refine fx_pure F sc_law_bytes (fun ds d h => by first | (obtain ⟨_, rfl, _⟩ := h; rfl) | (obtain ⟨_, _, rfl, _⟩ := h; rfl) | (obtain ⟨_, _, _, rfl, _⟩ := h; rfl) | (obtain ⟨_, _, _, _, rfl, _⟩ := h; rfl) | (obtain ⟨_, _, _, _, _, rfl, _⟩ := h; rfl) | (obtain ⟨_, _, _, _, _, _, rfl, _⟩ := h; rfl) | (obtain ⟨_, _, _, _, _, _, _, rfl, _⟩ := h; rfl) | (obtain ⟨_, _, _, _, _, _, _, _, rfl, _⟩ := h; rfl) | (obtain ⟨_, _, _, _, _, _, _, _, _, rfl, _⟩ := h; rfl) | (obtain ⟨_, _, _, _, _, _, _, _, _, _, rfl, _⟩ := h; rfl) | (obtain ⟨_, _, _, _, _, _, _, _, _, _, _, rfl, _⟩ := h; rfl) | (obtain ⟨_, _, _, _, _, _, _, _, _, _, _, _, rfl, _⟩ := h; rfl) | (obtain ⟨_, _, _, _, _, _, _, _, _, _, _, _, _, rfl, _⟩ := h; rfl) | (obtain ⟨_, _, _, _, _, _, _, _, _, _, _, _, _, _, rfl, _⟩ := h; rfl)) 0 rfl fun f cdv A outer s H E ds d hr h => ?_
  obtain ⟨r, hr', rfl, rfl⟩ := h
  refine ⟨_, (pss_one (ps_ret (pe_callX G_words_of (hr.mono (by decide)) (by rfl) (pa_cons (pv 0) (pa_cons (pe_tup (pa_cons (pe_int) (pa_cons (pe_tup (pa_cons (pe_tup (pa_cons (pe_callB (cr_lenK K rfl) (by rfl) T.b.len (by decide +kernel) (pa_cons (pv 0) pa_nil)) (pa_cons (pe_int) pa_nil))) pa_nil)) (pa_cons (pe_int) (pa_cons (pe_str) pa_nil))))) pa_nil))))), ?_⟩
  dsimp only [cxOf, List.map, List.replicate, List.cons_append, List.nil_append]
  refine st_ret (ev_is (ev_call (ea_cons (ev_var rfl) (ea_cons (ev_is (ev_tup (ea_cons ev_int (ea_cons (ev_tup (ea_cons (ev_tup (ea_cons (ev_cb (ea_cons (ev_var rfl) ea_nil) (cd_len (.inr rfl))) (ea_cons ev_int ea_nil))) ea_nil)) (ea_cons ev_int (ea_cons ev_str ea_nil))))) ?_) ea_nil)) ⟨r, single r.length, hr', single_win hr'.len, single_fits _, rfl, rfl⟩) ?_) rfl
  · rw [List.length_map]
    rfl
  · rw [single_words]
def R_law_by : List PD → PD → Prop := fun ds d => ∃ (r : List Int) (p w : Nat) (b : Bool), IsRow r ∧ p ≤ 4096 ∧ w ≤ 8 ∧ ds = [.list (r.map PyData.int), nD p, nD w, .str (ordS b)] ∧ d = .int (wordIn r p w b)
abbrev FN_law_by (P : Program) (w : World) (K : PySem.W.Frag) (mg : Str → Option Value) (base : Heap) : Prop := FnX P w K mg base "_law_by" ["_law_single", "_law_place", "_law_width", "_law_order"] 1 (spD K R_law_by)
theorem ok_law_by (T : Top K mg wa oa da) (F : TopF K mg "_law_by" s_law_by ["_law_single", "_law_place", "_law_width", "_law_order"])  : FN_law_by P w K mg base := by
  refine fx_pure F sc_law_by (fun ds d h => by first | (obtain ⟨_, rfl, _⟩ := h; rfl) | (obtain ⟨_, _, rfl, _⟩ := h; rfl) | (obtain ⟨_, _, _, rfl, _⟩ := h; rfl) | (obtain ⟨_, _, _, _, rfl, _⟩ := h; rfl) | (obtain ⟨_, _, _, _, _, rfl, _⟩ := h; rfl) | (obtain ⟨_, _, _, _, _, _, rfl, _⟩ := h; rfl) | (obtain ⟨_, _, _, _, _, _, _, rfl, _⟩ := h; rfl) | (obtain ⟨_, _, _, _, _, _, _, _, rfl, _⟩ := h; rfl) | (obtain ⟨_, _, _, _, _, _, _, _, _, rfl, _⟩ := h; rfl) | (obtain ⟨_, _, _, _, _, _, _, _, _, _, rfl, _⟩ := h; rfl) | (obtain ⟨_, _, _, _, _, _, _, _, _, _, _, rfl, _⟩ := h; rfl) | (obtain ⟨_, _, _, _, _, _, _, _, _, _, _, _, rfl, _⟩ := h; rfl) | (obtain ⟨_, _, _, _, _, _, _, _, _, _, _, _, _, rfl, _⟩ := h; rfl) | (obtain ⟨_, _, _, _, _, _, _, _, _, _, _, _, _, _, rfl, _⟩ := h; rfl)) 3 rfl fun f cdv A outer s H E ds d hr h => ?_
  obtain ⟨r, p, b, o, hr', hp, hb, rfl, rfl⟩ := h
  refine ⟨_, (pss_cons (ps_set (i := 4) sc_law_by.nd rfl (Or.inl rfl) (pe_slice (sl_listK K rfl) (pv 0) (po_some (pv 1)) (po_some (pe_op op_add (pv 1) (pv 2)))))
      (pss_one (ps_ret (pe_callB (cr_sumK K rfl rfl) (by rfl) T.b.sum (by decide +kernel) (pa_cons (pe_lc (own := [("_law_k", 5), ("_law_byte", 6)]) (tt := tYes) rfl sc_law_by.nd (pi_enumK K rfl (by rfl) T.b.enumerate (pa_cons (pe_ifExp (pt_cmpR op_eq (pv 3) (pe_str) (nomark _)) (pv 4) (pe_revLK K rfl (pv 4))) pa_nil)) (blkOk_by (N := ["_law_single", "_law_place", "_law_width", "_law_order", "_law_some", "_law_k", "_law_byte"]) (sc := defScope s_law_by) (by decide +kernel)) (fun _ _ _ _ _ => (pg_tupK K rfl (n := 2) rfl (pgs_cons (pg_name (i := 5) sc_law_by.nd rfl (Or.inl rfl)) (pgs_cons (pg_name (i := 6) sc_law_by.nd rfl (Or.inl rfl)) pgs_nil)))) (fun _ _ _ _ _ => pts_nil) (fun _ _ _ _ _ => (pe_op op_shl (pv 6) (pe_op op_mul (pe_int) (pv 5))))) pa_nil))))), ?_⟩
  dsimp only [cxOf, List.map, List.replicate, List.cons_append, List.nil_append]
  refine st_set (d := .list ((cutB r p b).map PyData.int)) (ev_is (el_d (el_slL (lo := some (p : Int)) (hi := some ((p : Int) + (b : Int))) (ev_var rfl) (eo_some (ev_var rfl)) (eo_some (ev_op (ev_var rfl) (ev_var rfl) rd_I0)))) ?_) ?_
  · rw [show (p : Int) + (b : Int) = ((p + b : Nat) : Int) by omega, cutP_mid, cutB, List.map_take, List.map_drop, Nat.add_sub_cancel_left]
  have hX : ∀ x ∈ (if o then cutB r p b else (cutB r p b).reverse), 0 ≤ x ∧ x ≤ 255 := fun x hx => by
    have h1 : x ∈ cutB r p b := by
      split at hx
      · exact hx
      · exact List.mem_reverse.mp hx
    exact hr'.byte x (List.mem_of_mem_drop (List.mem_of_mem_take h1))
  have hXl : (if o then cutB r p b else (cutB r p b).reverse).length ≤ 8 := by
    have h1 : (cutB r p b).length ≤ b := by unfold cutB; rw [List.length_take]; omega
    split
    · omega
    · rw [List.length_reverse]; omega
  have hXe : EvD K [] [Sl.val (.list (r.map PyData.int)), .val (nD p), .val (nD b), .val (.str (ordS o)), .val (.list ((cutB r p b).map PyData.int)), .no, .no] (tIf (tTest (tOp rEq (tVar 3) (tC (.str "low")))) (tVar 4) (tRevL K (tVar 4))) (.list ((if o then cutB r p b else (cutB r p b).reverse).map PyData.int)) := by
    refine ev_if (b := o) (et_is (et_test (ev_op (ev_var rfl) ev_str rd_eqS)) (ordS_low _)) (fun hb => ?_) (fun hb => ?_)
    · rw [hb, if_pos rfl]
      exact ev_var rfl
    · rw [hb, if_neg Bool.false_ne_true, List.map_reverse]
      exact el_d (el_revL (ev_var rfl))
  have hw := wordIn_low r p b o
  generalize (if o then cutB r p b else (cutB r p b).reverse) = X at hX hXl hXe hw
  refine st_ret (ev_is (ev_cb (ea_cons (el_d (el_map (xs := X.zipIdx) (enc := fun q => PyData.tuple [nD q.2, .int q.1]) (fun q => PyData.int (q.1 * 2 ^ (8 * q.2))) ?_ ?_ fun a ha => ⟨_, _, gd_tup (gds_cons gd_name (gds_cons gd_name gds_nil)), by decide, ?_⟩)) ea_nil) cd_sumM) ?_) rfl
  · rw [← enumD_idx PyData.int]
    exact it_enum (ea_cons hXe ea_nil)
  · rw [List.length_zipIdx]
    omega
  · have hm := List.mem_zipIdx_iff_getElem?.mp ha
    obtain ⟨h1, h2⟩ := List.getElem?_eq_some_iff.mp hm
    have h3 := hX a.1 (List.mem_of_getElem? hm)
    refine ev_is (ev_op (ev_var rfl) (ev_op ev_int (ev_var rfl) (rd_I ?_)) (rd_I (g := fun i j => i * 2 ^ j.toNat) ?_)) ?_
    · exact .inl ⟨by decide, by decide⟩
    · exact ⟨by omega, by omega, by omega⟩
    · show PyData.int _ = PyData.int _
      rw [show (8 * (a.2 : Int)).toNat = 8 * a.2 by omega]
  · rw [lowSum_idx X 0, hw]
    show PyData.int (1 * lowSum X) = _
    rw [Int.one_mul]
def R_flat (n : Nat) : List PD → PD → Prop := fun ds d => ∃ (cs : List Nat) (xs : List Int), cs.length ≤ n ∧ (∀ c ∈ cs, 0 < c ∧ c ≤ 4096) ∧ prodN cs ≤ 4096 ∧ xs.length = prodN cs ∧ ds = [nest xs cs, nD cs.length] ∧ d = .list (xs.map PyData.int)
abbrev FN_flat (P : Program) (w : World) (K : PySem.W.Frag) (mg : Str → Option Value) (base : Heap) (n : Nat) : Prop := FnX P w K mg base "_law_flat" ["_law_table", "_law_deep"] (n + 1) (spD K (R_flat n))
theorem ok_flat (T : Top K mg wa oa da) (F : TopF K mg "_law_flat" s_law_flat ["_law_table", "_law_deep"]) : ∀ n, FN_flat P w K mg base n
  | 0 => by
    refine fx_pure F sc_law_flat (fun ds d h => by obtain ⟨_, _, _, _, _, _, rfl, _⟩ := h; rfl) 1 rfl fun f cdv A outer s H E ds d hr h => ?_
    obtain ⟨cs, xs, hn, hc, hp, hl, rfl, rfl⟩ := h
    have e : cs = [] := List.length_eq_zero_iff.mp (by omega)
    subst e
    refine ⟨_, (pss_cons (ps_if (pt_cmpR op_eq (pv 1) (pe_int) (nomark _))
        (pss_one (ps_ret (pe_lst (pa_cons (pv 0) pa_nil))))
        pss_nil)
      pss_never), ?_⟩
    dsimp only [cxOf, List.map, List.replicate, List.cons_append, List.nil_append]
    refine st_ifT (b := true) (et_is (et_test (ev_op (ev_var rfl) ev_int rd_eqI)) rfl) rfl (st_assoc (st_retS (ev_lst (ea_cons (ev_var rfl) ea_nil)) ?_))
    have hl' : xs.length = 1 := hl
    obtain ⟨x, rfl⟩ := List.length_eq_one_iff.mp hl'
    rfl
  | n + 1 => by
    have G_law_flat := ok_flat T F n
    refine fx_pure F sc_law_flat (fun ds d h => by obtain ⟨_, _, _, _, _, _, rfl, _⟩ := h; rfl) 1 rfl fun f cdv A outer s H E ds d hr h => ?_
    obtain ⟨cs, xs, hn, hc, hp, hl, rfl, rfl⟩ := h
    refine ⟨_, (pss_cons (ps_if (pt_cmpR op_eq (pv 1) (pe_int) (nomark _))
        (pss_one (ps_ret (pe_lst (pa_cons (pv 0) pa_nil))))
        pss_nil)
      (pss_one (ps_ret (pe_callB (cr_sumLK K rfl rfl) (by rfl) T.b.sum (by decide +kernel) (pa_cons (pe_lc (own := [("_law_one", 2)]) (tt := tYes) rfl sc_law_flat.nd (pi_listK K rfl (pv 0)) (blkOk_by (N := ["_law_table", "_law_deep", "_law_one"]) (sc := defScope s_law_flat) (by decide +kernel)) (fun _ _ _ _ _ => (pg_name (i := 2) sc_law_flat.nd rfl (Or.inl rfl))) (fun _ _ _ _ _ => pts_nil) (fun _ _ _ _ _ => (pe_callX G_law_flat (hr.mono (by omega)) (by rfl) (pa_cons (pv 2) (pa_cons (pe_op op_sub (pv 1) (pe_int)) pa_nil))))) (pa_cons (pe_lst pa_nil) pa_nil)))))), ?_⟩
    dsimp only [cxOf, List.map, List.replicate, List.cons_append, List.nil_append]
    cases cs with
    | nil =>
      refine st_ifT (b := true) (et_is (et_test (ev_op (ev_var rfl) ev_int rd_eqI)) rfl) rfl (st_assoc (st_retS (ev_lst (ea_cons (ev_var rfl) ea_nil)) ?_))
      have hl' : xs.length = 1 := hl
      obtain ⟨x, rfl⟩ := List.length_eq_one_iff.mp hl'
      rfl
    | cons c cs =>
      have hc0 := hc c (List.mem_cons_self ..)
      have hcs : ∀ x ∈ cs, 0 < x ∧ x ≤ 4096 := fun x hx => hc x (List.mem_cons_of_mem _ hx)
      have hpc : prodN (c :: cs) = c * prodN cs := prodN_cons _ _
      have hm : prodN cs ≤ 4096 := by
        have : prodN cs ≤ c * prodN cs := Nat.le_mul_of_pos_left _ hc0.1
        omega
      refine st_guard (et_test (ev_op (ev_var rfl) ev_int rd_eqI)) ?_ ?_
      · apply decide_eq_false
        rw [List.length_cons]
        omega
      have hch := chunks (prodN cs) c xs (by rw [hl, hpc])
      have hfl : ((List.range c).map fun i => ((xs.drop (prodN cs * i)).take (prodN cs)).map PyData.int).flatten = xs.map PyData.int := by
        rw [← hch, List.map_flatten, List.map_map, hch]
        rfl
      refine st_ret (ev_is (ev_sumL (dss := (List.range c).map fun i => ((xs.drop (prodN cs * i)).take (prodN cs)).map PyData.int) (ev_is (el_d (el_map (xs := List.range c) (enc := fun i => nest ((xs.drop (prodN cs * i)).take (prodN cs)) cs) (fun i => PyData.list (((xs.drop (prodN cs * i)).take (prodN cs)).map PyData.int)) (it_list (ev_var rfl)) ?_ fun i hi => ⟨_, _, gd_name, by decide, ?_⟩)) ?_) ?_) ?_) rfl
      · rw [List.length_range]; omega
      · have hi' := List.mem_range.mp hi
        have hb := cut_lt (m := prodN cs) hi'
        refine ev_call (ea_cons (ev_var rfl) (ea_cons (ev_op (ev_var rfl) ev_int rd_I0) ea_nil)) ⟨cs, (xs.drop (prodN cs * i)).take (prodN cs), ?_, hcs, hm, ?_, ?_, rfl⟩
        · rw [List.length_cons] at hn
          omega
        · rw [List.length_take, List.length_drop]
          omega
        · rw [List.length_cons, nD, show ((cs.length + 1 : Nat) : Int) - 1 = (cs.length : Int) by omega]
      · rw [List.map_map]
        rfl
      · rw [hfl, List.length_map]
        omega
      · rw [hfl]
end
end K37

set_option Elab.async false
set_option linter.all false
set_option maxRecDepth 100000
set_option maxHeartbeats 4000000
namespace K37
open PySem PySem.Spec PyProof.Rows L2 RZ
local macro_rules | `(tactic| walk_at "ev") => `(tactic| first
  | with_reducible exact ev_int
  | with_reducible exact ev_str
  | with_reducible exact ev_bl
  | with_reducible exact ev_non
  | exact ev_var rfl
  | with_reducible exact ea_nil
  | with_reducible apply ea_cons
  | with_reducible apply ev_isiI
  | with_reducible apply ev_isiB
  | with_reducible apply ev_isiT
  | with_reducible apply ev_isiS
  | with_reducible apply ev_isiL
  | with_reducible apply ev_chain
  | with_reducible apply ev_andV
  | with_reducible apply ev_orV
  | with_reducible apply ev_notV
  | with_reducible apply ev_kdI
  | with_reducible apply ev_op
  | with_reducible apply ev_un
  | with_reducible exact rd_B0
  | with_reducible exact rd_I0
  | with_reducible apply rd_I
  | with_reducible exact ud_neg
  | with_reducible exact rd_eqI
  | with_reducible exact rd_neI
  | with_reducible exact rd_eqS
  | with_reducible exact rd_isN
  | exact rd_ixT rfl
  | exact rd_ixL rfl
  | with_reducible apply ev_call
  | with_reducible apply ev_cb
  | exact cd_len (.inl rfl)
  | exact cd_len (.inr rfl)
  | with_reducible exact cd_abs
  | with_reducible exact cd_max
  | with_reducible exact cd_min
  | with_reducible exact cd_intB
  | with_reducible exact cd_tuple
  | with_reducible exact cd_allM
  | with_reducible exact cd_sumM
  | with_reducible apply ev_tup
  | with_reducible apply ev_lst
  | with_reducible apply ev_sl
  | with_reducible exact sd_tup
  | with_reducible exact eo_none
  | with_reducible apply eo_some
  | with_reducible apply ev_revT
  | with_reducible apply et_not
  | with_reducible apply et_and
  | with_reducible apply et_or
  | with_reducible apply et_test
  | with_reducible apply et_B
  | with_reducible exact et_yes
  | with_reducible exact gd_name
  | with_reducible apply gd_tup
  | with_reducible apply gds_cons
  | with_reducible exact gds_nil
  | with_reducible (exact Nat.le_of_ble_eq_true rfl)
  | (with_reducible show (_ : List PD → PD → Prop) _ _); assumption
  | with_reducible (refine fun (_ : _ = true) => ?_)
  | with_reducible (refine fun (_ : _ = false) => ?_))
/-! own rules -/
section
variable {K : PySem.W.Frag} {C : List Addr} {M Md : Ms} {ρ : List Sl} {ta tb te tc tl ty td : TE} {t u tt : TT} {dx dy d e : PD} {b : Bool} {r : R2} {N N1 : Ms → List Sl → Prop} {R : Ms → PD → Prop} {rest s1 s2 s3 : TS} {P P' : Ms → PD → Prop}
theorem st_seq (h : StD K C M ρ s1 N1 R) (k : ∀ M' ρ', N1 M' ρ' → StD K C M' ρ' rest N R) : StD K C M ρ (tSeq s1 rest) N R := .mk <| fun {H0 H10 H H1 σ} E D hn hr =>
  h E { D with nx := rest D } (fun M' ρ' H' H2 σ' n E' s => k M' ρ' n E' D (fun M3 ρ3 H3 H4 σ3 n3 E3 s3 => hn M3 ρ3 H3 H4 σ3 n3 E3 (s.trans s3)) (fun d3 M3 ρ3 v3 H3 H4 σ3 q E3 s3 p3 => hr d3 M3 ρ3 v3 H3 H4 σ3 q E3 (s.trans s3) p3)) hr
theorem ex_op (ha : EvX K C M ρ ta P) (h : ∀ M' dx, P M' dx → ∃ dy dz, EvD K M' ρ tb dy ∧ RD K r dx dy dz ∧ P' M' dz) : EvX K C M ρ (tOp r ta tb) P' := .mk <| fun {F _ _ _ _ _} E Q k =>
  ha.run E _ fun x dx M' Ha H1a hp Ea sa px => by
    obtain ⟨dy, dz, hb, hr, hz⟩ := h M' dx hp
    exact hb Ea (ins_app F M') _ fun y Hb H1b Eb sb py => hr Eb.sub (dp_mono sb px) py Q fun v H' H2 x p => k v _ M' H' H2 hz (Eb.grow x) ((sa.trans sb).trans x.known) p
/-- a, b, c, d, e = x, y, z, u, [] -/
theorem st_par5 {i1 i2 i3 i4 i5 : Nat} {t1 t2 t3 t4 : TE} {d1 d2 d3 d4 : PD} (h1 : EvD K M ρ t1 d1) (h2 : EvD K M ρ t2 d2) (h3 : EvD K M ρ t3 d3) (h4 : EvD K M ρ t4 d4)
    (k : ∀ p, p ∉ C → (∀ q ∈ M, q.1 ≠ p) → StD K C ((p, .lst []) :: M) (((((ρ.set i1 (.val d1)).set i2 (.val d2)).set i3 (.val d3)).set i4 (.val d4)).set i5 (.ml p)) rest N R) :
    StD K C M ρ (tSeq (tAsg (tTup (tCons t1 (tCons t2 (tCons t3 (tCons t4 (tCons (tLst tNil) tNil)))))) (gTup K 5 (gCons (gName i1) (gCons (gName i2) (gCons (gName i3) (gCons (gName i4) (gCons (gName i5) gNil))))))) rest) N R := .mk <| fun {H0 H10 H H1 σ} E D hn hr =>
  h1 E (Ins.refl M) _ fun v1 Ha H1a Ea sa p1 => h2 Ea (Ins.refl M) _ fun v2 Hb H1b Eb sb p2 => h3 Eb (Ins.refl M) _ fun v3 Hc H1c Ec sc p3 => h4 Ec (Ins.refl M) _ fun v4 Hd H1d Ed sd p4 => by
    refine ⟨Nat.zero_le _, fun p hp => ⟨(by show 5 ≤ sizeLine; decide), fun q hq => ?_⟩⟩
    have hne : ∀ q ∈ M, q.1 ≠ p := fun q hq z => (Ed.mem q hq).2.2.some (by rw [z]; exact hp)
    have hC : p ∉ C := fun hc => by
      obtain ⟨q, hq, e⟩ := List.mem_map.mp (Ed.cin p hc)
      exact hne q hq e
    have E1 := Ed.newM (o := .lst []) (m := .lst []) hp ⟨[], upd_same, .nil⟩
    have X := Ext.new (o := .tup [v1, v2, v3, v4, .ref p]) E1.sub hq
    have E2 := E1.grow X
    have S1 := (sb.trans (sc.trans (sd.trans X.known)))
    have E3 := ((((E2.setV (i := i1) (dp_mono S1 p1)).setV (i := i2) (dp_mono (sc.trans (sd.trans X.known)) p2)).setV (i := i3) (dp_mono (sd.trans X.known) p3)).setV (i := i4) (dp_mono X.known p4)).set (i := i5) (v := .ref p) (s := .ml p) rfl
    refine ⟨q, _, rfl, SqT.of upd_same, rfl, ⟨_, _, rfl, ⟨_, _, rfl, ⟨_, _, rfl, ⟨_, _, rfl, ⟨_, _, rfl, rfl, ?_⟩⟩⟩⟩⟩⟩
    have S := sa.trans S1
    exact k p hC hne E3 D (fun M' ρ' H'' H3 σ' n E'' s' => hn M' ρ' H'' H3 σ' n E'' (S.trans s')) (fun d' M' ρ' v' H'' H3 σ' q E'' s' p' => hr d' M' ρ' v' H'' H3 σ' q E'' (S.trans s') p')
theorem wk_rangeC {H : Hp} {lo c : Int} {n : Nat} : WkD K (Itc lo c n) H ((List.range n).map fun t : Nat => PyData.int (lo + (t : Int) * c)) := by
  have get : ∀ {i : Nat} {d : PD}, ((List.range n).map fun t : Nat => PyData.int (lo + (t : Int) * c))[i]? = some d → i < n ∧ d = .int (lo + (i : Int) * c) := fun {i d} h => by
    rw [List.getElem?_map] at h
    by_cases hi : i < n
    · rw [List.getElem?_range hi] at h
      exact ⟨hi, (Option.some.inj h).symm⟩
    · rw [List.getElem?_eq_none (by rw [List.length_range]; omega)] at h
      cases h
  exact ⟨fun i d H3 s3 e => (get e).1, fun i d Ha Hb x Hc sa sb e y => by
    obtain ⟨e1, e2⟩ := y
    subst e1 e2
    rw [(get e).2]
    exact ⟨Ha, Ext.refl sb, .int _⟩, fun H3 s3 => by rw [List.length_map, List.length_range]; exact Nat.le_refl _⟩
theorem it_range3 {ta : TA} {i j c : Int} {n : Nat} (ha : EvA K Md ρ ta [.int i, .int j, .int c]) (h : RgC i j c n) : ItD K Md ρ (iRng3 ta) ((List.range n).map fun t : Nat => PyData.int (i + (t : Int) * c)) := .mk <| fun E hi R k => ha E hi _ fun vs H' H2 E' s p => by
  cases p with
  | cons p1 p2 =>
    cases p2 with
    | cons p2 p3 =>
      cases p3 with
      | cons p3 p4 =>
        cases p4
        cases p1
        cases p2
        cases p3
        exact ⟨i, j, c, n, rfl, h, k _ H' H2 E' s wk_rangeC⟩
end
theorem rg3_ok : ∀ L : Fin 101, Builtin.Range.small 0 (L.val : Int) 3 = true ∧ Builtin.Range.rangeSize 0 (L.val : Int) 3 = (((L.val + 2) / 3 : Nat) : Int) := by decide +kernel
theorem rg3 {L : Nat} (h : L ≤ 100) : RgC 0 (L : Int) 3 ((L + 2) / 3) := by
  have := rg3_ok ⟨L, by omega⟩
  exact ⟨by decide, by decide, this.1, this.2⟩
section
variable {P : Program} {w : World} {K : PySem.W.Frag} {mg : Str → Option Value} {base : Heap} {wa oa da : Addr}
def Pre_law_cell : List PD → MO → Prop := fun ds m => ∃ (ns : List Int) (k : Nat), ns.length ≤ 63 ∧ k ≤ 900000 ∧ ds = [.list (ns.map PyData.int)] ∧ m = .lst [nD k]
def R_law_cell : List PD → MO → MO → PD → Prop := fun ds m m' d => ∃ (k : Nat) (x : Int), m = .lst [nD k] ∧ m' = .lst [nD (k + 1)] ∧ d = .int x ∧ 0 ≤ x ∧ x < 306783379
abbrev FN_law_cell (P : Program) (w : World) (K : PySem.W.Frag) (mg : Str → Option Value) (base : Heap) : Prop := FnX P w K mg base "_law_cell" ["_law_cells_here", "_law_spot"] 1 (spM K 1 Pre_law_cell R_law_cell)
def prime : Int := 170141183460469231731687303715884105727
def cellV (ns : List Int) (k : Nat) : Int := if 0 < ns.length then ns.getD (((k : Int) + 1) % (ns.length : Int)).toNat 0 % prime else 5
theorem cellV_fits (ns : List Int) (k : Nat) : 0 ≤ cellV ns k ∧ cellV ns k < prime := by
  unfold cellV
  split
  · exact ⟨Int.emod_nonneg _ (by decide), Int.emod_lt_of_pos _ (by decide)⟩
  · decide
theorem ok_law_cell (T : Top K mg wa oa da) (F : TopF K mg "_law_cell" s_law_cell ["_law_cells_here", "_law_spot"]) : FN_law_cell P w K mg base := by
  refine fx_mut F sc_law_cell (fun ds m h => by obtain ⟨_, _, _, _, rfl, _⟩ := h; rfl) 7 rfl fun f cdv A outer s H E p m ds hr h => ?_
  obtain ⟨ns, k, hns, hk, rfl, rfl⟩ := h
  refine ⟨_, (pss_cons (ps_asg (pe_op op_add (pe_ix (ix_listK K rfl) (pv 1) (pe_int) (fun _ _ => rfl)) (pe_int)) (pg_sub (pv 1) (pe_int) set_list))
      (pss_cons (ps_set (i := 2) sc_law_cell.nd rfl (Or.inl rfl) (pe_ix (ix_listK K rfl) (pv 1) (pe_int) (fun _ _ => rfl)))
      (pss_cons (ps_if (PW.pt (pw_and (pt_cmpR op_gt (pe_callB (cr_lenK K rfl) (by rfl) T.b.len (by decide +kernel) (pa_cons (pv 0) pa_nil)) (pe_int) (nomark _)) (pw_and (pt_cmpR op_ge (pe_ix (ix_listK K rfl) (pv 0) (pe_op op_mod (pv 2) (pe_callB (cr_lenK K rfl) (by rfl) T.b.len (by decide +kernel) (pa_cons (pv 0) pa_nil))) (fun _ _ => rfl)) (pe_op op_pow (pe_int) (pe_int)) (nomark _)) (pw_and1 (pt_cmpR op_lt (pe_op op_fdiv (pv 2) (pe_callB (cr_lenK K rfl) (by rfl) T.b.len (by decide +kernel) (pa_cons (pv 0) pa_nil))) (pe_int) (nomark _))))))
        (pss_cons (ps_set (i := 3) sc_law_cell.nd rfl (Or.inl rfl) (pe_ix (ix_listK K rfl) (pv 0) (pe_op op_mod (pv 2) (pe_callB (cr_lenK K rfl) (by rfl) T.b.len (by decide +kernel) (pa_cons (pv 0) pa_nil))) (fun _ _ => rfl)))
        (pss_cons (ps_for PassesOwn.never rfl (pi_range1 (by rfl) T.b.range (pa_cons (pe_op op_fdiv (pv 2) (pe_callB (cr_lenK K rfl) (by rfl) T.b.len (by decide +kernel) (pa_cons (pv 0) pa_nil))) pa_nil)) (pg_name (i := 4) sc_law_cell.nd rfl (Or.inl rfl))
          (pss_one (ps_set (i := 3) sc_law_cell.nd rfl (Or.inl rfl) (pe_op op_fdiv (pv 3) (pe_int)))))
        (pss_one (ps_if (pt_cmpR op_gt (pv 3) (pe_int) (nomark _))
          (pss_one (ps_ret (pe_op op_mod (pv 3) (pe_int))))
          pss_nil))))
        pss_nil)
      (pss_cons (ps_set (i := 5) sc_law_cell.nd rfl (Or.inl rfl) (pe_int))
      (pss_cons (ps_set (i := 6) sc_law_cell.nd rfl (Or.inl rfl) (pe_ifExp (pt_cmpR op_gt (pe_callB (cr_lenK K rfl) (by rfl) T.b.len (by decide +kernel) (pa_cons (pv 0) pa_nil)) (pe_int) (nomark _)) (pe_op op_mod (pe_ix (ix_listK K rfl) (pv 0) (pe_op op_mod (pv 2) (pe_callB (cr_lenK K rfl) (by rfl) T.b.len (by decide +kernel) (pa_cons (pv 0) pa_nil))) (fun _ _ => rfl)) (pv 5)) (pe_int)))
      (pss_cons (ps_set (i := 7) sc_law_cell.nd rfl (Or.inl rfl) (pe_op op_add (pe_int) (pe_op op_mul (pe_op op_mul (pe_int) (pv 2)) (pv 2))))
      (pss_cons (ps_set (i := 8) sc_law_cell.nd rfl (Or.inl rfl) (pe_op op_mod (pe_op op_mulW (pe_op op_add (pe_op op_add (pv 6) (pe_op op_mul (pe_int) (pv 2))) (pe_int)) (pv 7)) (pv 5)))
      (pss_cons (ps_set (i := 8) sc_law_cell.nd rfl (Or.inl rfl) (pe_op op_mod (pe_op op_mulW (pv 8) (pe_op op_add (pv 8) (pe_int))) (pv 5)))
      (pss_one (ps_ret (pe_op op_mod (pe_op op_fdivW (pv 8) (pe_int)) (pe_int)))))))))))), ?_⟩
  dsimp only [cxOf, List.map, List.replicate, List.cons_append, List.nil_append, insAt]
  refine st_put0 rfl (ev_is (d := .int ((k : Int) + 1)) (ev_op (ev_ixM rfl (List.mem_cons_self ..) ev_int rfl) ev_int rd_I0) (e := nD (k + 1)) rfl) ?_
  refine st_set (ev_ixM rfl (List.mem_cons_self ..) ev_int rfl) ?_
  have hix : ∀ (h : 0 < ns.length), 0 ≤ ((k + 1 : Nat) : Int) % (ns.length : Int) ∧ ((k + 1 : Nat) : Int) % (ns.length : Int) < ns.length := fun h => ⟨Int.emod_nonneg _ (by omega), Int.emod_lt_of_pos _ (by omega)⟩
  have hlen : (ns.map PyData.int).length = ns.length := List.length_map ..
  refine st_seq (N1 := fun M' ρ' => M' = [(p, .lst [nD (k + 1)])] ∧ ∃ s3 s4, ρ' = [.val (.list (ns.map PyData.int)), .ml p, .val (nD (k + 1)), s3, s4, .no, .no, .no, .no]) (st_one (st_if (et_and (et_test (ev_op (ev_cb (ea_cons (ev_var rfl) ea_nil) (cd_len (.inl rfl))) ev_int rd_B0)) fun h1 => et_and (et_test (ev_op (ev_op (ev_var rfl) (ev_op (ev_var rfl) (ev_cb (ea_cons (ev_var rfl) ea_nil) (cd_len (.inl rfl))) (rd_I ?_)) (rd_ixL (atI_ints ?_ ?_))) (ev_op ev_int ev_int (rd_I (g := fun i j => i ^ j.toNat) ?_)) rd_B0)) fun h2 => et_test (ev_op (ev_op (ev_var rfl) (ev_cb (ea_cons (ev_var rfl) ea_nil) (cd_len (.inl rfl))) (rd_I ?_)) ev_int rd_B0)) (fun hb => ?_) (fun hb => ?_))) ?_
  · rw [hlen] at h1 ⊢
    exact of_decide_eq_true h1
  · rw [hlen] at h1 ⊢
    exact (hix (by have := of_decide_eq_true h1; omega)).1
  · rw [hlen] at h1 ⊢
    exact (hix (by have := of_decide_eq_true h1; omega)).2
  · exact ⟨by decide, by decide, by decide⟩
  · rw [hlen] at h1 ⊢
    have := of_decide_eq_true h1
    exact ⟨by omega, by omega⟩
  · rw [Bool.and_eq_true, Bool.and_eq_true] at hb
    obtain ⟨h1, _, h3⟩ := hb
    rw [hlen] at h1 h3
    have h1 := of_decide_eq_true h1
    have h3 := of_decide_eq_true h3
    have h4 : 0 ≤ ((k + 1 : Nat) : Int) / (ns.length : Int) := Int.ediv_nonneg (by omega) (by omega)
    have hx := hix (by omega)
    refine st_assoc (st_set (ev_op (ev_var rfl) (ev_op (ev_var rfl) (ev_cb (ea_cons (ev_var rfl) ea_nil) (cd_len (.inl rfl))) (rd_I ?_)) (rd_ixL (atI_ints ?_ ?_))) (st_assoc ?_))
    · rw [hlen]; exact h1
    · rw [hlen]; exact hx.1
    · rw [hlen]; exact hx.2
    refine st_forT (xs := List.range (((k + 1 : Nat) : Int) / (ns.length : Int)).toNat) (enc := fun i : Nat => PyData.int (0 + (i : Int))) (fun i M' ρ' => M' = [(p, .lst [nD (k + 1)])] ∧ ∃ o s4, ρ' = [.val (.list (ns.map PyData.int)), .ml p, .val (nD (k + 1)), .val (.int o), s4, .no, .no, .no, .no]) ?_ ⟨rfl, _, _, rfl⟩ ?_ ?_
    · refine it_range1 (ea_cons (ev_is (ev_op (ev_var rfl) (ev_cb (ea_cons (ev_var rfl) ea_nil) (cd_len (.inl rfl))) (rd_I ?_)) ?_) ea_nil) ⟨by omega, by omega⟩
      · rw [hlen]; exact ⟨h1, by omega⟩
      · rw [hlen]
    · rintro i hi M' ρ' ⟨rfl, o, s4, rfl⟩
      refine ⟨_, _, gd_name, st_one (st_set (ev_op (ev_var rfl) ev_int (rd_I ?_)) (st_next ⟨rfl, _, _, rfl⟩))⟩
      exact ⟨by decide, by decide⟩
    · rintro M' ρ' ⟨rfl, o, s4, rfl⟩
      refine st_if (et_test (ev_op (ev_var rfl) ev_int rd_B0)) (fun hb => ?_) (fun hb => ?_)
      · refine st_assoc (st_retS (ev_op (ev_var rfl) ev_int (rd_I ?_)) ⟨_, List.mem_singleton.mpr rfl, k, _, rfl, rfl, rfl, Int.emod_nonneg _ (by decide), Int.emod_lt_of_pos _ (by decide)⟩)
        show (0 : Int) < 306783379
        decide
      · exact st_skip (st_skip (st_next ⟨rfl, _, _, rfl⟩))
  · exact st_skip (st_next ⟨rfl, _, _, rfl⟩)
  rintro M' ρ' ⟨rfl, s3, s4, rfl⟩
  refine st_set ev_int ?_
  refine st_set (d := .int (cellV ns k)) (ev_if (et_test (ev_op (ev_cb (ea_cons (ev_var rfl) ea_nil) (cd_len (.inl rfl))) ev_int rd_B0)) (fun hb => ?_) (fun hb => ?_)) ?_
  · rw [hlen] at hb
    have h1 := of_decide_eq_true hb
    have hx := hix (by omega)
    refine ev_is (ev_op (ev_op (ev_var rfl) (ev_op (ev_var rfl) (ev_cb (ea_cons (ev_var rfl) ea_nil) (cd_len (.inl rfl))) (rd_I ?_)) (rd_ixL (atI_ints ?_ ?_))) (ev_var rfl) (rd_I ?_)) ?_
    · rw [hlen]; exact h1
    · rw [hlen]; exact hx.1
    · rw [hlen]; exact hx.2
    · show (0 : Int) < 170141183460469231731687303715884105727
      decide
    · rw [cellV, if_pos (by omega), hlen]
      rfl
  · rw [hlen] at hb
    have h1 := of_decide_eq_false hb
    refine ev_is ev_int ?_
    rw [cellV, if_neg (by omega)]
  obtain ⟨hc0, hc1⟩ := cellV_fits ns k
  generalize cellV ns k = cv at hc0 hc1
  have hk2 : 0 ≤ (k : Int) ∧ (k : Int) ≤ 900000 := by omega
  refine st_set (d := .int (91520834467120936671528473920164857 + 2 * ((k + 1 : Nat) : Int) * ((k + 1 : Nat) : Int))) (ev_op ev_int (ev_op (ev_op ev_int (ev_var rfl) (rd_I ?_)) (ev_var rfl) (rd_I ?_)) rd_I0) ?_
  · exact .inl ⟨by decide, by decide⟩
  · exact .inr ⟨by omega, by omega⟩
  have ht0 : 0 ≤ 2 * ((k + 1 : Nat) : Int) * ((k + 1 : Nat) : Int) := Int.mul_nonneg (by omega) (by omega)
  have ht1 : 2 * ((k + 1 : Nat) : Int) * ((k + 1 : Nat) : Int) ≤ 2000000 * 1000000 := Int.mul_le_mul (by omega) (by omega) (by omega) (by omega)
  generalize 2 * ((k + 1 : Nat) : Int) * ((k + 1 : Nat) : Int) = tm at ht0 ht1
  have hprime : prime = 170141183460469231731687303715884105727 := rfl
  rw [hprime] at hc1
  refine st_set (d := .int ((cv + 7919 * ((k + 1 : Nat) : Int) + 11) * (91520834467120936671528473920164857 + tm) % 170141183460469231731687303715884105727)) (ev_op (ev_op (ev_op (ev_op (ev_var rfl) (ev_op ev_int (ev_var rfl) (rd_I ?_)) rd_I0) ev_int rd_I0) (ev_var rfl) (rd_I ?_)) (ev_var rfl) (rd_I ?_)) ?_
  · exact .inl ⟨by decide, by decide⟩
  · refine wide_mul (a := 128) (b := 128) ?_ ?_ (by decide) (by decide) (by decide)
    · show _ < 340282366920938463463374607431768211456
      omega
    · show _ < 340282366920938463463374607431768211456
      omega
  · show (0 : Int) < 170141183460469231731687303715884105727
    decide
  have hn0 := Int.emod_nonneg ((cv + 7919 * ((k + 1 : Nat) : Int) + 11) * (91520834467120936671528473920164857 + tm)) (show (170141183460469231731687303715884105727 : Int) ≠ 0 by decide)
  have hn1 := Int.emod_lt_of_pos ((cv + 7919 * ((k + 1 : Nat) : Int) + 11) * (91520834467120936671528473920164857 + tm)) (show (0 : Int) < 170141183460469231731687303715884105727 by decide)
  generalize (cv + 7919 * ((k + 1 : Nat) : Int) + 11) * (91520834467120936671528473920164857 + tm) % 170141183460469231731687303715884105727 = n1 at hn0 hn1
  refine st_set (d := .int (n1 * (n1 + 58203947561830297465018273645019283) % 170141183460469231731687303715884105727)) (ev_op (ev_op (ev_var rfl) (ev_op (ev_var rfl) ev_int rd_I0) (rd_I ?_)) (ev_var rfl) (rd_I ?_)) ?_
  · refine wide_mul (a := 128) (b := 128) ?_ ?_ (by decide) (by decide) (by decide)
    · show _ < 340282366920938463463374607431768211456
      omega
    · show _ < 340282366920938463463374607431768211456
      omega
  · show (0 : Int) < 170141183460469231731687303715884105727
    decide
  refine st_ret (ev_op (ev_op (ev_var rfl) ev_int (rd_I ?_)) ev_int (rd_I ?_)) ⟨_, List.mem_singleton.mpr rfl, k, _, rfl, rfl, rfl, Int.emod_nonneg _ (by decide), Int.emod_lt_of_pos _ (by decide)⟩
  · refine wide_div (b := 65) (by decide) ?_ (by decide) (by decide)
    decide
  · show (0 : Int) < 306783379
    decide
end
end K37

set_option Elab.async false
set_option linter.all false
set_option maxRecDepth 100000
set_option maxHeartbeats 4000000
namespace K37
open PySem PySem.Spec PyProof.Rows L2 RZ
local macro_rules | `(tactic| walk_at "ev") => `(tactic| first
  | with_reducible exact ev_int
  | with_reducible exact ev_str
  | with_reducible exact ev_bl
  | with_reducible exact ev_non
  | exact ev_var rfl
  | with_reducible exact ea_nil
  | with_reducible apply ea_cons
  | with_reducible apply ev_isiI
  | with_reducible apply ev_isiB
  | with_reducible apply ev_isiT
  | with_reducible apply ev_isiS
  | with_reducible apply ev_isiL
  | with_reducible apply ev_chain
  | with_reducible apply ev_andV
  | with_reducible apply ev_orV
  | with_reducible apply ev_notV
  | with_reducible apply ev_kdI
  | with_reducible apply ev_op
  | with_reducible apply ev_un
  | with_reducible exact rd_B0
  | with_reducible exact rd_I0
  | with_reducible apply rd_I
  | with_reducible exact ud_neg
  | with_reducible exact rd_eqI
  | with_reducible exact rd_neI
  | with_reducible exact rd_eqS
  | with_reducible exact rd_isN
  | exact rd_ixT rfl
  | exact rd_ixL rfl
  | with_reducible apply ev_call
  | with_reducible apply ev_cb
  | exact cd_len (.inl rfl)
  | exact cd_len (.inr rfl)
  | with_reducible exact cd_abs
  | with_reducible exact cd_max
  | with_reducible exact cd_min
  | with_reducible exact cd_intB
  | with_reducible exact cd_tuple
  | with_reducible exact cd_allM
  | with_reducible exact cd_sumM
  | with_reducible apply ev_tup
  | with_reducible apply ev_lst
  | with_reducible apply ev_sl
  | with_reducible exact sd_tup
  | with_reducible exact eo_none
  | with_reducible apply eo_some
  | with_reducible apply ev_revT
  | with_reducible apply et_not
  | with_reducible apply et_and
  | with_reducible apply et_or
  | with_reducible apply et_test
  | with_reducible apply et_B
  | with_reducible exact et_yes
  | with_reducible exact gd_name
  | with_reducible apply gd_tup
  | with_reducible apply gds_cons
  | with_reducible exact gds_nil
  | with_reducible (exact Nat.le_of_ble_eq_true rfl)
  | (with_reducible show (_ : List PD → PD → Prop) _ _); assumption
  | with_reducible (refine fun (_ : _ = true) => ?_)
  | with_reducible (refine fun (_ : _ = false) => ?_))
section
variable {P : Program} {w : World} {K : PySem.W.Frag} {mg : Str → Option Value} {base : Heap} {wa oa da : Addr}
def Pre_law_row : List PD → MO → Prop := fun ds m => ∃ (ns : List Int) (k L : Nat), ns.length ≤ 63 ∧ k ≤ 800000 ∧ L ≤ 100 ∧ ds = [.list (ns.map PyData.int), nD L] ∧ m = .lst [nD k]
def R_law_row : List PD → MO → MO → PD → Prop := fun ds m m' d => ∃ (k k' L : Nat) (x : PD) (r : List Int), m = .lst [nD k] ∧ m' = .lst [nD k'] ∧ k' ≤ k + 200 ∧ ds = [x, nD L] ∧ d = rowD r ∧ IsRow r ∧ r.length = L
abbrev FN_law_row (P : Program) (w : World) (K : PySem.W.Frag) (mg : Str → Option Value) (base : Heap) : Prop := FnX P w K mg base "_law_row" ["_law_cells_here", "_law_spot", "_law_length_here"] 2 (spM K 1 Pre_law_row R_law_row)
theorem atI_fin {α : Type} {l : List α} {i : Int} (h0 : 0 ≤ i) (h1 : i < l.length) : ∃ x ∈ l, atI l i = some x := by
  have h2 : i.toNat < l.length := by omega
  refine ⟨l[i.toNat], List.getElem_mem h2, ?_⟩
  have := atI_nat (List.getElem?_eq_getElem h2)
  rw [show ((i.toNat : Nat) : Int) = i by omega] at this
  exact this
theorem atI_map {α β : Type} {l : List α} {i : Int} {x : α} (f : α → β) (h : atI l i = some x) : atI (l.map f) i = some (f x) := by
  unfold atI at h ⊢
  rw [List.length_map]
  cases q : ixN l.length i with
  | none => rw [q] at h; cases h
  | some j =>
    rw [q] at h
    have h : l[j]? = some x := h
    show (List.map _ _)[j]? = _
    rw [List.getElem?_map, h]
    rfl
theorem ok_law_row (T : Top K mg wa oa da) (F : TopF K mg "_law_row" s_law_row ["_law_cells_here", "_law_spot", "_law_length_here"]) (G_law_cell : FN_law_cell P w K mg base) : FN_law_row P w K mg base := by
  refine fx_mut F sc_law_row (fun ds m h => by obtain ⟨_, _, _, _, _, _, rfl, _⟩ := h; rfl) 6 rfl fun f cdv A outer s H E p m ds hr h => ?_
  obtain ⟨ns, k, L, hns, hk, hL, rfl, rfl⟩ := h
  refine ⟨_, (pss_cons (ps_par (i := 3) (j := 4) rfl sc_law_row.nd rfl rfl (by decide) rfl rfl (pa_cons (pe_op op_mod (pe_callX G_law_cell (hr.mono (by decide)) (by rfl) (pa_cons (pv 0) (pa_cons (pv 1) pa_nil))) (pe_int)) (pa_cons (pe_lst pa_nil) pa_nil)) (by rfl))
      (pss_cons (ps_for PassesOwn.never rfl (pi_range3 (by rfl) T.b.range (pa_cons (pe_int) (pa_cons (pv 2) (pa_cons (pe_int) pa_nil)))) (pg_name (i := 5) sc_law_row.nd rfl (Or.inl rfl))
        (pss_cons (ps_set (i := 6) sc_law_row.nd rfl (Or.inl rfl) (pe_callX G_law_cell (hr.mono (by decide)) (by rfl) (pa_cons (pv 0) (pa_cons (pv 1) pa_nil))))
        (pss_one (ps_expr (pe_bm PySem.F.plainAttrs_list PySem.F.slot_list_extend PySem.F.type_list_extend mt_extend (pv 4) (pa_cons (pe_lst (pa_cons (pe_op op_mod (pv 6) (pe_int)) (pa_cons (pe_op op_mod (pe_op op_fdiv (pv 6) (pe_int)) (pe_int)) (pa_cons (pe_op op_mod (pe_op op_fdiv (pv 6) (pe_int)) (pe_int)) pa_nil)))) pa_nil))))))
      (pss_cons (ps_set (i := 4) sc_law_row.nd rfl (Or.inl rfl) (pe_slice (sl_listK K rfl) (pv 4) po_none (po_some (pv 2))))
      (pss_cons (ps_setLc (i := 7) (own := [("_law_byte", 8)]) (tt := tYes) rfl sc_law_row.nd rfl rfl (sw_true rfl rfl rfl (by decide +kernel)) (pi_listK K rfl (pv 4)) (blkOk_by (N := ["_law_cells_here", "_law_spot", "_law_length_here", "_law_way", "_law_found", "_law_k", "_law_n", "_law_few", "_law_byte"]) (sc := defScope s_law_row) (by decide +kernel)) (fun _ _ _ _ _ => (pg_name (i := 8) sc_law_row.nd rfl (Or.inl rfl))) (fun _ _ _ _ _ => pts_nil) (fun _ _ _ _ _ => (pe_ix (ix_listK K rfl) (pe_lst (pa_cons (pe_int) (pa_cons (pe_int) (pa_cons (pe_int) (pa_cons (pe_int) pa_nil))))) (pe_op op_mod (pv 8) (pe_int)) (fun _ _ => rfl))))
      (pss_one (ps_ret (pe_callTy (cr_tupleK K rfl) (by rfl) T.b.tuple (by decide +kernel) (pa_cons (pe_ix (ix_listK K rfl) (pe_lst (pa_cons (pe_op op_rep (pe_lst (pa_cons (pe_int) pa_nil)) (pv 2)) (pa_cons (pe_op op_rep (pe_lst (pa_cons (pe_int) pa_nil)) (pv 2)) (pa_cons (pv 7) (pa_cons (pv 4) (pa_cons (pv 4) (pa_cons (pv 4) pa_nil))))))) (pv 3) (fun _ _ => rfl)) pa_nil)))))))), ?_⟩
  dsimp only [cxOf, List.map, List.replicate, List.cons_append, List.nil_append, insAt]
  refine st_parNewX (P := fun M' d => ∃ x : Int, M' = [(p, .lst [nD (k + 1)])] ∧ d = .int (x % 6)) (ex_op (ex_call (eam_cons (ev_var rfl) (eam_here rfl ea_nil)) ⟨ns, k, hns, by omega, rfl, rfl⟩) ?_) ?_
  · rintro M' dx ⟨m', ⟨k0, x, e1, rfl, rfl, _⟩, rfl⟩
    have e1 : k = k0 := by
      have := MO.lst.inj e1
      have := PyData.int.inj (List.head_eq_of_cons_eq this)
      omega
    subst e1
    refine ⟨_, _, ev_int, rd_I ?_, x, rfl, rfl⟩
    show (0 : Int) < 6
    decide
  rintro M' d fp ⟨way, rfl, rfl⟩ hfp hfq
  have hfp1 : p ≠ fp := hfq _ (List.mem_singleton.mpr rfl)
  have hw0 := Int.emod_nonneg way (show (6 : Int) ≠ 0 by decide)
  have hw1 := Int.emod_lt_of_pos way (show (0 : Int) < 6 by decide)
  generalize way % 6 = wy at hw0 hw1
  refine st_forT (xs := List.range ((L + 2) / 3)) (enc := fun t : Nat => PyData.int (0 + (t : Int) * 3)) (fun i M' ρ' => ∃ (k' : Nat) (bs : List Int) (s5 s6 : Sl), k' ≤ k + 1 + i ∧ bs.length = 3 * i ∧ (∀ x ∈ bs, 0 ≤ x ∧ x ≤ 255) ∧ M' = [(fp, .lst (bs.map PyData.int)), (p, .lst [nD k'])] ∧
    ρ' = [.val (.list (ns.map PyData.int)), .ml p, .val (nD L), .val (.int wy), .ml fp, s5, s6, .no, .no]) (it_range3 (ea_cons ev_int (ea_cons (ev_var rfl) (ea_cons ev_int ea_nil))) (rg3 hL)) ⟨k + 1, [], .no, .no, by omega, rfl, (fun x h => nomatch h), rfl, rfl⟩ ?_ ?_
  · rintro i hi M' ρ' ⟨k', bs, s5, s6, hk', hbl, hbb, rfl, rfl⟩
    rw [List.length_range] at hi
    refine ⟨_, _, gd_name, ?_⟩
    refine st_perm (List.Perm.swap _ _ _) (st_setX (ex_call (eam_cons (ev_var rfl) (eam_here rfl ea_nil)) ⟨ns, k', hns, by omega, rfl, rfl⟩) ?_)
    rintro M' dx ⟨m', ⟨k0, x, e1, rfl, rfl, hx0, hx1⟩, rfl⟩
    have e1 : k' = k0 := by
      have := MO.lst.inj e1
      have := PyData.int.inj (List.head_eq_of_cons_eq this)
      omega
    subst e1
    refine st_perm (List.Perm.swap _ _ _) (st_one (st_ext (es := [x % 256, x / 256 % 256, x / 65536 % 256].map PyData.int) rfl (el_lst (ea_cons (ev_op (ev_var rfl) ev_int (rd_I ?_)) (ea_cons (ev_op (ev_op (ev_var rfl) ev_int (rd_I ?_)) ev_int (rd_I ?_)) (ea_cons (ev_op (ev_op (ev_var rfl) ev_int (rd_I ?_)) ev_int (rd_I ?_)) ea_nil)))) ?_ (st_next ⟨k' + 1, bs ++ [x % 256, x / 256 % 256, x / 65536 % 256], _, _, by omega, ?_, ?_, ?_, rfl⟩)))
    · show (0 : Int) < 256
      decide
    · exact ⟨by decide, by decide⟩
    · show (0 : Int) < 256
      decide
    · exact ⟨by decide, by decide⟩
    · show (0 : Int) < 256
      decide
    · rw [List.length_map, hbl]
      show 3 * i + 3 ≤ 100000
      omega
    · rw [List.length_append, hbl]
      show 3 * i + 3 = 3 * (i + 1)
      omega
    · intro y hy
      rcases List.mem_append.mp hy with hy | hy
      · exact hbb y hy
      · simp only [List.mem_cons, List.not_mem_nil, or_false] at hy
        rcases hy with rfl | rfl | rfl <;> omega
    · rw [List.map_append]
  · rintro M' ρ' ⟨k', bs, s5, s6, hk', hbl, hbb, rfl, rfl⟩
    rw [List.length_range] at hk' hbl
    refine st_freeze (i := 4) rfl hfp ?_
    refine st_set (d := .list ((bs.take L).map PyData.int)) (ev_is (el_d (el_slL (lo := none) (hi := some (L : Int)) (ev_var rfl) eo_none (eo_some (ev_var rfl)))) (by rw [cutP_to, List.map_take])) ?_
    have htl : (bs.take L).length = L := by
      rw [List.length_take]
      omega
    have htb : ∀ x ∈ bs.take L, 0 ≤ x ∧ x ≤ 255 := fun x hx => hbb x (List.mem_of_mem_take hx)
    generalize bs.take L = fs at htl htb
    refine st_set (d := .list ((fs.map fun b => [0, 255, 1, 128].getD (b % 4).toNat 0).map PyData.int)) (ev_is (el_d (el_map (xs := fs) (enc := PyData.int) (fun b => PyData.int ([0, 255, 1, 128].getD (b % 4).toNat 0)) (it_list (ev_var rfl)) (by omega) fun a ha => ⟨_, _, gd_name, by decide, ?_⟩)) ?_) ?_
    · refine ev_op (dx := .list (([0, 255, 1, 128] : List Int).map PyData.int)) (ev_lst (ea_cons ev_int (ea_cons ev_int (ea_cons ev_int (ea_cons ev_int ea_nil))))) (ev_op (ev_var rfl) ev_int (rd_I ?_)) (rd_ixL (atI_ints ?_ ?_))
      · show (0 : Int) < 4
        decide
      · omega
      · show a % 4 < ((4 : Nat) : Int)
        omega
    · rw [List.map_map]
      rfl
    have hel : ∀ (rs : List Int), rs ∈ [List.replicate L 0, List.replicate L 255, fs.map fun b => [0, 255, 1, 128].getD (b % 4).toNat 0, fs, fs, fs] → IsRow rs ∧ rs.length = L := by
      intro rs h
      have hfew : ∀ b : Int, (0 : Int) ≤ [0, 255, 1, 128].getD (b % 4).toNat 0 ∧ [0, 255, 1, 128].getD (b % 4).toNat 0 ≤ (255 : Int) := fun b =>
        getD_all (P := fun x => 0 ≤ x ∧ x ≤ 255) (fun x hx => by
          simp only [List.mem_cons, List.not_mem_nil, or_false] at hx
          rcases hx with rfl | rfl | rfl | rfl <;> omega) (by show (b % 4).toNat < 4; omega)
      simp only [List.mem_cons, List.not_mem_nil, or_false] at h
      have key : ∀ rs : List Int, rs.length = L → (∀ x ∈ rs, 0 ≤ x ∧ x ≤ 255) → IsRow rs ∧ rs.length = L := fun rs h1 h2 => ⟨⟨by omega, h2⟩, h1⟩
      rcases h with rfl | rfl | rfl | rfl | rfl | rfl
      · exact key _ List.length_replicate fun x hx => by rw [List.eq_of_mem_replicate hx]; omega
      · exact key _ List.length_replicate fun x hx => by rw [List.eq_of_mem_replicate hx]; omega
      · exact key _ (by rw [List.length_map, htl]) fun x hx => by
          obtain ⟨b, _, rfl⟩ := List.mem_map.mp hx
          exact hfew b
      · exact key _ htl htb
      · exact key _ htl htb
      · exact key _ htl htb
    have hrep : ∀ a : Int, (List.replicate (L : Int).toNat [PyData.int a]).flatten = (List.replicate L a).map PyData.int := fun a => by
      rw [Int.toNat_natCast, List.flatten_replicate_singleton, List.map_replicate]
    obtain ⟨rs, hrs, hat⟩ := atI_fin (l := [List.replicate L 0, List.replicate L 255, fs.map fun b => [0, 255, 1, 128].getD (b % 4).toNat 0, fs, fs, fs]) hw0 (by show wy < ((6 : Nat) : Int); omega)
    have hat2 : atI ([List.replicate L 0, List.replicate L 255, fs.map fun b => [0, 255, 1, 128].getD (b % 4).toNat 0, fs, fs, fs].map fun r : List Int => PyData.list (r.map PyData.int)) wy = some (.list (rs.map PyData.int)) :=
      atI_map (fun r : List Int => PyData.list (r.map PyData.int)) hat
    obtain ⟨hr1, hr2⟩ := hel rs hrs
    refine st_ret (ev_cb (ea_cons (ev_op (dx := .list ([List.replicate L 0, List.replicate L 255, fs.map fun b => [0, 255, 1, 128].getD (b % 4).toNat 0, fs, fs, fs].map fun r : List Int => PyData.list (r.map PyData.int))) (ev_lst (ea_cons (ev_is (el_d (el_rep (el_lst (ea_cons ev_int ea_nil)) (ev_var rfl) ?_ ?_ ?_)) (congrArg PyData.list (hrep 0))) (ea_cons (ev_is (el_d (el_rep (el_lst (ea_cons ev_int ea_nil)) (ev_var rfl) ?_ ?_ ?_)) (congrArg PyData.list (hrep 255))) (ea_cons (ev_var rfl) (ea_cons (ev_var rfl) (ea_cons (ev_var rfl) (ea_cons (ev_var rfl) ea_nil))))))) (ev_var rfl) (rd_ixL hat2)) ea_nil) cd_tuple) ⟨_, List.mem_singleton.mpr rfl, k, k', L, _, rs, rfl, rfl, by omega, rfl, rfl, hr1, hr2⟩
    · omega
    · omega
    · decide
    · omega
    · omega
    · decide
end
end K37

set_option Elab.async false
set_option linter.all false
set_option maxRecDepth 100000
set_option maxHeartbeats 4000000
namespace K37
open PySem PySem.Spec PyProof.Rows L2 RZ
local macro_rules | `(tactic| walk_at "ev") => `(tactic| first
  | with_reducible exact ev_int
  | with_reducible exact ev_str
  | with_reducible exact ev_bl
  | with_reducible exact ev_non
  | exact ev_var rfl
  | with_reducible exact ea_nil
  | with_reducible apply ea_cons
  | with_reducible apply ev_isiI
  | with_reducible apply ev_isiB
  | with_reducible apply ev_isiT
  | with_reducible apply ev_isiS
  | with_reducible apply ev_isiL
  | with_reducible apply ev_chain
  | with_reducible apply ev_andV
  | with_reducible apply ev_orV
  | with_reducible apply ev_notV
  | with_reducible apply ev_kdI
  | with_reducible apply ev_op
  | with_reducible apply ev_un
  | with_reducible exact rd_B0
  | with_reducible exact rd_I0
  | with_reducible apply rd_I
  | with_reducible exact ud_neg
  | with_reducible exact rd_eqI
  | with_reducible exact rd_neI
  | with_reducible exact rd_eqS
  | with_reducible exact rd_isN
  | exact rd_ixT rfl
  | exact rd_ixL rfl
  | with_reducible apply ev_call
  | with_reducible apply ev_cb
  | exact cd_len (.inl rfl)
  | exact cd_len (.inr rfl)
  | with_reducible exact cd_abs
  | with_reducible exact cd_max
  | with_reducible exact cd_min
  | with_reducible exact cd_intB
  | with_reducible exact cd_tuple
  | with_reducible exact cd_allM
  | with_reducible exact cd_sumM
  | with_reducible apply ev_tup
  | with_reducible apply ev_lst
  | with_reducible apply ev_sl
  | with_reducible exact sd_tup
  | with_reducible exact eo_none
  | with_reducible apply eo_some
  | with_reducible apply ev_revT
  | with_reducible apply et_not
  | with_reducible apply et_and
  | with_reducible apply et_or
  | with_reducible apply et_test
  | with_reducible apply et_B
  | with_reducible exact et_yes
  | with_reducible exact gd_name
  | with_reducible apply gd_tup
  | with_reducible apply gds_cons
  | with_reducible exact gds_nil
  | with_reducible (exact Nat.le_of_ble_eq_true rfl)
  | (with_reducible show (_ : List PD → PD → Prop) _ _); assumption
  | with_reducible (refine fun (_ : _ = true) => ?_)
  | with_reducible (refine fun (_ : _ = false) => ?_))
theorem pick_width {i : Int} (h0 : 0 ≤ i) (h1 : i < 4) : ∃ w : Nat, (w = 1 ∨ w = 2 ∨ w = 4 ∨ w = 8) ∧ atI [PyData.int 1, .int 2, .int 4, .int 8] i = some (nD w) := by
  have : i = 0 ∨ i = 1 ∨ i = 2 ∨ i = 3 := by omega
  rcases this with rfl | rfl | rfl | rfl
  · exact ⟨1, by decide, rfl⟩
  · exact ⟨2, by decide, rfl⟩
  · exact ⟨4, by decide, rfl⟩
  · exact ⟨8, by decide, rfl⟩
theorem pick_order {i : Int} (h0 : 0 ≤ i) (h1 : i < 2) : ∃ o : Bool, atI [PyData.str "low", .str "high"] i = some (.str (ordS o)) := by
  have : i = 0 ∨ i = 1 := by omega
  rcases this with rfl | rfl
  · exact ⟨true, rfl⟩
  · exact ⟨false, rfl⟩
theorem pick_count {i : Int} (h0 : 0 ≤ i) (h1 : i < 12) : ∃ c : Nat, c ≤ 16 ∧ atI [PyData.int 2, .int 3, .int 2, .int 4, .int 1, .int 5, .int 2, .int 7, .int 3, .int 16, .int 2, .int 0] i = some (nD c) := by
  have : i = 0 ∨ i = 1 ∨ i = 2 ∨ i = 3 ∨ i = 4 ∨ i = 5 ∨ i = 6 ∨ i = 7 ∨ i = 8 ∨ i = 9 ∨ i = 10 ∨ i = 11 := by omega
  rcases this with rfl | rfl | rfl | rfl | rfl | rfl | rfl | rfl | rfl | rfl | rfl | rfl
  · exact ⟨2, by decide, rfl⟩
  · exact ⟨3, by decide, rfl⟩
  · exact ⟨2, by decide, rfl⟩
  · exact ⟨4, by decide, rfl⟩
  · exact ⟨1, by decide, rfl⟩
  · exact ⟨5, by decide, rfl⟩
  · exact ⟨2, by decide, rfl⟩
  · exact ⟨7, by decide, rfl⟩
  · exact ⟨3, by decide, rfl⟩
  · exact ⟨16, by decide, rfl⟩
  · exact ⟨2, by decide, rfl⟩
  · exact ⟨0, by decide, rfl⟩
def stepList (p : Int) (w many : Nat) : List Int := [(w : Int), -(w : Int), 1, 0, (w : Int) * 2, p / 96 % 65 - 32, -1, if (w : Int) * (many : Int) < 512 then (w : Int) * (many : Int) else 512]
theorem stepList_fits {p : Int} {w many : Nat} (hw : w = 1 ∨ w = 2 ∨ w = 4 ∨ w = 8) {i : Nat} (hi : i < 8) : -512 ≤ (stepList p w many).getD i 0 ∧ (stepList p w many).getD i 0 ≤ 512 := by
  refine getD_all (P := fun x => -512 ≤ x ∧ x ≤ 512) (fun x hx => ?_) hi
  have hq : 0 ≤ (w : Int) * (many : Int) := Int.mul_nonneg (by omega) (by omega)
  unfold stepList at hx
  generalize (w : Int) * (many : Int) = q at hx hq
  simp only [List.mem_cons, List.not_mem_nil, or_false] at hx
  rcases hx with rfl | rfl | rfl | rfl | rfl | rfl | rfl | rfl
  · omega
  · omega
  · omega
  · omega
  · omega
  · omega
  · omega
  · split <;> omega
section
variable {K : PySem.W.Frag} {C : List Addr} {M : Ms} {ρ : List Sl} {ta : TE} {P : Ms → PD → Prop}
theorem exa_cons2 {tr : TA} {PA : Ms → List PD → Prop} (ha : EvX K C M ρ ta P) (hr : ∀ M' d, P M' d → ExA K C M' ρ tr (fun M'' ds' => PA M'' (d :: ds'))) : ExA K C M ρ (tCons ta tr) PA := .mk <| fun {F _ _ _ _ _} E Q k =>
  ha.run E _ fun x d M' Ha H1a hp Ea sa px => (hr M' d hp).run Ea _ fun vs ds M'' Hb H1b hq Eb sb ps => k (x :: vs) (d :: ds) M'' Hb H1b hq Eb (sa.trans sb) (.cons (dp_mono sb px) ps)
theorem exa_nil2 {PA : Ms → List PD → Prop} (h : PA M []) : ExA K C M ρ tNil PA := .mk <| fun {F H0 H10 H H1 σ} E Q k => k [] [] M H H1 h E (Same.refl _) .nil
end
section
variable {P : Program} {w : World} {K : PySem.W.Frag} {mg : Str → Option Value} {base : Heap} {wa oa da : Addr}
def Pre_law_window : List PD → MO → Prop := fun ds m => ∃ (ns : List Int) (k L : Nat), ns.length ≤ 63 ∧ k ≤ 800000 ∧ L ≤ 100 ∧ ds = [.list (ns.map PyData.int), nD L, .int 4] ∧ m = .lst [nD k]
def R_law_window : List PD → MO → MO → PD → Prop := fun ds m m' d => ∃ (k k' L : Nat) (x : PD) (W : Win), m = .lst [nD k] ∧ m' = .lst [nD k'] ∧ k' ≤ k + 10 ∧ ds = [x, nD L, .int 4] ∧ d = winD W ∧ IsWin W ∧ W.fits L
abbrev FN_law_window (P : Program) (w : World) (K : PySem.W.Frag) (mg : Str → Option Value) (base : Heap) : Prop := FnX P w K mg base "_law_window" ["_law_cells_here", "_law_spot", "_law_length_here", "_law_most"] 2 (spM K 1 Pre_law_window R_law_window)
theorem one_inj {k k0 : Nat} (e : MO.lst [nD k] = MO.lst [nD k0]) : k = k0 := by
  have := MO.lst.inj e
  have := PyData.int.inj (List.head_eq_of_cons_eq this)
  omega
theorem ok_law_window (T : Top K mg wa oa da) (F : TopF K mg "_law_window" s_law_window ["_law_cells_here", "_law_spot", "_law_length_here", "_law_most"]) (G_law_cell : FN_law_cell P w K mg base) : FN_law_window P w K mg base := by
  refine fx_mut F sc_law_window (fun ds m h => by obtain ⟨_, _, _, _, _, _, rfl, _⟩ := h; rfl) 13 rfl fun f cdv A outer s H E p m ds hr h => ?_
  obtain ⟨ns, k, L, hns, hk, hL, rfl, rfl⟩ := h
  refine ⟨_, (pss_cons (ps_par (i := 4) (j := 5) rfl sc_law_window.nd rfl rfl (by decide) rfl rfl (pa_cons (pe_callX G_law_cell (hr.mono (by decide)) (by rfl) (pa_cons (pv 0) (pa_cons (pv 1) pa_nil))) (pa_cons (pe_callX G_law_cell (hr.mono (by decide)) (by rfl) (pa_cons (pv 0) (pa_cons (pv 1) pa_nil))) pa_nil)) (by rfl))
      (pss_cons (ps_par (i := 6) (j := 7) rfl sc_law_window.nd rfl rfl (by decide) rfl rfl (pa_cons (pe_ix (ix_listK K rfl) (pe_lst (pa_cons (pe_int) (pa_cons (pe_int) (pa_cons (pe_int) (pa_cons (pe_int) pa_nil))))) (pe_op op_mod (pv 4) (pe_int)) (fun _ _ => rfl)) (pa_cons (pe_ix (ix_listK K rfl) (pe_lst (pa_cons (pe_str) (pa_cons (pe_str) pa_nil))) (pe_op op_mod (pe_op op_fdiv (pv 4) (pe_int)) (pe_int)) (fun _ _ => rfl)) pa_nil)) (by rfl))
      (pss_cons (ps_asg (pe_tup (pa_cons (pe_op op_sub (pv 2) (pv 6)) (pa_cons (pe_int) (pa_cons (pe_int) (pa_cons (pe_int) (pa_cons (pe_lst pa_nil) pa_nil)))))) (pg_tupK K rfl (n := 5) rfl (pgs_cons (pg_name (i := 8) sc_law_window.nd rfl (Or.inl rfl)) (pgs_cons (pg_name (i := 9) sc_law_window.nd rfl (Or.inl rfl)) (pgs_cons (pg_name (i := 10) sc_law_window.nd rfl (Or.inl rfl)) (pgs_cons (pg_name (i := 11) sc_law_window.nd rfl (Or.inl rfl)) (pgs_cons (pg_name (i := 12) sc_law_window.nd rfl (Or.inl rfl)) pgs_nil)))))))
      (pss_cons (ps_for PassesOwn.never rfl (pi_range1 (by rfl) T.b.range (pa_cons (pe_op op_mod (pe_op op_fdiv (pv 4) (pe_int)) (pe_op op_add (pv 3) (pe_int))) pa_nil)) (pg_name (i := 13) sc_law_window.nd rfl (Or.inl rfl))
        (pss_cons (ps_set (i := 14) sc_law_window.nd rfl (Or.inl rfl) (pe_callX G_law_cell (hr.mono (by decide)) (by rfl) (pa_cons (pv 0) (pa_cons (pv 1) pa_nil))))
        (pss_cons (ps_set (i := 15) sc_law_window.nd rfl (Or.inl rfl) (pe_ix (ix_listK K rfl) (pe_lst (pa_cons (pe_int) (pa_cons (pe_int) (pa_cons (pe_int) (pa_cons (pe_int) (pa_cons (pe_int) (pa_cons (pe_int) (pa_cons (pe_int) (pa_cons (pe_int) (pa_cons (pe_int) (pa_cons (pe_int) (pa_cons (pe_int) (pa_cons (pe_int) pa_nil))))))))))))) (pe_op op_mod (pv 14) (pe_int)) (fun _ _ => rfl)))
        (pss_cons (ps_set (i := 16) sc_law_window.nd rfl (Or.inl rfl) (pe_ix (ix_listK K rfl) (pe_lst (pa_cons (pv 6) (pa_cons (pe_un un_neg (pv 6)) (pa_cons (pe_int) (pa_cons (pe_int) (pa_cons (pe_op op_mul (pv 6) (pe_int)) (pa_cons (pe_op op_sub (pe_op op_mod (pe_op op_fdiv (pv 14) (pe_int)) (pe_int)) (pe_int)) (pa_cons (pe_un un_neg (pe_int)) (pa_cons (pe_callB (cr_min2 rfl) (by rfl) T.b.min (by decide +kernel) (pa_cons (pe_int) (pa_cons (pe_op op_mul (pv 6) (pv 11)) pa_nil))) pa_nil))))))))) (pe_op op_mod (pe_op op_fdiv (pv 14) (pe_int)) (pe_int)) (fun _ _ => rfl)))
        (pss_cons (ps_set (i := 15) sc_law_window.nd rfl (Or.inl rfl) (pe_ifExp (pt_cmpR op_le (pe_op op_mul (pv 11) (pv 15)) (pe_int) (nomark _)) (pv 15) (pe_int)))
        (pss_cons (ps_if (pt_cmpR op_gt (pe_op op_add (pe_callB (cr_max2 rfl) (by rfl) T.b.max (by decide +kernel) (pa_cons (pe_op op_sub (pv 10) (pv 9)) (pa_cons (pe_int) pa_nil))) (pe_callB cr_abs (by rfl) T.b.abs (by decide +kernel) (pa_cons (pe_op op_mul (pe_callB (cr_max2 rfl) (by rfl) T.b.max (by decide +kernel) (pa_cons (pe_op op_sub (pv 15) (pe_int)) (pa_cons (pe_int) pa_nil))) (pv 16)) pa_nil))) (pv 8) (nomark _))
          (pss_one (ps_set (i := 16) sc_law_window.nd rfl (Or.inl rfl) (pe_int)))
          pss_nil)
        (pss_cons (ps_par (i := 9) (j := 10) rfl sc_law_window.nd rfl rfl (by decide) rfl rfl (pa_cons (pe_op op_add (pv 9) (pe_callB (cr_min2 rfl) (by rfl) T.b.min (by decide +kernel) (pa_cons (pe_int) (pa_cons (pe_op op_mul (pe_op op_sub (pv 15) (pe_int)) (pv 16)) pa_nil)))) (pa_cons (pe_op op_add (pv 10) (pe_callB (cr_max2 rfl) (by rfl) T.b.max (by decide +kernel) (pa_cons (pe_int) (pa_cons (pe_op op_mul (pe_op op_sub (pv 15) (pe_int)) (pv 16)) pa_nil)))) pa_nil)) (by rfl))
        (pss_cons (ps_set (i := 11) sc_law_window.nd rfl (Or.inl rfl) (pe_op op_mul (pv 11) (pv 15)))
        (pss_one (ps_expr (pe_bm PySem.F.plainAttrs_list PySem.F.slot_list_append PySem.F.type_list_append mt_append (pv 12) (pa_cons (pe_tup (pa_cons (pv 15) (pa_cons (pv 16) pa_nil))) pa_nil))))))))))))
      (pss_cons (ps_if (pt_cmpR op_lt (pv 8) (pe_int) (nomark _))
        (pss_one (ps_set (i := 12) sc_law_window.nd rfl (Or.inl rfl) (pe_op op_cat (pe_lst (pa_cons (pe_tup (pa_cons (pe_int) (pa_cons (pe_op op_sub (pe_op op_mod (pe_op op_fdiv (pv 4) (pe_int)) (pe_int)) (pe_int)) pa_nil))) pa_nil)) (pe_slice (sl_listK K rfl) (pv 12) (po_some (pe_int)) po_none))))
        pss_nil)
      (pss_cons (ps_if (pt_cmpR (op_inK K rfl) (pe_int) (pe_lc (own := [("_law_count", 15), ("_law_step", 16)]) (tt := tYes) rfl sc_law_window.nd (pi_listK K rfl (pv 12)) (blkOk_by (N := ["_law_cells_here", "_law_spot", "_law_length_here", "_law_most", "_law_n", "_law_m", "_law_width", "_law_order", "_law_room", "_law_low", "_law_high", "_law_many", "_law_sides", "_law_k", "_law_p", "_law_count", "_law_step"]) (sc := defScope s_law_window) (by decide +kernel)) (fun _ _ _ _ _ => (pg_tupK K rfl (n := 2) rfl (pgs_cons (pg_name (i := 15) sc_law_window.nd rfl (Or.inl rfl)) (pgs_cons (pg_name (i := 16) sc_law_window.nd rfl (Or.inl rfl)) pgs_nil)))) (fun _ _ _ _ _ => pts_nil) (fun _ _ _ _ _ => (pv 15))) rfl)
        (pss_one (ps_ret (pe_tup (pa_cons (pe_op op_mod (pv 5) (pe_int)) (pa_cons (pe_callTy (cr_tupleK K rfl) (by rfl) T.b.tuple (by decide +kernel) (pa_cons (pv 12) pa_nil)) (pa_cons (pv 6) (pa_cons (pv 7) pa_nil)))))))
        pss_nil)
      (pss_one (ps_ret (pe_tup (pa_cons (pe_op op_sub (pe_op op_mod (pv 5) (pe_op op_add (pe_op op_add (pe_op op_sub (pv 8) (pv 10)) (pv 9)) (pe_int))) (pv 9)) (pa_cons (pe_callTy (cr_tupleK K rfl) (by rfl) T.b.tuple (by decide +kernel) (pa_cons (pv 12) pa_nil)) (pa_cons (pv 6) (pa_cons (pv 7) pa_nil))))))))))))), ?_⟩
  dsimp only [cxOf, List.map, List.replicate, List.cons_append, List.nil_append, insAt]
  -- n, m
  refine st_parX (PA := fun M' ds => ∃ n m : Int, M' = [(p, .lst [nD (k + 2)])] ∧ ds = [.int n, .int m]) ?_ ?_
  · refine exa_cons2 (ex_call (eam_cons (ev_var rfl) (eam_here rfl ea_nil)) ⟨ns, k, hns, by omega, rfl, rfl⟩) ?_
    rintro M' d ⟨m', ⟨k0, x, e1, rfl, rfl, _⟩, rfl⟩
    have e1 := one_inj e1
    subst e1
    refine exa_cons2 (ex_call (eam_cons (ev_var rfl) (eam_here rfl ea_nil)) ⟨ns, k + 1, hns, by omega, rfl, rfl⟩) ?_
    rintro M' d ⟨m', ⟨k0, y, e1, rfl, rfl, _⟩, rfl⟩
    have e1 := one_inj e1
    subst e1
    exact exa_nil2 ⟨x, y, rfl, rfl⟩
  rintro M' ds ⟨n, m, rfl, rfl⟩
  refine ⟨_, _, rfl, ?_⟩
  -- width, order
  obtain ⟨wv, hwv, hwa⟩ := pick_width (Int.emod_nonneg n (show (4 : Int) ≠ 0 by decide)) (Int.emod_lt_of_pos n (show (0 : Int) < 4 by decide))
  obtain ⟨o, hoa⟩ := pick_order (Int.emod_nonneg (n / 4) (show (2 : Int) ≠ 0 by decide)) (Int.emod_lt_of_pos (n / 4) (show (0 : Int) < 2 by decide))
  refine st_par (ea_cons (ev_op (ev_lst (ea_cons ev_int (ea_cons ev_int (ea_cons ev_int (ea_cons ev_int ea_nil))))) (ev_op (ev_var rfl) ev_int (rd_I ?_)) (rd_ixL hwa)) (ea_cons (ev_op (ev_lst (ea_cons ev_str (ea_cons ev_str ea_nil))) (ev_op (ev_op (ev_var rfl) ev_int (rd_I ?_)) ev_int (rd_I ?_)) (rd_ixL hoa)) ea_nil)) ?_
  · show (0 : Int) < 4
    decide
  · exact ⟨by decide, by decide⟩
  · show (0 : Int) < 2
    decide
  -- room, low, high, many, sides
  refine st_par5 (ev_op (ev_var rfl) (ev_var rfl) rd_I0) ev_int ev_int ev_int fun sp hsp hsq => ?_
  have hn0 := Int.emod_nonneg (n / 8) (show (4 + 1 : Int) ≠ 0 by decide)
  have hn1 := Int.emod_lt_of_pos (n / 8) (show (0 : Int) < 4 + 1 by decide)
  refine st_forT (xs := List.range (n / 8 % (4 + 1)).toNat) (enc := fun i : Nat => PyData.int (0 + (i : Int))) (fun i M' ρ' => ∃ (k' : Nat) (s : List (Nat × Int)) (low high : Int) (many : Nat) (s13 s14 s15 s16 : Sl), k' ≤ k + 2 + i ∧ s.length = i ∧ Drawn ((L : Int) - wv) s low high many ∧ M' = [(sp, .lst (s.map sideD)), (p, .lst [nD k'])] ∧
    ρ' = [.val (.list (ns.map PyData.int)), .ml p, .val (nD L), .val (.int 4), .val (.int n), .val (.int m), .val (nD wv), .val (.str (ordS o)), .val (.int ((L : Int) - wv)), .val (.int low), .val (.int high), .val (nD many), .ml sp, s13, s14, s15, s16]) ?_ ?_ ?_ ?_
  · refine it_range1 (ea_cons (ev_op (ev_op (ev_var rfl) ev_int (rd_I ?_)) (ev_op (ev_var rfl) ev_int rd_I0) (rd_I ?_)) ea_nil) ⟨by omega, by omega⟩
    · exact ⟨by decide, by decide⟩
    · show (0 : Int) < 4 + 1
      decide
  · exact ⟨k + 2, [], 0, 0, 1, .no, .no, .no, .no, by omega, rfl, Drawn.nil _, rfl, rfl⟩
  · rintro i hi M' ρ' ⟨k', s, low, high, many, s13, s14, s15, s16, hk', hsl, hD, rfl, rfl⟩
    rw [List.length_range] at hi
    refine ⟨_, _, gd_name, ?_⟩
    refine st_perm (List.Perm.swap _ _ _) (st_setX (ex_call (eam_cons (ev_var rfl) (eam_here rfl ea_nil)) ⟨ns, k', hns, by omega, rfl, rfl⟩) ?_)
    rintro M' dx ⟨m', ⟨k0, x, e1, rfl, rfl, hx0, hx1⟩, rfl⟩
    have e1 := one_inj e1
    subst e1
    refine st_perm (List.Perm.swap _ _ _) ?_
    obtain ⟨c, hc, hca⟩ := pick_count (Int.emod_nonneg x (show (12 : Int) ≠ 0 by decide)) (Int.emod_lt_of_pos x (show (0 : Int) < 12 by decide))
    refine st_set (ev_op (ev_lst (ea_cons ev_int (ea_cons ev_int (ea_cons ev_int (ea_cons ev_int (ea_cons ev_int (ea_cons ev_int (ea_cons ev_int (ea_cons ev_int (ea_cons ev_int (ea_cons ev_int (ea_cons ev_int (ea_cons ev_int ea_nil))))))))))))) (ev_op (ev_var rfl) ev_int (rd_I ?_)) (rd_ixL hca)) ?_
    · show (0 : Int) < 12
      decide
    have hj0 := Int.emod_nonneg (x / 12) (show (8 : Int) ≠ 0 by decide)
    have hj1 := Int.emod_lt_of_pos (x / 12) (show (0 : Int) < 8 by decide)
    have hst := stepList_fits (p := x) (many := many) hwv (show (x / 12 % 8).toNat < 8 by omega)
    have hmany := hD.le
    refine st_set (ev_op (dx := .list ((stepList x wv many).map PyData.int)) (ev_lst (ea_cons (ev_var rfl) (ea_cons (ev_un (ev_var rfl) ud_neg) (ea_cons ev_int (ea_cons ev_int (ea_cons (ev_op (ev_var rfl) ev_int (rd_I ?_)) (ea_cons (ev_op (ev_op (ev_op (ev_var rfl) ev_int (rd_I ?_)) ev_int (rd_I ?_)) ev_int rd_I0) (ea_cons (ev_un ev_int ud_neg) (ea_cons (ev_cb (ea_cons ev_int (ea_cons (ev_op (ev_var rfl) (ev_var rfl) (rd_I ?_)) ea_nil)) cd_min) ea_nil))))))))) (ev_op (ev_op (ev_var rfl) ev_int (rd_I ?_)) ev_int (rd_I ?_)) (rd_ixL (atI_ints hj0 hj1))) ?_
    · exact .inr ⟨by decide, by decide⟩
    · exact ⟨by decide, by decide⟩
    · show (0 : Int) < 65
      decide
    · exact .inl ⟨by omega, by omega⟩
    · exact ⟨by decide, by decide⟩
    · show (0 : Int) < 8
      decide
    generalize (stepList x wv many).getD (x / 12 % 8).toNat 0 = t0 at hst
    -- count
    obtain ⟨c', hc', hm', hce⟩ : ∃ c' : Nat, c' ≤ 16 ∧ many * c' ≤ 200 ∧ c' = if many * c ≤ 200 then c else 1 := by
      by_cases h : many * c ≤ 200
      · exact ⟨c, hc, h, (if_pos h).symm⟩
      · exact ⟨1, by decide, by omega, (if_neg h).symm⟩
    refine st_set (d := nD c') (ev_if (et_test (ev_op (ev_op (ev_var rfl) (ev_var rfl) (rd_I ?_)) ev_int rd_B0)) (fun hb => ?_) (fun hb => ?_)) ?_
    · exact .inl ⟨by omega, by omega⟩
    · have h := of_decide_eq_true hb
      rw [hce, if_pos (by rw [← Int.natCast_mul] at h; omega)]
      exact ev_var rfl
    · have h := of_decide_eq_false hb
      rw [hce, if_neg (by rw [← Int.natCast_mul] at h; omega)]
      exact ev_int
    -- step
    refine st_seq (N1 := fun M' ρ' => ∃ t : Int, (-512 ≤ t ∧ t ≤ 512) ∧ (t = 0 ∨ pmax (high - low) 0 + pabs (pmax ((c' : Int) - 1) 0 * t) ≤ (L : Int) - wv) ∧ M' = [(sp, .lst (s.map sideD)), (p, .lst [nD (k' + 1)])] ∧
      ρ' = [.val (.list (ns.map PyData.int)), .ml p, .val (nD L), .val (.int 4), .val (.int n), .val (.int m), .val (nD wv), .val (.str (ordS o)), .val (.int ((L : Int) - wv)), .val (.int low), .val (.int high), .val (nD many), .ml sp, .val (.int (0 + (((List.range (n / 8 % (4 + 1)).toNat)[i]'(by rw [List.length_range]; exact hi) : Nat) : Int))), .val (.int x), .val (nD c'), .val (.int t)])
      (st_one (st_if (et_test (ev_op (ev_op (ev_cb (ea_cons (ev_op (ev_var rfl) (ev_var rfl) rd_I0) (ea_cons ev_int ea_nil)) cd_max) (ev_cb (ea_cons (ev_op (ev_cb (ea_cons (ev_op (ev_var rfl) ev_int rd_I0) (ea_cons ev_int ea_nil)) cd_max) (ev_var rfl) (rd_I ?_)) ea_nil) cd_abs) rd_I0) (ev_var rfl) rd_B0)) (fun hb => ?_) (fun hb => ?_))) ?_
    · exact .inr ⟨by omega, by omega⟩
    · exact st_assoc (st_set ev_int (st_skip (st_next ⟨0, by decide, .inl rfl, rfl, rfl⟩)))
    · refine st_skip (st_next ⟨t0, hst, .inr ?_, rfl, rfl⟩)
      have h := of_decide_eq_false hb
      exact Int.not_lt.mp h
    rintro M' ρ' ⟨t, ht, htr, rfl, rfl⟩
    have hD' := hD.step hc' hm' ht htr
    refine st_par (ea_cons (ev_op (ev_var rfl) (ev_cb (ea_cons ev_int (ea_cons (ev_op (ev_op (ev_var rfl) ev_int rd_I0) (ev_var rfl) (rd_I ?_)) ea_nil)) cd_min) rd_I0) (ea_cons (ev_op (ev_var rfl) (ev_cb (ea_cons ev_int (ea_cons (ev_op (ev_op (ev_var rfl) ev_int rd_I0) (ev_var rfl) (rd_I ?_)) ea_nil)) cd_max) rd_I0) ea_nil)) ?_
    · exact .inr ⟨by omega, by omega⟩
    · exact .inr ⟨by omega, by omega⟩
    refine st_set (d := nD (many * c')) (ev_is (ev_op (ev_var rfl) (ev_var rfl) (rd_I ?_)) ?_) ?_
    · exact .inl ⟨by omega, by omega⟩
    · show PyData.int _ = PyData.int _
      rw [Int.natCast_mul]
    refine st_one (st_app rfl (ev_tup (ea_cons (ev_var rfl) (ea_cons (ev_var rfl) ea_nil))) ?_ (st_next ⟨k' + 1, s ++ [(c', t)], _, _, many * c', _, _, _, _, by omega, ?_, hD', ?_, rfl⟩))
    · rw [List.length_map]
      omega
    · rw [List.length_append, hsl]
      rfl
    · rw [List.map_append]
      rfl
  · rintro M' ρ' ⟨k', s, low, high, many, s13, s14, s15, s16, hk', hsl, hD, rfl, rfl⟩
    rw [List.length_range] at hk' hsl
    have hs4 : s.length ≤ 4 := by omega
    refine st_freeze (i := 12) rfl hsp ?_
    refine st_seq (N1 := fun M' ρ' => ∃ s2 : List (Nat × Int), s2.length ≤ 5 ∧ (∀ x ∈ s2, x.1 ≤ 4096 ∧ -512 ≤ x.2 ∧ x.2 ≤ 512) ∧ (0 ∉ s2.map (·.1) → s2 = s ∧ 0 ≤ (L : Int) - wv) ∧ M' = [(p, .lst [nD k'])] ∧
      ρ' = [.val (.list (ns.map PyData.int)), .ml p, .val (nD L), .val (.int 4), .val (.int n), .val (.int m), .val (nD wv), .val (.str (ordS o)), .val (.int ((L : Int) - wv)), .val (.int low), .val (.int high), .val (nD many), .val (.list (s2.map sideD)), s13, s14, s15, s16])
      (st_one (st_if (et_test (ev_op (ev_var rfl) ev_int rd_B0)) (fun hb => ?_) (fun hb => ?_))) ?_
    · refine st_assoc (st_set (d := .list (((0, n / 32 % 1025 - 512) :: s.drop 1).map sideD)) (ev_is (el_d (el_cat (el_lst (ea_cons (ev_tup (ea_cons ev_int (ea_cons (ev_op (ev_op (ev_op (ev_var rfl) ev_int (rd_I ?_)) ev_int (rd_I ?_)) ev_int rd_I0) ea_nil))) ea_nil)) (el_slL (lo := some ((1 : Nat) : Int)) (hi := none) (ev_var rfl) (eo_some ev_int) eo_none) ?_)) ?_) (st_skip (st_next ⟨(0, n / 32 % 1025 - 512) :: s.drop 1, ?_, ?_, ?_, rfl, rfl⟩)))
      · exact ⟨by decide, by decide⟩
      · show (0 : Int) < 1025
        decide
      · rw [cutP_from, List.length_drop, List.length_map]
        show 1 + _ ≤ _
        omega
      · rw [cutP_from, List.map_cons, List.map_drop]
        rfl
      · rw [List.length_cons, List.length_drop]
        omega
      · intro y hy
        rcases List.mem_cons.mp hy with rfl | hy
        · show (0 : Nat) ≤ 4096 ∧ -512 ≤ n / 32 % 1025 - 512 ∧ n / 32 % 1025 - 512 ≤ 512
          omega
        · have := hD.side y (List.mem_of_mem_drop hy)
          omega
      · intro h0
        exact absurd (List.mem_map.mpr ⟨(0, n / 32 % 1025 - 512), List.mem_cons_self .., rfl⟩) h0
    · refine st_skip (st_next ⟨s, by omega, fun y hy => ?_, fun _ => ⟨rfl, ?_⟩, rfl, rfl⟩)
      · have := hD.side y hy
        omega
      · have := of_decide_eq_false hb
        omega
    rintro M' ρ' ⟨s2, hs5, hsb, hs0, rfl, rfl⟩
    refine st_if (b := decide (0 ∈ s2.map (·.1))) (et_is (et_test (ev_op ev_int (el_d (el_map (xs := s2) (enc := sideD) (fun x => nD x.1) (it_list (ev_var rfl)) (by omega) fun a ha => ⟨_, _, gd_tup (gds_cons gd_name (gds_cons gd_name gds_nil)), by decide, ev_var rfl⟩)) (rd_inI (ns := (s2.map (·.1)).map fun n : Nat => (n : Int)) (.inl ?_)))) (decide_eq_decide.mpr (mem_ints0 _))) (fun hb => ?_) (fun hb => ?_)
    · rw [List.map_map, List.map_map]
      rfl
    · have h0 := of_decide_eq_true hb
      obtain ⟨g1, g2⟩ := zero_win hs5 hsb h0 hwv m o L
      refine st_assoc (st_retS (ev_tup (ea_cons (ev_op (ev_var rfl) ev_int (rd_I ?_)) (ea_cons (ev_cb (ea_cons (ev_var rfl) ea_nil) cd_tuple) (ea_cons (ev_var rfl) (ea_cons (ev_var rfl) ea_nil))))) ⟨_, List.mem_singleton.mpr rfl, k, k', L, _, ⟨m % 513, s2, wv, o⟩, rfl, rfl, by omega, rfl, rfl, g1, g2⟩)
      show (0 : Int) < 513
      decide
    · have h0 := of_decide_eq_false hb
      obtain ⟨rfl, hr0⟩ := hs0 h0
      obtain ⟨g0, g1, g2⟩ := hD.last hs4 hwv hL h0 hr0 m o
      refine st_skip (st_ret (ev_tup (ea_cons (ev_op (ev_op (ev_var rfl) (ev_op (ev_op (ev_op (ev_var rfl) (ev_var rfl) rd_I0) (ev_var rfl) rd_I0) ev_int rd_I0) (rd_I ?_)) (ev_var rfl) rd_I0) (ea_cons (ev_cb (ea_cons (ev_var rfl) ea_nil) cd_tuple) (ea_cons (ev_var rfl) (ea_cons (ev_var rfl) ea_nil))))) ⟨_, List.mem_singleton.mpr rfl, k, k', L, _, ⟨m % ((L : Int) - wv - high + low + 1) - low, s2, wv, o⟩, rfl, rfl, by omega, rfl, rfl, g1, g2⟩)
      exact g0
end
end K37

set_option Elab.async false
set_option linter.all false
set_option maxRecDepth 100000
set_option maxHeartbeats 4000000
namespace K37
open PySem PySem.Spec PyProof.Rows L2 RZ
local macro_rules | `(tactic| walk_at "ev") => `(tactic| first
  | with_reducible exact ev_int
  | with_reducible exact ev_str
  | with_reducible exact ev_bl
  | with_reducible exact ev_non
  | exact ev_var rfl
  | with_reducible exact ea_nil
  | with_reducible apply ea_cons
  | with_reducible apply ev_isiI
  | with_reducible apply ev_isiB
  | with_reducible apply ev_isiT
  | with_reducible apply ev_isiS
  | with_reducible apply ev_isiL
  | with_reducible apply ev_chain
  | with_reducible apply ev_andV
  | with_reducible apply ev_orV
  | with_reducible apply ev_notV
  | with_reducible apply ev_kdI
  | with_reducible apply ev_op
  | with_reducible apply ev_un
  | with_reducible exact rd_B0
  | with_reducible exact rd_I0
  | with_reducible apply rd_I
  | with_reducible exact ud_neg
  | with_reducible exact rd_eqI
  | with_reducible exact rd_neI
  | with_reducible exact rd_eqS
  | with_reducible exact rd_isN
  | exact rd_ixT rfl
  | exact rd_ixL rfl
  | with_reducible apply ev_call
  | with_reducible apply ev_cb
  | exact cd_len (.inl rfl)
  | exact cd_len (.inr rfl)
  | with_reducible exact cd_abs
  | with_reducible exact cd_max
  | with_reducible exact cd_min
  | with_reducible exact cd_intB
  | with_reducible exact cd_tuple
  | with_reducible exact cd_allM
  | with_reducible exact cd_sumM
  | with_reducible apply ev_tup
  | with_reducible apply ev_lst
  | with_reducible apply ev_sl
  | with_reducible exact sd_tup
  | with_reducible exact eo_none
  | with_reducible apply eo_some
  | with_reducible apply ev_revT
  | with_reducible apply et_not
  | with_reducible apply et_and
  | with_reducible apply et_or
  | with_reducible apply et_test
  | with_reducible apply et_B
  | with_reducible exact et_yes
  | with_reducible exact gd_name
  | with_reducible apply gd_tup
  | with_reducible apply gds_cons
  | with_reducible exact gds_nil
  | with_reducible (exact Nat.le_of_ble_eq_true rfl)
  | (with_reducible show (_ : List PD → PD → Prop) _ _); assumption
  | with_reducible (refine fun (_ : _ = true) => ?_)
  | with_reducible (refine fun (_ : _ = false) => ?_))
theorem lay_cells : ∀ xs : List (List Nat), PyData.canLayAll0 (xs.map cellD) = true ∧ PyData.depthAll (xs.map cellD) ≤ 1
  | [] => by simp [PyData.canLayAll0, PyData.depthAll]
  | x :: xs => by
    obtain ⟨h1, h2⟩ := lay_cells xs
    obtain ⟨g1, g2⟩ := lay_ints (x.map fun n : Nat => (n : Int))
    rw [← nD_ints] at g1 g2
    simp only [List.map_cons, PyData.canLayAll0, PyData.depthAll, PyData.canLay0, PyData.depth, h1, g1, g2, Bool.and_true, true_and]
    omega
theorem shaped_cells (xs : List (List Nat)) : SeqAt.shaped (.list (xs.map cellD)) = true := by
  obtain ⟨h1, h2⟩ := lay_cells xs
  unfold SeqAt.shaped
  rw [Bool.and_eq_true]
  refine ⟨by simp only [PyData.canLay0]; exact h1, decide_eq_true ?_⟩
  simp only [PyData.depth]
  omega
theorem eqv_cells0 (xs : List (List Nat)) : PyData.eqv (.list (xs.map cellD)) (.list []) = decide (xs = []) := by
  cases xs with
  | nil => simp [PyData.eqv, PyData.eqvAll]
  | cons x xs => simp [PyData.eqv, PyData.eqvAll]
/-- a cell or nothing -/
def optD : Option (List Nat) → PD
  | some c => cellD c
  | none => .none
theorem shaped_opt (o : Option (List Nat)) : SeqAt.shaped (optD o) = true := by
  cases o with
  | none => exact shaped_none
  | some c => exact shaped_tupN c
theorem eqv_opt (o : Option (List Nat)) : PyData.eqv (optD o) (optD o) = true := by
  cases o with
  | none => simp [optD, PyData.eqv]
  | some c =>
    show PyData.eqv (.tuple (c.map nD)) (.tuple (c.map nD)) = true
    simp only [PyData.eqv]
    rw [eqvAll_nats]
    simp
/-- the same window in the other order -/
def Win.flip (w : Win) : Win := ⟨w.b, w.s, w.w, !w.low⟩
theorem flip_ok {w : Win} (h : IsWin w) : IsWin w.flip := ⟨h.b, h.n, h.s, h.p, h.w⟩
theorem flip_fits {w : Win} {L : Nat} (h : w.fits L) : w.flip.fits L := h
theorem firstUn {w : Win} {r : List Int} : ∃ o, unlikeD w w.flip r = optD o ∧ (((w.cells.zip ((w.words r).zip (w.flip.words r))).filter fun p => !decide (p.2.1 = p.2.2)).head?.map (·.1)) = o := by
  have hl : w.cells.length = ((w.words r).zip (w.flip.words r)).length := by
    rw [List.length_zip, words_len, words_len, w.cells_len]
    show w.places.length = min w.places.length w.places.length
    omega
  refine ⟨_, ?_, rfl⟩
  rw [filter_head _ _ hl]
  unfold unlikeD
  cases e : firstNe ((w.words r).zip (w.flip.words r)) with
  | none => rfl
  | some n =>
    have hn := firstNe_lt _ _ e
    show cellD _ = optD (w.cells[n]?)
    rw [w.cells_get (by omega)]
    rfl
section
variable {P : Program} {w : World} {K : PySem.W.Frag} {mg : Str → Option Value} {base : Heap} {wa oa da : Addr}
abbrev FN_law_flat (P : Program) (w : World) (K : PySem.W.Frag) (mg : Str → Option Value) (base : Heap) : Prop := FN_flat P w K mg base 5
def R_law_unlike_right : List PD → PD → Prop := fun ds d => ∃ (r : List Int) (w : Win), IsRow r ∧ IsWin w ∧ w.fits r.length ∧ ds = [rowD r, winD w] ∧ d = .bool true
abbrev FN_law_unlike_right (P : Program) (w : World) (K : PySem.W.Frag) (mg : Str → Option Value) (base : Heap) : Prop := FnX P w K mg base "_law_unlike_right" ["_law_row_here", "_law_window_here"] 9 (spD K R_law_unlike_right)
theorem ok_law_unlike_right (T : Top K mg wa oa da) (F : TopF K mg "_law_unlike_right" s_law_unlike_right ["_law_row_here", "_law_window_here"]) (G_words_of : FN_words_of P w K mg base) (G_first_unlike : FN_first_unlike P w K mg base) (G_law_flat : FN_law_flat P w K mg base) (G_law_cells : FN_law_cells P w K mg base) (G_table_of : FN_table_of P w K mg base) : FN_law_unlike_right P w K mg base := by
  refine fx_pure F sc_law_unlike_right (fun ds d h => by first | (obtain ⟨_, rfl, _⟩ := h; rfl) | (obtain ⟨_, _, rfl, _⟩ := h; rfl) | (obtain ⟨_, _, _, rfl, _⟩ := h; rfl) | (obtain ⟨_, _, _, _, rfl, _⟩ := h; rfl) | (obtain ⟨_, _, _, _, _, rfl, _⟩ := h; rfl) | (obtain ⟨_, _, _, _, _, _, rfl, _⟩ := h; rfl) | (obtain ⟨_, _, _, _, _, _, _, rfl, _⟩ := h; rfl) | (obtain ⟨_, _, _, _, _, _, _, _, rfl, _⟩ := h; rfl) | (obtain ⟨_, _, _, _, _, _, _, _, _, rfl, _⟩ := h; rfl) | (obtain ⟨_, _, _, _, _, _, _, _, _, _, rfl, _⟩ := h; rfl) | (obtain ⟨_, _, _, _, _, _, _, _, _, _, _, rfl, _⟩ := h; rfl) | (obtain ⟨_, _, _, _, _, _, _, _, _, _, _, _, rfl, _⟩ := h; rfl) | (obtain ⟨_, _, _, _, _, _, _, _, _, _, _, _, _, rfl, _⟩ := h; rfl) | (obtain ⟨_, _, _, _, _, _, _, _, _, _, _, _, _, _, rfl, _⟩ := h; rfl)) 7 rfl fun f cdv A outer s H E ds d hr h => ?_
  obtain ⟨r, w', hr', hw, hf, rfl, rfl⟩ := h
  refine ⟨_, (pss_cons (ps_set (i := 2) sc_law_unlike_right.nd rfl (Or.inl rfl) (pe_op (op_catK K rfl) (pe_slice (sl_tupK K rfl) (pv 1) po_none (po_some (pe_int))) (pe_tup (pa_cons (pe_ix (ix_listK K rfl) (pe_lst (pa_cons (pe_str) (pa_cons (pe_str) pa_nil))) (pe_callTy cr_int (by rfl) T.b.int (by decide +kernel) (pa_cons (pe_cmpR op_eq (pe_ix (ix_tupK K rfl) (pv 1) (pe_int) (fun _ _ => rfl)) (pe_str) (nomark _)) pa_nil)) (fun _ _ => rfl)) pa_nil))))
      (pss_cons (ps_par (i := 3) (j := 4) rfl sc_law_unlike_right.nd rfl rfl (by decide) rfl rfl (pa_cons (pe_callX G_words_of (hr.mono (by decide)) (by rfl) (pa_cons (pv 0) (pa_cons (pv 1) pa_nil))) (pa_cons (pe_callX G_words_of (hr.mono (by decide)) (by rfl) (pa_cons (pv 0) (pa_cons (pv 2) pa_nil))) pa_nil)) (by rfl))
      (pss_cons (ps_setLc (i := 5) (own := [("_law_cell_here", 6), ("_law_one", 7), ("_law_two", 8)]) rfl sc_law_unlike_right.nd rfl rfl (sw_true rfl rfl rfl (by decide +kernel)) (pi_zip3 K rfl (by rfl) T.b.zip (pa_cons (pe_callX G_law_cells (hr.mono (by decide)) (by rfl) (pa_cons (pv 1) pa_nil)) (pa_cons (pv 3) (pa_cons (pv 4) pa_nil)))) (blkOk_by (N := ["_law_row_here", "_law_window_here", "_law_other", "_law_mine", "_law_yours", "_law_some", "_law_cell_here", "_law_one", "_law_two"]) (sc := defScope s_law_unlike_right) (by decide +kernel)) (fun _ _ _ _ _ => (pg_tupK K rfl (n := 3) rfl (pgs_cons (pg_name (i := 6) sc_law_unlike_right.nd rfl (Or.inl rfl)) (pgs_cons (pg_name (i := 7) sc_law_unlike_right.nd rfl (Or.inl rfl)) (pgs_cons (pg_name (i := 8) sc_law_unlike_right.nd rfl (Or.inl rfl)) pgs_nil))))) (fun _ _ _ _ _ => (pts_one (pt_cmpR op_ne (pv 7) (pv 8) (nomark _)))) (fun _ _ _ _ _ => (pv 6)))
      (pss_cons (ps_if (pt_cmpR (op_neK K rfl hr.units) (pe_callX G_first_unlike (hr.mono (by decide)) (by rfl) (pa_cons (pv 0) (pa_cons (pv 1) (pa_cons (pv 2) pa_nil)))) (pe_ifExp (pt_cmpR (op_neK K rfl hr.units) (pv 5) (pe_lst pa_nil) (nomark _)) (pe_ix (ix_listK K rfl) (pv 5) (pe_int) (fun _ _ => rfl)) (pe_non)) (nomark _))
        (pss_one (ps_ret (pe_bl)))
        pss_nil)
      (pss_one (ps_ret (pe_or (pe_cmpR (op_eqK K rfl hr.units) (pv 3) (pe_lst pa_nil) (nomark _)) (pe_one (pe_cmpR (op_eqK K rfl hr.units) (pe_callX G_law_flat (hr.mono (by decide)) (by rfl) (pa_cons (pe_callX G_table_of (hr.mono (by decide)) (by rfl) (pa_cons (pv 0) (pa_cons (pv 1) pa_nil))) (pa_cons (pe_callB (cr_lenK K rfl) (by rfl) T.b.len (by decide +kernel) (pa_cons (pe_ix (ix_tupK K rfl) (pv 1) (pe_int) (fun _ _ => rfl)) pa_nil)) pa_nil))) (pv 3) (nomark _)))))))))), ?_⟩
  dsimp only [cxOf, List.map, List.replicate, List.cons_append, List.nil_append]
  have hix : atI [PyData.str "low", .str "high"] (if w'.low then 1 else 0) = some (.str (ordS (!w'.low))) := by
    cases w'.low <;> rfl
  refine st_set (d := winD w'.flip) (ev_is (ev_op (ev_is (ev_sl (lo := none) (hi := some ((3 : Nat) : Int)) (ev_var rfl) eo_none (eo_some ev_int) sd_tup) (by rw [cutP_to])) (ev_tup (ea_cons (ev_op (ev_lst (ea_cons ev_str (ea_cons ev_str ea_nil))) (ev_cb (ea_cons (ev_is (ev_op (ev_op (ev_var rfl) ev_int (rd_ixT rfl)) ev_str rd_eqS) (congrArg PyData.bool (ordS_low _))) ea_nil) cd_intB) (rd_ixL hix)) ea_nil)) (rd_catT ?_)) ?_) ?_
  · show 3 + 1 ≤ 100000
    decide
  · rfl
  refine st_par (ea_cons (ev_call (ea_cons (ev_var rfl) (ea_cons (ev_var rfl) ea_nil)) ⟨r, w', hr', hw, hf, rfl, rfl⟩) (ea_cons (ev_call (ea_cons (ev_var rfl) (ea_cons (ev_var rfl) ea_nil)) ⟨r, w'.flip, hr', flip_ok hw, flip_fits hf, rfl, rfl⟩) ea_nil)) ?_
  have l1 : (w'.words r).length = w'.cells.length := by rw [words_len, w'.cells_len]
  have l2 : (w'.flip.words r).length = w'.cells.length := by rw [words_len, w'.cells_len]; rfl
  have hcl : w'.cells.length ≤ 4096 := by rw [w'.cells_len]; exact hw.len
  have z1 : (w'.cells.zip ((w'.words r).zip (w'.flip.words r))).map (fun q => cellD q.1) = w'.cells.map cellD := by
    rw [show (fun q : List Nat × Int × Int => cellD q.1) = cellD ∘ Prod.fst from rfl, ← List.map_map, List.map_fst_zip (by rw [List.length_zip]; omega)]
  have z2 : (w'.cells.zip ((w'.words r).zip (w'.flip.words r))).map (fun q => PyData.int q.2.1) = (w'.words r).map PyData.int := by
    rw [show (fun q : List Nat × Int × Int => PyData.int q.2.1) = (fun p : Int × Int => PyData.int p.1) ∘ Prod.snd from rfl, ← List.map_map, List.map_snd_zip (by rw [List.length_zip]; omega), show (fun p : Int × Int => PyData.int p.1) = PyData.int ∘ Prod.fst from rfl, ← List.map_map, List.map_fst_zip (by omega)]
  have z3 : (w'.cells.zip ((w'.words r).zip (w'.flip.words r))).map (fun q => PyData.int q.2.2) = (w'.flip.words r).map PyData.int := by
    rw [show (fun q : List Nat × Int × Int => PyData.int q.2.2) = (fun p : Int × Int => PyData.int p.2) ∘ Prod.snd from rfl, ← List.map_map, List.map_snd_zip (by rw [List.length_zip]; omega), show (fun p : Int × Int => PyData.int p.2) = PyData.int ∘ Prod.snd from rfl, ← List.map_map, List.map_snd_zip (by omega)]
  have zl : (w'.cells.zip ((w'.words r).zip (w'.flip.words r))).length ≤ 4096 := by rw [List.length_zip]; omega
  obtain ⟨o, ho1, ho2⟩ := firstUn (w := w') (r := r)
  generalize w'.cells.zip ((w'.words r).zip (w'.flip.words r)) = zs at z1 z2 z3 zl ho2
  refine st_set (d := .list (((zs.filter fun p => !decide (p.2.1 = p.2.2)).map (·.1)).map cellD)) (ev_is (el_d (el_filt (xs := zs) (enc := fun q => PyData.tuple [cellD q.1, .int q.2.1, .int q.2.2]) (fun p => !decide (p.2.1 = p.2.2)) (fun q => cellD q.1) (it_zip3 (f := fun q : List Nat × Int × Int => cellD q.1) (g := fun q => PyData.int q.2.1) (k := fun q => PyData.int q.2.2) (ea_cons (ev_is (ev_call (ea_cons (ev_var rfl) ea_nil) ⟨w', hw, rfl, rfl⟩) (by rw [z1])) (ea_cons (ev_is (ev_var rfl) (by rw [z2])) (ea_cons (ev_is (ev_var rfl) (by rw [z3])) ea_nil)))) (by omega) fun a ha =>
    ⟨_, _, gd_tup (gds_cons gd_name (gds_cons gd_name (gds_cons gd_name gds_nil))), by decide, et_test (ev_op (ev_var rfl) (ev_var rfl) rd_neI), fun _ => ev_var rfl⟩)) (by rw [List.map_map]; rfl)) ?_
  have ho3 : ((zs.filter fun p => !decide (p.2.1 = p.2.2)).map (·.1)).head? = o := by rw [List.head?_map]; exact ho2
  generalize (zs.filter fun p => !decide (p.2.1 = p.2.2)).map (·.1) = sm at ho3
  refine st_guard (et_is (et_test (ev_op (dx := optD o) (dy := optD o) (ev_is (ev_call (ea_cons (ev_var rfl) (ea_cons (ev_var rfl) (ea_cons (ev_var rfl) ea_nil))) ⟨r, w', w'.flip, hr', hw, flip_ok hw, hf, flip_fits hf, rfl, rfl, rfl⟩) ho1) (ev_if (b := !decide (sm = [])) (et_is (et_test (ev_op (ev_var rfl) (ev_lst ea_nil) (rd_neD (shaped_cells sm) shaped_list0))) (by rw [eqv_cells0])) (fun hb => ?_) (fun hb => ?_)) (rd_neD (shaped_opt o) (shaped_opt o)))) (by rw [eqv_opt]; rfl)) rfl ?_
  · cases sm with
    | nil => simp at hb
    | cons c sm =>
      subst ho3
      exact ev_op (ev_var rfl) ev_int (rd_ixL (d := cellD c) (atI_nat (j := 0) rfl))
  · cases sm with
    | nil =>
      subst ho3
      exact ev_non
    | cons c sm => simp at hb
  refine st_ret (d := .bool (decide (w'.words r = []) || decide (w'.words r = w'.words r))) (ev_orV (ev_op (ev_var rfl) (ev_lst ea_nil) (rd_eqLI (ys := []))) fun hb => ev_op (ev_call (ea_cons (ev_call (ea_cons (ev_var rfl) (ea_cons (ev_var rfl) ea_nil)) ⟨r, w', hr', hw, hf, rfl, rfl⟩) (ea_cons (ev_cb (ea_cons (ev_op (ev_var rfl) ev_int (rd_ixT rfl)) ea_nil) (cd_len (.inr rfl))) ea_nil)) ⟨w'.counts, w'.words r, ?_, ?_, hw.p, ?_, ?_, rfl⟩) (ev_var rfl) rd_eqLI) ?_
  · unfold Win.counts
    rw [List.length_map]
    exact hw.n
  · have hne : w'.words r ≠ [] := of_decide_eq_false hb
    exact counts_pos hw fun z => hne (by unfold Win.words; rw [z]; rfl)
  · rw [words_len, places_prod]
  · have hne : w'.words r ≠ [] := of_decide_eq_false hb
    rw [tableD, if_neg hne]
    unfold Win.counts
    rw [List.length_map, List.length_map]
  · simp
/-! ### seen right -/
def R_law_seen_right : List PD → PD → Prop := fun ds d => ∃ (a b : List Int) (w : Win) (cs : List Int), IsRow a ∧ IsRow b ∧ a.length = b.length ∧ IsWin w ∧ w.fits a.length ∧ (∀ j : Nat, (j : Int) ∉ cs → a[j]? = b[j]?) ∧ ds = [rowD a, rowD b, winD w, .list (cs.map PyData.int)] ∧ d = .bool true
def Pre_seenD : List PD → MO → Prop := fun ds m => ∃ (a b : List Int) (w : Win) (kvs : List (Key × V)), IsRow a ∧ IsRow b ∧ a.length = b.length ∧ IsWin w ∧ w.fits a.length ∧ (∀ j : Nat, hasK kvs j = false → a[j]? = b[j]?) ∧ ds = [rowD a, rowD b, winD w] ∧ m = .dct kvs
def R_seenD : List PD → MO → MO → PD → Prop := fun ds m m' d => m' = m ∧ d = .bool true
abbrev FN_law_seen_rightD (P : Program) (w : World) (K : PySem.W.Frag) (mg : Str → Option Value) (base : Heap) : Prop := FnX P w K mg base "_law_seen_right" ["_law_ahead", "_law_behind", "_law_window_here", "_law_changed"] 8 (spM K 3 Pre_seenD R_seenD)
theorem words_get {w : Win} {r : List Int} {i : Nat} (h : i < w.places.length) : atI ((w.words r).map PyData.int) (i : Int) = some (.int (wordIn r (w.places[i]).toNat w.w w.low)) := by
  refine atI_nat ?_
  unfold Win.words
  rw [List.getElem?_map, List.getElem?_map, List.getElem?_eq_getElem h]
  rfl
theorem met_word {a b : List Int} {w : Win} {p : Int} (hp : 0 ≤ p) (In : Int → Bool) (h : ∀ j : Nat, In j = false → a[j]? = b[j]?) (hm : ((List.range w.w).filter fun i : Nat => In (p + (i : Int))).map (fun i : Nat => p + (i : Int)) = []) : wordIn b p.toNat w.w w.low = wordIn a p.toNat w.w w.low := by
  refine word_same fun j h1 h2 => (h j ?_).symm
  rw [List.map_eq_nil_iff, List.filter_eq_nil_iff] at hm
  have := hm (j - p.toNat) (List.mem_range.mpr (by omega))
  rw [show p + ((j - p.toNat : Nat) : Int) = (j : Int) by omega] at this
  simpa using this
abbrev FN_law_seen_right (P : Program) (w : World) (K : PySem.W.Frag) (mg : Str → Option Value) (base : Heap) : Prop := FnX P w K mg base "_law_seen_right" ["_law_ahead", "_law_behind", "_law_window_here", "_law_changed"] 8 (spD K R_law_seen_right)
theorem ok_law_seen_right (T : Top K mg wa oa da) (F : TopF K mg "_law_seen_right" s_law_seen_right ["_law_ahead", "_law_behind", "_law_window_here", "_law_changed"]) (G_words_of : FN_words_of P w K mg base) (G_law_bytes : FN_law_bytes P w K mg base) (G_places : FN_places P w K mg base) (G_law_by : FN_law_by P w K mg base) : FN_law_seen_right P w K mg base := by
  refine fx_pure F sc_law_seen_right (fun ds d h => by first | (obtain ⟨_, rfl, _⟩ := h; rfl) | (obtain ⟨_, _, rfl, _⟩ := h; rfl) | (obtain ⟨_, _, _, rfl, _⟩ := h; rfl) | (obtain ⟨_, _, _, _, rfl, _⟩ := h; rfl) | (obtain ⟨_, _, _, _, _, rfl, _⟩ := h; rfl) | (obtain ⟨_, _, _, _, _, _, rfl, _⟩ := h; rfl) | (obtain ⟨_, _, _, _, _, _, _, rfl, _⟩ := h; rfl) | (obtain ⟨_, _, _, _, _, _, _, _, rfl, _⟩ := h; rfl) | (obtain ⟨_, _, _, _, _, _, _, _, _, rfl, _⟩ := h; rfl) | (obtain ⟨_, _, _, _, _, _, _, _, _, _, rfl, _⟩ := h; rfl) | (obtain ⟨_, _, _, _, _, _, _, _, _, _, _, rfl, _⟩ := h; rfl) | (obtain ⟨_, _, _, _, _, _, _, _, _, _, _, _, rfl, _⟩ := h; rfl) | (obtain ⟨_, _, _, _, _, _, _, _, _, _, _, _, _, rfl, _⟩ := h; rfl) | (obtain ⟨_, _, _, _, _, _, _, _, _, _, _, _, _, _, rfl, _⟩ := h; rfl)) 7 rfl fun f cdv A outer s H E ds d hr h => ?_
  obtain ⟨a, b, w', cs, ha, hb, hab, hw, hf, hch, rfl, rfl⟩ := h
  refine ⟨_, (pss_cons (ps_par (i := 4) (j := 5) rfl sc_law_seen_right.nd rfl rfl (by decide) rfl rfl (pa_cons (pe_callX G_law_bytes (hr.mono (by decide)) (by rfl) (pa_cons (pv 1) pa_nil)) (pa_cons (pe_callX G_words_of (hr.mono (by decide)) (by rfl) (pa_cons (pv 0) (pa_cons (pv 2) pa_nil))) pa_nil)) (by rfl))
      (pss_cons (ps_set (i := 6) sc_law_seen_right.nd rfl (Or.inl rfl) (pe_callX G_words_of (hr.mono (by decide)) (by rfl) (pa_cons (pv 1) (pa_cons (pv 2) pa_nil))))
      (pss_cons (ps_for PassesOwn.never rfl (pi_enumK K rfl (by rfl) T.b.enumerate (pa_cons (pe_callX G_places (hr.mono (by decide)) (by rfl) (pa_cons (pv 2) pa_nil)) pa_nil)) (pg_tupK K rfl (n := 2) rfl (pgs_cons (pg_name (i := 7) sc_law_seen_right.nd rfl (Or.inl rfl)) (pgs_cons (pg_name (i := 8) sc_law_seen_right.nd rfl (Or.inl rfl)) pgs_nil)))
        (pss_cons (ps_if (pt_cmpR op_ne (pe_ix (ix_listK K rfl) (pv 6) (pv 7) (fun _ _ => rfl)) (pe_callX G_law_by (hr.mono (by decide)) (by rfl) (pa_cons (pv 4) (pa_cons (pv 8) (pa_cons (pe_ix (ix_tupK K rfl) (pv 2) (pe_int) (fun _ _ => rfl)) (pa_cons (pe_ix (ix_tupK K rfl) (pv 2) (pe_int) (fun _ _ => rfl)) pa_nil))))) (nomark _))
          (pss_one (ps_ret (pe_bl)))
          pss_nil)
        (pss_cons (ps_setLc (i := 9) (own := [("_law_byte", 10)]) rfl sc_law_seen_right.nd rfl rfl (sw_true rfl rfl rfl (by decide +kernel)) (pi_range2 (by rfl) T.b.range (pa_cons (pv 8) (pa_cons (pe_op op_add (pv 8) (pe_ix (ix_tupK K rfl) (pv 2) (pe_int) (fun _ _ => rfl))) pa_nil))) (blkOk_by (N := ["_law_ahead", "_law_behind", "_law_window_here", "_law_changed", "_law_single", "_law_old", "_law_found", "_law_k", "_law_place", "_law_met", "_law_byte"]) (sc := defScope s_law_seen_right) (by decide +kernel)) (fun _ _ _ _ _ => (pg_name (i := 10) sc_law_seen_right.nd rfl (Or.inl rfl))) (fun _ _ _ _ _ => (pts_one (pt_cmpR (op_inK K rfl) (pv 10) (pv 3) rfl))) (fun _ _ _ _ _ => (pv 10)))
        (pss_one (ps_if (PW.pt (pw_and (pt_cmpR (op_eqK K rfl hr.units) (pv 9) (pe_lst pa_nil) (nomark _)) (pw_and1 (pt_cmpR op_ne (pe_ix (ix_listK K rfl) (pv 6) (pv 7) (fun _ _ => rfl)) (pe_ix (ix_listK K rfl) (pv 5) (pv 7) (fun _ _ => rfl)) (nomark _)))))
          (pss_one (ps_ret (pe_bl)))
          pss_nil)))))
      (pss_one (ps_ret (pe_bl)))))), ?_⟩
  dsimp only [cxOf, List.map, List.replicate, List.cons_append, List.nil_append]
  have hfb : w'.fits b.length := by rw [← hab]; exact hf
  refine st_par (ea_cons (ev_call (ea_cons (ev_var rfl) ea_nil) ⟨b, hb, rfl, rfl⟩) (ea_cons (ev_call (ea_cons (ev_var rfl) (ea_cons (ev_var rfl) ea_nil)) ⟨a, w', ha, hw, hf, rfl, rfl⟩) ea_nil)) ?_
  refine st_set (ev_call (ea_cons (ev_var rfl) (ea_cons (ev_var rfl) ea_nil)) ⟨b, w', hb, hw, hfb, rfl, rfl⟩) ?_
  refine st_forT (xs := w'.places.zipIdx) (enc := fun q => PyData.tuple [nD q.2, .int q.1]) (fun i M' ρ' => M' = [] ∧ ∃ s7 s8 s9 s10, ρ' = [.val (rowD a), .val (rowD b), .val (winD w'), .val (.list (cs.map PyData.int)), .val (.list (b.map PyData.int)), .val (.list ((w'.words a).map PyData.int)), .val (.list ((w'.words b).map PyData.int)), s7, s8, s9, s10]) ?_ ⟨rfl, _, _, _, _, rfl⟩ ?_ ?_
  · rw [← enumD_idx PyData.int]
    exact it_enum (ea_cons (ev_call (ea_cons (ev_var rfl) ea_nil) ⟨w', hw, rfl, rfl⟩) ea_nil)
  · rintro i hi M' ρ' ⟨rfl, s7, s8, s9, s10, rfl⟩
    have hi' : i < w'.places.length := by rw [List.length_zipIdx] at hi; exact hi
    have eg : w'.places.zipIdx[i] = (w'.places[i], i) := by rw [List.getElem_zipIdx, Nat.zero_add]
    rw [eg]
    obtain ⟨h0, h1, h2, h3⟩ := fitsW hf (List.getElem_mem hi') ha.len
    have h512 := ha.len
    have hw8 := wIs hw
    refine ⟨_, _, gd_tup (gds_cons gd_name (gds_cons gd_name gds_nil)), ?_⟩
    refine st_guard (et_test (ev_op (ev_op (ev_var rfl) (ev_var rfl) (rd_ixL (words_get hi'))) (ev_call (ea_cons (ev_var rfl) (ea_cons (ev_is (ev_var rfl) (congrArg PyData.int h2.symm)) (ea_cons (ev_op (ev_var rfl) ev_int (rd_ixT rfl)) (ea_cons (ev_op (ev_var rfl) ev_int (rd_ixT rfl)) ea_nil)))) ⟨b, w'.places[i].toNat, w'.w, w'.low, hb, h1, hw8, rfl, rfl⟩) rd_neI)) (by simp) ?_
    refine st_set (d := .list ((((List.range w'.w).filter fun i' : Nat => decide (w'.places[i] + (i' : Int) ∈ cs)).map fun i' : Nat => w'.places[i] + (i' : Int)).map PyData.int)) (ev_is (el_d (el_filt (xs := List.range w'.w) (enc := fun i' : Nat => PyData.int (w'.places[i] + (i' : Int))) (fun i' : Nat => decide (w'.places[i] + (i' : Int) ∈ cs)) (fun i' : Nat => PyData.int (w'.places[i] + (i' : Int))) ?_ (by rw [List.length_range]; omega) fun x hx => ⟨_, _, gd_name, by decide, et_test (ev_op (ev_var rfl) (ev_var rfl) (rd_inI (.inl rfl))), fun _ => ev_var rfl⟩)) (by rw [List.map_map]; rfl)) ?_
    · have e : (List.range w'.w).map (fun i' : Nat => PyData.int (w'.places[i] + (i' : Int))) = rgD w'.places[i] (w'.places[i] + (w'.w : Int) - w'.places[i]).toNat := by
        unfold rgD
        rw [show (w'.places[i] + (w'.w : Int) - w'.places[i]).toNat = w'.w by omega]
      rw [e]
      exact it_range2 (ea_cons (ev_var rfl) (ea_cons (ev_op (ev_var rfl) (ev_op (ev_var rfl) ev_int (rd_ixT rfl)) rd_I0) ea_nil)) ⟨by omega, by omega⟩ ⟨by omega, by omega⟩
    have hmet := met_word (a := a) (b := b) (w := w') h0 (fun j => decide (j ∈ cs)) (fun j hj => hch j (of_decide_eq_false hj))
    generalize ((List.range w'.w).filter fun i' : Nat => decide (w'.places[i] + (i' : Int) ∈ cs)).map (fun i' : Nat => w'.places[i] + (i' : Int)) = met at hmet
    refine st_one (st_guard (b := false) (et_is (et_and (et_test (ev_op (ev_var rfl) (ev_lst ea_nil) (rd_eqLI (ys := [])))) fun _ => et_test (ev_op (ev_op (ev_var rfl) (ev_var rfl) (rd_ixL (words_get hi'))) (ev_op (ev_var rfl) (ev_var rfl) (rd_ixL (words_get hi'))) rd_neI)) ?_) rfl (st_next ⟨rfl, _, _, _, _, rfl⟩))
    by_cases he : met = []
    · rw [hmet he]
      simp
    · simp [he]
  · rintro M' ρ' ⟨rfl, s7, s8, s9, s10, rfl⟩
    exact st_ret ev_bl rfl
end
end K37

set_option Elab.async false
set_option linter.all false
set_option maxRecDepth 100000
set_option maxHeartbeats 4000000
namespace K37
open PySem PySem.Spec PyProof.Rows L2 RZ
local macro_rules | `(tactic| walk_at "ev") => `(tactic| first
  | with_reducible exact ev_int
  | with_reducible exact ev_str
  | with_reducible exact ev_bl
  | with_reducible exact ev_non
  | exact ev_var rfl
  | with_reducible exact ea_nil
  | with_reducible apply ea_cons
  | with_reducible apply ev_isiI
  | with_reducible apply ev_isiB
  | with_reducible apply ev_isiT
  | with_reducible apply ev_isiS
  | with_reducible apply ev_isiL
  | with_reducible apply ev_chain
  | with_reducible apply ev_andV
  | with_reducible apply ev_orV
  | with_reducible apply ev_notV
  | with_reducible apply ev_kdI
  | with_reducible apply ev_op
  | with_reducible apply ev_un
  | with_reducible exact rd_B0
  | with_reducible exact rd_I0
  | with_reducible apply rd_I
  | with_reducible exact ud_neg
  | with_reducible exact rd_eqI
  | with_reducible exact rd_neI
  | with_reducible exact rd_eqS
  | with_reducible exact rd_isN
  | exact rd_ixT rfl
  | exact rd_ixL rfl
  | with_reducible apply ev_call
  | with_reducible apply ev_cb
  | exact cd_len (.inl rfl)
  | exact cd_len (.inr rfl)
  | with_reducible exact cd_abs
  | with_reducible exact cd_max
  | with_reducible exact cd_min
  | with_reducible exact cd_intB
  | with_reducible exact cd_tuple
  | with_reducible exact cd_allM
  | with_reducible exact cd_sumM
  | with_reducible apply ev_tup
  | with_reducible apply ev_lst
  | with_reducible apply ev_sl
  | with_reducible exact sd_tup
  | with_reducible exact eo_none
  | with_reducible apply eo_some
  | with_reducible apply ev_revT
  | with_reducible apply et_not
  | with_reducible apply et_and
  | with_reducible apply et_or
  | with_reducible apply et_test
  | with_reducible apply et_B
  | with_reducible exact et_yes
  | with_reducible exact gd_name
  | with_reducible apply gd_tup
  | with_reducible apply gds_cons
  | with_reducible exact gds_nil
  | with_reducible (exact Nat.le_of_ble_eq_true rfl)
  | (with_reducible show (_ : List PD → PD → Prop) _ _); assumption
  | with_reducible (refine fun (_ : _ = true) => ?_)
  | with_reducible (refine fun (_ : _ = false) => ?_))

theorem lowSum_fits : ∀ l : List Int, (∀ x ∈ l, 0 ≤ x ∧ x ≤ 255) → 0 ≤ lowSum l ∧ lowSum l < 256 ^ l.length
  | [], _ => by
    show (0 : Int) ≤ 0 ∧ (0 : Int) < 256 ^ 0
    decide
  | b :: l, h => by
    obtain ⟨h1, h2⟩ := lowSum_fits l fun x hx => h x (List.mem_cons_of_mem _ hx)
    have hb := h b (List.mem_cons_self ..)
    show 0 ≤ b + 256 * lowSum l ∧ b + 256 * lowSum l < 256 ^ (l.length + 1)
    rw [Int.pow_succ]
    omega
theorem wordIn_fits {r : List Int} {p w : Nat} {low : Bool} (hr : IsRow r) (h : p + w ≤ r.length) : 0 ≤ wordIn r p w low ∧ wordIn r p w low < 256 ^ w := by
  rw [wordIn_low]
  have hb : ∀ x ∈ cutB r p w, 0 ≤ x ∧ x ≤ 255 := fun x hx => hr.byte x (List.mem_of_mem_drop (List.mem_of_mem_take hx))
  have hl := cutB_len h
  cases low with
  | true =>
    rw [if_pos rfl]
    have := lowSum_fits _ hb
    rw [hl] at this
    exact this
  | false =>
    rw [if_neg Bool.false_ne_true]
    have := lowSum_fits (cutB r p w).reverse fun x hx => hb x (List.mem_reverse.mp hx)
    rw [List.length_reverse, hl] at this
    exact this
/-- whether a byte is one of a cell at these places -/
def touched (ps : List Int) (w : Nat) (j : Int) : Bool := ps.any fun p => decide (p ≤ j) && decide (j < p + (w : Int))
theorem touched_step {ps : List Int} {w i : Nat} {j : Int} (h : i < ps.length) : touched (ps.take (i + 1)) w j = (touched (ps.take i) w j || decide (j ∈ (List.range w).map fun k : Nat => ps[i] + (k : Int))) := by
  unfold touched
  rw [List.take_add_one, List.getElem?_eq_getElem h, List.any_append]
  congr 1
  show (List.any [ps[i]] _) = _
  rw [List.any_cons, List.any_nil, Bool.or_false, Bool.eq_iff_iff]
  simp only [Bool.and_eq_true, decide_eq_true_eq, List.mem_map, List.mem_range]
  constructor
  · intro h
    exact ⟨(j - ps[i]).toNat, by omega, by omega⟩
  · rintro ⟨k, hk, rfl⟩
    omega
section
variable {P : Program} {w : World} {K : PySem.W.Frag} {mg : Str → Option Value} {base : Heap} {wa oa da : Addr}
theorem ok_law_seen_rightD (T : Top K mg wa oa da) (F : TopF K mg "_law_seen_right" s_law_seen_right ["_law_ahead", "_law_behind", "_law_window_here", "_law_changed"]) (G_words_of : FN_words_of P w K mg base) (G_law_bytes : FN_law_bytes P w K mg base) (G_places : FN_places P w K mg base) (G_law_by : FN_law_by P w K mg base) : FN_law_seen_rightD P w K mg base := by
  refine fx_mut F sc_law_seen_right (fun ds m h => by obtain ⟨_, _, _, _, _, _, _, _, _, _, rfl, _⟩ := h; rfl) 7 rfl fun f cdv A outer s H E p m ds hr h => ?_
  obtain ⟨a, b, w', kvs, ha, hb, hab, hw, hf, hch, rfl, rfl⟩ := h
  refine ⟨_, (pss_cons (ps_par (i := 4) (j := 5) rfl sc_law_seen_right.nd rfl rfl (by decide) rfl rfl (pa_cons (pe_callX G_law_bytes (hr.mono (by decide)) (by rfl) (pa_cons (pv 1) pa_nil)) (pa_cons (pe_callX G_words_of (hr.mono (by decide)) (by rfl) (pa_cons (pv 0) (pa_cons (pv 2) pa_nil))) pa_nil)) (by rfl))
      (pss_cons (ps_set (i := 6) sc_law_seen_right.nd rfl (Or.inl rfl) (pe_callX G_words_of (hr.mono (by decide)) (by rfl) (pa_cons (pv 1) (pa_cons (pv 2) pa_nil))))
      (pss_cons (ps_for PassesOwn.never rfl (pi_enumK K rfl (by rfl) T.b.enumerate (pa_cons (pe_callX G_places (hr.mono (by decide)) (by rfl) (pa_cons (pv 2) pa_nil)) pa_nil)) (pg_tupK K rfl (n := 2) rfl (pgs_cons (pg_name (i := 7) sc_law_seen_right.nd rfl (Or.inl rfl)) (pgs_cons (pg_name (i := 8) sc_law_seen_right.nd rfl (Or.inl rfl)) pgs_nil)))
        (pss_cons (ps_if (pt_cmpR op_ne (pe_ix (ix_listK K rfl) (pv 6) (pv 7) (fun _ _ => rfl)) (pe_callX G_law_by (hr.mono (by decide)) (by rfl) (pa_cons (pv 4) (pa_cons (pv 8) (pa_cons (pe_ix (ix_tupK K rfl) (pv 2) (pe_int) (fun _ _ => rfl)) (pa_cons (pe_ix (ix_tupK K rfl) (pv 2) (pe_int) (fun _ _ => rfl)) pa_nil))))) (nomark _))
          (pss_one (ps_ret (pe_bl)))
          pss_nil)
        (pss_cons (ps_setLc (i := 9) (own := [("_law_byte", 10)]) rfl sc_law_seen_right.nd rfl rfl (sw_true rfl rfl rfl (by decide +kernel)) (pi_range2 (by rfl) T.b.range (pa_cons (pv 8) (pa_cons (pe_op op_add (pv 8) (pe_ix (ix_tupK K rfl) (pv 2) (pe_int) (fun _ _ => rfl))) pa_nil))) (blkOk_by (N := ["_law_ahead", "_law_behind", "_law_window_here", "_law_changed", "_law_single", "_law_old", "_law_found", "_law_k", "_law_place", "_law_met", "_law_byte"]) (sc := defScope s_law_seen_right) (by decide +kernel)) (fun _ _ _ _ _ => (pg_name (i := 10) sc_law_seen_right.nd rfl (Or.inl rfl))) (fun _ _ _ _ _ => (pts_one (pt_cmp (pc_din (hu_of hr) (pv 10) (pv 3)) rfl))) (fun _ _ _ _ _ => (pv 10)))
        (pss_one (ps_if (PW.pt (pw_and (pt_cmpR (op_eqK K rfl hr.units) (pv 9) (pe_lst pa_nil) (nomark _)) (pw_and1 (pt_cmpR op_ne (pe_ix (ix_listK K rfl) (pv 6) (pv 7) (fun _ _ => rfl)) (pe_ix (ix_listK K rfl) (pv 5) (pv 7) (fun _ _ => rfl)) (nomark _)))))
          (pss_one (ps_ret (pe_bl)))
          pss_nil)))))
      (pss_one (ps_ret (pe_bl)))))), ?_⟩
  dsimp only [cxOf, List.map, List.replicate, List.cons_append, List.nil_append, insAt]
  have hfb : w'.fits b.length := by rw [← hab]; exact hf
  refine st_par (ea_cons (ev_call (ea_cons (ev_var rfl) ea_nil) ⟨b, hb, rfl, rfl⟩) (ea_cons (ev_call (ea_cons (ev_var rfl) (ea_cons (ev_var rfl) ea_nil)) ⟨a, w', ha, hw, hf, rfl, rfl⟩) ea_nil)) ?_
  refine st_set (ev_call (ea_cons (ev_var rfl) (ea_cons (ev_var rfl) ea_nil)) ⟨b, w', hb, hw, hfb, rfl, rfl⟩) ?_
  refine st_forT (xs := w'.places.zipIdx) (enc := fun q => PyData.tuple [nD q.2, .int q.1]) (fun i M' ρ' => M' = [(p, .dct kvs)] ∧ ∃ s7 s8 s9 s10, ρ' = [.val (rowD a), .val (rowD b), .val (winD w'), .ml p, .val (.list (b.map PyData.int)), .val (.list ((w'.words a).map PyData.int)), .val (.list ((w'.words b).map PyData.int)), s7, s8, s9, s10]) ?_ ⟨rfl, _, _, _, _, rfl⟩ ?_ ?_
  · rw [← enumD_idx PyData.int]
    exact it_enum (ea_cons (ev_call (ea_cons (ev_var rfl) ea_nil) ⟨w', hw, rfl, rfl⟩) ea_nil)
  · rintro i hi M' ρ' ⟨rfl, s7, s8, s9, s10, rfl⟩
    have hi' : i < w'.places.length := by rw [List.length_zipIdx] at hi; exact hi
    have eg : w'.places.zipIdx[i] = (w'.places[i], i) := by rw [List.getElem_zipIdx, Nat.zero_add]
    rw [eg]
    obtain ⟨h0, h1, h2, h3⟩ := fitsW hf (List.getElem_mem hi') ha.len
    have h512 := ha.len
    have hw8 := wIs hw
    refine ⟨_, _, gd_tup (gds_cons gd_name (gds_cons gd_name gds_nil)), ?_⟩
    refine st_guard (et_test (ev_op (ev_op (ev_var rfl) (ev_var rfl) (rd_ixL (words_get hi'))) (ev_call (ea_cons (ev_var rfl) (ea_cons (ev_is (ev_var rfl) (congrArg PyData.int h2.symm)) (ea_cons (ev_op (ev_var rfl) ev_int (rd_ixT rfl)) (ea_cons (ev_op (ev_var rfl) ev_int (rd_ixT rfl)) ea_nil)))) ⟨b, w'.places[i].toNat, w'.w, w'.low, hb, h1, hw8, rfl, rfl⟩) rd_neI)) (by simp) ?_
    refine st_set (d := .list ((((List.range w'.w).filter fun i' : Nat => hasK kvs (w'.places[i] + (i' : Int))).map fun i' : Nat => w'.places[i] + (i' : Int)).map PyData.int)) (ev_is (el_d (el_filt (xs := List.range w'.w) (enc := fun i' : Nat => PyData.int (w'.places[i] + (i' : Int))) (fun i' : Nat => hasK kvs (w'.places[i] + (i' : Int))) (fun i' : Nat => PyData.int (w'.places[i] + (i' : Int))) ?_ (by rw [List.length_range]; omega) fun x hx => ⟨_, _, gd_name, by decide, et_B (ev_din (ev_var rfl) rfl (List.mem_singleton.mpr rfl)), fun _ => ev_var rfl⟩)) (by rw [List.map_map]; rfl)) ?_
    · have e : (List.range w'.w).map (fun i' : Nat => PyData.int (w'.places[i] + (i' : Int))) = rgD w'.places[i] (w'.places[i] + (w'.w : Int) - w'.places[i]).toNat := by
        unfold rgD
        rw [show (w'.places[i] + (w'.w : Int) - w'.places[i]).toNat = w'.w by omega]
      rw [e]
      exact it_range2 (ea_cons (ev_var rfl) (ea_cons (ev_op (ev_var rfl) (ev_op (ev_var rfl) ev_int (rd_ixT rfl)) rd_I0) ea_nil)) ⟨by omega, by omega⟩ ⟨by omega, by omega⟩
    have hmet := met_word (a := a) (b := b) (w := w') h0 (fun j => hasK kvs j) hch
    generalize ((List.range w'.w).filter fun i' : Nat => hasK kvs (w'.places[i] + (i' : Int))).map (fun i' : Nat => w'.places[i] + (i' : Int)) = met at hmet
    refine st_one (st_guard (b := false) (et_is (et_and (et_test (ev_op (ev_var rfl) (ev_lst ea_nil) (rd_eqLI (ys := [])))) fun _ => et_test (ev_op (ev_op (ev_var rfl) (ev_var rfl) (rd_ixL (words_get hi'))) (ev_op (ev_var rfl) (ev_var rfl) (rd_ixL (words_get hi'))) rd_neI)) ?_) rfl (st_next ⟨rfl, _, _, _, _, rfl⟩))
    by_cases he : met = []
    · rw [hmet he]
      simp
    · simp [he]
  · rintro M' ρ' ⟨rfl, s7, s8, s9, s10, rfl⟩
    exact st_ret ev_bl ⟨_, List.mem_singleton.mpr rfl, rfl, rfl⟩
end
end K37

set_option Elab.async false
set_option linter.all false
set_option maxRecDepth 100000
set_option maxHeartbeats 4000000
namespace K37
open PySem PySem.Spec PyProof.Rows L2 RZ
local macro_rules | `(tactic| walk_at "ev") => `(tactic| first
  | with_reducible exact ev_int
  | with_reducible exact ev_str
  | with_reducible exact ev_bl
  | with_reducible exact ev_non
  | exact ev_var rfl
  | with_reducible exact ea_nil
  | with_reducible apply ea_cons
  | with_reducible apply ev_isiI
  | with_reducible apply ev_isiB
  | with_reducible apply ev_isiT
  | with_reducible apply ev_isiS
  | with_reducible apply ev_isiL
  | with_reducible apply ev_chain
  | with_reducible apply ev_andV
  | with_reducible apply ev_orV
  | with_reducible apply ev_notV
  | with_reducible apply ev_kdI
  | with_reducible apply ev_op
  | with_reducible apply ev_un
  | with_reducible exact rd_B0
  | with_reducible exact rd_I0
  | with_reducible apply rd_I
  | with_reducible exact ud_neg
  | with_reducible exact rd_eqI
  | with_reducible exact rd_neI
  | with_reducible exact rd_eqS
  | with_reducible exact rd_isN
  | exact rd_ixT rfl
  | exact rd_ixL rfl
  | with_reducible apply ev_call
  | with_reducible apply ev_cb
  | exact cd_len (.inl rfl)
  | exact cd_len (.inr rfl)
  | with_reducible exact cd_abs
  | with_reducible exact cd_max
  | with_reducible exact cd_min
  | with_reducible exact cd_intB
  | with_reducible exact cd_tuple
  | with_reducible exact cd_allM
  | with_reducible exact cd_sumM
  | with_reducible apply ev_tup
  | with_reducible apply ev_lst
  | with_reducible apply ev_sl
  | with_reducible exact sd_tup
  | with_reducible exact eo_none
  | with_reducible apply eo_some
  | with_reducible apply ev_revT
  | with_reducible apply et_not
  | with_reducible apply et_and
  | with_reducible apply et_or
  | with_reducible apply et_test
  | with_reducible apply et_B
  | with_reducible exact et_yes
  | with_reducible exact gd_name
  | with_reducible apply gd_tup
  | with_reducible apply gds_cons
  | with_reducible exact gds_nil
  | with_reducible (exact Nat.le_of_ble_eq_true rfl)
  | (with_reducible show (_ : List PD → PD → Prop) _ _); assumption
  | with_reducible (refine fun (_ : _ = true) => ?_)
  | with_reducible (refine fun (_ : _ = false) => ?_))
section
variable {P : Program} {w : World} {K : PySem.W.Frag} {mg : Str → Option Value} {base : Heap} {wa oa da : Addr}
theorem zip_places {w : Win} {xs : List Int} {i : Nat} (h : i < (w.cells.zip xs).length) : w.place (w.cells.zip xs)[i].1 ∈ w.places ∧ CellOk w (w.cells.zip xs)[i].1 ∧ (w.cells.zip xs)[i].2 ∈ xs ∧ (w.places.zip xs)[i]? = some (w.place (w.cells.zip xs)[i].1, (w.cells.zip xs)[i].2) := by
  have hm := List.getElem_mem h
  have h1 := (List.of_mem_zip hm).1
  have h2 := (List.of_mem_zip hm).2
  refine ⟨w.place_mem h1, w.cell_ok h1, h2, ?_⟩
  have e : w.places.zip xs = (w.cells.zip xs).map fun p => (w.place p.1, p.2) := by
    rw [← w.cell_place]
    have key : ∀ (cs : List (List Nat)) (ys : List Int), (cs.map w.place).zip ys = (cs.zip ys).map fun p => (w.place p.1, p.2) := by
      intro cs
      induction cs with
      | nil => intro ys; rfl
      | cons c cs ih =>
        intro ys
        cases ys with
        | nil => rfl
        | cons y ys =>
          show (w.place c, y) :: (cs.map w.place).zip ys = (w.place c, y) :: (cs.zip ys).map fun p => (w.place p.1, p.2)
          rw [ih ys]
    exact key _ _
  rw [e, List.getElem?_map, List.getElem?_eq_getElem h]
  rfl
theorem fillP_take {r : List Int} {b : Nat} {low : Bool} {ps : List (Int × Int)} {i : Nat} {q : Int × Int} (h : ps[i]? = some q) : fillP r b low (ps.take (i + 1)) = withWord (fillP r b low (ps.take i)) q.1.toNat q.2 b low := by
  obtain ⟨h1, h2⟩ := List.getElem?_eq_some_iff.mp h
  unfold fillP
  rw [foldl_take_succ _ _ _ _ h1, h2]
def R_law_written_right : List PD → PD → Prop := fun ds d => ∃ (r : List Int) (w0 : Win) (ws : List Win) (ns : List Int), IsRow r ∧ ws.length ≤ 10 ∧ (∀ w ∈ w0 :: ws, IsWin w ∧ w.fits r.length) ∧ ns.length = w0.cells.length + 1 ∧ (∀ n ∈ ns, 0 ≤ n ∧ n < 306783379) ∧
  ds = [rowD r, .list ((w0 :: ws).map winD), .list (ns.map PyData.int)] ∧ d = .bool true
abbrev FN_law_written_right (P : Program) (w : World) (K : PySem.W.Frag) (mg : Str → Option Value) (base : Heap) : Prop := FnX P w K mg base "_law_written_right" ["_law_row_here", "_law_windows", "_law_drawn"] 9 (spD K R_law_written_right)
theorem ok_law_written_right (T : Top K mg wa oa da) (F : TopF K mg "_law_written_right" s_law_written_right ["_law_row_here", "_law_windows", "_law_drawn"]) (G_filled : FN_filled P w K mg base) (G_law_cells : FN_law_cells P w K mg base) (G_places : FN_places P w K mg base) (G_written : FN_written P w K mg base) (G_law_any_word : FN_law_any_word P w K mg base) (G_word_at : FN_word_at P w K mg base) (G_law_bytes : FN_law_bytes P w K mg base) (G_law_seen_right : FN_law_seen_right P w K mg base) (G_words_of : FN_words_of P w K mg base) (G_law_seen_rightD : FN_law_seen_rightD P w K mg base) : FN_law_written_right P w K mg base := by
  refine fx_pure F sc_law_written_right (fun ds d h => by first | (obtain ⟨_, rfl, _⟩ := h; rfl) | (obtain ⟨_, _, rfl, _⟩ := h; rfl) | (obtain ⟨_, _, _, rfl, _⟩ := h; rfl) | (obtain ⟨_, _, _, _, rfl, _⟩ := h; rfl) | (obtain ⟨_, _, _, _, _, rfl, _⟩ := h; rfl) | (obtain ⟨_, _, _, _, _, _, rfl, _⟩ := h; rfl) | (obtain ⟨_, _, _, _, _, _, _, rfl, _⟩ := h; rfl) | (obtain ⟨_, _, _, _, _, _, _, _, rfl, _⟩ := h; rfl) | (obtain ⟨_, _, _, _, _, _, _, _, _, rfl, _⟩ := h; rfl) | (obtain ⟨_, _, _, _, _, _, _, _, _, _, rfl, _⟩ := h; rfl) | (obtain ⟨_, _, _, _, _, _, _, _, _, _, _, rfl, _⟩ := h; rfl) | (obtain ⟨_, _, _, _, _, _, _, _, _, _, _, _, rfl, _⟩ := h; rfl) | (obtain ⟨_, _, _, _, _, _, _, _, _, _, _, _, _, rfl, _⟩ := h; rfl) | (obtain ⟨_, _, _, _, _, _, _, _, _, _, _, _, _, _, rfl, _⟩ := h; rfl)) 18 rfl fun f cdv A outer s H E ds d hr h => ?_
  obtain ⟨r, w0, ws, ns, hr', hwl, hws, hnl, hnb, rfl, rfl⟩ := h
  obtain ⟨hw, hf⟩ := hws w0 (List.mem_cons_self ..)
  refine ⟨_, (pss_cons (ps_set (i := 3) sc_law_written_right.nd rfl (Or.inr rfl) (pe_ix (ix_listK K rfl) (pv 1) (pe_int) (fun _ _ => rfl)))
      (pss_cons (ps_par (i := 4) (j := 5) rfl sc_law_written_right.nd rfl rfl (by decide) rfl rfl (pa_cons (pe_callX G_law_cells (hr.mono (by decide)) (by rfl) (pa_cons (pv 3) pa_nil)) (pa_cons (pe_callX G_places (hr.mono (by decide)) (by rfl) (pa_cons (pv 3) pa_nil)) pa_nil)) (by rfl))
      (pss_cons (ps_par (i := 6) (j := 7) rfl sc_law_written_right.nd rfl rfl (by decide) rfl rfl (pa_cons (pe_lc (own := [("_law_number", 8)]) (tt := tYes) rfl sc_law_written_right.nd (pi_listK K rfl (pe_slice (sl_listK K rfl) (pv 2) po_none (po_some (pe_callB (cr_lenK K rfl) (by rfl) T.b.len (by decide +kernel) (pa_cons (pv 4) pa_nil))))) (blkOk_by (N := ["_law_row_here", "_law_windows", "_law_drawn", "_law_window_here", "_law_cells_here", "_law_where", "_law_words", "_law_n", "_law_number", "_law_step", "_law_cell_here", "_law_word", "_law_whole", "_law_every", "_law_place", "_law_byte", "_law_wrong", "_law_one", "_law_some", "_law_changed", "_law_k"]) (sc := defScope s_law_written_right) (by decide +kernel)) (fun _ _ _ _ _ => (pg_name (i := 8) sc_law_written_right.nd rfl (Or.inl rfl))) (fun _ _ _ _ _ => pts_nil) (fun _ _ _ _ _ => (pe_callX G_law_any_word (hr.mono (by decide)) (by rfl) (pa_cons (pv 8) (pa_cons (pe_ix (ix_tupK K rfl) (pv 3) (pe_int) (fun _ _ => rfl)) pa_nil))))) (pa_cons (pe_ix (ix_listK K rfl) (pv 2) (pe_un un_neg (pe_int)) (fun _ _ => rfl)) pa_nil)) (by rfl))
      (pss_cons (ps_set (i := 9) sc_law_written_right.nd rfl (Or.inl rfl) (pv 0))
      (pss_cons (ps_for PassesOwn.never rfl (pi_zipK K rfl (by rfl) T.b.zip (pa_cons (pv 4) (pa_cons (pv 6) pa_nil))) (pg_tupK K rfl (n := 2) rfl (pgs_cons (pg_name (i := 10) sc_law_written_right.nd rfl (Or.inl rfl)) (pgs_cons (pg_name (i := 11) sc_law_written_right.nd rfl (Or.inl rfl)) pgs_nil)))
        (pss_cons (ps_set (i := 9) sc_law_written_right.nd rfl (Or.inl rfl) (pe_callX G_written (hr.mono (by decide)) (by rfl) (pa_cons (pv 9) (pa_cons (pv 3) (pa_cons (pv 10) (pa_cons (pv 11) pa_nil))))))
        (pss_one (ps_if (pt_cmpR op_ne (pe_callX G_word_at (hr.mono (by decide)) (by rfl) (pa_cons (pv 9) (pa_cons (pv 3) (pa_cons (pv 10) pa_nil)))) (pv 11) (nomark _))
          (pss_one (ps_ret (pe_bl)))
          pss_nil))))
      (pss_cons (ps_set (i := 12) sc_law_written_right.nd rfl (Or.inr rfl) (pe_callX G_filled (hr.mono (by decide)) (by rfl) (pa_cons (pv 0) (pa_cons (pv 3) (pa_cons (pv 6) pa_nil)))))
      (pss_cons (ps_set (i := 13) sc_law_written_right.nd rfl (Or.inr rfl) (pe_dnewK))
      (pss_cons (ps_for PassesOwn.never rfl (pi_listK K rfl (pv 5)) (pg_name (i := 14) sc_law_written_right.nd rfl (Or.inl rfl))
        (pss_one (ps_expr (pe_bm PySem.F.plainAttrs_dict PySem.F.slot_dict_update PySem.F.type_dict_update mt_update (pv 13) (pa_cons (pe_callTy (cr_dictP K rfl rfl) (by rfl) T.b.dict (by decide +kernel) (pa_cons (pe_lc (own := [("_law_byte", 15)]) (tt := tYes) rfl sc_law_written_right.nd (pi_range2 (by rfl) T.b.range (pa_cons (pv 14) (pa_cons (pe_op op_add (pv 14) (pe_ix (ix_tupK K rfl) (pv 3) (pe_int) (fun _ _ => rfl))) pa_nil))) (blkOk_by (N := ["_law_row_here", "_law_windows", "_law_drawn", "_law_window_here", "_law_cells_here", "_law_where", "_law_words", "_law_n", "_law_number", "_law_step", "_law_cell_here", "_law_word", "_law_whole", "_law_every", "_law_place", "_law_byte", "_law_wrong", "_law_one", "_law_some", "_law_changed", "_law_k"]) (sc := defScope s_law_written_right) (by decide +kernel)) (fun _ _ _ _ _ => (pg_name (i := 15) sc_law_written_right.nd rfl (Or.inl rfl))) (fun _ _ _ _ _ => pts_nil) (fun _ _ _ _ _ => (pe_tup (pa_cons (pv 15) (pa_cons (pe_bl) pa_nil))))) pa_nil)) pa_nil)))))
      (pss_cons (ps_setLc (i := 16) (own := [("_law_one", 17)]) rfl sc_law_written_right.nd rfl rfl (sw_true rfl rfl rfl (by decide +kernel)) (pi_listK K rfl (pv 1)) (blkOk_by (N := ["_law_row_here", "_law_windows", "_law_drawn", "_law_window_here", "_law_cells_here", "_law_where", "_law_words", "_law_n", "_law_number", "_law_step", "_law_cell_here", "_law_word", "_law_whole", "_law_every", "_law_place", "_law_byte", "_law_wrong", "_law_one", "_law_some", "_law_changed", "_law_k"]) (sc := defScope s_law_written_right) (by decide +kernel)) (fun _ _ _ _ _ => (pg_name (i := 17) sc_law_written_right.nd rfl (Or.inl rfl))) (fun _ _ _ _ _ => (pts_one (pt_not (pt_val (pe_callX G_law_seen_rightD (hr.mono (by decide)) (by rfl) (pa_cons (pv 0) (pa_cons (pv 12) (pa_cons (pv 17) (pa_cons (pv 13) pa_nil))))))))) (fun _ _ _ _ _ => (pv 17)))
      (pss_cons (ps_if (PW.pt (pw_or (pt_cmpR (op_neK K rfl hr.units) (pv 12) (pv 9) (nomark _)) (pw_or1 (pt_cmpR (op_neK K rfl hr.units) (pv 16) (pe_lst pa_nil) (nomark _)))))
        (pss_one (ps_ret (pe_bl)))
        pss_nil)
      (pss_cons (ps_if (PW.pt (pw_or (pt_cmpR (op_neK K rfl hr.units) (pe_callX G_filled (hr.mono (by decide)) (by rfl) (pa_cons (pv 12) (pa_cons (pv 3) (pa_cons (pe_callX G_words_of (hr.mono (by decide)) (by rfl) (pa_cons (pv 12) (pa_cons (pv 3) pa_nil))) pa_nil)))) (pv 12) (nomark _)) (pw_or1 (pt_cmpR (op_neK K rfl hr.units) (pe_callX G_law_bytes (hr.mono (by decide)) (by rfl) (pa_cons (pv 12) pa_nil)) (pe_callTy (cr_listK K rfl) (by rfl) T.b.list (by decide +kernel) (pa_cons (pv 12) pa_nil)) (nomark _)))))
        (pss_one (ps_ret (pe_bl)))
        pss_nil)
      (pss_cons (ps_for PassesOwn.never rfl (pi_listK K rfl (pe_slice (sl_listK K rfl) (pe_slice (sl_listK K rfl) (pe_listZip3 K rfl rfl (by rfl) T.b.list (by rfl) T.b.zip (pa_cons (pv 4) (pa_cons (pv 6) (pa_cons (pv 5) pa_nil)))) (po_some (pe_op op_mod (pv 7) (pe_callB (cr_max2 rfl) (by rfl) T.b.max (by decide +kernel) (pa_cons (pe_int) (pa_cons (pe_callB (cr_lenK K rfl) (by rfl) T.b.len (by decide +kernel) (pa_cons (pv 4) pa_nil)) pa_nil))))) po_none) po_none (po_some (pe_int)))) (pg_tupK K rfl (n := 3) rfl (pgs_cons (pg_name (i := 10) sc_law_written_right.nd rfl (Or.inl rfl)) (pgs_cons (pg_name (i := 11) sc_law_written_right.nd rfl (Or.inl rfl)) (pgs_cons (pg_name (i := 14) sc_law_written_right.nd rfl (Or.inl rfl)) pgs_nil))))
        (pss_cons (ps_set (i := 18) sc_law_written_right.nd rfl (Or.inr rfl) (pe_callX G_written (hr.mono (by decide)) (by rfl) (pa_cons (pv 0) (pa_cons (pv 3) (pa_cons (pv 10) (pa_cons (pv 11) pa_nil))))))
        (pss_cons (ps_set (i := 19) sc_law_written_right.nd rfl (Or.inr rfl) (pe_listRg rfl (by rfl) T.b.list (prg_2 (by rfl) T.b.range (pv 14) (pe_op op_add (pv 14) (pe_ix (ix_tupK K rfl) (pv 3) (pe_int) (fun _ _ => rfl))))))
        (pss_cons (ps_if (pt_not (pt_val (pe_callB (cr_allK K rfl rfl) (by rfl) T.b.all (by decide +kernel) (pa_cons (pe_lc (own := [("_law_one", 17)]) (tt := tYes) rfl sc_law_written_right.nd (pi_listK K rfl (pv 1)) (blkOk_by (N := ["_law_row_here", "_law_windows", "_law_drawn", "_law_window_here", "_law_cells_here", "_law_where", "_law_words", "_law_n", "_law_number", "_law_step", "_law_cell_here", "_law_word", "_law_whole", "_law_every", "_law_place", "_law_byte", "_law_wrong", "_law_one", "_law_some", "_law_changed", "_law_k"]) (sc := defScope s_law_written_right) (by decide +kernel)) (fun _ _ _ _ _ => (pg_name (i := 17) sc_law_written_right.nd rfl (Or.inl rfl))) (fun _ _ _ _ _ => pts_nil) (fun _ _ _ _ _ => (pe_callX G_law_seen_right (hr.mono (by decide)) (by rfl) (pa_cons (pv 0) (pa_cons (pv 18) (pa_cons (pv 17) (pa_cons (pv 19) pa_nil))))))) pa_nil))))
          (pss_one (ps_ret (pe_bl)))
          pss_nil)
        (pss_one (ps_if (pt_cmpR (op_neK K rfl hr.units) (pe_lc (own := [("_law_k", 20), ("_law_byte", 15)]) rfl sc_law_written_right.nd (pi_enumT K rfl (by rfl) T.b.enumerate (pa_cons (pv 0) pa_nil)) (blkOk_by (N := ["_law_row_here", "_law_windows", "_law_drawn", "_law_window_here", "_law_cells_here", "_law_where", "_law_words", "_law_n", "_law_number", "_law_step", "_law_cell_here", "_law_word", "_law_whole", "_law_every", "_law_place", "_law_byte", "_law_wrong", "_law_one", "_law_some", "_law_changed", "_law_k"]) (sc := defScope s_law_written_right) (by decide +kernel)) (fun _ _ _ _ _ => (pg_tupK K rfl (n := 2) rfl (pgs_cons (pg_name (i := 20) sc_law_written_right.nd rfl (Or.inl rfl)) (pgs_cons (pg_name (i := 15) sc_law_written_right.nd rfl (Or.inl rfl)) pgs_nil)))) (fun _ _ _ _ _ => (pts_one (PW.pt (pw_and (pt_cmpR op_ne (pe_ix (ix_tupK K rfl) (pv 18) (pv 20) (fun _ _ => rfl)) (pv 15) (nomark _)) (pw_and1 (pt_cmpR (op_ninK K rfl) (pv 20) (pv 19) rfl)))))) (fun _ _ _ _ _ => (pv 20))) (pe_lst pa_nil) (nomark _))
          (pss_one (ps_ret (pe_bl)))
          pss_nil))))))
      (pss_one (ps_ret (pe_bl))))))))))))))), ?_⟩
  dsimp only [cxOf, List.map, List.replicate, List.cons_append, List.nil_append]
  have hcl : w0.cells.length ≤ 4096 := by rw [w0.cells_len]; exact hw.len
  have hpl : w0.places.length = w0.cells.length := w0.cells_len.symm
  have hw8 := wIs hw
  have h512 := hr'.len
  refine st_set (d := winD w0) (ev_op (ev_var rfl) ev_int (rd_ixL (atI_nat (j := 0) rfl))) ?_
  refine st_par (ea_cons (ev_call (ea_cons (ev_var rfl) ea_nil) ⟨w0, hw, rfl, rfl⟩) (ea_cons (ev_call (ea_cons (ev_var rfl) ea_nil) ⟨w0, hw, rfl, rfl⟩) ea_nil)) ?_
  have hne : ns ≠ [] := fun z => by rw [z] at hnl; cases hnl
  refine st_par (ea_cons (el_d (el_map (xs := ns.take w0.cells.length) (enc := PyData.int) (fun n => PyData.int (anyWord n w0.w)) (it_list (ev_is (el_d (el_slL (lo := none) (hi := some (w0.cells.length : Int)) (ev_var rfl) eo_none (eo_some (ev_is (ev_cb (ea_cons (ev_var rfl) ea_nil) (cd_len (.inl rfl))) (by rw [List.length_map]))))) (by rw [cutP_to, List.map_take]))) (by rw [List.length_take]; omega) fun a ha => ⟨_, _, gd_name, by decide, ?_⟩)) (ea_cons (ev_op (ev_var rfl) (ev_un ev_int ud_neg) (rd_ixL (atI_neg1 hne))) ea_nil)) ?_
  · exact ev_call (ea_cons (ev_var rfl) (ea_cons (ev_op (ev_var rfl) ev_int (rd_ixT rfl)) ea_nil)) ⟨a, w0.w, hnb a (List.mem_of_mem_take ha), hw.w, rfl, rfl⟩
  -- the words
  have hxl : ((ns.take w0.cells.length).map fun n => anyWord n w0.w).length = w0.cells.length := by
    rw [List.length_map, List.length_take]
    omega
  have hxb : ∀ x ∈ (ns.take w0.cells.length).map (fun n => anyWord n w0.w), 0 ≤ x ∧ x < 256 ^ w0.w := fun x hx => by
    obtain ⟨n, hn, rfl⟩ := List.mem_map.mp hx
    exact anyWord_fits hw.w
  have hxm : (ns.take w0.cells.length).map (fun n => PyData.int (anyWord n w0.w)) = ((ns.take w0.cells.length).map fun n => anyWord n w0.w).map PyData.int := by
    rw [List.map_map]
    rfl
  rw [hxm]
  generalize (ns.take w0.cells.length).map (fun n => anyWord n w0.w) = xs at hxl hxb
  generalize ns.getLast hne = nl
  have hzl : (w0.cells.zip xs).length = w0.cells.length := by rw [List.length_zip]; omega
  have hps : ∀ p ∈ w0.places.zip xs, p.1.toNat + w0.w ≤ r.length := fun p hp => (fitsW hf (List.of_mem_zip hp).1 hr'.len).2.2.2
  have hfill : ∀ i : Nat, (fillP r w0.w w0.low ((w0.places.zip xs).take i)).length = r.length ∧ (∀ x ∈ fillP r w0.w w0.low ((w0.places.zip xs).take i), 0 ≤ x ∧ x ≤ 255) ∧ ∀ j : Nat, (∀ p ∈ (w0.places.zip xs).take i, j < p.1.toNat ∨ p.1.toNat + w0.w ≤ j) → (fillP r w0.w w0.low ((w0.places.zip xs).take i))[j]? = r[j]? :=
    fun i => fillP_spec _ r rfl hr'.byte fun p hp => hps p (List.mem_of_mem_take hp)
  refine st_set (ev_var rfl) ?_
  refine st_forT (xs := w0.cells.zip xs) (enc := fun p => PyData.tuple [cellD p.1, .int p.2]) (fun i M' ρ' => M' = [] ∧ ∃ s10 s11, ρ' = [.val (rowD r), .val (.list ((w0 :: ws).map winD)), .val (.list (ns.map PyData.int)), .val (winD w0), .val (.list (w0.cells.map cellD)), .val (.list (w0.places.map PyData.int)), .val (.list (xs.map PyData.int)), .val (.int nl), .no,
    .val (rowD (fillP r w0.w w0.low ((w0.places.zip xs).take i))), s10, s11, .no, .no, .no, .no, .no, .no, .no, .no, .no]) ?_ ⟨rfl, _, _, rfl⟩ ?_ ?_
  · rw [← zipD_map cellD PyData.int]
    exact it_zip (ea_cons (ev_var rfl) (ea_cons (ev_var rfl) ea_nil))
  · rintro i hi M' ρ' ⟨rfl, s10, s11, rfl⟩
    obtain ⟨hm, hok, hxx, hz⟩ := zip_places (w := w0) (xs := xs) hi
    obtain ⟨h0, h1, h2, h3⟩ := fitsW hf hm hr'.len
    obtain ⟨g1, g2, _⟩ := hfill i
    have hstep : IsRow (fillP r w0.w w0.low ((w0.places.zip xs).take i)) := ⟨by rw [g1]; exact h512, g2⟩
    have hnext : IsRow (fillP r w0.w w0.low ((w0.places.zip xs).take (i + 1))) := ⟨by rw [(hfill (i + 1)).1]; exact h512, (hfill (i + 1)).2.1⟩
    have hx := hxb _ hxx
    have et := fillP_take (r := r) (b := w0.w) (low := w0.low) hz
    refine ⟨_, _, gd_tup (gds_cons gd_name (gds_cons gd_name gds_nil)), ?_⟩
    refine st_set (d := rowD (fillP r w0.w w0.low ((w0.places.zip xs).take (i + 1)))) (ev_call (ea_cons (ev_var rfl) (ea_cons (ev_var rfl) (ea_cons (ev_var rfl) (ea_cons (ev_var rfl) ea_nil)))) ⟨_, w0, _, _, hstep, hw, by rw [g1]; exact hf, hok, h0, by omega, hx.1, hx.2, rfl, by rw [et]⟩) ?_
    refine st_one (st_guard (et_is (et_test (ev_op (ev_call (ea_cons (ev_var rfl) (ea_cons (ev_var rfl) (ea_cons (ev_var rfl) ea_nil))) ⟨_, w0, _, hnext, hw, by rw [(hfill (i + 1)).1]; exact hf, hok, h0, by omega, rfl, rfl⟩) (ev_var rfl) rd_neI)) ?_) rfl (st_next ⟨rfl, _, _, rfl⟩))
    rw [et, written_seen (by rw [g1]; exact h3) hx.1 hx.2]
    simp
  rintro M' ρ' ⟨rfl, s10, s11, rfl⟩
  have hfull : (w0.places.zip xs).take (w0.cells.zip xs).length = w0.places.zip xs := List.take_of_length_le (by rw [List.length_zip, hzl]; omega)
  rw [hfull]
  have hF := hfill (w0.cells.zip xs).length
  rw [hfull] at hF
  obtain ⟨hFl, hFb, hFo⟩ := hF
  refine st_set (d := rowD (fillP r w0.w w0.low (w0.places.zip xs))) (ev_call (ea_cons (ev_var rfl) (ea_cons (ev_var rfl) (ea_cons (ev_var rfl) ea_nil))) ⟨r, w0, xs, hr', hw, hf, by omega, hxb, rfl, rfl⟩) ?_
  generalize hWh : fillP r w0.w w0.low (w0.places.zip xs) = wh at hFl hFb hFo
  have hwR : IsRow wh := ⟨by rw [hFl]; exact h512, hFb⟩
  have hwf : w0.fits wh.length := by rw [hFl]; exact hf
  -- the touched bytes
  refine st_newD fun q hq _ => ?_
  refine st_forT (xs := w0.places) (enc := PyData.int) (fun i M' ρ' => ∃ (kvs : List (Key × V)) (s14 : Sl), kvs.length ≤ 8 * i ∧ (∀ j, hasK kvs j = touched (w0.places.take i) w0.w j) ∧ M' = [(q, .dct kvs)] ∧ ρ' = [.val (rowD r), .val (.list ((w0 :: ws).map winD)), .val (.list (ns.map PyData.int)), .val (winD w0), .val (.list (w0.cells.map cellD)), .val (.list (w0.places.map PyData.int)), .val (.list (xs.map PyData.int)), .val (.int nl), .no,
    .val (rowD wh), s10, s11, .val (rowD wh), .ml q, s14, .no, .no, .no, .no, .no, .no]) (it_list (ev_var rfl)) ⟨[], .no, by decide, fun j => rfl, rfl, by rfl⟩ ?_ ?_
  · rintro i hi M' ρ' ⟨kvs, s14, hkl, hkk, rfl, rfl⟩
    have hp := fitsW hf (List.getElem_mem hi) hr'.len
    have hpl := hw.len
    refine ⟨_, _, gd_name, ?_⟩
    refine st_one (st_dupd (ks := (List.range w0.w).map fun k : Nat => w0.places[i] + (k : Int)) rfl (ev_is (el_d (el_map (xs := List.range w0.w) (enc := fun k : Nat => PyData.int (w0.places[i] + (k : Int))) (fun k : Nat => PyData.tuple [.int (w0.places[i] + (k : Int)), .bool true]) ?_ (by rw [List.length_range]; omega) fun a ha => ⟨_, _, gd_name, by decide, ev_tup (ea_cons (ev_var rfl) (ea_cons ev_bl ea_nil))⟩)) (by rw [List.map_map]; rfl)) (by rw [List.length_map, List.length_range]; omega) (st_next ⟨_, _, ?_, ?_, rfl, rfl⟩))
    · have e : (List.range w0.w).map (fun i' : Nat => PyData.int (w0.places[i] + (i' : Int))) = rgD w0.places[i] (w0.places[i] + (w0.w : Int) - w0.places[i]).toNat := by
        unfold rgD
        rw [show (w0.places[i] + (w0.w : Int) - w0.places[i]).toNat = w0.w by omega]
      rw [e]
      exact it_range2 (ea_cons (ev_var rfl) (ea_cons (ev_op (ev_var rfl) (ev_op (ev_var rfl) ev_int (rd_ixT rfl)) rd_I0) ea_nil)) ⟨by omega, by omega⟩ ⟨by omega, by omega⟩
    · have h1 := length_mergeK (mergeK [] (truePairs ((List.range w0.w).map fun k : Nat => w0.places[i] + (k : Int)))) kvs
      have h2 := length_mergeK (truePairs ((List.range w0.w).map fun k : Nat => w0.places[i] + (k : Int))) []
      have h3 : (truePairs ((List.range w0.w).map fun k : Nat => w0.places[i] + (k : Int))).length = w0.w := by
        unfold truePairs
        rw [List.length_map, List.length_map, List.length_range]
      rw [h3, List.length_nil] at h2
      omega
    · intro j
      rw [hasK_true, hkk, touched_step hi]
  rintro M' ρ' ⟨kvs, s14, hkl, hkk, rfl, rfl⟩
  rw [List.take_length] at hkk
  have hout : ∀ j : Nat, hasK kvs j = false → r[j]? = wh[j]? := fun j hj => by
    refine (hFo j fun p hp => ?_).symm
    rw [hkk] at hj
    unfold touched at hj
    rw [List.any_eq_false] at hj
    have hm := (List.of_mem_zip hp).1
    have h1 := hj p.1 hm
    have h2 := fitsW hf hm hr'.len
    have h1 : ¬ (p.1 ≤ (j : Int) ∧ (j : Int) < p.1 + (w0.w : Int)) := by simpa using h1
    omega
  -- seen through all
  refine st_set (d := .list []) (ev_is (el_d (el_filt (xs := w0 :: ws) (enc := winD) (fun _ => false) winD (it_list (ev_var rfl)) (by rw [List.length_cons]; omega) fun a ha => ⟨_, _, gd_name, by decide, ?_, fun h => by cases h⟩)) ?_) ?_
  · exact et_is (et_not (et_B (ev_callM (eam_cons (ev_var rfl) (eam_cons (ev_var rfl) (eam_cons (ev_var rfl) (eam_here rfl ea_nil)))) (List.mem_singleton.mpr rfl) ⟨r, wh, a, kvs, hr', hwR, hFl.symm, (hws a ha).1, (hws a ha).2, hout, rfl, rfl⟩ (d := .bool true) (fun m' e h => h)))) rfl
  · rw [List.filter_eq_nil_iff.mpr (fun _ _ h => by cases h)]
    rfl
  refine st_guard (et_is (et_or (et_test (ev_op (ev_var rfl) (ev_var rfl) rd_neTI)) fun _ => et_test (ev_op (ev_var rfl) (ev_lst ea_nil) (rd_neLI (xs := []) (ys := [])))) (by simp)) rfl ?_
  have hsame : w0.fill wh (w0.words wh) = wh := fillP_same hwR.byte w0.places fun p hp => (fitsW hwf hp hwR.len).2.2.2
  refine st_guard (et_is (et_or (et_test (ev_op (ev_call (ea_cons (ev_var rfl) (ea_cons (ev_var rfl) (ea_cons (ev_call (ea_cons (ev_var rfl) (ea_cons (ev_var rfl) ea_nil)) ⟨wh, w0, hwR, hw, hwf, rfl, rfl⟩) ea_nil))) ⟨wh, w0, w0.words wh, hwR, hw, hwf, words_len, ?_, rfl, rfl⟩) (ev_var rfl) rd_neTI)) fun _ => et_test (ev_op (ev_call (ea_cons (ev_var rfl) ea_nil) ⟨wh, hwR, rfl, rfl⟩) (ev_cb (ea_cons (ev_var rfl) ea_nil) (cd_list (.inr rfl))) rd_neLI)) (by rw [hsame]; simp)) rfl ?_
  · intro x hx
    unfold Win.words at hx
    obtain ⟨p, hp, rfl⟩ := List.mem_map.mp hx
    exact wordIn_fits hwR (fitsW hwf hp hwR.len).2.2.2
  refine st_forget hq ?_
  -- one word written
  have hq3 : ∀ q ∈ w0.cells.zip (xs.zip w0.places), w0.place q.1 = q.2.2 := by
    rw [← w0.cell_place]
    have key : ∀ (cs : List (List Nat)) (ys : List Int), ∀ q ∈ cs.zip (ys.zip (cs.map w0.place)), w0.place q.1 = q.2.2 := by
      intro cs
      induction cs with
      | nil => intro ys q h; cases h
      | cons c cs ih =>
        intro ys q h
        cases ys with
        | nil => cases h
        | cons y ys =>
          rcases List.mem_cons.mp h with rfl | h
          · rfl
          · exact ih ys q h
    exact key _ _
  have z1 : (w0.cells.zip (xs.zip w0.places)).map (fun q => cellD q.1) = w0.cells.map cellD := by
    rw [show (fun q : List Nat × Int × Int => cellD q.1) = cellD ∘ Prod.fst from rfl, ← List.map_map, List.map_fst_zip (by rw [List.length_zip]; omega)]
  have z2 : (w0.cells.zip (xs.zip w0.places)).map (fun q => PyData.int q.2.1) = xs.map PyData.int := by
    rw [show (fun q : List Nat × Int × Int => PyData.int q.2.1) = (fun p : Int × Int => PyData.int p.1) ∘ Prod.snd from rfl, ← List.map_map, List.map_snd_zip (by rw [List.length_zip]; omega), show (fun p : Int × Int => PyData.int p.1) = PyData.int ∘ Prod.fst from rfl, ← List.map_map, List.map_fst_zip (by omega)]
  have z3 : (w0.cells.zip (xs.zip w0.places)).map (fun q => PyData.int q.2.2) = w0.places.map PyData.int := by
    rw [show (fun q : List Nat × Int × Int => PyData.int q.2.2) = (fun p : Int × Int => PyData.int p.2) ∘ Prod.snd from rfl, ← List.map_map, List.map_snd_zip (by rw [List.length_zip]; omega), show (fun p : Int × Int => PyData.int p.2) = PyData.int ∘ Prod.snd from rfl, ← List.map_map, List.map_snd_zip (by omega)]
  have zl : (w0.cells.zip (xs.zip w0.places)).length ≤ 4096 := by rw [List.length_zip]; omega
  have zm : ∀ q ∈ w0.cells.zip (xs.zip w0.places), q.1 ∈ w0.cells ∧ q.2.1 ∈ xs := fun q hq => ⟨(List.of_mem_zip hq).1, (List.of_mem_zip (List.of_mem_zip hq).2).1⟩
  generalize w0.cells.zip (xs.zip w0.places) = zs at hq3 z1 z2 z3 zl zm
  have hmx : 0 < (if (w0.cells.length : Int) > 1 then (w0.cells.length : Int) else 1) := by split <;> omega
  obtain ⟨a, ha⟩ : ∃ a : Nat, nl % (if (w0.cells.length : Int) > 1 then (w0.cells.length : Int) else 1) = (a : Int) := ⟨(nl % (if (w0.cells.length : Int) > 1 then (w0.cells.length : Int) else 1)).toNat, (Int.toNat_of_nonneg (Int.emod_nonneg _ (by omega))).symm⟩
  refine st_forT (xs := (zs.drop a).take 2) (enc := fun q => PyData.tuple [cellD q.1, .int q.2.1, .int q.2.2]) (fun i M' ρ' => M' = [] ∧ ∃ s10 s11 s14 s18 s19, ρ' = [.val (rowD r), .val (.list ((w0 :: ws).map winD)), .val (.list (ns.map PyData.int)), .val (winD w0), .val (.list (w0.cells.map cellD)), .val (.list (w0.places.map PyData.int)), .val (.list (xs.map PyData.int)), .val (.int nl), .no,
    .val (rowD wh), s10, s11, .val (rowD wh), .ml q, s14, .no, .val (.list []), .no, s18, s19, .no]) ?_ ⟨rfl, _, _, _, _, _, rfl⟩ ?_ ?_
  · refine it_list (ev_is (el_d (el_slL (lo := none) (hi := some ((2 : Nat) : Int)) (ev_is (el_d (el_slL (lo := some (a : Int)) (hi := none) (ev_listZ3 (xs := zs) (f := fun q => cellD q.1) (g := fun q => PyData.int q.2.1) (k := fun q => PyData.int q.2.2) (ea_cons (ev_is (ev_var rfl) (by rw [z1])) (ea_cons (ev_is (ev_var rfl) (by rw [z2])) (ea_cons (ev_is (ev_var rfl) (by rw [z3])) ea_nil))) (by omega)) (eo_some (ev_is (ev_op (ev_var rfl) (ev_cb (ea_cons ev_int (ea_cons (ev_is (ev_cb (ea_cons (ev_var rfl) ea_nil) (cd_len (.inl rfl))) (congrArg (fun n : Nat => PyData.int (n : Int)) (List.length_map ..))) ea_nil)) cd_max) (rd_I ?_)) (congrArg PyData.int ha))) eo_none)) (by rw [cutP_from])) eo_none (eo_some ev_int))) (by rw [cutP_to, List.map_take, List.map_drop]))
    exact hmx
  · rintro i hi M' ρ' ⟨rfl, s10, s11, s14, s18, s19, rfl⟩
    have hmem := List.mem_of_mem_drop (List.mem_of_mem_take (List.getElem_mem hi))
    generalize ((zs.drop a).take 2)[i] = z at hmem
    obtain ⟨c, x, p⟩ := z
    obtain ⟨hc, hx⟩ := zm _ hmem
    have hpp : w0.place c = p := hq3 _ hmem
    have hpm : p ∈ w0.places := by
      rw [← hpp]
      exact w0.place_mem hc
    have hx' := hxb _ hx
    obtain ⟨h0, h1, h2, h3⟩ := fitsW hf hpm hr'.len
    refine ⟨_, _, gd_tup (gds_cons gd_name (gds_cons gd_name (gds_cons gd_name gds_nil))), ?_⟩
    refine st_set (d := rowD (withWord r p.toNat x w0.w w0.low)) (ev_call (ea_cons (ev_var rfl) (ea_cons (ev_var rfl) (ea_cons (ev_var rfl) (ea_cons (ev_var rfl) ea_nil)))) ⟨r, w0, c, x, hr', hw, hf, w0.cell_ok hc, by omega, by omega, hx'.1, hx'.2, rfl, by rw [hpp]⟩) ?_
    have hso := withWord_row (x := x) (b := w0.low) hr' h3
    have hsl := withWord_len' (x := x) (b := w0.low) h3
    have hsout : ∀ j : Nat, (j : Int) ∉ (List.range (p + (w0.w : Int) - p).toNat).map (fun k : Nat => p + (k : Int)) → r[j]? = (withWord r p.toNat x w0.w w0.low)[j]? := fun j hj => by
      refine (withWord_out h3 ?_).symm
      rcases Nat.lt_or_ge j p.toNat with h | h
      · exact .inl h
      · rcases Nat.lt_or_ge j (p.toNat + w0.w) with h' | h'
        · exact absurd (List.mem_map.mpr ⟨j - p.toNat, List.mem_range.mpr (by omega), by omega⟩) hj
        · exact .inr h'
    generalize withWord r p.toNat x w0.w w0.low = so at hso hsl hsout
    refine st_set (el_d (el_listRg (rg2 (ev_var rfl) (ev_op (ev_var rfl) (ev_op (ev_var rfl) ev_int (rd_ixT rfl)) rd_I0)) ?_)) ?_
    · exact RgOk.of_le (a := p) (b := p + (w0.w : Int)) h0 (by omega) (by omega) (by omega)
    generalize (List.range (p + (w0.w : Int) - p).toNat).map (fun k : Nat => p + (k : Int)) = cs at hsout
    refine st_guard (et_is (et_not (et_B (ev_cb (ea_cons (el_d (el_map (xs := w0 :: ws) (enc := winD) (fun x => PyData.bool ((fun _ => true) x)) (it_list (ev_var rfl)) (by rw [List.length_cons]; omega) fun o ho => ⟨_, _, gd_name, by decide, ?_⟩)) ea_nil) cd_allM))) (by simp)) rfl ?_
    · exact ev_call (ea_cons (ev_var rfl) (ea_cons (ev_var rfl) (ea_cons (ev_var rfl) (ea_cons (ev_var rfl) ea_nil)))) ⟨r, so, o, cs, hr', hso, hsl.symm, (hws o ho).1, (hws o ho).2, hsout, rfl, rfl⟩
    refine st_one (st_guard (et_is (et_test (ev_op (ev_is (el_d (el_filt (xs := r.zipIdx) (enc := fun q => PyData.tuple [nD q.2, .int q.1]) (fun _ => false) (fun q => nD q.2) ?_ (by rw [List.length_zipIdx]; omega) fun o ho => ⟨_, _, gd_tup (gds_cons gd_name (gds_cons gd_name gds_nil)), by decide, ?_, fun h => by cases h⟩)) (e := .list ([].map PyData.int)) ?_) (ev_lst ea_nil) (rd_neLI (xs := []) (ys := [])))) (by simp)) rfl (st_next ⟨rfl, _, _, _, _, _, rfl⟩))
    · rw [← enumD_idx PyData.int]
      exact it_enumT (ea_cons (ev_var rfl) ea_nil)
    · have hm := List.mem_zipIdx_iff_getElem?.mp ho
      obtain ⟨y, hy⟩ : ∃ y, so[o.2]? = some y := by
        obtain ⟨g1, _⟩ := List.getElem?_eq_some_iff.mp hm
        exact ⟨so[o.2]'(by omega), List.getElem?_eq_getElem _⟩
      refine et_is (et_and (et_test (ev_op (ev_op (ev_var rfl) (ev_var rfl) (rd_ixT (d := .int y) (atI_nat (by rw [List.getElem?_map, hy]; rfl)))) (ev_var rfl) rd_neI)) fun _ => et_test (ev_op (ev_var rfl) (ev_var rfl) (rd_ninI (.inl rfl)))) ?_
      by_cases hj : ((o.2 : Nat) : Int) ∈ cs
      · simp [hj]
      · have := hsout o.2 hj
        rw [hm, hy] at this
        cases this
        simp
    · rw [List.filter_eq_nil_iff.mpr (fun _ _ h => by cases h)]
      rfl
  · rintro M' ρ' ⟨rfl, s10, s11, s14, s18, s19, rfl⟩
    exact st_ret ev_bl rfl
end
end K37

set_option Elab.async false
set_option linter.all false
set_option maxRecDepth 100000
set_option maxHeartbeats 4000000
namespace K37
open PySem PySem.Spec PyProof.Rows L2 RZ
local macro_rules | `(tactic| walk_at "ev") => `(tactic| first
  | with_reducible exact ev_int
  | with_reducible exact ev_str
  | with_reducible exact ev_bl
  | with_reducible exact ev_non
  | exact ev_var rfl
  | with_reducible exact ea_nil
  | with_reducible apply ea_cons
  | with_reducible apply ev_isiI
  | with_reducible apply ev_isiB
  | with_reducible apply ev_isiT
  | with_reducible apply ev_isiS
  | with_reducible apply ev_isiL
  | with_reducible apply ev_chain
  | with_reducible apply ev_andV
  | with_reducible apply ev_orV
  | with_reducible apply ev_notV
  | with_reducible apply ev_kdI
  | with_reducible apply ev_op
  | with_reducible apply ev_un
  | with_reducible exact rd_B0
  | with_reducible exact rd_I0
  | with_reducible apply rd_I
  | with_reducible exact ud_neg
  | with_reducible exact rd_eqI
  | with_reducible exact rd_neI
  | with_reducible exact rd_eqS
  | with_reducible exact rd_isN
  | exact rd_ixT rfl
  | exact rd_ixL rfl
  | with_reducible apply ev_call
  | with_reducible apply ev_cb
  | exact cd_len (.inl rfl)
  | exact cd_len (.inr rfl)
  | with_reducible exact cd_abs
  | with_reducible exact cd_max
  | with_reducible exact cd_min
  | with_reducible exact cd_intB
  | with_reducible exact cd_tuple
  | with_reducible exact cd_allM
  | with_reducible exact cd_sumM
  | with_reducible apply ev_tup
  | with_reducible apply ev_lst
  | with_reducible apply ev_sl
  | with_reducible exact sd_tup
  | with_reducible exact eo_none
  | with_reducible apply eo_some
  | with_reducible apply ev_revT
  | with_reducible apply et_not
  | with_reducible apply et_and
  | with_reducible apply et_or
  | with_reducible apply et_test
  | with_reducible apply et_B
  | with_reducible exact et_yes
  | with_reducible exact gd_name
  | with_reducible apply gd_tup
  | with_reducible apply gds_cons
  | with_reducible exact gds_nil
  | with_reducible (exact Nat.le_of_ble_eq_true rfl)
  | (with_reducible show (_ : List PD → PD → Prop) _ _); assumption
  | with_reducible (refine fun (_ : _ = true) => ?_)
  | with_reducible (refine fun (_ : _ = false) => ?_))
section
variable {K : PySem.W.Frag} {C : List Addr} {M Md : Ms} {ρ : List Sl} {te : TE} {d : PD} {N : Ms → List Sl → Prop} {R : Ms → PD → Prop} {rest : TS}
/-- x = [y], to be changed -/
theorem st_new1 {i : Nat} (h : EvD K M ρ te d) (k : ∀ p, p ∉ C → (∀ q ∈ M, q.1 ≠ p) → StD K C ((p, .lst [d]) :: M) (ρ.set i (.ml p)) rest N R) : StD K C M ρ (tSeq (tAsg (tLst (tCons te tNil)) (gName i)) rest) N R := .mk <| fun {H0 H10 H H1 σ} E D hn hr =>
  h E (Ins.refl M) _ fun v H' H2 E' s p => ⟨(by show 1 ≤ sizeLine; decide), fun a ha => by
    have hne : ∀ q ∈ M, q.1 ≠ a := fun q hq z => (E'.mem q hq).2.2.some (by rw [z]; exact ha)
    have hC : a ∉ C := fun hc => by
      obtain ⟨q, hq, e⟩ := List.mem_map.mp (E'.cin a hc)
      exact hne q hq e
    have E2 := E'.newM (o := .lst [v]) (m := .lst [d]) ha ⟨[v], upd_same, .cons p .nil⟩
    exact k a hC hne (E2.set (i := i) (v := .ref a) (s := .ml a) rfl) D (fun M' ρ' H'' H3 σ' n E'' s' => hn M' ρ' H'' H3 σ' n E'' (s.trans s')) (fun d' M' ρ' v' H'' H3 σ' q E'' s' p' => hr d' M' ρ' v' H'' H3 σ' q E'' (s.trans s') p')⟩
end
section
variable {P : Program} {w : World} {K : PySem.W.Frag} {mg : Str → Option Value} {base : Heap} {wa oa da : Addr}
theorem two_inj {x y : PD} {L L' : Nat} (e : [x, nD L] = [y, nD L']) : L = L' := by
  have e2 := (List.cons.inj (List.cons.inj e).2).1
  have := PyData.int.inj e2
  omega
theorem three_inj {x y z : PD} {L L' : Nat} (e : [x, nD L, z] = [y, nD L', z]) : L = L' := by
  have e2 := (List.cons.inj (List.cons.inj e).2).1
  have := PyData.int.inj e2
  omega
def R_law : List PD → PD → Prop := fun ds d => ∃ ns : List Int, ns.length ≤ 63 ∧ ds = [.list (ns.map PyData.int)] ∧ d = .bool true
theorem ok_law {f : Addr} {fd : FuncData} (T : Top K mg wa oa da) (F : Fun K "law" "law" s_law f fd) (G_law_row : FN_law_row P w K mg base) (G_law_length : FN_law_length P w K mg base) (G_law_window : FN_law_window P w K mg base) (G_law_cell : FN_law_cell P w K mg base) (G_law_unlike_right : FN_law_unlike_right P w K mg base) (G_law_written_right : FN_law_written_right P w K mg base) (G_law_bytes : FN_law_bytes P w K mg base) (G_law_cells : FN_law_cells P w K mg base) : FnOk P w K mg base CX0 10 f fd ["_law_script"] (spD K R_law) := by
  refine fn_pure F sc_law (fun ds d h => by obtain ⟨_, _, rfl, _⟩ := h; rfl) 8 rfl fun cdv A outer s H E ds d hr h => ?_
  obtain ⟨ns, hns, rfl, rfl⟩ := h
  refine ⟨_, (pss_cons (ps_set (i := 1) sc_law.nd rfl (Or.inr rfl) (pe_lst (pa_cons (pe_int) pa_nil)))
      (pss_cons (ps_for PassesOwn.never rfl (pi_range1 (by rfl) T.b.range (pa_cons (pe_op op_add (pe_int) (pe_callB (cr_min2 rfl) (by rfl) T.b.min (by decide +kernel) (pa_cons (pe_int) (pa_cons (pe_callB (cr_lenK K rfl) (by rfl) T.b.len (by decide +kernel) (pa_cons (pv 0) pa_nil)) pa_nil)))) pa_nil)) (pg_name (i := 2) sc_law.nd rfl (Or.inl rfl))
        (pss_cons (ps_set (i := 3) sc_law.nd rfl (Or.inr rfl) (pe_callB (cr_min2 rfl) (by rfl) T.b.min (by decide +kernel) (pa_cons (pe_int) (pa_cons (pe_callX G_law_length (hr.mono (by decide)) (by rfl) (pa_cons (pe_callX G_law_cell (hr.mono (by decide)) (by rfl) (pa_cons (pv 0) (pa_cons (pv 1) pa_nil))) pa_nil)) pa_nil))))
        (pss_cons (ps_set (i := 4) sc_law.nd rfl (Or.inl rfl) (pe_callX G_law_row (hr.mono (by decide)) (by rfl) (pa_cons (pv 0) (pa_cons (pv 1) (pa_cons (pv 3) pa_nil)))))
        (pss_cons (ps_setLc (i := 5) (own := [("_law_turn", 6)]) (tt := tYes) rfl sc_law.nd rfl rfl (sw_true rfl rfl rfl (by decide +kernel)) (pi_range1 (by rfl) T.b.range (pa_cons (pe_int) pa_nil)) (blkOk_by (N := ["_law_script", "_law_spot", "_law_k", "_law_length_here", "_law_row_here", "_law_windows", "_law_turn", "_law_drawn", "_law_order"]) (sc := defScope s_law) (by decide +kernel)) (fun _ _ _ _ _ => (pg_name (i := 6) sc_law.nd rfl (Or.inl rfl))) (fun _ _ _ _ _ => pts_nil) (fun _ _ _ _ _ => (pe_callX G_law_window (hr.mono (by decide)) (by rfl) (pa_cons (pv 0) (pa_cons (pv 1) (pa_cons (pv 3) (pa_cons (pe_int) pa_nil)))))))
        (pss_one (ps_for PassesOwn.never rfl (pi_range1 (by rfl) T.b.range (pa_cons (pe_int) pa_nil)) (pg_name (i := 6) sc_law.nd rfl (Or.inl rfl))
          (pss_cons (ps_setLc (i := 7) (own := [("_law_k", 2)]) (tt := tYes) rfl sc_law.nd rfl rfl (sw_true rfl rfl rfl (by decide +kernel)) (pi_range1 (by rfl) T.b.range (pa_cons (pe_op op_add (pe_callB (cr_lenK K rfl) (by rfl) T.b.len (by decide +kernel) (pa_cons (pe_callX G_law_cells (hr.mono (by decide)) (by rfl) (pa_cons (pe_ix (ix_listK K rfl) (pv 5) (pv 6) (fun _ _ => rfl)) pa_nil)) pa_nil)) (pe_int)) pa_nil)) (blkOk_by (N := ["_law_script", "_law_spot", "_law_k", "_law_length_here", "_law_row_here", "_law_windows", "_law_turn", "_law_drawn", "_law_order"]) (sc := defScope s_law) (by decide +kernel)) (fun _ _ _ _ _ => (pg_name (i := 2) sc_law.nd rfl (Or.inl rfl))) (fun _ _ _ _ _ => pts_nil) (fun _ _ _ _ _ => (pe_callX G_law_cell (hr.mono (by decide)) (by rfl) (pa_cons (pv 0) (pa_cons (pv 1) pa_nil)))))
          (pss_cons (ps_set (i := 8) sc_law.nd rfl (Or.inl rfl) (pe_op op_cat (pe_slice (sl_listK K rfl) (pv 5) (po_some (pv 6)) po_none) (pe_slice (sl_listK K rfl) (pv 5) po_none (po_some (pv 6)))))
          (pss_cons (ps_if (PW.pt (pw_or (pt_not (pt_val (pe_callX G_law_written_right (hr.mono (by decide)) (by rfl) (pa_cons (pv 4) (pa_cons (pv 8) (pa_cons (pv 7) pa_nil)))))) (pw_or1 (pt_cmpR (op_neK K rfl hr.units) (pe_callX G_law_bytes (hr.mono (by decide)) (by rfl) (pa_cons (pv 4) pa_nil)) (pe_callTy (cr_listK K rfl) (by rfl) T.b.list (by decide +kernel) (pa_cons (pv 4) pa_nil)) (nomark _)))))
            (pss_one (ps_ret (pe_bl)))
            pss_nil)
          (pss_one (ps_if (pt_not (pt_val (pe_callX G_law_unlike_right (hr.mono (by decide)) (by rfl) (pa_cons (pv 4) (pa_cons (pe_ix (ix_listK K rfl) (pv 5) (pv 6) (fun _ _ => rfl)) pa_nil)))))
            (pss_one (ps_ret (pe_bl)))
            pss_nil)))))))))))
      (pss_one (ps_ret (pe_bl))))), ?_⟩
  dsimp only [cxOf, List.map, List.replicate, List.cons_append, List.nil_append]
  refine st_new1 ev_int fun sp hsp _ => ?_
  have hmn : ∃ n : Nat, n ≤ 8 ∧ (2 : Int) + (if (ns.length : Int) < 6 then (ns.length : Int) else 6) = (n : Int) := by
    by_cases h : (ns.length : Int) < 6
    · exact ⟨2 + ns.length, by omega, by rw [if_pos h]; omega⟩
    · exact ⟨8, by omega, by rw [if_neg h]; rfl⟩
  obtain ⟨n, hn8, hnn⟩ := hmn
  refine st_forT (xs := List.range n) (enc := fun i : Nat => PyData.int (0 + (i : Int))) (fun i M' ρ' => ∃ (k : Nat) (s2 s3 s4 s5 s6 s7 s8 : Sl), k ≤ 20000 * i ∧ M' = [(sp, .lst [nD k])] ∧ ρ' = [.val (.list (ns.map PyData.int)), .ml sp, s2, s3, s4, s5, s6, s7, s8]) ?_ ⟨0, _, _, _, _, _, _, _, Nat.zero_le _, rfl, rfl⟩ ?_ ?_
  · exact it_range1 (n := (n : Int)) (ea_cons (ev_is (ev_op ev_int (ev_cb (ea_cons ev_int (ea_cons (ev_is (ev_cb (ea_cons (ev_var rfl) ea_nil) (cd_len (.inl rfl))) (congrArg (fun n : Nat => PyData.int (n : Int)) (List.length_map ..))) ea_nil)) cd_min) rd_I0) (congrArg PyData.int hnn)) ea_nil) ⟨by omega, by omega⟩
  · rintro i hi M' ρ' ⟨k, s2, s3, s4, s5, s6, s7, s8, hk, rfl, rfl⟩
    rw [List.length_range] at hi
    refine ⟨_, _, gd_name, ?_⟩
    -- length
    refine st_setX (P := fun M' d => ∃ L : Nat, L ≤ 100 ∧ d = nD L ∧ M' = [(sp, .lst [nD (k + 1)])]) (ex_cb (PA := fun M' ds => ∃ x : Int, ds = [.int 100, .int (lawLen x)] ∧ M' = [(sp, .lst [nD (k + 1)])]) (exa_cons2 (ex_pure ev_int) ?_) ?_) ?_
    · rintro M' d ⟨rfl, rfl⟩
      refine exa_cons2 (P := fun M' d => ∃ x : Int, d = .int (lawLen x) ∧ M' = [(sp, .lst [nD (k + 1)])]) (ex_callP (PA := fun M' ds => ∃ x : Int, ds = [.int x] ∧ M' = [(sp, .lst [nD (k + 1)])]) (exa_cons2 (ex_call (eam_cons (ev_var rfl) (eam_here rfl ea_nil)) ⟨ns, k, hns, by omega, rfl, rfl⟩) ?_) ?_) ?_
      · rintro M' d ⟨m', ⟨k0, x, e1, rfl, rfl, _⟩, rfl⟩
        have e1 := one_inj e1
        subst e1
        exact exa_nil2 ⟨x, rfl, rfl⟩
      · rintro M' ds ⟨x, rfl, rfl⟩
        exact ⟨_, ⟨x, rfl, rfl⟩, x, rfl, rfl⟩
      · rintro M' d ⟨x, rfl, rfl⟩
        exact exa_nil2 ⟨x, rfl, rfl⟩
    · rintro M' ds ⟨x, rfl, rfl⟩
      have hl := lawLen_fits x
      refine ⟨_, cd_min, (if lawLen x < 100 then lawLen x else 100).toNat, ?_, ?_, rfl⟩
      · split <;> omega
      · rw [nD]
        congr 1
        split <;> omega
    rintro M' d ⟨L, hL, rfl, rfl⟩
    -- row
    refine st_setX (ex_call (eam_cons (ev_var rfl) (eam_here rfl (ea_cons (ev_var rfl) ea_nil))) ⟨ns, k + 1, L, hns, by omega, hL, rfl, rfl⟩) ?_
    rintro M' d ⟨m', ⟨k0, k1, L', x, r, e1, rfl, hk1, e2, rfl, hr', hrl⟩, rfl⟩
    have e1 := one_inj e1
    subst e1
    have e2 := two_inj e2
    subst e2
    -- windows
    refine st_setX (P := fun M' d => ∃ (k2 : Nat) (Ws : List Win), Ws.length = 3 ∧ (∀ W ∈ Ws, IsWin W ∧ W.fits L) ∧ k2 ≤ k1 + 10 * 3 ∧ M' = [(sp, .lst [nD k2])] ∧ d = .list (Ws.map winD)) (ex_weak (ex_lc (xs := List.range 3) (enc := fun i : Nat => PyData.int (0 + (i : Int))) (fun i M' acc => ∃ (k2 : Nat) (Ws : List Win), Ws.length = i ∧ (∀ W ∈ Ws, IsWin W ∧ W.fits L) ∧ k2 ≤ k1 + 10 * i ∧ M' = [(sp, .lst [nD k2])] ∧ acc = Ws.map winD)
      (it_range1 (n := 3) (ea_cons ev_int ea_nil) ⟨by decide, by decide⟩) (by decide) ⟨k1, [], rfl, (fun W h => nomatch h), by omega, rfl, rfl⟩ ?_) ?_) ?_
    · rintro j hj M' acc ⟨k2, Ws, hWl, hWs, hk2, rfl, rfl⟩
      rw [List.length_range] at hj
      refine ⟨_, _, gd_name, by decide, ex_weak (ex_call (eam_cons (ev_var rfl) (eam_here rfl (ea_cons (ev_var rfl) (ea_cons ev_int ea_nil)))) ⟨ns, k2, L, hns, by omega, hL, rfl, rfl⟩) ?_⟩
      rintro M' d ⟨m', ⟨k3, k4, L', x, W, e1, rfl, hk4, e2, rfl, hW1, hW2⟩, rfl⟩
      have e1 := one_inj e1
      subst e1
      have e2 := three_inj e2
      subst e2
      refine ⟨k4, Ws ++ [W], by rw [List.length_append, hWl]; rfl, fun V hV => ?_, by omega, rfl, by rw [List.map_append]; rfl⟩
      rcases List.mem_append.mp hV with hV | hV
      · exact hWs V hV
      · rw [List.mem_singleton] at hV
        subst hV
        exact ⟨hW1, hW2⟩
    · rintro M' d ⟨ds, ⟨k2, Ws, hWl, hWs, hk2, rfl, rfl⟩, _, rfl⟩
      rw [List.length_range] at hWl hk2
      exact ⟨k2, Ws, hWl, hWs, hk2, rfl, rfl⟩
    rintro M' d ⟨k2, Ws, hWl, hWs, hk2, rfl, rfl⟩
    -- turns
    refine st_one (st_forT (xs := List.range 3) (enc := fun i : Nat => PyData.int (0 + (i : Int))) (fun t M' ρ' => ∃ (k3 : Nat) (t2 t6 t7 t8 : Sl), k3 ≤ k2 + 5000 * t ∧ M' = [(sp, .lst [nD k3])] ∧ ρ' = [.val (.list (ns.map PyData.int)), .ml sp, t2, .val (nD L), .val (rowD r), .val (.list (Ws.map winD)), t6, t7, t8])
      (it_range1 (n := 3) (ea_cons ev_int ea_nil) ⟨by decide, by decide⟩) ⟨k2, _, _, _, _, by omega, rfl, rfl⟩ ?_ ?_)
    · rintro t ht M' ρ' ⟨k3, t2, t6, t7, t8, hk3, rfl, rfl⟩
      rw [List.length_range] at ht
      refine ⟨_, _, gd_name, ?_⟩
      rw [show (List.range 3)[t]'(by rw [List.length_range]; exact ht) = t from List.getElem_range _]
      have hWt : t < Ws.length := by omega
      obtain ⟨hW, hWf⟩ := hWs _ (List.getElem_mem hWt)
      have hWr : ∀ W ∈ Ws, IsWin W ∧ W.fits r.length := fun W h => by rw [hrl]; exact hWs W h
      have hix : atI (Ws.map winD) (0 + (t : Int)) = some (winD Ws[t]) := by
        rw [Int.zero_add]
        exact atI_nat (by rw [List.getElem?_map, List.getElem?_eq_getElem hWt]; rfl)
      have hcl : Ws[t].cells.length ≤ 4096 := by rw [Ws[t].cells_len]; exact hW.len
      -- drawn
      refine st_setX (P := fun M' d => ∃ (k4 : Nat) (xs : List Int), xs.length = Ws[t].cells.length + 1 ∧ (∀ x ∈ xs, 0 ≤ x ∧ x < 306783379) ∧ k4 ≤ k3 + (Ws[t].cells.length + 1) ∧ M' = [(sp, .lst [nD k4])] ∧ d = .list (xs.map PyData.int)) (ex_weak (ex_lc (xs := List.range (Ws[t].cells.length + 1)) (enc := fun i : Nat => PyData.int (0 + (i : Int))) (fun i M' acc => ∃ (k4 : Nat) (xs : List Int), xs.length = i ∧ (∀ x ∈ xs, 0 ≤ x ∧ x < 306783379) ∧ k4 ≤ k3 + i ∧ M' = [(sp, .lst [nD k4])] ∧ acc = xs.map PyData.int)
        (it_range1 (n := ((Ws[t].cells.length + 1 : Nat) : Int)) (ea_cons (ev_is (ev_op (ev_cb (ea_cons (ev_call (ea_cons (ev_op (ev_var rfl) (ev_var rfl) (rd_ixL hix)) ea_nil) ⟨Ws[t], hW, rfl, rfl⟩) ea_nil) (cd_len (.inl rfl))) ev_int rd_I0) ?_) ea_nil) ⟨by omega, by omega⟩) (by rw [List.length_range]; omega) ⟨k3, [], rfl, (fun x h => nomatch h), by omega, rfl, rfl⟩ ?_) ?_) ?_
      · rw [List.length_map]
        rfl
      · rintro j hj M' acc ⟨k4, xs, hxl, hxs, hk4, rfl, rfl⟩
        rw [List.length_range] at hj
        refine ⟨_, _, gd_name, by decide, ex_weak (ex_call (eam_cons (ev_var rfl) (eam_here rfl ea_nil)) ⟨ns, k4, hns, by omega, rfl, rfl⟩) ?_⟩
        rintro M' d ⟨m', ⟨k5, x, e1, rfl, rfl, hx0, hx1⟩, rfl⟩
        have e1 := one_inj e1
        subst e1
        refine ⟨k4 + 1, xs ++ [x], by rw [List.length_append, hxl]; rfl, fun y hy => ?_, by omega, rfl, by rw [List.map_append]; rfl⟩
        rcases List.mem_append.mp hy with hy | hy
        · exact hxs y hy
        · rw [List.mem_singleton] at hy
          subst hy
          exact ⟨hx0, hx1⟩
      · rintro M' d ⟨ds, ⟨k4, xs, hxl, hxs, hk4, rfl, rfl⟩, _, rfl⟩
        rw [List.length_range] at hxl hk4
        exact ⟨k4, xs, hxl, hxs, hk4, rfl, rfl⟩
      rintro M' d ⟨k4, xs, hxl, hxs, hk4, rfl, rfl⟩
      -- order
      have hdrop : Ws.drop t = Ws[t] :: Ws.drop (t + 1) := List.drop_eq_getElem_cons hWt
      refine st_set (d := .list ((Ws[t] :: (Ws.drop (t + 1) ++ Ws.take t)).map winD)) (ev_is (el_d (el_cat (el_slL (lo := some (t : Int)) (hi := none) (ev_var rfl) (eo_some (ev_is (ev_var rfl) (by rw [Int.zero_add]))) eo_none) (el_slL (lo := none) (hi := some (t : Int)) (ev_var rfl) eo_none (eo_some (ev_is (ev_var rfl) (by rw [Int.zero_add])))) ?_)) ?_) ?_
      · rw [cutP_from, cutP_to, List.length_drop, List.length_take, List.length_map]
        omega
      · rw [cutP_from, cutP_to, ← List.map_drop, ← List.map_take, ← List.map_append, hdrop]
        rfl
      have hall : ∀ W ∈ Ws[t] :: (Ws.drop (t + 1) ++ Ws.take t), IsWin W ∧ W.fits r.length := fun W h => by
        rcases List.mem_cons.mp h with rfl | h
        · exact hWr _ (List.getElem_mem hWt)
        · rcases List.mem_append.mp h with h | h
          · exact hWr _ (List.mem_of_mem_drop h)
          · exact hWr _ (List.mem_of_mem_take h)
      refine st_guard (et_is (et_or (et_not (et_B (ev_call (ea_cons (ev_var rfl) (ea_cons (ev_var rfl) (ea_cons (ev_var rfl) ea_nil))) ⟨r, Ws[t], Ws.drop (t + 1) ++ Ws.take t, xs, hr', ?_, hall, hxl, hxs, rfl, rfl⟩))) fun _ => et_test (ev_op (ev_call (ea_cons (ev_var rfl) ea_nil) ⟨r, hr', rfl, rfl⟩) (ev_cb (ea_cons (ev_var rfl) ea_nil) (cd_list (.inr rfl))) rd_neLI)) (by simp)) rfl ?_
      · rw [List.length_append, List.length_drop, List.length_take]
        omega
      refine st_one (st_guard (et_is (et_not (et_B (ev_call (ea_cons (ev_var rfl) (ea_cons (ev_op (ev_var rfl) (ev_var rfl) (rd_ixL hix)) ea_nil)) ⟨r, Ws[t], hr', hW, by rw [hrl]; exact hWf, rfl, rfl⟩))) rfl) rfl (st_next ⟨k4, _, _, _, _, by omega, rfl, rfl⟩))
    · rintro M' ρ' ⟨k3, t2, t6, t7, t8, hk3, rfl, rfl⟩
      rw [List.length_range] at hk3
      exact st_next ⟨k3, _, _, _, _, _, _, _, by omega, rfl, rfl⟩
  · rintro M' ρ' ⟨k, s2, s3, s4, s5, s6, s7, s8, hk, rfl, rfl⟩
    exact st_ret ev_bl rfl
end
end K37

set_option Elab.async false
set_option linter.all false
set_option maxRecDepth 100000
set_option maxHeartbeats 0
/-! what the top has left, by names; the defs one by one; the end (printed by gen_end.py) -/
namespace K37
open PySem PySem.Spec PyProof.Rows L2 RZ

def fa : List He.Fa := [.free "isinstance", .free "len", .free "all", .free "sum", .free "abs", .free "max", .free "min", .free "int", .free "bool", .free "tuple", .free "str", .free "list", .free "dict", .free "range", .free "enumerate", .free "zip", .int "MOST_BYTE" 255, .int "MOST_LENGTH" 512, .int "MOST_SIDES" 5, .int "MOST_STEP" 512, .int "MOST_CELLS" 4096, .int "MOST_WIDTH" 8, .int "MANY_BYTES" 256, .str "LOW" "low", .glo "WIDTHS", .glo "ORDERS", .glo "MANY_WORDS", .glo "is_among", .glo "is_row", .glo "is_side"] ++ [.glo "many_by", .glo "is_width", .glo "is_order", .glo "is_window", .glo "need_window", .glo "counts_in", .glo "places_in", .glo "span_in", .glo "fits_in", .glo "places", .glo "need_cell", .glo "place_in", .glo "cell_by", .glo "need_row", .glo "need_seen", .glo "word_in", .glo "bytes_of", .glo "fits_width", .glo "with_word", .glo "words_in", .glo "side_by_side", .glo "word_at", .glo "words_of", .glo "table_of", .glo "written", .glo "filled", .glo "first_unlike", .glo "_law_cell", .glo "_law_row", .glo "_law_length"] ++ [.glo "_law_window", .glo "_law_cells", .glo "_law_any_word", .glo "_law_bytes", .glo "_law_by", .glo "_law_seen_right", .glo "_law_written_right", .glo "_law_flat", .glo "_law_unlike_right", .glo "law"]
def dd_is_among : He.DefD := ⟨("is_among", none), "is_among", "is_among", defArgs s_is_among, defBody s_is_among, defScope s_is_among, [], []⟩
def dd_is_row : He.DefD := ⟨("is_row", none), "is_row", "is_row", defArgs s_is_row, defBody s_is_row, defScope s_is_row, [], []⟩
def dd_is_side : He.DefD := ⟨("is_side", none), "is_side", "is_side", defArgs s_is_side, defBody s_is_side, defScope s_is_side, [], []⟩
def dd_many_by : He.DefD := ⟨("many_by", none), "many_by", "many_by", defArgs s_many_by, defBody s_many_by, defScope s_many_by, [], []⟩
def dd_is_width : He.DefD := ⟨("is_width", none), "is_width", "is_width", defArgs s_is_width, defBody s_is_width, defScope s_is_width, [], []⟩
def dd_is_order : He.DefD := ⟨("is_order", none), "is_order", "is_order", defArgs s_is_order, defBody s_is_order, defScope s_is_order, [], []⟩
def dd_is_window : He.DefD := ⟨("is_window", none), "is_window", "is_window", defArgs s_is_window, defBody s_is_window, defScope s_is_window, [], []⟩
def dd_need_window : He.DefD := ⟨("need_window", none), "need_window", "need_window", defArgs s_need_window, defBody s_need_window, defScope s_need_window, [], []⟩
def dd_counts_in : He.DefD := ⟨("counts_in", none), "counts_in", "counts_in", defArgs s_counts_in, defBody s_counts_in, defScope s_counts_in, [], []⟩
def dd_places_in : He.DefD := ⟨("places_in", none), "places_in", "places_in", defArgs s_places_in, defBody s_places_in, defScope s_places_in, [], []⟩
def dd_span_in : He.DefD := ⟨("span_in", none), "span_in", "span_in", defArgs s_span_in, defBody s_span_in, defScope s_span_in, [], []⟩
def dd_fits_in : He.DefD := ⟨("fits_in", none), "fits_in", "fits_in", defArgs s_fits_in, defBody s_fits_in, defScope s_fits_in, [], []⟩
def dd_places : He.DefD := ⟨("places", none), "places", "places", defArgs s_places, defBody s_places, defScope s_places, [], []⟩
def dd_need_cell : He.DefD := ⟨("need_cell", none), "need_cell", "need_cell", defArgs s_need_cell, defBody s_need_cell, defScope s_need_cell, [], []⟩
def dd_place_in : He.DefD := ⟨("place_in", none), "place_in", "place_in", defArgs s_place_in, defBody s_place_in, defScope s_place_in, [], []⟩
def dd_cell_by : He.DefD := ⟨("cell_by", none), "cell_by", "cell_by", defArgs s_cell_by, defBody s_cell_by, defScope s_cell_by, [], []⟩
def dd_need_row : He.DefD := ⟨("need_row", none), "need_row", "need_row", defArgs s_need_row, defBody s_need_row, defScope s_need_row, [], []⟩
def dd_need_seen : He.DefD := ⟨("need_seen", none), "need_seen", "need_seen", defArgs s_need_seen, defBody s_need_seen, defScope s_need_seen, [], []⟩
def dd_word_in : He.DefD := ⟨("word_in", none), "word_in", "word_in", defArgs s_word_in, defBody s_word_in, defScope s_word_in, [], []⟩
def dd_bytes_of : He.DefD := ⟨("bytes_of", none), "bytes_of", "bytes_of", defArgs s_bytes_of, defBody s_bytes_of, defScope s_bytes_of, [], []⟩
def dd_fits_width : He.DefD := ⟨("fits_width", none), "fits_width", "fits_width", defArgs s_fits_width, defBody s_fits_width, defScope s_fits_width, [], []⟩
def dd_with_word : He.DefD := ⟨("with_word", none), "with_word", "with_word", defArgs s_with_word, defBody s_with_word, defScope s_with_word, [], []⟩
def dd_words_in : He.DefD := ⟨("words_in", none), "words_in", "words_in", defArgs s_words_in, defBody s_words_in, defScope s_words_in, [], []⟩
def dd_side_by_side : He.DefD := ⟨("side_by_side", none), "side_by_side", "side_by_side", defArgs s_side_by_side, defBody s_side_by_side, defScope s_side_by_side, [], []⟩
def dd_word_at : He.DefD := ⟨("word_at", none), "word_at", "word_at", defArgs s_word_at, defBody s_word_at, defScope s_word_at, [], []⟩
def dd_words_of : He.DefD := ⟨("words_of", none), "words_of", "words_of", defArgs s_words_of, defBody s_words_of, defScope s_words_of, [], []⟩
def dd_table_of : He.DefD := ⟨("table_of", none), "table_of", "table_of", defArgs s_table_of, defBody s_table_of, defScope s_table_of, [], []⟩
def dd_written : He.DefD := ⟨("written", none), "written", "written", defArgs s_written, defBody s_written, defScope s_written, [], []⟩
def dd_filled : He.DefD := ⟨("filled", none), "filled", "filled", defArgs s_filled, defBody s_filled, defScope s_filled, [], []⟩
def dd_first_unlike : He.DefD := ⟨("first_unlike", none), "first_unlike", "first_unlike", defArgs s_first_unlike, defBody s_first_unlike, defScope s_first_unlike, [], []⟩
def dd_law_cell : He.DefD := ⟨("_law_cell", none), "_law_cell", "_law_cell", defArgs s_law_cell, defBody s_law_cell, defScope s_law_cell, [], []⟩
def dd_law_row : He.DefD := ⟨("_law_row", none), "_law_row", "_law_row", defArgs s_law_row, defBody s_law_row, defScope s_law_row, [], []⟩
def dd_law_length : He.DefD := ⟨("_law_length", none), "_law_length", "_law_length", defArgs s_law_length, defBody s_law_length, defScope s_law_length, [], []⟩
def dd_law_window : He.DefD := ⟨("_law_window", none), "_law_window", "_law_window", defArgs s_law_window, defBody s_law_window, defScope s_law_window, [], []⟩
def dd_law_cells : He.DefD := ⟨("_law_cells", none), "_law_cells", "_law_cells", defArgs s_law_cells, defBody s_law_cells, defScope s_law_cells, [], []⟩
def dd_law_any_word : He.DefD := ⟨("_law_any_word", none), "_law_any_word", "_law_any_word", defArgs s_law_any_word, defBody s_law_any_word, defScope s_law_any_word, [], []⟩
def dd_law_bytes : He.DefD := ⟨("_law_bytes", none), "_law_bytes", "_law_bytes", defArgs s_law_bytes, defBody s_law_bytes, defScope s_law_bytes, [], []⟩
def dd_law_by : He.DefD := ⟨("_law_by", none), "_law_by", "_law_by", defArgs s_law_by, defBody s_law_by, defScope s_law_by, [], []⟩
def dd_law_seen_right : He.DefD := ⟨("_law_seen_right", none), "_law_seen_right", "_law_seen_right", defArgs s_law_seen_right, defBody s_law_seen_right, defScope s_law_seen_right, [], []⟩
def dd_law_written_right : He.DefD := ⟨("_law_written_right", none), "_law_written_right", "_law_written_right", defArgs s_law_written_right, defBody s_law_written_right, defScope s_law_written_right, [], []⟩
def dd_law_flat : He.DefD := ⟨("_law_flat", none), "_law_flat", "_law_flat", defArgs s_law_flat, defBody s_law_flat, defScope s_law_flat, [], []⟩
def dd_law_unlike_right : He.DefD := ⟨("_law_unlike_right", none), "_law_unlike_right", "_law_unlike_right", defArgs s_law_unlike_right, defBody s_law_unlike_right, defScope s_law_unlike_right, [], []⟩
def dd_law : He.DefD := ⟨("law", none), "law", "law", defArgs s_law, defBody s_law, defScope s_law, [], []⟩
def fn : List He.DefD := [dd_is_among, dd_is_row, dd_is_side, dd_many_by, dd_is_width, dd_is_order, dd_is_window, dd_need_window, dd_counts_in, dd_places_in, dd_span_in, dd_fits_in, dd_places, dd_need_cell, dd_place_in, dd_cell_by, dd_need_row, dd_need_seen, dd_word_in, dd_bytes_of] ++ [dd_fits_width, dd_with_word, dd_words_in, dd_side_by_side, dd_word_at, dd_words_of, dd_table_of, dd_written, dd_filled, dd_first_unlike, dd_law_cell, dd_law_row, dd_law_length, dd_law_window, dd_law_cells, dd_law_any_word, dd_law_bytes, dd_law_by, dd_law_seen_right, dd_law_written_right] ++ [dd_law_flat, dd_law_unlike_right, dd_law]
/-- a dict with int keys of the top: these of it -/
def kdiB (K : PySem.W.Frag) (a : Addr) (ps : List (Int × Int)) : Bool := match K.lookup a with
  | some ⟨.type c, none, .dict es _, sl⟩ => decide (c = "dict") && (sl.isEmpty && (es.all (fun e => match e.key with
      | .int k _ => decide (e.hash = hashInt k)
      | _ => false) && ps.all fun p => match findBy Value.isInt es p.1 with
      | some (.int j _) => decide (j = p.2)
      | _ => false))
  | _ => false
theorem kdiB_ok {K : PySem.W.Frag} {a : Addr} {ps : List (Int × Int)} {F : Int → Option Int} (h : kdiB K a ps = true) (hF : ∀ i j, F i = some j → (i, j) ∈ ps) : KdI K a F := by
  unfold kdiB at h
  cases q : K.lookup a with
  | none => rw [q] at h; cases h
  | some o =>
    obtain ⟨oc, od, dt, sl⟩ := o
    rw [q] at h
    cases oc with
    | type c =>
      cases od with
      | none =>
        cases dt with
        | dict es n =>
          obtain ⟨h1, h2⟩ := He.ba h
          obtain ⟨h3, h4⟩ := He.ba h2
          obtain ⟨h5, h6⟩ := He.ba h4
          have e1 : c = "dict" := of_decide_eq_true h1
          have e2 : sl = #[] := Array.isEmpty_iff.mp h3
          subst e1 e2
          refine ⟨es, n, q, fun e he => ?_, fun i j hij => ?_⟩
          · have z := Array.all_eq_true'.mp h5 e he
            cases ek : e.key with
            | int k t =>
              rw [ek] at z
              exact ⟨k, t, rfl, of_decide_eq_true z⟩
            | _ => rw [ek] at z; cases z
          · have z := List.all_eq_true.mp h6 _ (hF i j hij)
            cases ek : findBy Value.isInt es i with
            | none => rw [ek] at z; cases z
            | some v =>
              rw [ek] at z
              cases v with
              | int j' t =>
                have e : j' = j := of_decide_eq_true z
                rw [e]
                exact ⟨t, rfl⟩
              | _ => cases z
        | _ => cases h
      | some d => cases dt <;> cases h
    | _ => cases od <;> cases dt <;> cases h
def ex (K : PySem.W.Frag) : Bool := He.tupB K "WIDTHS" [.int 1, .int 2, .int 4, .int 8] && (He.tupB K "ORDERS" [.str "low", .str "high"] && kdiB K (He.ga K "MANY_WORDS") [(1, 256), (2, 65536), (4, 4294967296), (8, 18446744073709551616)])
theorem manyW_mem : ∀ i j, manyW i = some j → (i, j) ∈ ([(1, 256), (2, 65536), (4, 4294967296), (8, 18446744073709551616)] : List (Int × Int)) := by
  intro i j h
  unfold manyW at h
  split at h
  · cases h; subst_vars; decide
  · split at h
    · cases h; subst_vars; decide
    · split at h
      · cases h; subst_vars; decide
      · split at h
        · cases h; subst_vars; decide
        · cases h
/-! ### the Hook -/
abbrev AlK : Type := He.AlD × Bool
def obsK (g : Addr → Option Obj) : AlK := (He.obsD fa fn (He.frG g (He.asD g 2)), ex (He.frG g (He.asD g 2)))
def hk : PySem.W.Hook where
  α := AlK
  obs := fun s => obsK s.heap.get?
  val := fun _ => (He.valD fn, true)
  says := fun _ h => ∃ K : PySem.W.Frag, K.In h ∧ He.SaysD fa fn K ∧ ex K = true
  of := fun _ _ e => ⟨_, He.frG_in, congrArg (fun z : AlK => z.1) e, congrArg (fun z : AlK => z.2) e⟩
  keeps := fun _ _ _ ⟨K, hK, c⟩ k => ⟨K, PySem.W.Frag.In.keeps hK k, c⟩
theorem obsK_eq {g : Addr → Option Obj} {s : Shared} (h : ∀ a, g a = s.heap.get? a) : obsK g = hk.obs s := by
  have e : g = s.heap.get? := funext h
  rw [e] <;> rfl
def ob (s : PySem.W.SharedT) : AlK := obsK (HandSHeadRun.getT s)
theorem ob_eq (s : PySem.W.SharedT) : ob s = hk.obs s.abs := obsK_eq (HandSHeadRun.getT_eq s)

abbrev R : PySem.W.OpenRow := PySem.W.OpenLaw.row PySem.Challenge.rw_lentpanes_k37_whole_seen_through_all
def loose : List PySem.Str := (["PaneError", "BadRow", "BadWindow", "BadCell", "BadWord", "NotFit", "NotLike", "MOST_BYTE", "MOST_LENGTH", "MOST_SIDES", "MOST_STEP", "MOST_CELLS", "MOST_WIDTH", "WIDTHS", "LOW", "ORDERS", "is_among", "is_row", "is_side", "many_by", "is_width", "is_order", "is_window", "need_window", "counts_in", "places_in", "span_in", "fits_in", "places", "need_cell"] : List PySem.Str) ++ (["place_in", "cell_by", "MANY_BYTES", "MANY_WORDS", "need_row", "need_seen", "word_in", "bytes_of", "fits_width", "with_word", "words_in", "side_by_side", "word_at", "words_of", "table_of", "written", "filled", "first_unlike", "_law_cell", "_law_row", "_law_length", "_law_window", "_law_cells", "_law_any_word", "_law_bytes", "_law_by", "_law_seen_right", "_law_written_right", "_law_flat", "_law_unlike_right"] : List PySem.Str)
theorem run (w : World) : HandSHeadRun.RunEq R (PySem.W.view R.prog [64]) hk ob 4000 loose w :=
  PySem.W.byRow2 "special-get-raises" (P := fun w => HandSHeadRun.RunEq R (PySem.W.view R.prog [64]) hk ob 4000 loose w) (fun w => by intro os; kernel_rfl) (fun w => by intro os; kernel_rfl) w
/-! ### from the facts -/
theorem topF_of {K : PySem.W.Frag} {mg : Str → Option Value} {x : Str} {st : Stmt} {ps : List Str} (g : mg x = some (.ref (He.ga K x))) (h : ∃ fd, FunD K x x (defArgs st) (defBody st) (defScope st) [] [] (He.ga K x) fd)
    (hb : ∀ (kV doc pm : Value) (an : Option Addr) (cdv ct : Value) (us : List Value), us.length = ps.length → bindArgs (PySem.W.fnOf x x (defArgs st) (defBody st) (defScope st) .none kV doc pm an cdv ct) ⟨us, []⟩ = pure (ps.zip us)) : TopF K mg x st ps := by
  obtain ⟨fd, ⟨oc, od, dV, kV, doc, pm, an, cdv, ct, osl, rfl, e2, e3, e4, e5⟩, kp⟩ := h
  rcases e4 with ⟨_, rfl⟩ | ⟨z, _⟩
  · have F := fun_mk e2 e3 kp
    exact ⟨_, _, F, g, F.binds hb⟩
  · exact absurd rfl z

section
variable {P : Program} {w : World} {K : PySem.W.Frag} {h : Heap} {mg : Str → Option Value} {base : Heap}
theorem mgv_int (X : K.In h) (G : h.Ns mainGlobals mg) {x : Str} {i : Int} (c : (He.Fa.int x i).ok K = true) : MgV mg x (.int i) := by
  obtain ⟨t, e⟩ := He.int_ok X G c
  exact ⟨_, e, t, rfl⟩
theorem mgv_str (X : K.In h) (G : h.Ns mainGlobals mg) {x z : Str} (c : (He.Fa.str x z).ok K = true) : MgV mg x (.str z) := by
  obtain ⟨t, e⟩ := He.str_ok X G c
  exact ⟨_, e, t, rfl⟩
theorem mgv_ref (X : K.In h) (G : h.Ns mainGlobals mg) {x : Str} (c : (He.Fa.glo x).ok K = true) : MgV mg x (.ref (He.ga K x)) := ⟨_, He.glo_ok X G c, rfl⟩

theorem top_of (X : K.In h) (G : h.Ns mainGlobals mg) (c : He.SaysD fa fn K) (e : ex K = true) : Top K mg (He.ga K "WIDTHS") (He.ga K "ORDERS") (He.ga K "MANY_WORDS") where
  b := ⟨He.free_ok X G (c.fact 0 (f := .free "isinstance") rfl), He.free_ok X G (c.fact 1 (f := .free "len") rfl), He.free_ok X G (c.fact 2 (f := .free "all") rfl), He.free_ok X G (c.fact 3 (f := .free "sum") rfl), He.free_ok X G (c.fact 4 (f := .free "abs") rfl), He.free_ok X G (c.fact 5 (f := .free "max") rfl), He.free_ok X G (c.fact 6 (f := .free "min") rfl), He.free_ok X G (c.fact 7 (f := .free "int") rfl), He.free_ok X G (c.fact 8 (f := .free "bool") rfl), He.free_ok X G (c.fact 9 (f := .free "tuple") rfl), He.free_ok X G (c.fact 10 (f := .free "str") rfl), He.free_ok X G (c.fact 11 (f := .free "list") rfl), He.free_ok X G (c.fact 12 (f := .free "dict") rfl), He.free_ok X G (c.fact 13 (f := .free "range") rfl), He.free_ok X G (c.fact 14 (f := .free "enumerate") rfl), He.free_ok X G (c.fact 15 (f := .free "zip") rfl)⟩
  most_byte := mgv_int X G (c.fact 16 (f := .int "MOST_BYTE" 255) rfl)
  most_length := mgv_int X G (c.fact 17 (f := .int "MOST_LENGTH" 512) rfl)
  most_sides := mgv_int X G (c.fact 18 (f := .int "MOST_SIDES" 5) rfl)
  most_step := mgv_int X G (c.fact 19 (f := .int "MOST_STEP" 512) rfl)
  most_cells := mgv_int X G (c.fact 20 (f := .int "MOST_CELLS" 4096) rfl)
  most_width := mgv_int X G (c.fact 21 (f := .int "MOST_WIDTH" 8) rfl)
  many_bytes := mgv_int X G (c.fact 22 (f := .int "MANY_BYTES" 256) rfl)
  low := mgv_str X G (c.fact 23 (f := .str "LOW" "low") rfl)
  widths := mgv_ref X G (c.fact 24 (f := .glo "WIDTHS") rfl)
  orders := mgv_ref X G (c.fact 25 (f := .glo "ORDERS") rfl)
  many_words := mgv_ref X G (c.fact 26 (f := .glo "MANY_WORDS") rfl)
  wt := fun H => He.tupB_ok (He.ba e).1 H
  ot := fun H => He.tupB_ok (He.ba (He.ba e).2).1 H
  kd := kdiB_ok (He.ba (He.ba e).2).2 manyW_mem
theorem tf_is_among (X : K.In h) (G : h.Ns mainGlobals mg) (c : He.SaysD fa fn K) : TopF K mg "is_among" s_is_among ["thing", "least", "most"] := topF_of (He.glo_ok X G (c.fact 27 (f := .glo "is_among") rfl)) (c.def_ 0 (d := dd_is_among) rfl) fun _ _ _ _ _ _ us hl => match us, hl with | [_, _, _], _ => rfl
theorem tf_is_row (X : K.In h) (G : h.Ns mainGlobals mg) (c : He.SaysD fa fn K) : TopF K mg "is_row" s_is_row ["thing"] := topF_of (He.glo_ok X G (c.fact 28 (f := .glo "is_row") rfl)) (c.def_ 1 (d := dd_is_row) rfl) fun _ _ _ _ _ _ us hl => match us, hl with | [_], _ => rfl
theorem tf_is_side (X : K.In h) (G : h.Ns mainGlobals mg) (c : He.SaysD fa fn K) : TopF K mg "is_side" s_is_side ["thing"] := topF_of (He.glo_ok X G (c.fact 29 (f := .glo "is_side") rfl)) (c.def_ 2 (d := dd_is_side) rfl) fun _ _ _ _ _ _ us hl => match us, hl with | [_], _ => rfl
theorem tf_many_by (X : K.In h) (G : h.Ns mainGlobals mg) (c : He.SaysD fa fn K) : TopF K mg "many_by" s_many_by ["counts"] := topF_of (He.glo_ok X G (c.fact 30 (f := .glo "many_by") rfl)) (c.def_ 3 (d := dd_many_by) rfl) fun _ _ _ _ _ _ us hl => match us, hl with | [_], _ => rfl
theorem tf_is_width (X : K.In h) (G : h.Ns mainGlobals mg) (c : He.SaysD fa fn K) : TopF K mg "is_width" s_is_width ["thing"] := topF_of (He.glo_ok X G (c.fact 31 (f := .glo "is_width") rfl)) (c.def_ 4 (d := dd_is_width) rfl) fun _ _ _ _ _ _ us hl => match us, hl with | [_], _ => rfl
theorem tf_is_order (X : K.In h) (G : h.Ns mainGlobals mg) (c : He.SaysD fa fn K) : TopF K mg "is_order" s_is_order ["thing"] := topF_of (He.glo_ok X G (c.fact 32 (f := .glo "is_order") rfl)) (c.def_ 5 (d := dd_is_order) rfl) fun _ _ _ _ _ _ us hl => match us, hl with | [_], _ => rfl
theorem tf_is_window (X : K.In h) (G : h.Ns mainGlobals mg) (c : He.SaysD fa fn K) : TopF K mg "is_window" s_is_window ["thing"] := topF_of (He.glo_ok X G (c.fact 33 (f := .glo "is_window") rfl)) (c.def_ 6 (d := dd_is_window) rfl) fun _ _ _ _ _ _ us hl => match us, hl with | [_], _ => rfl
theorem tf_need_window (X : K.In h) (G : h.Ns mainGlobals mg) (c : He.SaysD fa fn K) : TopF K mg "need_window" s_need_window ["thing"] := topF_of (He.glo_ok X G (c.fact 34 (f := .glo "need_window") rfl)) (c.def_ 7 (d := dd_need_window) rfl) fun _ _ _ _ _ _ us hl => match us, hl with | [_], _ => rfl
theorem tf_counts_in (X : K.In h) (G : h.Ns mainGlobals mg) (c : He.SaysD fa fn K) : TopF K mg "counts_in" s_counts_in ["window"] := topF_of (He.glo_ok X G (c.fact 35 (f := .glo "counts_in") rfl)) (c.def_ 8 (d := dd_counts_in) rfl) fun _ _ _ _ _ _ us hl => match us, hl with | [_], _ => rfl
theorem tf_places_in (X : K.In h) (G : h.Ns mainGlobals mg) (c : He.SaysD fa fn K) : TopF K mg "places_in" s_places_in ["window"] := topF_of (He.glo_ok X G (c.fact 36 (f := .glo "places_in") rfl)) (c.def_ 9 (d := dd_places_in) rfl) fun _ _ _ _ _ _ us hl => match us, hl with | [_], _ => rfl
theorem tf_span_in (X : K.In h) (G : h.Ns mainGlobals mg) (c : He.SaysD fa fn K) : TopF K mg "span_in" s_span_in ["window"] := topF_of (He.glo_ok X G (c.fact 37 (f := .glo "span_in") rfl)) (c.def_ 10 (d := dd_span_in) rfl) fun _ _ _ _ _ _ us hl => match us, hl with | [_], _ => rfl
theorem tf_fits_in (X : K.In h) (G : h.Ns mainGlobals mg) (c : He.SaysD fa fn K) : TopF K mg "fits_in" s_fits_in ["window", "length"] := topF_of (He.glo_ok X G (c.fact 38 (f := .glo "fits_in") rfl)) (c.def_ 11 (d := dd_fits_in) rfl) fun _ _ _ _ _ _ us hl => match us, hl with | [_, _], _ => rfl
theorem tf_places (X : K.In h) (G : h.Ns mainGlobals mg) (c : He.SaysD fa fn K) : TopF K mg "places" s_places ["window"] := topF_of (He.glo_ok X G (c.fact 39 (f := .glo "places") rfl)) (c.def_ 12 (d := dd_places) rfl) fun _ _ _ _ _ _ us hl => match us, hl with | [_], _ => rfl
theorem tf_need_cell (X : K.In h) (G : h.Ns mainGlobals mg) (c : He.SaysD fa fn K) : TopF K mg "need_cell" s_need_cell ["window", "thing"] := topF_of (He.glo_ok X G (c.fact 40 (f := .glo "need_cell") rfl)) (c.def_ 13 (d := dd_need_cell) rfl) fun _ _ _ _ _ _ us hl => match us, hl with | [_, _], _ => rfl
theorem tf_place_in (X : K.In h) (G : h.Ns mainGlobals mg) (c : He.SaysD fa fn K) : TopF K mg "place_in" s_place_in ["window", "cell"] := topF_of (He.glo_ok X G (c.fact 41 (f := .glo "place_in") rfl)) (c.def_ 14 (d := dd_place_in) rfl) fun _ _ _ _ _ _ us hl => match us, hl with | [_, _], _ => rfl
theorem tf_cell_by (X : K.In h) (G : h.Ns mainGlobals mg) (c : He.SaysD fa fn K) : TopF K mg "cell_by" s_cell_by ["counts", "number"] := topF_of (He.glo_ok X G (c.fact 42 (f := .glo "cell_by") rfl)) (c.def_ 15 (d := dd_cell_by) rfl) fun _ _ _ _ _ _ us hl => match us, hl with | [_, _], _ => rfl
theorem tf_need_row (X : K.In h) (G : h.Ns mainGlobals mg) (c : He.SaysD fa fn K) : TopF K mg "need_row" s_need_row ["thing"] := topF_of (He.glo_ok X G (c.fact 43 (f := .glo "need_row") rfl)) (c.def_ 16 (d := dd_need_row) rfl) fun _ _ _ _ _ _ us hl => match us, hl with | [_], _ => rfl
theorem tf_need_seen (X : K.In h) (G : h.Ns mainGlobals mg) (c : He.SaysD fa fn K) : TopF K mg "need_seen" s_need_seen ["row", "window"] := topF_of (He.glo_ok X G (c.fact 44 (f := .glo "need_seen") rfl)) (c.def_ 17 (d := dd_need_seen) rfl) fun _ _ _ _ _ _ us hl => match us, hl with | [_, _], _ => rfl
theorem tf_word_in (X : K.In h) (G : h.Ns mainGlobals mg) (c : He.SaysD fa fn K) : TopF K mg "word_in" s_word_in ["row", "place", "window"] := topF_of (He.glo_ok X G (c.fact 45 (f := .glo "word_in") rfl)) (c.def_ 18 (d := dd_word_in) rfl) fun _ _ _ _ _ _ us hl => match us, hl with | [_, _, _], _ => rfl
theorem tf_bytes_of (X : K.In h) (G : h.Ns mainGlobals mg) (c : He.SaysD fa fn K) : TopF K mg "bytes_of" s_bytes_of ["word", "window"] := topF_of (He.glo_ok X G (c.fact 46 (f := .glo "bytes_of") rfl)) (c.def_ 19 (d := dd_bytes_of) rfl) fun _ _ _ _ _ _ us hl => match us, hl with | [_, _], _ => rfl
theorem tf_fits_width (X : K.In h) (G : h.Ns mainGlobals mg) (c : He.SaysD fa fn K) : TopF K mg "fits_width" s_fits_width ["thing", "window"] := topF_of (He.glo_ok X G (c.fact 47 (f := .glo "fits_width") rfl)) (c.def_ 20 (d := dd_fits_width) rfl) fun _ _ _ _ _ _ us hl => match us, hl with | [_, _], _ => rfl
theorem tf_with_word (X : K.In h) (G : h.Ns mainGlobals mg) (c : He.SaysD fa fn K) : TopF K mg "with_word" s_with_word ["row", "place", "word", "window"] := topF_of (He.glo_ok X G (c.fact 48 (f := .glo "with_word") rfl)) (c.def_ 21 (d := dd_with_word) rfl) fun _ _ _ _ _ _ us hl => match us, hl with | [_, _, _, _], _ => rfl
theorem tf_words_in (X : K.In h) (G : h.Ns mainGlobals mg) (c : He.SaysD fa fn K) : TopF K mg "words_in" s_words_in ["row", "window"] := topF_of (He.glo_ok X G (c.fact 49 (f := .glo "words_in") rfl)) (c.def_ 22 (d := dd_words_in) rfl) fun _ _ _ _ _ _ us hl => match us, hl with | [_, _], _ => rfl
theorem tf_side_by_side (X : K.In h) (G : h.Ns mainGlobals mg) (c : He.SaysD fa fn K) : TopF K mg "side_by_side" s_side_by_side ["some", "counts"] := topF_of (He.glo_ok X G (c.fact 50 (f := .glo "side_by_side") rfl)) (c.def_ 23 (d := dd_side_by_side) rfl) fun _ _ _ _ _ _ us hl => match us, hl with | [_, _], _ => rfl
theorem tf_word_at (X : K.In h) (G : h.Ns mainGlobals mg) (c : He.SaysD fa fn K) : TopF K mg "word_at" s_word_at ["row", "window", "cell"] := topF_of (He.glo_ok X G (c.fact 51 (f := .glo "word_at") rfl)) (c.def_ 24 (d := dd_word_at) rfl) fun _ _ _ _ _ _ us hl => match us, hl with | [_, _, _], _ => rfl
theorem tf_words_of (X : K.In h) (G : h.Ns mainGlobals mg) (c : He.SaysD fa fn K) : TopF K mg "words_of" s_words_of ["row", "window"] := topF_of (He.glo_ok X G (c.fact 52 (f := .glo "words_of") rfl)) (c.def_ 25 (d := dd_words_of) rfl) fun _ _ _ _ _ _ us hl => match us, hl with | [_, _], _ => rfl
theorem tf_table_of (X : K.In h) (G : h.Ns mainGlobals mg) (c : He.SaysD fa fn K) : TopF K mg "table_of" s_table_of ["row", "window"] := topF_of (He.glo_ok X G (c.fact 53 (f := .glo "table_of") rfl)) (c.def_ 26 (d := dd_table_of) rfl) fun _ _ _ _ _ _ us hl => match us, hl with | [_, _], _ => rfl
theorem tf_written (X : K.In h) (G : h.Ns mainGlobals mg) (c : He.SaysD fa fn K) : TopF K mg "written" s_written ["row", "window", "cell", "word"] := topF_of (He.glo_ok X G (c.fact 54 (f := .glo "written") rfl)) (c.def_ 27 (d := dd_written) rfl) fun _ _ _ _ _ _ us hl => match us, hl with | [_, _, _, _], _ => rfl
theorem tf_filled (X : K.In h) (G : h.Ns mainGlobals mg) (c : He.SaysD fa fn K) : TopF K mg "filled" s_filled ["row", "window", "words"] := topF_of (He.glo_ok X G (c.fact 55 (f := .glo "filled") rfl)) (c.def_ 28 (d := dd_filled) rfl) fun _ _ _ _ _ _ us hl => match us, hl with | [_, _, _], _ => rfl
theorem tf_first_unlike (X : K.In h) (G : h.Ns mainGlobals mg) (c : He.SaysD fa fn K) : TopF K mg "first_unlike" s_first_unlike ["row", "one", "other"] := topF_of (He.glo_ok X G (c.fact 56 (f := .glo "first_unlike") rfl)) (c.def_ 29 (d := dd_first_unlike) rfl) fun _ _ _ _ _ _ us hl => match us, hl with | [_, _, _], _ => rfl
theorem tf_law_cell (X : K.In h) (G : h.Ns mainGlobals mg) (c : He.SaysD fa fn K) : TopF K mg "_law_cell" s_law_cell ["_law_cells_here", "_law_spot"] := topF_of (He.glo_ok X G (c.fact 57 (f := .glo "_law_cell") rfl)) (c.def_ 30 (d := dd_law_cell) rfl) fun _ _ _ _ _ _ us hl => match us, hl with | [_, _], _ => rfl
theorem tf_law_row (X : K.In h) (G : h.Ns mainGlobals mg) (c : He.SaysD fa fn K) : TopF K mg "_law_row" s_law_row ["_law_cells_here", "_law_spot", "_law_length_here"] := topF_of (He.glo_ok X G (c.fact 58 (f := .glo "_law_row") rfl)) (c.def_ 31 (d := dd_law_row) rfl) fun _ _ _ _ _ _ us hl => match us, hl with | [_, _, _], _ => rfl
theorem tf_law_length (X : K.In h) (G : h.Ns mainGlobals mg) (c : He.SaysD fa fn K) : TopF K mg "_law_length" s_law_length ["_law_n"] := topF_of (He.glo_ok X G (c.fact 59 (f := .glo "_law_length") rfl)) (c.def_ 32 (d := dd_law_length) rfl) fun _ _ _ _ _ _ us hl => match us, hl with | [_], _ => rfl
theorem tf_law_window (X : K.In h) (G : h.Ns mainGlobals mg) (c : He.SaysD fa fn K) : TopF K mg "_law_window" s_law_window ["_law_cells_here", "_law_spot", "_law_length_here", "_law_most"] := topF_of (He.glo_ok X G (c.fact 60 (f := .glo "_law_window") rfl)) (c.def_ 33 (d := dd_law_window) rfl) fun _ _ _ _ _ _ us hl => match us, hl with | [_, _, _, _], _ => rfl
theorem tf_law_cells (X : K.In h) (G : h.Ns mainGlobals mg) (c : He.SaysD fa fn K) : TopF K mg "_law_cells" s_law_cells ["_law_window_here"] := topF_of (He.glo_ok X G (c.fact 61 (f := .glo "_law_cells") rfl)) (c.def_ 34 (d := dd_law_cells) rfl) fun _ _ _ _ _ _ us hl => match us, hl with | [_], _ => rfl
theorem tf_law_any_word (X : K.In h) (G : h.Ns mainGlobals mg) (c : He.SaysD fa fn K) : TopF K mg "_law_any_word" s_law_any_word ["_law_n", "_law_width"] := topF_of (He.glo_ok X G (c.fact 62 (f := .glo "_law_any_word") rfl)) (c.def_ 35 (d := dd_law_any_word) rfl) fun _ _ _ _ _ _ us hl => match us, hl with | [_, _], _ => rfl
theorem tf_law_bytes (X : K.In h) (G : h.Ns mainGlobals mg) (c : He.SaysD fa fn K) : TopF K mg "_law_bytes" s_law_bytes ["_law_row_here"] := topF_of (He.glo_ok X G (c.fact 63 (f := .glo "_law_bytes") rfl)) (c.def_ 36 (d := dd_law_bytes) rfl) fun _ _ _ _ _ _ us hl => match us, hl with | [_], _ => rfl
theorem tf_law_by (X : K.In h) (G : h.Ns mainGlobals mg) (c : He.SaysD fa fn K) : TopF K mg "_law_by" s_law_by ["_law_single", "_law_place", "_law_width", "_law_order"] := topF_of (He.glo_ok X G (c.fact 64 (f := .glo "_law_by") rfl)) (c.def_ 37 (d := dd_law_by) rfl) fun _ _ _ _ _ _ us hl => match us, hl with | [_, _, _, _], _ => rfl
theorem tf_law_seen_right (X : K.In h) (G : h.Ns mainGlobals mg) (c : He.SaysD fa fn K) : TopF K mg "_law_seen_right" s_law_seen_right ["_law_ahead", "_law_behind", "_law_window_here", "_law_changed"] := topF_of (He.glo_ok X G (c.fact 65 (f := .glo "_law_seen_right") rfl)) (c.def_ 38 (d := dd_law_seen_right) rfl) fun _ _ _ _ _ _ us hl => match us, hl with | [_, _, _, _], _ => rfl
theorem tf_law_written_right (X : K.In h) (G : h.Ns mainGlobals mg) (c : He.SaysD fa fn K) : TopF K mg "_law_written_right" s_law_written_right ["_law_row_here", "_law_windows", "_law_drawn"] := topF_of (He.glo_ok X G (c.fact 66 (f := .glo "_law_written_right") rfl)) (c.def_ 39 (d := dd_law_written_right) rfl) fun _ _ _ _ _ _ us hl => match us, hl with | [_, _, _], _ => rfl
theorem tf_law_flat (X : K.In h) (G : h.Ns mainGlobals mg) (c : He.SaysD fa fn K) : TopF K mg "_law_flat" s_law_flat ["_law_table", "_law_deep"] := topF_of (He.glo_ok X G (c.fact 67 (f := .glo "_law_flat") rfl)) (c.def_ 40 (d := dd_law_flat) rfl) fun _ _ _ _ _ _ us hl => match us, hl with | [_, _], _ => rfl
theorem tf_law_unlike_right (X : K.In h) (G : h.Ns mainGlobals mg) (c : He.SaysD fa fn K) : TopF K mg "_law_unlike_right" s_law_unlike_right ["_law_row_here", "_law_window_here"] := topF_of (He.glo_ok X G (c.fact 68 (f := .glo "_law_unlike_right") rfl)) (c.def_ 41 (d := dd_law_unlike_right) rfl) fun _ _ _ _ _ _ us hl => match us, hl with | [_, _], _ => rfl
theorem tf_law (X : K.In h) (G : h.Ns mainGlobals mg) (c : He.SaysD fa fn K) : TopF K mg "law" s_law ["_law_script"] := topF_of (He.glo_ok X G (c.fact 69 (f := .glo "law") rfl)) (c.def_ 42 (d := dd_law) rfl) fun _ _ _ _ _ _ us hl => match us, hl with | [_], _ => rfl
theorem law_of (X : K.In h) (G : h.Ns mainGlobals mg) (c : He.SaysD fa fn K) : ∃ fd : FuncData, mg "law" = some (.ref (He.ga K "law")) ∧ Fun K "law" "law" s_law (He.ga K "law") fd ∧ ∀ (s : Shared) (v : Value), BindsTo s fd ⟨[v], []⟩ [("_law_script", v)] := by
  have h : ∃ fd, FunD K "law" "law" (defArgs s_law) (defBody s_law) (defScope s_law) [] [] (He.ga K "law") fd := c.def_ 42 (d := dd_law) rfl
  obtain ⟨fd, ⟨oc, od, dV, kV, doc, pm, an, cdv, ct, osl, rfl, e2, e3, e4, e5⟩, kp⟩ := h
  rcases e4 with ⟨_, rfl⟩ | ⟨z, _⟩
  · exact ⟨_, He.glo_ok X G (c.fact 69 (f := .glo "law") rfl), fun_mk e2 e3 kp, fun s v => .of_eq rfl⟩
  · exact absurd rfl z
theorem all_of {fd : FuncData} (X : K.In h) (G : h.Ns mainGlobals mg) (c : He.SaysD fa fn K) (e : ex K = true) (F : Fun K "law" "law" s_law (He.ga K "law") fd) : FnOk P w K mg base CX0 10 (He.ga K "law") fd ["_law_script"] (spD K R_law) := by
  have T := top_of X G c e
  have G_is_among := ok_is_among (P := P) (w := w) (base := base) T (tf_is_among X G c)
  have G_is_row := ok_is_row (P := P) (w := w) (base := base) T (tf_is_row X G c) G_is_among
  have G_is_side := ok_is_side (P := P) (w := w) (base := base) T (tf_is_side X G c) G_is_among
  have G_many_by := ok_many_by (P := P) (w := w) (base := base) T (tf_many_by X G c)
  have G_is_width := ok_is_width (P := P) (w := w) (base := base) T (tf_is_width X G c) G_is_among
  have G_is_order := ok_is_order (P := P) (w := w) (base := base) T (tf_is_order X G c)
  have G_is_window := ok_is_window (P := P) (w := w) (base := base) T (tf_is_window X G c) G_is_width G_is_order G_is_among G_many_by G_is_side
  have G_need_window := ok_need_window (P := P) (w := w) (base := base) T (tf_need_window X G c) G_is_window
  have G_counts_in := ok_counts_in (P := P) (w := w) (base := base) T (tf_counts_in X G c)
  have G_places_in := ok_places_in (P := P) (w := w) (base := base) T (tf_places_in X G c) G_counts_in
  have G_span_in := ok_span_in (P := P) (w := w) (base := base) T (tf_span_in X G c) G_many_by G_counts_in
  have G_fits_in := ok_fits_in (P := P) (w := w) (base := base) T (tf_fits_in X G c) G_span_in
  have G_places := ok_places (P := P) (w := w) (base := base) T (tf_places X G c) G_need_window G_places_in
  have G_need_cell := ok_need_cell (P := P) (w := w) (base := base) T (tf_need_cell X G c) G_need_window G_is_among
  have G_place_in := ok_place_in (P := P) (w := w) (base := base) T (tf_place_in X G c)
  have G_cell_by := ok_cell_by (P := P) (w := w) (base := base) T (tf_cell_by X G c)
  have G_need_row := ok_need_row (P := P) (w := w) (base := base) T (tf_need_row X G c) G_is_row
  have G_need_seen := ok_need_seen (P := P) (w := w) (base := base) T (tf_need_seen X G c) G_need_row G_need_window G_fits_in
  have G_word_in := ok_word_in (P := P) (w := w) (base := base) T (tf_word_in X G c)
  have G_bytes_of := ok_bytes_of (P := P) (w := w) (base := base) T (tf_bytes_of X G c)
  have G_fits_width := ok_fits_width (P := P) (w := w) (base := base) T (tf_fits_width X G c) G_is_among
  have G_with_word := ok_with_word (P := P) (w := w) (base := base) T (tf_with_word X G c) G_bytes_of
  have G_words_in := ok_words_in (P := P) (w := w) (base := base) T (tf_words_in X G c) G_word_in G_places_in
  have G_side_by_side := ok_sbs (P := P) (w := w) (base := base) T (tf_side_by_side X G c) G_many_by 5
  have G_word_at := ok_word_at (P := P) (w := w) (base := base) T (tf_word_at X G c) G_need_seen G_need_cell G_word_in G_place_in
  have G_words_of := ok_words_of (P := P) (w := w) (base := base) T (tf_words_of X G c) G_need_seen G_words_in
  have G_table_of := ok_table_of (P := P) (w := w) (base := base) T (tf_table_of X G c) G_need_seen G_words_in G_side_by_side G_counts_in
  have G_written := ok_written (P := P) (w := w) (base := base) T (tf_written X G c) G_need_seen G_need_cell G_with_word G_fits_width G_place_in
  have G_filled := ok_filled (P := P) (w := w) (base := base) T (tf_filled X G c) G_need_seen G_places_in G_with_word G_fits_width
  have G_first_unlike := ok_first_unlike (P := P) (w := w) (base := base) T (tf_first_unlike X G c) G_need_row G_need_window G_need_seen G_counts_in G_words_in G_cell_by
  have G_law_cell := ok_law_cell (P := P) (w := w) (base := base) T (tf_law_cell X G c)
  have G_law_row := ok_law_row (P := P) (w := w) (base := base) T (tf_law_row X G c) G_law_cell
  have G_law_length := ok_law_length (P := P) (w := w) (base := base) T (tf_law_length X G c)
  have G_law_window := ok_law_window (P := P) (w := w) (base := base) T (tf_law_window X G c) G_law_cell
  have G_law_cells := ok_law_cells (P := P) (w := w) (base := base) T (tf_law_cells X G c)
  have G_law_any_word := ok_law_any_word (P := P) (w := w) (base := base) T (tf_law_any_word X G c)
  have G_law_bytes := ok_law_bytes (P := P) (w := w) (base := base) T (tf_law_bytes X G c) G_words_of
  have G_law_by := ok_law_by (P := P) (w := w) (base := base) T (tf_law_by X G c)
  have G_law_seen_right := ok_law_seen_right (P := P) (w := w) (base := base) T (tf_law_seen_right X G c) G_words_of G_law_bytes G_places G_law_by
  have G_law_seen_rightD := ok_law_seen_rightD (P := P) (w := w) (base := base) T (tf_law_seen_right X G c) G_words_of G_law_bytes G_places G_law_by
  have G_law_written_right := ok_law_written_right (P := P) (w := w) (base := base) T (tf_law_written_right X G c) G_filled G_law_cells G_places G_written G_law_any_word G_word_at G_law_bytes G_law_seen_right G_words_of G_law_seen_rightD
  have G_law_flat := ok_flat (P := P) (w := w) (base := base) T (tf_law_flat X G c)  5
  have G_law_unlike_right := ok_law_unlike_right (P := P) (w := w) (base := base) T (tf_law_unlike_right X G c) G_words_of G_first_unlike G_law_flat G_law_cells G_table_of
  have G_law := ok_law (P := P) (w := w) (base := base) T F G_law_row G_law_length G_law_window G_law_cell G_law_unlike_right G_law_written_right G_law_bytes G_law_cells
  exact G_law
end
end K37

set_option Elab.async false
set_option linter.all false
set_option maxRecDepth 100000
set_option maxHeartbeats 0
open PySem PySem.W PySem.Calls PyProof.Rows
theorem PySem.Challenge.cw_lentpanes_k37_whole_seen_through_all_holds : PySem.Challenge.rw_lentpanes_k37_whole_seen_through_all.Holds := by
  w_on; o_law
  refine HandSHeadRun.head_any (r := OpenLaw.row PySem.Challenge.rw_lentpanes_k37_whole_seen_through_all) (q := view (OpenLaw.row PySem.Challenge.rw_lentpanes_k37_whole_seen_through_all).prog [64]) (H := K37.hk) (ob := K37.ob) (M := 4000) (loose := K37.loose) (d := HandSHeadRun.topDef (OpenLaw.row PySem.Challenge.rw_lentpanes_k37_whole_seen_through_all).prog 64) (kwd := []) K37.ob_eq
    (by kernel_rfl) (fun s => by kernel_rfl) K37.run (by kernel_rfl) (by kernel_rfl) (by kernel_rfl) (by rfl) (by first | assumption | decide +kernel) (by decide +kernel) ⟨rfl, rfl, rfl, rfl, rfl, by decide +kernel⟩ ?hw ?hc
  case hw => w_witness2
  case hc =>
    refine L2.walk_ofE (l := PySem.Challenge.rw_lentpanes_k37_whole_seen_through_all) (n := 63) (k := 10) (x := "_law_script") (CX := L2.CX0) rfl (by decide) (by kernel_rfl) ⟨rfl, by decide, by decide⟩ ?F (fun _ _ _ _ z => z)
    intro w mg fa h Y G hmg0
    obtain ⟨K, KX, c, e⟩ := Y
    have hmg : mg ("law" : PySem.Str) = some (.ref fa) := by
      have e : (HandSHeadRun.topDef (OpenLaw.row PySem.Challenge.rw_lentpanes_k37_whole_seen_through_all).prog 64).name = ("law" : PySem.Str) := by kernel_rfl
      rw [← e]
      exact hmg0
    obtain ⟨fd, hf, F, hb⟩ := K37.law_of KX G c
    have hfe : He.ga K "law" = fa := by
      have := hf.symm.trans hmg
      exact Value.ref.inj (Option.some.inj this)
    subst hfe
    exact ⟨K, fd, K37.spD K K37.R_law, KX, hb, fun H a ns hl _ hS => ⟨H, [.list (ns.map PyData.int)], .bool true, L2.Same.refl _, .cons (.lst hS (K37.dpa_of_ints ns)) .nil, ⟨ns, hl, rfl, rfl⟩, fun v H' H2 x p => by cases p; rfl⟩, fun base _ _ => K37.all_of KX G c e F⟩
