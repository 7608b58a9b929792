import PyProof.Rows.All
import Wide.All
import OpenK.AllK
import Wide.FinOn
import HandS.ForMost
import HandS.Evl
import HandS.Zip
import HandS.TupAny
import HandS.Wide
import HandS.Walk
import HandS.Defaults
import HandS.IsInst
import KE.DataMinMax
import KE.GoesEnum
import PySem.Challenge.RW_stillowed_k45_a_deed_that_gets_dearer
set_option Elab.async false
set_option linter.all false
set_option maxRecDepth 100000
set_option maxHeartbeats 4000000
/-! A layer over HandS: expressions and statements by data, the heap hidden. -/
namespace FD
open PySem L2 Evl

/-! ### hidden objects -/
def hide (M : List Addr) (H : Hp) : Hp := fun a => if a ∈ M then none else H a
section
variable {M M' : List Addr} {H H' : Hp} {a : Addr} {o : HO}
theorem hide_in (h : a ∈ M) : hide M H a = none := if_pos h
theorem hide_out (h : a ∉ M) : hide M H a = H a := if_neg h
theorem hide_some (h : hide M H a = some o) : a ∉ M ∧ H a = some o := by
  by_cases q : a ∈ M
  · rw [hide_in q] at h; cases h
  · rw [hide_out q] at h; exact ⟨q, h⟩
theorem hide_ex (e : Ex H H') : Ex (hide M H) (hide M H') := fun a o h => by
  obtain ⟨q, h⟩ := hide_some h
  rw [hide_out q]; exact e a o h
theorem hide_le : Ex (hide M H) H := fun a o h => (hide_some h).2
theorem hide_sub (s : ∀ a ∈ M, a ∈ M') : Ex (hide M' H) (hide M H) := fun a o h => by
  obtain ⟨q, h⟩ := hide_some h
  rw [hide_out (fun z => q (s a z))]; exact h
theorem hide_upd (h : a ∈ M) : hide M (upd H a o) = hide M H := by
  funext b
  by_cases q : b ∈ M
  · rw [hide_in q, hide_in q]
  · rw [hide_out q, hide_out q, upd_ne (fun z => q (by rw [z]; exact h))]
end

/-! ### data in a heap that grows -/
mutual
theorem dp_mono {K : PySem.W.Frag} {H H' : Hp} (e : Ex H H') : ∀ (d : PyData) (v : V), Dp K H v d → Dp K H' v d
  | .none, _, h => by cases h; exact .non
  | .bool b, _, h => by cases h; exact .bl b
  | .int i, _, h => by cases h; exact .int i
  | .str x, _, h => by cases h; exact .str x
  | .list ds, _, h => by
    cases h with
    | lst hs ha => exact .lst (ex_l e hs) (dpAll_mono e ds _ ha)
  | .tuple ds, _, h => by
    cases h with
    | tup hs ha => exact .tup (ex_t e hs) (dpAll_mono e ds _ ha)
  | .dict _, _, h => by cases h
theorem dpAll_mono {K : PySem.W.Frag} {H H' : Hp} (e : Ex H H') : ∀ (ds : List PyData) (vs : List V), DpAll K H vs ds → DpAll K H' vs ds
  | [], _, h => by cases h; exact .nil
  | d :: ds, _, h => by
    cases h with
    | cons h1 h2 => exact .cons (dp_mono e d _ h1) (dpAll_mono e ds _ h2)
end
end FD
namespace L2
open PySem
section
variable {K : PySem.W.Frag} {H : Hp}
theorem DpAll.length : ∀ {vs : List V} {ds : List PyData}, DpAll K H vs ds → vs.length = ds.length
  | _, _, .nil => rfl
  | _, _, .cons _ t => by rw [List.length_cons, List.length_cons, DpAll.length t]
theorem DpAll.get : ∀ {vs : List V} {ds : List PyData} {i : Nat} {d : PyData}, DpAll K H vs ds → ds[i]? = some d → ∃ v, vs[i]? = some v ∧ Dp K H v d
  | _, _, _, _, .nil, z => by simp at z
  | _, _, 0, _, .cons r0 _, z => by simp at z; subst z; exact ⟨_, rfl, r0⟩
  | _, _, i + 1, d, .cons _ t, e => by
    obtain ⟨u, h1, h2⟩ := DpAll.get (i := i) (d := d) t (by simpa using e)
    exact ⟨u, by simpa using h1, by exact h2⟩
theorem DpAll.append : ∀ {vs ws : List V} {ds es : List PyData}, DpAll K H vs ds → DpAll K H ws es → DpAll K H (vs ++ ws) (ds ++ es)
  | _, _, _, _, .nil, s => s
  | _, _, _, _, .cons r t, s => .cons r (DpAll.append t s)
theorem DpAll.take : ∀ {vs : List V} {ds : List PyData} (n : Nat), DpAll K H vs ds → DpAll K H (vs.take n) (ds.take n)
  | _, _, 0, _ => by rw [List.take_zero, List.take_zero]; exact .nil
  | _, _, _ + 1, .nil => .nil
  | _, _, n + 1, .cons r t => by rw [List.take_succ_cons, List.take_succ_cons]; exact .cons r (DpAll.take n t)
theorem DpAll.drop : ∀ {vs : List V} {ds : List PyData} (n : Nat), DpAll K H vs ds → DpAll K H (vs.drop n) (ds.drop n)
  | _, _, 0, r => r
  | _, _, _ + 1, .nil => .nil
  | _, _, n + 1, .cons _ t => by rw [List.drop_succ_cons, List.drop_succ_cons]; exact DpAll.drop n t
theorem DpAll.set : ∀ {vs : List V} {ds : List PyData} {v : V} {d : PyData} (n : Nat), DpAll K H vs ds → Dp K H v d → DpAll K H (vs.set n v) (ds.set n d)
  | _, _, _, _, _, .nil, _ => .nil
  | _, _, _, _, 0, .cons _ t, q => .cons q t
  | _, _, _, _, n + 1, .cons r t, q => .cons r (DpAll.set n t q)
theorem DpAll.ints : ∀ {vs : List V} {ns : List Int}, DpAll K H vs (ns.map PyData.int) → vs = ns.map V.int
  | _, [], h => by cases h; rfl
  | _, n :: ns, h => by
    cases h with
    | cons h1 h2 =>
      cases h1
      rw [DpAll.ints h2]
      rfl
theorem DpAll.of_ints (ns : List Int) : DpAll K H (ns.map V.int) (ns.map PyData.int) := by
  induction ns with
  | nil => exact .nil
  | cons n ns ih => exact .cons (.int n) ih
theorem Dp.int_of {v : V} {i : Int} (h : Dp K H v (.int i)) : v = .int i := by cases h; rfl
theorem Dp.bool_of {v : V} {i : Bool} (h : Dp K H v (.bool i)) : v = .bl i := by cases h; rfl
theorem Dp.str_of {v : V} {i : Str} (h : Dp K H v (.str i)) : v = .str i := by cases h; rfl
theorem Dp.none_of {v : V} (h : Dp K H v .none) : v = .non := by cases h; rfl
theorem Dp.tup_of {v : V} {ds : List PyData} (h : Dp K H v (.tuple ds)) : ∃ a vs, v = .ref a ∧ SqT K H a vs ∧ DpAll K H vs ds := by
  cases h with
  | tup hs ha => exact ⟨_, _, rfl, hs, ha⟩
theorem Dp.lst_of {v : V} {ds : List PyData} (h : Dp K H v (.list ds)) : ∃ a vs, v = .ref a ∧ SqL K H a vs ∧ DpAll K H vs ds := by
  cases h with
  | lst hs ha => exact ⟨_, _, rfl, hs, ha⟩
end

end L2
namespace FD
open PySem L2 Evl

/-! ### the state of a body: its slots by data, its own lists by address -/
inductive MO where
  | lst (ds : List PyData)
  | dK (kvs : List (Key × PyData))
inductive Ent where
  | d (d : PyData)
  | m (a : Addr)
  | u
abbrev Mem := List (Addr × MO)
structure Cfg where
  K : PySem.W.Frag
  M0 : List Addr
  G : Hp
  B : Hp
def MOok (K : PySem.W.Frag) (Hh H : Hp) (a : Addr) : MO → Prop
  | .lst ds => ∃ vs, H a = some (.lst vs) ∧ DpAll K Hh vs ds
  | .dK kvs => ∃ ws, H a = some (.dK ws) ∧ Paired (fun (p : Key × V) (q : Key × PyData) => p.1 = q.1 ∧ Dp K Hh p.2 q.2) ws kvs
def EntOk (K : PySem.W.Frag) (Hh : Hp) : Ent → V → Prop
  | .d d, v => Dp K Hh v d
  | .m a, v => v = .ref a
  | .u, _ => True
theorem EntOk.mono {K : PySem.W.Frag} {H H' : Hp} {e : Ent} {v : V} (x : Ex H H') (h : EntOk K H e v) : EntOk K H' e v := by
  cases e with
  | d d => exact dp_mono x d v h
  | m a => exact h
  | u => trivial
theorem MOok.there {K : PySem.W.Frag} {Hh H : Hp} {a : Addr} {m : MO} (h : MOok K Hh H a m) : H a ≠ none := by
  cases m with
  | lst ds => obtain ⟨_, e, _⟩ := h; rw [e]; exact fun z => nomatch z
  | dK ds => obtain ⟨_, e, _⟩ := h; rw [e]; exact fun z => nomatch z
theorem MOok.mono {K : PySem.W.Frag} {Hh Hh' H H' : Hp} {a : Addr} {m : MO} (x : Ex Hh Hh') (e : ∀ o, H a = some o → H' a = some o) (h : MOok K Hh H a m) : MOok K Hh' H' a m := by
  cases m with
  | lst ds => obtain ⟨vs, e1, q⟩ := h; exact ⟨vs, e _ e1, dpAll_mono x _ _ q⟩
  | dK ds => obtain ⟨vs, e1, q⟩ := h; exact ⟨vs, e _ e1, Paired.mapP q fun p q z => ⟨z.1, dp_mono x _ _ z.2⟩⟩
end FD
namespace FD
open PySem L2 Evl

structure Ok (C : Cfg) (M : List Addr) (δ : List Ent) (μ : Mem) (σ : L2.St) (H : Hp) : Prop where
  len : σ.length = δ.length
  slot : ∀ (i : Nat) (e : Ent), δ[i]? = some e → e ≠ .u → ∃ v, σ[i]? = some (some v) ∧ EntOk C.K (hide M H) e v
  mem : ∀ p ∈ μ, p.1 ∈ M ∧ C.G p.1 = none ∧ MOok C.K (hide M H) H p.1 p.2
  nd : (μ.map (·.1)).Nodup
  alloc : ∀ a ∈ M, H a ≠ none
  sub : ∀ a ∈ C.M0, a ∈ M
  gr : Ex C.G H
  base : Ex C.B (hide M H)

section
variable {C : Cfg} {M M' : List Addr} {δ δ' δ1 δ2 : List Ent} {μ μ' μ1 μ2 μ3 : Mem} {σ σ' σ1 σ2 : L2.St} {H H' : Hp}
theorem Ok.fresh (o : Ok C M δ μ σ H) {p : Addr} (h : H p = none) : p ∉ M := fun z => o.alloc p z h
/-- the heap grows -/
theorem Ok.grow (o : Ok C M δ μ σ H) (e : Ex H H') : Ok C M δ μ σ H' where
  len := o.len
  slot := fun i x h1 h2 => let ⟨v, a, b⟩ := o.slot i x h1 h2; ⟨v, a, b.mono (hide_ex e)⟩
  mem := fun p hp => let ⟨a, b, c⟩ := o.mem p hp; ⟨a, b, c.mono (hide_ex e) fun u q => e _ u q⟩
  nd := o.nd
  alloc := fun a ha => by
    cases q : H a with
    | none => exact absurd q (o.alloc a ha)
    | some u => rw [e a u q]; exact fun z => nomatch z
  sub := o.sub
  gr := o.gr.trans e
  base := o.base.trans (hide_ex e)
/-- the slots of one state, the lists of a later one -/
theorem Ok.swap (o : Ok C M δ1 μ1 σ1 H) (p : Ok C M δ2 μ2 σ2 H') (e : Ex (hide M H) (hide M H')) : Ok C M δ1 μ2 σ1 H' where
  len := o.len
  slot := fun i x h1 h2 => let ⟨v, a, b⟩ := o.slot i x h1 h2; ⟨v, a, b.mono e⟩
  mem := p.mem
  nd := p.nd
  alloc := p.alloc
  sub := p.sub
  gr := p.gr
  base := p.base
theorem Ok.reB {B : Hp} (o : Ok { C with B := B } M δ μ σ H) (h : Ex C.B B) : Ok C M δ μ σ H where
  len := o.len
  slot := o.slot
  mem := o.mem
  nd := o.nd
  alloc := o.alloc
  sub := o.sub
  gr := o.gr
  base := h.trans o.base
theorem Ok.toB (o : Ok C M δ μ σ H) : Ok { C with B := hide M H } M δ μ σ H where
  len := o.len
  slot := o.slot
  mem := o.mem
  nd := o.nd
  alloc := o.alloc
  sub := o.sub
  gr := o.gr
  base := Ex.refl _
theorem Ok.inB {B : Hp} (o : Ok C M δ μ σ H) (h : Ex B (hide M H)) : Ok { C with B := B } M δ μ σ H where
  len := o.len
  slot := o.slot
  mem := o.mem
  nd := o.nd
  alloc := o.alloc
  sub := o.sub
  gr := o.gr
  base := h
/-- a slot is stored -/
theorem Ok.set (o : Ok C M δ μ σ H) (i : Nat) {e : Ent} {v : V} (r : EntOk C.K (hide M H) e v) : Ok C M (δ.set i e) μ (σ.set i (some v)) H where
  len := by rw [List.length_set, List.length_set]; exact o.len
  slot := fun j x h1 h2 => by
    by_cases q : i = j
    · subst q
      have hl : i < δ.length := by
        have := (List.getElem?_eq_some_iff.mp h1).1
        rw [List.length_set] at this; exact this
      rw [List.getElem?_set_self hl] at h1
      cases h1
      exact ⟨v, by rw [List.getElem?_set_self (by rw [o.len]; exact hl)], r⟩
    · rw [List.getElem?_set_ne q] at h1
      obtain ⟨w, a, b⟩ := o.slot j x h1 h2
      exact ⟨w, by rw [List.getElem?_set_ne q]; exact a, b⟩
  mem := o.mem
  nd := o.nd
  alloc := o.alloc
  sub := o.sub
  gr := o.gr
  base := o.base
/-- slots forgotten -/
theorem Ok.weak (o : Ok C M δ μ σ H) (hl : σ'.length = δ'.length) (h : ∀ (i : Nat) (e : Ent), δ'[i]? = some e → e ≠ .u → δ[i]? = some e ∧ σ'[i]? = σ[i]?) : Ok C M δ' μ σ' H where
  len := hl
  slot := fun i e h1 h2 => by
    obtain ⟨a, b⟩ := h i e h1 h2
    obtain ⟨v, c, d⟩ := o.slot i e a h2
    exact ⟨v, b.trans c, d⟩
  mem := o.mem
  nd := o.nd
  alloc := o.alloc
  sub := o.sub
  gr := o.gr
  base := o.base
/-- hidden objects dropped -/
theorem Ok.drop (o : Ok C M' δ μ σ H) (s : ∀ a ∈ M, a ∈ M') (h : ∀ p ∈ μ, p.1 ∈ M) (h0 : ∀ a ∈ C.M0, a ∈ M) : Ok C M δ μ σ H where
  len := o.len
  slot := fun i x h1 h2 => let ⟨v, a, b⟩ := o.slot i x h1 h2; ⟨v, a, b.mono (hide_sub s)⟩
  mem := fun p hp => let ⟨_, b, c⟩ := o.mem p hp; ⟨h p hp, b, c.mono (hide_sub s) fun _ q => q⟩
  nd := o.nd
  alloc := fun a ha => o.alloc a (s a ha)
  sub := h0
  gr := o.gr
  base := o.base.trans (hide_sub s)
/-- some of the lists are no longer spoken of -/
theorem Ok.mems (o : Ok C M δ μ σ H) (h : ∀ p ∈ μ', p ∈ μ) (nd : (μ'.map (·.1)).Nodup) : Ok C M δ μ' σ H where
  len := o.len
  slot := o.slot
  mem := fun p hp => o.mem p (h p hp)
  nd := nd
  alloc := o.alloc
  sub := o.sub
  gr := o.gr
  base := o.base
theorem nodup_fst {α β : Type} {l : List (α × β)} (hN : (l.map (·.1)).Nodup) {i j : Nat} {a : α} {x y : β} (h1 : l[i]? = some (a, x)) (h2 : l[j]? = some (a, y)) : i = j := by
  have e1 : (l.map (·.1))[i]? = some a := by rw [List.getElem?_map, h1]; rfl
  have e2 : (l.map (·.1))[j]? = some a := by rw [List.getElem?_map, h2]; rfl
  exact L2.nd_ix hN e1 e2
theorem map_set_fst {α β : Type} {l : List (α × β)} {j : Nat} {a : α} {x y : β} (h : l[j]? = some (a, x)) : (l.set j (a, y)).map (·.1) = l.map (·.1) := by
  rw [List.map_set]
  refine List.ext_getElem? fun k => ?_
  by_cases q : j = k
  · subst q
    have hl := (List.getElem?_eq_some_iff.mp h).1
    rw [List.getElem?_set_self (by rw [List.length_map]; exact hl), List.getElem?_map, h]; rfl
  · rw [List.getElem?_set_ne q]
/-- one of the lists is written -/
theorem Ok.write (o : Ok C M δ μ σ H) {j : Nat} {a : Addr} {mo mo' : MO} {ho : HO} (h : μ[j]? = some (a, mo)) (hn : MOok C.K (hide M H) (upd H a ho) a mo') : Ok C M δ (μ.set j (a, mo')) σ (upd H a ho) where
  len := o.len
  slot := fun i x h1 h2 => by
    rw [hide_upd (o.mem _ (List.mem_of_getElem? h)).1]; exact o.slot i x h1 h2
  mem := fun p hp => by
    have ha := o.mem _ (List.mem_of_getElem? h)
    rw [hide_upd ha.1]
    obtain ⟨k, hk⟩ := List.getElem?_of_mem hp
    by_cases q : j = k
    · subst q
      rw [List.getElem?_set_self (List.getElem?_eq_some_iff.mp h).1] at hk
      cases hk
      exact ⟨ha.1, ha.2.1, hn⟩
    · rw [List.getElem?_set_ne q] at hk
      obtain ⟨b1, b2, b3⟩ := o.mem p (List.mem_of_getElem? hk)
      refine ⟨b1, b2, b3.mono (Ex.refl _) fun u e => ?_⟩
      rw [upd_ne (fun z => ?_)]
      · exact e
      · have : (p.1, p.2) = p := rfl
        rw [← this, z] at hk
        exact q (nodup_fst o.nd h hk)
  nd := by rw [map_set_fst h]; exact o.nd
  alloc := fun b hb => by
    by_cases q : b = a
    · subst q; rw [upd_same]; exact fun z => nomatch z
    · rw [upd_ne q]; exact o.alloc b hb
  sub := o.sub
  gr := Ex.mut o.gr (o.mem _ (List.mem_of_getElem? h)).2.1
  base := by rw [hide_upd (o.mem _ (List.mem_of_getElem? h)).1]; exact o.base
theorem hide_new {p : Addr} {o : HO} (h : H p = none) : Ex (hide M H) (hide (p :: M) (upd H p o)) := fun a u e => by
  obtain ⟨q, e⟩ := hide_some e
  have ne : a ≠ p := ne_of_none e h
  rw [hide_out (fun z => (List.mem_cons.mp z).elim ne q), upd_ne ne]; exact e
/-- a new list of one's own -/
theorem Ok.new (o : Ok C M δ μ σ H) {p : Addr} {mo : MO} {ho : HO} (h : H p = none) (hn : MOok C.K (hide (p :: M) (upd H p ho)) (upd H p ho) p mo) : Ok C (p :: M) δ ((p, mo) :: μ) σ (upd H p ho) where
  len := o.len
  slot := fun i x h1 h2 => let ⟨v, a, b⟩ := o.slot i x h1 h2; ⟨v, a, b.mono (hide_new h)⟩
  mem := fun q hq => by
    rcases List.mem_cons.mp hq with e | hq
    · subst e
      refine ⟨List.mem_cons_self, ?_, hn⟩
      cases z : C.G p with
      | none => rfl
      | some u => have := o.gr p u z; rw [h] at this; cases this
    · obtain ⟨b1, b2, b3⟩ := o.mem q hq
      refine ⟨List.mem_cons_of_mem _ b1, b2, b3.mono (hide_new h) fun u e => ?_⟩
      rw [upd_ne (ne_of_none e h)]; exact e
  nd := by
    rw [List.map_cons, List.nodup_cons]
    refine ⟨fun z => ?_, o.nd⟩
    obtain ⟨q, hq, e⟩ := List.mem_map.mp z
    have := (o.mem q hq).2.2.there
    rw [show q.1 = p from e] at this
    exact this h
  alloc := fun b hb => by
    rcases List.mem_cons.mp hb with e | hb
    · subst e; rw [upd_same]; exact fun z => nomatch z
    · have ne : b ≠ p := fun z => o.alloc b hb (z ▸ h)
      rw [upd_ne ne]; exact o.alloc b hb
  sub := fun a ha => List.mem_cons_of_mem _ (o.sub a ha)
  gr := o.gr.trans (Ex.new h)
  base := o.base.trans (hide_new h)
end

/-! ### judgements -/
def EvX (C : Cfg) (te : TE) (M : List Addr) (δ : List Ent) (μ μ' : Mem) (e : Ent) : Prop := ∀ σ H, Ok C M δ μ σ H → ∀ Q : VK, (∀ v H', Ok C M δ μ' σ H' → Ex (hide M H) (hide M H') → EntOk C.K (hide M H') e v → Q v H') → te σ H Q
def EvT (C : Cfg) (tt : TT) (M : List Addr) (δ : List Ent) (μ μ' : Mem) (b : Bool) : Prop := ∀ σ H, Ok C M δ μ σ H → ∀ Q : Bool → Hp → Prop, (∀ H', Ok C M δ μ' σ H' → Ex (hide M H) (hide M H') → Q b H') → tt σ H Q
def EvA (C : Cfg) (ta : TA) (M : List Addr) (δ : List Ent) (μ μ' : Mem) (es : List Ent) : Prop := ∀ σ H, Ok C M δ μ σ H → ∀ Q : List V → Hp → Prop, (∀ vs H', Ok C M δ μ' σ H' → Ex (hide M H) (hide M H') → Paired (EntOk C.K (hide M H')) es vs → Q vs H') → ta σ H Q
def EvO (C : Cfg) (to : TO) (M : List Addr) (δ : List Ent) (μ μ' : Mem) (o : Option Int) : Prop := ∀ σ H, Ok C M δ μ σ H → ∀ Q : Option Int → Hp → Prop, (∀ H', Ok C M δ μ' σ H' → Ex (hide M H) (hide M H') → Q o H') → to σ H Q
def OpX (C : Cfg) (r : R2) (M : List Addr) (δ : List Ent) (μ μ' : Mem) (e1 e2 e3 : Ent) : Prop := ∀ σ H x y, Ok C M δ μ σ H → EntOk C.K (hide M H) e1 x → EntOk C.K (hide M H) e2 y → ∀ Q : VK, (∀ v H', Ok C M δ μ' σ H' → Ex (hide M H) (hide M H') → EntOk C.K (hide M H') e3 v → Q v H') → r x y H Q
def CallX (C : Cfg) (r : List V → Hp → VK → Prop) (M : List Addr) (δ : List Ent) (μ μ' : Mem) (es : List Ent) (e : Ent) : Prop := ∀ σ H vs, Ok C M δ μ σ H → Paired (EntOk C.K (hide M H)) es vs → ∀ Q : VK, (∀ v H', Ok C M δ μ' σ H' → Ex (hide M H) (hide M H') → EntOk C.K (hide M H') e v → Q v H') → r vs H Q
/-- what an entry reads as just now -/
inductive Rdd (μ : Mem) : Ent → PyData → Prop
  | d (d : PyData) : Rdd μ (.d d) d
  | m {j : Nat} {a : Addr} {ds : List PyData} : μ[j]? = some (a, .lst ds) → Rdd μ (.m a) (.list ds)
section
variable {C : Cfg} {M M' : List Addr} {δ δ' δ1 δ2 : List Ent} {μ μ' μ1 μ2 μ3 : Mem} {σ σ' σ1 σ2 : L2.St} {H H' : Hp} {e e1 e2 e3 : Ent} {ta tb te tc : TE} {t u : TT}
theorem Rdd.dp {x : PyData} (r : Rdd μ e x) (o : Ok C M δ μ σ H) {v : V} (h : EntOk C.K (hide M H) e v) : Dp C.K H v x := by
  cases r with
  | d _ => exact dp_mono hide_le x v h
  | m hj =>
    have h' : v = _ := h
    subst h'
    obtain ⟨_, _, vs, e1, q⟩ := o.mem _ (List.mem_of_getElem? hj)
    exact .lst (SqL.of e1) (dpAll_mono hide_le _ _ q)
/-- .. as a list or tuple whose items are data -/
theorem Rdd.lst {ds : List PyData} (r : Rdd μ e (.list ds)) (o : Ok C M δ μ σ H) {v : V} (h : EntOk C.K (hide M H) e v) : ∃ a vs, v = .ref a ∧ SqL C.K H a vs ∧ DpAll C.K (hide M H) vs ds := by
  cases r with
  | d _ =>
    obtain ⟨a, vs, e1, e2, e3⟩ := Dp.lst_of h
    exact ⟨a, vs, e1, ex_l hide_le e2, e3⟩
  | m hj =>
    have h' : v = _ := h
    obtain ⟨_, _, vs, e1, q⟩ := o.mem _ (List.mem_of_getElem? hj)
    exact ⟨_, vs, h', SqL.of e1, q⟩
theorem x_is (h : EvX C te M δ μ μ' e) (q : e = e1) : EvX C te M δ μ μ' e1 := by rw [← q]; exact h
theorem x_var {i : Nat} (h : δ[i]? = some e) (hu : e ≠ .u) : EvX C (tVar i) M δ μ μ e := fun σ H o Q k =>
  let ⟨v, a, b⟩ := o.slot i e h hu
  ⟨v, a, k v H o (Ex.refl _) b⟩
theorem x_vd {i : Nat} {d : PyData} (h : δ[i]? = some (.d d)) : EvX C (tVar i) M δ μ μ (.d d) := x_var h (fun z => nomatch z)
theorem x_vm {i : Nat} {a : Addr} (h : δ[i]? = some (.m a)) : EvX C (tVar i) M δ μ μ (.m a) := x_var h (fun z => nomatch z)
theorem x_int {i : Int} : EvX C (tC (.int i)) M δ μ μ (.d (.int i)) := fun σ H o Q k => k _ H o (Ex.refl _) (.int i)
theorem x_bl {i : Bool} : EvX C (tC (.bl i)) M δ μ μ (.d (.bool i)) := fun σ H o Q k => k _ H o (Ex.refl _) (.bl i)
theorem x_str {i : Str} : EvX C (tC (.str i)) M δ μ μ (.d (.str i)) := fun σ H o Q k => k _ H o (Ex.refl _) (.str i)
theorem x_non : EvX C (tC .non) M δ μ μ (.d .none) := fun σ H o Q k => k _ H o (Ex.refl _) .non
theorem x_op {r : R2} (ha : EvX C ta M δ μ μ1 e1) (hb : EvX C tb M δ μ1 μ2 e2) (hr : OpX C r M δ μ2 μ3 e1 e2 e3) : EvX C (tOp r ta tb) M δ μ μ3 e3 := fun σ H o Q k =>
  ha σ H o _ fun x H1 o1 x1 r1 => hb σ H1 o1 _ fun y H2 o2 x2 r2 => hr σ H2 x y o2 (r1.mono x2) r2 Q fun v H3 o3 x3 r3 => k v H3 o3 ((x1.trans x2).trans x3) r3
theorem x_un {r : V → Hp → VK → Prop} (ha : EvX C ta M δ μ μ1 e1) (hr : ∀ σ H x, Ok C M δ μ1 σ H → EntOk C.K (hide M H) e1 x → ∀ Q : VK, (∀ v H', Ok C M δ μ2 σ H' → Ex (hide M H) (hide M H') → EntOk C.K (hide M H') e3 v → Q v H') → r x H Q) : EvX C (tUn r ta) M δ μ μ2 e3 := fun σ H o Q k =>
  ha σ H o _ fun x H1 o1 x1 r1 => hr σ H1 x o1 r1 Q fun v H3 o3 x3 r3 => k v H3 o3 (x1.trans x3) r3
theorem x_neg {i : Int} (ha : EvX C ta M δ μ μ1 (.d (.int i))) : EvX C (tUn (rU fun i => .int (-i)) ta) M δ μ μ1 (.d (.int (-i))) :=
  x_un ha fun σ H x o h Q k => ⟨i, Dp.int_of h, k _ H o (Ex.refl _) (.int _)⟩
theorem o_I0 {g : Int → Int → Int} {i j : Int} : OpX C (rI0 fun i j => .int (g i j)) M δ μ μ (.d (.int i)) (.d (.int j)) (.d (.int (g i j))) := fun σ H x y o h1 h2 Q k =>
  ⟨i, j, Dp.int_of h1, Dp.int_of h2, k _ H o (Ex.refl _) (.int _)⟩
theorem o_B0 {g : Int → Int → Bool} {i j : Int} : OpX C (rI0 fun i j => .bl (g i j)) M δ μ μ (.d (.int i)) (.d (.int j)) (.d (.bool (g i j))) := fun σ H x y o h1 h2 Q k =>
  ⟨i, j, Dp.int_of h1, Dp.int_of h2, k _ H o (Ex.refl _) (.bl _)⟩
theorem o_I {c : Int → Int → Prop} {g : Int → Int → Int} {i j : Int} (hc : c i j) : OpX C (rI c fun i j => .int (g i j)) M δ μ μ (.d (.int i)) (.d (.int j)) (.d (.int (g i j))) := fun σ H x y o h1 h2 Q k =>
  ⟨i, j, Dp.int_of h1, Dp.int_of h2, hc, k _ H o (Ex.refl _) (.int _)⟩
theorem o_eqD {d1 d2 : PyData} (r1 : Rdd μ e1 d1) (r2 : Rdd μ e2 d2) (s1 : SeqAt.shaped d1 = true) (s2 : SeqAt.shaped d2 = true) : OpX C (rEqD C.K) M δ μ μ e1 e2 (.d (.bool (PyData.eqv d1 d2))) := fun σ H x y o h1 h2 Q k =>
  ⟨d1, d2, r1.dp o h1, r2.dp o h2, s1, s2, k _ H o (Ex.refl _) (.bl _)⟩
theorem o_neD {d1 d2 : PyData} (r1 : Rdd μ e1 d1) (r2 : Rdd μ e2 d2) (s1 : SeqAt.shaped d1 = true) (s2 : SeqAt.shaped d2 = true) : OpX C (rNeD C.K) M δ μ μ e1 e2 (.d (.bool (!PyData.eqv d1 d2))) := fun σ H x y o h1 h2 Q k =>
  ⟨d1, d2, r1.dp o h1, r2.dp o h2, s1, s2, k _ H o (Ex.refl _) (.bl _)⟩
theorem at_dp {K : PySem.W.Frag} {Hh : Hp} {vs : List V} {ds : List PyData} {i : Int} {d : PyData} (h : DpAll K Hh vs ds) (ha : atI ds i = some d) : ∃ v, atI vs i = some v ∧ Dp K Hh v d := by
  unfold atI at ha ⊢
  rw [DpAll.length h]
  cases q : ixN ds.length i with
  | none => rw [q] at ha; cases ha
  | some j =>
    rw [q] at ha
    exact h.get ha
theorem o_ixL {i : Int} {ds : List PyData} {d : PyData} (r : Rdd μ e1 (.list ds)) (ha : atI ds i = some d) : OpX C (rIxL C.K) M δ μ μ e1 (.d (.int i)) (.d d) := fun σ H x y o h1 h2 Q k => by
  obtain ⟨a, vs, q1, q2, q3⟩ := r.lst o h1
  obtain ⟨v, q4, q5⟩ := at_dp q3 ha
  exact ⟨a, vs, i, v, q1, Dp.int_of h2, q2, q4, k _ H o (Ex.refl _) q5⟩
theorem o_ixT {i : Int} {ds : List PyData} {d : PyData} (ha : atI ds i = some d) : OpX C (rIxT C.K) M δ μ μ (.d (.tuple ds)) (.d (.int i)) (.d d) := fun σ H x y o h1 h2 Q k => by
  obtain ⟨a, vs, q1, q2, q3⟩ := Dp.tup_of h1
  obtain ⟨v, q4, q5⟩ := at_dp q3 ha
  exact ⟨a, vs, i, v, q1, Dp.int_of h2, ex_t hide_le q2, q4, k _ H o (Ex.refl _) q5⟩
theorem dpAll_nil {K : PySem.W.Frag} {H : Hp} {vs : List V} {ds : List PyData} (h : DpAll K H vs ds) : vs = [] ↔ ds = [] := by
  cases h with
  | nil => simp
  | cons _ _ => simp
/-- a new tracked tuple -/
theorem Ok.tup (o : Ok C M δ μ σ H) {p : Addr} {vs : List V} {ds : List PyData} (hp : H p = none) (h : DpAll C.K (hide M H) vs ds) : Ok C M δ μ σ (upd H p (.tup vs)) ∧ Ex (hide M H) (hide M (upd H p (.tup vs))) ∧ Dp C.K (hide M (upd H p (.tup vs))) (.ref p) (.tuple ds) := by
  have e : Ex H (upd H p (.tup vs)) := Ex.new hp
  refine ⟨o.grow e, hide_ex e, .tup (st_of ?_) (dpAll_mono (hide_ex e) _ _ h)⟩
  rw [hide_out (o.fresh hp), upd_same]
theorem Ok.lst (o : Ok C M δ μ σ H) {p : Addr} {vs : List V} {ds : List PyData} (hp : H p = none) (h : DpAll C.K (hide M H) vs ds) : Ok C M δ μ σ (upd H p (.lst vs)) ∧ Ex (hide M H) (hide M (upd H p (.lst vs))) ∧ Dp C.K (hide M (upd H p (.lst vs))) (.ref p) (.list ds) := by
  have e : Ex H (upd H p (.lst vs)) := Ex.new hp
  refine ⟨o.grow e, hide_ex e, .lst (sq_of ?_) (dpAll_mono (hide_ex e) _ _ h)⟩
  rw [hide_out (o.fresh hp), upd_same]
theorem o_catT {ds es : List PyData} (hz : ds.length + es.length ≤ 100000) : OpX C (rCatA C.K) M δ μ μ (.d (.tuple ds)) (.d (.tuple es)) (.d (.tuple (ds ++ es))) := fun σ H x y o h1 h2 Q k => by
  obtain ⟨a, vs, q1, q2, q3⟩ := Dp.tup_of h1
  obtain ⟨b, ws, p1, p2, p3⟩ := Dp.tup_of h2
  refine ⟨a, b, vs, ws, q1, p1, ex_t hide_le q2, ex_t hide_le p2, ?_, fun z => ?_, fun z1 z2 => ?_, fun z1 z2 p hp => ?_⟩
  · rw [q3.length, p3.length]; exact sz_of hz
  · have z' := (dpAll_nil q3).mp z
    subst z'
    refine k _ H o (Ex.refl _) ?_
    rw [← p1]; exact h2
  · have z' := (dpAll_nil p3).mp z2
    subst z'
    refine k _ H o (Ex.refl _) ?_
    rw [← q1, List.append_nil]; exact h1
  · obtain ⟨o', x', d'⟩ := o.tup hp (q3.append p3)
    exact k _ _ o' x' d'
def isNon : PyData → Bool
  | .none => true
  | _ => false
theorem o_isN {d : PyData} : OpX C (fun x y H Q => y = .non ∧ Q (.bl (decide (x = .non))) H) M δ μ μ (.d d) (.d .none) (.d (.bool (isNon d))) := fun σ H x y o h1 h2 Q k => by
  refine ⟨Dp.none_of h2, k _ H o (Ex.refl _) ?_⟩
  have e : decide (x = .non) = isNon d := by
    cases d <;> cases h1 <;> simp [isNon]
  rw [e]; exact .bl _
theorem o_notN {d : PyData} : OpX C (fun x y H Q => y = .non ∧ Q (.bl (!decide (x = .non))) H) M δ μ μ (.d d) (.d .none) (.d (.bool (!isNon d))) := fun σ H x y o h1 h2 Q k => by
  refine ⟨Dp.none_of h2, k _ H o (Ex.refl _) ?_⟩
  have e : decide (x = .non) = isNon d := by
    cases d <;> cases h1 <;> simp [isNon]
  rw [e]; exact .bl _

/-! ### arguments, displays -/
theorem a_nil : EvA C tNil M δ μ μ [] := fun σ H o Q k => k [] H o (Ex.refl _) .nil
theorem entsMono {K : PySem.W.Frag} {H H' : Hp} (x : Ex H H') {es : List Ent} {vs : List V} (h : Paired (EntOk K H) es vs) : Paired (EntOk K H') es vs := Paired.mapP h fun _ _ q => q.mono x
theorem a_cons {tr : TA} {es : List Ent} (h : EvX C ta M δ μ μ1 e) (hr : EvA C tr M δ μ1 μ2 es) : EvA C (tCons ta tr) M δ μ μ2 (e :: es) := fun σ H o Q k =>
  h σ H o _ fun v H1 o1 x1 r1 => hr σ H1 o1 _ fun vs H2 o2 x2 r2 => k (v :: vs) H2 o2 (x1.trans x2) (.cons (r1.mono x2) r2)
theorem dpAll_of {K : PySem.W.Frag} {H : Hp} : ∀ {ds : List PyData} {vs : List V}, Paired (EntOk K H) (ds.map Ent.d) vs → DpAll K H vs ds
  | [], _, h => by cases h; exact .nil
  | d :: ds, _, h => by
    cases h with
    | cons h1 h2 => exact .cons h1 (dpAll_of h2)
theorem x_tup {tr : TA} {ds : List PyData} (h : EvA C tr M δ μ μ' (ds.map Ent.d)) (hl : ds.length ≤ 100000) : EvX C (tTup tr) M δ μ μ' (.d (.tuple ds)) := fun σ H o Q k =>
  h σ H o _ fun vs H1 o1 x1 r1 => ⟨by have := (dpAll_of r1).length; rw [this]; exact sz_of hl, fun p hp => by
    obtain ⟨o', x', d'⟩ := o1.tup hp (dpAll_of r1)
    exact k _ _ o' (x1.trans x') d'⟩
theorem x_lst {tr : TA} {ds : List PyData} (h : EvA C tr M δ μ μ' (ds.map Ent.d)) (hl : ds.length ≤ 100000) : EvX C (tLst tr) M δ μ μ' (.d (.list ds)) := fun σ H o Q k =>
  h σ H o _ fun vs H1 o1 x1 r1 => ⟨by have := (dpAll_of r1).length; rw [this]; exact sz_of hl, fun p hp => by
    obtain ⟨o', x', d'⟩ := o1.lst hp (dpAll_of r1)
    exact k _ _ o' (x1.trans x') d'⟩
/-! ### calls of built-ins -/
theorem x_cb {r : List V → Hp → VK → Prop} {tr : TA} {es : List Ent} (h : EvA C tr M δ μ μ1 es) (hr : CallX C r M δ μ1 μ2 es e) : EvX C (tCB r tr) M δ μ μ2 e := fun σ H o Q k =>
  h σ H o _ fun vs H1 o1 x1 r1 => hr σ H1 vs o1 r1 Q fun v H2 o2 x2 r2 => k v H2 o2 (x1.trans x2) r2
theorem p1 {α β : Type} {F : α → β → Prop} {a : α} {bs : List β} (h : Paired F [a] bs) : ∃ b, bs = [b] ∧ F a b := by
  cases h with
  | cons h1 h2 => cases h2; exact ⟨_, rfl, h1⟩
theorem p2 {α β : Type} {F : α → β → Prop} {a a' : α} {bs : List β} (h : Paired F [a, a'] bs) : ∃ b b', bs = [b, b'] ∧ F a b ∧ F a' b' := by
  cases h with
  | cons h1 h2 => obtain ⟨b, rfl, q⟩ := p1 h2; exact ⟨_, _, rfl, h1, q⟩
theorem c_abs {i : Int} : CallX C (fun xs H Q => ∃ i, xs = [.int i] ∧ Q (.int (if i < 0 then -i else i)) H) M δ μ μ [.d (.int i)] (.d (.int (if i < 0 then -i else i))) := fun σ H vs o h Q k => by
  obtain ⟨v, rfl, q⟩ := p1 h
  exact ⟨i, by rw [Dp.int_of q], k _ H o (Ex.refl _) (.int _)⟩
theorem c_max2 {i j : Int} : CallX C (fun xs H Q => ∃ i j, xs = [.int i, .int j] ∧ Q (.int (if j > i then j else i)) H) M δ μ μ [.d (.int i), .d (.int j)] (.d (.int (if j > i then j else i))) := fun σ H vs o h Q k => by
  obtain ⟨v, w, rfl, q, q'⟩ := p2 h
  exact ⟨i, j, by rw [Dp.int_of q, Dp.int_of q'], k _ H o (Ex.refl _) (.int _)⟩
theorem c_min2 {i j : Int} : CallX C (fun xs H Q => ∃ i j, xs = [.int i, .int j] ∧ Q (.int (if j < i then j else i)) H) M δ μ μ [.d (.int i), .d (.int j)] (.d (.int (if j < i then j else i))) := fun σ H vs o h Q k => by
  obtain ⟨v, w, rfl, q, q'⟩ := p2 h
  exact ⟨i, j, by rw [Dp.int_of q, Dp.int_of q'], k _ H o (Ex.refl _) (.int _)⟩
theorem c_intI {i : Int} : CallX C (fun xs H Q => (∃ i, xs = [.int i] ∧ Q (.int i) H) ∨ ∃ k, xs = [.bl k] ∧ Q (.int (if k then 1 else 0)) H) M δ μ μ [.d (.int i)] (.d (.int i)) := fun σ H vs o h Q k => by
  obtain ⟨v, rfl, q⟩ := p1 h
  exact .inl ⟨i, by rw [Dp.int_of q], k _ H o (Ex.refl _) (.int _)⟩
theorem c_intB {b : Bool} : CallX C (fun xs H Q => (∃ i, xs = [.int i] ∧ Q (.int i) H) ∨ ∃ k, xs = [.bl k] ∧ Q (.int (if k then 1 else 0)) H) M δ μ μ [.d (.bool b)] (.d (.int (if b then 1 else 0))) := fun σ H vs o h Q k => by
  obtain ⟨v, rfl, q⟩ := p1 h
  exact .inr ⟨b, by rw [Dp.bool_of q], k _ H o (Ex.refl _) (.int _)⟩
abbrev rLenS (K : PySem.W.Frag) : List V → Hp → VK → Prop := fun xs H Q => ∃ p ys, xs = [.ref p] ∧ (SqL K H p ys ∨ SqT K H p ys) ∧ Q (.int ys.length) H
theorem c_lenL {ds : List PyData} (r : Rdd μ e (.list ds)) : CallX C (rLenS C.K) M δ μ μ [e] (.d (.int (ds.length : Int))) := fun σ H vs o h Q k => by
  obtain ⟨v, rfl, q⟩ := p1 h
  obtain ⟨a, ws, q1, q2, q3⟩ := r.lst o q
  refine ⟨a, ws, by rw [q1], .inl q2, k _ H o (Ex.refl _) ?_⟩
  rw [q3.length]; exact .int _
theorem c_lenT {ds : List PyData} : CallX C (rLenS C.K) M δ μ μ [.d (.tuple ds)] (.d (.int (ds.length : Int))) := fun σ H vs o h Q k => by
  obtain ⟨v, rfl, q⟩ := p1 h
  obtain ⟨a, ws, q1, q2, q3⟩ := Dp.tup_of q
  refine ⟨a, ws, by rw [q1], .inr (ex_t hide_le q2), k _ H o (Ex.refl _) ?_⟩
  rw [q3.length]; exact .int _
theorem c_sum {ns : List Int} (r : Rdd μ e (.list (ns.map .int))) : CallX C (rSum C.K) M δ μ μ [e] (.d (.int ns.sum)) := fun σ H vs o h Q k => by
  obtain ⟨v, rfl, q⟩ := p1 h
  obtain ⟨a, ws, q1, q2, q3⟩ := r.lst o q
  rw [q3.ints] at q2
  exact ⟨a, ns, by rw [q1], q2, k _ H o (Ex.refl _) (.int _)⟩
theorem c_minI {ns : List Int} {m : Int} (r : Rdd μ e (.list (ns.map .int))) (hm : m ∈ ns) (hl : ∀ y ∈ ns, m ≤ y) : CallX C (rMin C.K) M δ μ μ [e] (.d (.int m)) := fun σ H vs o h Q k => by
  obtain ⟨v, rfl, q⟩ := p1 h
  obtain ⟨a, ws, q1, q2, q3⟩ := r.lst o q
  rw [q3.ints] at q2
  refine ⟨a, ns, by rw [q1], q2, List.length_pos_of_mem hm, fun m' h1 h2 => ?_⟩
  have e : m' = m := Int.le_antisymm (h2 m hm) (hl m' h1)
  subst e
  exact k _ H o (Ex.refl _) (.int _)
theorem c_maxI {ns : List Int} {m : Int} (r : Rdd μ e (.list (ns.map .int))) (hm : m ∈ ns) (hl : ∀ y ∈ ns, y ≤ m) : CallX C (rMax C.K) M δ μ μ [e] (.d (.int m)) := fun σ H vs o h Q k => by
  obtain ⟨v, rfl, q⟩ := p1 h
  obtain ⟨a, ws, q1, q2, q3⟩ := r.lst o q
  rw [q3.ints] at q2
  refine ⟨a, ns, by rw [q1], q2, List.length_pos_of_mem hm, fun m' h1 h2 => ?_⟩
  have e : m' = m := Int.le_antisymm (hl m' h1) (h2 m hm)
  subst e
  exact k _ H o (Ex.refl _) (.int _)
abbrev rTupleS (K : PySem.W.Frag) : List V → Hp → VK → Prop := fun xs H Q => ∃ p ys, xs = [.ref p] ∧ ((SqL K H p ys ∧ ∀ l, H l = none → Q (.ref l) (upd H l (.tup ys))) ∨ (SqT K H p ys ∧ Q (.ref p) H))
theorem c_tupleL {ds : List PyData} (r : Rdd μ e (.list ds)) : CallX C (rTupleS C.K) M δ μ μ [e] (.d (.tuple ds)) := fun σ H vs o h Q k => by
  obtain ⟨v, rfl, q⟩ := p1 h
  obtain ⟨a, ws, q1, q2, q3⟩ := r.lst o q
  refine ⟨a, ws, by rw [q1], .inl ⟨q2, fun l hl => ?_⟩⟩
  obtain ⟨o', x', d'⟩ := o.tup hl q3
  exact k _ _ o' x' d'
end
end FD
namespace FD
open PySem L2 Evl
section
variable {C : Cfg} {M M' : List Addr} {δ δ' δ1 δ2 : List Ent} {μ μ' μ1 μ2 μ3 : Mem} {σ σ' σ1 σ2 : L2.St} {H H' : Hp} {e e1 e2 e3 : Ent} {ta tb te tc : TE} {t u : TT} {b c : Bool}
/-! ### tests -/
theorem t_is (h : EvT C t M δ μ μ' b) (q : b = c) : EvT C t M δ μ μ' c := by rw [← q]; exact h
theorem t_test (h : EvX C te M δ μ μ' (.d (.bool b))) : EvT C (tTest te) M δ μ μ' b := fun σ H o Q k => h σ H o _ fun v H' o' x r => ⟨b, Dp.bool_of r, k H' o' x⟩
theorem t_B (h : EvX C te M δ μ μ' (.d (.bool b))) : EvT C (tB te) M δ μ μ' b := fun σ H o Q k => h σ H o _ fun v H' o' x r => ⟨b, Dp.bool_of r, k H' o' x⟩
theorem t_not (h : EvT C t M δ μ μ' b) : EvT C (tNot t) M δ μ μ' (!b) := fun σ H o Q k => h σ H o _ fun H' o' x => k H' o' x
theorem t_yes : EvT C tYes M δ μ μ true := fun σ H o Q k => k H o (Ex.refl _)
/-- the second where the first holds; where it does not, the lists stand as behind the first -/
theorem t_and (h1 : EvT C t M δ μ μ1 b) (h2 : b = true → EvT C u M δ μ1 μ2 c) (h3 : b = false → μ1 = μ2) : EvT C (tAnd t u) M δ μ μ2 (b && c) := fun σ H o Q k => h1 σ H o _ fun H1 o1 x1 => by
  cases b with
  | true =>
    show u σ H1 Q
    exact h2 rfl σ H1 o1 Q fun H2 o2 x2 => k H2 o2 (x1.trans x2)
  | false =>
    show Q false H1
    have := h3 rfl
    subst this
    exact k H1 o1 x1
theorem t_or (h1 : EvT C t M δ μ μ1 b) (h2 : b = false → EvT C u M δ μ1 μ2 c) (h3 : b = true → μ1 = μ2) : EvT C (tOr t u) M δ μ μ2 (b || c) := fun σ H o Q k => h1 σ H o _ fun H1 o1 x1 => by
  cases b with
  | false =>
    show u σ H1 Q
    exact h2 rfl σ H1 o1 Q fun H2 o2 x2 => k H2 o2 (x1.trans x2)
  | true =>
    show Q true H1
    have := h3 rfl
    subst this
    exact k H1 o1 x1
theorem x_if (h : EvT C t M δ μ μ1 b) (h1 : b = true → EvX C ta M δ μ1 μ2 e) (h2 : b = false → EvX C tb M δ μ1 μ2 e) : EvX C (tIf t ta tb) M δ μ μ2 e := fun σ H o Q k => h σ H o _ fun H1 o1 x1 => by
  cases b with
  | true =>
    show ta σ H1 Q
    exact h1 rfl σ H1 o1 Q fun v H2 o2 x2 r => k v H2 o2 (x1.trans x2) r
  | false =>
    show tb σ H1 Q
    exact h2 rfl σ H1 o1 Q fun v H2 o2 x2 r => k v H2 o2 (x1.trans x2) r
theorem x_if2 {d1 d2 : PyData} (h : EvT C t M δ μ μ1 b) (h1 : EvX C ta M δ μ1 μ2 (.d d1)) (h2 : EvX C tb M δ μ1 μ2 (.d d2)) : EvX C (tIf t ta tb) M δ μ μ2 (.d (if b = true then d1 else d2)) :=
  x_if h (fun q => by rw [if_pos q]; exact h1) (fun q => by rw [if_neg (by rw [q]; decide)]; exact h2)
/-- or, and as values -/
theorem x_orV (h1 : EvX C ta M δ μ μ1 (.d (.bool b))) (h2 : b = false → EvX C tb M δ μ1 μ2 (.d (.bool c))) (h3 : b = true → μ1 = μ2) : EvX C (tOrV ta tb) M δ μ μ2 (.d (.bool (b || c))) := fun σ H o Q k => h1 σ H o _ fun v H1 o1 x1 r => ⟨b, Dp.bool_of r, by
  cases b with
  | false =>
    show tb σ H1 Q
    exact h2 rfl σ H1 o1 Q fun v H2 o2 x2 r => k v H2 o2 (x1.trans x2) r
  | true =>
    show Q (.bl true) H1
    have := h3 rfl
    subst this
    exact k _ H1 o1 x1 (.bl true)⟩
theorem x_andV (h1 : EvX C ta M δ μ μ1 (.d (.bool b))) (h2 : b = true → EvX C tb M δ μ1 μ2 (.d (.bool c))) (h3 : b = false → μ1 = μ2) : EvX C (tAndV ta tb) M δ μ μ2 (.d (.bool (b && c))) := fun σ H o Q k => h1 σ H o _ fun v H1 o1 x1 r => ⟨b, Dp.bool_of r, by
  cases b with
  | true =>
    show tb σ H1 Q
    exact h2 rfl σ H1 o1 Q fun v H2 o2 x2 r => k v H2 o2 (x1.trans x2) r
  | false =>
    show Q (.bl false) H1
    have := h3 rfl
    subst this
    exact k _ H1 o1 x1 (.bl false)⟩
theorem x_notV (h1 : EvX C ta M δ μ μ1 (.d (.bool b))) : EvX C (tNotV ta) M δ μ μ1 (.d (.bool (!b))) := fun σ H o Q k => h1 σ H o _ fun v H1 o1 x1 r => ⟨b, Dp.bool_of r, k _ H1 o1 x1 (.bl _)⟩

/-! ### slices -/
def cutD (xs : List PyData) (lo hi : Option Int) : List PyData := (xs.drop (HT.sIx xs.length 0 lo)).take (HT.sIx xs.length xs.length hi - HT.sIx xs.length 0 lo)
theorem cut_dp {K : PySem.W.Frag} {Hh : Hp} {vs : List V} {ds : List PyData} (h : DpAll K Hh vs ds) (lo hi : Option Int) : DpAll K Hh (cutV vs lo hi) (cutD ds lo hi) := by
  unfold cutV cutD
  rw [h.length]
  exact (h.drop _).take _
theorem p_none : EvO C tNoPart M δ μ μ none := fun σ H o Q k => k H o (Ex.refl _)
theorem p_some {i : Int} (h : EvX C te M δ μ μ' (.d (.int i))) : EvO C (tPart te) M δ μ μ' (some i) := fun σ H o Q k => h σ H o _ fun v H1 o1 x1 r => ⟨i, Dp.int_of r, k H1 o1 x1⟩
theorem cutD_whole {ds : List PyData} {lo hi : Option Int} (h : HT.sIx ds.length 0 lo = 0 ∧ HT.sIx ds.length ds.length hi = ds.length) : cutD ds lo hi = ds := by
  unfold cutD
  rw [h.1, h.2, List.drop_zero, Nat.sub_zero, List.take_length]
theorem x_slT {tl th : TO} {ds : List PyData} {lo hi : Option Int} (h : EvX C te M δ μ μ1 (.d (.tuple ds))) (hl : EvO C tl M δ μ1 μ2 lo) (hh : EvO C th M δ μ2 μ3 hi) : EvX C (tSl (rSlA C.K) te tl th) M δ μ μ3 (.d (.tuple (cutD ds lo hi))) := fun σ H o Q k =>
  h σ H o _ fun v H1 o1 x1 r1 => hl σ H1 o1 _ fun H2 o2 x2 => hh σ H2 o2 _ fun H3 o3 x3 => by
    obtain ⟨a, vs, q1, q2, q3⟩ := Dp.tup_of (EntOk.mono (e := .d (.tuple ds)) (x2.trans x3) r1)
    refine ⟨a, vs, q1, ex_t hide_le q2, fun hw => ?_, fun _ p hp => ?_⟩
    · refine k _ H3 o3 ((x1.trans x2).trans x3) ?_
      rw [q3.length] at hw
      rw [cutD_whole hw, ← q1]
      exact EntOk.mono (e := .d (.tuple ds)) (x2.trans x3) r1
    · obtain ⟨o', x', d'⟩ := o3.tup hp (cut_dp q3 lo hi)
      exact k _ _ o' (((x1.trans x2).trans x3).trans x') d'
theorem x_slL {tl th : TO} {ds : List PyData} {lo hi : Option Int} (h : EvX C te M δ μ μ1 e) (hl : EvO C tl M δ μ1 μ2 lo) (hh : EvO C th M δ μ2 μ3 hi) (r : Rdd μ3 e (.list ds)) : EvX C (tSl (rSlL C.K) te tl th) M δ μ μ3 (.d (.list (cutD ds lo hi))) := fun σ H o Q k =>
  h σ H o _ fun v H1 o1 x1 r1 => hl σ H1 o1 _ fun H2 o2 x2 => hh σ H2 o2 _ fun H3 o3 x3 => by
    obtain ⟨a, vs, q1, q2, q3⟩ := r.lst o3 (r1.mono (x2.trans x3))
    refine ⟨a, vs, q1, q2, fun p hp => ?_⟩
    obtain ⟨o', x', d'⟩ := o3.lst hp (cut_dp q3 lo hi)
    exact k _ _ o' (((x1.trans x2).trans x3).trans x') d'

/-! ### what is walked -/
structure WalkD (K : PySem.W.Frag) (J : It) (Hh : Hp) (xs : List PyData) : Prop where
  go : ∀ (M : List Addr) i H, i < xs.length → (∀ a ∈ M, H a ≠ none) → Ex Hh (hide M H) → J.go i H
  stop : ∀ (M : List Addr) H, (∀ a ∈ M, H a ≠ none) → Ex Hh (hide M H) → J.stop xs.length H
  yld : ∀ (M : List Addr) i H x H', i < xs.length → (∀ a ∈ M, H a ≠ none) → Ex Hh (hide M H) → J.yld i H x H' → Ex H H' ∧ ∃ d, xs[i]? = some d ∧ Dp K (hide M H') x d
def EvI (C : Cfg) (wi : TI) (M : List Addr) (δ : List Ent) (μ μ' : Mem) (xs : List PyData) : Prop := ∀ σ H, Ok C M δ μ σ H → ∀ R : It → Hp → Prop, (∀ J H', Ok C M δ μ' σ H' → Ex (hide M H) (hide M H') → WalkD C.K J (hide M H') xs → R J H') → wi σ H R
theorem w_list {K : PySem.W.Frag} {Hh : Hp} {a : Addr} {vs : List V} {xs : List PyData} (h : SqL K Hh a vs) (hd : DpAll K Hh vs xs) : WalkD K (Itl K a) Hh xs where
  go := fun M i H hi _ x => by
    rw [← hd.length] at hi
    exact ⟨vs, vs[i], ex_l (x.trans hide_le) h, by simp [hi]⟩
  stop := fun M H _ x => ⟨vs, ex_l (x.trans hide_le) h, by rw [hd.length]; exact Nat.le_refl _⟩
  yld := fun M i H y H' hi _ x q => by
    obtain ⟨e, q⟩ := q
    subst e
    refine ⟨Ex.refl _, xs[i], by simp [hi], ?_⟩
    obtain ⟨v, h1, h2⟩ := hd.get (i := i) (d := xs[i]) (by simp [hi])
    have := q vs (ex_l (x.trans hide_le) h)
    rw [this] at h1
    cases h1
    exact dp_mono x _ _ h2
theorem w_tup {K : PySem.W.Frag} {Hh : Hp} {a : Addr} {vs : List V} {xs : List PyData} (h : SqT K Hh a vs) (hd : DpAll K Hh vs xs) : WalkD K (Itt K a) Hh xs where
  go := fun M i H hi _ x => by
    rw [← hd.length] at hi
    exact ⟨vs, vs[i], ex_t (x.trans hide_le) h, by simp [hi]⟩
  stop := fun M H _ x => ⟨vs, ex_t (x.trans hide_le) h, by rw [hd.length]; exact Nat.le_refl _⟩
  yld := fun M i H y H' hi _ x q => by
    obtain ⟨e, q⟩ := q
    subst e
    refine ⟨Ex.refl _, xs[i], by simp [hi], ?_⟩
    obtain ⟨v, h1, h2⟩ := hd.get (i := i) (d := xs[i]) (by simp [hi])
    have := q vs (ex_t (x.trans hide_le) h)
    rw [this] at h1
    cases h1
    exact dp_mono x _ _ h2
def rngD (lo : Int) (n : Nat) : List PyData := (List.range n).map fun (i : Nat) => PyData.int (lo + (i : Int))
theorem rngD_length (lo : Int) (n : Nat) : (rngD lo n).length = n := by simp [rngD]
theorem rngD_get {lo : Int} {n i : Nat} (h : i < n) : (rngD lo n)[i]? = some (.int (lo + (i : Int))) := by simp [rngD, h]
theorem w_rng {K : PySem.W.Frag} {Hh : Hp} {lo : Int} {n : Nat} : WalkD K (Itr lo n) Hh (rngD lo n) where
  go := fun M i H hi _ x => by rw [rngD_length] at hi; exact hi
  stop := fun M H _ x => by rw [rngD_length]; exact Nat.le_refl _
  yld := fun M i H y H' hi _ x q => by
    rw [rngD_length] at hi
    obtain ⟨e, q⟩ := q
    subst e
    subst q
    exact ⟨Ex.refl _, _, rngD_get hi, .int _⟩
theorem i_list {xs : List PyData} (h : EvX C te M δ μ μ' (.d (.list xs))) : EvI C (iList C.K te) M δ μ μ' xs := fun σ H o R k => h σ H o _ fun v H1 o1 x1 r => by
  obtain ⟨a, vs, q1, q2, q3⟩ := Dp.lst_of r
  exact ⟨a, q1, ⟨vs, ex_l hide_le q2⟩, k _ H1 o1 x1 (w_list q2 q3)⟩
theorem i_tup {xs : List PyData} (h : EvX C te M δ μ μ' (.d (.tuple xs))) : EvI C (iTup C.K te) M δ μ μ' xs := fun σ H o R k => h σ H o _ fun v H1 o1 x1 r => by
  obtain ⟨a, vs, q1, q2, q3⟩ := Dp.tup_of r
  exact ⟨a, q1, ⟨vs, ex_t hide_le q2⟩, k _ H1 o1 x1 (w_tup q2 q3)⟩
theorem i_rng1 {tr : TA} {n : Int} (h : EvA C tr M δ μ μ' [.d (.int n)]) (h0 : -(2 ^ 62) ≤ n) (h1 : n < 2 ^ 62) : EvI C (iRng1 tr) M δ μ μ' (rngD 0 n.toNat) := fun σ H o R k => h σ H o _ fun vs H1 o1 x1 r => by
  obtain ⟨v, rfl, q⟩ := p1 r
  exact ⟨n, by rw [Dp.int_of q], h0, h1, k _ H1 o1 x1 w_rng⟩
theorem i_rng2 {tr : TA} {m n : Int} (h : EvA C tr M δ μ μ' [.d (.int m), .d (.int n)]) (h0 : -(2 ^ 62) ≤ m ∧ m < 2 ^ 62 ∧ -(2 ^ 62) ≤ n ∧ n < 2 ^ 62) : EvI C (iRng2 tr) M δ μ μ' (rngD m (n - m).toNat) := fun σ H o R k => h σ H o _ fun vs H1 o1 x1 r => by
  obtain ⟨v, w, rfl, q, q'⟩ := p2 r
  exact ⟨m, n, by rw [Dp.int_of q, Dp.int_of q'], h0, k _ H1 o1 x1 w_rng⟩
/-- pairs -/
def pairD (xs ys : List PyData) : List PyData := (xs.zip ys).map fun p => .tuple [p.1, p.2]
theorem pairD_get {xs ys : List PyData} {i : Nat} {x y : PyData} (h1 : xs[i]? = some x) (h2 : ys[i]? = some y) : (pairD xs ys)[i]? = some (.tuple [x, y]) := by
  unfold pairD
  rw [List.getElem?_map, List.getElem?_zip_eq_some (z := (x, y)) |>.mpr ⟨h1, h2⟩]
  rfl
theorem pairD_length (xs ys : List PyData) : (pairD xs ys).length = min xs.length ys.length := by
  unfold pairD
  rw [List.length_map, List.length_zip]
theorem new_pair {K : PySem.W.Frag} {M : List Addr} {H : Hp} {T : Addr} {v w : V} {x y : PyData} (al : ∀ a ∈ M, H a ≠ none) (hT : H T = none) (h1 : Dp K (hide M H) v x) (h2 : Dp K (hide M H) w y) :
    Ex H (upd H T (.tup [v, w])) ∧ Dp K (hide M (upd H T (.tup [v, w]))) (.ref T) (.tuple [x, y]) := by
  have e : Ex H (upd H T (.tup [v, w])) := Ex.new hT
  refine ⟨e, .tup (st_of ?_) (.cons (dp_mono (hide_ex e) _ _ h1) (.cons (dp_mono (hide_ex e) _ _ h2) .nil))⟩
  rw [hide_out (fun z => al T z hT), upd_same]
theorem w_zipT {K : PySem.W.Frag} {Hh : Hp} {a b : Addr} {vs ws : List V} {xs ys : List PyData} (h : SqT K Hh a vs) (hd : DpAll K Hh vs xs) (h' : SqT K Hh b ws) (hd' : DpAll K Hh ws ys) : WalkD K (RZ.ItzT K a b) Hh (pairD xs ys) where
  go := fun M i H hi _ x => by
    rw [pairD_length, ← hd.length, ← hd'.length] at hi
    have i1 : i < vs.length := by omega
    have i2 : i < ws.length := by omega
    exact ⟨vs, ws, vs[i], ws[i], ex_t (x.trans hide_le) h, ex_t (x.trans hide_le) h', by simp [i1], by simp [i2]⟩
  stop := fun M H _ x => ⟨vs, ws, ex_t (x.trans hide_le) h, ex_t (x.trans hide_le) h', by rw [pairD_length, hd.length, hd'.length]; omega⟩
  yld := fun M i H y H' hi al x q => by
    rw [pairD_length] at hi
    obtain ⟨T, v, w, rfl, hT, rfl, qv, qw⟩ := q
    have i1 : i < xs.length := by omega
    have i2 : i < ys.length := by omega
    obtain ⟨v', g1, g2⟩ := hd.get (i := i) (d := xs[i]) (by simp [i1])
    obtain ⟨w', g3, g4⟩ := hd'.get (i := i) (d := ys[i]) (by simp [i2])
    have e1 := qv vs (ex_t (x.trans hide_le) h)
    have e2 := qw ws (ex_t (x.trans hide_le) h')
    rw [g1] at e1; cases e1
    rw [g3] at e2; cases e2
    obtain ⟨r1, r2⟩ := new_pair al hT (dp_mono x _ _ g2) (dp_mono x _ _ g4)
    exact ⟨r1, _, pairD_get (by simp [i1]) (by simp [i2]), r2⟩
theorem w_zipL {K : PySem.W.Frag} {Hh : Hp} {a b : Addr} {vs ws : List V} {xs ys : List PyData} (h : SqL K Hh a vs) (hd : DpAll K Hh vs xs) (h' : SqL K Hh b ws) (hd' : DpAll K Hh ws ys) : WalkD K (Itz K a b) Hh (pairD xs ys) where
  go := fun M i H hi _ x => by
    rw [pairD_length, ← hd.length, ← hd'.length] at hi
    have i1 : i < vs.length := by omega
    have i2 : i < ws.length := by omega
    exact ⟨vs, ws, vs[i], ws[i], ex_l (x.trans hide_le) h, ex_l (x.trans hide_le) h', by simp [i1], by simp [i2]⟩
  stop := fun M H _ x => ⟨vs, ws, ex_l (x.trans hide_le) h, ex_l (x.trans hide_le) h', by rw [pairD_length, hd.length, hd'.length]; omega⟩
  yld := fun M i H y H' hi al x q => by
    rw [pairD_length] at hi
    obtain ⟨T, v, w, rfl, hT, rfl, qv, qw⟩ := q
    have i1 : i < xs.length := by omega
    have i2 : i < ys.length := by omega
    obtain ⟨v', g1, g2⟩ := hd.get (i := i) (d := xs[i]) (by simp [i1])
    obtain ⟨w', g3, g4⟩ := hd'.get (i := i) (d := ys[i]) (by simp [i2])
    have e1 := qv vs (ex_l (x.trans hide_le) h)
    have e2 := qw ws (ex_l (x.trans hide_le) h')
    rw [g1] at e1; cases e1
    rw [g3] at e2; cases e2
    obtain ⟨r1, r2⟩ := new_pair al hT (dp_mono x _ _ g2) (dp_mono x _ _ g4)
    exact ⟨r1, _, pairD_get (by simp [i1]) (by simp [i2]), r2⟩
theorem i_zipT {tr : TA} {xs ys : List PyData} (h : EvA C tr M δ μ μ' [.d (.tuple xs), .d (.tuple ys)]) : EvI C (RZ.iZipA C.K tr) M δ μ μ' (pairD xs ys) := fun σ H o R k => h σ H o _ fun vs H1 o1 x1 r => by
  obtain ⟨v, w, rfl, q, q'⟩ := p2 r
  obtain ⟨a, vs, g1, g2, g3⟩ := Dp.tup_of q
  obtain ⟨b, ws, g4, g5, g6⟩ := Dp.tup_of q'
  exact ⟨a, b, vs, ws, by rw [g1, g4], .inr ⟨ex_t hide_le g2, ex_t hide_le g5, k _ H1 o1 x1 (w_zipT g2 g3 g5 g6)⟩⟩
theorem i_zipL {tr : TA} {xs ys : List PyData} (h : EvA C tr M δ μ μ' [.d (.list xs), .d (.list ys)]) : EvI C (RZ.iZipA C.K tr) M δ μ μ' (pairD xs ys) := fun σ H o R k => h σ H o _ fun vs H1 o1 x1 r => by
  obtain ⟨v, w, rfl, q, q'⟩ := p2 r
  obtain ⟨a, vs, g1, g2, g3⟩ := Dp.lst_of q
  obtain ⟨b, ws, g4, g5, g6⟩ := Dp.lst_of q'
  exact ⟨a, b, vs, ws, by rw [g1, g4], .inl ⟨ex_l hide_le g2, ex_l hide_le g5, k _ H1 o1 x1 (w_zipL g2 g3 g5 g6)⟩⟩
/-- enumerated -/
def enumD (xs : List PyData) : List PyData := xs.zipIdx.map fun p => .tuple [.int (p.2 : Int), p.1]
theorem enumD_length (xs : List PyData) : (enumD xs).length = xs.length := by simp [enumD]
theorem enumD_get {xs : List PyData} {i : Nat} {x : PyData} (h : xs[i]? = some x) : (enumD xs)[i]? = some (.tuple [.int (i : Int), x]) := by
  unfold enumD
  rw [List.getElem?_map, List.getElem?_zipIdx, h]
  simp
theorem w_enumL {K : PySem.W.Frag} {Hh : Hp} {a : Addr} {vs : List V} {xs : List PyData} (h : SqL K Hh a vs) (hd : DpAll K Hh vs xs) : WalkD K (Ite K a) Hh (enumD xs) where
  go := fun M i H hi _ x => by
    rw [enumD_length, ← hd.length] at hi
    exact ⟨vs, vs[i], ex_l (x.trans hide_le) h, by simp [hi]⟩
  stop := fun M H _ x => ⟨vs, ex_l (x.trans hide_le) h, by rw [enumD_length, hd.length]; exact Nat.le_refl _⟩
  yld := fun M i H y H' hi al x q => by
    rw [enumD_length] at hi
    obtain ⟨T, v, rfl, hT, rfl, qv⟩ := q
    obtain ⟨v', g1, g2⟩ := hd.get (i := i) (d := xs[i]) (by simp [hi])
    have e1 := qv vs (ex_l (x.trans hide_le) h)
    rw [g1] at e1; cases e1
    obtain ⟨r1, r2⟩ := new_pair al hT (Dp.int (i : Nat)) (dp_mono x _ _ g2)
    exact ⟨r1, _, enumD_get (by simp [hi]), r2⟩
theorem i_enumL {tr : TA} {xs : List PyData} (h : EvA C tr M δ μ μ' [.d (.list xs)]) : EvI C (iEnum C.K tr) M δ μ μ' (enumD xs) := fun σ H o R k => h σ H o _ fun vs H1 o1 x1 r => by
  obtain ⟨v, rfl, q⟩ := p1 r
  obtain ⟨a, vs, g1, g2, g3⟩ := Dp.lst_of q
  exact ⟨a, vs, by rw [g1], ex_l hide_le g2, k _ H1 o1 x1 (w_enumL g2 g3)⟩
end
end FD
namespace FD
open PySem L2 Evl
section
variable {C : Cfg} {M M' : List Addr} {δ δ' δ1 δ2 : List Ent} {μ μ' μ1 μ2 μ3 : Mem} {σ σ' σ1 σ2 : L2.St} {H H' : Hp} {e e1 e2 e3 : Ent} {ta tb te tc : TE} {t u : TT} {b c : Bool}
/-! ### what else is kept: all hidden lists that are not spoken of -/
theorem Ok.toG (o : Ok C M δ μ σ H) : Ok { C with G := hide (μ.map (·.1)) H } M δ μ σ H where
  len := o.len
  slot := o.slot
  mem := fun p hp => let ⟨a, _, c⟩ := o.mem p hp; ⟨a, hide_in (List.mem_map.mpr ⟨p, hp, rfl⟩), c⟩
  nd := o.nd
  alloc := o.alloc
  sub := o.sub
  gr := hide_le
  base := o.base
theorem Ok.ofG (o : Ok C M δ μ σ H) (p : Ok { C with G := hide (μ.map (·.1)) H } M δ' μ' σ' H') : Ok C M δ' μ' σ' H' where
  len := p.len
  slot := p.slot
  mem := fun q hq => by
    obtain ⟨a, b, c⟩ := p.mem q hq
    refine ⟨a, ?_, c⟩
    cases z : C.G q.1 with
    | none => rfl
    | some u =>
      have hH := o.gr _ _ z
      have b' : hide (μ.map (·.1)) H q.1 = none := b
      by_cases hm : q.1 ∈ μ.map (·.1)
      · obtain ⟨r, hr, er⟩ := List.mem_map.mp hm
        have := (o.mem r hr).2.1
        rw [show r.1 = q.1 from er, z] at this; cases this
      · rw [hide_out hm, hH] at b'; cases b'
  nd := p.nd
  alloc := p.alloc
  sub := p.sub
  gr := fun a u z => by
    have hH := o.gr _ _ z
    refine p.gr a u ?_
    show hide (μ.map (·.1)) H a = some u
    rw [hide_out]
    · exact hH
    · intro hm
      obtain ⟨r, hr, er⟩ := List.mem_map.mp hm
      have := (o.mem r hr).2.1
      rw [show r.1 = a from er, z] at this; cases this
  base := p.base
theorem Ok.writeH (o : Ok C M δ μ σ H) {a : Addr} {ho : HO} (ha : a ∈ M) (hn : ∀ p ∈ μ, p.1 ≠ a) (hg : C.G a = none) : Ok C M δ μ σ (upd H a ho) where
  len := o.len
  slot := fun i x h1 h2 => by rw [hide_upd ha]; exact o.slot i x h1 h2
  mem := fun p hp => by
    obtain ⟨b1, b2, b3⟩ := o.mem p hp
    rw [hide_upd ha]
    refine ⟨b1, b2, b3.mono (Ex.refl _) fun u e => ?_⟩
    rw [upd_ne (hn p hp)]; exact e
  nd := o.nd
  alloc := fun b hb => by
    by_cases q : b = a
    · subst q; rw [upd_same]; exact fun z => nomatch z
    · rw [upd_ne q]; exact o.alloc b hb
  sub := o.sub
  gr := Ex.mut o.gr hg
  base := by rw [hide_upd ha]; exact o.base

/-! ### targets -/
def TgX (K : PySem.W.Frag) (g : TG) (ts : List Nat) (d : PyData) (δ δ' : List Ent) : Prop := ∀ (C : Cfg) (M : List Addr) (μ : Mem) (σ : L2.St) (H : Hp) (v : V), C.K = K → Ok C M δ μ σ H → Dp K (hide M H) v d → ∀ Q : L2.St → Hp → Prop,
  (∀ σ', Ok C M δ' μ σ' H → σ'.length = σ.length → (∀ k, k ∉ ts → σ'[k]? = σ[k]?) → Q σ' H) → g v σ H Q
theorem tg_name {K : PySem.W.Frag} {i : Nat} {d : PyData} : TgX K (gName i) [i] d δ (δ.set i (.d d)) := fun C M μ σ H v hK o h Q k => by
  subst hK
  refine k _ (o.set i (e := .d d) h) (List.length_set ..) fun j hj => ?_
  rw [List.getElem?_set_ne (fun z => hj (by simp [z]))]
theorem tg_tup2 {K : PySem.W.Frag} {i j : Nat} {d1 d2 : PyData} : TgX K (gTup K 2 (gCons (gName i) (gCons (gName j) gNil))) [i, j] (.tuple [d1, d2]) δ ((δ.set i (.d d1)).set j (.d d2)) := fun C M μ σ H v hK o h Q k => by
  subst hK
  obtain ⟨a, vs, q1, q2, q3⟩ := Dp.tup_of h
  cases q3 with
  | cons h1 q3 =>
    cases q3 with
    | cons h2 q3 =>
      cases q3
      refine ⟨a, _, q1, ex_t hide_le q2, rfl, _, _, rfl, _, _, rfl, rfl, ?_⟩
      refine k _ ((o.set i (e := .d d1) h1).set j (e := .d d2) h2) (by rw [List.length_set, List.length_set]) fun m hm => ?_
      rw [List.getElem?_set_ne (fun z => hm (by simp [z])), List.getElem?_set_ne (fun z => hm (by simp [z]))]

/-! ### a comprehension -/
def wipeE (δ : List Ent) : List Nat → List Ent
  | [] => δ
  | v :: vs => (wipeE δ vs).set v .u
theorem wipeE_length (δ : List Ent) : ∀ vs, (wipeE δ vs).length = δ.length
  | [] => rfl
  | v :: vs => by unfold wipeE; rw [List.length_set, wipeE_length δ vs]
theorem wipe_get {σ : L2.St} {i : Nat} : ∀ {vs : List Nat}, i ∉ vs → (wipe σ vs)[i]? = σ[i]?
  | [], _ => rfl
  | v :: vs, h => by
    unfold wipe
    rw [List.getElem?_set_ne (fun z => h (by simp [z])), wipe_get (fun z => h (List.mem_cons_of_mem _ z))]
theorem wipe_at {σ : L2.St} {i : Nat} : ∀ {vs : List Nat}, i ∈ vs → i < σ.length → (wipe σ vs)[i]? = some none
  | v :: vs, h, hl => by
    unfold wipe
    by_cases q : v = i
    · subst q; rw [List.getElem?_set_self (by rw [wipe_length]; exact hl)]
    · rw [List.getElem?_set_ne q]
      exact wipe_at ((List.mem_cons.mp h).elim (fun z => absurd z.symm q) id) hl
theorem wipeE_get {i : Nat} {e : Ent} : ∀ {vs : List Nat}, (wipeE δ vs)[i]? = some e → e ≠ .u → δ[i]? = some e ∧ i ∉ vs
  | [], h, _ => ⟨h, by simp⟩
  | v :: vs, h, hu => by
    unfold wipeE at h
    by_cases q : v = i
    · subst q
      have hl := (List.getElem?_eq_some_iff.mp h).1
      rw [List.length_set] at hl
      rw [List.getElem?_set_self hl] at h
      cases h
      exact absurd rfl hu
    · rw [List.getElem?_set_ne q] at h
      obtain ⟨h1, h2⟩ := wipeE_get (vs := vs) h hu
      exact ⟨h1, fun z => (List.mem_cons.mp z).elim (fun z => q z.symm) h2⟩
theorem Ok.wiped (o : Ok C M δ μ σ H) (vs : List Nat) : Ok C M (wipeE δ vs) μ (wipe σ vs) H :=
  o.weak (by rw [wipe_length, wipeE_length]; exact o.len) fun i e h1 h2 => by
    obtain ⟨a, b⟩ := wipeE_get h1 h2
    exact ⟨a, wipe_get b⟩
theorem wipe_eq {vs ts : List Nat} (hl : σ'.length = σ.length) (h : ∀ k, k ∉ ts → σ'[k]? = (wipe σ vs)[k]?) (s : ∀ k ∈ ts, k ∈ vs) : wipe σ' vs = wipe σ vs := by
  refine List.ext_getElem? fun k => ?_
  by_cases q : k ∈ vs
  · by_cases z : k < σ.length
    · rw [wipe_at q z, wipe_at q (by rw [hl]; exact z)]
    · rw [List.getElem?_eq_none (by rw [wipe_length, hl]; omega), List.getElem?_eq_none (by rw [wipe_length]; omega)]
  · rw [wipe_get q, wipe_get q, h k (fun z => q (s k z)), wipe_get q]
def lcD (b : Nat → Bool) (f : Nat → PyData) (i : Nat) : List PyData := ((List.range i).filter b).map f
theorem lcD_yes {b : Nat → Bool} {f : Nat → PyData} {i : Nat} (h : b i = true) : lcD b f (i + 1) = lcD b f i ++ [f i] := by
  unfold lcD
  rw [List.range_succ, List.filter_append, List.map_append, List.filter_cons, if_pos h]
  rfl
theorem lcD_no {b : Nat → Bool} {f : Nat → PyData} {i : Nat} (h : b i = false) : lcD b f (i + 1) = lcD b f i := by
  unfold lcD
  rw [List.range_succ, List.filter_append, List.map_append]
  rw [List.filter_cons, if_neg (by rw [h]; decide)]
  show _ ++ [] = _
  rw [List.append_nil]
theorem lcD_len (b : Nat → Bool) (f : Nat → PyData) (i : Nat) : (lcD b f i).length ≤ i := by
  unfold lcD
  rw [List.length_map]
  have h := List.length_filter_le b (List.range i)
  rw [List.length_range] at h
  exact h
/-- what one turn asks -/
structure LcTurn (C : Cfg) (g : TG) (tt : TT) (te : TE) (vs : List Nat) (M : List Addr) (δ : List Ent) (μ μ' : Mem) (d : PyData) (b : Bool) (f : PyData) : Prop where
  go : ∃ ts δ' μ1, TgX C.K g ts d (wipeE δ vs) δ' ∧ (∀ k ∈ ts, k ∈ vs) ∧ EvT C tt M δ' μ μ1 b ∧ (b = true → EvX C te M δ' μ1 μ' (.d f)) ∧ (b = false → μ1 = μ')
theorem x_lc {wi : TI} {g : TG} {vs : List Nat} {xs : List PyData} (S : Nat → Mem) (b : Nat → Bool) (f : Nat → PyData) (hi : EvI C wi M δ μ (S 0) xs) (hz : xs.length ≤ 100000)
    (hs : ∀ (i : Nat) (d : PyData), xs[i]? = some d → ∀ (G B : Hp) (D : Addr), LcTurn { C with G := G, B := B } g t te vs (D :: M) δ (S i) (S (i + 1)) d (b i) (f i)) :
    EvX C (tLc wi g t te vs) M δ μ (S xs.length) (.d (.list (lcD b f xs.length))) := fun σ H o Q k => by
  refine hi σ H o _ fun J H1 o1 x1 W D hD => ?_
  have oB := o1.toB
  have hDM : D ∉ M := o1.fresh hD
  have o2 : Ok { C with B := hide M H1 } (D :: M) δ (S 0) σ (upd H1 D (.lst [])) :=
    (oB.new hD (mo := .lst []) ⟨[], upd_same, .nil⟩).mems (fun p hp => List.mem_cons_of_mem _ hp) o1.nd
  have hS : ∀ {i : Nat} {H'}, Ok { C with B := hide M H1 } (D :: M) δ (S i) σ H' → (∀ p ∈ S i, p.1 ∈ M) → ∀ p ∈ S i, p.1 ≠ D := fun o' h p hp z => hDM (z ▸ h p hp)
  have gD : C.G D = none := by
    cases z : C.G D with
    | none => rfl
    | some u => have := o1.gr D u z; rw [hD] at this; cases this
  refine ⟨fun i m H' => m = xs.length - i ∧ i ≤ xs.length ∧ (∀ p ∈ S i, p.1 ∈ M) ∧ Ok { C with B := hide M H1 } (D :: M) δ (S i) σ H' ∧ ∃ acc, H' D = some (.lst acc) ∧ DpAll C.K (hide (D :: M) H') acc (lcD b f i),
    ⟨xs.length, by simp, Nat.zero_le _, fun p hp => (o1.mem p hp).1, o2, [], upd_same, .nil⟩, ?_⟩
  rintro i m H' ⟨rfl, hi', hSM, oi, acc, hacc, dacc⟩
  by_cases hlt : i < xs.length
  · refine .inr ⟨W.go (D :: M) i H' hlt oi.alloc oi.base, fun H'' => (∀ p ∈ S (i + 1), p.1 ∈ M) ∧ Ok { C with B := hide M H1 } (D :: M) δ (S (i + 1)) σ H'' ∧ ∃ acc, H'' D = some (.lst acc) ∧ DpAll C.K (hide (D :: M) H'') acc (lcD b f (i + 1)),
      fun H'' q => ⟨xs.length - (i + 1), by omega, rfl, hlt, q⟩, fun x H2 y => ?_⟩
    obtain ⟨e2, d, hd, dx⟩ := W.yld (D :: M) i H' x H2 hlt oi.alloc oi.base y
    have o3 := oi.grow e2
    have nD : ∀ p ∈ S i, p.1 ≠ D := hS oi hSM
    -- all that is hidden and not spoken of stays: the list at D
    have o4 := o3.toG
    obtain ⟨ts, δ', μ1, tg, hts, ht, he, hno⟩ := (hs i d hd (hide ((S i).map (·.1)) H2) (hide M H1) D).go
    have hD2 : H2 D = some (.lst acc) := e2 D _ hacc
    have gD2 : hide ((S i).map (·.1)) H2 D = some (.lst acc) := by
      rw [hide_out (fun z => ?_)]
      · exact hD2
      · obtain ⟨r, hr, er⟩ := List.mem_map.mp z
        exact nD r hr er
    refine tg _ _ _ _ _ _ rfl (o4.wiped vs) dx _ fun σ2 o5 hl2 hσ2 => ⟨wipe_eq (by rw [hl2, wipe_length]) hσ2 hts, ?_⟩
    refine ht σ2 H2 o5 _ fun H3 o6 x6 => ?_
    have memM : ∀ {μ9 : Mem} {δ9 : List Ent} {σ9 : L2.St} {H9 : Hp}, Ok { C with G := hide ((S i).map (·.1)) H2, B := hide M H1 } (D :: M) δ9 μ9 σ9 H9 → ∀ p ∈ μ9, p.1 ∈ M := fun o9 p hp => by
      have a := (o9.mem p hp).1
      have g9 : hide ((S i).map (·.1)) H2 p.1 = none := (o9.mem p hp).2.1
      rcases List.mem_cons.mp a with z | z
      · rw [z, gD2] at g9; cases g9
      · exact z
    cases hb : b i with
    | true =>
      rw [if_pos rfl]
      refine he hb σ2 H3 o6 _ fun v H4 o7 x7 r7 => ?_
      have hD4 : H4 D = some (.lst acc) := o7.gr D _ gD2
      have o8 : Ok { C with B := hide M H1 } (D :: M) δ (S (i + 1)) σ H4 := o3.swap (o3.ofG o7) (x6.trans x7)
      have hSM' : ∀ p ∈ S (i + 1), p.1 ∈ M := memM o7
      have hlen : acc.length ≤ i := by rw [dacc.length]; exact lcD_len b f i
      refine ⟨acc, hD4, sz_lt (by omega), hSM', o8.writeH List.mem_cons_self (fun p hp z => hDM (z ▸ hSM' p hp)) gD, _, upd_same, ?_⟩
      rw [hide_upd List.mem_cons_self, lcD_yes hb]
      exact (dpAll_mono ((hide_ex e2).trans (x6.trans x7)) _ _ dacc).append (.cons r7 .nil)
    | false =>
      rw [if_neg Bool.false_ne_true]
      have hm := hno hb
      subst hm
      refine ⟨memM o6, o3.swap (o3.ofG o6) x6, acc, o6.gr D _ gD2, ?_⟩
      rw [lcD_no hb]
      exact dpAll_mono ((hide_ex e2).trans x6) _ _ dacc
  · have ei : i = xs.length := by omega
    subst ei
    refine .inl ⟨W.stop (D :: M) H' oi.alloc oi.base, ?_⟩
    have s1 : ∀ a ∈ M, a ∈ D :: M := fun a ha => List.mem_cons_of_mem _ ha
    have oE : Ok C M δ (S xs.length) σ H' := (oi.drop (M := M) s1 hSM o1.sub).reB o1.base
    have xE : Ex (hide M H) (hide M H') := x1.trans (oi.base.trans (hide_sub s1))
    refine k _ H' oE xE (.lst (sq_of ?_) (dpAll_mono (hide_sub s1) _ _ dacc))
    rw [hide_out hDM]; exact hacc
theorem lcD_all (f : Nat → PyData) (i : Nat) : lcD (fun _ => true) f i = (List.range i).map f := by
  unfold lcD
  rw [List.filter_eq_self.mpr (fun _ _ => rfl)]
/-- no test; every turn leaves the lists as they are -/
theorem x_lcP {wi : TI} {g : TG} {vs : List Nat} {xs : List PyData} (f : Nat → PyData) (hi : EvI C wi M δ μ μ' xs) (hz : xs.length ≤ 100000) {ts : List Nat} (dl : Nat → List Ent)
    (htg : ∀ (i : Nat) (d : PyData), xs[i]? = some d → TgX C.K g ts d (wipeE δ vs) (dl i)) (hts : ∀ k ∈ ts, k ∈ vs)
    (he : ∀ (i : Nat) (d : PyData), xs[i]? = some d → ∀ (G B : Hp) (D : Addr), EvX { C with G := G, B := B } te (D :: M) (dl i) μ' μ' (.d (f i))) :
    EvX C (tLc wi g tYes te vs) M δ μ μ' (.d (.list ((List.range xs.length).map f))) := by
  rw [← lcD_all]
  exact x_lc (fun _ => μ') (fun _ => true) f hi hz fun i d hd G B D => ⟨ts, dl i, μ', htg i d hd, hts, t_yes, fun _ => he i d hd G B D, fun z => nomatch z⟩
end
end FD
namespace FD
open PySem L2 Evl
/-! ### statements -/
def Run (C : Cfg) (ts : TS) (D : Ends) (M : List Addr) (δ : List Ent) (μ : Mem) : Prop := ∀ σ H, Ok C M δ μ σ H → ts D σ H
def Nx (C : Cfg) (D : Ends) (M : List Addr) (δ : List Ent) (μ : Mem) : Prop := ∀ σ H, Ok C M δ μ σ H → D.nx σ H
/-- a word about the state, held -/
def NX (C : Cfg) (M : List Addr) (P : List Ent → Mem → Prop) : L2.St → Hp → Prop := fun σ H => ∃ δ μ, P δ μ ∧ Ok C M δ μ σ H
section
variable {C : Cfg} {M M' : List Addr} {δ δ' δ1 δ2 : List Ent} {μ μ' μ1 μ2 μ3 : Mem} {σ σ' σ1 σ2 : L2.St} {H H' : Hp} {e e1 e2 e3 : Ent} {ta tb te tc : TE} {t u : TT} {b c : Bool} {D : Ends} {t1 t2 ts : TS}
theorem r_seq (h : Run C t1 { D with nx := t2 D } M δ μ) : Run C (tSeq t1 t2) D M δ μ := h
theorem r_next (h : Nx C D M δ μ) : Run C tNext D M δ μ := h
theorem r_brk (h : ∀ σ H, Ok C M δ μ σ H → D.bk σ H) : Run C tBreak D M δ μ := h
theorem r_cont (h : ∀ σ H, Ok C M δ μ σ H → D.ct σ H) : Run C tCont D M δ μ := h
theorem r_asg {i : Nat} (h : EvX C te M δ μ μ' e) (k : Nx C D M (δ.set i e) μ') : Run C (tAsg te (gName i)) D M δ μ := fun σ H o =>
  h σ H o _ fun v H' o' x r => k _ H' (o'.set i r)
theorem q_asg {i : Nat} (h : EvX C te M δ μ μ' e) (k : Run C t2 D M (δ.set i e) μ') : Run C (tSeq (tAsg te (gName i)) t2) D M δ μ := r_asg (D := { D with nx := t2 D }) h k
theorem r_drop (h : EvX C te M δ μ μ' e) (k : Nx C D M δ μ') : Run C (tDrop te) D M δ μ := fun σ H o => h σ H o _ fun v H' o' x r => k _ H' o'
theorem q_drop (h : EvX C te M δ μ μ' e) (k : Run C t2 D M δ μ') : Run C (tSeq (tDrop te) t2) D M δ μ := r_drop (D := { D with nx := t2 D }) h k
theorem r_par {i j : Nat} {tr : TA} (h : EvA C tr M δ μ μ' [e1, e2]) (k : Nx C D M ((δ.set i e1).set j e2) μ') : Run C (tPar i j tr) D M δ μ := fun σ H o =>
  h σ H o _ fun vs H' o' x r => by
    obtain ⟨v, w, rfl, q, q'⟩ := p2 r
    exact ⟨v, w, rfl, k _ H' ((o'.set i q).set j q')⟩
theorem q_par {i j : Nat} {tr : TA} (h : EvA C tr M δ μ μ' [e1, e2]) (k : Run C t2 D M ((δ.set i e1).set j e2) μ') : Run C (tSeq (tPar i j tr) t2) D M δ μ := r_par (D := { D with nx := t2 D }) h k
theorem r_if (h : EvT C t M δ μ μ' b) (h1 : b = true → Run C t1 D M δ μ') (h2 : b = false → Run C t2 D M δ μ') : Run C (tIfS t t1 t2) D M δ μ := fun σ H o => h σ H o _ fun H1 o1 x1 => by
  cases b with
  | true => exact h1 rfl σ H1 o1
  | false => exact h2 rfl σ H1 o1
theorem q_if {t3 : TS} (h : EvT C t M δ μ μ' b) (h1 : b = true → Run C t1 { D with nx := t3 D } M δ μ') (h2 : b = false → Run C t2 { D with nx := t3 D } M δ μ') : Run C (tSeq (tIfS t t1 t2) t3) D M δ μ := r_if (D := { D with nx := t3 D }) h h1 h2
/-- an if without an else -/
theorem q_when {t3 : TS} (h : EvT C t M δ μ μ' b) (h1 : b = true → Run C t1 { D with nx := t3 D } M δ μ') (h2 : b = false → Run C t3 D M δ μ') : Run C (tSeq (tIfS t t1 tNext) t3) D M δ μ := r_if (D := { D with nx := t3 D }) h h1 h2
/-- what the caller wants of an end with data -/
def Fin (C : Cfg) (D : Ends) (d : PyData) : Prop := ∀ v H, Ex C.G H → Dp C.K (hide C.M0 H) v d → D.rt v H
theorem r_retD {d : PyData} (h : EvX C te M δ μ μ' (.d d)) (k : Fin C D d) : Run C (tRet te) D M δ μ := fun σ H o => h σ H o _ fun v H1 o1 x1 r =>
  k v H1 o1.gr (dp_mono (hide_sub o1.sub) _ _ r)
theorem r_ret (h : EvX C te M δ μ μ' e) (k : ∀ σ v H, Ok C M δ μ' σ H → EntOk C.K (hide M H) e v → D.rt v H) : Run C (tRet te) D M δ μ := fun σ H o => h σ H o _ fun v H1 o1 x1 r => k σ v H1 o1 r
/-- one's own list handed back -/
theorem r_retM {a : Addr} {ds : List PyData} {j : Nat} (h : EvX C te M δ μ μ' (.m a)) (hj : μ'[j]? = some (a, .lst ds)) (ha : a ∉ C.M0) (k : Fin C D (.list ds)) : Run C (tRet te) D M δ μ := fun σ H o => h σ H o _ fun v H1 o1 x1 r => by
  have r' : v = .ref a := r
  obtain ⟨_, _, vs, q1, q2⟩ := o1.mem _ (List.mem_of_getElem? hj)
  refine k v H1 o1.gr ?_
  rw [r']
  refine .lst (sq_of ?_) (dpAll_mono (hide_sub o1.sub) _ _ q2)
  rw [hide_out ha]; exact q1
/-- x = [..]: a list of one's own -/
theorem r_new {i : Nat} {tr : TA} {ds : List PyData} (h : EvA C tr M δ μ μ' (ds.map Ent.d)) (hl : ds.length ≤ 100000) (k : ∀ p, p ∉ M → Nx C D (p :: M) (δ.set i (.m p)) ((p, .lst ds) :: μ')) : Run C (tAsg (tLst tr) (gName i)) D M δ μ := fun σ H o =>
  h σ H o _ fun vs H1 o1 x1 r => ⟨by have := (dpAll_of r).length; rw [this]; exact sz_of hl, fun p hp => by
    have o2 := o1.new hp (mo := .lst ds) (ho := .lst vs) ⟨vs, upd_same, dpAll_mono (hide_new hp) _ _ (dpAll_of r)⟩
    exact k p (o1.fresh hp) _ _ (o2.set i (e := .m p) rfl)⟩
theorem q_new {i : Nat} {tr : TA} {ds : List PyData} (h : EvA C tr M δ μ μ' (ds.map Ent.d)) (hl : ds.length ≤ 100000) (k : ∀ p, p ∉ M → Run C t2 D (p :: M) (δ.set i (.m p)) ((p, .lst ds) :: μ')) : Run C (tSeq (tAsg (tLst tr) (gName i)) t2) D M δ μ := r_new (D := { D with nx := t2 D }) h hl k
/-- x.append(e) -/
theorem r_app {j : Nat} {a : Addr} {ds : List PyData} {d : PyData} (hx : EvX C ta M δ μ μ1 (.m a)) (h : EvX C te M δ μ1 μ2 (.d d)) (h1 : μ1[j]? = some (a, .lst ds)) (hj : μ2[j]? = some (a, .lst ds)) (hz : ds.length < 100000) (k : Nx C D M δ (μ2.set j (a, .lst (ds ++ [d])))) :
    Run C (tDrop (tBM C.K "list" rAppend ta (tCons te tNil))) D M δ μ := fun σ H o => hx σ H o _ fun v H1 o1 x1 r1 => by
  have e1 : v = .ref a := r1
  subst e1
  obtain ⟨_, _, vs1, q1, q2⟩ := o1.mem _ (List.mem_of_getElem? h1)
  refine ⟨.inl ⟨rfl, _, SqL.of q1⟩, ?_⟩
  refine h σ H1 o1 _ fun w H2 o2 x2 r2 => ?_
  obtain ⟨_, _, vs, q3, q4⟩ := o2.mem _ (List.mem_of_getElem? hj)
  refine ⟨a, vs, w, rfl, rfl, q3, sz_lt (by rw [q4.length]; exact hz), ?_⟩
  refine k _ _ (o2.write hj ⟨_, upd_same, q4.append (.cons r2 .nil)⟩)
theorem q_app {j : Nat} {a : Addr} {ds : List PyData} {d : PyData} (hx : EvX C ta M δ μ μ1 (.m a)) (h : EvX C te M δ μ1 μ2 (.d d)) (h1 : μ1[j]? = some (a, .lst ds)) (hj : μ2[j]? = some (a, .lst ds)) (hz : ds.length < 100000) (k : Run C t2 D M δ (μ2.set j (a, .lst (ds ++ [d])))) :
    Run C (tSeq (tDrop (tBM C.K "list" rAppend ta (tCons te tNil))) t2) D M δ μ := r_app (D := { D with nx := t2 D }) hx h h1 hj hz k
/-- x[k] = e -/
theorem r_setL {j n : Nat} {a : Addr} {ds : List PyData} {d : PyData} {i : Int} (h : EvX C te M δ μ μ1 (.d d)) (hx : EvX C ta M δ μ1 μ2 (.m a)) (hi : EvX C tb M δ μ2 μ3 (.d (.int i))) (hj : μ3[j]? = some (a, .lst ds)) (hn : ixN ds.length i = some n) (k : Nx C D M δ (μ3.set j (a, .lst (ds.set n d)))) :
    Run C (tAsg te (gSub ta tb rSetL)) D M δ μ := fun σ H o => h σ H o _ fun v H1 o1 x1 r1 => hx σ H1 o1 _ fun w H2 o2 x2 r2 => hi σ H2 o2 _ fun z H3 o3 x3 r3 => by
  have e1 : w = .ref a := r2
  subst e1
  obtain ⟨_, _, vs, q3, q4⟩ := o3.mem _ (List.mem_of_getElem? hj)
  refine ⟨a, vs, i, n, rfl, Dp.int_of r3, q3, by rw [q4.length]; exact hn, ?_⟩
  exact k _ _ (o3.write hj ⟨_, upd_same, q4.set n (EntOk.mono (e := .d d) (x2.trans x3) r1)⟩)
theorem q_setL {j n : Nat} {a : Addr} {ds : List PyData} {d : PyData} {i : Int} (h : EvX C te M δ μ μ1 (.d d)) (hx : EvX C ta M δ μ1 μ2 (.m a)) (hi : EvX C tb M δ μ2 μ3 (.d (.int i))) (hj : μ3[j]? = some (a, .lst ds)) (hn : ixN ds.length i = some n) (k : Run C t2 D M δ (μ3.set j (a, .lst (ds.set n d)))) :
    Run C (tSeq (tAsg te (gSub ta tb rSetL)) t2) D M δ μ := r_setL (D := { D with nx := t2 D }) h hx hi hj hn k
/-- a for; B: what stood at its start -/
theorem r_for {wi : TI} {g : TG} {xs : List PyData} (hi : EvI C wi M δ μ μ1 xs) (P : Nat → List Ent → Mem → Prop) (h0 : P 0 δ μ1)
    (hs : ∀ B, Ex C.B B → ∀ (i : Nat) (d : PyData) (δ1 : List Ent) (μ1 : Mem), xs[i]? = some d → P i δ1 μ1 → ∃ tl δ2, TgX C.K g tl d δ1 δ2 ∧
      Run { C with B := B } ts { D with nx := NX { C with B := B } M (P (i + 1)), ct := NX { C with B := B } M (P (i + 1)), bk := D.nx } M δ2 μ1)
    (hd : ∀ δ1 μ1, P xs.length δ1 μ1 → Nx C D M δ1 μ1) : Run C (tFor wi g ts) D M δ μ := fun σ H o => by
  refine hi σ H o _ fun J H1 o1 x1 W => ?_
  refine ⟨fun i m σ' H' => m = xs.length - i ∧ i ≤ xs.length ∧ NX { C with B := hide M H1 } M (P i) σ' H', ⟨xs.length, by simp, Nat.zero_le _, δ, μ1, h0, o1.toB⟩, ?_⟩
  rintro i m σ' H' ⟨rfl, hi', δ1, μ1, hP, oi⟩
  by_cases hlt : i < xs.length
  · refine .inr ⟨W.go M i H' hlt oi.alloc oi.base, NX { C with B := hide M H1 } M (P (i + 1)), fun σ2 H2 q => ⟨xs.length - (i + 1), by omega, rfl, hlt, q⟩, fun x H2 y => ?_⟩
    obtain ⟨e2, d, hd, dx⟩ := W.yld M i H' x H2 hlt oi.alloc oi.base y
    obtain ⟨tl, δ2, tg, run⟩ := hs (hide M H1) o1.base i d δ1 μ1 hd hP
    exact tg { C with B := hide M H1 } _ _ _ _ _ rfl (oi.grow e2) dx _ fun σ3 o3 _ _ => run σ3 H2 o3
  · have ei : i = xs.length := by omega
    subst ei
    exact .inl ⟨W.stop M H' oi.alloc oi.base, hd δ1 μ1 hP σ' H' (oi.reB o1.base)⟩
theorem q_for {wi : TI} {g : TG} {xs : List PyData} (hi : EvI C wi M δ μ μ1 xs) (P : Nat → List Ent → Mem → Prop) (h0 : P 0 δ μ1)
    (hs : ∀ B, Ex C.B B → ∀ (i : Nat) (d : PyData) (δ1 : List Ent) (μ1 : Mem), xs[i]? = some d → P i δ1 μ1 → ∃ tl δ2, TgX C.K g tl d δ1 δ2 ∧
      Run { C with B := B } ts { D with nx := NX { C with B := B } M (P (i + 1)), ct := NX { C with B := B } M (P (i + 1)), bk := t2 D } M δ2 μ1)
    (hd : ∀ δ1 μ1, P xs.length δ1 μ1 → Run C t2 D M δ1 μ1) : Run C (tSeq (tFor wi g ts) t2) D M δ μ := r_for (D := { D with nx := t2 D }) hi P h0 hs hd
theorem nx_of {P : List Ent → Mem → Prop} (h : P δ μ) : Nx C { D with nx := NX C M P } M δ μ := fun σ H o => ⟨δ, μ, h, o⟩
/-- a while; m falls -/
theorem r_while (P : Nat → List Ent → Mem → Prop) (m0 : Nat) (h0 : P m0 δ μ)
    (hs : ∀ (m : Nat) (δ1 : List Ent) (μ1 : Mem), P m δ1 μ1 → ∃ b μ2, EvT C t M δ1 μ1 μ2 b ∧
      (b = true → Run C ts { D with nx := NX C M (fun δ μ => ∃ m', m' < m ∧ P m' δ μ), ct := NX C M (fun δ μ => ∃ m', m' < m ∧ P m' δ μ), bk := D.nx } M δ1 μ2) ∧ (b = false → Nx C D M δ1 μ2)) : Run C (tWhile t ts) D M δ μ := fun σ H o => by
  refine ⟨fun m σ' H' => NX C M (P m) σ' H', ⟨m0, δ, μ, h0, o⟩, ?_⟩
  rintro m σ' H' ⟨δ1, μ1, hP, o1⟩
  obtain ⟨b, μ2, ht, h1, h2⟩ := hs m δ1 μ1 hP
  refine ht σ' H' o1 _ fun H2 o2 x2 => ?_
  cases b with
  | true =>
    rw [if_pos rfl]
    exact ⟨_, fun σ3 H3 ⟨δ3, μ3, ⟨m', hm, q⟩, o3⟩ => ⟨m', hm, δ3, μ3, q, o3⟩, h1 rfl σ' H2 o2⟩
  | false =>
    rw [if_neg Bool.false_ne_true]
    exact h2 rfl σ' H2 o2
theorem q_while (P : Nat → List Ent → Mem → Prop) (m0 : Nat) (h0 : P m0 δ μ)
    (hs : ∀ (m : Nat) (δ1 : List Ent) (μ1 : Mem), P m δ1 μ1 → ∃ b μ2, EvT C t M δ1 μ1 μ2 b ∧
      (b = true → Run C ts { D with nx := NX C M (fun δ μ => ∃ m', m' < m ∧ P m' δ μ), ct := NX C M (fun δ μ => ∃ m', m' < m ∧ P m' δ μ), bk := t2 D } M δ1 μ2) ∧ (b = false → Run C t2 D M δ1 μ2)) : Run C (tSeq (tWhile t ts) t2) D M δ μ := r_while (D := { D with nx := t2 D }) P m0 h0 hs
end

/-! ### promises -/
/-- data in, data out -/
def spD (K : PySem.W.Frag) (n : Nat) (Pre : List PyData → Prop) (F : List PyData → PyData) : Sp := fun vs H Q _ => vs.length = n ∧ ∃ M ds, (∀ a ∈ M, H a ≠ none) ∧ DpAll K (hide M H) vs ds ∧ Pre ds ∧ ∀ v H', Ex H H' → Dp K (hide M H') v (F ds) → Q v H'
/-- a list in the first place, changed -/
def spM (K : PySem.W.Frag) (n : Nat) (Pre : List PyData → List PyData → Prop) (F : List PyData → List PyData → PyData) (F2 : List PyData → List PyData → List PyData) : Sp := fun vs H Q _ =>
  vs.length = n ∧ ∃ M b bs ws ds, vs = .ref b :: ws ∧ b ∈ M ∧ (∀ a ∈ M, H a ≠ none) ∧ MOok K (hide M H) H b (.lst bs) ∧ DpAll K (hide M H) ws ds ∧ Pre bs ds ∧
    ∀ v H', Ex (hide [b] H) H' → MOok K (hide M H') H' b (.lst (F2 bs ds)) → Dp K (hide M H') v (F bs ds) → Q v H'
section
variable {C : Cfg} {M : List Addr} {δ : List Ent} {μ μ' μ1 μ2 : Mem} {tr : TA}
theorem x_call {n : Nat} {Pre : List PyData → Prop} {F : List PyData → PyData} {ds : List PyData} {E : XK} (h : EvA C tr M δ μ μ' (ds.map Ent.d)) (hn : ds.length = n) (hp : Pre ds) : EvX C (tCall (spD C.K n Pre F) [] E tr) M δ μ μ' (.d (F ds)) := fun σ H o Q k =>
  h σ H o _ fun vs H1 o1 x1 r1 => by
    rw [List.append_nil]
    refine ⟨by rw [(dpAll_of r1).length]; exact hn, M, ds, o1.alloc, dpAll_of r1, hp, fun v H2 e2 d2 => ?_⟩
    exact k v H2 (o1.grow e2) (x1.trans (hide_ex e2)) d2
theorem after_mut {σ : L2.St} {H1 H2 : Hp} {j : Nat} {b : Addr} {mo mo' : MO} (o1 : Ok C M δ μ σ H1) (hj : μ[j]? = some (b, mo)) (hex : Ex (hide [b] H1) H2) (hm : MOok C.K (hide M H2) H2 b mo') : Ok C M δ (μ.set j (b, mo')) σ H2 ∧ Ex (hide M H1) (hide M H2) := by
  have hb := o1.mem _ (List.mem_of_getElem? hj)
  have kp : ∀ a u, a ≠ b → H1 a = some u → H2 a = some u := fun a u ne e => hex a u (by rw [hide_out (by simp [ne])]; exact e)
  have x : Ex (hide M H1) (hide M H2) := fun a u e => by
    obtain ⟨q, e⟩ := hide_some e
    rw [hide_out q]
    exact kp a u (fun z => q (z ▸ hb.1)) e
  refine ⟨⟨o1.len, fun i y h1 h2 => let ⟨v, a, c⟩ := o1.slot i y h1 h2; ⟨v, a, c.mono x⟩, fun p hp => ?_, by rw [map_set_fst hj]; exact o1.nd, fun a ha => ?_, o1.sub, fun a u z => ?_, o1.base.trans x⟩, x⟩
  · obtain ⟨k, hk⟩ := List.getElem?_of_mem hp
    by_cases q : j = k
    · subst q
      rw [List.getElem?_set_self (List.getElem?_eq_some_iff.mp hj).1] at hk
      cases hk
      exact ⟨hb.1, hb.2.1, hm⟩
    · rw [List.getElem?_set_ne q] at hk
      obtain ⟨b1, b2, b3⟩ := o1.mem p (List.mem_of_getElem? hk)
      refine ⟨b1, b2, b3.mono x fun u e => kp _ u (fun z => ?_) e⟩
      have : (p.1, p.2) = p := rfl
      rw [← this, z] at hk
      exact q (nodup_fst o1.nd hj hk)
  · by_cases q : a = b
    · subst q; exact hm.there
    · cases z : H1 a with
      | none => exact absurd z (o1.alloc a ha)
      | some u => rw [kp a u q z]; exact fun z => nomatch z
  · refine kp a u (fun q => ?_) (o1.gr a u z)
    subst q
    have := hb.2.1
    rw [z] at this; cases this
theorem x_callM {n : Nat} {Pre : List PyData → List PyData → Prop} {F : List PyData → List PyData → PyData} {F2 : List PyData → List PyData → List PyData} {ds bs : List PyData} {E : XK} {b : Addr} {j : Nat}
    (h : EvA C tr M δ μ μ' (.m b :: ds.map Ent.d)) (hn : ds.length + 1 = n) (hj : μ'[j]? = some (b, .lst bs)) (hp : Pre bs ds) : EvX C (tCall (spM C.K n Pre F F2) [] E tr) M δ μ (μ'.set j (b, .lst (F2 bs ds))) (.d (F bs ds)) := fun σ H o Q k =>
  h σ H o _ fun vs H1 o1 x1 r1 => by
    rw [List.append_nil]
    cases r1 with
    | cons r0 rr =>
      have e0 : _ = V.ref b := r0
      subst e0
      have hb := o1.mem _ (List.mem_of_getElem? hj)
      refine ⟨by rw [List.length_cons, (dpAll_of rr).length]; exact hn, M, b, bs, _, ds, rfl, hb.1, o1.alloc, hb.2.2, dpAll_of rr, hp, fun v H2 e2 m2 d2 => ?_⟩
      obtain ⟨o2, x2⟩ := after_mut o1 hj e2 m2
      exact k v H2 o2 (x1.trans x2) d2
end

/-! ### a def's entry -/
def startE (n m : Nat) (es : List Ent) : List Ent := es ++ List.replicate (n - m) .u
theorem start_slot {K : PySem.W.Frag} {Hh : Hp} {N : List Str} {vs : List V} {es : List Ent} (h : Paired (EntOk K Hh) es vs) (i : Nat) (e : Ent) (h1 : (startE N.length es.length es)[i]? = some e) (h2 : e ≠ .u) : ∃ v, (L2.start N vs)[i]? = some (some v) ∧ EntOk K Hh e v := by
  unfold startE at h1
  unfold L2.start
  by_cases hi : i < es.length
  · rw [List.getElem?_append_left hi] at h1
    have hl : es.length = vs.length := by
      clear h1 hi
      induction h with
      | nil => rfl
      | cons _ _ ih => rw [List.length_cons, List.length_cons, ih]
    rw [List.getElem?_append_left (by rw [List.length_map, ← hl]; exact hi), List.getElem?_map]
    clear hi hl
    induction h generalizing i with
    | nil => simp at h1
    | cons r _ ih =>
      cases i with
      | zero => simp at h1; subst h1; exact ⟨_, rfl, r⟩
      | succ i => simpa using ih i (by simpa using h1)
  · rw [List.getElem?_append_right (Nat.le_of_not_lt hi)] at h1
    have := List.mem_replicate.mp (List.mem_of_getElem? h1)
    exact absurd this.2 h2
theorem pairedD {K : PySem.W.Frag} {H : Hp} : ∀ {ds : List PyData} {vs : List V}, DpAll K H vs ds → Paired (EntOk K H) (ds.map Ent.d) vs
  | _, _, .nil => .nil
  | _, _, .cons r t => .cons r (pairedD t)
theorem start_len {N : List Str} {vs : List V} {es : List Ent} (h : es.length = vs.length) (hN : vs.length ≤ N.length) : (L2.start N vs).length = (startE N.length es.length es).length := by
  unfold L2.start startE
  rw [List.length_append, List.length_append, List.length_map, List.length_replicate, List.length_replicate, h]
theorem paired_len {α β : Type} {F : α → β → Prop} {as : List α} {bs : List β} (h : Paired F as bs) : as.length = bs.length := by
  induction h with
  | nil => rfl
  | cons _ _ ih => rw [List.length_cons, List.length_cons, ih]
/-- the entry of a def that is handed data -/
theorem ok_startD {K : PySem.W.Frag} {H : Hp} {N : List Str} {M : List Addr} {vs : List V} {ds : List PyData} (al : ∀ a ∈ M, H a ≠ none) (h : DpAll K (hide M H) vs ds) (hN : vs.length ≤ N.length) :
    Ok ⟨K, M, H, hide M H⟩ M (startE N.length ds.length (ds.map Ent.d)) [] (L2.start N vs) H where
  len := by
    have := start_len (es := ds.map Ent.d) (vs := vs) (N := N) (by rw [List.length_map, h.length]) hN
    rw [List.length_map] at this; exact this
  slot := fun i e h1 h2 => start_slot (es := ds.map Ent.d) (pairedD h) i e (by rw [List.length_map]; exact h1) h2
  mem := fun p hp => absurd hp (by simp)
  nd := .nil
  alloc := al
  sub := fun _ ha => ha
  gr := Ex.refl _
  base := Ex.refl _
/-- the entry of a def whose first argument is a list that it changes -/
theorem ok_startM {K : PySem.W.Frag} {H : Hp} {N : List Str} {M : List Addr} {b : Addr} {bs : List PyData} {ws : List V} {ds : List PyData} (hb : b ∈ M) (al : ∀ a ∈ M, H a ≠ none) (hm : MOok K (hide M H) H b (.lst bs)) (h : DpAll K (hide M H) ws ds) (hN : ws.length + 1 ≤ N.length) :
    Ok ⟨K, M, hide [b] H, hide M H⟩ M (startE N.length (ds.length + 1) (.m b :: ds.map Ent.d)) [(b, .lst bs)] (L2.start N (.ref b :: ws)) H where
  len := by
    have := start_len (es := Ent.m b :: ds.map Ent.d) (vs := V.ref b :: ws) (N := N) (by rw [List.length_cons, List.length_cons, List.length_map, h.length]) (by rw [List.length_cons]; exact hN)
    rw [List.length_cons, List.length_map] at this; exact this
  slot := fun i e h1 h2 => start_slot (K := K) (Hh := hide M H) (es := Ent.m b :: ds.map Ent.d) (.cons rfl (pairedD h)) i e (by rw [List.length_cons, List.length_map]; exact h1) h2
  mem := fun p hp => by
    have : p = (b, .lst bs) := by simpa using hp
    subst this
    exact ⟨hb, hide_in (by simp), hm⟩
  nd := by simp
  alloc := al
  sub := fun _ ha => ha
  gr := hide_le
  base := Ex.refl _
end FD
/-! further rules: min of data, enumerate of a tuple, a call by keywords alone -/
namespace FD
open PySem PySem.Spec L2 PyProof.Rows PySem.W
section
variable {X : Cx}
def rMinD (K : PySem.W.Frag) : List V → Hp → VK → Prop := fun xs1 H Z => ∃ (a : Addr) (ws : List V) (x : PyData) (xs : List PyData), xs1 = [.ref a] ∧ SqL K H a ws ∧ DpAll K H ws (x :: xs) ∧ AlikeAll (x :: xs) ∧ PyData.depthAll (x :: xs) ≤ 32 ∧
  ∀ (j : Nat) (w : V), ws[j]? = some w → (x :: xs)[j]? = some (minD x xs) → Z w H
theorem vals_back {xs : List V} {us : List Value} (r : Vals xs us) : ∀ {i : Nat} {u : Value}, us[i]? = some u → ∃ x, xs[i]? = some x ∧ RelV x u := by
  induction r with
  | nil => intro i u e; simp at e
  | cons r _ ih =>
    intro i u e
    cases i with
    | zero => exact ⟨_, rfl, by have z := e; simp at z; rw [← z]; exact r⟩
    | succ i =>
      obtain ⟨x, h1, h2⟩ := ih (i := i) (u := u) (by simpa using e)
      exact ⟨x, h1, h2⟩
theorem cr_minD (cm : X.calm = true) (gu : X.A.units + 64 < cLine) : CallR X (.builtin "min") (rMinD X.K) := by
  intro pn sh τ H xs1 us1 Z V0 r h
  obtain ⟨a, ws, x, xs, rfl, hsq, dd, al, dp, w9⟩ := h
  obtain ⟨zs, rZ, gl, _⟩ := V0.list hsq
  rw [Vals.ref1 r]
  obtain ⟨as, rm⟩ := Dp.readsAll V0 _ _ zs dd rZ
  have hn : zs.toArray.size = xs.length + 1 := by
    rw [List.size_toArray, ← rZ.length, dd.length, List.length_cons]
  refine call_min_walkH (iter_listW (A := X.A.in1) (V0.ok.hd cm) gl.isList fun s₂ e W sw hfp hw kp => ?_)
  refine ⟨_, _, _, _, _, _, _, sh.heap, _, rfl, W, sw, hfp, by omega, hw, kp, cmpIn_lt (A := X.A.in1) (vs := zs.toArray) (by simpa using rm) al (by show X.A.units + 1 + _ < _; omega), fun v s' hP m => ?_⟩
  obtain ⟨g1, k1, rfl, hk'⟩ := moved_old e rfl m
  have e1 : zs.toArray.size - 1 = xs.length := by omega
  rw [e1] at hP
  obtain ⟨a1, a2⟩ := argBest_fold dataLt PyData.none x xs xs.length (Nat.le_refl _)
  rw [List.take_length] at a2
  have hP' : zs[argBest (fun i j => dataLt ((x :: xs).getD i PyData.none) ((x :: xs).getD j PyData.none)) xs.length]? = some v := by simpa using hP
  obtain ⟨w, h1, h2⟩ := vals_back rZ hP'
  refine ⟨w, H, V0.kept hk', h2, w9 _ w h1 ?_⟩
  have hlt : argBest (fun i j => dataLt ((x :: xs).getD i PyData.none) ((x :: xs).getD j PyData.none)) xs.length < (x :: xs).length := by rw [List.length_cons]; omega
  rw [List.getD_eq_getElem?_getD] at a2
  rw [List.getElem?_eq_getElem hlt] at a2 ⊢
  rw [Option.getD_some] at a2
  rw [a2]
  rfl

/-! ### enumerate of a tuple -/
theorem meets_enum_newT (l : Addr) (ys : Array Value) (n : Nat) (d0 : Option Addr) (sv : Array (Option Value)) :
    Meets (Builtin.«enumerate.__new__» ⟨[.type "enumerate", .ref l], []⟩) (fun _ R sh => sh.heap.get? l = some { cls := .type "tuple", dict := d0, data := .seq ys n, slots := sv } ∧
      R (.ok (.ret (.ref (sh.heap.push { cls := .type "tuple_iterator", data := .fields #[.ref l, .int 0 0] }).objs.size)))
        { sh with heap := (sh.heap.push { cls := .type "tuple_iterator", data := .fields #[.ref l, .int 0 0] }).push { cls := .type "enumerate", data := .fields #[.none, .bool false, .ref sh.heap.objs.size, rawInt 0, .none, .none] } }) :=
  .of_wp fun prog w A R sh h => by
    obtain ⟨hp, g, d, k1, o9⟩ := sh; obtain ⟨gl, h⟩ := h
    have hsub := sub_enumerate
    have gL : Heap.IsTuple (Shared.heap ⟨hp, g, d, k1, o9⟩) l ys := ⟨_, gl, rfl, n, rfl⟩
    wp_walk using AutoSeq1.wpAny_loadPart' gl
    refine wpAny_stack_any fun sw => wpAny_pure ?_
    split
    · rename_i c _ _ _ _ _
      cases (c == Value.type ("enumerate" : String))
      · wp_walk using AutoSeq1.wpAny_loadPart' gl, wpAny_pyIter_tuple gL
        exact ⟨_, rfl, h⟩
      · wp_walk using AutoSeq1.wpAny_loadPart' gl, wpAny_pyIter_tuple gL
        exact ⟨_, rfl, h⟩
    · wp_walk using AutoSeq1.wpAny_loadPart' gl, wpAny_pyIter_tuple gL
      exact ⟨_, rfl, h⟩
theorem call_enumT {prog : Program} {w : World} {A : Around} {E : Value → Shared → Prop} {sh : Shared} {l : Addr} {ys : Array Value} {Z : Value → Shared → Prop} (gL : sh.heap.IsTuple l ys)
    (h : ∀ g1, IsEnum g1 (sh.heap.objs.size + 1) sh.heap.objs.size 0 .none → g1.IsTupleIter sh.heap.objs.size l 0 → g1.objs.size = sh.heap.objs.size + 2 →
      (∀ b o, sh.heap.get? b = some o → g1.get? b = some o) → Z (.ref (sh.heap.objs.size + 1)) { sh with heap := g1 }) :
    wpAny (model prog w) A (call (.type "enumerate") [.ref l]) Z E sh := by
  obtain ⟨⟨c, d0, dt, sv⟩, gl, cm, n, dd⟩ := gL
  replace cm : c = .type "tuple" := cm
  replace dd : dt = .seq ys n := dd
  subst cm dd
  refine callType_new PySem.F.called_enumerate (by decide) (PySem.F.typeCall_enumerate_1 _) (PySem.F.newCall_enumerate_1 _) (fun obj => PySem.F.args_object_init_2 obj _) PySem.F.entry_enumerate_new
    (meets_enum_newT l ys n d0 sv) ⟨gl, ?_⟩
  have gz : (sh.heap.push { cls := .type "tuple_iterator", data := .fields #[.ref l, .int 0 0] }).objs.size = sh.heap.objs.size + 1 := Heap.size_push ..
  show _ ∧ _
  rw [gz]
  have hE : IsEnum ((sh.heap.push { cls := .type "tuple_iterator", data := .fields #[.ref l, .int 0 0] }).push
      { cls := .type "enumerate", data := .fields #[.none, .bool false, .ref sh.heap.objs.size, rawInt 0, .none, .none] }) (sh.heap.objs.size + 1) sh.heap.objs.size 0 .none := by
    have := Heap.get?_push_size (sh.heap.push { cls := .type "tuple_iterator", data := .fields #[.ref l, .int 0 0] })
      (o := { cls := .type "enumerate", data := .fields #[.none, .bool false, .ref sh.heap.objs.size, rawInt 0, .none, .none] }) rfl
    rw [gz] at this; exact this
  refine ⟨⟨_, hE, rfl⟩, h _ hE ⟨_, Heap.get?_push_of_some _ (Heap.get?_push_size _ rfl), rfl, rfl⟩ (by rw [Heap.size_push, gz]) fun b o x => Heap.get?_push_of_some _ (Heap.get?_push_of_some _ x)⟩
/-- a tuple enumerated: each item in a nw pair -/
def IteT (K : PySem.W.Frag) (a : Addr) : It :=
  ⟨fun i H => ∃ (xs : List V) (x : V), SqT K H a xs ∧ xs[i]? = some x, fun i H v H' => ∃ T x, v = .ref T ∧ H T = none ∧ H' = upd H T (.tup [.int (i : Nat), x]) ∧ ∀ xs, SqT K H a xs → xs[i]? = some x, fun i H => ∃ xs : List V, SqT K H a xs ∧ xs.length = i⟩
theorem turn_enumT {P : Program} {w : World} {K : PySem.W.Frag} {elts : List Expr} {kk : Nat} {tpos : Pos} (a e it : Addr) (hai : a ≠ it) (hae : a ≠ e) :
    Turn P w K (.Tuple elts kk tpos) (IteT K a) [e, it] e (fun i h => (∃ w0, IsEnum h e it ((i : Nat) : Int) w0) ∧ h.IsTupleIter it a i ∧ e ≠ it) where
  mem := by simp
  obj := fun i h sw b hb => by
    obtain ⟨⟨w0, hE⟩, ⟨o, ho, cm, dd⟩, _⟩ := sw
    have eb : b = e ∨ b = it := by simpa using hb
    rcases eb with z | z
    · rw [z]; exact ⟨_, hE, fun v w9 => nomatch w9⟩
    · rw [z]; exact ⟨o, ho, fun v w9 => by rw [dd] at w9; cases w9⟩
  keep := fun i h g1 sw k => let ⟨⟨w0, hE⟩, hi, nE⟩ := sw; ⟨⟨w0, k e (by simp) _ hE⟩, hi.at fun o w9 => k it (by simp) o w9, nE⟩
  item := by
    intro X hP hw hK cm i pn sh τ H E V0 ff sw gg
    subst hP hw hK
    obtain ⟨⟨w0, hE⟩, hT, nE⟩ := sw
    obtain ⟨xs, x, sq, gx⟩ := gg
    obtain ⟨zs, rZ, p, gz⟩ := V0.tuple sq
    obtain ⟨y0, gu, rU⟩ := rZ.get gx
    have hel : e < sh.heap.objs.size := Heap.lt_size hE
    have hil : it < sh.heap.objs.size := by obtain ⟨_, w9, _⟩ := hT; exact Heap.lt_size w9
    have hlt : i < zs.toArray.size := by
      rw [List.size_toArray]; exact (List.getElem?_eq_some_iff.mp gu).1
    refine wpAny_pyNext_enum_itemD (Draws.tuple (A := X.A.in1) (V0.ok.hd cm) it a hai zs.toArray) hE ⟨hT, p⟩ hlt nE (by simp [nE, Ne.symm hae]) fun y1 g1 k1 hu' ho hst' hT gz kp => ?_
    obtain ⟨hit', _⟩ := hst'
    have eu : y1 = y0 := by
      have : zs[i]? = some y1 := by simpa using hu'
      rw [gu] at this; exact (Option.some.inj this).symm
    subst eu
    refine ⟨_, rfl, wpAny_letOwnedTupleGo_enum (s := { sh with heap := g1, toks := k1 + 1 }) ho fun g2 he' sb => ?_⟩
    have hT2 : g2.get? sh.heap.objs.size = some { cls := .type "tuple", data := .seq #[.int i k1, y1] } := (sb.2 _ (Nat.ne_of_gt hel)).trans hT
    have nw : ObjOk X.prog X.w (upd H sh.heap.objs.size (.tup [.int (i : Nat), x])) g2 sh.heap.objs.size (.tup [.int (i : Nat), x]) :=
      ⟨by show 2 ≤ sizeLine; decide, [.int i k1, y1], .cons ⟨_, rfl⟩ (.cons rU .nil), ⟨_, hT2, rfl, _, rfl⟩⟩
    have V1 : Inv X pn τ (upd H sh.heap.objs.size (.tup [.int (i : Nat), x])) { sh with heap := g2, toks := k1 + 1 } :=
      V0.turnedNew (ch := [e, it]) (fun b o8 hb w9 => (sb.2 b (fun z => hb (by simp [z]))).trans (kp b o8 (fun z => hb (by simp [z])) (fun z => hb (by simp [z])) w9)) ff (Nat.le_refl _) nw
    refine ⟨.ref sh.heap.objs.size, _, V1, rfl, ⟨_, x, rfl, V0.hok.fresh (Nat.le_refl _), rfl, fun ys hy => by rw [V0.tuple_inj hy sq]; exact gx⟩, ⟨⟨y1, ?_⟩, hit'.at fun o w9 => (sb.2 it (Ne.symm nE)).trans w9, nE⟩, fun b hb => ?_⟩
    · have up1 : ((i + 1 : Nat) : Int) = (i : Int) + 1 := by omega
      rw [up1]; exact he'
    · have lb : b < sh.heap.objs.size := by
        have eb : b = e ∨ b = it := by simpa using hb
        rcases eb with z | z
        · rw [z]; exact hel
        · rw [z]; exact hil
      rw [upd_ne (Nat.ne_of_lt lb)]
      exact (ff b hb).1
  done := by
    intro X hP hw hK cm i pn sh τ H E V0 ff sw gg
    subst hP hw hK
    obtain ⟨⟨w0, hE⟩, hT, nE⟩ := sw
    obtain ⟨xs, sq, gx⟩ := gg
    obtain ⟨zs, rZ, p, gz⟩ := V0.tuple sq
    obtain ⟨f0, f1, f2, f3, f4, f5⟩ := ff it (by simp)
    have gl : i = zs.toArray.size := by rw [List.size_toArray, ← rZ.length, gx]
    subst gl
    refine wpAny_pyNext_enum_endD (Draws.tuple (A := X.A.in1) (V0.ok.hd cm) it a hai zs.toArray) hE ⟨hT, p⟩ fun g1 eb => ⟨rfl, V0.turned (t' := sh.toks) (fun b o hb w9 => eb b o hb w9) f0 f1 f3 f4 f5⟩
  self := fun A i sh Z E sw h => let ⟨⟨_, hE⟩, _⟩ := sw; wpAny_pyIter_enum hE h
def iEnumT (K : PySem.W.Frag) (ta : TA) : TI := fun τ H R => ta τ H fun xs1 H1 => ∃ a xs, xs1 = [.ref a] ∧ SqT K H1 a xs ∧ R (IteT K a) H1
theorem pi_enumT {e : Expr} {ta : TA} {p pos tpos : Pos} {elts : List Expr} {kk : Nat} (gg : Gl X "enumerate") (mm : X.mg "enumerate" = none) (pa0 : PA X [e] ta) (hsq : starEach [e] X.env = [(false, eval e X.env)] := by rfl) :
    PI X (.Tuple elts kk tpos) (.Call (.Name "enumerate" p) [e] [] pos) (iEnumT X.K ta) := by
  refine ⟨fun pn sh τ H R V0 h => ?_⟩
  refine Call_ (ld_blt V0 gg mm boot_enumerate (PyProof.Rows.callWith_type1 (thn (pa0.run pos pn sh τ H _ V0 h) fun us1 s1 ⟨xs1, H1, V1, r1, q1⟩ => ?_) hsq rfl))
  obtain ⟨a, xs, ex, sq, w9⟩ := q1
  subst ex
  cases r1 with
  | cons r rr =>
    cases rr
    cases r
    obtain ⟨zs, rZ, p', gz⟩ := V1.tuple sq
    obtain ⟨oa, hoa, _⟩ := id p'
    have la : a < s1.heap.objs.size := Heap.lt_size hoa
    refine call_enumT p' fun g1 hE hT gz kp => wpAny_pyIter_enum hE ?_
    have V2 : Inv X pn τ H1 { s1 with heap := g1 } := V1.kept (t' := s1.toks) kp
    refine ⟨s1.heap.objs.size + 1, [s1.heap.objs.size + 1, s1.heap.objs.size], _, _, H1, rfl, V2, turn_enumT a (s1.heap.objs.size + 1) s1.heap.objs.size (Nat.ne_of_lt la) (Nat.ne_of_lt (Nat.lt_succ_of_lt la)), ⟨⟨.none, hE⟩, hT, Nat.succ_ne_self _⟩, fun b hb => ?_, w9⟩
    have eb : b = s1.heap.objs.size + 1 ∨ b = s1.heap.objs.size := by simpa using hb
    have ge0 : s1.heap.objs.size ≤ b := by
      rcases eb with z | z
      · rw [z]; exact Nat.le_succ _
      · rw [z]; exact Nat.le_refl _
    exact V1.fpOk ge0 (V1.hok.fresh ge0)
end
/-! ### f(k = v, ..) -/
section
variable {X : Cx} {CX : CXT} {k n : Nat} {f : Addr} {fd : FuncData} {ps ks : List Str} {sp : Sp} {E : XK} {x : Str} {p pos : Pos} {kws : List Keyword} {k1 : TA} {g : List Value → List Value → List Value} {gV : List V → List V → List V}
theorem pe_callN0 (F : FnOk X.prog X.w X.K X.mg X.base CX k f fd ps sp) (rm : Room k X.A) (gg : Gl X x) (mm : X.mg x = some (.ref f)) (kp : PySem.W.keepIn X.K (.ref f) = true) (hb : KBn X.K fd ps 0 ks g gV) (gx : Passes CX X E) (kW : PK X kws k1)
    (hAl : (backToKw pos (keywordEach kws X.env)).all (·.1.isSome) = true := by rfl) (hKs : (backToKw pos (keywordEach kws X.env)).filterMap (·.1) = ks := by rfl) (hDb : (x == ("__debug__" : Str)) = false := by decide)
    (hPl : ((backTo pos (starEach [] X.env)).any (·.1) || (backToKw pos (keywordEach kws X.env)).any (·.1.isNone)) = false := by rfl) :
    PE X (.Call (.Name x p) [] kws pos) (tCallN 0 ks.length sp gV E tNil k1) := by
  refine ⟨fun pn sh τ H Z V0 h => ?_⟩
  refine wpAny_Call_Name_kw (ld_glob V0 gg mm ?_ hDb)
  refine PySem.W.callWith_KW0 (h₀ := X.base) V0.ok.mod.kin kp hAl ?_ hPl
  refine thn (kW.run pos pn sh τ H _ V0 h) fun ws s2 ⟨zs, H2, V2, rz0, l1, l2, q2⟩ => ⟨V2.kIn, ?_⟩
  rw [hKs]
  exact run_fnN (us := []) (vs := []) F rm hb gx V2 .nil rz0 rfl l2 q2
end
end FD
namespace FD
open PySem L2 Evl
section
variable {C : Cfg} {M M' : List Addr} {δ δ' : List Ent} {μ μ' μ1 μ2 : Mem} {e : Ent} {ta tb te : TE} {tr tr' : TA}
theorem c_minD {x : PyData} {xs : List PyData} (r : Rdd μ e (.list (x :: xs))) (ha : PySem.W.AlikeAll (x :: xs)) (hd : PyData.depthAll (x :: xs) ≤ 32) : CallX C (rMinD C.K) M δ μ μ [e] (.d (PySem.W.minD x xs)) := fun σ H vs o h Q k => by
  obtain ⟨v, rfl, q⟩ := p1 h
  obtain ⟨a, ws, q1, q2, q3⟩ := r.lst o q
  refine ⟨a, ws, x, xs, by rw [q1], q2, dpAll_mono hide_le _ _ q3, ha, hd, fun j w h1 h2 => ?_⟩
  obtain ⟨w', g1, g2⟩ := q3.get h2
  rw [h1] at g1
  cases g1
  exact k w H o (Ex.refl _) g2
theorem w_enumT {K : PySem.W.Frag} {Hh : Hp} {a : Addr} {vs : List V} {xs : List PyData} (h : SqT K Hh a vs) (hd : DpAll K Hh vs xs) : WalkD K (IteT K a) Hh (enumD xs) where
  go := fun M i H hi _ x => by
    rw [enumD_length, ← hd.length] at hi
    exact ⟨vs, vs[i], ex_t (x.trans hide_le) h, by simp [hi]⟩
  stop := fun M H _ x => ⟨vs, ex_t (x.trans hide_le) h, by rw [enumD_length, hd.length]⟩
  yld := fun M i H y H' hi al x q => by
    rw [enumD_length] at hi
    obtain ⟨T, v, rfl, hT, rfl, qv⟩ := q
    obtain ⟨v', g1, g2⟩ := hd.get (i := i) (d := xs[i]) (by simp [hi])
    have e1 := qv vs (ex_t (x.trans hide_le) h)
    rw [g1] at e1; cases e1
    obtain ⟨r1, r2⟩ := new_pair al hT (Dp.int (i : Nat)) (dp_mono x _ _ g2)
    exact ⟨r1, _, enumD_get (by simp [hi]), r2⟩
theorem i_enumT {xs : List PyData} (h : EvA C tr M δ μ μ' [.d (.tuple xs)]) : EvI C (iEnumT C.K tr) M δ μ μ' (enumD xs) := fun σ H o R k => h σ H o _ fun vs H1 o1 x1 r => by
  obtain ⟨v, rfl, q⟩ := p1 r
  obtain ⟨a, vs, g1, g2, g3⟩ := Dp.tup_of q
  exact ⟨a, vs, by rw [g1], ex_t hide_le g2, k _ H1 o1 x1 (w_enumT g2 g3)⟩
/-- f(k = v, ..), all data: the values in the parameters' order -/
theorem x_callN {n m : Nat} {Pre : List PyData → Prop} {F : List PyData → PyData} {ds es : List PyData} {E : XK} {gV : List V → List V → List V} (h : EvA C tr' M δ μ μ' (es.map Ent.d)) (hm : es.length = m)
    (hg : ∀ (H : Hp) (zs : List V), DpAll C.K H zs es → DpAll C.K H (gV [] zs) ds) (hn : ds.length = n) (hp : Pre ds) : EvX C (tCallN 0 m (spD C.K n Pre F) gV E tNil tr') M δ μ μ' (.d (F ds)) := fun σ H o Q k =>
  h σ H o _ fun vs H1 o1 x1 r1 => by
    have d1 := hg _ _ (dpAll_of r1)
    refine ⟨rfl, by rw [(dpAll_of r1).length]; exact hm, by rw [d1.length]; exact hn, M, ds, o1.alloc, d1, hp, fun v H2 e2 d2 => ?_⟩
    exact k v H2 (o1.grow e2) (x1.trans (hide_ex e2)) d2
end
end FD
/-! promises by a relation between what is handed in and what comes back; a def's proof -/
namespace FD
open PySem L2 Evl
def spR (K : PySem.W.Frag) (n : Nat) (R : List PyData → PyData → Prop) : Sp := fun vs H Q _ => vs.length = n ∧ ∃ M ds d, (∀ a ∈ M, H a ≠ none) ∧ DpAll K (hide M H) vs ds ∧ R ds d ∧ ∀ v H', Ex H H' → Dp K (hide M H') v d → Q v H'
def spW (K : PySem.W.Frag) (n : Nat) (R : List PyData → List PyData → PyData → List PyData → Prop) : Sp := fun vs H Q _ =>
  vs.length = n ∧ ∃ M b bs ws ds d bs', vs = .ref b :: ws ∧ b ∈ M ∧ (∀ a ∈ M, H a ≠ none) ∧ MOok K (hide M H) H b (.lst bs) ∧ DpAll K (hide M H) ws ds ∧ R bs ds d bs' ∧
    ∀ v H', Ex (hide [b] H) H' → MOok K (hide M H') H' b (.lst bs') → Dp K (hide M H') v d → Q v H'
section
variable {C : Cfg} {M : List Addr} {δ : List Ent} {μ μ' : Mem} {tr tr' : TA}
theorem x_callR {n : Nat} {R : List PyData → PyData → Prop} {ds : List PyData} {d : PyData} {E : XK} (h : EvA C tr M δ μ μ' (ds.map Ent.d)) (hp : R ds d) (hn : ds.length = n := by rfl) : EvX C (tCall (spR C.K n R) [] E tr) M δ μ μ' (.d d) := fun σ H o Q k =>
  h σ H o _ fun vs H1 o1 x1 r1 => by
    rw [List.append_nil]
    refine ⟨by rw [(dpAll_of r1).length]; exact hn, M, ds, d, o1.alloc, dpAll_of r1, hp, fun v H2 e2 d2 => ?_⟩
    exact k v H2 (o1.grow e2) (x1.trans (hide_ex e2)) d2
theorem x_callW {n : Nat} {R : List PyData → List PyData → PyData → List PyData → Prop} {ds bs bs' : List PyData} {d : PyData} {E : XK} {b : Addr} (j : Nat)
    (h : EvA C tr M δ μ μ' (.m b :: ds.map Ent.d)) (hp : R bs ds d bs') (hj : μ'[j]? = some (b, .lst bs) := by rfl) (hn : ds.length + 1 = n := by rfl) : EvX C (tCall (spW C.K n R) [] E tr) M δ μ (μ'.set j (b, .lst bs')) (.d d) := fun σ H o Q k =>
  h σ H o _ fun vs H1 o1 x1 r1 => by
    rw [List.append_nil]
    cases r1 with
    | cons r0 rr =>
      have e0 : _ = V.ref b := r0
      subst e0
      have hb := o1.mem _ (List.mem_of_getElem? hj)
      refine ⟨by rw [List.length_cons, (dpAll_of rr).length]; exact hn, M, b, bs, _, ds, d, bs', rfl, hb.1, o1.alloc, hb.2.2, dpAll_of rr, hp, fun v H2 e2 m2 d2 => ?_⟩
      obtain ⟨o2, x2⟩ := after_mut o1 hj e2 m2
      exact k v H2 o2 (x1.trans x2) d2
theorem x_callRN {n m : Nat} {R : List PyData → PyData → Prop} {ds es : List PyData} {d : PyData} {E : XK} {gV : List V → List V → List V} (h : EvA C tr' M δ μ μ' (es.map Ent.d)) (hg : ∀ (H : Hp) (zs : List V), DpAll C.K H zs es → DpAll C.K H (gV [] zs) ds) (hp : R ds d)
    (hm : es.length = m := by rfl) (hn : ds.length = n := by rfl) : EvX C (tCallN 0 m (spR C.K n R) gV E tNil tr') M δ μ μ' (.d d) := fun σ H o Q k =>
  h σ H o _ fun vs H1 o1 x1 r1 => by
    have d1 := hg _ _ (dpAll_of r1)
    refine ⟨rfl, by rw [(dpAll_of r1).length]; exact hm, by rw [d1.length]; exact hn, M, ds, d, o1.alloc, d1, hp, fun v H2 e2 d2 => ?_⟩
    exact k v H2 (o1.grow e2) (x1.trans (hide_ex e2)) d2
end
section
variable {P : Program} {w : World} {K : PySem.W.Frag} {mg : Str → Option Value} {base : Heap}
theorem def_R {x qual : Str} {st : Stmt} {f : Addr} {fd : FuncData} {N ps : List Str} {k : Nat} {R : List PyData → PyData → Prop} (F : Fun K x qual st f fd) (S : FnScope N ps (defScope st)) (hN : ps.length ≤ N.length)
    (h : ∀ (cdv : Value) (A : Around) (outer : List Env) (s : Shared) (H : Hp) (E : XK), Room k (A.deeper (PyProof.Rows.envOfC qual (defScope st) s.heap.objs.size f cdv)) →
      ∃ t, PSs (cxOf CX0 P w K mg base N qual (defScope st) f cdv A outer s H E).nox (defBody st) t ∧
        ∀ (M : List Addr) (G B : Hp) (ds : List PyData) (d : PyData), ds.length = ps.length → R ds d → ∀ D : Ends, Fin ⟨K, M, G, B⟩ D d → Run ⟨K, M, G, B⟩ t D M (startE N.length ds.length (ds.map Ent.d)) []) :
    FnOk P w K mg base CX0 (k + 1) f fd ps (spR K ps.length R) := by
  refine F.ok S (fun vs H Q E hs => hs.1) fun cdv A outer s H vs Q E hr hs => ?_
  obtain ⟨hn, M, ds, d, al, hd, hR, kk⟩ := hs
  obtain ⟨t, ht, run⟩ := h cdv A outer s H E hr
  exact ⟨t, ht, run M H (hide M H) ds d (by rw [← hd.length]; exact hn) hR _ (fun v H' e r => kk v H' e r) _ _ (ok_startD al hd (by rw [hn]; exact hN))⟩
theorem def_W {x qual : Str} {st : Stmt} {f : Addr} {fd : FuncData} {N ps : List Str} {k n : Nat} {R : List PyData → List PyData → PyData → List PyData → Prop} (F : Fun K x qual st f fd) (S : FnScope N ps (defScope st)) (hN : ps.length ≤ N.length) (hp : ps.length = n)
    (h : ∀ (cdv : Value) (A : Around) (outer : List Env) (s : Shared) (H : Hp) (E : XK), Room k (A.deeper (PyProof.Rows.envOfC qual (defScope st) s.heap.objs.size f cdv)) →
      ∃ t, PSs (cxOf CX0 P w K mg base N qual (defScope st) f cdv A outer s H E).nox (defBody st) t ∧
        ∀ (M : List Addr) (G B : Hp) (b : Addr) (bs ds : List PyData) (d : PyData) (bs' : List PyData), ds.length + 1 = n → R bs ds d bs' → ∀ D : Ends,
          (∀ (v : V) (M' : List Addr) (H' : Hp), Ex G H' → (∀ a ∈ M, a ∈ M') → MOok K (hide M' H') H' b (.lst bs') → Dp K (hide M' H') v d → D.rt v H') → Run ⟨K, M, G, B⟩ t D M (startE N.length (ds.length + 1) (.m b :: ds.map Ent.d)) [(b, .lst bs)]) :
    FnOk P w K mg base CX0 (k + 1) f fd ps (spW K n R) := by
  refine F.ok S (fun vs H Q E hs => hs.1.trans hp.symm) fun cdv A outer s H vs Q E hr hs => ?_
  obtain ⟨hn, M, b, bs, ws, ds, d, bs', rfl, hb, al, hm, hd, hR, kk⟩ := hs
  obtain ⟨t, ht, run⟩ := h cdv A outer s H E hr
  have hl : ws.length + 1 = n := by rw [List.length_cons] at hn; exact hn
  exact ⟨t, ht, run M (hide [b] H) (hide M H) b bs ds d bs' (by rw [← hd.length]; exact hl) hR _ (fun v M' H' e s m r => kk v H' e (m.mono (hide_sub s) fun _ q => q) (dp_mono (hide_sub s) _ _ r)) _ _ (ok_startM hb al hm hd (by rw [hl, ← hp]; exact hN))⟩
end
section
variable {C : Cfg} {M : List Addr} {δ : List Ent} {μ μ' : Mem} {te : TE} {D : Ends}
/-- handing back data, the changed list with it -/
theorem r_retW {b : Addr} {j : Nat} {mo : MO} {d : PyData} (h : EvX C te M δ μ μ' (.d d)) (hj : μ'[j]? = some (b, mo)) (k : ∀ (v : V) (M' : List Addr) (H' : Hp), Ex C.G H' → (∀ a ∈ C.M0, a ∈ M') → MOok C.K (hide M' H') H' b mo → Dp C.K (hide M' H') v d → D.rt v H') : Run C (tRet te) D M δ μ := fun σ H o => h σ H o _ fun v H1 o1 x1 r =>
  k v M H1 o1.gr o1.sub (o1.mem _ (List.mem_of_getElem? hj)).2.2 r
end
/-! ### the rules with the written part named (within a comprehension) -/
section
variable {X : Cx} {K : PySem.W.Frag}
theorem kix_tup (h : X.K = K) : IxR X (rIxT K) := h ▸ ix_tup
theorem kix_list (h : X.K = K) : IxR X (rIxL K) := h ▸ ix_list
theorem kop_eqD (h : X.K = K) (hu : X.A.units + 64 < cLine) : OpR X (compareOp .Eq) (rEqD K) := h ▸ op_eqD hu
theorem kop_neD (h : X.K = K) (hu : X.A.units + 64 < cLine) : OpR X (compareOp .NotEq) (rNeD K) := h ▸ op_neD hu
theorem klen (h : X.K = K) : CallR X (.builtin "len") (FD.rLenS K) := h ▸ call_len_seq
theorem ktuple (h : X.K = K) : CallR X (.type "tuple") (rTupleS K) := h ▸ call_tuple_of
theorem ksum (h : X.K = K) (hc : X.calm = true) : CallR X (.builtin "sum") (rSum K) := h ▸ cr_sum hc
theorem ksl_tupA (h : X.K = K) : SlR X (rSlA K) := h ▸ sl_tupA
theorem ksl_list (h : X.K = K) : SlR X (rSlL K) := h ▸ sl_list
theorem kop_catA (h : X.K = K) : OpR X (binaryOp .Add) (rCatA K) := h ▸ op_catA
end
/-! ### promises where the def chooses what comes back -/
def spP (K : PySem.W.Frag) (n : Nat) (Pre : List PyData → Prop) (Post : List PyData → PyData → Prop) : Sp := fun vs H Q _ => vs.length = n ∧ ∃ M ds, (∀ a ∈ M, H a ≠ none) ∧ DpAll K (hide M H) vs ds ∧ Pre ds ∧ ∀ v H' d, Post ds d → Ex H H' → Dp K (hide M H') v d → Q v H'
section
variable {P : Program} {w : World} {K : PySem.W.Frag} {mg : Str → Option Value} {base : Heap}
theorem def_P {x qual : Str} {st : Stmt} {f : Addr} {fd : FuncData} {N ps : List Str} {k : Nat} {Pre : List PyData → Prop} {Post : List PyData → PyData → Prop} (F : Fun K x qual st f fd) (S : FnScope N ps (defScope st)) (hN : ps.length ≤ N.length)
    (h : ∀ (cdv : Value) (A : Around) (outer : List Env) (s : Shared) (H : Hp) (E : XK), Room k (A.deeper (PyProof.Rows.envOfC qual (defScope st) s.heap.objs.size f cdv)) →
      ∃ t, PSs (cxOf CX0 P w K mg base N qual (defScope st) f cdv A outer s H E).nox (defBody st) t ∧
        ∀ (M : List Addr) (G B : Hp) (ds : List PyData), ds.length = ps.length → Pre ds → ∀ D : Ends, (∀ d, Post ds d → Fin ⟨K, M, G, B⟩ D d) → Run ⟨K, M, G, B⟩ t D M (startE N.length ds.length (ds.map Ent.d)) []) :
    FnOk P w K mg base CX0 (k + 1) f fd ps (spP K ps.length Pre Post) := by
  refine F.ok S (fun vs H Q E hs => hs.1) fun cdv A outer s H vs Q E hr hs => ?_
  obtain ⟨hn, M, ds, al, hd, hR, kk⟩ := hs
  obtain ⟨t, ht, run⟩ := h cdv A outer s H E hr
  exact ⟨t, ht, run M H (hide M H) ds (by rw [← hd.length]; exact hn) hR _ (fun d hp v H' e r => kk v H' d hp e r) _ _ (ok_startD al hd (by rw [hn]; exact hN))⟩
end
section
variable {C : Cfg} {M : List Addr} {δ : List Ent} {μ μ' : Mem} {tr tr' : TA} {D : Ends} {t2 : TS}
theorem r_asgP {i n : Nat} {Pre : List PyData → Prop} {Post : List PyData → PyData → Prop} {ds : List PyData} {E : XK} (h : EvA C tr M δ μ μ' (ds.map Ent.d)) (hp : Pre ds) (k : ∀ d, Post ds d → Nx C D M (δ.set i (.d d)) μ') (hn : ds.length = n := by rfl) :
    Run C (tAsg (tCall (spP C.K n Pre Post) [] E tr) (gName i)) D M δ μ := fun σ H o => h σ H o _ fun vs H1 o1 x1 r1 => by
  rw [List.append_nil]
  refine ⟨by rw [(dpAll_of r1).length]; exact hn, M, ds, o1.alloc, dpAll_of r1, hp, fun v H2 d hd e2 d2 => ?_⟩
  exact k d hd _ _ ((o1.grow e2).set i (e := .d d) d2)
theorem q_asgP {i n : Nat} {Pre : List PyData → Prop} {Post : List PyData → PyData → Prop} {ds : List PyData} {E : XK} (h : EvA C tr M δ μ μ' (ds.map Ent.d)) (hp : Pre ds) (k : ∀ d, Post ds d → Run C t2 D M (δ.set i (.d d)) μ') (hn : ds.length = n := by rfl) :
    Run C (tSeq (tAsg (tCall (spP C.K n Pre Post) [] E tr) (gName i)) t2) D M δ μ := r_asgP (D := { D with nx := t2 D }) h hp k hn
/-- x = f(k = v, ..) -/
theorem q_asgPN {i n m : Nat} {Pre : List PyData → Prop} {Post : List PyData → PyData → Prop} {ds es : List PyData} {E : XK} {gV : List V → List V → List V} (h : EvA C tr' M δ μ μ' (es.map Ent.d)) (hg : ∀ (H : Hp) (zs : List V), DpAll C.K H zs es → DpAll C.K H (gV [] zs) ds) (hp : Pre ds)
    (k : ∀ d, Post ds d → Run C t2 D M (δ.set i (.d d)) μ') (hm : es.length = m := by rfl) (hn : ds.length = n := by rfl) :
    Run C (tSeq (tAsg (tCallN 0 m (spP C.K n Pre Post) gV E tNil tr') (gName i)) t2) D M δ μ := fun σ H o => h σ H o _ fun vs H1 o1 x1 r1 => by
  have d1 := hg _ _ (dpAll_of r1)
  refine ⟨rfl, by rw [(dpAll_of r1).length]; exact hm, by rw [d1.length]; exact hn, M, ds, o1.alloc, d1, hp, fun v H2 d hd e2 d2 => ?_⟩
  exact k d hd _ _ ((o1.grow e2).set i (e := .d d) d2)
end
/-! ### shapes -/
theorem canLay_all : ∀ {l : List PyData}, (∀ d ∈ l, d.canLay0 = true) → PyData.canLayAll0 l = true
  | [], _ => by simp [PyData.canLayAll0]
  | x :: l, h => by
    rw [PyData.canLayAll0, h x List.mem_cons_self, canLay_all fun d hd => h d (List.mem_cons_of_mem _ hd)]
    rfl
theorem depth_all {n : Nat} : ∀ {l : List PyData}, (∀ d ∈ l, d.depth ≤ n) → PyData.depthAll l ≤ n
  | [], _ => by simp [PyData.depthAll]
  | x :: l, h => by
    rw [PyData.depthAll]
    exact Nat.max_le.mpr ⟨h x List.mem_cons_self, depth_all fun d hd => h d (List.mem_cons_of_mem _ hd)⟩
/-- data nested n deep at most -/
def Shp (n : Nat) (d : PyData) : Prop := d.canLay0 = true ∧ d.depth ≤ n
theorem Shp.shaped {n : Nat} {d : PyData} (h : Shp n d) (hn : n ≤ 64) : SeqAt.shaped d = true := by
  unfold SeqAt.shaped
  rw [h.1, decide_eq_true (Nat.le_trans h.2 hn)]
  rfl
theorem shp_int (n : Nat) (i : Int) : Shp n (.int i) := ⟨by simp [PyData.canLay0], by simp [PyData.depth]⟩
theorem shp_bool (n : Nat) (i : Bool) : Shp n (.bool i) := ⟨by simp [PyData.canLay0], by simp [PyData.depth]⟩
theorem shp_none (n : Nat) : Shp n .none := ⟨by simp [PyData.canLay0], by simp [PyData.depth]⟩
theorem shp_list {n : Nat} {l : List PyData} (h : ∀ d ∈ l, Shp n d) : Shp (n + 1) (.list l) := ⟨by rw [PyData.canLay0]; exact canLay_all fun d hd => (h d hd).1, by rw [PyData.depth]; exact Nat.succ_le_succ (depth_all fun d hd => (h d hd).2)⟩
theorem shp_tuple {n : Nat} {l : List PyData} (h : ∀ d ∈ l, Shp n d) : Shp (n + 1) (.tuple l) := ⟨by rw [PyData.canLay0]; exact canLay_all fun d hd => (h d hd).1, by rw [PyData.depth]; exact Nat.succ_le_succ (depth_all fun d hd => (h d hd).2)⟩
theorem shp_ints (n : Nat) (l : List Int) : Shp (n + 1) (.list (l.map .int)) := shp_list fun d hd => by
  obtain ⟨i, _, rfl⟩ := List.mem_map.mp hd
  exact shp_int n i
theorem shp_tints (n : Nat) (l : List Int) : Shp (n + 1) (.tuple (l.map .int)) := shp_tuple fun d hd => by
  obtain ⟨i, _, rfl⟩ := List.mem_map.mp hd
  exact shp_int n i
theorem shp_nil (n : Nat) : Shp (n + 1) (.list []) := shp_list fun d hd => by cases hd
theorem eqv_int (i j : Int) : PyData.eqv (.int i) (.int j) = (i == j) := by simp [PyData.eqv]
theorem eqv_ints : ∀ (xs ys : List Int), PyData.eqvAll (xs.map .int) (ys.map .int) = (xs == ys)
  | [], [] => by simp [PyData.eqvAll]
  | [], _ :: _ => by simp [PyData.eqvAll]
  | _ :: _, [] => by simp [PyData.eqvAll]
  | x :: xs, y :: ys => by
    rw [List.map_cons, List.map_cons, PyData.eqvAll, eqv_ints xs ys, eqv_int]
    rfl
/-! ### where the lists stay as they are -/
section
variable {C : Cfg} {M : List Addr} {δ : List Ent} {μ μ1 : Mem} {te ta tb : TE} {t : TT} {D : Ends} {e : Ent} {b : Bool} {tr : TA}
theorem x_cbP {r : List V → Hp → VK → Prop} {es : List Ent} (h : EvA C tr M δ μ μ1 es) (hr : CallX C r M δ μ1 μ1 es e) : EvX C (tCB r tr) M δ μ μ1 e := x_cb h hr
theorem x_ifP (h : EvT C t M δ μ μ1 b) (h1 : b = true → EvX C ta M δ μ1 μ1 e) (h2 : b = false → EvX C tb M δ μ1 μ1 e) : EvX C (tIf t ta tb) M δ μ μ1 e := x_if h h1 h2
theorem r_retP {d : PyData} (h : EvX C te M δ μ μ (.d d)) (k : Fin C D d) : Run C (tRet te) D M δ μ := r_retD h k
end
end FD
/-! promises that hand back a new list, which the caller may change; types of data; sequences of either kind -/
namespace FD
open PySem L2 Evl
/-- a new list comes back -/
def spN (K : PySem.W.Frag) (n : Nat) (R : List PyData → List PyData → Prop) : Sp := fun vs H Q _ => vs.length = n ∧ ∃ M ds es, (∀ a ∈ M, H a ≠ none) ∧ DpAll K (hide M H) vs ds ∧ R ds es ∧
  ∀ p H' ws, H p = none → Ex H H' → H' p = some (.lst ws) → DpAll K (hide (p :: M) H') ws es → Q (.ref p) H'
def FinN (C : Cfg) (D : Ends) (es : List PyData) : Prop := ∀ p H ws, C.G p = none → p ∉ C.M0 → Ex C.G H → H p = some (.lst ws) → DpAll C.K (hide (p :: C.M0) H) ws es → D.rt (.ref p) H
section
variable {P : Program} {w : World} {K : PySem.W.Frag} {mg : Str → Option Value} {base : Heap}
theorem def_N {x qual : Str} {st : Stmt} {f : Addr} {fd : FuncData} {N ps : List Str} {k : Nat} {R : List PyData → List PyData → Prop} (F : Fun K x qual st f fd) (S : FnScope N ps (defScope st)) (hN : ps.length ≤ N.length)
    (h : ∀ (cdv : Value) (A : Around) (outer : List Env) (s : Shared) (H : Hp) (E : XK), Room k (A.deeper (PyProof.Rows.envOfC qual (defScope st) s.heap.objs.size f cdv)) →
      ∃ t, PSs (cxOf CX0 P w K mg base N qual (defScope st) f cdv A outer s H E).nox (defBody st) t ∧
        ∀ (M : List Addr) (G B : Hp) (ds es : List PyData), ds.length = ps.length → R ds es → ∀ D : Ends, FinN ⟨K, M, G, B⟩ D es → Run ⟨K, M, G, B⟩ t D M (startE N.length ds.length (ds.map Ent.d)) []) :
    FnOk P w K mg base CX0 (k + 1) f fd ps (spN K ps.length R) := by
  refine F.ok S (fun vs H Q E hs => hs.1) fun cdv A outer s H vs Q E hr hs => ?_
  obtain ⟨hn, M, ds, es, al, hd, hR, kk⟩ := hs
  obtain ⟨t, ht, run⟩ := h cdv A outer s H E hr
  exact ⟨t, ht, run M H (hide M H) ds es (by rw [← hd.length]; exact hn) hR _ (fun p H' ws hp _ e q r => kk p H' ws hp e q r) _ _ (ok_startD al hd (by rw [hn]; exact hN))⟩
end
section
variable {C : Cfg} {M : List Addr} {δ : List Ent} {μ μ' μ1 μ2 : Mem} {tr tr' : TA} {D : Ends} {t2 : TS} {te tb ta : TE} {e2 : Ent} {i j : Nat}
/-- return [..] -/
theorem r_retN {es : List PyData} (h : EvA C tr M δ μ μ' (es.map Ent.d)) (hl : es.length ≤ 100000) (k : FinN C D es) : Run C (tRet (tLst tr)) D M δ μ := fun σ H o => h σ H o _ fun vs H1 o1 x1 r1 => ⟨by rw [(dpAll_of r1).length]; exact sz_of hl, fun p hp => by
  have g : C.G p = none := by
    cases z : C.G p with
    | none => rfl
    | some u => have := o1.gr p u z; rw [hp] at this; cases this
  have e : Ex H1 (upd H1 p (.lst vs)) := Ex.new hp
  have s : Ex (hide M H1) (hide (p :: C.M0) (upd H1 p (.lst vs))) := fun a u z => by
    obtain ⟨q, z⟩ := hide_some z
    have ne : a ≠ p := ne_of_none z hp
    rw [hide_out (fun y => (List.mem_cons.mp y).elim ne fun y => q (o1.sub a y)), upd_ne ne]; exact z
  exact k p _ vs g (fun z => o1.alloc p (o1.sub p z) hp) (o1.gr.trans e) upd_same (dpAll_mono s _ _ (dpAll_of r1))⟩
/-- return x, x a list of one's own -/
theorem r_retNM {a : Addr} {es : List PyData} {j : Nat} (h : EvX C te M δ μ μ' (.m a)) (hj : μ'[j]? = some (a, .lst es)) (ha : a ∉ C.M0) (k : FinN C D es) : Run C (tRet te) D M δ μ := fun σ H o => h σ H o _ fun v H1 o1 x1 r => by
  have r' : v = .ref a := r
  obtain ⟨q0, q3, vs, q1, q2⟩ := o1.mem _ (List.mem_of_getElem? hj)
  rw [r']
  refine k a H1 vs q3 ha o1.gr q1 (dpAll_mono (hide_sub fun b hb => ?_) _ _ q2)
  rcases List.mem_cons.mp hb with z | z
  · rw [z]; exact q0
  · exact o1.sub b z
theorem r_asgN {n : Nat} {R : List PyData → List PyData → Prop} {ds es : List PyData} {E : XK} (h : EvA C tr M δ μ μ' (ds.map Ent.d)) (hp : R ds es) (k : ∀ p, p ∉ M → Nx C D (p :: M) (δ.set i (.m p)) ((p, .lst es) :: μ')) (hn : ds.length = n := by rfl) :
    Run C (tAsg (tCall (spN C.K n R) [] E tr) (gName i)) D M δ μ := fun σ H o => h σ H o _ fun vs H1 o1 x1 r1 => by
  rw [List.append_nil]
  refine ⟨by rw [(dpAll_of r1).length]; exact hn, M, ds, es, o1.alloc, dpAll_of r1, hp, fun p H2 ws hp0 e2 hl d2 => ?_⟩
  have x : Ex (hide M H1) (hide (p :: M) H2) := fun a u z => by
    obtain ⟨q, z⟩ := hide_some z
    have ne : a ≠ p := ne_of_none z hp0
    rw [hide_out (fun y => (List.mem_cons.mp y).elim ne q)]; exact e2 a u z
  have pM := o1.fresh hp0
  have ok2 : Ok C (p :: M) δ ((p, .lst es) :: μ') σ H2 := by
    refine ⟨o1.len, fun i y h1 h2 => let ⟨v, a, c⟩ := o1.slot i y h1 h2; ⟨v, a, c.mono x⟩, fun q hq => ?_, ?_, fun b hb => ?_, fun a ha => List.mem_cons_of_mem _ (o1.sub a ha), o1.gr.trans e2, o1.base.trans x⟩
    · rcases List.mem_cons.mp hq with z | hq
      · subst z
        refine ⟨List.mem_cons_self, ?_, ws, hl, d2⟩
        cases z : C.G p with
        | none => rfl
        | some u => have := o1.gr p u z; rw [hp0] at this; cases this
      · obtain ⟨b1, b2, b3⟩ := o1.mem q hq
        exact ⟨List.mem_cons_of_mem _ b1, b2, b3.mono x fun u z => e2 _ u z⟩
    · rw [List.map_cons, List.nodup_cons]
      refine ⟨fun z => ?_, o1.nd⟩
      obtain ⟨q, hq, z⟩ := List.mem_map.mp z
      have y : q.1 = p := z
      exact pM (by rw [← y]; exact (o1.mem q hq).1)
    · rcases List.mem_cons.mp hb with z | hb
      · rw [z, hl]; exact fun y => nomatch y
      · cases z : H1 b with
        | none => exact absurd z (o1.alloc b hb)
        | some u => rw [e2 b u z]; exact fun y => nomatch y
  exact k p pM _ _ (ok2.set i (e := .m p) rfl)
theorem q_asgN {n : Nat} {R : List PyData → List PyData → Prop} {ds es : List PyData} {E : XK} (h : EvA C tr M δ μ μ' (ds.map Ent.d)) (hp : R ds es) (k : ∀ p, p ∉ M → Run C t2 D (p :: M) (δ.set i (.m p)) ((p, .lst es) :: μ')) (hn : ds.length = n := by rfl) :
    Run C (tSeq (tAsg (tCall (spN C.K n R) [] E tr) (gName i)) t2) D M δ μ := r_asgN (D := { D with nx := t2 D }) h hp k hn
/-- x, y = [..], e -/
theorem q_parN {ds : List PyData} (h : EvA C tr M δ μ μ1 (ds.map Ent.d)) (hl : ds.length ≤ 100000) (hb : ∀ p, p ∉ M → EvX C tb (p :: M) δ ((p, .lst ds) :: μ1) ((p, .lst ds) :: μ1) e2)
    (k : ∀ p, p ∉ M → Run C t2 D (p :: M) ((δ.set i (.m p)).set j e2) ((p, .lst ds) :: μ1)) : Run C (tSeq (tPar i j (tCons (tLst tr) (tCons tb tNil))) t2) D M δ μ := fun σ H o =>
  h σ H o _ fun vs H1 o1 x1 r => ⟨by have := (dpAll_of r).length; rw [this]; exact sz_of hl, fun p hp => by
    have o2 := o1.new hp (mo := .lst ds) (ho := .lst vs) ⟨vs, upd_same, dpAll_mono (hide_new hp) _ _ (dpAll_of r)⟩
    have pM := o1.fresh hp
    refine hb p pM σ _ o2 _ fun v H3 o3 x3 r3 => ?_
    exact ⟨.ref p, v, rfl, k p pM _ _ ((o3.set i (e := .m p) rfl).set j r3)⟩⟩

/-! ### either a list or a tuple -/
theorem o_seqL {i : Int} {ds : List PyData} {d : PyData} {e1 : Ent} (r : Rdd μ e1 (.list ds)) (ha : atI ds i = some d) : OpX C (rIx C.K) M δ μ μ e1 (.d (.int i)) (.d d) := fun σ H x y o h1 h2 Q k => .inl (o_ixL r ha σ H x y o h1 h2 Q k)
theorem o_seqT {i : Int} {ds : List PyData} {d : PyData} (ha : atI ds i = some d) : OpX C (rIx C.K) M δ μ μ (.d (.tuple ds)) (.d (.int i)) (.d d) := fun σ H x y o h1 h2 Q k => .inr (.inl (o_ixT ha σ H x y o h1 h2 Q k))

/-! ### isinstance -/
def tyD : PyData → String
  | .none => "NoneType"
  | .bool _ => "bool"
  | .int _ => "int"
  | .str _ => "str"
  | .list _ => "list"
  | .tuple _ => "tuple"
  | .dict _ => "dict"
theorem ty_dp {K : PySem.W.Frag} {H : Hp} {v : V} {d : PyData} (h : Dp K H v d) : TyX K H v (.type (tyD d)) := by
  cases h with
  | non => exact .base .non
  | bl b => exact .base (.bl b)
  | int i => exact .base (.int i)
  | str x => exact .base (.str x)
  | lst hs ha =>
    rcases hs with (hs | ⟨o, hs⟩) | ⟨o, its, n, hk, hc, _⟩
    · exact .base (.lst hs)
    · exact .base (.frz hs)
    · exact .kList hk hc
  | tup hs ha =>
    rcases hs with (hs | ⟨o, hs⟩) | ⟨o, its, n, hk, hc, _⟩
    · exact .base (.tup hs)
    · exact .fTuple hs
    · exact .kTuple hk hc
theorem x_isi {d : PyData} {n : String} {b : Bool} (h : EvX C ta M δ μ μ' (.d d)) (hb : kitB (tyD d) n = some b) : EvX C (tCB (rIsi C.K) (tCons ta (tCons (tC (.ty n)) tNil))) M δ μ μ' (.d (.bool b)) := fun σ H o Q k =>
  h σ H o _ fun v H1 o1 x1 r => ⟨v, .ty n, .type (tyD d), .type n, b, rfl, .ty n, ty_dp (dp_mono hide_le _ _ r), kit_ty hb, k _ H1 o1 x1 (.bl b)⟩
end
end FD
namespace K45
abbrev Cnt := Int × Int
/-- what a count costs at a price: (rest, own) -/
def cost (c : Cnt) (p : Int) : Int := c.1 + c.2 * p
def Less (p : Int) (i : Nat) (x : Cnt) (j : Nat) (y : Cnt) : Prop := cost x p < cost y p ∨ (cost x p = cost y p ∧ (x.2 < y.2 ∨ (x.2 = y.2 ∧ i ≤ j)))
def IsCh (cs : List Cnt) (p : Int) (c : Nat) (x : Cnt) : Prop := cs[c]? = some x ∧ ∀ (j : Nat) (y : Cnt), cs[j]? = some y → Less p c x j y
theorem IsCh.uniq {cs : List Cnt} {p : Int} {c d : Nat} {x y : Cnt} (h : IsCh cs p c x) (k : IsCh cs p d y) : c = d ∧ x = y := by
  have h1 := h.2 d y k.1
  have h2 := k.2 c x h.1
  have e : c = d := by
    unfold Less at h1 h2
    omega
  subst e
  exact ⟨rfl, Option.some.inj (h.1.symm.trans k.1)⟩
/-- the price from which a cheaper deed's count is as cheap -/
def up (b x : Cnt) : Int := (x.1 - b.1 + (b.2 - x.2) - 1) / (b.2 - x.2)
def nexts (cs : List Cnt) (b : Cnt) : List Int := (cs.filter fun x => decide (0 < b.2 - x.2)).map (up b)
theorem lt_up {b x : Cnt} (h : x.2 < b.2) (q : Int) : q < up b x ↔ cost b q < cost x q := by
  unfold up cost
  have h0 : 0 < b.2 - x.2 := by omega
  have e : q < (x.1 - b.1 + (b.2 - x.2) - 1) / (b.2 - x.2) ↔ q + 1 ≤ (x.1 - b.1 + (b.2 - x.2) - 1) / (b.2 - x.2) := Int.lt_iff_add_one_le
  rw [e, Int.le_ediv_iff_mul_le h0, Int.add_mul, Int.mul_sub, Int.one_mul, Int.mul_comm q b.2, Int.mul_comm q x.2]
  omega
theorem mem_nexts {cs : List Cnt} {b : Cnt} {m : Int} : m ∈ nexts cs b ↔ ∃ x ∈ cs, x.2 < b.2 ∧ up b x = m := by
  unfold nexts
  rw [List.mem_map]
  constructor
  · rintro ⟨x, hx, e⟩
    rw [List.mem_filter] at hx
    have := of_decide_eq_true hx.2
    exact ⟨x, hx.1, by omega, e⟩
  · rintro ⟨x, hx, h, e⟩
    exact ⟨x, List.mem_filter.mpr ⟨hx, decide_eq_true (by omega)⟩, e⟩
theorem cost_grow {x y : Cnt} {p q : Int} (h : x.2 ≤ y.2) (hq : p ≤ q) : cost y p - cost x p ≤ cost y q - cost x q := by
  unfold cost
  have h1 : 0 ≤ (y.2 - x.2) * (q - p) := Int.mul_nonneg (by omega) (by omega)
  rw [Int.sub_mul, Int.mul_sub, Int.mul_sub] at h1
  omega
theorem cost_same {x y : Cnt} {p q : Int} (h : x.2 = y.2) : cost y p - cost x p = cost y q - cost x q := by
  unfold cost
  rw [h]; omega
/-- a choice stays as long as no count with fewer of the deed is as cheap -/
theorem stays {cs : List Cnt} {p q : Int} {c : Nat} {x : Cnt} (h : IsCh cs p c x) (hq : p ≤ q) (hf : ∀ y ∈ cs, y.2 < x.2 → cost x q < cost y q) : IsCh cs q c x := by
  refine ⟨h.1, fun j y hy => ?_⟩
  have h1 := h.2 j y hy
  unfold Less at h1 ⊢
  by_cases hk : y.2 < x.2
  · exact .inl (hf y (List.mem_of_getElem? hy) hk)
  · have hk' : x.2 ≤ y.2 := by omega
    have g := cost_grow hk' hq
    by_cases he : x.2 = y.2
    · have g2 := cost_same (p := p) (q := q) he
      omega
    · omega
theorem step {cs : List Cnt} {p m : Int} {c : Nat} {x : Cnt} (h : IsCh cs p c x) (hm : m ∈ nexts cs x) (hl : ∀ y ∈ nexts cs x, m ≤ y) :
    p < m ∧ (∀ q, p ≤ q → q < m → IsCh cs q c x) ∧ ∀ c' x', IsCh cs m c' x' → x'.2 < x.2 := by
  obtain ⟨y, hy, hk, e⟩ := mem_nexts.mp hm
  obtain ⟨j, hj⟩ := List.getElem?_of_mem hy
  have hpm : p < m := by
    rw [← e, lt_up hk]
    have := h.2 j y hj
    unfold Less at this
    omega
  refine ⟨hpm, fun q h1 h2 => stays h h1 fun z hz hkz => ?_, fun c' x' h' => ?_⟩
  · rw [← lt_up hkz]
    exact Int.lt_of_lt_of_le h2 (hl _ (mem_nexts.mpr ⟨z, hz, hkz, rfl⟩))
  · have a1 : cost y m ≤ cost x m := by
      by_cases z : cost x m < cost y m
      · have := (lt_up hk m).mpr z
        omega
      · omega
    have a2 := h'.2 j y hj
    unfold Less at a2
    by_cases hh : x'.2 < x.2
    · exact hh
    · have hk' : x.2 ≤ x'.2 := by omega
      have g := cost_grow (p := p) (q := m) hk' (by omega)
      have a3 := h.2 c' x' h'.1
      unfold Less at a3
      omega
theorem last {cs : List Cnt} {p : Int} {c : Nat} {x : Cnt} (h : IsCh cs p c x) (hn : nexts cs x = []) : (∀ q, p ≤ q → IsCh cs q c x) ∧ ∀ y ∈ cs, x.2 ≤ y.2 := by
  have h0 : ∀ y ∈ cs, x.2 ≤ y.2 := fun y hy => by
    by_cases hk : y.2 < x.2
    · have := mem_nexts.mpr ⟨y, hy, hk, rfl⟩
      rw [hn] at this; cases this
    · omega
  exact ⟨fun q hq => stays h hq fun y hy hk => absurd (h0 y hy) (by omega), h0⟩

/-- the choice, as it is found -/
def chFrom (p : Int) : List Cnt → Nat → Nat → Cnt → Nat × Cnt
  | [], _, b, x => (b, x)
  | y :: r, i, b, x => if cost y p < cost x p ∨ (cost y p = cost x p ∧ y.2 < x.2) then chFrom p r (i + 1) i y else chFrom p r (i + 1) b x
def chOf (cs : List Cnt) (p : Int) : Nat × Cnt := match cs with
  | [] => (0, (0, 0))
  | x :: r => chFrom p r 1 0 x
theorem chFrom_spec (p : Int) : ∀ (r pre : List Cnt) (i b : Nat) (x : Cnt), i = pre.length → IsCh pre p b x → IsCh (pre ++ r) p (chFrom p r i b x).1 (chFrom p r i b x).2
  | [], pre, i, b, x, _, h => by rw [List.append_nil]; exact h
  | y :: r, pre, i, b, x, hi, h => by
    have e : pre ++ y :: r = (pre ++ [y]) ++ r := by simp
    unfold chFrom
    have hb : b < pre.length := (List.getElem?_eq_some_iff.mp h.1).1
    by_cases hc : cost y p < cost x p ∨ (cost y p = cost x p ∧ y.2 < x.2)
    · rw [if_pos hc, e]
      refine chFrom_spec p r (pre ++ [y]) (i + 1) i y (by simp [hi]) ⟨by subst hi; simp, fun j z hz => ?_⟩
      by_cases hj : j < pre.length
      · rw [List.getElem?_append_left hj] at hz
        have := h.2 j z hz
        unfold Less at this ⊢
        omega
      · have hl := (List.getElem?_eq_some_iff.mp hz).1
        rw [List.length_append, List.length_singleton] at hl
        have ej : j = pre.length := by omega
        subst ej
        have ez : z = y := by simpa using hz.symm
        subst ez
        unfold Less
        omega
    · rw [if_neg hc, e]
      refine chFrom_spec p r (pre ++ [y]) (i + 1) b x (by simp [hi]) ⟨by rw [List.getElem?_append_left hb]; exact h.1, fun j z hz => ?_⟩
      by_cases hj : j < pre.length
      · rw [List.getElem?_append_left hj] at hz
        exact h.2 j z hz
      · have hl := (List.getElem?_eq_some_iff.mp hz).1
        rw [List.length_append, List.length_singleton] at hl
        have ej : j = pre.length := by omega
        subst ej
        have ez : z = y := by simpa using hz.symm
        subst ez
        unfold Less
        omega
theorem chOf_spec {cs : List Cnt} (p : Int) (h : cs ≠ []) : IsCh cs p (chOf cs p).1 (chOf cs p).2 := by
  cases cs with
  | nil => exact absurd rfl h
  | cons x r =>
    have := chFrom_spec p r [x] 1 0 x rfl ⟨rfl, fun j z hz => by
      have hl := (List.getElem?_eq_some_iff.mp hz).1
      have ej : j = 0 := by simpa using hl
      subst ej
      have ez : z = x := by simpa using hz.symm
      subst ez
      unfold Less
      omega⟩
    exact this
def ch (cs : List Cnt) (p : Int) : Nat := (chOf cs p).1
theorem ch_eq {cs : List Cnt} {p : Int} {c : Nat} {x : Cnt} (h : IsCh cs p c x) : ch cs p = c := by
  have hne : cs ≠ [] := fun z => by
    have := h.1
    rw [z] at this; simp at this
  exact ((chOf_spec p hne).uniq h).1
theorem ch_is {cs : List Cnt} (p : Int) (h : cs ≠ []) : ∃ x, IsCh cs p (ch cs p) x := ⟨_, chOf_spec p h⟩

/-- the told steps so far: (price, choice) -/
structure Told (cs : List Cnt) (l : List (Int × Nat)) : Prop where
  ne : cs ≠ []
  first : l[0]? = some (0, ch cs 0)
  at_ : ∀ (i : Nat) (s : Int × Nat), l[i]? = some s → 0 ≤ s.1 ∧ ∃ x, IsCh cs s.1 s.2 x
  next : ∀ (i : Nat) (s t : Int × Nat), l[i]? = some s → l[i + 1]? = some t → s.1 < t.1 ∧ (∀ q, s.1 ≤ q → q < t.1 → ch cs q = s.2) ∧ ∀ x y, cs[s.2]? = some x → cs[t.2]? = some y → y.2 < x.2
/-- .. and nothing changes behind the last one -/
structure Whole (cs : List Cnt) (l : List (Int × Nat)) : Prop extends Told cs l where
  last : ∀ s, l[l.length - 1]? = some s → (∀ q, s.1 ≤ q → ch cs q = s.2) ∧ ∀ x y, cs[s.2]? = some x → y ∈ cs → x.2 ≤ y.2
theorem told_start {cs : List Cnt} (h : cs ≠ []) : Told cs [(0, ch cs 0)] where
  ne := h
  first := rfl
  at_ := fun i s hs => by
    have hl := (List.getElem?_eq_some_iff.mp hs).1
    have ej : i = 0 := by simpa using hl
    subst ej
    have ez : s = (0, ch cs 0) := by simpa using hs.symm
    subst ez
    exact ⟨Int.le_refl 0, ch_is 0 h⟩
  next := fun i s t _ ht => by
    have hl := (List.getElem?_eq_some_iff.mp ht).1
    simp at hl
theorem told_step {cs : List Cnt} {l : List (Int × Nat)} {p m : Int} {c : Nat} {x : Cnt} (h : Told cs (l ++ [(p, c)])) (hx : cs[c]? = some x) (hm : m ∈ nexts cs x) (hl : ∀ y ∈ nexts cs x, m ≤ y) :
    Told cs (l ++ [(p, c)] ++ [(m, ch cs m)]) ∧ ∀ y, cs[ch cs m]? = some y → y.2 < x.2 := by
  obtain ⟨h0, x', hc⟩ := h.at_ l.length (p, c) (by simp)
  have ex : x' = x := Option.some.inj (hc.1.symm.trans hx)
  subst ex
  obtain ⟨a1, a2, a3⟩ := step hc hm hl
  obtain ⟨y, hy⟩ := ch_is m h.ne
  refine ⟨⟨h.ne, ?_, fun i s hs => ?_, fun i s t hs ht => ?_⟩, fun z hz => a3 _ _ (by have e : z = y := Option.some.inj (hz.symm.trans hy.1); subst e; exact hy)⟩
  · rw [List.getElem?_append_left (by simp)]; exact h.first
  · by_cases hi : i < (l ++ [(p, c)]).length
    · rw [List.getElem?_append_left hi] at hs
      exact h.at_ i s hs
    · have hll := (List.getElem?_eq_some_iff.mp hs).1
      have ei : i = (l ++ [(p, c)]).length := by
        rw [List.length_append, List.length_singleton] at hll; omega
      subst ei
      have es : s = (m, ch cs m) := by simpa using hs.symm
      subst es
      exact ⟨by show 0 ≤ m; have : (0 : Int) ≤ p := h0; omega, y, hy⟩
  · have hll := (List.getElem?_eq_some_iff.mp ht).1
    rw [List.length_append, List.length_singleton] at hll
    have hi : i < (l ++ [(p, c)]).length := by omega
    rw [List.getElem?_append_left hi] at hs
    by_cases hj : i + 1 < (l ++ [(p, c)]).length
    · rw [List.getElem?_append_left hj] at ht
      exact h.next i s t hs ht
    · have ei : i = l.length := by
        rw [List.length_append, List.length_singleton] at hj hi; omega
      subst ei
      have es : s = (p, c) := by simpa using hs.symm
      have et : t = (m, ch cs m) := by
        rw [List.getElem?_append_right (by simp)] at ht
        simpa using ht.symm
      subst es et
      refine ⟨a1, fun q h1 h2 => ch_eq (a2 q h1 h2), fun u v hu hv => ?_⟩
      have e1 : u = x' := Option.some.inj (hu.symm.trans hx)
      have e2 : v = y := Option.some.inj (hv.symm.trans hy.1)
      subst e1 e2
      exact a3 _ _ hy
theorem told_end {cs : List Cnt} {l : List (Int × Nat)} {p : Int} {c : Nat} {x : Cnt} (h : Told cs (l ++ [(p, c)])) (hx : cs[c]? = some x) (hn : nexts cs x = []) : Whole cs (l ++ [(p, c)]) := by
  refine ⟨h, fun s hs => ?_⟩
  have es : s = (p, c) := by simpa using hs.symm
  subst es
  obtain ⟨_, x', hc⟩ := h.at_ l.length (p, c) (by simp)
  have ex : x' = x := Option.some.inj (hc.1.symm.trans hx)
  subst ex
  obtain ⟨a1, a2⟩ := last hc hn
  refine ⟨fun q hq => ch_eq (a1 q hq), fun u y hu hy => ?_⟩
  have e1 : u = x' := Option.some.inj (hu.symm.trans hx)
  subst e1
  exact a2 y hy

/-! ### the changes, price by price -/
/-- behind the prices below q: the told steps below q, and the choice at the last of them -/
structure Seen (cs : List Cnt) (l : List (Int × Nat)) (q : Nat) (j : Nat) : Prop where
  le : j ≤ l.length
  lo : ∀ i s, i < j → l[i]? = some s → s.1 < (q : Int)
  hi : ∀ i s, j ≤ i → l[i]? = some s → (q : Int) ≤ s.1
theorem seen_zero {cs : List Cnt} {l : List (Int × Nat)} (w : Told cs l) : Seen cs l 0 0 := ⟨Nat.zero_le _, fun i s h => absurd h (by omega), fun i s _ hs => (w.at_ i s hs).1⟩
theorem mono {cs : List Cnt} {l : List (Int × Nat)} (w : Told cs l) : ∀ (i k : Nat) (s t : Int × Nat), i < k → l[i]? = some s → l[k]? = some t → s.1 < t.1
  | i, 0, _, _, h, _, _ => absurd h (by omega)
  | i, k + 1, s, t, h, hs, ht => by
    have hk : k < l.length := by have := (List.getElem?_eq_some_iff.mp ht).1; omega
    have h2 := w.next k l[k] t (by simp [hk]) ht
    by_cases e : i = k
    · subst e
      have es : s = l[i] := by simpa [hk] using hs.symm
      rw [es]; exact h2.1
    · have := mono w i k s l[k] (by omega) hs (by simp [hk])
      have := h2.1
      omega
/-- the choice at q, where the steps below q are the first j + 1 -/
theorem seen_last {cs : List Cnt} {l : List (Int × Nat)} (w : Whole cs l) {q : Int} {j : Nat} {s : Int × Nat} (hs : l[j]? = some s) (h1 : s.1 ≤ q) (h2 : ∀ t, l[j + 1]? = some t → q < t.1) : ch cs q = s.2 := by
  cases e : l[j + 1]? with
  | some t => exact (w.next j s t hs e).2.1 q h1 (h2 t e)
  | none =>
    have hl : j = l.length - 1 := by
      have a := (List.getElem?_eq_some_iff.mp hs).1
      have b := List.getElem?_eq_none_iff.mp e
      omega
    subst hl
    exact (w.last s hs).1 q h1
/-- one price more: a new step exactly if the choice is another one -/
theorem seen_step {cs : List Cnt} {l : List (Int × Nat)} (w : Whole cs l) {q j : Nat} (h : Seen cs l q j) (hj : q ≠ 0 → 0 < j) :
    ((q ≠ 0 ∧ ch cs (q : Int) = ch cs ((q : Int) - 1)) ∧ Seen cs l (q + 1) j) ∨ ((q ≠ 0 → ch cs (q : Int) ≠ ch cs ((q : Int) - 1)) ∧ l[j]? = some ((q : Int), ch cs (q : Int)) ∧ Seen cs l (q + 1) (j + 1)) := by
  by_cases he : ∃ s, l[j]? = some s ∧ s.1 = (q : Int)
  · obtain ⟨s, hs, e⟩ := he
    right
    have e2 : ch cs (q : Int) = s.2 := by
      refine seen_last w hs (by omega) fun t ht => ?_
      have := (w.next j s t hs ht).1
      omega
    refine ⟨fun hq z => ?_, by rw [hs, e2, ← e], (List.getElem?_eq_some_iff.mp hs).1, fun i t hi ht => ?_, fun i t hi ht => ?_⟩
    · have hj' := hj hq
      obtain ⟨k, ek⟩ : ∃ k, j = k + 1 := ⟨j - 1, by omega⟩
      subst ek
      have hk : k < l.length := by have := (List.getElem?_eq_some_iff.mp hs).1; omega
      have hl : l[k]? = some l[k] := by simp [hk]
      have a := h.lo k l[k] (by omega) hl
      obtain ⟨b1, b2, b3⟩ := w.next k l[k] s hl hs
      have c1 : ch cs ((q : Int) - 1) = l[k].2 := b2 _ (by omega) (by omega)
      obtain ⟨_, x, hx⟩ := w.at_ k _ hl
      obtain ⟨_, y, hy⟩ := w.at_ (k + 1) _ hs
      have := b3 x y hx.1 hy.1
      have e3 : l[k].2 = s.2 := by rw [← c1, ← z, e2]
      have hy1 := hy.1
      rw [← e3, hx.1] at hy1
      have : x = y := Option.some.inj hy1
      subst this
      omega
    · by_cases ei : i = j
      · subst ei
        rw [hs] at ht; cases ht
        omega
      · have := h.lo i t (by omega) ht
        omega
    · have := mono w.toTold j i s t (by omega) hs ht
      omega
  · have hb : ∀ i t, j ≤ i → l[i]? = some t → (q : Int) < t.1 := fun i t hi ht => by
      have h1 := h.hi i t hi ht
      by_cases e : t.1 = (q : Int)
      · by_cases ei : i = j
        · subst ei
          exact absurd ⟨t, ht, e⟩ he
        · have hjl : j < l.length := by have := (List.getElem?_eq_some_iff.mp ht).1; omega
          have h2 := mono w.toTold j i l[j] t (by omega) (by simp [hjl]) ht
          have h3 := h.hi j l[j] (Nat.le_refl _) (by simp [hjl])
          omega
      · omega
    have hq : q ≠ 0 := fun z => by
      subst z
      have h00 := w.first
      by_cases hj0 : j = 0
      · subst hj0
        exact he ⟨_, h00, rfl⟩
      · have := h.lo 0 _ (by omega) h00
        simp at this
    left
    have hj' := hj hq
    obtain ⟨k, ek⟩ : ∃ k, j = k + 1 := ⟨j - 1, by omega⟩
    subst ek
    have hk : k < l.length := by have := h.le; omega
    have hl : l[k]? = some l[k] := by simp [hk]
    have a := h.lo k l[k] (by omega) hl
    have c1 : ch cs (q : Int) = l[k].2 := seen_last w hl (by omega) fun t ht => hb _ t (Nat.le_refl _) ht
    have c2 : ch cs ((q : Int) - 1) = l[k].2 := seen_last w hl (by omega) fun t ht => by have := hb _ t (Nat.le_refl _) ht; omega
    refine ⟨⟨hq, by rw [c1, c2]⟩, h.le, fun i t hi ht => ?_, fun i t hi ht => ?_⟩
    · have := h.lo i t hi ht; omega
    · have := hb i t hi ht; omega
theorem seen_filter {cs : List Cnt} {l : List (Int × Nat)} {q j : Nat} (h : Seen cs l q j) : l.filter (fun s => decide (s.1 < (q : Int))) = l.take j := by
  have e : l = l.take j ++ l.drop j := (List.take_append_drop j l).symm
  have h1 : (l.take j).filter (fun s => decide (s.1 < (q : Int))) = l.take j := by
    rw [List.filter_eq_self]
    intro s hs
    obtain ⟨i, hi⟩ := List.getElem?_of_mem hs
    rw [List.getElem?_take] at hi
    split at hi
    · exact decide_eq_true (h.lo i s (by assumption) hi)
    · cases hi
  have h2 : (l.drop j).filter (fun s => decide (s.1 < (q : Int))) = [] := by
    rw [List.filter_eq_nil_iff]
    intro s hs
    obtain ⟨i, hi⟩ := List.getElem?_of_mem hs
    rw [List.getElem?_drop] at hi
    have := h.hi (j + i) s (by omega) hi
    simp; omega
  calc l.filter (fun s => decide (s.1 < (q : Int))) = (l.take j ++ l.drop j).filter (fun s => decide (s.1 < (q : Int))) := by rw [← e]
    _ = l.take j := by rw [List.filter_append, h1, h2, List.append_nil]
end K45
namespace K45
open PySem L2 FD
def top (i : Nat) : Stmt := PySem.Challenge.pw_stillowed_k45_a_deed_that_gets_dearer.main.body.getD i (.Pass ⟨0, 0, 0, 0⟩)
abbrev sCp : Stmt := top 1
abbrev sCa : Stmt := top 2
abbrev sNp : Stmt := top 3
abbrev sPs : Stmt := top 4
abbrev sBx : Stmt := top 6
abbrev sTk : Stmt := top 7
abbrev sPk : Stmt := top 8
abbrev sCh : Stmt := top 10
abbrev sSm : Stmt := top 11
abbrev sSt : Stmt := top 12
abbrev sLw : Stmt := top 13
structure Txt (mg : Str → Option Value) : Prop where
  sum : mg "sum" = none
  zip : mg "zip" = none
  enumerate : mg "enumerate" = none
  min : mg "min" = none
  max : mg "max" = none
  len : mg "len" = none
  abs : mg "abs" = none
  int : mg "int" = none
  tuple : mg "tuple" = none
  range : mg "range" = none
  isinstance : mg "isinstance" = none
/-- a def of the text, callable by its name -/
structure Has (K : PySem.W.Frag) (mg : Str → Option Value) (x : Str) (st : Stmt) (ps : List Str) (f : Addr) (fd : FuncData) : Prop where
  F : Fun K x x st f fd
  b : Binds K fd ps []
  m : mg x = some (.ref f)
section
variable {P : Program} {w : World} {K : PySem.W.Frag} {mg : Str → Option Value} {base : Heap}
/-! ### numbers -/
def dot (xs ys : List Int) : Int := (List.zipWith (· * ·) xs ys).sum
def ti (xs : List Int) : PyData := .tuple (xs.map .int)
theorem ti_get {xs : List Int} {i : Nat} {x : Int} (h : xs[i]? = some x) : (xs.map PyData.int)[i]? = some (.int x) := by rw [List.getElem?_map, h]; rfl
theorem dot_range (xs ys : List Int) : ((List.range (min xs.length ys.length)).map fun i => xs.getD i 0 * ys.getD i 0).sum = dot xs ys := by
  unfold dot
  congr 1
  refine List.ext_getElem? fun i => ?_
  rw [List.getElem?_map, List.getElem?_zipWith]
  by_cases h : i < min xs.length ys.length
  · have h1 : i < xs.length := by omega
    have h2 : i < ys.length := by omega
    simp [h, h1, h2]
  · rw [List.getElem?_eq_none (by simp; omega)]
    by_cases h1 : i < xs.length
    · have h2 : ys[i]? = none := by simp; omega
      rw [h2]
      cases xs[i]? <;> rfl
    · have h2 : xs[i]? = none := by simp; omega
      rw [h2]; rfl
/-! ### count_price -/
def Big (xs : List Int) : Prop := ∀ x ∈ xs, -(2 ^ 64) < x ∧ x < 2 ^ 64
def Rcp (ds : List PyData) (d : PyData) : Prop := ∃ xs ys : List Int, ds = [ti xs, ti ys] ∧ xs.length ≤ 100 ∧ Big xs ∧ d = .int (dot xs ys)
abbrev nCp : List Str := ["count", "prices", "many", "price"]
theorem scCp : FnScope nCp ["count", "prices"] (defScope sCp) := ⟨rfl, rfl, rfl, by decide +kernel, rfl, by decide +kernel, by decide +kernel⟩
theorem ok_cp {f : Addr} {fd : FuncData} (T : Txt mg) (F : Fun K "count_price" "count_price" sCp f fd) : FnOk P w K mg base CX0 1 f fd ["count", "prices"] (spR K 2 Rcp) := by
  refine def_R F scCp (by decide) fun cdv A outer s H E hr => ?_
  have nd := scCp.nd
  refine ⟨_, (pss_one (ps_ret (pe_callB (cr_sum rfl) (by rfl) T.sum (by decide +kernel) (pa_cons (pe_lc (own := [("many", 2), ("price", 3)]) (g := (gTup K 2 (gCons (gName 2) (gCons (gName 3) gNil)))) (tt := tYes) rfl nd (RZ.pi_zipA (by rfl) T.zip (pa_cons (pv 0) (pa_cons (pv 1) pa_nil))) (blkOk_by (N := nCp) (sc := defScope sCp) (by decide +kernel)) (fun _ _ _ _ _ => (pg_tup rfl (pgs_cons (pg_name (i := 2) nd rfl (Or.inl rfl)) (pgs_cons (pg_name (i := 3) nd rfl (Or.inl rfl)) pgs_nil)))) (fun _ _ _ _ _ => pts_nil) (fun _ _ _ _ _ => (pe_op op_mul (pv 2) (pv 3)))) pa_nil)))), ?_⟩
  rintro M G B ds d _ ⟨xs, ys, rfl, hl, hb, rfl⟩ D fin
  show Run _ _ D M [.d (ti xs), .d (ti ys), .u, .u] []
  refine r_retD (x_cb (μ2 := []) (a_cons (x_lcP (ts := [2, 3]) (fun i => .int (xs.getD i 0 * ys.getD i 0)) (i_zipT (a_cons (x_vd rfl) (a_cons (x_vd rfl) a_nil))) ?_ (fun i => [.d (ti xs), .d (ti ys), .d (.int (xs.getD i 0)), .d (.int (ys.getD i 0))]) (fun i d hd => ?_) (fun k hk => hk) (fun i d hd G B D => ?_)) a_nil) ?_) fin
  · rw [pairD_length, List.length_map]; omega
  · have hi := (List.getElem?_eq_some_iff.mp hd).1
    rw [pairD_length, List.length_map, List.length_map] at hi
    have e : d = .tuple [.int (xs.getD i 0), .int (ys.getD i 0)] := by
      have h1 : xs[i]? = some (xs.getD i 0) := by simp [show i < xs.length by omega]
      have h2 : ys[i]? = some (ys.getD i 0) := by simp [show i < ys.length by omega]
      rw [pairD_get (ti_get h1) (ti_get h2)] at hd
      exact (Option.some.inj hd).symm
    subst e
    exact tg_tup2
  · have hi := (List.getElem?_eq_some_iff.mp hd).1
    rw [pairD_length, List.length_map, List.length_map] at hi
    refine x_op (x_vd rfl) (x_vd rfl) (o_I ?_)
    exact .inl (hb _ (by rw [List.getD_eq_getElem?_getD, List.getElem?_eq_getElem (show i < xs.length by omega)]; exact List.getElem_mem _))
  · have e : (List.range (pairD (xs.map PyData.int) (ys.map PyData.int)).length).map (fun i => PyData.int (xs.getD i 0 * ys.getD i 0)) = ((List.range (min xs.length ys.length)).map fun i => xs.getD i 0 * ys.getD i 0).map PyData.int := by
      rw [pairD_length, List.length_map, List.length_map, List.map_map]; rfl
    rw [e, ← dot_range]
    exact c_sum (.d _)
end
end K45
namespace K45
open PySem L2 FD
/-! ### counts as (rest, own), and their triples -/
theorem dot_nil_left (ys : List Int) : dot [] ys = 0 := rfl
theorem dot_cons (x y : Int) (xs ys : List Int) : dot (x :: xs) (y :: ys) = x * y + dot xs ys := by
  unfold dot
  rw [List.zipWith_cons_cons, List.sum_cons]
theorem dot_set : ∀ (c ps : List Int) (k : Nat) (p : Int), k < ps.length → dot c (ps.set k p) = dot c (ps.set k 0) + c.getD k 0 * p
  | [], ps, k, p, _ => by simp [dot]
  | x :: c, [], k, p, h => by simp at h
  | x :: c, y :: ps, 0, p, _ => by
    rw [List.set_cons_zero, List.set_cons_zero, dot_cons, dot_cons]
    simp only [List.getD_cons_zero]
    omega
  | x :: c, y :: ps, k + 1, p, h => by
    rw [List.set_cons_succ, List.set_cons_succ, dot_cons, dot_cons, dot_set c ps k p (by simpa using h)]
    simp only [List.getD_cons_succ]
    omega
def prs (cs : List (List Int)) (ps : List Int) (k : Nat) : List Cnt := cs.map fun c => (dot c (ps.set k 0), c.getD k 0)
theorem prs_get {cs : List (List Int)} {ps : List Int} {k i : Nat} {c : List Int} (h : cs[i]? = some c) : (prs cs ps k)[i]? = some (dot c (ps.set k 0), c.getD k 0) := by
  unfold prs
  rw [List.getElem?_map, h]; rfl
theorem prs_cost {c ps : List Int} {k : Nat} {p : Int} (h : k < ps.length) : cost (dot c (ps.set k 0), c.getD k 0) p = dot c (ps.set k p) := (dot_set c ps k p h).symm
theorem prs_len (cs : List (List Int)) (ps : List Int) (k : Nat) : (prs cs ps k).length = cs.length := by simp [prs]
def tri (p : Int) (i : Nat) (y : Cnt) : PyData := .tuple [.int (cost y p), .int y.2, .int (i : Int)]
def tris (p : Int) : List Cnt → Nat → List PyData
  | [], _ => []
  | y :: r, i => tri p i y :: tris p r (i + 1)
theorem tris_snoc (p : Int) (y : Cnt) : ∀ (l : List Cnt) (i : Nat), tris p (l ++ [y]) i = tris p l i ++ [tri p (i + l.length) y]
  | [], i => by simp [tris]
  | x :: l, i => by
    rw [List.cons_append]
    show tri p i x :: tris p (l ++ [y]) (i + 1) = tri p i x :: (tris p l (i + 1) ++ [_])
    rw [tris_snoc p y l (i + 1), List.length_cons, show i + 1 + l.length = i + (l.length + 1) by omega]
theorem tris_get (p : Int) : ∀ (l : List Cnt) (i j : Nat), (tris p l i)[j]? = l[j]?.map (tri p (i + j))
  | [], i, j => by simp [tris]
  | x :: l, i, 0 => by simp [tris]
  | x :: l, i, j + 1 => by
    show (tris p l (i + 1))[j]? = _
    rw [tris_get p l (i + 1) j, List.getElem?_cons_succ, show i + 1 + j = i + (j + 1) by omega]
theorem dataLt_tri (p : Int) (i j : Nat) (x y : Cnt) : PySem.W.dataLt (tri p i x) (tri p j y) = decide (cost x p < cost y p ∨ (cost x p = cost y p ∧ (x.2 < y.2 ∨ (x.2 = y.2 ∧ i < j)))) := by
  unfold tri
  have al : ∀ a b : Int, PySem.W.alike (.int a) (.int b) = true := fun _ _ => by simp [PySem.W.alike]
  have ev : ∀ a b : Int, PyData.eqv (.int a) (.int b) = (a == b) := fun _ _ => by simp [PyData.eqv]
  rw [PySem.W.dataLt_tuple]
  by_cases h1 : cost x p = cost y p
  · rw [PySem.W.dataLt_all_yes (al _ _) (by rw [ev, h1]; simp)]
    by_cases h2 : x.2 = y.2
    · rw [PySem.W.dataLt_all_yes (al _ _) (by rw [ev, h2]; simp)]
      by_cases h3 : i = j
      · rw [PySem.W.dataLt_all_yes (al _ _) (by rw [ev, h3]; simp)]
        subst h3
        simp [h1, h2, PySem.W.keyToksAll]
        rfl
      · rw [PySem.W.dataLt_all_no (al _ _) (by rw [ev]; simp; omega), PySem.W.dataLt_int]
        simp [h1, h2]
    · rw [PySem.W.dataLt_all_no (al _ _) (by rw [ev]; simp [h2]), PySem.W.dataLt_int]
      simp [h1, h2]
  · rw [PySem.W.dataLt_all_no (al _ _) (by rw [ev]; simp [h1]), PySem.W.dataLt_int]
    simp [h1]
theorem fold_tris (p : Int) : ∀ (r : List Cnt) (i b : Nat) (x : Cnt), b < i → (tris p r i).foldl (fun a y => if PySem.W.dataLt y a = true then y else a) (tri p b x) = tri p (chFrom p r i b x).1 (chFrom p r i b x).2
  | [], i, b, x, _ => rfl
  | y :: r, i, b, x, h => by
    show (tris p r (i + 1)).foldl _ (if PySem.W.dataLt (tri p i y) (tri p b x) = true then tri p i y else tri p b x) = _
    rw [dataLt_tri]
    unfold chFrom
    by_cases hc : cost y p < cost x p ∨ (cost y p = cost x p ∧ y.2 < x.2)
    · have : cost y p < cost x p ∨ (cost y p = cost x p ∧ (y.2 < x.2 ∨ (y.2 = x.2 ∧ i < b))) := by omega
      rw [if_pos hc, decide_eq_true this, if_pos rfl]
      exact fold_tris p r (i + 1) i y (by omega)
    · have : ¬ (cost y p < cost x p ∨ (cost y p = cost x p ∧ (y.2 < x.2 ∨ (y.2 = x.2 ∧ i < b)))) := by omega
      rw [if_neg hc, decide_eq_false this, if_neg Bool.false_ne_true]
      exact fold_tris p r (i + 1) b x (by omega)
theorem min_tris (p : Int) (x : Cnt) (r : List Cnt) : PySem.W.minD (tri p 0 x) (tris p r 1) = tri p (ch (x :: r) p) (chOf (x :: r) p).2 := fold_tris p r 1 0 x (by omega)
theorem alike_tri (p : Int) (i j : Nat) (x y : Cnt) : PySem.W.alike (tri p i x) (tri p j y) = true := by simp [tri, PySem.W.alike, PySem.W.alikeAll]
theorem tris_mem {p : Int} {l : List Cnt} {i : Nat} {d : PyData} (h : d ∈ tris p l i) : ∃ j x, d = tri p j x := by
  obtain ⟨j, hj⟩ := List.getElem?_of_mem h
  rw [tris_get] at hj
  cases e : l[j]? with
  | none => rw [e] at hj; cases hj
  | some x => rw [e] at hj; exact ⟨_, x, (Option.some.inj hj).symm⟩
theorem alike_tris (p : Int) (l : List Cnt) (i : Nat) : PySem.W.AlikeAll (tris p l i) := by
  refine ⟨fun a ha b hb => ?_, fun a ha => ?_⟩
  · obtain ⟨j, x, rfl⟩ := tris_mem ha
    obtain ⟨k, y, rfl⟩ := tris_mem hb
    exact alike_tri p j k x y
  · obtain ⟨j, x, rfl⟩ := tris_mem ha
    unfold tri
    exact fun z => nomatch z
theorem depth_tris (p : Int) (l : List Cnt) (i : Nat) : PyData.depthAll (tris p l i) ≤ 32 := depth_all fun d hd => by
  obtain ⟨j, x, rfl⟩ := tris_mem hd
  simp [tri, PyData.depth, PyData.depthAll]
/-! ### other = prices[:place] + (price,) + prices[place + 1:] -/
theorem cut_take (xs : List PyData) (k : Nat) : cutD xs none (some (k : Int)) = xs.take k := by
  unfold cutD
  rw [HT.sIx_none, HT.sIx_nat, List.drop_zero, Nat.sub_zero, List.take_eq_take_iff]
  omega
theorem cut_drop (xs : List PyData) (k : Nat) : cutD xs (some (k : Int)) none = xs.drop k := by
  unfold cutD
  rw [HT.sIx_none, HT.sIx_nat]
  by_cases h : k ≤ xs.length
  · rw [Nat.min_eq_left h, List.take_of_length_le (by rw [List.length_drop]; omega)]
  · rw [Nat.min_eq_right (by omega), List.drop_length, List.drop_of_length_le (by omega), List.take_nil]
theorem other_eq {ps : List Int} {k : Nat} (p : Int) (h : k < ps.length) : (((ps.map PyData.int).take k ++ [PyData.int p]) ++ (ps.map PyData.int).drop (k + 1)) = (ps.set k p).map PyData.int := by
  rw [← List.map_take, ← List.map_drop, List.set_eq_take_append_cons_drop, if_pos h]
  simp
/-- the sane inputs -/
structure Sane (cs : List (List Int)) (ps : List Int) (k : Nat) : Prop where
  ne : cs ≠ []
  len : cs.length ≤ 50
  plen : ps.length ≤ 50
  k : k < ps.length
  each : ∀ c ∈ cs, c.length = ps.length ∧ Big c
def tti (cs : List (List Int)) : PyData := .tuple (cs.map ti)
section
variable {C : Cfg} {M : List Addr} {δ : List Ent} {μ μ' : Mem} {ta tb tc : TE}
/-- the prices with one put in -/
theorem x_other {ps : List Int} {k : Nat} {p : Int} (hk : k < ps.length) (hl : ps.length ≤ 50) (hp : EvX C ta M δ μ μ (.d (ti ps))) (hi : EvX C tb M δ μ μ (.d (.int (k : Int)))) (hc : EvX C tc M δ μ μ (.d (.int p))) :
    EvX C (tOp (rCatA C.K) (tOp (rCatA C.K) (tSl (rSlA C.K) ta tNoPart (tPart tb)) (tTup (tCons tc tNil))) (tSl (rSlA C.K) ta (tPart (tOp (rI0 fun i j => .int (i + j)) tb (tC (.int 1)))) tNoPart)) M δ μ μ (.d (ti (ps.set k p))) := by
  refine x_is (x_op (x_op (x_slT hp p_none (p_some hi)) (x_tup (ds := [.int p]) (a_cons hc a_nil) (by simp)) (o_catT ?_)) (x_slT hp (p_some (x_op hi x_int o_I0)) p_none) (o_catT ?_)) ?_
  · rw [cut_take]; simp; omega
  · rw [cut_take, show ((k : Int) + 1) = ((k + 1 : Nat) : Int) by omega, cut_drop]
    simp; omega
  · rw [cut_take, show ((k : Int) + 1) = ((k + 1 : Nat) : Int) by omega, cut_drop, other_eq p hk]
    rfl
end
section
variable {P : Program} {w : World} {K : PySem.W.Frag} {mg : Str → Option Value} {base : Heap}
/-! ### choice_at -/
def Rca (ds : List PyData) (d : PyData) : Prop := ∃ (cs : List (List Int)) (ps : List Int) (k : Nat) (p : Int), ds = [tti cs, ti ps, .int (k : Int), .int p] ∧ Sane cs ps k ∧ d = .int ((ch (prs cs ps k) p : Nat) : Int)
abbrev nCa : List Str := ["counts", "prices", "place", "price", "other", "ranked", "at", "count"]
theorem scCa : FnScope nCa ["counts", "prices", "place", "price"] (defScope sCa) := ⟨rfl, rfl, rfl, by decide +kernel, rfl, by decide +kernel, by decide +kernel⟩
theorem sane_get {cs : List (List Int)} {ps : List Int} {k i : Nat} {c : List Int} (S : Sane cs ps k) (h : cs[i]? = some c) : c.length ≤ 100 ∧ Big c ∧ c[k]? = some (c.getD k 0) := by
  obtain ⟨h1, h2⟩ := S.each c (List.mem_of_getElem? h)
  have h3 := S.plen
  have h4 := S.k
  refine ⟨by omega, h2, ?_⟩
  rw [List.getD_eq_getElem?_getD, List.getElem?_eq_getElem (by omega), Option.getD_some]
theorem ok_ca {f : Addr} {fd : FuncData} (T : Txt mg) (F : Fun K "choice_at" "choice_at" sCa f fd) {f1 : Addr} {fd1 : FuncData} (H1 : Has K mg "count_price" sCp ["count", "prices"] f1 fd1) : FnOk P w K mg base CX0 2 f fd ["counts", "prices", "place", "price"] (spR K 4 Rca) := by
  have G1 : FnOk P w K mg base CX0 1 f1 fd1 ["count", "prices"] (spR K 2 Rcp) := ok_cp T H1.F
  refine def_R F scCa (by decide) fun cdv A outer s H E hr => ?_
  have nd := scCa.nd
  refine ⟨_, (pss_cons (ps_set (i := 4) nd rfl (Or.inr rfl) (pe_op op_catA (pe_op op_catA (pe_slice sl_tupA (pv 1) po_none (po_some (pv 2))) (pe_tup (pa_cons (pv 3) pa_nil))) (pe_slice sl_tupA (pv 1) (po_some (pe_op op_add (pv 2) pe_int)) po_none)))
 (pss_cons (ps_setLc (i := 5) (own := [("at", 6), ("count", 7)]) (g := (gTup K 2 (gCons (gName 6) (gCons (gName 7) gNil)))) (tt := tYes) rfl nd rfl rfl (sw_true rfl rfl rfl (by decide +kernel)) (pi_enumT (by rfl) T.enumerate (pa_cons (pv 0) pa_nil)) (blkOk_by (N := nCa) (sc := defScope sCa) (by decide +kernel)) (fun _ _ _ _ _ => (pg_tup rfl (pgs_cons (pg_name (i := 6) nd rfl (Or.inl rfl)) (pgs_cons (pg_name (i := 7) nd rfl (Or.inl rfl)) pgs_nil)))) (fun _ _ _ _ _ => pts_nil) (fun _ _ _ _ _ => (pe_tup (pa_cons (pe_call G1 hr rfl H1.m H1.F.kp H1.b .nil pass0 (pa_cons (pv 7) (pa_cons (pv 4) pa_nil))) (pa_cons (pe_ix (kix_tup (K := K) rfl) (pv 7) (pv 2) (fun _ _ => rfl)) (pa_cons (pv 6) pa_nil))))))
 (pss_one (ps_ret (pe_ix ix_tup (pe_callB (cr_minD rfl hr.units) (by rfl) T.min (by decide +kernel) (pa_cons (pv 5) pa_nil)) pe_int (fun _ _ => rfl)))))), ?_⟩
  rintro M G B ds d _ ⟨cs, ps, k, p, rfl, S, rfl⟩ D fin
  show Run _ _ D M [.d (tti cs), .d (ti ps), .d (.int (k : Int)), .d (.int p), .u, .u, .u, .u] []
  refine q_asg (x_other S.k S.plen (x_vd rfl) (x_vd rfl) (x_vd rfl)) ?_
  refine q_asg (x_is (x_lcP (ts := [6, 7]) (fun i => tri p i ((prs cs ps k).getD i (0, 0))) (i_enumT (a_cons (x_vd rfl) a_nil)) ?_
    (fun i => [.d (tti cs), .d (ti ps), .d (.int (k : Int)), .d (.int p), .d (ti (ps.set k p)), .u, .d (.int (i : Int)), .d (ti (cs.getD i []))]) (fun i d hd => ?_) (fun k hk => hk) (fun i d hd G B D => ?_)) (e1 := .d (.list (tris p (prs cs ps k) 0))) ?_) ?_
  · rw [enumD_length, List.length_map]; have := S.len; omega
  · have hi := (List.getElem?_eq_some_iff.mp hd).1
    rw [enumD_length, List.length_map] at hi
    have e : d = .tuple [.int (i : Int), ti (cs.getD i [])] := by
      rw [enumD_get (x := ti (cs.getD i [])) (by simp [hi])] at hd
      exact (Option.some.inj hd).symm
    subst e
    exact tg_tup2
  · have hi := (List.getElem?_eq_some_iff.mp hd).1
    rw [enumD_length, List.length_map] at hi
    have hc : cs[i]? = some (cs.getD i []) := by simp [hi]
    obtain ⟨s1, s2, s3⟩ := sane_get S hc
    refine x_is (x_tup (ds := [.int (dot (cs.getD i []) (ps.set k p)), .int ((cs.getD i []).getD k 0), .int (i : Int)]) (a_cons (x_callR (ds := [ti (cs.getD i []), ti (ps.set k p)]) (a_cons (x_vd rfl) (a_cons (x_vd rfl) a_nil)) ⟨_, _, rfl, s1, s2, rfl⟩) (a_cons (x_op (x_vd rfl) (x_vd rfl) (o_ixT (atI_nat (ti_get s3)))) (a_cons (x_vd rfl) a_nil))) (by simp)) ?_
    rw [List.getD_eq_getElem?_getD (l := prs cs ps k), prs_get hc, Option.getD_some]
    unfold tri
    rw [prs_cost S.k]
  · rw [enumD_length, List.length_map]
    congr 2
    refine List.ext_getElem? fun i => ?_
    rw [tris_get, List.getElem?_map]
    by_cases hi : i < cs.length
    · simp [hi, prs_len]
    · rw [List.getElem?_eq_none (by simp; omega), List.getElem?_eq_none (by rw [prs_len]; omega)]; rfl
  · obtain ⟨x, r, hx⟩ : ∃ x r, prs cs ps k = x :: r := by
      cases e : prs cs ps k with
      | nil => exact absurd (by have := prs_len cs ps k; rw [e] at this; exact List.eq_nil_of_length_eq_zero this.symm) S.ne
      | cons x r => exact ⟨x, r, rfl⟩
    rw [hx] at fin ⊢
    show Run _ _ D M [.d (tti cs), .d (ti ps), .d (.int (k : Int)), .d (.int p), .d (ti (ps.set k p)), .d (.list (tri p 0 x :: tris p r 1)), .u, .u] []
    refine r_retD (x_op (x_cb (μ2 := []) (a_cons (x_vd rfl) a_nil) (c_minD (.d _) (alike_tris p (x :: r) 0) (depth_tris p (x :: r) 0))) x_int (by rw [min_tris]; exact o_ixT rfl)) fin
end
end K45
namespace K45
open PySem L2 FD
theorem nexts_snoc (l : List Cnt) (x y : Cnt) : nexts (l ++ [y]) x = nexts l x ++ (if 0 < x.2 - y.2 then [up x y] else []) := by
  unfold nexts
  rw [List.filter_append, List.map_append]
  congr 1
  by_cases h : 0 < x.2 - y.2
  · rw [if_pos h, List.filter_cons, if_pos (decide_eq_true h)]; rfl
  · rw [if_neg h, List.filter_cons, if_neg (by simp; omega)]; rfl
theorem nexts_len (l : List Cnt) (x : Cnt) : (nexts l x).length ≤ l.length := by
  unfold nexts
  rw [List.length_map]
  exact List.length_filter_le _ _
theorem take_snoc {α : Type} {l : List α} {i : Nat} {x : α} (h : l[i]? = some x) : l.take (i + 1) = l.take i ++ [x] := by
  rw [List.take_add_one, h]; rfl
section
variable {P : Program} {w : World} {K : PySem.W.Frag} {mg : Str → Option Value} {base : Heap}
def Rnp (ds : List PyData) (d : PyData) : Prop := ∃ (cs : List (List Int)) (ps : List Int) (k best : Nat) (x : Cnt), ds = [tti cs, ti ps, .int (k : Int), .int (best : Int)] ∧ Sane cs ps k ∧ (prs cs ps k)[best]? = some x ∧
  ((nexts (prs cs ps k) x = [] ∧ d = .none) ∨ ∃ m, m ∈ nexts (prs cs ps k) x ∧ (∀ y ∈ nexts (prs cs ps k) x, m ≤ y) ∧ d = .int m)
abbrev nNp : List Str := ["counts", "prices", "place", "best", "free", "found", "count", "fewer", "more"]
theorem scNp : FnScope nNp ["counts", "prices", "place", "best"] (defScope sNp) := ⟨rfl, rfl, rfl, by decide +kernel, rfl, by decide +kernel, by decide +kernel⟩
theorem ok_np {f : Addr} {fd : FuncData} (T : Txt mg) (F : Fun K "next_price" "next_price" sNp f fd) {f1 : Addr} {fd1 : FuncData} (H1 : Has K mg "count_price" sCp ["count", "prices"] f1 fd1) : FnOk P w K mg base CX0 2 f fd ["counts", "prices", "place", "best"] (spR K 4 Rnp) := by
  have G1 : FnOk P w K mg base CX0 1 f1 fd1 ["count", "prices"] (spR K 2 Rcp) := ok_cp T H1.F
  refine def_R F scNp (by decide) fun cdv A outer s H E hr => ?_
  have nd := scNp.nd
  refine ⟨_, (pss_cons (ps_set (i := 4) nd rfl (Or.inl rfl) (pe_op op_catA (pe_op op_catA (pe_slice sl_tupA (pv 1) po_none (po_some (pv 2))) (pe_tup (pa_cons pe_int pa_nil))) (pe_slice sl_tupA (pv 1) (po_some (pe_op op_add (pv 2) pe_int)) po_none)))
 (pss_cons (ps_set (i := 5) nd rfl (Or.inl rfl) (pe_lst pa_nil))
 (pss_cons (ps_for PassesOwn.never rfl (pi_tup (pv 0)) (pg_name (i := 6) nd rfl (Or.inl rfl)) (pss_cons (ps_set (i := 7) nd rfl (Or.inl rfl) (pe_op op_sub (pe_ix ix_tup (pe_ix ix_tup (pv 0) (pv 3) (fun _ _ => rfl)) (pv 2) (fun _ _ => rfl)) (pe_ix ix_tup (pv 6) (pv 2) (fun _ _ => rfl))))
 (pss_one (ps_if (pt_cmpR op_gt (pv 7) pe_int (nomark _)) (pss_cons (ps_set (i := 8) nd rfl (Or.inl rfl) (pe_op op_sub (pe_call G1 hr rfl H1.m H1.F.kp H1.b .nil pass0 (pa_cons (pv 6) (pa_cons (pv 4) pa_nil))) (pe_call G1 hr rfl H1.m H1.F.kp H1.b .nil pass0 (pa_cons (pe_ix ix_tup (pv 0) (pv 3) (fun _ _ => rfl)) (pa_cons (pv 4) pa_nil)))))
 (pss_one (ps_expr (pe_bm PySem.F.plainAttrs_list PySem.F.slot_list_append PySem.F.type_list_append mt_append (pv 5) (pa_cons (pe_op op_fdivW (pe_op op_sub (pe_op op_add (pv 8) (pv 7)) pe_int) (pv 7)) pa_nil))))) pss_nil))))
 (pss_one (ps_ret (pe_ifExp (pt_cmpR (op_neD hr.units) (pv 5) (pe_lst pa_nil) (nomark _)) (pe_callB (cr_min rfl) (by rfl) T.min (by decide +kernel) (pa_cons (pv 5) pa_nil)) pe_non)))))), ?_⟩
  rintro M G B ds d _ ⟨cs, ps, k, best, x, rfl, S, hx, hd⟩ D fin
  obtain ⟨cb, hcb, ex⟩ : ∃ cb, cs[best]? = some cb ∧ x = (dot cb (ps.set k 0), cb.getD k 0) := by
    unfold prs at hx
    rw [List.getElem?_map] at hx
    cases e : cs[best]? with
    | none => rw [e] at hx; cases hx
    | some cb => rw [e] at hx; exact ⟨cb, rfl, (Option.some.inj hx).symm⟩
  obtain ⟨b1, b2, b3⟩ := sane_get S hcb
  have hcbT : (cs.map ti)[best]? = some (ti cb) := by rw [List.getElem?_map, hcb]; rfl
  show Run _ _ D M [.d (tti cs), .d (ti ps), .d (.int (k : Int)), .d (.int (best : Int)), .u, .u, .u, .u, .u] []
  refine q_asg (x_other (p := 0) S.k S.plen (x_vd rfl) (x_vd rfl) x_int) ?_
  refine q_new (ds := []) a_nil (by simp) fun p hp => ?_
  refine q_for (i_tup (x_vd rfl)) (fun i δ μ => (∃ e6 e7 e8, δ = [.d (tti cs), .d (ti ps), .d (.int (k : Int)), .d (.int (best : Int)), .d (ti (ps.set k 0)), .m p, e6, e7, e8]) ∧ μ = [(p, .lst ((nexts ((prs cs ps k).take i) x).map .int))]) ⟨⟨_, _, _, rfl⟩, rfl⟩ ?_ ?_
  · rintro B' hB i d δ1 μ1 hi ⟨⟨e6, e7, e8, rfl⟩, rfl⟩
    obtain ⟨c, hc, rfl⟩ : ∃ c, cs[i]? = some c ∧ d = ti c := by
      rw [List.getElem?_map] at hi
      cases e : cs[i]? with
      | none => rw [e] at hi; cases hi
      | some c => rw [e] at hi; exact ⟨c, rfl, (Option.some.inj hi).symm⟩
    obtain ⟨c1, c2, c3⟩ := sane_get S hc
    have hy := prs_get (ps := ps) (k := k) hc
    have eN : nexts ((prs cs ps k).take (i + 1)) x = nexts ((prs cs ps k).take i) x ++ (if 0 < cb.getD k 0 - c.getD k 0 then [up x (dot c (ps.set k 0), c.getD k 0)] else []) := by
      rw [take_snoc hy, nexts_snoc, ex]
    refine ⟨[6], _, tg_name, ?_⟩
    show Run _ _ _ _ [.d (tti cs), .d (ti ps), .d (.int (k : Int)), .d (.int (best : Int)), .d (ti (ps.set k 0)), .m p, .d (ti c), e7, e8] _
    refine q_asg (x_op (x_op (x_op (x_vd rfl) (x_vd rfl) (o_ixT (atI_nat hcbT))) (x_vd rfl) (o_ixT (atI_nat (ti_get b3)))) (x_op (x_vd rfl) (x_vd rfl) (o_ixT (atI_nat (ti_get c3)))) o_I0) ?_
    show Run _ _ _ _ [.d (tti cs), .d (ti ps), .d (.int (k : Int)), .d (.int (best : Int)), .d (ti (ps.set k 0)), .m p, .d (ti c), .d (.int (cb.getD k 0 - c.getD k 0)), e8] _
    refine r_if (t_test (x_op (x_vd rfl) x_int o_B0)) (fun ht => ?_) fun ht => ?_
    · have hpos : 0 < cb.getD k 0 - c.getD k 0 := of_decide_eq_true ht
      have g1 : -(2 ^ 64) < cb.getD k 0 ∧ cb.getD k 0 < 2 ^ 64 := b2 _ (List.mem_of_getElem? b3)
      have g2 : -(2 ^ 64) < c.getD k 0 ∧ c.getD k 0 < 2 ^ 64 := c2 _ (List.mem_of_getElem? c3)
      refine q_asg (x_op (x_callR (ds := [ti c, ti (ps.set k 0)]) (a_cons (x_vd rfl) (a_cons (x_vd rfl) a_nil)) ⟨_, _, rfl, c1, c2, rfl⟩) (x_callR (ds := [ti cb, ti (ps.set k 0)]) (a_cons (x_op (x_vd rfl) (x_vd rfl) (o_ixT (atI_nat hcbT))) (a_cons (x_vd rfl) a_nil)) ⟨_, _, rfl, b1, b2, rfl⟩) o_I0) ?_
      show Run _ _ _ _ [.d (tti cs), .d (ti ps), .d (.int (k : Int)), .d (.int (best : Int)), .d (ti (ps.set k 0)), .m p, .d (ti c), .d (.int (cb.getD k 0 - c.getD k 0)), .d (.int (dot c (ps.set k 0) - dot cb (ps.set k 0)))] _
      refine r_app (j := 0) (x_vm rfl) (x_op (x_op (x_op (x_vd rfl) (x_vd rfl) o_I0) x_int o_I0) (x_vd rfl) (o_I (wide_div hpos (b := 66) (by omega) (by decide) (by decide)))) rfl rfl ?_ fun σ H o => ⟨_, _, ⟨⟨_, _, _, rfl⟩, ?_⟩, o⟩
      · rw [List.length_map]
        have := nexts_len ((prs cs ps k).take i) x
        rw [List.length_take, prs_len] at this
        have := S.len
        omega
      · rw [eN, if_pos hpos, ex]
        simp [up]
    · have hneg : ¬ 0 < cb.getD k 0 - c.getD k 0 := of_decide_eq_false ht
      refine r_next fun σ H o => ⟨_, _, ⟨⟨_, _, _, rfl⟩, ?_⟩, o⟩
      rw [eN, if_neg hneg, List.append_nil]
  · rintro δ1 μ1 ⟨⟨e6, e7, e8, rfl⟩, rfl⟩
    have eT : (prs cs ps k).take (cs.map ti).length = prs cs ps k := List.take_of_length_le (by rw [List.length_map, prs_len]; exact Nat.le_refl _)
    rw [eT]
    refine r_retP (x_ifP (t_test (x_op (x_vm rfl) (x_lst (ds := []) a_nil (by simp)) (o_neD (.m (j := 0) rfl) (.d _) ((shp_ints 0 _).shaped (by decide)) ((shp_nil 0).shaped (by decide))))) (fun hb => ?_) fun hb => ?_) fin
    · rcases hd with ⟨hn, rfl⟩ | ⟨m, hm, hl, rfl⟩
      · rw [hn] at hb
        simp [PyData.eqv, PyData.eqvAll] at hb
      · exact x_cbP (a_cons (x_vm rfl) a_nil) (c_minI (.m (j := 0) rfl) hm hl)
    · rcases hd with ⟨hn, rfl⟩ | ⟨m, hm, hl, rfl⟩
      · exact x_non
      · cases e : nexts (prs cs ps k) x with
        | nil => rw [e] at hm; cases hm
        | cons a l =>
          rw [e] at hb
          simp [PyData.eqv, PyData.eqvAll] at hb
end
end K45
namespace K45
open PySem L2 FD
theorem exists_min : ∀ l : List Int, l ≠ [] → ∃ m, m ∈ l ∧ ∀ y ∈ l, m ≤ y
  | [], h => absurd rfl h
  | [a], _ => ⟨a, List.mem_cons_self, fun y hy => by
    have : y = a := by simpa using hy
    omega⟩
  | a :: b :: r, _ => by
    obtain ⟨m, h1, h2⟩ := exists_min (b :: r) (by simp)
    by_cases h : a ≤ m
    · exact ⟨a, List.mem_cons_self, fun y hy => by
        rcases List.mem_cons.mp hy with e | hy
        · omega
        · have := h2 y hy; omega⟩
    · exact ⟨m, List.mem_cons_of_mem _ h1, fun y hy => by
        rcases List.mem_cons.mp hy with e | hy
        · omega
        · exact h2 y hy⟩
def PrD (cs : List Cnt) (x : Cnt) (d : PyData) : Prop := (nexts cs x = [] ∧ d = .none) ∨ ∃ m, m ∈ nexts cs x ∧ (∀ y ∈ nexts cs x, m ≤ y) ∧ d = .int m
theorem prD_ex (cs : List Cnt) (x : Cnt) : ∃ d, PrD cs x d := by
  by_cases h : nexts cs x = []
  · exact ⟨.none, .inl ⟨h, rfl⟩⟩
  · obtain ⟨m, h1, h2⟩ := exists_min _ h
    exact ⟨.int m, .inr ⟨m, h1, h2, rfl⟩⟩
theorem filter_lt {α : Type} {p q : α → Bool} (hpq : ∀ z, p z = true → q z = true) : ∀ {l : List α} {y : α}, y ∈ l → q y = true → p y = false → (l.filter p).length < (l.filter q).length
  | z :: l, y, hy, h1, h2 => by
    have hle : ∀ l : List α, (l.filter p).length ≤ (l.filter q).length := fun l => by
      induction l with
      | nil => exact Nat.le_refl _
      | cons a l ih =>
        rw [List.filter_cons, List.filter_cons]
        cases hp : p a with
        | true => rw [hpq a hp]; simp; exact ih
        | false =>
          cases hq : q a with
          | true => simp; omega
          | false => simpa using ih
    rw [List.filter_cons, List.filter_cons]
    rcases List.mem_cons.mp hy with e | hy
    · subst e
      rw [h1, h2]
      have := hle l
      simp; omega
    · have ih := filter_lt hpq hy h1 h2
      cases hp : p z with
      | true => rw [hpq z hp]; simp; exact ih
      | false =>
        cases hq : q z with
        | true => simp; omega
        | false => simpa using ih
/-- how many counts have fewer of the deed -/
def fewer (cs : List Cnt) (x : Cnt) : Nat := (cs.filter fun y => decide (y.2 < x.2)).length
theorem fewer_lt {cs : List Cnt} {x y : Cnt} (hy : y ∈ cs) (h : y.2 < x.2) : fewer cs y < fewer cs x :=
  filter_lt (fun z hz => by have := of_decide_eq_true hz; exact decide_eq_true (by omega)) hy (decide_eq_true h) (decide_eq_false (by omega))
theorem fewer_le (cs : List Cnt) (x : Cnt) : fewer cs x ≤ cs.length := List.length_filter_le _ _
def st (s : Int × Nat) : PyData := .tuple [.int s.1, .int (s.2 : Int)]
section
variable {P : Program} {w : World} {K : PySem.W.Frag} {mg : Str → Option Value} {base : Heap}
def PrePs (ds : List PyData) : Prop := ∃ (cs : List (List Int)) (ps : List Int) (k : Nat), ds = [tti cs, ti ps, .int (k : Int)] ∧ Sane cs ps k
def PostPs (ds : List PyData) (d : PyData) : Prop := ∀ (cs : List (List Int)) (ps : List Int) (k : Nat), ds = [tti cs, ti ps, .int (k : Int)] → ∃ l, Whole (prs cs ps k) l ∧ l.length ≤ 200 ∧ d = .tuple (l.map st)
theorem ti_inj {a b : List Int} (h : ti a = ti b) : a = b := by
  unfold ti at h
  have h := PyData.tuple.inj h
  exact (List.map_inj_right (fun x y => PyData.int.inj)).mp h
theorem tti_inj {a b : List (List Int)} (h : tti a = tti b) : a = b := by
  unfold tti at h
  have h := PyData.tuple.inj h
  exact (List.map_inj_right (fun x y => ti_inj)).mp h
abbrev nPs : List Str := ["counts", "prices", "place", "best", "steps", "price"]
theorem scPs : FnScope nPs ["counts", "prices", "place"] (defScope sPs) := ⟨rfl, rfl, rfl, by decide +kernel, rfl, by decide +kernel, by decide +kernel⟩
theorem ok_ps {f : Addr} {fd : FuncData} (T : Txt mg) (F : Fun K "price_steps" "price_steps" sPs f fd) {f1 f2 f3 : Addr} {fd1 fd2 fd3 : FuncData} (H1 : Has K mg "count_price" sCp ["count", "prices"] f1 fd1)
    (H2 : Has K mg "choice_at" sCa ["counts", "prices", "place", "price"] f2 fd2) (H3 : Has K mg "next_price" sNp ["counts", "prices", "place", "best"] f3 fd3) : FnOk P w K mg base CX0 3 f fd ["counts", "prices", "place"] (spP K 3 PrePs PostPs) := by
  have G2 : FnOk P w K mg base CX0 2 f2 fd2 ["counts", "prices", "place", "price"] (spR K 4 Rca) := ok_ca T H2.F H1
  have G3 : FnOk P w K mg base CX0 2 f3 fd3 ["counts", "prices", "place", "best"] (spR K 4 Rnp) := ok_np T H3.F H1
  refine def_P F scPs (by decide) fun cdv A outer s H E hr => ?_
  have nd := scPs.nd
  refine ⟨_, (pss_cons (ps_set (i := 3) nd rfl (Or.inl rfl) (pe_call G2 hr rfl H2.m H2.F.kp H2.b .nil pass0 (pa_cons (pv 0) (pa_cons (pv 1) (pa_cons (pv 2) (pa_cons pe_int pa_nil))))))
 (pss_cons (ps_set (i := 4) nd rfl (Or.inl rfl) (pe_lst (pa_cons (pe_tup (pa_cons pe_int (pa_cons (pv 3) pa_nil))) pa_nil)))
 (pss_cons (ps_set (i := 5) nd rfl (Or.inl rfl) (pe_call G3 hr rfl H3.m H3.F.kp H3.b .nil pass0 (pa_cons (pv 0) (pa_cons (pv 1) (pa_cons (pv 2) (pa_cons (pv 3) pa_nil))))))
 (pss_cons (ps_while PassesOwn.never (pt_cmpR op_notN (pv 5) pe_non (nomark _)) (pss_cons (ps_set (i := 3) nd rfl (Or.inl rfl) (pe_call G2 hr rfl H2.m H2.F.kp H2.b .nil pass0 (pa_cons (pv 0) (pa_cons (pv 1) (pa_cons (pv 2) (pa_cons (pv 5) pa_nil))))))
 (pss_cons (ps_expr (pe_bm PySem.F.plainAttrs_list PySem.F.slot_list_append PySem.F.type_list_append mt_append (pv 4) (pa_cons (pe_tup (pa_cons (pv 5) (pa_cons (pv 3) pa_nil))) pa_nil)))
 (pss_one (ps_set (i := 5) nd rfl (Or.inl rfl) (pe_call G3 hr rfl H3.m H3.F.kp H3.b .nil pass0 (pa_cons (pv 0) (pa_cons (pv 1) (pa_cons (pv 2) (pa_cons (pv 3) pa_nil))))))))))
 (pss_one (ps_ret (pe_callTy call_tuple_of (by rfl) T.tuple (by decide +kernel) (pa_cons (pv 4) pa_nil)))))))), ?_⟩
  rintro M G B ds _ ⟨cs, ps, k, rfl, S⟩ D fin
  have hne : prs cs ps k ≠ [] := fun z => S.ne (List.eq_nil_of_length_eq_zero (by rw [← prs_len cs ps k, z]; rfl))
  have hcl : (prs cs ps k).length ≤ 50 := by rw [prs_len]; exact S.len
  show Run _ _ D M [.d (tti cs), .d (ti ps), .d (.int (k : Int)), .u, .u, .u] []
  refine q_asg (x_callR (ds := [tti cs, ti ps, .int (k : Int), .int 0]) (a_cons (x_vd rfl) (a_cons (x_vd rfl) (a_cons (x_vd rfl) (a_cons x_int a_nil)))) ⟨cs, ps, k, 0, rfl, S, rfl⟩) ?_
  refine q_new (ds := [st (0, ch (prs cs ps k) 0)]) (a_cons (x_tup (ds := [.int 0, .int ((ch (prs cs ps k) 0 : Nat) : Int)]) (a_cons x_int (a_cons (x_vd rfl) a_nil)) (by simp)) a_nil) (by simp) fun a ha => ?_
  obtain ⟨x0, h0⟩ := ch_is (cs := prs cs ps k) 0 hne
  obtain ⟨d0, hd0⟩ := prD_ex (prs cs ps k) x0
  refine q_asg (x_callR (ds := [tti cs, ti ps, .int (k : Int), .int ((ch (prs cs ps k) 0 : Nat) : Int)]) (a_cons (x_vd rfl) (a_cons (x_vd rfl) (a_cons (x_vd rfl) (a_cons (x_vd rfl) a_nil)))) ⟨cs, ps, k, _, x0, rfl, S, h0.1, hd0⟩) ?_
  refine q_while (fun m δ μ => ∃ l p c x pr, δ = [.d (tti cs), .d (ti ps), .d (.int (k : Int)), .d (.int ((c : Nat) : Int)), .m a, .d pr] ∧ μ = [(a, .lst ((l ++ [(p, c)]).map st))] ∧ Told (prs cs ps k) (l ++ [(p, c)]) ∧ (prs cs ps k)[c]? = some x ∧ PrD (prs cs ps k) x pr ∧ m = fewer (prs cs ps k) x ∧ l.length + m ≤ 60)
    (fewer (prs cs ps k) x0) ⟨[], 0, _, x0, d0, rfl, rfl, told_start hne, h0.1, hd0, rfl, by have := fewer_le (prs cs ps k) x0; simp; omega⟩ ?_
  rintro m δ1 μ1 ⟨l, p, c, x, pr, rfl, rfl, hT, hx, hpr, rfl, hlen⟩
  refine ⟨_, _, t_test (x_op (x_vd rfl) x_non o_notN), fun hb => ?_, fun hb => ?_⟩
  · rcases hpr with ⟨_, rfl⟩ | ⟨q, hq1, hq2, rfl⟩
    · simp [isNon] at hb
    obtain ⟨hT2, hown⟩ := told_step hT hx hq1 hq2
    obtain ⟨y, hy⟩ := ch_is (cs := prs cs ps k) q hne
    obtain ⟨d1, hd1⟩ := prD_ex (prs cs ps k) y
    refine q_asg (x_callR (ds := [tti cs, ti ps, .int (k : Int), .int q]) (a_cons (x_vd rfl) (a_cons (x_vd rfl) (a_cons (x_vd rfl) (a_cons (x_vd rfl) a_nil)))) ⟨cs, ps, k, q, rfl, S, rfl⟩) ?_
    refine q_app (j := 0) (d := st (q, ch (prs cs ps k) q)) (x_vm rfl) (x_tup (ds := [.int q, .int ((ch (prs cs ps k) q : Nat) : Int)]) (a_cons (x_vd rfl) (a_cons (x_vd rfl) a_nil)) (by simp)) rfl rfl ?_ ?_
    · rw [List.length_map, List.length_append, List.length_singleton]; omega
    refine r_asg (x_callR (ds := [tti cs, ti ps, .int (k : Int), .int ((ch (prs cs ps k) q : Nat) : Int)]) (a_cons (x_vd rfl) (a_cons (x_vd rfl) (a_cons (x_vd rfl) (a_cons (x_vd rfl) a_nil)))) ⟨cs, ps, k, _, y, rfl, S, hy.1, hd1⟩) fun σ H o => ?_
    have hlt : fewer (prs cs ps k) y < fewer (prs cs ps k) x := fewer_lt (List.mem_of_getElem? hy.1) (hown y hy.1)
    exact ⟨_, _, ⟨fewer (prs cs ps k) y, hlt, l ++ [(p, c)], q, ch (prs cs ps k) q, y, d1, rfl, by rw [List.map_append (l₂ := [(q, ch (prs cs ps k) q)])]; rfl, hT2, hy.1, hd1, rfl, by rw [List.length_append, List.length_singleton]; omega⟩, o⟩
  · rcases hpr with ⟨hn, rfl⟩ | ⟨q, hq1, hq2, rfl⟩
    · refine r_retP (x_cbP (a_cons (x_vm rfl) a_nil) (c_tupleL (.m (j := 0) rfl))) (fin _ fun cs' ps' k' he => ?_)
      have e1 : cs = cs' := tti_inj (List.cons.inj he).1
      have e2 : ps = ps' := ti_inj (List.cons.inj (List.cons.inj he).2).1
      have e3 : (k : Int) = (k' : Int) := PyData.int.inj (List.cons.inj (List.cons.inj (List.cons.inj he).2).2).1
      have e3 : k = k' := by omega
      subst e1 e2 e3
      exact ⟨l ++ [(p, c)], told_end hT hx hn, by rw [List.length_append, List.length_singleton]; omega, rfl⟩
    · simp [isNon] at hb
end
end K45
namespace K45
open PySem L2 FD
/-! ### the law's draws -/
abbrev Box := Int × Int × Int
def Box.ds (b : Box) : List PyData := [.int b.1, .int b.2.1, .int b.2.2]
def rawOf (y z : Int) : Int := ((y + 99991 * z) * 69621 + 53) % 2147483563
def nextOf (r : Int) : Int := (r * 40692 + 27011) % 2147483629 + 1
def tkB (b : Box) (n : Int) : Box := if 0 < b.1 then (b.1 / n, b.2.1, b.2.2) else (b.1, nextOf (rawOf b.2.1 (b.2.2 + 1)), b.2.2 + 1)
def tkV (b : Box) (n : Int) : Int := if 0 < b.1 then b.1 % n else (rawOf b.2.1 (b.2.2 + 1) * 2147483647 + nextOf (rawOf b.2.1 (b.2.2 + 1))) / 8191 % n
theorem tkV_lt {b : Box} {n : Int} (h : 0 < n) : 0 ≤ tkV b n ∧ tkV b n < n := by
  unfold tkV
  split
  · exact ⟨Int.emod_nonneg _ (by omega), Int.emod_lt_of_pos _ h⟩
  · exact ⟨Int.emod_nonneg _ (by omega), Int.emod_lt_of_pos _ h⟩
def Rtk (bs ds : List PyData) (d : PyData) (bs' : List PyData) : Prop := ∃ (b : Box) (n : Int), bs = b.ds ∧ ds = [.int n] ∧ 0 < n ∧ n < 2 ^ 64 ∧ d = .int (tkV b n) ∧ bs' = (tkB b n).ds
section
variable {P : Program} {w : World} {K : PySem.W.Frag} {mg : Str → Option Value} {base : Heap}
abbrev nTk : List Str := ["_law_box_here", "_law_many", "_law_raw", "_law_digit"]
theorem scTk : FnScope nTk ["_law_box_here", "_law_many"] (defScope sTk) := ⟨rfl, rfl, rfl, by decide +kernel, rfl, by decide +kernel, by decide +kernel⟩
theorem ok_tk {f : Addr} {fd : FuncData} (T : Txt mg) (F : Fun K "_law_take" "_law_take" sTk f fd) : FnOk P w K mg base CX0 1 f fd ["_law_box_here", "_law_many"] (spW K 2 Rtk) := by
  refine def_W F scTk (by decide) rfl fun cdv A outer s H E hr => ?_
  have nd := scTk.nd
  refine ⟨_, (pss_cons (ps_if (pt_cmpR op_gt (pe_ix ix_list (pv 0) pe_int (fun _ _ => rfl)) pe_int (nomark _)) (pss_cons (ps_set (i := 3) nd rfl (Or.inl rfl) (pe_op op_mod (pe_callTy call_int1 (by rfl) T.int (by decide +kernel) (pa_cons (pe_ix ix_list (pv 0) pe_int (fun _ _ => rfl)) pa_nil)) (pv 1)))
 (pss_cons (ps_asg (pe_op op_fdivW (pe_ix ix_list (pv 0) pe_int (fun _ _ => rfl)) (pv 1)) (pg_sub (pv 0) pe_int set_list))
 (pss_one (ps_ret (pv 3))))) pss_nil)
 (pss_cons (ps_asg (pe_op op_add (pe_ix ix_list (pv 0) pe_int (fun _ _ => rfl)) pe_int) (pg_sub (pv 0) pe_int set_list))
 (pss_cons (ps_set (i := 2) nd rfl (Or.inl rfl) (pe_op op_mod (pe_callTy call_int1 (by rfl) T.int (by decide +kernel) (pa_cons (pe_op op_add (pe_op op_mul (pe_op op_add (pe_ix ix_list (pv 0) pe_int (fun _ _ => rfl)) (pe_op op_mul pe_int (pe_ix ix_list (pv 0) pe_int (fun _ _ => rfl)))) pe_int) pe_int) pa_nil)) pe_int))
 (pss_cons (ps_asg (pe_op op_add (pe_op op_mod (pe_callTy call_int1 (by rfl) T.int (by decide +kernel) (pa_cons (pe_op op_add (pe_op op_mul (pv 2) pe_int) pe_int) pa_nil)) pe_int) pe_int) (pg_sub (pv 0) pe_int set_list))
 (pss_one (ps_ret (pe_op op_mod (pe_callTy call_int1 (by rfl) T.int (by decide +kernel) (pa_cons (pe_op op_fdivW (pe_op op_add (pe_op op_mul (pv 2) pe_int) (pe_ix ix_list (pv 0) pe_int (fun _ _ => rfl))) pe_int) pa_nil)) (pv 1)))))))), ?_⟩
  rintro M G B b bs ds d bs' _ ⟨⟨x, y, z⟩, n, rfl, rfl, h0, h1, rfl, rfl⟩ D fin
  show Run _ _ D M [.m b, .d (.int n), .u, .u] [(b, .lst [.int x, .int y, .int z])]
  have hR : Rdd [(b, .lst [.int x, .int y, .int z])] (.m b) (.list [.int x, .int y, .int z]) := .m (j := 0) rfl
  refine q_when (t_test (x_op (x_op (x_vm rfl) x_int (o_ixL hR rfl)) x_int o_B0)) (fun hb => ?_) fun hb => ?_
  · have hx : 0 < x := of_decide_eq_true hb
    refine q_asg (x_op (x_cbP (a_cons (x_op (x_vm rfl) x_int (o_ixL hR rfl)) a_nil) c_intI) (x_vd rfl) (o_I h0)) ?_
    refine q_setL (j := 0) (n := 0) (x_op (x_op (x_vm rfl) x_int (o_ixL hR rfl)) (x_vd rfl) (o_I (wide_div h0 (b := 64) (by omega) (by decide) (by decide)))) (x_vm rfl) x_int rfl rfl ?_
    refine r_retW (j := 0) (x_vd rfl) rfl fun v M' H' e s m r => fin v M' H' e s ?_ ?_
    · have e1 : (tkB (x, y, z) n).ds = [.int (x / n), .int y, .int z] := by unfold tkB; rw [if_pos hx]; rfl
      rw [e1]; exact m
    · have e1 : tkV (x, y, z) n = x % n := by unfold tkV; rw [if_pos hx]
      rw [e1]; exact r
  · have hx : ¬ 0 < x := of_decide_eq_false hb
    refine q_setL (j := 0) (n := 2) (x_op (x_op (x_vm rfl) x_int (o_ixL hR rfl)) x_int o_I0) (x_vm rfl) x_int rfl rfl ?_
    have hR2 : Rdd [(b, .lst [.int x, .int y, .int (z + 1)])] (.m b) (.list [.int x, .int y, .int (z + 1)]) := .m (j := 0) rfl
    show Run _ _ D M [.m b, .d (.int n), .u, .u] [(b, .lst [.int x, .int y, .int (z + 1)])]
    refine q_asg (x_op (x_cbP (a_cons (x_op (x_op (x_op (x_op (x_vm rfl) x_int (o_ixL hR2 rfl)) (x_op x_int (x_op (x_vm rfl) x_int (o_ixL hR2 rfl)) (o_I (.inl ⟨by decide, by decide⟩))) o_I0) x_int (o_I (.inr ⟨by decide, by decide⟩))) x_int o_I0) a_nil) c_intI) x_int (o_I (by decide))) ?_
    show Run _ _ D M [.m b, .d (.int n), .d (.int (rawOf y (z + 1))), .u] [(b, .lst [.int x, .int y, .int (z + 1)])]
    refine q_setL (j := 0) (n := 1) (x_op (x_op (x_cbP (a_cons (x_op (x_op (x_vd rfl) x_int (o_I (.inr ⟨by decide, by decide⟩))) x_int o_I0) a_nil) c_intI) x_int (o_I (by decide))) x_int o_I0) (x_vm rfl) x_int rfl rfl ?_
    have hR3 : Rdd [(b, .lst [.int x, .int (nextOf (rawOf y (z + 1))), .int (z + 1)])] (.m b) (.list [.int x, .int (nextOf (rawOf y (z + 1))), .int (z + 1)]) := .m (j := 0) rfl
    show Run _ _ D M [.m b, .d (.int n), .d (.int (rawOf y (z + 1))), .u] [(b, .lst [.int x, .int (nextOf (rawOf y (z + 1))), .int (z + 1)])]
    refine r_retW (j := 0) (x_op (x_cbP (a_cons (x_op (x_op (x_op (x_vd rfl) x_int (o_I (.inr ⟨by decide, by decide⟩))) (x_op (x_vm rfl) x_int (o_ixL hR3 rfl)) o_I0) x_int (o_I (wide_div (by decide) (b := 64) (by decide) (by decide) (by decide)))) a_nil) c_intI) (x_vd rfl) (o_I h0)) rfl fun v M' H' e s m r => fin v M' H' e s ?_ ?_
    · have e1 : (tkB (x, y, z) n).ds = [.int x, .int (nextOf (rawOf y (z + 1))), .int (z + 1)] := by unfold tkB; rw [if_neg hx]; rfl
      rw [e1]; exact m
    · have e1 : tkV (x, y, z) n = (rawOf y (z + 1) * 2147483647 + nextOf (rawOf y (z + 1))) / 8191 % n := by unfold tkV; rw [if_neg hx]
      rw [e1]; exact r
/-! ### _law_pick -/
def Rpk (bs ds : List PyData) (d : PyData) (bs' : List PyData) : Prop := ∃ (b : Box) (xs : List PyData), bs = b.ds ∧ (ds = [.list xs] ∨ ds = [.tuple xs]) ∧ 0 < xs.length ∧ xs.length < 100000 ∧ xs[(tkV b xs.length).toNat]? = some d ∧ bs' = (tkB b xs.length).ds
abbrev nPk : List Str := ["_law_box_here", "_law_some"]
theorem scPk : FnScope nPk ["_law_box_here", "_law_some"] (defScope sPk) := ⟨rfl, rfl, rfl, by decide +kernel, rfl, by decide +kernel, by decide +kernel⟩
theorem at_nat {α : Type} {xs : List α} {i : Int} {v : α} (h0 : 0 ≤ i) (h : xs[i.toNat]? = some v) : atI xs i = some v := by
  have e : i = (i.toNat : Int) := by omega
  rw [e]; exact atI_nat h
theorem ok_pk {f : Addr} {fd : FuncData} (T : Txt mg) (F : Fun K "_law_pick" "_law_pick" sPk f fd) {f1 : Addr} {fd1 : FuncData} (H1 : Has K mg "_law_take" sTk ["_law_box_here", "_law_many"] f1 fd1) : FnOk P w K mg base CX0 2 f fd ["_law_box_here", "_law_some"] (spW K 2 Rpk) := by
  have G1 : FnOk P w K mg base CX0 1 f1 fd1 ["_law_box_here", "_law_many"] (spW K 2 Rtk) := ok_tk T H1.F
  refine def_W F scPk (by decide) rfl fun cdv A outer s H E hr => ?_
  have nd := scPk.nd
  refine ⟨_, (pss_one (ps_ret (pe_ix ix_seq (pv 1) (pe_call G1 hr rfl H1.m H1.F.kp H1.b .nil pass0 (pa_cons (pv 0) (pa_cons (pe_callB call_len_seq (by rfl) T.len PySem.boot_len (pa_cons (pv 1) pa_nil)) pa_nil))) (fun _ _ => rfl)))), ?_⟩
  rintro M G B b bs ds d bs' _ ⟨bx, xs, rfl, hds, h0, h1, hx, rfl⟩ D fin
  have hv := tkV_lt (b := bx) (n := xs.length) (by omega)
  rcases hds with rfl | rfl
  · show Run _ _ D M [.m b, .d (.list xs)] [(b, .lst bx.ds)]
    refine r_retW (j := 0) (x_op (x_vd rfl) (x_callW 0 (ds := [.int (xs.length : Int)]) (a_cons (x_vm rfl) (a_cons (x_cbP (a_cons (x_vd rfl) a_nil) (c_lenL (.d _))) a_nil)) ⟨bx, _, rfl, rfl, by omega, by omega, rfl, rfl⟩) (o_seqL (.d _) (at_nat hv.1 hx))) rfl fin
  · show Run _ _ D M [.m b, .d (.tuple xs)] [(b, .lst bx.ds)]
    refine r_retW (j := 0) (x_op (x_vd rfl) (x_callW 0 (ds := [.int (xs.length : Int)]) (a_cons (x_vm rfl) (a_cons (x_cbP (a_cons (x_vd rfl) a_nil) c_lenT) a_nil)) ⟨bx, _, rfl, rfl, by omega, by omega, rfl, rfl⟩) (o_seqT (at_nat hv.1 hx))) rfl fin
end
end K45
namespace FD
open PySem L2 Evl
section
variable {C : Cfg} {M : List Addr} {δ δ' : List Ent} {μ μ' μ'' : Mem} {t : TT} {b : Bool} {t1 t2 t3 : TS} {D : Ends}
/-- both ways meet -/
theorem q_ifJ (δ' : List Ent) (μ'' : Mem) (h : EvT C t M δ μ μ' b) (h1 : b = true → ∀ D', Nx C D' M δ' μ'' → Run C t1 D' M δ μ') (h2 : b = false → ∀ D', Nx C D' M δ' μ'' → Run C t2 D' M δ μ') (k : Run C t3 D M δ' μ'') : Run C (tSeq (tIfS t t1 t2) t3) D M δ μ :=
  q_if h (fun hb => h1 hb { D with nx := t3 D } k) (fun hb => h2 hb { D with nx := t3 D } k)
theorem nx_to {δ1 : List Ent} {μ1 : Mem} (k : Nx C D M δ1 μ1) (e1 : δ = δ1) (e2 : μ = μ1) : Nx C D M δ μ := by rw [e1, e2]; exact k
end
end FD
namespace K45
open PySem L2 FD
def absI (i : Int) : Int := if i < 0 then -i else i
def cellOf (ns : List Int) (k : Nat) : Int := if k < ns.length then absI (ns.getD k 0) else if 0 < ns.length then 7919 * (k : Int) + 56003 + absI (ns.getD (k % ns.length) 0) % 2147483629 * 60719 else 7919 * (k : Int) + 56003
def bxOf (ns : List Int) (k : Nat) : Box := (if (10 : Int) ^ (18 : Int).toNat ≤ cellOf ns k then cellOf ns k else 0, (cellOf ns k % 2147483629 * 48271 + 56003 * (k : Int) + 977) % 2147483629 + 1, 0)
section
variable {P : Program} {w : World} {K : PySem.W.Frag} {mg : Str → Option Value} {base : Heap}
def Rbx (ds es : List PyData) : Prop := ∃ (ns : List Int) (k : Nat), ds = [.list (ns.map .int), .int (k : Int)] ∧ k < 64 ∧ es = (bxOf ns k).ds
abbrev nBx : List Str := ["_law_script", "_law_k", "_law_cell"]
theorem scBx : FnScope nBx ["_law_script", "_law_k"] (defScope sBx) := ⟨rfl, rfl, rfl, by decide +kernel, rfl, by decide +kernel, by decide +kernel⟩
theorem getD_get {xs : List Int} {i : Nat} (h : i < xs.length) : xs[i]? = some (xs.getD i 0) := by simp [h]
theorem ok_bx {f : Addr} {fd : FuncData} (T : Txt mg) (F : Fun K "_law_box" "_law_box" sBx f fd) : FnOk P w K mg base CX0 1 f fd ["_law_script", "_law_k"] (spN K 2 Rbx) := by
  refine def_N F scBx (by decide) fun cdv A outer s H E hr => ?_
  have nd := scBx.nd
  refine ⟨_, (pss_cons (ps_set (i := 2) nd rfl (Or.inl rfl) (pe_op op_add (pe_op op_mul pe_int (pv 1)) pe_int))
 (pss_cons (ps_if (pt_cmpR op_lt (pv 1) (pe_callB call_len_seq (by rfl) T.len PySem.boot_len (pa_cons (pv 0) pa_nil)) (nomark _)) (pss_one (ps_set (i := 2) nd rfl (Or.inl rfl) (pe_callB call_abs (by rfl) T.abs (by decide +kernel) (pa_cons (pe_ix ix_list (pv 0) (pv 1) (fun _ _ => rfl)) pa_nil)))) (pss_one (ps_if (pt_cmpR op_gt (pe_callB call_len_seq (by rfl) T.len PySem.boot_len (pa_cons (pv 0) pa_nil)) pe_int (nomark _)) (pss_one (ps_set (i := 2) nd rfl (Or.inl rfl) (pe_op op_add (pv 2) (pe_op op_mul (pe_op op_mod (pe_callTy call_int1 (by rfl) T.int (by decide +kernel) (pa_cons (pe_callB call_abs (by rfl) T.abs (by decide +kernel) (pa_cons (pe_ix ix_list (pv 0) (pe_op op_mod (pe_callTy call_int1 (by rfl) T.int (by decide +kernel) (pa_cons (pv 1) pa_nil)) (pe_callB call_len_seq (by rfl) T.len PySem.boot_len (pa_cons (pv 0) pa_nil))) (fun _ _ => rfl)) pa_nil)) pa_nil)) pe_int) pe_int)))) pss_nil)))
 (pss_one (ps_ret (pe_lst (pa_cons (pe_ix ix_list (pe_lst (pa_cons pe_int (pa_cons (pv 2) pa_nil))) (pe_callTy call_int1 (by rfl) T.int (by decide +kernel) (pa_cons (pe_cmpR op_ge (pv 2) (pe_op op_pow pe_int pe_int) (nomark _)) pa_nil)) (fun _ _ => rfl)) (pa_cons (pe_op op_add (pe_op op_mod (pe_callTy call_int1 (by rfl) T.int (by decide +kernel) (pa_cons (pe_op op_add (pe_op op_add (pe_op op_mul (pe_op op_mod (pe_callTy call_int1 (by rfl) T.int (by decide +kernel) (pa_cons (pv 2) pa_nil)) pe_int) pe_int) (pe_op op_mul pe_int (pv 1))) pe_int) pa_nil)) pe_int) pe_int) (pa_cons pe_int pa_nil)))))))), ?_⟩
  rintro M G B ds es _ ⟨ns, k, rfl, hk, rfl⟩ D fin
  show Run _ _ D M [.d (.list (ns.map .int)), .d (.int (k : Int)), .u] []
  refine q_asg (x_op (x_op x_int (x_vd rfl) (o_I (.inl ⟨by decide, by decide⟩))) x_int o_I0) ?_
  refine q_ifJ [.d (.list (ns.map .int)), .d (.int (k : Int)), .d (.int (cellOf ns k))] [] (t_test (x_op (x_vd rfl) (x_cbP (a_cons (x_vd rfl) a_nil) (c_lenL (.d _))) o_B0)) (fun hb D' kk => ?_) (fun hb D' kk => ?_) ?_
  · have h : k < ns.length := by have := of_decide_eq_true hb; rw [List.length_map] at this; omega
    refine r_asg (x_cbP (a_cons (x_op (x_vd rfl) (x_vd rfl) (o_ixL (.d _) (atI_nat (ti_get (getD_get h))))) a_nil) c_abs) (nx_to kk ?_ rfl)
    unfold cellOf
    rw [if_pos h]; rfl
  · have h : ¬ k < ns.length := by have := of_decide_eq_false hb; rw [List.length_map] at this; omega
    refine r_if (t_test (x_op (x_cbP (a_cons (x_vd rfl) a_nil) (c_lenL (.d _))) x_int o_B0)) (fun hb => ?_) fun hb => ?_
    · have h0 : 0 < ns.length := by have := of_decide_eq_true hb; rw [List.length_map] at this; omega
      have e : ((k : Int) % ((ns.map PyData.int).length : Int)) = ((k % ns.length : Nat) : Int) := by rw [List.length_map]; omega
      refine r_asg (x_op (x_vd rfl) (x_op (x_op (x_cbP (a_cons (x_cbP (a_cons (x_op (x_vd rfl) (x_op (x_cbP (a_cons (x_vd rfl) a_nil) c_intI) (x_cbP (a_cons (x_vd rfl) a_nil) (c_lenL (.d _))) (o_I (by rw [List.length_map]; omega))) (o_ixL (.d _) (by rw [e]; exact atI_nat (ti_get (getD_get (Nat.mod_lt _ h0)))))) a_nil) c_abs) a_nil) c_intI) x_int (o_I (by decide))) x_int (o_I (.inr ⟨by decide, by decide⟩))) o_I0) (nx_to kk ?_ rfl)
      unfold cellOf
      rw [if_neg h, if_pos h0]; rfl
    · have h0 : ¬ 0 < ns.length := by have := of_decide_eq_false hb; rw [List.length_map] at this; omega
      refine r_next (nx_to kk ?_ rfl)
      unfold cellOf
      rw [if_neg h, if_neg h0]; rfl
  · refine r_retN (μ' := []) (es := (bxOf ns k).ds) ?_ (by simp [Box.ds]) fin
    refine a_cons (x_is (x_op (x_lst (ds := [.int 0, .int (cellOf ns k)]) (a_cons x_int (a_cons (x_vd rfl) a_nil)) (by simp)) (x_cbP (a_cons (x_op (x_vd rfl) (x_op x_int x_int (o_I ⟨by decide, by decide, by decide⟩)) o_B0) a_nil) c_intB) (o_ixL (d := .int (bxOf ns k).1) (.d _) ?_)) rfl) (a_cons (x_op (x_op (x_cbP (a_cons (x_op (x_op (x_op (x_op (x_cbP (a_cons (x_vd rfl) a_nil) c_intI) x_int (o_I (by decide))) x_int (o_I (.inr ⟨by decide, by decide⟩))) (x_op x_int (x_vd rfl) (o_I (.inl ⟨by decide, by decide⟩))) o_I0) x_int o_I0) a_nil) c_intI) x_int (o_I (by decide))) x_int o_I0) (a_cons x_int a_nil))
    unfold bxOf
    by_cases hc : (10 : Int) ^ (18 : Int).toNat ≤ cellOf ns k
    · rw [decide_eq_true hc]; simp only [hc, if_true]; rfl
    · rw [decide_eq_false hc]; simp only [hc, if_false]; rfl
/-! ### _law_choice -/
abbrev nCh : List Str := ["_law_counts", "_law_prices", "_law_place", "_law_price", "_law_ranked", "_law_at", "_law_count", "_law_own", "_law_deed", "_law_many"]
theorem scCh : FnScope nCh ["_law_counts", "_law_prices", "_law_place", "_law_price"] (defScope sCh) := ⟨rfl, rfl, rfl, by decide +kernel, rfl, by decide +kernel, by decide +kernel⟩
theorem ok_ch {f : Addr} {fd : FuncData} (T : Txt mg) (F : Fun K "_law_choice" "_law_choice" sCh f fd) : FnOk P w K mg base CX0 1 f fd ["_law_counts", "_law_prices", "_law_place", "_law_price"] (spR K 4 Rca) := by
  refine def_R F scCh (by decide) fun cdv A outer s H E hr => ?_
  have nd := scCh.nd
  refine ⟨_, (pss_cons (ps_set (i := 4) nd rfl (Or.inl rfl) (pe_lst pa_nil))
 (pss_cons (ps_for PassesOwn.never rfl (pi_enumT (by rfl) T.enumerate (pa_cons (pv 0) pa_nil)) (pg_tup rfl (pgs_cons (pg_name (i := 5) nd rfl (Or.inl rfl)) (pgs_cons (pg_name (i := 6) nd rfl (Or.inl rfl)) pgs_nil))) (pss_cons (ps_set (i := 7) nd rfl (Or.inl rfl) (pe_callB (cr_sum rfl) (by rfl) T.sum (by decide +kernel) (pa_cons (pe_lc (own := [("_law_deed", 8), ("_law_many", 9)]) (g := (gTup K 2 (gCons (gName 8) (gCons (gName 9) gNil)))) (tt := tYes) rfl nd (pi_enumT (by rfl) T.enumerate (pa_cons (pv 6) pa_nil)) (blkOk_by (N := nCh) (sc := defScope sCh) (by decide +kernel)) (fun _ _ _ _ _ => (pg_tup rfl (pgs_cons (pg_name (i := 8) nd rfl (Or.inl rfl)) (pgs_cons (pg_name (i := 9) nd rfl (Or.inl rfl)) pgs_nil)))) (fun _ _ _ _ _ => pts_nil) (fun _ _ _ _ _ => (pe_op op_mul (pv 9) (pe_ifExp (pt_cmpR (kop_eqD (K := K) rfl hr.units) (pv 8) (pv 2) (nomark _)) (pv 3) (pe_ix (kix_tup (K := K) rfl) (pv 1) (pv 8) (fun _ _ => rfl)))))) pa_nil)))
 (pss_one (ps_expr (pe_bm PySem.F.plainAttrs_list PySem.F.slot_list_append PySem.F.type_list_append mt_append (pv 4) (pa_cons (pe_tup (pa_cons (pv 7) (pa_cons (pe_ix ix_tup (pv 6) (pv 2) (fun _ _ => rfl)) (pa_cons (pv 5) pa_nil)))) pa_nil))))))
 (pss_one (ps_ret (pe_ix ix_tup (pe_callB (cr_minD rfl hr.units) (by rfl) T.min (by decide +kernel) (pa_cons (pv 4) pa_nil)) pe_int (fun _ _ => rfl)))))), ?_⟩
  rintro M G B ds d _ ⟨cs, ps, k, p, rfl, S, rfl⟩ D fin
  show Run _ _ D M [.d (tti cs), .d (ti ps), .d (.int (k : Int)), .d (.int p), .u, .u, .u, .u, .u, .u] []
  refine q_new (ds := []) a_nil (by simp) fun a ha => ?_
  refine q_for (i_enumT (a_cons (x_vd rfl) a_nil)) (fun i δ μ => (∃ e5 e6 e7, δ = [.d (tti cs), .d (ti ps), .d (.int (k : Int)), .d (.int p), .m a, e5, e6, e7, .u, .u]) ∧ μ = [(a, .lst (tris p ((prs cs ps k).take i) 0))]) ⟨⟨_, _, _, rfl⟩, rfl⟩ ?_ ?_
  · rintro B' hB i d δ1 μ1 hi ⟨⟨e5, e6, e7, rfl⟩, rfl⟩
    obtain ⟨c, hc, rfl⟩ : ∃ c, cs[i]? = some c ∧ d = .tuple [.int (i : Int), ti c] := by
      have hl := (List.getElem?_eq_some_iff.mp hi).1
      rw [enumD_length, List.length_map] at hl
      refine ⟨cs[i], by simp [hl], ?_⟩
      rw [enumD_get (x := ti cs[i]) (by simp [hl])] at hi
      exact (Option.some.inj hi).symm
    obtain ⟨c1, c2, c3⟩ := sane_get S hc
    have cl : c.length = ps.length := (S.each c (List.mem_of_getElem? hc)).1
    refine ⟨[5, 6], _, tg_tup2, ?_⟩
    show Run _ _ _ _ [.d (tti cs), .d (ti ps), .d (.int (k : Int)), .d (.int p), .m a, .d (.int (i : Int)), .d (ti c), e7, .u, .u] _
    refine q_asg (e := .d (.int (dot c (ps.set k p)))) (x_cbP (a_cons (x_lcP (ts := [8, 9]) (fun j => .int (c.getD j 0 * (ps.set k p).getD j 0)) (i_enumT (a_cons (x_vd rfl) a_nil)) ?_
      (fun j => [.d (tti cs), .d (ti ps), .d (.int (k : Int)), .d (.int p), .m a, .d (.int (i : Int)), .d (ti c), e7, .d (.int (j : Int)), .d (.int (c.getD j 0))]) (fun j d hd => ?_) (fun k hk => hk) (fun j d hd G B D => ?_)) a_nil) ?_) ?_
    · rw [enumD_length, List.length_map]; omega
    · have hj := (List.getElem?_eq_some_iff.mp hd).1
      rw [enumD_length, List.length_map] at hj
      have e : d = .tuple [.int (j : Int), .int (c.getD j 0)] := by
        rw [enumD_get (ti_get (getD_get hj))] at hd
        exact (Option.some.inj hd).symm
      subst e
      exact tg_tup2
    · have hj := (List.getElem?_eq_some_iff.mp hd).1
      rw [enumD_length, List.length_map] at hj
      have hps : ps[j]? = some (ps.getD j 0) := getD_get (by omega)
      refine x_op (e2 := .d (.int ((ps.set k p).getD j 0))) (x_vd rfl) (x_is (x_if2 (t_test (x_op (x_vd rfl) (x_vd rfl) (o_eqD (.d _) (.d _) ((shp_int 0 _).shaped (by decide)) ((shp_int 0 _).shaped (by decide))))) (x_vd rfl) (x_op (x_vd rfl) (x_vd rfl) (o_ixT (atI_nat (ti_get hps))))) ?_) (o_I (.inl (c2 _ (List.mem_of_getElem? (getD_get hj)))))
      rw [eqv_int]
      by_cases hjk : j = k
      · subst hjk
        simp [show j < ps.length by omega]
      · have h2 : ¬ ((j : Int) = (k : Int)) := by omega
        simp only [beq_iff_eq, h2, if_false]
        rw [List.getD_eq_getElem?_getD, List.getD_eq_getElem?_getD, List.getElem?_set_ne (Ne.symm hjk)]
    · have e : (List.range (enumD (c.map PyData.int)).length).map (fun j => PyData.int (c.getD j 0 * (ps.set k p).getD j 0)) = ((List.range (min c.length (ps.set k p).length)).map fun j => c.getD j 0 * (ps.set k p).getD j 0).map PyData.int := by
        rw [enumD_length, List.length_map, List.map_map, List.length_set, cl, Nat.min_self]; rfl
      rw [e, ← dot_range c (ps.set k p)]
      exact c_sum (.d _)
    show Run _ _ _ _ [.d (tti cs), .d (ti ps), .d (.int (k : Int)), .d (.int p), .m a, .d (.int (i : Int)), .d (ti c), .d (.int (dot c (ps.set k p))), .u, .u] _
    have hy := prs_get (ps := ps) (k := k) hc
    refine r_app (j := 0) (d := tri p i (dot c (ps.set k 0), c.getD k 0)) (x_vm rfl) (x_is (x_tup (ds := [.int (dot c (ps.set k p)), .int (c.getD k 0), .int (i : Int)]) (a_cons (x_vd rfl) (a_cons (x_op (x_vd rfl) (x_vd rfl) (o_ixT (atI_nat (ti_get c3)))) (a_cons (x_vd rfl) a_nil))) (by simp)) ?_) rfl rfl ?_ fun σ H o => ⟨_, _, ⟨⟨_, _, _, rfl⟩, ?_⟩, o⟩
    · unfold tri
      rw [prs_cost S.k]
    · have hl : (tris p ((prs cs ps k).take i) 0).length ≤ 50 := by
        have : (tris p ((prs cs ps k).take i) 0).length = ((prs cs ps k).take i).length := by
          refine Nat.le_antisymm ?_ ?_
          · refine Nat.le_of_not_lt fun z => ?_
            have := tris_get p ((prs cs ps k).take i) 0 (((prs cs ps k).take i).length)
            rw [List.getElem?_eq_none (Nat.le_refl _)] at this
            rw [List.getElem?_eq_getElem z] at this
            cases this
          · refine Nat.le_of_not_lt fun z => ?_
            have := tris_get p ((prs cs ps k).take i) 0 ((tris p ((prs cs ps k).take i) 0).length)
            rw [List.getElem?_eq_none (Nat.le_refl _), List.getElem?_eq_getElem z] at this
            cases this
        rw [this, List.length_take, prs_len]
        have := S.len; omega
      omega
    · rw [take_snoc hy, tris_snoc]
      have hl : ((prs cs ps k).take i).length = i := by
        rw [List.length_take, prs_len]
        have := (List.getElem?_eq_some_iff.mp hc).1
        omega
      rw [hl, Nat.zero_add]; rfl
  · rintro δ1 μ1 ⟨⟨e5, e6, e7, rfl⟩, rfl⟩
    have eT : (prs cs ps k).take (enumD (cs.map ti)).length = prs cs ps k := List.take_of_length_le (by rw [enumD_length, List.length_map, prs_len]; exact Nat.le_refl _)
    rw [eT]
    obtain ⟨x, r, hx⟩ : ∃ x r, prs cs ps k = x :: r := by
      cases e : prs cs ps k with
      | nil => exact absurd (by have := prs_len cs ps k; rw [e] at this; exact List.eq_nil_of_length_eq_zero this.symm) S.ne
      | cons x r => exact ⟨x, r, rfl⟩
    rw [hx] at fin ⊢
    refine r_retP (x_op (x_cbP (a_cons (x_vm rfl) a_nil) (c_minD (x := tri p 0 x) (xs := tris p r 1) (.m (j := 0) rfl) (alike_tris p (x :: r) 0) (depth_tris p (x :: r) 0))) x_int (by rw [min_tris]; exact o_ixT rfl)) fin
end
end K45
namespace K45
open PySem L2 FD
theorem filter_range {α : Type} (l : List α) (d0 : α) (p : α → Bool) (g : α → PyData) : lcD (fun i => p (l.getD i d0)) (fun i => g (l.getD i d0)) l.length = (l.filter p).map g := by
  have key : ∀ n, n ≤ l.length → lcD (fun i => p (l.getD i d0)) (fun i => g (l.getD i d0)) n = ((l.take n).filter p).map g := by
    intro n
    induction n with
    | zero => intro _; simp [lcD]
    | succ n ih =>
      intro h
      have hx : l[n]? = some (l.getD n d0) := by simp [show n < l.length by omega]
      rw [take_snoc hx, List.filter_append, List.map_append]
      cases hp : p (l.getD n d0) with
      | true =>
        rw [lcD_yes (b := fun i => p (l.getD i d0)) hp, ih (by omega), List.filter_cons, if_pos hp]; rfl
      | false =>
        rw [lcD_no (b := fun i => p (l.getD i d0)) hp, ih (by omega), List.filter_cons, if_neg (by rw [hp]; decide)]; simp
  rw [key l.length (Nat.le_refl _), List.take_length]
theorem shp_st (n : Nat) (s : Int × Nat) : Shp (n + 1) (st s) := shp_tuple fun d hd => by
  rcases List.mem_cons.mp hd with e | hd
  · subst e; exact shp_int n _
  · rcases List.mem_cons.mp hd with e | hd
    · subst e; exact shp_int n _
    · cases hd
theorem shp_sts (n : Nat) (l : List (Int × Nat)) : Shp (n + 2) (.list (l.map st)) := shp_list fun d hd => by
  obtain ⟨s, _, rfl⟩ := List.mem_map.mp hd
  exact shp_st n s
section
variable {P : Program} {w : World} {K : PySem.W.Frag} {mg : Str → Option Value} {base : Heap}
def Rrt (ds : List PyData) (d : PyData) : Prop := ∃ (cs : List (List Int)) (ps : List Int) (k : Nat) (l : List (Int × Nat)), ds = [tti cs, ti ps, .int (k : Int), .tuple (l.map st)] ∧ Sane cs ps k ∧ Whole (prs cs ps k) l ∧ l.length ≤ 200 ∧ d = .bool true
abbrev nSm : List Str := ["_law_counts", "_law_prices", "_law_place", "_law_told", "_law_price", "_law_steps", "_law_last", "_law_choice_here", "_law_step"]
theorem scSm : FnScope nSm ["_law_counts", "_law_prices", "_law_place", "_law_told"] (defScope sSm) := ⟨rfl, rfl, rfl, by decide +kernel, rfl, by decide +kernel, by decide +kernel⟩
def lastD (cs : List Cnt) (i : Nat) : PyData := if i = 0 then .none else .int ((ch cs ((i : Int) - 1) : Nat) : Int)
theorem ok_sm {f : Addr} {fd : FuncData} (T : Txt mg) (F : Fun K "_law_small_right" "_law_small_right" sSm f fd) {f1 : Addr} {fd1 : FuncData} (H1 : Has K mg "_law_choice" sCh ["_law_counts", "_law_prices", "_law_place", "_law_price"] f1 fd1) : FnOk P w K mg base CX0 2 f fd ["_law_counts", "_law_prices", "_law_place", "_law_told"] (spR K 4 Rrt) := by
  have G1 : FnOk P w K mg base CX0 1 f1 fd1 ["_law_counts", "_law_prices", "_law_place", "_law_price"] (spR K 4 Rca) := ok_ch T H1.F
  refine def_R F scSm (by decide) fun cdv A outer s H E hr => ?_
  have nd := scSm.nd
  refine ⟨_, (pss_cons (ps_par (i := 5) (j := 6) (by rfl) nd rfl rfl (by decide) rfl rfl (pa_cons (pe_lst pa_nil) (pa_cons pe_non pa_nil)) (by rfl))
 (pss_cons (ps_for PassesOwn.never rfl (pi_range1 (by rfl) T.range (pa_cons pe_int pa_nil)) (pg_name (i := 4) nd rfl (Or.inl rfl)) (pss_cons (ps_set (i := 7) nd rfl (Or.inl rfl) (pe_call G1 hr rfl H1.m H1.F.kp H1.b .nil pass0 (pa_cons (pv 0) (pa_cons (pv 1) (pa_cons (pv 2) (pa_cons (pv 4) pa_nil))))))
 (pss_cons (ps_if (pt_cmpR (op_neD hr.units) (pv 7) (pv 6) (nomark _)) (pss_one (ps_expr (pe_bm PySem.F.plainAttrs_list PySem.F.slot_list_append PySem.F.type_list_append mt_append (pv 5) (pa_cons (pe_tup (pa_cons (pv 4) (pa_cons (pv 7) pa_nil))) pa_nil)))) pss_nil)
 (pss_one (ps_set (i := 6) nd rfl (Or.inl rfl) (pv 7))))))
 (pss_one (ps_ret (pe_cmpR (op_eqD hr.units) (pe_lc (own := [("_law_step", 8)]) (g := (gName 8)) rfl nd (pi_tup (pv 3)) (blkOk_by (N := nSm) (sc := defScope sSm) (by decide +kernel)) (fun _ _ _ _ _ => (pg_name (i := 8) nd rfl (Or.inl rfl))) (fun _ _ _ _ _ => (pts_one (pt_cmpR op_lt (pe_ix (kix_tup (K := K) rfl) (pv 8) pe_int (fun _ _ => rfl)) pe_int (nomark _)))) (fun _ _ _ _ _ => (pv 8))) (pv 5) (nomark _)))))), ?_⟩
  rintro M G B ds d _ ⟨cs, ps, k, l, rfl, S, W, hl, rfl⟩ D fin
  show Run _ _ D M [.d (tti cs), .d (ti ps), .d (.int (k : Int)), .d (.tuple (l.map st)), .u, .u, .u, .u, .u] []
  refine q_parN (ds := []) a_nil (by simp) (fun p _ => x_non) fun a ha => ?_
  refine q_for (i_rng1 (n := 70) (a_cons x_int a_nil) (by decide) (by decide)) (fun i δ μ => ∃ j e4 e7, δ = [.d (tti cs), .d (ti ps), .d (.int (k : Int)), .d (.tuple (l.map st)), e4, .m a, .d (lastD (prs cs ps k) i), e7, .u] ∧ μ = [(a, .lst ((l.take j).map st))] ∧ Seen (prs cs ps k) l i j ∧ (i ≠ 0 → 0 < j))
    ⟨0, _, _, rfl, by simp, seen_zero W.toTold, fun h => absurd rfl h⟩ ?_ ?_
  · rintro B' hB i d δ1 μ1 hi ⟨j, e4, e7, rfl, rfl, hS, hj⟩
    have hi' : i < 70 := by have := (List.getElem?_eq_some_iff.mp hi).1; rw [rngD_length] at this; exact this
    have e : d = .int (i : Int) := by
      rw [rngD_get (show i < (70 : Int).toNat from hi')] at hi
      have := (Option.some.inj hi).symm
      rw [this, Int.zero_add]
    subst e
    refine ⟨[4], _, tg_name, ?_⟩
    refine q_asg (x_callR (ds := [tti cs, ti ps, .int (k : Int), .int (i : Int)]) (a_cons (x_vd rfl) (a_cons (x_vd rfl) (a_cons (x_vd rfl) (a_cons (x_vd rfl) a_nil)))) ⟨cs, ps, k, _, rfl, S, rfl⟩) ?_
    have hsl : Shp 0 (lastD (prs cs ps k) i) := by
      unfold lastD
      split
      · exact shp_none 0
      · exact shp_int 0 _
    have hne : (!PyData.eqv (.int ((ch (prs cs ps k) (i : Int) : Nat) : Int)) (lastD (prs cs ps k) i)) = true ↔ (i ≠ 0 → ch (prs cs ps k) (i : Int) ≠ ch (prs cs ps k) ((i : Int) - 1)) := by
      unfold lastD
      by_cases h0 : i = 0
      · rw [if_pos h0]; simp [PyData.eqv, h0]
      · rw [if_neg h0, eqv_int]; simp [h0]; omega
    have eL : PyData.int ((ch (prs cs ps k) (i : Int) : Nat) : Int) = lastD (prs cs ps k) (i + 1) := by
      unfold lastD
      rw [if_neg (by omega), show (((i + 1 : Nat) : Int) - 1) = (i : Int) by omega]
    refine q_when (t_test (x_op (x_vd rfl) (x_vd rfl) (o_neD (.d _) (.d _) ((shp_int 0 _).shaped (by decide)) (hsl.shaped (by decide))))) (fun hb => ?_) fun hb => ?_
    · have hx := hne.mp hb
      rcases seen_step W hS hj with ⟨⟨h0, h1⟩, _⟩ | ⟨_, hlj, hS2⟩
      · exact absurd h1 (hx h0)
      · refine r_app (j := 0) (d := st ((i : Int), ch (prs cs ps k) (i : Int))) (x_vm rfl) (x_tup (ds := [.int (i : Int), .int ((ch (prs cs ps k) (i : Int) : Nat) : Int)]) (a_cons (x_vd rfl) (a_cons (x_vd rfl) a_nil)) (by simp)) rfl rfl ?_ ?_
        · rw [List.length_map, List.length_take]; omega
        show Run _ _ _ _ _ _
        refine r_asg (x_vd rfl) fun σ H o => ⟨_, _, ⟨j + 1, .d (.int (i : Int)), .d (.int ((ch (prs cs ps k) (i : Int) : Nat) : Int)), ?_, ?_, hS2, fun _ => by omega⟩, o⟩
        · rw [← eL]; rfl
        · rw [take_snoc hlj, List.map_append]; rfl
    · have hx : ¬ (i ≠ 0 → ch (prs cs ps k) (i : Int) ≠ ch (prs cs ps k) ((i : Int) - 1)) := fun z => by
        rw [hne.mpr z] at hb; cases hb
      rcases seen_step W hS hj with ⟨⟨h0, h1⟩, hS2⟩ | ⟨h1, _, _⟩
      · refine r_asg (x_vd rfl) fun σ H o => ⟨_, _, ⟨j, .d (.int (i : Int)), .d (.int ((ch (prs cs ps k) (i : Int) : Nat) : Int)), ?_, rfl, hS2, fun _ => hj h0⟩, o⟩
        rw [← eL]; rfl
      · exact absurd h1 hx
  · rintro δ1 μ1 ⟨j, e4, e7, rfl, rfl, hS, _⟩
    rw [show (rngD 0 (70 : Int).toNat).length = 70 by rw [rngD_length]; rfl] at hS ⊢
    refine r_retP (x_is (x_op (x_lc (fun _ => [(a, .lst ((l.take j).map st))]) (fun i => decide ((l.getD i (0, 0)).1 < 70)) (fun i => st (l.getD i (0, 0))) (i_tup (x_vd rfl)) ?_ fun i d hd G B D => ⟨[8], [.d (tti cs), .d (ti ps), .d (.int (k : Int)), .d (.tuple (l.map st)), e4, .m a, .d (lastD (prs cs ps k) 70), e7, .d (st (l.getD i (0, 0)))], [(a, .lst ((l.take j).map st))], ?_, fun k hk => hk, ?_, fun _ => x_vd rfl, fun _ => rfl⟩) (x_vm rfl) (o_eqD (.d _) (.m (j := 0) rfl) ?_ ((shp_sts 0 _).shaped (by decide)))) ?_) fin
    · rw [List.length_map]; omega
    · have hi := (List.getElem?_eq_some_iff.mp hd).1
      rw [List.length_map] at hi
      have e : d = st (l.getD i (0, 0)) := by
        rw [List.getElem?_map, show l[i]? = some (l.getD i (0, 0)) by simp [hi]] at hd
        exact (Option.some.inj hd).symm
      subst e
      exact tg_name
    · exact t_test (x_op (x_op (x_vd rfl) x_int (o_ixT (d := .int (l.getD i (0, 0)).1) rfl)) x_int o_B0)
    · rw [List.length_map, filter_range l (0, 0) (fun s => decide (s.1 < 70)) st]
      exact (shp_sts 0 _).shaped (by decide)
    · rw [List.length_map, filter_range l (0, 0) (fun s => decide (s.1 < 70)) st]
      have hf := seen_filter hS
      have e70 : (((70 : Nat)) : Int) = 70 := rfl
      rw [e70] at hf
      rw [hf, SeqAt.eqv_refl _ (shp_sts 0 _).1]
end
end K45
namespace K45
open PySem L2 FD
theorem prs_back {cs : List (List Int)} {ps : List Int} {k j : Nat} {x : Cnt} (h : (prs cs ps k)[j]? = some x) : ∃ c, cs[j]? = some c ∧ x = (dot c (ps.set k 0), c.getD k 0) := by
  unfold prs at h
  rw [List.getElem?_map] at h
  cases e : cs[j]? with
  | none => rw [e] at h; cases h
  | some c => rw [e] at h; exact ⟨c, rfl, (Option.some.inj h).symm⟩
theorem tti_get {cs : List (List Int)} {j : Nat} {c : List Int} (h : cs[j]? = some c) : (cs.map ti)[j]? = some (ti c) := by rw [List.getElem?_map, h]; rfl
theorem st_get {l : List (Int × Nat)} {j : Nat} {s : Int × Nat} (h : l[j]? = some s) : (l.map st)[j]? = some (st s) := by rw [List.getElem?_map, h]; rfl
/-- a told step: its choice's count -/
theorem told_at {cs : List (List Int)} {ps : List Int} {k i : Nat} {l : List (Int × Nat)} {s : Int × Nat} (W : Told (prs cs ps k) l) (S : Sane cs ps k) (h : l[i]? = some s) : ch (prs cs ps k) s.1 = s.2 ∧ ∃ c, cs[s.2]? = some c ∧ (prs cs ps k)[s.2]? = some (dot c (ps.set k 0), c.getD k 0) ∧ c[k]? = some (c.getD k 0) := by
  obtain ⟨_, x, hx⟩ := W.at_ i s h
  obtain ⟨c, hc, e⟩ := prs_back hx.1
  exact ⟨ch_eq hx, c, hc, by rw [← e]; exact hx.1, (sane_get S hc).2.2⟩
section
variable {P : Program} {w : World} {K : PySem.W.Frag} {mg : Str → Option Value} {base : Heap}
abbrev nSt : List Str := ["_law_counts", "_law_prices", "_law_place", "_law_told", "_law_least", "_law_before", "_law_step", "_law_count"]
theorem scSt : FnScope nSt ["_law_counts", "_law_prices", "_law_place", "_law_told"] (defScope sSt) := ⟨rfl, rfl, rfl, by decide +kernel, rfl, by decide +kernel, by decide +kernel⟩
theorem ok_st {f : Addr} {fd : FuncData} (T : Txt mg) (F : Fun K "_law_steps_right" "_law_steps_right" sSt f fd) {f1 : Addr} {fd1 : FuncData} (H1 : Has K mg "_law_choice" sCh ["_law_counts", "_law_prices", "_law_place", "_law_price"] f1 fd1) : FnOk P w K mg base CX0 2 f fd ["_law_counts", "_law_prices", "_law_place", "_law_told"] (spR K 4 Rrt) := by
  have G1 : FnOk P w K mg base CX0 1 f1 fd1 ["_law_counts", "_law_prices", "_law_place", "_law_price"] (spR K 4 Rca) := ok_ch T H1.F
  refine def_R F scSt (by decide) fun cdv A outer s H E hr => ?_
  have nd := scSt.nd
  refine ⟨_, (pss_cons (ps_if (PW.pt (pw_or (pt_not (pt_val (pe_callB call_isi (by rfl) T.isinstance (by decide +kernel) (pa_cons (pv 3) (pa_cons (pe_bltn (by rfl) T.tuple (v := .ty "tuple") (u := .type "tuple") (by decide +kernel) rfl) pa_nil))))) (pw_or1 (pt_cmpR (op_neD hr.units) (pe_ix ix_tup (pv 3) pe_int (fun _ _ => rfl)) (pe_tup (pa_cons pe_int (pa_cons (pe_call G1 hr rfl H1.m H1.F.kp H1.b .nil pass0 (pa_cons (pv 0) (pa_cons (pv 1) (pa_cons (pv 2) (pa_cons pe_int pa_nil))))) pa_nil))) (nomark _))))) (pss_one (ps_ret pe_bl)) pss_nil)
 (pss_cons (ps_for PassesOwn.never rfl (RZ.pi_zipA (by rfl) T.zip (pa_cons (pv 3) (pa_cons (pe_slice sl_tupA (pv 3) (po_some pe_int) po_none) pa_nil))) (pg_tup rfl (pgs_cons (pg_name (i := 5) nd rfl (Or.inl rfl)) (pgs_cons (pg_name (i := 6) nd rfl (Or.inl rfl)) pgs_nil))) (pss_cons (ps_if (PW.pt (pw_or (pt_cmpR op_le (pe_ix ix_tup (pv 6) pe_int (fun _ _ => rfl)) (pe_ix ix_tup (pv 5) pe_int (fun _ _ => rfl)) (nomark _)) (pw_or1 (pt_cmpR op_ge (pe_ix ix_tup (pe_ix ix_tup (pv 0) (pe_ix ix_tup (pv 6) pe_int (fun _ _ => rfl)) (fun _ _ => rfl)) (pv 2) (fun _ _ => rfl)) (pe_ix ix_tup (pe_ix ix_tup (pv 0) (pe_ix ix_tup (pv 5) pe_int (fun _ _ => rfl)) (fun _ _ => rfl)) (pv 2) (fun _ _ => rfl)) (nomark _))))) (pss_one (ps_ret pe_bl)) pss_nil)
 (pss_cons (ps_if (pt_cmpR (op_neD hr.units) (pe_call G1 hr rfl H1.m H1.F.kp H1.b .nil pass0 (pa_cons (pv 0) (pa_cons (pv 1) (pa_cons (pv 2) (pa_cons (pe_ix ix_tup (pv 6) pe_int (fun _ _ => rfl)) pa_nil))))) (pe_ix ix_tup (pv 6) pe_int (fun _ _ => rfl)) (nomark _)) (pss_one (ps_ret pe_bl)) pss_nil)
 (pss_one (ps_if (pt_cmpR (op_neD hr.units) (pe_call G1 hr rfl H1.m H1.F.kp H1.b .nil pass0 (pa_cons (pv 0) (pa_cons (pv 1) (pa_cons (pv 2) (pa_cons (pe_op op_sub (pe_ix ix_tup (pv 6) pe_int (fun _ _ => rfl)) pe_int) pa_nil))))) (pe_ix ix_tup (pv 5) pe_int (fun _ _ => rfl)) (nomark _)) (pss_one (ps_ret pe_bl)) pss_nil)))))
 (pss_cons (ps_set (i := 4) nd rfl (Or.inl rfl) (pe_callB (cr_min rfl) (by rfl) T.min (by decide +kernel) (pa_cons (pe_lc (own := [("_law_count", 7)]) (g := (gName 7)) (tt := tYes) rfl nd (pi_tup (pv 0)) (blkOk_by (N := nSt) (sc := defScope sSt) (by decide +kernel)) (fun _ _ _ _ _ => (pg_name (i := 7) nd rfl (Or.inl rfl))) (fun _ _ _ _ _ => pts_nil) (fun _ _ _ _ _ => (pe_ix (kix_tup (K := K) rfl) (pv 7) (pv 2) (fun _ _ => rfl)))) pa_nil)))
 (pss_one (ps_ret (pe_cmpR (op_eqD hr.units) (pe_ix ix_tup (pe_ix ix_tup (pv 0) (pe_ix ix_tup (pe_ix ix_tup (pv 3) (pe_op op_sub (pe_callB call_len_seq (by rfl) T.len PySem.boot_len (pa_cons (pv 3) pa_nil)) pe_int) (fun _ _ => rfl)) pe_int (fun _ _ => rfl)) (fun _ _ => rfl)) (pv 2) (fun _ _ => rfl)) (pv 4) (nomark _))))))), ?_⟩
  rintro M G B ds d _ ⟨cs, ps, k, l, rfl, S, W, hl, rfl⟩ D fin
  show Run _ _ D M [.d (tti cs), .d (ti ps), .d (.int (k : Int)), .d (.tuple (l.map st)), .u, .u, .u, .u] []
  have h0 := W.first
  refine q_when (t_or (t_not (t_B (x_isi (x_vd rfl) (b := true) (show kitB "tuple" "tuple" = some true by decide +kernel)))) (fun _ => t_test (x_op (x_op (x_vd rfl) x_int (o_ixT (atI_nat (j := 0) (st_get h0)))) (x_tup (ds := [.int 0, .int ((ch (prs cs ps k) 0 : Nat) : Int)]) (a_cons x_int (a_cons (x_callR (ds := [tti cs, ti ps, .int (k : Int), .int 0]) (a_cons (x_vd rfl) (a_cons (x_vd rfl) (a_cons (x_vd rfl) (a_cons x_int a_nil)))) ⟨cs, ps, k, 0, rfl, S, rfl⟩) a_nil)) (by simp)) (o_neD (.d _) (.d _) ((shp_st 0 _).shaped (by decide)) ((shp_st 0 (0, ch (prs cs ps k) 0)).shaped (by decide))))) (fun h => rfl)) (fun hb => ?_) fun _ => ?_
  · have e : PyData.eqv (st (0, ch (prs cs ps k) 0)) (.tuple [.int 0, .int ((ch (prs cs ps k) 0 : Nat) : Int)]) = true := SeqAt.eqv_refl _ (shp_st 0 (0, ch (prs cs ps k) 0)).1
    rw [e] at hb
    cases hb
  refine q_for (i_zipT (a_cons (x_vd rfl) (a_cons (x_slT (x_vd rfl) (p_some x_int) p_none) a_nil))) (fun i δ μ => ∃ e5 e6, δ = [.d (tti cs), .d (ti ps), .d (.int (k : Int)), .d (.tuple (l.map st)), .u, e5, e6, .u] ∧ μ = []) ⟨_, _, rfl, rfl⟩ ?_ ?_
  · rintro B' hB i d δ1 μ1 hi ⟨e5, e6, rfl, rfl⟩
    have e1 : cutD (l.map st) (some 1) none = (l.map st).drop 1 := cut_drop _ 1
    rw [e1] at hi
    have hlen := (List.getElem?_eq_some_iff.mp hi).1
    rw [pairD_length, List.length_drop, List.length_map] at hlen
    obtain ⟨s, t, hs, ht, rfl⟩ : ∃ s t, l[i]? = some s ∧ l[i + 1]? = some t ∧ d = .tuple [st s, st t] := by
      have a1 : l[i]? = some l[i] := by simp [show i < l.length by omega]
      have a2 : l[i + 1]? = some l[i + 1] := by simp [show i + 1 < l.length by omega]
      refine ⟨_, _, a1, a2, ?_⟩
      rw [pairD_get (x := st l[i]) (y := st l[i + 1]) (st_get a1) (by rw [List.getElem?_drop, Nat.add_comm 1 i]; exact st_get a2)] at hi
      exact (Option.some.inj hi).symm
    obtain ⟨n1, n2, n3⟩ := W.next i s t hs ht
    obtain ⟨s1, cS, s2, s3, s4⟩ := told_at W.toTold S hs
    obtain ⟨t1, cT, t2, t3, t4⟩ := told_at W.toTold S ht
    have hown := n3 _ _ s3 t3
    have hown : cT.getD k 0 < cS.getD k 0 := hown
    have hprev : ch (prs cs ps k) (t.1 - 1) = s.2 := n2 _ (by omega) (by omega)
    refine ⟨[5, 6], _, tg_tup2, ?_⟩
    show Run _ _ _ _ [.d (tti cs), .d (ti ps), .d (.int (k : Int)), .d (.tuple (l.map st)), .u, .d (st s), .d (st t), .u] _
    have ix0 : ∀ {C M μ} {q : Int × Nat}, OpX C (rIxT C.K) M [.d (tti cs), .d (ti ps), .d (.int (k : Int)), .d (.tuple (l.map st)), .u, .d (st s), .d (st t), .u] μ μ (.d (st q)) (.d (.int 0)) (.d (.int q.1)) := fun {C M μ q} => o_ixT (ds := [.int q.1, .int (q.2 : Int)]) rfl
    have ix1 : ∀ {C M μ} {q : Int × Nat}, OpX C (rIxT C.K) M [.d (tti cs), .d (ti ps), .d (.int (k : Int)), .d (.tuple (l.map st)), .u, .d (st s), .d (st t), .u] μ μ (.d (st q)) (.d (.int 1)) (.d (.int (q.2 : Int))) := fun {C M μ q} => o_ixT (ds := [.int q.1, .int (q.2 : Int)]) rfl
    refine q_when (t_or (t_test (x_op (x_op (x_vd rfl) x_int ix0) (x_op (x_vd rfl) x_int ix0) o_B0)) (fun _ => t_test (x_op (x_op (x_op (x_vd rfl) (x_op (x_vd rfl) x_int ix1) (o_ixT (atI_nat (tti_get t2)))) (x_vd rfl) (o_ixT (atI_nat (ti_get t4)))) (x_op (x_op (x_vd rfl) (x_op (x_vd rfl) x_int ix1) (o_ixT (atI_nat (tti_get s2)))) (x_vd rfl) (o_ixT (atI_nat (ti_get s4)))) o_B0)) (fun h => rfl)) (fun hb => ?_) fun _ => ?_
    · rw [decide_eq_false (by omega), decide_eq_false (by omega)] at hb
      cases hb
    refine q_when (t_test (x_op (x_callR (ds := [tti cs, ti ps, .int (k : Int), .int t.1]) (a_cons (x_vd rfl) (a_cons (x_vd rfl) (a_cons (x_vd rfl) (a_cons (x_op (x_vd rfl) x_int ix0) a_nil)))) ⟨cs, ps, k, _, rfl, S, rfl⟩) (x_op (x_vd rfl) x_int ix1) (o_neD (.d _) (.d _) ((shp_int 0 _).shaped (by decide)) ((shp_int 0 _).shaped (by decide))))) (fun hb => ?_) fun _ => ?_
    · rw [eqv_int, t1] at hb
      simp at hb
    refine r_if (t_test (x_op (x_callR (ds := [tti cs, ti ps, .int (k : Int), .int (t.1 - 1)]) (a_cons (x_vd rfl) (a_cons (x_vd rfl) (a_cons (x_vd rfl) (a_cons (x_op (x_op (x_vd rfl) x_int ix0) x_int o_I0) a_nil)))) ⟨cs, ps, k, _, rfl, S, rfl⟩) (x_op (x_vd rfl) x_int ix1) (o_neD (.d _) (.d _) ((shp_int 0 _).shaped (by decide)) ((shp_int 0 _).shaped (by decide))))) (fun hb => ?_) fun _ => ?_
    · rw [eqv_int, hprev] at hb
      simp at hb
    exact r_next fun σ H o => ⟨_, _, ⟨_, _, rfl, rfl⟩, o⟩
  · rintro δ1 μ1 ⟨e5, e6, rfl, rfl⟩
    have hpos : 0 < l.length := (List.getElem?_eq_some_iff.mp h0).1
    have hlast : l[l.length - 1]? = some l[l.length - 1] := by simp [show l.length - 1 < l.length by omega]
    obtain ⟨_, c, c2, c3, c4⟩ := told_at W.toTold S hlast
    obtain ⟨_, w2⟩ := W.last _ hlast
    have e : (List.range (cs.map ti).length).map (fun i => PyData.int ((cs.getD i []).getD k 0)) = (cs.map fun c => c.getD k 0).map PyData.int := by
      refine List.ext_getElem? fun i => ?_
      by_cases hi : i < cs.length
      · simp [hi]
      · rw [List.getElem?_eq_none (by simp; omega), List.getElem?_eq_none (by simp; omega)]
    refine q_asg (e := .d (.int (c.getD k 0))) (x_cbP (a_cons (x_lcP (ts := [7]) (fun i => .int ((cs.getD i []).getD k 0)) (i_tup (x_vd rfl)) ?_ (fun i => [.d (tti cs), .d (ti ps), .d (.int (k : Int)), .d (.tuple (l.map st)), .u, e5, e6, .d (ti (cs.getD i []))]) (fun i d hd => ?_) (fun k hk => hk) (fun i d hd G B D => ?_)) a_nil) ?_) ?_
    · rw [List.length_map]; have := S.len; omega
    · have hi := (List.getElem?_eq_some_iff.mp hd).1
      rw [List.length_map] at hi
      have e : d = ti (cs.getD i []) := by
        rw [List.getElem?_map, show cs[i]? = some (cs.getD i []) by simp [hi]] at hd
        exact (Option.some.inj hd).symm
      subst e
      exact tg_name
    · have hi := (List.getElem?_eq_some_iff.mp hd).1
      rw [List.length_map] at hi
      exact x_op (x_vd rfl) (x_vd rfl) (o_ixT (atI_nat (ti_get (sane_get S (show cs[i]? = some (cs.getD i []) by simp [hi])).2.2)))
    · rw [e]
      refine c_minI (.d _) (List.mem_map.mpr ⟨c, List.mem_of_getElem? c2, rfl⟩) fun y hy => ?_
      obtain ⟨c', hc', rfl⟩ := List.mem_map.mp hy
      obtain ⟨j, hj⟩ := List.getElem?_of_mem hc'
      exact w2 _ _ c3 (List.mem_of_getElem? (prs_get hj))
    show Run _ _ _ _ [.d (tti cs), .d (ti ps), .d (.int (k : Int)), .d (.tuple (l.map st)), .d (.int (c.getD k 0)), e5, e6, .u] _
    have ei : ((l.map st).length : Int) - 1 = ((l.length - 1 : Nat) : Int) := by rw [List.length_map]; omega
    refine r_retP (x_is (x_op (x_op (x_op (x_vd rfl) (x_op (x_op (x_vd rfl) (x_op (x_cbP (a_cons (x_vd rfl) a_nil) c_lenT) x_int o_I0) (o_ixT (d := st l[l.length - 1]) (by show atI _ (((l.map st).length : Int) - 1) = _; rw [ei]; exact atI_nat (st_get hlast)))) x_int (o_ixT (ds := [.int l[l.length - 1].1, .int (l[l.length - 1].2 : Int)]) (d := .int (l[l.length - 1].2 : Int)) rfl)) (o_ixT (atI_nat (tti_get c2)))) (x_vd rfl) (o_ixT (atI_nat (ti_get c4)))) (x_vd rfl) (o_eqD (.d _) (.d _) ((shp_int 0 _).shaped (by decide)) ((shp_int 0 _).shaped (by decide)))) ?_) fin
    rw [eqv_int]; simp
end
end K45
namespace FD
open PySem L2 Evl
section
variable {C : Cfg} {M : List Addr} {δ δ' : List Ent} {μ μ' : Mem} {t : TT} {b : Bool} {t1 t2 t3 : TS} {D : Ends} {te : TE} {g : TG} {d : PyData}
theorem x_is_a {ta : TA} {es es' : List Ent} {μ1 : Mem} (h : EvA C ta M δ μ μ' es) (e : es = es') (q : μ' = μ1) : EvA C ta M δ μ μ1 es' := by rw [← e, ← q]; exact h
theorem q_asgG {tl : List Nat} (h : EvX C te M δ μ μ' (.d d)) (tg : TgX C.K g tl d δ δ') (k : Run C t2 D M δ' μ') : Run C (tSeq (tAsg te g) t2) D M δ μ := fun σ H o =>
  h σ H o _ fun v H' o' x r => tg C M μ' σ H' v rfl o' r _ fun σ' o2 _ _ => k σ' H' o2
theorem q_whenJ (J : List Ent → Mem → Prop) (h : EvT C t M δ μ μ' b) (h1 : b = true → ∀ D', (∀ δ1 μ1, J δ1 μ1 → Nx C D' M δ1 μ1) → Run C t1 D' M δ μ') (h2 : b = false → J δ μ') (k : ∀ δ1 μ1, J δ1 μ1 → Run C t3 D M δ1 μ1) : Run C (tSeq (tIfS t t1 tNext) t3) D M δ μ :=
  q_when h (fun hb => h1 hb { D with nx := t3 D } k) (fun hb => k _ _ (h2 hb))
end
end FD
namespace K45
open PySem L2 FD
section
variable {C : Cfg} {M : List Addr} {δ : List Ent} {μ μ' : Mem} {tb tn : TE} {E : XK} {p : Addr} {b : Box} {n : Int}
theorem x_take (h1 : EvX C tb M δ [(p, .lst b.ds)] [(p, .lst b.ds)] (.m p)) (h2 : EvX C tn M δ [(p, .lst b.ds)] [(p, .lst b.ds)] (.d (.int n))) (h0 : 0 < n) (h3 : n < 2 ^ 64) :
    EvX C (tCall (spW C.K 2 Rtk) [] E (tCons tb (tCons tn tNil))) M δ [(p, .lst b.ds)] [(p, .lst (tkB b n).ds)] (.d (.int (tkV b n))) :=
  x_callW 0 (ds := [.int n]) (a_cons h1 (a_cons h2 a_nil)) ⟨b, n, rfl, rfl, h0, h3, rfl, rfl⟩
theorem x_pick {xs : List PyData} {d y : PyData} (h1 : EvX C tb M δ [(p, .lst b.ds)] [(p, .lst b.ds)] (.m p)) (h2 : EvX C tn M δ [(p, .lst b.ds)] [(p, .lst b.ds)] (.d y)) (hy : y = .list xs ∨ y = .tuple xs) (h0 : 0 < xs.length) (h3 : xs.length < 100000)
    (hx : xs[(tkV b xs.length).toNat]? = some d) : EvX C (tCall (spW C.K 2 Rpk) [] E (tCons tb (tCons tn tNil))) M δ [(p, .lst b.ds)] [(p, .lst (tkB b xs.length).ds)] (.d d) :=
  x_callW 0 (ds := [y]) (a_cons h1 (a_cons h2 a_nil)) ⟨b, xs, rfl, by rcases hy with rfl | rfl <;> simp, h0, h3, hx, rfl⟩
def itB (b : Box) (n : Int) : Nat → Box
  | 0 => b
  | j + 1 => tkB (itB b n j) n
def rowV (b : Box) (n : Int) (d : Nat) : List Int := (List.range d).map fun j => tkV (itB b n j) n
theorem rowV_len (b : Box) (n : Int) (d : Nat) : (rowV b n d).length = d := by simp [rowV]
theorem rowV_mem {b : Box} {n : Int} {d : Nat} (h : 0 < n) : ∀ x ∈ rowV b n d, 0 ≤ x ∧ x < n := fun x hx => by
  obtain ⟨j, _, rfl⟩ := List.mem_map.mp hx
  exact tkV_lt h
/-- [take(box, n) for deed in range(deeds)] -/
theorem x_draws {e0 e1 e3 e4 e5 e6 e7 e9 e10 e11 : Ent} {dd : Nat} (hn : ∀ (C' : Cfg) (M' : List Addr) (μ : Mem) (x : Ent), C'.K = C.K → EvX C' tn M' [e0, e1, .m p, e3, e4, e5, e6, e7, .d (.int (dd : Int)), e9, e10, x] μ μ (.d (.int n))) (h0 : 0 < n) (h3 : n < 2 ^ 64) (hd : dd ≤ 100) :
    EvX C (tLc (iRng1 (tCons (tVar 8) tNil)) (gName 11) tYes (tCall (spW C.K 2 Rtk) [] E (tCons (tVar 2) (tCons tn tNil))) [11]) M [e0, e1, .m p, e3, e4, e5, e6, e7, .d (.int (dd : Int)), e9, e10, e11] [(p, .lst b.ds)] [(p, .lst (itB b n dd).ds)] (.d (.list ((rowV b n dd).map .int))) := by
  have e : (rngD 0 (dd : Int).toNat).length = dd := by rw [rngD_length]; omega
  have h := x_lc (C := C) (M := M) (δ := [e0, e1, .m p, e3, e4, e5, e6, e7, .d (.int (dd : Int)), e9, e10, e11]) (μ := [(p, .lst b.ds)]) (g := gName 11) (t := tYes) (te := tCall (spW C.K 2 Rtk) [] E (tCons (tVar 2) (tCons tn tNil))) (vs := [11])
    (fun i => [(p, .lst (itB b n i).ds)]) (fun _ => true) (fun i => .int (tkV (itB b n i) n)) (i_rng1 (tr := tCons (tVar 8) tNil) (n := (dd : Int)) (a_cons (x_vd rfl) a_nil) (by omega) (by omega)) (by rw [e]; omega)
    (fun i d _ G B D => ⟨[11], [e0, e1, .m p, e3, e4, e5, e6, e7, .d (.int (dd : Int)), e9, e10, .d d], [(p, .lst (itB b n i).ds)], tg_name, fun k hk => hk, t_yes, fun _ => x_take (C := { C with G := G, B := B }) (x_vm rfl) (hn _ _ _ _ rfl) h0 h3, fun z => nomatch z⟩)
  rw [e] at h
  refine x_is h ?_
  rw [lcD_all]
  unfold rowV
  rw [List.map_map]; rfl
end
/-- the rows' boxes -/
def oB (b : Box) (n : Int) (d : Nat) : Nat → Box
  | 0 => b
  | i + 1 => itB (oB b n d i) n d
def rows (b : Box) (n : Int) (d c : Nat) : List (List Int) := (List.range c).map fun i => rowV (oB b n d i) n d
/-- counts as the law makes them -/
structure Good (cs : List (List Int)) (d : Nat) : Prop where
  ne : cs ≠ []
  len : cs.length ≤ 7
  each : ∀ c ∈ cs, c.length = d ∧ Big c
theorem rows_good {b : Box} {n : Int} {d c : Nat} (h0 : 0 < n) (h1 : n ≤ 10 ^ 12) (hc : 0 < c) (hc6 : c ≤ 6) : Good (rows b n d c) d where
  ne := fun z => by
    have := congrArg List.length z
    simp [rows] at this
    omega
  len := by simp [rows]; omega
  each := fun x hx => by
    obtain ⟨i, _, rfl⟩ := List.mem_map.mp hx
    exact ⟨rowV_len _ _ _, fun y hy => by have := rowV_mem h0 y hy; omega⟩
theorem good_more {cs : List (List Int)} {d : Nat} {c : List Int} (h : Good cs d) (hc : c ∈ cs) (hl : cs.length ≤ 6) : Good (cs ++ [c]) d where
  ne := by simp
  len := by simp; omega
  each := fun x hx => by
    rcases List.mem_append.mp hx with z | z
    · exact h.each x z
    · have : x = c := by simpa using z
      subst this; exact h.each x hc
theorem good_sane {cs : List (List Int)} {ps : List Int} {d k : Nat} (h : Good cs d) (hp : ps.length = d) (hd : d ≤ 3) (hk : k < d) : Sane cs ps k where
  ne := h.ne
  len := by have := h.len; omega
  plen := by omega
  k := by omega
  each := fun c hc => ⟨by rw [hp]; exact (h.each c hc).1, (h.each c hc).2⟩
def deedsL : List PyData := [.int 2, .int 3, .int 2, .int 3, .int 1]
theorem deeds_at {k : Nat} (h : k < 5) : ∃ d : Nat, 0 < d ∧ d ≤ 3 ∧ deedsL[k]? = some (.int (d : Int)) := by
  match k, h with
  | 0, _ => exact ⟨2, by decide, by decide, rfl⟩
  | 1, _ => exact ⟨3, by decide, by decide, rfl⟩
  | 2, _ => exact ⟨2, by decide, by decide, rfl⟩
  | 3, _ => exact ⟨3, by decide, by decide, rfl⟩
  | 4, _ => exact ⟨1, by decide, by decide, rfl⟩
def mst (g : Bool) : Int := if g = true then (10 : Int) ^ (12 : Int).toNat else 7
def pst (g : Bool) : Int := if g = true then (10 : Int) ^ (9 : Int).toNat else 10
theorem mst_ok (g : Bool) : 0 < mst g ∧ mst g ≤ 10 ^ 12 := by cases g <;> exact ⟨by decide, by decide⟩
theorem pst_ok (g : Bool) : 0 < pst g ∧ pst g ≤ 10 ^ 12 := by cases g <;> exact ⟨by decide, by decide⟩
/-- the keywords' values in the parameters' order -/
def backV {α : Type} (_ ws : List α) : List α := match ws with
  | [a, b, c] => [c, b, a]
  | _ => []
def spLaw (K : PySem.W.Frag) : Sp := fun vs H Q _ => ∃ (a : Addr) (ns : List Int), vs = [.ref a] ∧ SqL K H a (ns.map V.int) ∧ ns.length ≤ 63 ∧ ∀ H', Q (.bl true) H'
theorem dp_ints {K : PySem.W.Frag} {H : Hp} : ∀ ns : List Int, DpAll K H (ns.map V.int) (ns.map PyData.int)
  | [] => .nil
  | n :: ns => .cons (.int n) (dp_ints ns)
section
variable {P : Program} {w : World} {K : PySem.W.Frag} {mg : Str → Option Value} {base : Heap}
abbrev nLw : List Str := ["_law_script", "_law_k", "_law_box_here", "_law_most", "_law_counts", "_law_prices", "_law_place", "_law_told", "_law_deeds", "_law_great", "_law_turn", "_law_deed"]
theorem scLw : FnScope nLw ["_law_script"] (defScope sLw) := ⟨rfl, rfl, rfl, by decide +kernel, rfl, by decide +kernel, by decide +kernel⟩
def scTurn : Scope := { kind := .function, names := [(".0", .local), ("_law_turn", .local), ("tuple", .globalImplicit), ("range", .globalImplicit), ("_law_box_here", .cell), ("_law_deeds", .cell), ("_law_most", .cell)], isGenerator := false, isCoroutine := false }
theorem ok_lw {f : Addr} {fd : FuncData} (T : Txt mg) (F : Fun K "law" "law" sLw f fd) {fb ft fp f1 f2 f3 f4 f5 f6 f7 : Addr} {fdb fdt fdp fd1 fd2 fd3 fd4 fd5 fd6 fd7 : FuncData}
    (Hb : Has K mg "_law_box" sBx ["_law_script", "_law_k"] fb fdb) (Ht : Has K mg "_law_take" sTk ["_law_box_here", "_law_many"] ft fdt) (Hp : Has K mg "_law_pick" sPk ["_law_box_here", "_law_some"] fp fdp)
    (H1 : Has K mg "count_price" sCp ["count", "prices"] f1 fd1) (H2 : Has K mg "choice_at" sCa ["counts", "prices", "place", "price"] f2 fd2) (H3 : Has K mg "next_price" sNp ["counts", "prices", "place", "best"] f3 fd3)
    (H4 : Has K mg "price_steps" sPs ["counts", "prices", "place"] f4 fd4) (B4 : KBn K fd4 ["counts", "prices", "place"] 0 ["place", "prices", "counts"] backV backV)
    (H5 : Has K mg "_law_choice" sCh ["_law_counts", "_law_prices", "_law_place", "_law_price"] f5 fd5) (H6 : Has K mg "_law_small_right" sSm ["_law_counts", "_law_prices", "_law_place", "_law_told"] f6 fd6)
    (H7 : Has K mg "_law_steps_right" sSt ["_law_counts", "_law_prices", "_law_place", "_law_told"] f7 fd7) : FnOk P w K mg base CX0 4 f fd ["_law_script"] (spLaw K) := by
  have Gb : FnOk P w K mg base CX0 1 fb fdb ["_law_script", "_law_k"] (spN K 2 Rbx) := ok_bx T Hb.F
  have Gt : FnOk P w K mg base CX0 1 ft fdt ["_law_box_here", "_law_many"] (spW K 2 Rtk) := ok_tk T Ht.F
  have Gp : FnOk P w K mg base CX0 2 fp fdp ["_law_box_here", "_law_some"] (spW K 2 Rpk) := ok_pk T Hp.F Ht
  have G4 : FnOk P w K mg base CX0 3 f4 fd4 ["counts", "prices", "place"] (spP K 3 PrePs PostPs) := ok_ps T H4.F H1 H2 H3
  have G6 : FnOk P w K mg base CX0 2 f6 fd6 ["_law_counts", "_law_prices", "_law_place", "_law_told"] (spR K 4 Rrt) := ok_sm T H6.F H5
  have G7 : FnOk P w K mg base CX0 2 f7 fd7 ["_law_counts", "_law_prices", "_law_place", "_law_told"] (spR K 4 Rrt) := ok_st T H7.F H5
  refine F.ok scLw (fun vs H Q E hs => ?_) fun cdv A outer s H vs Q E hr hs => ?_
  · obtain ⟨a, ns, rfl, _⟩ := hs
    rfl
  obtain ⟨a, ns, rfl, hS, hlen, kk⟩ := hs
  have nd := scLw.nd
  have hr1 : Room 1 _ := hr.mono (by decide)
  have hr2 : Room 2 _ := hr.mono (by decide)
  refine ⟨_, (pss_cons (ps_for PassesOwn.never rfl (pi_range1 (by rfl) T.range (pa_cons (pe_callB (call_max2 rfl) (by rfl) T.max (by decide +kernel) (pa_cons pe_int (pa_cons (pe_callB (call_min2 rfl) (by rfl) T.min (by decide +kernel) (pa_cons pe_int (pa_cons (pe_callB call_len_seq (by rfl) T.len PySem.boot_len (pa_cons (pv 0) pa_nil)) pa_nil))) pa_nil))) pa_nil)) (pg_name (i := 1) nd rfl (Or.inl rfl)) (pss_cons (ps_set (i := 2) nd rfl (Or.inr rfl) (pe_call Gb hr1 rfl Hb.m Hb.F.kp Hb.b .nil pass0 (pa_cons (pv 0) (pa_cons (pv 1) pa_nil))))
 (pss_cons (ps_asg (pe_tup (pa_cons (pe_call Gp hr2 rfl Hp.m Hp.F.kp Hp.b .nil pass0 (pa_cons (pv 2) (pa_cons (pe_lst (pa_cons pe_int (pa_cons pe_int (pa_cons pe_int (pa_cons pe_int (pa_cons pe_int pa_nil)))))) pa_nil))) (pa_cons (pe_cmpR (op_eqD hr.units) (pe_call Gt hr1 rfl Ht.m Ht.F.kp Ht.b .nil pass0 (pa_cons (pv 2) (pa_cons pe_int pa_nil))) pe_int (nomark _)) pa_nil))) (pg_tup rfl (pgs_cons (pg_name (i := 8) nd rfl (Or.inr rfl)) (pgs_cons (pg_name (i := 9) nd rfl (Or.inr rfl)) pgs_nil))))
 (pss_cons (ps_set (i := 3) nd rfl (Or.inr rfl) (pe_ifExp (pt_val (pv 9)) (pe_op op_pow pe_int pe_int) pe_int))
 (pss_cons (ps_set (i := 4) nd rfl (Or.inl rfl) (pe_callTy call_tuple_of (by rfl) T.tuple (by decide +kernel) (pa_cons (pe_lc (own := [("_law_turn", 10)]) (g := (gName 10)) (tt := tYes) rfl nd (pi_range1 (by rfl) T.range (pa_cons (pe_op op_add pe_int (pe_call Gt hr1 rfl Ht.m Ht.F.kp Ht.b .nil pass0 (pa_cons (pv 2) (pa_cons pe_int pa_nil)))) pa_nil)) (blkOk_by (N := nLw) (sc := defScope sLw) (by decide +kernel)) (fun _ _ _ _ _ => (pg_name (i := 10) nd rfl (Or.inl rfl))) (fun _ _ _ _ _ => pts_nil) (fun _ _ _ _ _ => (pe_callTy (ktuple (K := K) rfl) (by rfl) T.tuple (by decide +kernel) (pa_cons (pe_lc (own := [("_law_deed", 11)]) (g := (gName 11)) (tt := tYes) rfl nd (pi_range1 (by rfl) T.range (pa_cons (pv 8) pa_nil)) (blkOk_by (N := nLw) (sc := scTurn) (by decide +kernel)) (fun _ _ _ _ _ => (pg_name (i := 11) nd rfl (Or.inl rfl))) (fun _ _ _ _ _ => pts_nil) (fun _ _ _ _ _ => (pe_call Gt hr1 rfl Ht.m Ht.F.kp Ht.b .nil pass0 (pa_cons (pv 2) (pa_cons (pv 3) pa_nil))))) pa_nil)))) pa_nil)))
 (pss_cons (ps_if (pt_cmpR (op_eqD hr.units) (pe_call Gt hr1 rfl Ht.m Ht.F.kp Ht.b .nil pass0 (pa_cons (pv 2) (pa_cons pe_int pa_nil))) pe_int (nomark _)) (pss_one (ps_set (i := 4) nd rfl (Or.inl rfl) (pe_op op_catA (pv 4) (pe_tup (pa_cons (pe_call Gp hr2 rfl Hp.m Hp.F.kp Hp.b .nil pass0 (pa_cons (pv 2) (pa_cons (pv 4) pa_nil))) pa_nil))))) pss_nil)
 (pss_cons (ps_set (i := 5) nd rfl (Or.inl rfl) (pe_callTy call_tuple_of (by rfl) T.tuple (by decide +kernel) (pa_cons (pe_lc (own := [("_law_deed", 11)]) (g := (gName 11)) (tt := tYes) rfl nd (pi_range1 (by rfl) T.range (pa_cons (pv 8) pa_nil)) (blkOk_by (N := nLw) (sc := defScope sLw) (by decide +kernel)) (fun _ _ _ _ _ => (pg_name (i := 11) nd rfl (Or.inl rfl))) (fun _ _ _ _ _ => pts_nil) (fun _ _ _ _ _ => (pe_call Gt hr1 rfl Ht.m Ht.F.kp Ht.b .nil pass0 (pa_cons (pv 2) (pa_cons (pe_ifExp (pt_val (pv 9)) (pe_op op_pow pe_int pe_int) pe_int) pa_nil))))) pa_nil)))
 (pss_cons (ps_set (i := 6) nd rfl (Or.inl rfl) (pe_call Gt hr1 rfl Ht.m Ht.F.kp Ht.b .nil pass0 (pa_cons (pv 2) (pa_cons (pv 8) pa_nil))))
 (pss_cons (ps_set (i := 7) nd rfl (Or.inl rfl) (pe_callN0 G4 hr rfl H4.m H4.F.kp B4 pass0 (pk_cons (pv 6) (pk_cons (pv 5) (pk_cons (pv 4) pk_nil)))))
 (pss_cons (ps_if (pt_not (pt_val (pe_call G7 hr2 rfl H7.m H7.F.kp H7.b .nil pass0 (pa_cons (pv 4) (pa_cons (pv 5) (pa_cons (pv 6) (pa_cons (pv 7) pa_nil))))))) (pss_one (ps_ret pe_bl)) pss_nil)
 (pss_one (ps_if (PW.pt (pw_and (pt_not (pt_val (pv 9))) (pw_and1 (pt_not (pt_val (pe_call G6 hr2 rfl H6.m H6.F.kp H6.b .nil pass0 (pa_cons (pv 4) (pa_cons (pv 5) (pa_cons (pv 6) (pa_cons (pv 7) pa_nil)))))))))) (pss_one (ps_ret pe_bl)) pss_nil))))))))))))
 (pss_one (ps_ret pe_bl))), ?_⟩
  have hd0 : DpAll K (hide [] H) (ns.map V.int) (ns.map PyData.int) := dp_ints ns
  have hh : hide [] H = H := by funext a; exact hide_out (fun z => nomatch z)
  rw [hh] at hd0
  suffices hrun : ∀ D : Ends, Fin ⟨K, [], H, hide [] H⟩ D (.bool true) → Run ⟨K, [], H, hide [] H⟩ _ D [] (startE nLw.length 1 [.d (.list (ns.map .int))]) [] by
    refine hrun _ (fun v H' _ r => ?_) _ _ (ok_startD (ds := [.list (ns.map .int)]) (fun _ z => nomatch z) (.cons (.lst (by rw [hh]; exact hS) (by rw [hh]; exact hd0)) .nil) (by show 1 ≤ 12; decide))
    rw [Dp.bool_of r]
    exact kk _
  intro D fin
  show Run _ _ D [] [.d (.list (ns.map .int)), .u, .u, .u, .u, .u, .u, .u, .u, .u, .u, .u] []
  refine q_for (i_rng1 (n := if (1 : Int) < (if ((ns.map PyData.int).length : Int) < 3 then ((ns.map PyData.int).length : Int) else 3) then (if ((ns.map PyData.int).length : Int) < 3 then ((ns.map PyData.int).length : Int) else 3) else 1) (a_cons (x_cbP (a_cons x_int (a_cons (x_cbP (a_cons x_int (a_cons (x_cbP (a_cons (x_vd rfl) a_nil) (c_lenL (.d _))) a_nil)) c_min2) a_nil)) c_max2) a_nil) ?_ ?_)
    (fun i δ μ => ∃ e1 e2 e3 e4 e5 e6 e7 e8 e9 e10 e11, δ = [.d (.list (ns.map .int)), e1, e2, e3, e4, e5, e6, e7, e8, e9, e10, e11] ∧ μ = []) ⟨_, _, _, _, _, _, _, _, _, _, _, rfl, rfl⟩ ?_ ?_
  · rw [List.length_map]; split <;> split <;> omega
  · rw [List.length_map]; split <;> split <;> omega
  · rintro B' hB i d δ1 μ1 hi ⟨e1, e2, e3, e4, e5, e6, e7, e8, e9, e10, e11, rfl, rfl⟩
    obtain ⟨hi3, rfl⟩ : i < 3 ∧ d = .int (i : Int) := by
      have hl := (List.getElem?_eq_some_iff.mp hi).1
      rw [rngD_length] at hl
      rw [rngD_get hl, Int.zero_add] at hi
      refine ⟨?_, (Option.some.inj hi).symm⟩
      rw [List.length_map] at hl
      revert hl
      split <;> split <;> omega
    refine ⟨[1], _, tg_name, ?_⟩
    show Run _ _ _ _ [.d (.list (ns.map .int)), .d (.int (i : Int)), e2, e3, e4, e5, e6, e7, e8, e9, e10, e11] _
    refine q_asgN (ds := [.list (ns.map .int), .int (i : Int)]) (es := (bxOf ns i).ds) (a_cons (x_vd rfl) (a_cons (x_vd rfl) a_nil)) ⟨ns, i, rfl, by omega, rfl⟩ fun p hp => ?_
    show Run _ _ _ _ [.d (.list (ns.map .int)), .d (.int (i : Int)), .m p, e3, e4, e5, e6, e7, e8, e9, e10, e11] [(p, .lst (bxOf ns i).ds)]
    generalize bxOf ns i = b0
    have hv5 := tkV_lt (b := b0) (n := 5) (by decide)
    obtain ⟨dd, hd1, hd3, hdd⟩ := deeds_at (k := (tkV b0 5).toNat) (by omega)
    refine q_asgG (d := .tuple [.int (dd : Int), .bool (tkV (tkB b0 5) 4 == 0)]) (x_is (x_tup (ds := [.int (dd : Int), .bool (PyData.eqv (.int (tkV (tkB b0 5) 4)) (.int 0))]) (a_cons (x_pick (xs := deedsL) (x_vm rfl) (x_lst (ds := deedsL) (a_cons x_int (a_cons x_int (a_cons x_int (a_cons x_int (a_cons x_int a_nil))))) (by decide)) (.inl rfl) (by decide) (by decide) hdd)
      (a_cons (x_op (x_take (b := tkB b0 5) (x_vm rfl) x_int (by decide) (by decide)) x_int (o_eqD (.d _) (.d _) ((shp_int 0 _).shaped (by decide)) ((shp_int 0 _).shaped (by decide)))) a_nil)) (by simp)) (by rw [eqv_int])) tg_tup2 ?_
    generalize (tkV (tkB b0 5) 4 == 0) = g
    show Run _ _ _ _ [.d (.list (ns.map .int)), .d (.int (i : Int)), .m p, e3, e4, e5, e6, e7, .d (.int (dd : Int)), .d (.bool g), e10, e11] [(p, .lst (tkB (tkB b0 5) 4).ds)]
    generalize tkB (tkB b0 5) 4 = b1
    refine q_asg (e := .d (.int (mst g))) (x_is (x_if2 (t_B (x_vd rfl)) (x_op x_int x_int (o_I ⟨by decide, by decide, by decide⟩)) x_int) (by unfold mst; cases g <;> rfl)) ?_
    show Run _ _ _ _ [.d (.list (ns.map .int)), .d (.int (i : Int)), .m p, .d (.int (mst g)), e4, e5, e6, e7, .d (.int (dd : Int)), .d (.bool g), e10, e11] [(p, .lst b1.ds)]
    obtain ⟨m0, m1⟩ := mst_ok g
    have hv6 := tkV_lt (b := b1) (n := 6) (by decide)
    obtain ⟨c, hc⟩ : ∃ c : Nat, (1 + tkV b1 6) = (c : Int) := ⟨(1 + tkV b1 6).toNat, by omega⟩
    have hcl : (rngD 0 (c : Int).toNat).length = c := by rw [rngD_length]; omega
    refine q_asg (e := .d (tti (rows (tkB b1 6) (mst g) dd c))) (μ' := [(p, .lst (oB (tkB b1 6) (mst g) dd c).ds)]) (x_cb (x_is_a (a_cons (x_lc (fun i => [(p, .lst (oB (tkB b1 6) (mst g) dd i).ds)]) (fun _ => true) (fun i => ti (rowV (oB (tkB b1 6) (mst g) dd i) (mst g) dd)) (i_rng1 (n := (c : Int)) (a_cons (x_is (x_op x_int (x_take (x_vm rfl) x_int (by decide) (by decide)) o_I0) (by rw [hc])) a_nil) (by omega) (by omega)) (by rw [hcl]; omega) fun r d hd G B D => ?_) a_nil) ?_ ?_) (c_tupleL (.d _))) ?_
    · exact ⟨[10], [.d (.list (ns.map .int)), .d (.int (i : Int)), .m p, .d (.int (mst g)), e4, e5, e6, e7, .d (.int (dd : Int)), .d (.bool g), .d d, e11], [(p, .lst (oB (tkB b1 6) (mst g) dd r).ds)], tg_name, fun k hk => hk, t_yes, fun _ => x_cbP (a_cons (x_draws (C := ⟨K, [], G, B⟩) (fun _ _ _ _ h => x_vd rfl) m0 (by omega) (by omega)) a_nil) (c_tupleL (.d _)), fun z => nomatch z⟩
    · rw [hcl, lcD_all]; unfold rows; rw [List.map_map]; rfl
    · rw [hcl]
    have hG := rows_good (b := tkB b1 6) (d := dd) (c := c) m0 m1 (by omega) (by omega)
    have hcs : (rows (tkB b1 6) (mst g) dd c).length ≤ 6 := by unfold rows; rw [List.length_map, List.length_range]; omega
    revert hG hcs
    generalize rows (tkB b1 6) (mst g) dd c = cs
    generalize oB (tkB b1 6) (mst g) dd c = b2
    intro hG hcs
    show Run _ _ _ _ [.d (.list (ns.map .int)), .d (.int (i : Int)), .m p, .d (.int (mst g)), .d (tti cs), e5, e6, e7, .d (.int (dd : Int)), .d (.bool g), e10, e11] [(p, .lst b2.ds)]
    refine q_whenJ (fun δ μ => ∃ cs' b', Good cs' dd ∧ δ = [.d (.list (ns.map .int)), .d (.int (i : Int)), .m p, .d (.int (mst g)), .d (tti cs'), e5, e6, e7, .d (.int (dd : Int)), .d (.bool g), e10, e11] ∧ μ = [(p, .lst (Box.ds b'))])
      (t_test (x_op (x_take (x_vm rfl) x_int (by decide) (by decide)) x_int (o_eqD (.d _) (.d _) ((shp_int 0 _).shaped (by decide)) ((shp_int 0 _).shaped (by decide))))) (fun _ D' kk => ?_) (fun _ => ⟨cs, _, hG, rfl, rfl⟩) ?_
    · have hl0 : 0 < cs.length := by
        cases e : cs with
        | nil => exact absurd e hG.ne
        | cons x r => simp
      have hlm : (cs.map ti).length = cs.length := List.length_map ..
      have hv := tkV_lt (b := tkB b2 3) (n := ((cs.map ti).length : Int)) (by omega)
      obtain ⟨ct, hct⟩ : ∃ ct, cs[(tkV (tkB b2 3) ((cs.map ti).length : Int)).toNat]? = some ct := ⟨cs[(tkV (tkB b2 3) ((cs.map ti).length : Int)).toNat]'(by omega), List.getElem?_eq_getElem _⟩
      refine r_asg (e := .d (tti (cs ++ [ct]))) (x_is (x_op (e2 := .d (.tuple [ti ct])) (x_vd rfl) (x_tup (ds := [ti ct]) (a_cons (x_pick (b := tkB b2 3) (xs := cs.map ti) (x_vm rfl) (x_vd rfl) (.inr rfl) (by omega) (by omega) (tti_get hct)) a_nil) (by simp)) (o_catT (by rw [hlm]; show cs.length + 1 ≤ 100000; omega))) ?_) (kk _ _ ⟨cs ++ [ct], _, good_more hG (List.mem_of_getElem? hct) hcs, rfl, rfl⟩)
      unfold tti
      rw [List.map_append]; rfl
    rintro δ2 μ2 ⟨cs2, b3, hG2, rfl, rfl⟩
    obtain ⟨p0, p1⟩ := pst_ok g
    refine q_asg (e := .d (ti (rowV b3 (pst g) dd))) (x_cbP (a_cons (x_draws (fun C' _ μ' x h => x_is (x_if2 (t_B (x_vd rfl)) (x_op x_int x_int (o_I ⟨by decide, by decide, by decide⟩)) x_int) (by unfold pst; cases g <;> rfl)) p0 (by omega) (by omega)) a_nil) (c_tupleL (.d _))) ?_
    have hpl : (rowV b3 (pst g) dd).length = dd := rowV_len _ _ _
    revert hpl
    generalize rowV b3 (pst g) dd = ps
    generalize itB b3 (pst g) dd = b4
    intro hpl
    show Run _ _ _ _ [.d (.list (ns.map .int)), .d (.int (i : Int)), .m p, .d (.int (mst g)), .d (tti cs2), .d (ti ps), e6, e7, .d (.int (dd : Int)), .d (.bool g), e10, e11] [(p, .lst b4.ds)]
    have hvk := tkV_lt (b := b4) (n := (dd : Int)) (by omega)
    obtain ⟨k, hk⟩ : ∃ k : Nat, tkV b4 (dd : Int) = (k : Int) := ⟨(tkV b4 (dd : Int)).toNat, by omega⟩
    refine q_asg (e := .d (.int (k : Int))) (x_is (x_take (x_vm rfl) (x_vd rfl) (by omega) (by omega)) (by rw [hk])) ?_
    show Run _ _ _ _ [.d (.list (ns.map .int)), .d (.int (i : Int)), .m p, .d (.int (mst g)), .d (tti cs2), .d (ti ps), .d (.int (k : Int)), e7, .d (.int (dd : Int)), .d (.bool g), e10, e11] [(p, .lst (tkB b4 dd).ds)]
    have S : Sane cs2 ps k := good_sane hG2 hpl hd3 (by omega)
    refine q_asgPN (es := [.int (k : Int), ti ps, tti cs2]) (ds := [tti cs2, ti ps, .int (k : Int)]) (a_cons (x_vd rfl) (a_cons (x_vd rfl) (a_cons (x_vd rfl) a_nil))) (fun H zs h => ?_) ⟨cs2, ps, k, rfl, S⟩ fun d hd => ?_
    · cases h with
      | cons q1 h => cases h with
        | cons q2 h => cases h with
          | cons q3 h =>
            cases h
            exact .cons q3 (.cons q2 (.cons q1 .nil))
    obtain ⟨l, W, hl, rfl⟩ := hd cs2 ps k rfl
    show Run _ _ _ _ [.d (.list (ns.map .int)), .d (.int (i : Int)), .m p, .d (.int (mst g)), .d (tti cs2), .d (ti ps), .d (.int (k : Int)), .d (.tuple (l.map st)), .d (.int (dd : Int)), .d (.bool g), e10, e11] [(p, .lst (tkB b4 dd).ds)]
    refine q_when (t_not (t_B (x_callR (ds := [tti cs2, ti ps, .int (k : Int), .tuple (l.map st)]) (d := .bool true) (a_cons (x_vd rfl) (a_cons (x_vd rfl) (a_cons (x_vd rfl) (a_cons (x_vd rfl) a_nil)))) ⟨cs2, ps, k, l, rfl, S, W, hl, rfl⟩))) (fun hb => by cases hb) fun _ => ?_
    refine r_if (t_and (t_not (t_B (x_vd rfl))) (fun _ => t_not (t_B (x_callR (ds := [tti cs2, ti ps, .int (k : Int), .tuple (l.map st)]) (d := .bool true) (a_cons (x_vd rfl) (a_cons (x_vd rfl) (a_cons (x_vd rfl) (a_cons (x_vd rfl) a_nil)))) ⟨cs2, ps, k, l, rfl, S, W, hl, rfl⟩))) (fun _ => rfl)) (fun hb => by simp at hb) fun _ => ?_
    exact r_next fun σ H o => ⟨_, _, ⟨_, _, _, _, _, _, _, _, _, _, _, rfl, rfl⟩, (o.mems (μ' := []) (fun _ h => nomatch h) .nil).drop (fun a h => List.mem_cons_of_mem _ h) (fun _ h => nomatch h) (fun _ h => nomatch h)⟩
  · rintro δ1 μ1 ⟨e1, e2, e3, e4, e5, e6, e7, e8, e9, e10, e11, rfl, rfl⟩
    exact r_retP x_bl fin
end
end K45
namespace K45
open PySem L2 FD
theorem kbn_of {K : PySem.W.Frag} {x qual : Str} {st : Stmt} {f : Addr} {fd : FuncData} (F : Fun K x qual st f fd) {ps ks : List Str}
    (h : ∀ (kV doc pm : Value) (an : Option Addr) (cdv ct : Value) (ws : List Value), ws.length = 3 → bindArgs (PySem.W.fnOf x qual (defArgs st) (defBody st) (defScope st) .none kV doc pm an cdv ct) ⟨[], ks.zip ws⟩ = pure (ps.zip (backV [] ws))) (hk : ks.length = 3 := by rfl) : KBn K fd ps 0 ks backV backV := by
  obtain ⟨oc, od, kV, doc, pm, an, cdv, ct, osl, rfl, lk, hcd⟩ := F.ex
  refine ⟨fun s us ws _ h0 hl => ?_, fun {vs us zs ws} _ r => ?_⟩
  · cases us with
    | nil => exact .of_eq (h kV doc pm an cdv ct ws (by rw [hl]; exact hk))
    | cons u us => cases h0
  · cases r with
    | nil => exact .nil
    | cons r1 r => cases r with
      | nil => exact .nil
      | cons r2 r => cases r with
        | nil => exact .nil
        | cons r3 r => cases r with
          | nil => exact .cons r3 (.cons r2 (.cons r1 .nil))
          | cons r4 r => exact .nil
theorem tops {l : PySem.W.OpenLaw} {w : World} {K : PySem.W.Frag} {h : Heap} {mg : Str → Option Value} {fa f1 f2 f3 f4 f5 f6 f7 f8 f9 f10 f11 : Addr} (X : K.In h) (G : h.Ns mainGlobals mg) (hfa : mg "law" = some (.ref fa))
    {od1 an1 od2 an2 od3 an3 od4 an4 od5 an5 od6 an6 od7 an7 od8 an8 od9 an9 od10 an10 od11 an11 : Option Addr} {sl1 sl2 sl3 sl4 sl5 sl6 sl7 sl8 sl9 sl10 sl11 : Array (Option Value)} {oc1 kV1 dc1 pm1 cd1 ct1 oc2 kV2 dc2 pm2 cd2 ct2 oc3 kV3 dc3 pm3 cd3 ct3 oc4 kV4 dc4 pm4 cd4 ct4 oc5 kV5 dc5 pm5 cd5 ct5 oc6 kV6 dc6 pm6 cd6 ct6 oc7 kV7 dc7 pm7 cd7 ct7 oc8 kV8 dc8 pm8 cd8 ct8 oc9 kV9 dc9 pm9 cd9 ct9 oc10 kV10 dc10 pm10 cd10 ct10 oc11 kV11 dc11 pm11 cd11 ct11 : Value}
    (a1 : PySem.W.nsIn K mainGlobals "_law_box" = some (some (.ref f1))) (l1 : K.lookup f1 = some ⟨oc1, od1, .func (PySem.W.fnOf "_law_box" "_law_box" (defArgs sBx) (defBody sBx) (defScope sBx) .none kV1 dc1 pm1 an1 cd1 ct1), sl1⟩) (c1 : PySem.W.codeIn K cd1 "_law_box" = true) (k1 : PySem.W.keepIn K (.ref f1) = true)
    (a2 : PySem.W.nsIn K mainGlobals "_law_take" = some (some (.ref f2))) (l2 : K.lookup f2 = some ⟨oc2, od2, .func (PySem.W.fnOf "_law_take" "_law_take" (defArgs sTk) (defBody sTk) (defScope sTk) .none kV2 dc2 pm2 an2 cd2 ct2), sl2⟩) (c2 : PySem.W.codeIn K cd2 "_law_take" = true) (k2 : PySem.W.keepIn K (.ref f2) = true)
    (a3 : PySem.W.nsIn K mainGlobals "_law_pick" = some (some (.ref f3))) (l3 : K.lookup f3 = some ⟨oc3, od3, .func (PySem.W.fnOf "_law_pick" "_law_pick" (defArgs sPk) (defBody sPk) (defScope sPk) .none kV3 dc3 pm3 an3 cd3 ct3), sl3⟩) (c3 : PySem.W.codeIn K cd3 "_law_pick" = true) (k3 : PySem.W.keepIn K (.ref f3) = true)
    (a4 : PySem.W.nsIn K mainGlobals "count_price" = some (some (.ref f4))) (l4 : K.lookup f4 = some ⟨oc4, od4, .func (PySem.W.fnOf "count_price" "count_price" (defArgs sCp) (defBody sCp) (defScope sCp) .none kV4 dc4 pm4 an4 cd4 ct4), sl4⟩) (c4 : PySem.W.codeIn K cd4 "count_price" = true) (k4 : PySem.W.keepIn K (.ref f4) = true)
    (a5 : PySem.W.nsIn K mainGlobals "choice_at" = some (some (.ref f5))) (l5 : K.lookup f5 = some ⟨oc5, od5, .func (PySem.W.fnOf "choice_at" "choice_at" (defArgs sCa) (defBody sCa) (defScope sCa) .none kV5 dc5 pm5 an5 cd5 ct5), sl5⟩) (c5 : PySem.W.codeIn K cd5 "choice_at" = true) (k5 : PySem.W.keepIn K (.ref f5) = true)
    (a6 : PySem.W.nsIn K mainGlobals "next_price" = some (some (.ref f6))) (l6 : K.lookup f6 = some ⟨oc6, od6, .func (PySem.W.fnOf "next_price" "next_price" (defArgs sNp) (defBody sNp) (defScope sNp) .none kV6 dc6 pm6 an6 cd6 ct6), sl6⟩) (c6 : PySem.W.codeIn K cd6 "next_price" = true) (k6 : PySem.W.keepIn K (.ref f6) = true)
    (a7 : PySem.W.nsIn K mainGlobals "price_steps" = some (some (.ref f7))) (l7 : K.lookup f7 = some ⟨oc7, od7, .func (PySem.W.fnOf "price_steps" "price_steps" (defArgs sPs) (defBody sPs) (defScope sPs) .none kV7 dc7 pm7 an7 cd7 ct7), sl7⟩) (c7 : PySem.W.codeIn K cd7 "price_steps" = true) (k7 : PySem.W.keepIn K (.ref f7) = true)
    (a8 : PySem.W.nsIn K mainGlobals "_law_choice" = some (some (.ref f8))) (l8 : K.lookup f8 = some ⟨oc8, od8, .func (PySem.W.fnOf "_law_choice" "_law_choice" (defArgs sCh) (defBody sCh) (defScope sCh) .none kV8 dc8 pm8 an8 cd8 ct8), sl8⟩) (c8 : PySem.W.codeIn K cd8 "_law_choice" = true) (k8 : PySem.W.keepIn K (.ref f8) = true)
    (a9 : PySem.W.nsIn K mainGlobals "_law_small_right" = some (some (.ref f9))) (l9 : K.lookup f9 = some ⟨oc9, od9, .func (PySem.W.fnOf "_law_small_right" "_law_small_right" (defArgs sSm) (defBody sSm) (defScope sSm) .none kV9 dc9 pm9 an9 cd9 ct9), sl9⟩) (c9 : PySem.W.codeIn K cd9 "_law_small_right" = true) (k9 : PySem.W.keepIn K (.ref f9) = true)
    (a10 : PySem.W.nsIn K mainGlobals "_law_steps_right" = some (some (.ref f10))) (l10 : K.lookup f10 = some ⟨oc10, od10, .func (PySem.W.fnOf "_law_steps_right" "_law_steps_right" (defArgs sSt) (defBody sSt) (defScope sSt) .none kV10 dc10 pm10 an10 cd10 ct10), sl10⟩) (c10 : PySem.W.codeIn K cd10 "_law_steps_right" = true) (k10 : PySem.W.keepIn K (.ref f10) = true)
    (a11 : PySem.W.nsIn K mainGlobals "law" = some (some (.ref f11))) (l11 : K.lookup f11 = some ⟨oc11, od11, .func (PySem.W.fnOf "law" "law" (defArgs sLw) (defBody sLw) (defScope sLw) .none kV11 dc11 pm11 an11 cd11 ct11), sl11⟩) (c11 : PySem.W.codeIn K cd11 "law" = true) (k11 : PySem.W.keepIn K (.ref f11) = true)
    (z1 : PySem.W.nsIn K mainGlobals "sum" = some none) (z2 : PySem.W.nsIn K mainGlobals "zip" = some none) (z3 : PySem.W.nsIn K mainGlobals "enumerate" = some none) (z4 : PySem.W.nsIn K mainGlobals "min" = some none) (z5 : PySem.W.nsIn K mainGlobals "max" = some none) (z6 : PySem.W.nsIn K mainGlobals "len" = some none) (z7 : PySem.W.nsIn K mainGlobals "abs" = some none) (z8 : PySem.W.nsIn K mainGlobals "int" = some none) (z9 : PySem.W.nsIn K mainGlobals "tuple" = some none) (z10 : PySem.W.nsIn K mainGlobals "range" = some none) (z11 : PySem.W.nsIn K mainGlobals "isinstance" = some none) :
    ∃ fd : FuncData, (∀ (s : Shared) (v : Value), BindsTo s fd ⟨[v], []⟩ [("_law_script", v)]) ∧ ∀ base : Heap, K.In base → base.Ns mainGlobals mg → FnOk l.prog w K mg base CX0 4 fa fd ["_law_script"] (spLaw K) := by
  have e := hfa.symm.trans (PySem.W.mg_of X G a11)
  cases e
  have T : Txt mg := ⟨PySem.W.mg_none_of X G z1, PySem.W.mg_none_of X G z2, PySem.W.mg_none_of X G z3, PySem.W.mg_none_of X G z4, PySem.W.mg_none_of X G z5, PySem.W.mg_none_of X G z6, PySem.W.mg_none_of X G z7, PySem.W.mg_none_of X G z8, PySem.W.mg_none_of X G z9, PySem.W.mg_none_of X G z10, PySem.W.mg_none_of X G z11⟩
  have F1 := fun_mk (st := sBx) l1 c1 k1
  have b1 := F1.binds (ps := ["_law_script", "_law_k"]) fun _ _ _ _ _ _ us hl => match us, hl with | [_, _], _ => rfl
  have h1 : Has K mg "_law_box" sBx ["_law_script", "_law_k"] f1 _ := ⟨F1, b1, PySem.W.mg_of X G a1⟩
  have F2 := fun_mk (st := sTk) l2 c2 k2
  have b2 := F2.binds (ps := ["_law_box_here", "_law_many"]) fun _ _ _ _ _ _ us hl => match us, hl with | [_, _], _ => rfl
  have h2 : Has K mg "_law_take" sTk ["_law_box_here", "_law_many"] f2 _ := ⟨F2, b2, PySem.W.mg_of X G a2⟩
  have F3 := fun_mk (st := sPk) l3 c3 k3
  have b3 := F3.binds (ps := ["_law_box_here", "_law_some"]) fun _ _ _ _ _ _ us hl => match us, hl with | [_, _], _ => rfl
  have h3 : Has K mg "_law_pick" sPk ["_law_box_here", "_law_some"] f3 _ := ⟨F3, b3, PySem.W.mg_of X G a3⟩
  have F4 := fun_mk (st := sCp) l4 c4 k4
  have b4 := F4.binds (ps := ["count", "prices"]) fun _ _ _ _ _ _ us hl => match us, hl with | [_, _], _ => rfl
  have h4 : Has K mg "count_price" sCp ["count", "prices"] f4 _ := ⟨F4, b4, PySem.W.mg_of X G a4⟩
  have F5 := fun_mk (st := sCa) l5 c5 k5
  have b5 := F5.binds (ps := ["counts", "prices", "place", "price"]) fun _ _ _ _ _ _ us hl => match us, hl with | [_, _, _, _], _ => rfl
  have h5 : Has K mg "choice_at" sCa ["counts", "prices", "place", "price"] f5 _ := ⟨F5, b5, PySem.W.mg_of X G a5⟩
  have F6 := fun_mk (st := sNp) l6 c6 k6
  have b6 := F6.binds (ps := ["counts", "prices", "place", "best"]) fun _ _ _ _ _ _ us hl => match us, hl with | [_, _, _, _], _ => rfl
  have h6 : Has K mg "next_price" sNp ["counts", "prices", "place", "best"] f6 _ := ⟨F6, b6, PySem.W.mg_of X G a6⟩
  have F7 := fun_mk (st := sPs) l7 c7 k7
  have b7 := F7.binds (ps := ["counts", "prices", "place"]) fun _ _ _ _ _ _ us hl => match us, hl with | [_, _, _], _ => rfl
  have h7 : Has K mg "price_steps" sPs ["counts", "prices", "place"] f7 _ := ⟨F7, b7, PySem.W.mg_of X G a7⟩
  have F8 := fun_mk (st := sCh) l8 c8 k8
  have b8 := F8.binds (ps := ["_law_counts", "_law_prices", "_law_place", "_law_price"]) fun _ _ _ _ _ _ us hl => match us, hl with | [_, _, _, _], _ => rfl
  have h8 : Has K mg "_law_choice" sCh ["_law_counts", "_law_prices", "_law_place", "_law_price"] f8 _ := ⟨F8, b8, PySem.W.mg_of X G a8⟩
  have F9 := fun_mk (st := sSm) l9 c9 k9
  have b9 := F9.binds (ps := ["_law_counts", "_law_prices", "_law_place", "_law_told"]) fun _ _ _ _ _ _ us hl => match us, hl with | [_, _, _, _], _ => rfl
  have h9 : Has K mg "_law_small_right" sSm ["_law_counts", "_law_prices", "_law_place", "_law_told"] f9 _ := ⟨F9, b9, PySem.W.mg_of X G a9⟩
  have F10 := fun_mk (st := sSt) l10 c10 k10
  have b10 := F10.binds (ps := ["_law_counts", "_law_prices", "_law_place", "_law_told"]) fun _ _ _ _ _ _ us hl => match us, hl with | [_, _, _, _], _ => rfl
  have h10 : Has K mg "_law_steps_right" sSt ["_law_counts", "_law_prices", "_law_place", "_law_told"] f10 _ := ⟨F10, b10, PySem.W.mg_of X G a10⟩
  have B7 : KBn K _ ["counts", "prices", "place"] 0 ["place", "prices", "counts"] backV backV := kbn_of F7 fun _ _ _ _ _ _ us hl => match us, hl with | [_, _, _], _ => rfl
  exact ⟨PySem.W.fnOf "law" "law" (defArgs sLw) (defBody sLw) (defScope sLw) .none kV11 dc11 pm11 an11 cd11 ct11, fun s v => .of_eq rfl, fun base _ _ => ok_lw T (fun_mk (st := sLw) l11 c11 k11) h1 h2 h3 h4 h5 h6 h7 B7 h8 h9 h10⟩
theorem walk {l : PySem.W.OpenLaw} {q : Program} {loose : List Str} {XP : (Str → Option Value) → Heap → Prop} {YP : World → Heap → Prop} {d : DefRec} {K : Params → PySem.W.Frag} (hn : l.most = some 63) (hdf : d.params.defaults = [])
    (hY : ∀ (w : World) (h : Heap), YP w h → (K w.params).In h)
    (F : ∀ (w : World) (mg : Str → Option Value) (fa : Addr) (h : Heap), (K w.params).In h → h.Ns mainGlobals mg → mg d.name = some (.ref fa) →
      ∃ fd : FuncData, (∀ (s : Shared) (u : Value), BindsTo s fd ⟨[u], []⟩ [("_law_script", u)]) ∧ ∀ base : Heap, (K w.params).In base → base.Ns mainGlobals mg → FnOk l.prog w (K w.params) mg base CX0 4 fa fd ["_law_script"] (spLaw (K w.params))) :
    PySem.W.WalkO q loose XP YP l.row.toRowW d [] (fun f vs => PySem.call f vs) :=
  L2.walk_of (n := 63) (k := 4) (x := "_law_script") (CX := fun _ => CX0) (sp := fun w => spLaw (K w.params)) hn (by decide) hdf ⟨rfl, by decide, by decide⟩ hY F (fun _ _ a ns hl _ hS => ⟨a, ns, rfl, hS, hl, fun _ => rfl⟩) fun _ _ _ _ _ z => z
end K45

open PySem PySem.W PyProof.Rows in
set_option maxRecDepth 100000 in
set_option maxHeartbeats 0 in
theorem PySem.Challenge.cw_stillowed_k45_a_deed_that_gets_dearer_holds : PySem.Challenge.rw_stillowed_k45_a_deed_that_gets_dearer.Holds := by
  w_on; o_law; k_head; (case hw => w_witness2)
  k_fill
  refine K45.walk (l := PySem.Challenge.rw_stillowed_k45_a_deed_that_gets_dearer) rfl rfl (fun w h Y => PySem.W.kIn_of Y) ?F
  case F =>
    intro w mg fa h KX G hmg
    refine' K45.tops KX G hmg ?a1 ?l1 ?c1 ?k1 ?a2 ?l2 ?c2 ?k2 ?a3 ?l3 ?c3 ?k3 ?a4 ?l4 ?c4 ?k4 ?a5 ?l5 ?c5 ?k5 ?a6 ?l6 ?c6 ?k6 ?a7 ?l7 ?c7 ?k7 ?a8 ?l8 ?c8 ?k8 ?a9 ?l9 ?c9 ?k9 ?a10 ?l10 ?c10 ?k10 ?a11 ?l11 ?c11 ?k11 ?z1 ?z2 ?z3 ?z4 ?z5 ?z6 ?z7 ?z8 ?z9 ?z10 ?z11
    (case a1 => k_is)
    (case l1 => k_is)
    (case c1 => k_is)
    (case k1 => k_is)
    (case a2 => k_is)
    (case l2 => k_is)
    (case c2 => k_is)
    (case k2 => k_is)
    (case a3 => k_is)
    (case l3 => k_is)
    (case c3 => k_is)
    (case k3 => k_is)
    (case a4 => k_is)
    (case l4 => k_is)
    (case c4 => k_is)
    (case k4 => k_is)
    (case a5 => k_is)
    (case l5 => k_is)
    (case c5 => k_is)
    (case k5 => k_is)
    (case a6 => k_is)
    (case l6 => k_is)
    (case c6 => k_is)
    (case k6 => k_is)
    (case a7 => k_is)
    (case l7 => k_is)
    (case c7 => k_is)
    (case k7 => k_is)
    (case a8 => k_is)
    (case l8 => k_is)
    (case c8 => k_is)
    (case k8 => k_is)
    (case a9 => k_is)
    (case l9 => k_is)
    (case c9 => k_is)
    (case k9 => k_is)
    (case a10 => k_is)
    (case l10 => k_is)
    (case c10 => k_is)
    (case k10 => k_is)
    (case a11 => k_is)
    (case l11 => k_is)
    (case c11 => k_is)
    (case k11 => k_is)
    (case z1 => k_is)
    (case z2 => k_is)
    (case z3 => k_is)
    (case z4 => k_is)
    (case z5 => k_is)
    (case z6 => k_is)
    (case z7 => k_is)
    (case z8 => k_is)
    (case z9 => k_is)
    (case z10 => k_is)
    (case z11 => k_is)
