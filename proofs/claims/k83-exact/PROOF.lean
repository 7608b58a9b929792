import PyProof.Rows.All
import Wide.All
import OpenK.AllK
import Wide.FinOn
import HandS.ForMost
import HandS.Evl
import HandS.Zip
import HandS.TupAny
import HandS.Wide
import HandS.Walk
import HandS.Defaults
import HandS.IsInst
import KE.DataMinMax
import KE.GoesEnum
import HandS.SetFor
import HandS.SetTxt0
import HandS.SetTxtIn
import HandS.Strs
import PyProof.Rows.SortShellAny
import HandS.Finally
import HandS.More
import HandS.ForDict
import HandS.Small
import HandS.Iter
import HandS.Style
import HandS.TryOnly
import HandS.Text
import PySem.Challenge.RW_stillowed_k83_exact_makings
set_option Elab.async false
set_option linter.all false
set_option maxRecDepth 100000
set_option maxHeartbeats 8000000
/-! A layer over HandS: expressions and statements by data, the heap hidden. -/
namespace FD
open PySem L2 Evl

/-! ### hidden objects -/
def hide (M : List Addr) (H : Hp) : Hp := fun a => if a ∈ M then none else H a
section
variable {M M' : List Addr} {H H' : Hp} {a : Addr} {o : HO}
theorem hide_in (h : a ∈ M) : hide M H a = none := if_pos h
theorem hide_out (h : a ∉ M) : hide M H a = H a := if_neg h
theorem hide_some (h : hide M H a = some o) : a ∉ M ∧ H a = some o := by
  by_cases q : a ∈ M
  · rw [hide_in q] at h; cases h
  · rw [hide_out q] at h; exact ⟨q, h⟩
theorem hide_ex (e : Ex H H') : Ex (hide M H) (hide M H') := fun a o h => by
  obtain ⟨q, h⟩ := hide_some h
  rw [hide_out q]; exact e a o h
theorem hide_le : Ex (hide M H) H := fun a o h => (hide_some h).2
theorem hide_sub (s : ∀ a ∈ M, a ∈ M') : Ex (hide M' H) (hide M H) := fun a o h => by
  obtain ⟨q, h⟩ := hide_some h
  rw [hide_out (fun z => q (s a z))]; exact h
theorem hide_upd (h : a ∈ M) : hide M (upd H a o) = hide M H := by
  funext b
  by_cases q : b ∈ M
  · rw [hide_in q, hide_in q]
  · rw [hide_out q, hide_out q, upd_ne (fun z => q (by rw [z]; exact h))]
end

/-! ### data in a heap that grows -/
mutual
theorem dp_mono {K : PySem.W.Frag} {H H' : Hp} (e : Ex H H') : ∀ (d : PyData) (v : V), Dp K H v d → Dp K H' v d
  | .none, _, h => by cases h; exact .non
  | .bool b, _, h => by cases h; exact .bl b
  | .int i, _, h => by cases h; exact .int i
  | .str x, _, h => by cases h; exact .str x
  | .list ds, _, h => by
    cases h with
    | lst hs ha => exact .lst (ex_l e hs) (dpAll_mono e ds _ ha)
  | .tuple ds, _, h => by
    cases h with
    | tup hs ha => exact .tup (ex_t e hs) (dpAll_mono e ds _ ha)
  | .dict _, _, h => by cases h
theorem dpAll_mono {K : PySem.W.Frag} {H H' : Hp} (e : Ex H H') : ∀ (ds : List PyData) (vs : List V), DpAll K H vs ds → DpAll K H' vs ds
  | [], _, h => by cases h; exact .nil
  | d :: ds, _, h => by
    cases h with
    | cons h1 h2 => exact .cons (dp_mono e d _ h1) (dpAll_mono e ds _ h2)
end
end FD
namespace L2
open PySem
section
variable {K : PySem.W.Frag} {H : Hp}
theorem DpAll.length : ∀ {vs : List V} {ds : List PyData}, DpAll K H vs ds → vs.length = ds.length
  | _, _, .nil => rfl
  | _, _, .cons _ t => by rw [List.length_cons, List.length_cons, DpAll.length t]
theorem DpAll.get : ∀ {vs : List V} {ds : List PyData} {i : Nat} {d : PyData}, DpAll K H vs ds → ds[i]? = some d → ∃ v, vs[i]? = some v ∧ Dp K H v d
  | _, _, _, _, .nil, z => by simp at z
  | _, _, 0, _, .cons r0 _, z => by simp at z; subst z; exact ⟨_, rfl, r0⟩
  | _, _, i + 1, d, .cons _ t, e => by
    obtain ⟨u, h1, h2⟩ := DpAll.get (i := i) (d := d) t (by simpa using e)
    exact ⟨u, by simpa using h1, by exact h2⟩
theorem DpAll.append : ∀ {vs ws : List V} {ds es : List PyData}, DpAll K H vs ds → DpAll K H ws es → DpAll K H (vs ++ ws) (ds ++ es)
  | _, _, _, _, .nil, s => s
  | _, _, _, _, .cons r t, s => .cons r (DpAll.append t s)
theorem DpAll.take : ∀ {vs : List V} {ds : List PyData} (n : Nat), DpAll K H vs ds → DpAll K H (vs.take n) (ds.take n)
  | _, _, 0, _ => by rw [List.take_zero, List.take_zero]; exact .nil
  | _, _, _ + 1, .nil => .nil
  | _, _, n + 1, .cons r t => by rw [List.take_succ_cons, List.take_succ_cons]; exact .cons r (DpAll.take n t)
theorem DpAll.drop : ∀ {vs : List V} {ds : List PyData} (n : Nat), DpAll K H vs ds → DpAll K H (vs.drop n) (ds.drop n)
  | _, _, 0, r => r
  | _, _, _ + 1, .nil => .nil
  | _, _, n + 1, .cons _ t => by rw [List.drop_succ_cons, List.drop_succ_cons]; exact DpAll.drop n t
theorem DpAll.set : ∀ {vs : List V} {ds : List PyData} {v : V} {d : PyData} (n : Nat), DpAll K H vs ds → Dp K H v d → DpAll K H (vs.set n v) (ds.set n d)
  | _, _, _, _, _, .nil, _ => .nil
  | _, _, _, _, 0, .cons _ t, q => .cons q t
  | _, _, _, _, n + 1, .cons r t, q => .cons r (DpAll.set n t q)
theorem DpAll.ints : ∀ {vs : List V} {ns : List Int}, DpAll K H vs (ns.map PyData.int) → vs = ns.map V.int
  | _, [], h => by cases h; rfl
  | _, n :: ns, h => by
    cases h with
    | cons h1 h2 =>
      cases h1
      rw [DpAll.ints h2]
      rfl
theorem DpAll.of_ints (ns : List Int) : DpAll K H (ns.map V.int) (ns.map PyData.int) := by
  induction ns with
  | nil => exact .nil
  | cons n ns ih => exact .cons (.int n) ih
theorem Dp.int_of {v : V} {i : Int} (h : Dp K H v (.int i)) : v = .int i := by cases h; rfl
theorem Dp.bool_of {v : V} {i : Bool} (h : Dp K H v (.bool i)) : v = .bl i := by cases h; rfl
theorem Dp.str_of {v : V} {i : Str} (h : Dp K H v (.str i)) : v = .str i := by cases h; rfl
theorem Dp.none_of {v : V} (h : Dp K H v .none) : v = .non := by cases h; rfl
theorem Dp.tup_of {v : V} {ds : List PyData} (h : Dp K H v (.tuple ds)) : ∃ a vs, v = .ref a ∧ SqT K H a vs ∧ DpAll K H vs ds := by
  cases h with
  | tup hs ha => exact ⟨_, _, rfl, hs, ha⟩
theorem Dp.lst_of {v : V} {ds : List PyData} (h : Dp K H v (.list ds)) : ∃ a vs, v = .ref a ∧ SqL K H a vs ∧ DpAll K H vs ds := by
  cases h with
  | lst hs ha => exact ⟨_, _, rfl, hs, ha⟩
end

end L2
namespace FD
open PySem L2 Evl

/-! ### the state of a body: its slots by data, its own lists by address -/
inductive MO where
  | lst (ds : List PyData)
  | dK (kvs : List (Key × PyData))
  /-- the dict while something walks it -/
  | fz (od : Obj) (ws : List (Key × V)) (kvs : List (Key × PyData))
inductive Ent where
  | d (d : PyData)
  | m (a : Addr)
  | u
abbrev Mem := List (Addr × MO)
structure Cfg where
  K : PySem.W.Frag
  M0 : List Addr
  G : Hp
  B : Hp
def MOok (K : PySem.W.Frag) (Hh H : Hp) (a : Addr) : MO → Prop
  | .lst ds => ∃ vs, H a = some (.lst vs) ∧ DpAll K Hh vs ds
  | .dK kvs => ∃ ws, H a = some (.dK ws) ∧ Paired (fun (p : Key × V) (q : Key × PyData) => p.1 = q.1 ∧ Dp K Hh p.2 q.2) ws kvs
  | .fz od ws kvs => H a = some (.frz od (.dK ws)) ∧ Paired (fun (p : Key × V) (q : Key × PyData) => p.1 = q.1 ∧ Dp K Hh p.2 q.2) ws kvs
def EntOk (K : PySem.W.Frag) (Hh : Hp) : Ent → V → Prop
  | .d d, v => Dp K Hh v d
  | .m a, v => v = .ref a
  | .u, _ => True
theorem EntOk.mono {K : PySem.W.Frag} {H H' : Hp} {e : Ent} {v : V} (x : Ex H H') (h : EntOk K H e v) : EntOk K H' e v := by
  cases e with
  | d d => exact dp_mono x d v h
  | m a => exact h
  | u => trivial
theorem MOok.there {K : PySem.W.Frag} {Hh H : Hp} {a : Addr} {m : MO} (h : MOok K Hh H a m) : H a ≠ none := by
  cases m with
  | lst ds => obtain ⟨_, e, _⟩ := h; rw [e]; exact fun z => nomatch z
  | dK ds => obtain ⟨_, e, _⟩ := h; rw [e]; exact fun z => nomatch z
  | fz _ _ _ => obtain ⟨e, _⟩ := h; rw [e]; exact fun z => nomatch z
theorem MOok.mono {K : PySem.W.Frag} {Hh Hh' H H' : Hp} {a : Addr} {m : MO} (x : Ex Hh Hh') (e : ∀ o, H a = some o → H' a = some o) (h : MOok K Hh H a m) : MOok K Hh' H' a m := by
  cases m with
  | lst ds => obtain ⟨vs, e1, q⟩ := h; exact ⟨vs, e _ e1, dpAll_mono x _ _ q⟩
  | dK ds => obtain ⟨vs, e1, q⟩ := h; exact ⟨vs, e _ e1, Paired.mapP q fun p q z => ⟨z.1, dp_mono x _ _ z.2⟩⟩
  | fz _ _ _ => obtain ⟨e1, q⟩ := h; exact ⟨e _ e1, Paired.mapP q fun p q z => ⟨z.1, dp_mono x _ _ z.2⟩⟩
end FD
namespace FD
open PySem L2 Evl

structure Ok (C : Cfg) (M : List Addr) (δ : List Ent) (μ : Mem) (σ : L2.St) (H : Hp) : Prop where
  len : σ.length = δ.length
  slot : ∀ (i : Nat) (e : Ent), δ[i]? = some e → e ≠ .u → ∃ v, σ[i]? = some (some v) ∧ EntOk C.K (hide M H) e v
  mem : ∀ p ∈ μ, p.1 ∈ M ∧ C.G p.1 = none ∧ MOok C.K (hide M H) H p.1 p.2
  nd : (μ.map (·.1)).Nodup
  alloc : ∀ a ∈ M, H a ≠ none
  sub : ∀ a ∈ C.M0, a ∈ M
  gr : Ex C.G H
  base : Ex C.B (hide M H)

section
variable {C : Cfg} {M M' : List Addr} {δ δ' δ1 δ2 : List Ent} {μ μ' μ1 μ2 μ3 : Mem} {σ σ' σ1 σ2 : L2.St} {H H' : Hp}
theorem Ok.fresh (o : Ok C M δ μ σ H) {p : Addr} (h : H p = none) : p ∉ M := fun z => o.alloc p z h
/-- the heap grows -/
theorem Ok.grow (o : Ok C M δ μ σ H) (e : Ex H H') : Ok C M δ μ σ H' where
  len := o.len
  slot := fun i x h1 h2 => let ⟨v, a, b⟩ := o.slot i x h1 h2; ⟨v, a, b.mono (hide_ex e)⟩
  mem := fun p hp => let ⟨a, b, c⟩ := o.mem p hp; ⟨a, b, c.mono (hide_ex e) fun u q => e _ u q⟩
  nd := o.nd
  alloc := fun a ha => by
    cases q : H a with
    | none => exact absurd q (o.alloc a ha)
    | some u => rw [e a u q]; exact fun z => nomatch z
  sub := o.sub
  gr := o.gr.trans e
  base := o.base.trans (hide_ex e)
/-- the slots of one state, the lists of a later one -/
theorem Ok.swap (o : Ok C M δ1 μ1 σ1 H) (p : Ok C M δ2 μ2 σ2 H') (e : Ex (hide M H) (hide M H')) : Ok C M δ1 μ2 σ1 H' where
  len := o.len
  slot := fun i x h1 h2 => let ⟨v, a, b⟩ := o.slot i x h1 h2; ⟨v, a, b.mono e⟩
  mem := p.mem
  nd := p.nd
  alloc := p.alloc
  sub := p.sub
  gr := p.gr
  base := p.base
theorem Ok.reB {B : Hp} (o : Ok { C with B := B } M δ μ σ H) (h : Ex C.B B) : Ok C M δ μ σ H where
  len := o.len
  slot := o.slot
  mem := o.mem
  nd := o.nd
  alloc := o.alloc
  sub := o.sub
  gr := o.gr
  base := h.trans o.base
theorem Ok.toB (o : Ok C M δ μ σ H) : Ok { C with B := hide M H } M δ μ σ H where
  len := o.len
  slot := o.slot
  mem := o.mem
  nd := o.nd
  alloc := o.alloc
  sub := o.sub
  gr := o.gr
  base := Ex.refl _
theorem Ok.inB {B : Hp} (o : Ok C M δ μ σ H) (h : Ex B (hide M H)) : Ok { C with B := B } M δ μ σ H where
  len := o.len
  slot := o.slot
  mem := o.mem
  nd := o.nd
  alloc := o.alloc
  sub := o.sub
  gr := o.gr
  base := h
/-- a slot is stored -/
theorem Ok.set (o : Ok C M δ μ σ H) (i : Nat) {e : Ent} {v : V} (r : EntOk C.K (hide M H) e v) : Ok C M (δ.set i e) μ (σ.set i (some v)) H where
  len := by rw [List.length_set, List.length_set]; exact o.len
  slot := fun j x h1 h2 => by
    by_cases q : i = j
    · subst q
      have hl : i < δ.length := by
        have := (List.getElem?_eq_some_iff.mp h1).1
        rw [List.length_set] at this; exact this
      rw [List.getElem?_set_self hl] at h1
      cases h1
      exact ⟨v, by rw [List.getElem?_set_self (by rw [o.len]; exact hl)], r⟩
    · rw [List.getElem?_set_ne q] at h1
      obtain ⟨w, a, b⟩ := o.slot j x h1 h2
      exact ⟨w, by rw [List.getElem?_set_ne q]; exact a, b⟩
  mem := o.mem
  nd := o.nd
  alloc := o.alloc
  sub := o.sub
  gr := o.gr
  base := o.base
/-- slots forgotten -/
theorem Ok.weak (o : Ok C M δ μ σ H) (hl : σ'.length = δ'.length) (h : ∀ (i : Nat) (e : Ent), δ'[i]? = some e → e ≠ .u → δ[i]? = some e ∧ σ'[i]? = σ[i]?) : Ok C M δ' μ σ' H where
  len := hl
  slot := fun i e h1 h2 => by
    obtain ⟨a, b⟩ := h i e h1 h2
    obtain ⟨v, c, d⟩ := o.slot i e a h2
    exact ⟨v, b.trans c, d⟩
  mem := o.mem
  nd := o.nd
  alloc := o.alloc
  sub := o.sub
  gr := o.gr
  base := o.base
/-- hidden objects dropped -/
theorem Ok.drop (o : Ok C M' δ μ σ H) (s : ∀ a ∈ M, a ∈ M') (h : ∀ p ∈ μ, p.1 ∈ M) (h0 : ∀ a ∈ C.M0, a ∈ M) : Ok C M δ μ σ H where
  len := o.len
  slot := fun i x h1 h2 => let ⟨v, a, b⟩ := o.slot i x h1 h2; ⟨v, a, b.mono (hide_sub s)⟩
  mem := fun p hp => let ⟨_, b, c⟩ := o.mem p hp; ⟨h p hp, b, c.mono (hide_sub s) fun _ q => q⟩
  nd := o.nd
  alloc := fun a ha => o.alloc a (s a ha)
  sub := h0
  gr := o.gr
  base := o.base.trans (hide_sub s)
/-- some of the lists are no longer spoken of -/
theorem Ok.mems (o : Ok C M δ μ σ H) (h : ∀ p ∈ μ', p ∈ μ) (nd : (μ'.map (·.1)).Nodup) : Ok C M δ μ' σ H where
  len := o.len
  slot := o.slot
  mem := fun p hp => o.mem p (h p hp)
  nd := nd
  alloc := o.alloc
  sub := o.sub
  gr := o.gr
  base := o.base
theorem nodup_fst {α β : Type} {l : List (α × β)} (hN : (l.map (·.1)).Nodup) {i j : Nat} {a : α} {x y : β} (h1 : l[i]? = some (a, x)) (h2 : l[j]? = some (a, y)) : i = j := by
  have e1 : (l.map (·.1))[i]? = some a := by rw [List.getElem?_map, h1]; rfl
  have e2 : (l.map (·.1))[j]? = some a := by rw [List.getElem?_map, h2]; rfl
  exact L2.nd_ix hN e1 e2
theorem map_set_fst {α β : Type} {l : List (α × β)} {j : Nat} {a : α} {x y : β} (h : l[j]? = some (a, x)) : (l.set j (a, y)).map (·.1) = l.map (·.1) := by
  rw [List.map_set]
  refine List.ext_getElem? fun k => ?_
  by_cases q : j = k
  · subst q
    have hl := (List.getElem?_eq_some_iff.mp h).1
    rw [List.getElem?_set_self (by rw [List.length_map]; exact hl), List.getElem?_map, h]; rfl
  · rw [List.getElem?_set_ne q]
/-- one of the lists is written -/
theorem Ok.write (o : Ok C M δ μ σ H) {j : Nat} {a : Addr} {mo mo' : MO} {ho : HO} (h : μ[j]? = some (a, mo)) (hn : MOok C.K (hide M H) (upd H a ho) a mo') : Ok C M δ (μ.set j (a, mo')) σ (upd H a ho) where
  len := o.len
  slot := fun i x h1 h2 => by
    rw [hide_upd (o.mem _ (List.mem_of_getElem? h)).1]; exact o.slot i x h1 h2
  mem := fun p hp => by
    have ha := o.mem _ (List.mem_of_getElem? h)
    rw [hide_upd ha.1]
    obtain ⟨k, hk⟩ := List.getElem?_of_mem hp
    by_cases q : j = k
    · subst q
      rw [List.getElem?_set_self (List.getElem?_eq_some_iff.mp h).1] at hk
      cases hk
      exact ⟨ha.1, ha.2.1, hn⟩
    · rw [List.getElem?_set_ne q] at hk
      obtain ⟨b1, b2, b3⟩ := o.mem p (List.mem_of_getElem? hk)
      refine ⟨b1, b2, b3.mono (Ex.refl _) fun u e => ?_⟩
      rw [upd_ne (fun z => ?_)]
      · exact e
      · have : (p.1, p.2) = p := rfl
        rw [← this, z] at hk
        exact q (nodup_fst o.nd h hk)
  nd := by rw [map_set_fst h]; exact o.nd
  alloc := fun b hb => by
    by_cases q : b = a
    · subst q; rw [upd_same]; exact fun z => nomatch z
    · rw [upd_ne q]; exact o.alloc b hb
  sub := o.sub
  gr := Ex.mut o.gr (o.mem _ (List.mem_of_getElem? h)).2.1
  base := by rw [hide_upd (o.mem _ (List.mem_of_getElem? h)).1]; exact o.base
theorem hide_new {p : Addr} {o : HO} (h : H p = none) : Ex (hide M H) (hide (p :: M) (upd H p o)) := fun a u e => by
  obtain ⟨q, e⟩ := hide_some e
  have ne : a ≠ p := ne_of_none e h
  rw [hide_out (fun z => (List.mem_cons.mp z).elim ne q), upd_ne ne]; exact e
/-- a new list of one's own -/
theorem Ok.new (o : Ok C M δ μ σ H) {p : Addr} {mo : MO} {ho : HO} (h : H p = none) (hn : MOok C.K (hide (p :: M) (upd H p ho)) (upd H p ho) p mo) : Ok C (p :: M) δ ((p, mo) :: μ) σ (upd H p ho) where
  len := o.len
  slot := fun i x h1 h2 => let ⟨v, a, b⟩ := o.slot i x h1 h2; ⟨v, a, b.mono (hide_new h)⟩
  mem := fun q hq => by
    rcases List.mem_cons.mp hq with e | hq
    · subst e
      refine ⟨List.mem_cons_self, ?_, hn⟩
      cases z : C.G p with
      | none => rfl
      | some u => have := o.gr p u z; rw [h] at this; cases this
    · obtain ⟨b1, b2, b3⟩ := o.mem q hq
      refine ⟨List.mem_cons_of_mem _ b1, b2, b3.mono (hide_new h) fun u e => ?_⟩
      rw [upd_ne (ne_of_none e h)]; exact e
  nd := by
    rw [List.map_cons, List.nodup_cons]
    refine ⟨fun z => ?_, o.nd⟩
    obtain ⟨q, hq, e⟩ := List.mem_map.mp z
    have := (o.mem q hq).2.2.there
    rw [show q.1 = p from e] at this
    exact this h
  alloc := fun b hb => by
    rcases List.mem_cons.mp hb with e | hb
    · subst e; rw [upd_same]; exact fun z => nomatch z
    · have ne : b ≠ p := fun z => o.alloc b hb (z ▸ h)
      rw [upd_ne ne]; exact o.alloc b hb
  sub := fun a ha => List.mem_cons_of_mem _ (o.sub a ha)
  gr := o.gr.trans (Ex.new h)
  base := o.base.trans (hide_new h)
end

/-! ### judgements -/
def EvX (C : Cfg) (te : TE) (M : List Addr) (δ : List Ent) (μ μ' : Mem) (e : Ent) : Prop := ∀ σ H, Ok C M δ μ σ H → ∀ Q : VK, (∀ v H', Ok C M δ μ' σ H' → Ex (hide M H) (hide M H') → EntOk C.K (hide M H') e v → Q v H') → te σ H Q
def EvT (C : Cfg) (tt : TT) (M : List Addr) (δ : List Ent) (μ μ' : Mem) (b : Bool) : Prop := ∀ σ H, Ok C M δ μ σ H → ∀ Q : Bool → Hp → Prop, (∀ H', Ok C M δ μ' σ H' → Ex (hide M H) (hide M H') → Q b H') → tt σ H Q
def EvA (C : Cfg) (ta : TA) (M : List Addr) (δ : List Ent) (μ μ' : Mem) (es : List Ent) : Prop := ∀ σ H, Ok C M δ μ σ H → ∀ Q : List V → Hp → Prop, (∀ vs H', Ok C M δ μ' σ H' → Ex (hide M H) (hide M H') → Paired (EntOk C.K (hide M H')) es vs → Q vs H') → ta σ H Q
def EvO (C : Cfg) (to : TO) (M : List Addr) (δ : List Ent) (μ μ' : Mem) (o : Option Int) : Prop := ∀ σ H, Ok C M δ μ σ H → ∀ Q : Option Int → Hp → Prop, (∀ H', Ok C M δ μ' σ H' → Ex (hide M H) (hide M H') → Q o H') → to σ H Q
def OpX (C : Cfg) (r : R2) (M : List Addr) (δ : List Ent) (μ μ' : Mem) (e1 e2 e3 : Ent) : Prop := ∀ σ H x y, Ok C M δ μ σ H → EntOk C.K (hide M H) e1 x → EntOk C.K (hide M H) e2 y → ∀ Q : VK, (∀ v H', Ok C M δ μ' σ H' → Ex (hide M H) (hide M H') → EntOk C.K (hide M H') e3 v → Q v H') → r x y H Q
def CallX (C : Cfg) (r : List V → Hp → VK → Prop) (M : List Addr) (δ : List Ent) (μ μ' : Mem) (es : List Ent) (e : Ent) : Prop := ∀ σ H vs, Ok C M δ μ σ H → Paired (EntOk C.K (hide M H)) es vs → ∀ Q : VK, (∀ v H', Ok C M δ μ' σ H' → Ex (hide M H) (hide M H') → EntOk C.K (hide M H') e v → Q v H') → r vs H Q
/-- what an entry reads as just now -/
inductive Rdd (μ : Mem) : Ent → PyData → Prop
  | d (d : PyData) : Rdd μ (.d d) d
  | m {j : Nat} {a : Addr} {ds : List PyData} : μ[j]? = some (a, .lst ds) → Rdd μ (.m a) (.list ds)
section
variable {C : Cfg} {M M' : List Addr} {δ δ' δ1 δ2 : List Ent} {μ μ' μ1 μ2 μ3 : Mem} {σ σ' σ1 σ2 : L2.St} {H H' : Hp} {e e1 e2 e3 : Ent} {ta tb te tc : TE} {t u : TT}
theorem Rdd.dp {x : PyData} (r : Rdd μ e x) (o : Ok C M δ μ σ H) {v : V} (h : EntOk C.K (hide M H) e v) : Dp C.K H v x := by
  cases r with
  | d _ => exact dp_mono hide_le x v h
  | m hj =>
    have h' : v = _ := h
    subst h'
    obtain ⟨_, _, vs, e1, q⟩ := o.mem _ (List.mem_of_getElem? hj)
    exact .lst (SqL.of e1) (dpAll_mono hide_le _ _ q)
/-- .. as a list or tuple whose items are data -/
theorem Rdd.lst {ds : List PyData} (r : Rdd μ e (.list ds)) (o : Ok C M δ μ σ H) {v : V} (h : EntOk C.K (hide M H) e v) : ∃ a vs, v = .ref a ∧ SqL C.K H a vs ∧ DpAll C.K (hide M H) vs ds := by
  cases r with
  | d _ =>
    obtain ⟨a, vs, e1, e2, e3⟩ := Dp.lst_of h
    exact ⟨a, vs, e1, ex_l hide_le e2, e3⟩
  | m hj =>
    have h' : v = _ := h
    obtain ⟨_, _, vs, e1, q⟩ := o.mem _ (List.mem_of_getElem? hj)
    exact ⟨_, vs, h', SqL.of e1, q⟩
theorem x_is (h : EvX C te M δ μ μ' e) (q : e = e1) : EvX C te M δ μ μ' e1 := by rw [← q]; exact h
theorem x_var {i : Nat} (h : δ[i]? = some e) (hu : e ≠ .u) : EvX C (tVar i) M δ μ μ e := fun σ H o Q k =>
  let ⟨v, a, b⟩ := o.slot i e h hu
  ⟨v, a, k v H o (Ex.refl _) b⟩
theorem x_vd {i : Nat} {d : PyData} (h : δ[i]? = some (.d d)) : EvX C (tVar i) M δ μ μ (.d d) := x_var h (fun z => nomatch z)
theorem x_vm {i : Nat} {a : Addr} (h : δ[i]? = some (.m a)) : EvX C (tVar i) M δ μ μ (.m a) := x_var h (fun z => nomatch z)
theorem x_int {i : Int} : EvX C (tC (.int i)) M δ μ μ (.d (.int i)) := fun σ H o Q k => k _ H o (Ex.refl _) (.int i)
theorem x_bl {i : Bool} : EvX C (tC (.bl i)) M δ μ μ (.d (.bool i)) := fun σ H o Q k => k _ H o (Ex.refl _) (.bl i)
theorem x_str {i : Str} : EvX C (tC (.str i)) M δ μ μ (.d (.str i)) := fun σ H o Q k => k _ H o (Ex.refl _) (.str i)
theorem x_non : EvX C (tC .non) M δ μ μ (.d .none) := fun σ H o Q k => k _ H o (Ex.refl _) .non
theorem x_op {r : R2} (ha : EvX C ta M δ μ μ1 e1) (hb : EvX C tb M δ μ1 μ2 e2) (hr : OpX C r M δ μ2 μ3 e1 e2 e3) : EvX C (tOp r ta tb) M δ μ μ3 e3 := fun σ H o Q k =>
  ha σ H o _ fun x H1 o1 x1 r1 => hb σ H1 o1 _ fun y H2 o2 x2 r2 => hr σ H2 x y o2 (r1.mono x2) r2 Q fun v H3 o3 x3 r3 => k v H3 o3 ((x1.trans x2).trans x3) r3
theorem x_un {r : V → Hp → VK → Prop} (ha : EvX C ta M δ μ μ1 e1) (hr : ∀ σ H x, Ok C M δ μ1 σ H → EntOk C.K (hide M H) e1 x → ∀ Q : VK, (∀ v H', Ok C M δ μ2 σ H' → Ex (hide M H) (hide M H') → EntOk C.K (hide M H') e3 v → Q v H') → r x H Q) : EvX C (tUn r ta) M δ μ μ2 e3 := fun σ H o Q k =>
  ha σ H o _ fun x H1 o1 x1 r1 => hr σ H1 x o1 r1 Q fun v H3 o3 x3 r3 => k v H3 o3 (x1.trans x3) r3
theorem x_neg {i : Int} (ha : EvX C ta M δ μ μ1 (.d (.int i))) : EvX C (tUn (rU fun i => .int (-i)) ta) M δ μ μ1 (.d (.int (-i))) :=
  x_un ha fun σ H x o h Q k => ⟨i, Dp.int_of h, k _ H o (Ex.refl _) (.int _)⟩
theorem o_I0 {g : Int → Int → Int} {i j : Int} : OpX C (rI0 fun i j => .int (g i j)) M δ μ μ (.d (.int i)) (.d (.int j)) (.d (.int (g i j))) := fun σ H x y o h1 h2 Q k =>
  ⟨i, j, Dp.int_of h1, Dp.int_of h2, k _ H o (Ex.refl _) (.int _)⟩
theorem o_B0 {g : Int → Int → Bool} {i j : Int} : OpX C (rI0 fun i j => .bl (g i j)) M δ μ μ (.d (.int i)) (.d (.int j)) (.d (.bool (g i j))) := fun σ H x y o h1 h2 Q k =>
  ⟨i, j, Dp.int_of h1, Dp.int_of h2, k _ H o (Ex.refl _) (.bl _)⟩
theorem o_I {c : Int → Int → Prop} {g : Int → Int → Int} {i j : Int} (hc : c i j) : OpX C (rI c fun i j => .int (g i j)) M δ μ μ (.d (.int i)) (.d (.int j)) (.d (.int (g i j))) := fun σ H x y o h1 h2 Q k =>
  ⟨i, j, Dp.int_of h1, Dp.int_of h2, hc, k _ H o (Ex.refl _) (.int _)⟩
theorem o_eqD {d1 d2 : PyData} (r1 : Rdd μ e1 d1) (r2 : Rdd μ e2 d2) (s1 : SeqAt.shaped d1 = true) (s2 : SeqAt.shaped d2 = true) : OpX C (rEqD C.K) M δ μ μ e1 e2 (.d (.bool (PyData.eqv d1 d2))) := fun σ H x y o h1 h2 Q k =>
  ⟨d1, d2, r1.dp o h1, r2.dp o h2, s1, s2, k _ H o (Ex.refl _) (.bl _)⟩
theorem o_neD {d1 d2 : PyData} (r1 : Rdd μ e1 d1) (r2 : Rdd μ e2 d2) (s1 : SeqAt.shaped d1 = true) (s2 : SeqAt.shaped d2 = true) : OpX C (rNeD C.K) M δ μ μ e1 e2 (.d (.bool (!PyData.eqv d1 d2))) := fun σ H x y o h1 h2 Q k =>
  ⟨d1, d2, r1.dp o h1, r2.dp o h2, s1, s2, k _ H o (Ex.refl _) (.bl _)⟩
theorem at_dp {K : PySem.W.Frag} {Hh : Hp} {vs : List V} {ds : List PyData} {i : Int} {d : PyData} (h : DpAll K Hh vs ds) (ha : atI ds i = some d) : ∃ v, atI vs i = some v ∧ Dp K Hh v d := by
  unfold atI at ha ⊢
  rw [DpAll.length h]
  cases q : ixN ds.length i with
  | none => rw [q] at ha; cases ha
  | some j =>
    rw [q] at ha
    exact h.get ha
theorem o_ixL {i : Int} {ds : List PyData} {d : PyData} (r : Rdd μ e1 (.list ds)) (ha : atI ds i = some d) : OpX C (rIxL C.K) M δ μ μ e1 (.d (.int i)) (.d d) := fun σ H x y o h1 h2 Q k => by
  obtain ⟨a, vs, q1, q2, q3⟩ := r.lst o h1
  obtain ⟨v, q4, q5⟩ := at_dp q3 ha
  exact ⟨a, vs, i, v, q1, Dp.int_of h2, q2, q4, k _ H o (Ex.refl _) q5⟩
theorem o_ixT {i : Int} {ds : List PyData} {d : PyData} (ha : atI ds i = some d) : OpX C (rIxT C.K) M δ μ μ (.d (.tuple ds)) (.d (.int i)) (.d d) := fun σ H x y o h1 h2 Q k => by
  obtain ⟨a, vs, q1, q2, q3⟩ := Dp.tup_of h1
  obtain ⟨v, q4, q5⟩ := at_dp q3 ha
  exact ⟨a, vs, i, v, q1, Dp.int_of h2, ex_t hide_le q2, q4, k _ H o (Ex.refl _) q5⟩
theorem dpAll_nil {K : PySem.W.Frag} {H : Hp} {vs : List V} {ds : List PyData} (h : DpAll K H vs ds) : vs = [] ↔ ds = [] := by
  cases h with
  | nil => simp
  | cons _ _ => simp
/-- a new tracked tuple -/
theorem Ok.tup (o : Ok C M δ μ σ H) {p : Addr} {vs : List V} {ds : List PyData} (hp : H p = none) (h : DpAll C.K (hide M H) vs ds) : Ok C M δ μ σ (upd H p (.tup vs)) ∧ Ex (hide M H) (hide M (upd H p (.tup vs))) ∧ Dp C.K (hide M (upd H p (.tup vs))) (.ref p) (.tuple ds) := by
  have e : Ex H (upd H p (.tup vs)) := Ex.new hp
  refine ⟨o.grow e, hide_ex e, .tup (st_of ?_) (dpAll_mono (hide_ex e) _ _ h)⟩
  rw [hide_out (o.fresh hp), upd_same]
theorem Ok.lst (o : Ok C M δ μ σ H) {p : Addr} {vs : List V} {ds : List PyData} (hp : H p = none) (h : DpAll C.K (hide M H) vs ds) : Ok C M δ μ σ (upd H p (.lst vs)) ∧ Ex (hide M H) (hide M (upd H p (.lst vs))) ∧ Dp C.K (hide M (upd H p (.lst vs))) (.ref p) (.list ds) := by
  have e : Ex H (upd H p (.lst vs)) := Ex.new hp
  refine ⟨o.grow e, hide_ex e, .lst (sq_of ?_) (dpAll_mono (hide_ex e) _ _ h)⟩
  rw [hide_out (o.fresh hp), upd_same]
theorem o_catT {ds es : List PyData} (hz : ds.length + es.length ≤ 100000) : OpX C (rCatA C.K) M δ μ μ (.d (.tuple ds)) (.d (.tuple es)) (.d (.tuple (ds ++ es))) := fun σ H x y o h1 h2 Q k => by
  obtain ⟨a, vs, q1, q2, q3⟩ := Dp.tup_of h1
  obtain ⟨b, ws, p1, p2, p3⟩ := Dp.tup_of h2
  refine ⟨a, b, vs, ws, q1, p1, ex_t hide_le q2, ex_t hide_le p2, ?_, fun z => ?_, fun z1 z2 => ?_, fun z1 z2 p hp => ?_⟩
  · rw [q3.length, p3.length]; exact sz_of hz
  · have z' := (dpAll_nil q3).mp z
    subst z'
    refine k _ H o (Ex.refl _) ?_
    rw [← p1]; exact h2
  · have z' := (dpAll_nil p3).mp z2
    subst z'
    refine k _ H o (Ex.refl _) ?_
    rw [← q1, List.append_nil]; exact h1
  · obtain ⟨o', x', d'⟩ := o.tup hp (q3.append p3)
    exact k _ _ o' x' d'
def isNon : PyData → Bool
  | .none => true
  | _ => false
theorem o_isN {d : PyData} : OpX C (fun x y H Q => y = .non ∧ Q (.bl (decide (x = .non))) H) M δ μ μ (.d d) (.d .none) (.d (.bool (isNon d))) := fun σ H x y o h1 h2 Q k => by
  refine ⟨Dp.none_of h2, k _ H o (Ex.refl _) ?_⟩
  have e : decide (x = .non) = isNon d := by
    cases d <;> cases h1 <;> simp [isNon]
  rw [e]; exact .bl _
theorem o_notN {d : PyData} : OpX C (fun x y H Q => y = .non ∧ Q (.bl (!decide (x = .non))) H) M δ μ μ (.d d) (.d .none) (.d (.bool (!isNon d))) := fun σ H x y o h1 h2 Q k => by
  refine ⟨Dp.none_of h2, k _ H o (Ex.refl _) ?_⟩
  have e : decide (x = .non) = isNon d := by
    cases d <;> cases h1 <;> simp [isNon]
  rw [e]; exact .bl _

/-! ### arguments, displays -/
theorem a_nil : EvA C tNil M δ μ μ [] := fun σ H o Q k => k [] H o (Ex.refl _) .nil
theorem entsMono {K : PySem.W.Frag} {H H' : Hp} (x : Ex H H') {es : List Ent} {vs : List V} (h : Paired (EntOk K H) es vs) : Paired (EntOk K H') es vs := Paired.mapP h fun _ _ q => q.mono x
theorem a_cons {tr : TA} {es : List Ent} (h : EvX C ta M δ μ μ1 e) (hr : EvA C tr M δ μ1 μ2 es) : EvA C (tCons ta tr) M δ μ μ2 (e :: es) := fun σ H o Q k =>
  h σ H o _ fun v H1 o1 x1 r1 => hr σ H1 o1 _ fun vs H2 o2 x2 r2 => k (v :: vs) H2 o2 (x1.trans x2) (.cons (r1.mono x2) r2)
theorem dpAll_of {K : PySem.W.Frag} {H : Hp} : ∀ {ds : List PyData} {vs : List V}, Paired (EntOk K H) (ds.map Ent.d) vs → DpAll K H vs ds
  | [], _, h => by cases h; exact .nil
  | d :: ds, _, h => by
    cases h with
    | cons h1 h2 => exact .cons h1 (dpAll_of h2)
theorem x_tup {tr : TA} {ds : List PyData} (h : EvA C tr M δ μ μ' (ds.map Ent.d)) (hl : ds.length ≤ 100000) : EvX C (tTup tr) M δ μ μ' (.d (.tuple ds)) := fun σ H o Q k =>
  h σ H o _ fun vs H1 o1 x1 r1 => ⟨by have := (dpAll_of r1).length; rw [this]; exact sz_of hl, fun p hp => by
    obtain ⟨o', x', d'⟩ := o1.tup hp (dpAll_of r1)
    exact k _ _ o' (x1.trans x') d'⟩
theorem x_lst {tr : TA} {ds : List PyData} (h : EvA C tr M δ μ μ' (ds.map Ent.d)) (hl : ds.length ≤ 100000) : EvX C (tLst tr) M δ μ μ' (.d (.list ds)) := fun σ H o Q k =>
  h σ H o _ fun vs H1 o1 x1 r1 => ⟨by have := (dpAll_of r1).length; rw [this]; exact sz_of hl, fun p hp => by
    obtain ⟨o', x', d'⟩ := o1.lst hp (dpAll_of r1)
    exact k _ _ o' (x1.trans x') d'⟩
/-! ### calls of built-ins -/
theorem x_cb {r : List V → Hp → VK → Prop} {tr : TA} {es : List Ent} (h : EvA C tr M δ μ μ1 es) (hr : CallX C r M δ μ1 μ2 es e) : EvX C (tCB r tr) M δ μ μ2 e := fun σ H o Q k =>
  h σ H o _ fun vs H1 o1 x1 r1 => hr σ H1 vs o1 r1 Q fun v H2 o2 x2 r2 => k v H2 o2 (x1.trans x2) r2
theorem p1 {α β : Type} {F : α → β → Prop} {a : α} {bs : List β} (h : Paired F [a] bs) : ∃ b, bs = [b] ∧ F a b := by
  cases h with
  | cons h1 h2 => cases h2; exact ⟨_, rfl, h1⟩
theorem p2 {α β : Type} {F : α → β → Prop} {a a' : α} {bs : List β} (h : Paired F [a, a'] bs) : ∃ b b', bs = [b, b'] ∧ F a b ∧ F a' b' := by
  cases h with
  | cons h1 h2 => obtain ⟨b, rfl, q⟩ := p1 h2; exact ⟨_, _, rfl, h1, q⟩
theorem c_abs {i : Int} : CallX C (fun xs H Q => ∃ i, xs = [.int i] ∧ Q (.int (if i < 0 then -i else i)) H) M δ μ μ [.d (.int i)] (.d (.int (if i < 0 then -i else i))) := fun σ H vs o h Q k => by
  obtain ⟨v, rfl, q⟩ := p1 h
  exact ⟨i, by rw [Dp.int_of q], k _ H o (Ex.refl _) (.int _)⟩
theorem c_max2 {i j : Int} : CallX C (fun xs H Q => ∃ i j, xs = [.int i, .int j] ∧ Q (.int (if j > i then j else i)) H) M δ μ μ [.d (.int i), .d (.int j)] (.d (.int (if j > i then j else i))) := fun σ H vs o h Q k => by
  obtain ⟨v, w, rfl, q, q'⟩ := p2 h
  exact ⟨i, j, by rw [Dp.int_of q, Dp.int_of q'], k _ H o (Ex.refl _) (.int _)⟩
theorem c_min2 {i j : Int} : CallX C (fun xs H Q => ∃ i j, xs = [.int i, .int j] ∧ Q (.int (if j < i then j else i)) H) M δ μ μ [.d (.int i), .d (.int j)] (.d (.int (if j < i then j else i))) := fun σ H vs o h Q k => by
  obtain ⟨v, w, rfl, q, q'⟩ := p2 h
  exact ⟨i, j, by rw [Dp.int_of q, Dp.int_of q'], k _ H o (Ex.refl _) (.int _)⟩
theorem c_intI {i : Int} : CallX C (fun xs H Q => (∃ i, xs = [.int i] ∧ Q (.int i) H) ∨ ∃ k, xs = [.bl k] ∧ Q (.int (if k then 1 else 0)) H) M δ μ μ [.d (.int i)] (.d (.int i)) := fun σ H vs o h Q k => by
  obtain ⟨v, rfl, q⟩ := p1 h
  exact .inl ⟨i, by rw [Dp.int_of q], k _ H o (Ex.refl _) (.int _)⟩
theorem c_intB {b : Bool} : CallX C (fun xs H Q => (∃ i, xs = [.int i] ∧ Q (.int i) H) ∨ ∃ k, xs = [.bl k] ∧ Q (.int (if k then 1 else 0)) H) M δ μ μ [.d (.bool b)] (.d (.int (if b then 1 else 0))) := fun σ H vs o h Q k => by
  obtain ⟨v, rfl, q⟩ := p1 h
  exact .inr ⟨b, by rw [Dp.bool_of q], k _ H o (Ex.refl _) (.int _)⟩
abbrev rLenS (K : PySem.W.Frag) : List V → Hp → VK → Prop := fun xs H Q => ∃ p ys, xs = [.ref p] ∧ (SqL K H p ys ∨ SqT K H p ys) ∧ Q (.int ys.length) H
theorem c_lenL {ds : List PyData} (r : Rdd μ e (.list ds)) : CallX C (rLenS C.K) M δ μ μ [e] (.d (.int (ds.length : Int))) := fun σ H vs o h Q k => by
  obtain ⟨v, rfl, q⟩ := p1 h
  obtain ⟨a, ws, q1, q2, q3⟩ := r.lst o q
  refine ⟨a, ws, by rw [q1], .inl q2, k _ H o (Ex.refl _) ?_⟩
  rw [q3.length]; exact .int _
theorem c_lenT {ds : List PyData} : CallX C (rLenS C.K) M δ μ μ [.d (.tuple ds)] (.d (.int (ds.length : Int))) := fun σ H vs o h Q k => by
  obtain ⟨v, rfl, q⟩ := p1 h
  obtain ⟨a, ws, q1, q2, q3⟩ := Dp.tup_of q
  refine ⟨a, ws, by rw [q1], .inr (ex_t hide_le q2), k _ H o (Ex.refl _) ?_⟩
  rw [q3.length]; exact .int _
theorem c_sum {ns : List Int} (r : Rdd μ e (.list (ns.map .int))) : CallX C (rSum C.K) M δ μ μ [e] (.d (.int ns.sum)) := fun σ H vs o h Q k => by
  obtain ⟨v, rfl, q⟩ := p1 h
  obtain ⟨a, ws, q1, q2, q3⟩ := r.lst o q
  rw [q3.ints] at q2
  exact ⟨a, ns, by rw [q1], q2, k _ H o (Ex.refl _) (.int _)⟩
theorem c_minI {ns : List Int} {m : Int} (r : Rdd μ e (.list (ns.map .int))) (hm : m ∈ ns) (hl : ∀ y ∈ ns, m ≤ y) : CallX C (rMin C.K) M δ μ μ [e] (.d (.int m)) := fun σ H vs o h Q k => by
  obtain ⟨v, rfl, q⟩ := p1 h
  obtain ⟨a, ws, q1, q2, q3⟩ := r.lst o q
  rw [q3.ints] at q2
  refine ⟨a, ns, by rw [q1], q2, List.length_pos_of_mem hm, fun m' h1 h2 => ?_⟩
  have e : m' = m := Int.le_antisymm (h2 m hm) (hl m' h1)
  subst e
  exact k _ H o (Ex.refl _) (.int _)
theorem c_maxI {ns : List Int} {m : Int} (r : Rdd μ e (.list (ns.map .int))) (hm : m ∈ ns) (hl : ∀ y ∈ ns, y ≤ m) : CallX C (rMax C.K) M δ μ μ [e] (.d (.int m)) := fun σ H vs o h Q k => by
  obtain ⟨v, rfl, q⟩ := p1 h
  obtain ⟨a, ws, q1, q2, q3⟩ := r.lst o q
  rw [q3.ints] at q2
  refine ⟨a, ns, by rw [q1], q2, List.length_pos_of_mem hm, fun m' h1 h2 => ?_⟩
  have e : m' = m := Int.le_antisymm (hl m' h1) (h2 m hm)
  subst e
  exact k _ H o (Ex.refl _) (.int _)
abbrev rTupleS (K : PySem.W.Frag) : List V → Hp → VK → Prop := fun xs H Q => ∃ p ys, xs = [.ref p] ∧ ((SqL K H p ys ∧ ∀ l, H l = none → Q (.ref l) (upd H l (.tup ys))) ∨ (SqT K H p ys ∧ Q (.ref p) H))
theorem c_tupleL {ds : List PyData} (r : Rdd μ e (.list ds)) : CallX C (rTupleS C.K) M δ μ μ [e] (.d (.tuple ds)) := fun σ H vs o h Q k => by
  obtain ⟨v, rfl, q⟩ := p1 h
  obtain ⟨a, ws, q1, q2, q3⟩ := r.lst o q
  refine ⟨a, ws, by rw [q1], .inl ⟨q2, fun l hl => ?_⟩⟩
  obtain ⟨o', x', d'⟩ := o.tup hl q3
  exact k _ _ o' x' d'
end
end FD
namespace FD
open PySem L2 Evl
section
variable {C : Cfg} {M M' : List Addr} {δ δ' δ1 δ2 : List Ent} {μ μ' μ1 μ2 μ3 : Mem} {σ σ' σ1 σ2 : L2.St} {H H' : Hp} {e e1 e2 e3 : Ent} {ta tb te tc : TE} {t u : TT} {b c : Bool}
/-! ### tests -/
theorem t_is (h : EvT C t M δ μ μ' b) (q : b = c) : EvT C t M δ μ μ' c := by rw [← q]; exact h
theorem t_test (h : EvX C te M δ μ μ' (.d (.bool b))) : EvT C (tTest te) M δ μ μ' b := fun σ H o Q k => h σ H o _ fun v H' o' x r => ⟨b, Dp.bool_of r, k H' o' x⟩
theorem t_B (h : EvX C te M δ μ μ' (.d (.bool b))) : EvT C (tB te) M δ μ μ' b := fun σ H o Q k => h σ H o _ fun v H' o' x r => ⟨b, Dp.bool_of r, k H' o' x⟩
theorem t_not (h : EvT C t M δ μ μ' b) : EvT C (tNot t) M δ μ μ' (!b) := fun σ H o Q k => h σ H o _ fun H' o' x => k H' o' x
theorem t_yes : EvT C tYes M δ μ μ true := fun σ H o Q k => k H o (Ex.refl _)
/-- the second where the first holds; where it does not, the lists stand as behind the first -/
theorem t_and (h1 : EvT C t M δ μ μ1 b) (h2 : b = true → EvT C u M δ μ1 μ2 c) (h3 : b = false → μ1 = μ2) : EvT C (tAnd t u) M δ μ μ2 (b && c) := fun σ H o Q k => h1 σ H o _ fun H1 o1 x1 => by
  cases b with
  | true =>
    show u σ H1 Q
    exact h2 rfl σ H1 o1 Q fun H2 o2 x2 => k H2 o2 (x1.trans x2)
  | false =>
    show Q false H1
    have := h3 rfl
    subst this
    exact k H1 o1 x1
theorem t_or (h1 : EvT C t M δ μ μ1 b) (h2 : b = false → EvT C u M δ μ1 μ2 c) (h3 : b = true → μ1 = μ2) : EvT C (tOr t u) M δ μ μ2 (b || c) := fun σ H o Q k => h1 σ H o _ fun H1 o1 x1 => by
  cases b with
  | false =>
    show u σ H1 Q
    exact h2 rfl σ H1 o1 Q fun H2 o2 x2 => k H2 o2 (x1.trans x2)
  | true =>
    show Q true H1
    have := h3 rfl
    subst this
    exact k H1 o1 x1
theorem x_if (h : EvT C t M δ μ μ1 b) (h1 : b = true → EvX C ta M δ μ1 μ2 e) (h2 : b = false → EvX C tb M δ μ1 μ2 e) : EvX C (tIf t ta tb) M δ μ μ2 e := fun σ H o Q k => h σ H o _ fun H1 o1 x1 => by
  cases b with
  | true =>
    show ta σ H1 Q
    exact h1 rfl σ H1 o1 Q fun v H2 o2 x2 r => k v H2 o2 (x1.trans x2) r
  | false =>
    show tb σ H1 Q
    exact h2 rfl σ H1 o1 Q fun v H2 o2 x2 r => k v H2 o2 (x1.trans x2) r
theorem x_if2 {d1 d2 : PyData} (h : EvT C t M δ μ μ1 b) (h1 : EvX C ta M δ μ1 μ2 (.d d1)) (h2 : EvX C tb M δ μ1 μ2 (.d d2)) : EvX C (tIf t ta tb) M δ μ μ2 (.d (if b = true then d1 else d2)) :=
  x_if h (fun q => by rw [if_pos q]; exact h1) (fun q => by rw [if_neg (by rw [q]; decide)]; exact h2)
/-- or, and as values -/
theorem x_orV (h1 : EvX C ta M δ μ μ1 (.d (.bool b))) (h2 : b = false → EvX C tb M δ μ1 μ2 (.d (.bool c))) (h3 : b = true → μ1 = μ2) : EvX C (tOrV ta tb) M δ μ μ2 (.d (.bool (b || c))) := fun σ H o Q k => h1 σ H o _ fun v H1 o1 x1 r => ⟨b, Dp.bool_of r, by
  cases b with
  | false =>
    show tb σ H1 Q
    exact h2 rfl σ H1 o1 Q fun v H2 o2 x2 r => k v H2 o2 (x1.trans x2) r
  | true =>
    show Q (.bl true) H1
    have := h3 rfl
    subst this
    exact k _ H1 o1 x1 (.bl true)⟩
theorem x_andV (h1 : EvX C ta M δ μ μ1 (.d (.bool b))) (h2 : b = true → EvX C tb M δ μ1 μ2 (.d (.bool c))) (h3 : b = false → μ1 = μ2) : EvX C (tAndV ta tb) M δ μ μ2 (.d (.bool (b && c))) := fun σ H o Q k => h1 σ H o _ fun v H1 o1 x1 r => ⟨b, Dp.bool_of r, by
  cases b with
  | true =>
    show tb σ H1 Q
    exact h2 rfl σ H1 o1 Q fun v H2 o2 x2 r => k v H2 o2 (x1.trans x2) r
  | false =>
    show Q (.bl false) H1
    have := h3 rfl
    subst this
    exact k _ H1 o1 x1 (.bl false)⟩
theorem x_notV (h1 : EvX C ta M δ μ μ1 (.d (.bool b))) : EvX C (tNotV ta) M δ μ μ1 (.d (.bool (!b))) := fun σ H o Q k => h1 σ H o _ fun v H1 o1 x1 r => ⟨b, Dp.bool_of r, k _ H1 o1 x1 (.bl _)⟩

/-! ### slices -/
def cutD (xs : List PyData) (lo hi : Option Int) : List PyData := (xs.drop (HT.sIx xs.length 0 lo)).take (HT.sIx xs.length xs.length hi - HT.sIx xs.length 0 lo)
theorem cut_dp {K : PySem.W.Frag} {Hh : Hp} {vs : List V} {ds : List PyData} (h : DpAll K Hh vs ds) (lo hi : Option Int) : DpAll K Hh (cutV vs lo hi) (cutD ds lo hi) := by
  unfold cutV cutD
  rw [h.length]
  exact (h.drop _).take _
theorem p_none : EvO C tNoPart M δ μ μ none := fun σ H o Q k => k H o (Ex.refl _)
theorem p_some {i : Int} (h : EvX C te M δ μ μ' (.d (.int i))) : EvO C (tPart te) M δ μ μ' (some i) := fun σ H o Q k => h σ H o _ fun v H1 o1 x1 r => ⟨i, Dp.int_of r, k H1 o1 x1⟩
theorem cutD_whole {ds : List PyData} {lo hi : Option Int} (h : HT.sIx ds.length 0 lo = 0 ∧ HT.sIx ds.length ds.length hi = ds.length) : cutD ds lo hi = ds := by
  unfold cutD
  rw [h.1, h.2, List.drop_zero, Nat.sub_zero, List.take_length]
theorem x_slT {tl th : TO} {ds : List PyData} {lo hi : Option Int} (h : EvX C te M δ μ μ1 (.d (.tuple ds))) (hl : EvO C tl M δ μ1 μ2 lo) (hh : EvO C th M δ μ2 μ3 hi) : EvX C (tSl (rSlA C.K) te tl th) M δ μ μ3 (.d (.tuple (cutD ds lo hi))) := fun σ H o Q k =>
  h σ H o _ fun v H1 o1 x1 r1 => hl σ H1 o1 _ fun H2 o2 x2 => hh σ H2 o2 _ fun H3 o3 x3 => by
    obtain ⟨a, vs, q1, q2, q3⟩ := Dp.tup_of (EntOk.mono (e := .d (.tuple ds)) (x2.trans x3) r1)
    refine ⟨a, vs, q1, ex_t hide_le q2, fun hw => ?_, fun _ p hp => ?_⟩
    · refine k _ H3 o3 ((x1.trans x2).trans x3) ?_
      rw [q3.length] at hw
      rw [cutD_whole hw, ← q1]
      exact EntOk.mono (e := .d (.tuple ds)) (x2.trans x3) r1
    · obtain ⟨o', x', d'⟩ := o3.tup hp (cut_dp q3 lo hi)
      exact k _ _ o' (((x1.trans x2).trans x3).trans x') d'
theorem x_slL {tl th : TO} {ds : List PyData} {lo hi : Option Int} (h : EvX C te M δ μ μ1 e) (hl : EvO C tl M δ μ1 μ2 lo) (hh : EvO C th M δ μ2 μ3 hi) (r : Rdd μ3 e (.list ds)) : EvX C (tSl (rSlL C.K) te tl th) M δ μ μ3 (.d (.list (cutD ds lo hi))) := fun σ H o Q k =>
  h σ H o _ fun v H1 o1 x1 r1 => hl σ H1 o1 _ fun H2 o2 x2 => hh σ H2 o2 _ fun H3 o3 x3 => by
    obtain ⟨a, vs, q1, q2, q3⟩ := r.lst o3 (r1.mono (x2.trans x3))
    refine ⟨a, vs, q1, q2, fun p hp => ?_⟩
    obtain ⟨o', x', d'⟩ := o3.lst hp (cut_dp q3 lo hi)
    exact k _ _ o' (((x1.trans x2).trans x3).trans x') d'

/-! ### what is walked -/
structure WalkD (K : PySem.W.Frag) (J : It) (Hh : Hp) (xs : List PyData) : Prop where
  go : ∀ (M : List Addr) i H, i < xs.length → (∀ a ∈ M, H a ≠ none) → Ex Hh (hide M H) → J.go i H
  stop : ∀ (M : List Addr) H, (∀ a ∈ M, H a ≠ none) → Ex Hh (hide M H) → J.stop xs.length H
  yld : ∀ (M : List Addr) i H x H', i < xs.length → (∀ a ∈ M, H a ≠ none) → Ex Hh (hide M H) → J.yld i H x H' → Ex H H' ∧ ∃ d, xs[i]? = some d ∧ Dp K (hide M H') x d
/-- the same where the walk leans on the heap besides -/
structure WalkN (K : PySem.W.Frag) (J : It) (Hh : Hp) (N : Hp → Prop) (xs : List PyData) : Prop where
  go : ∀ (M : List Addr) (i : Nat) (H : Hp), i < xs.length → (∀ a ∈ M, H a ≠ none) → Ex Hh (hide M H) → N H → J.go i H
  stop : ∀ (M : List Addr) (H : Hp), (∀ a ∈ M, H a ≠ none) → Ex Hh (hide M H) → N H → J.stop xs.length H
  yld : ∀ (M : List Addr) (i : Nat) (H : Hp) (x : V) (H' : Hp), i < xs.length → (∀ a ∈ M, H a ≠ none) → Ex Hh (hide M H) → N H → J.yld i H x H' → Ex H H' ∧ ∃ d, xs[i]? = some d ∧ Dp K (hide M H') x d
theorem WalkD.toN {K : PySem.W.Frag} {J : It} {Hh : Hp} {xs : List PyData} (W : WalkD K J Hh xs) : WalkN K J Hh (fun _ => True) xs := ⟨fun M i H h1 h2 h3 _ => W.go M i H h1 h2 h3, fun M H h1 h2 _ => W.stop M H h1 h2, fun M i H x H' h1 h2 h3 _ y => W.yld M i H x H' h1 h2 h3 y⟩
def EvIN (C : Cfg) (wi : TI) (M : List Addr) (δ : List Ent) (μ μ' : Mem) (N : Hp → Prop) (xs : List PyData) : Prop := ∀ σ H, Ok C M δ μ σ H → ∀ R : It → Hp → Prop, (∀ J H', Ok C M δ μ' σ H' → Ex (hide M H) (hide M H') → WalkN C.K J (hide M H') N xs → R J H') → wi σ H R
def EvI (C : Cfg) (wi : TI) (M : List Addr) (δ : List Ent) (μ μ' : Mem) (xs : List PyData) : Prop := ∀ σ H, Ok C M δ μ σ H → ∀ R : It → Hp → Prop, (∀ J H', Ok C M δ μ' σ H' → Ex (hide M H) (hide M H') → WalkD C.K J (hide M H') xs → R J H') → wi σ H R
theorem EvI.toN {wi : TI} {xs : List PyData} (h : EvI C wi M δ μ μ' xs) : EvIN C wi M δ μ μ' (fun _ => True) xs := fun σ H o R k => h σ H o R fun J H' o' x W => k J H' o' x W.toN
theorem w_list {K : PySem.W.Frag} {Hh : Hp} {a : Addr} {vs : List V} {xs : List PyData} (h : SqL K Hh a vs) (hd : DpAll K Hh vs xs) : WalkD K (Itl K a) Hh xs where
  go := fun M i H hi _ x => by
    rw [← hd.length] at hi
    exact ⟨vs, vs[i], ex_l (x.trans hide_le) h, by simp [hi]⟩
  stop := fun M H _ x => ⟨vs, ex_l (x.trans hide_le) h, by rw [hd.length]; exact Nat.le_refl _⟩
  yld := fun M i H y H' hi _ x q => by
    obtain ⟨e, q⟩ := q
    subst e
    refine ⟨Ex.refl _, xs[i], by simp [hi], ?_⟩
    obtain ⟨v, h1, h2⟩ := hd.get (i := i) (d := xs[i]) (by simp [hi])
    have := q vs (ex_l (x.trans hide_le) h)
    rw [this] at h1
    cases h1
    exact dp_mono x _ _ h2
theorem w_tup {K : PySem.W.Frag} {Hh : Hp} {a : Addr} {vs : List V} {xs : List PyData} (h : SqT K Hh a vs) (hd : DpAll K Hh vs xs) : WalkD K (Itt K a) Hh xs where
  go := fun M i H hi _ x => by
    rw [← hd.length] at hi
    exact ⟨vs, vs[i], ex_t (x.trans hide_le) h, by simp [hi]⟩
  stop := fun M H _ x => ⟨vs, ex_t (x.trans hide_le) h, by rw [hd.length]; exact Nat.le_refl _⟩
  yld := fun M i H y H' hi _ x q => by
    obtain ⟨e, q⟩ := q
    subst e
    refine ⟨Ex.refl _, xs[i], by simp [hi], ?_⟩
    obtain ⟨v, h1, h2⟩ := hd.get (i := i) (d := xs[i]) (by simp [hi])
    have := q vs (ex_t (x.trans hide_le) h)
    rw [this] at h1
    cases h1
    exact dp_mono x _ _ h2
def rngD (lo : Int) (n : Nat) : List PyData := (List.range n).map fun (i : Nat) => PyData.int (lo + (i : Int))
theorem rngD_length (lo : Int) (n : Nat) : (rngD lo n).length = n := by simp [rngD]
theorem rngD_get {lo : Int} {n i : Nat} (h : i < n) : (rngD lo n)[i]? = some (.int (lo + (i : Int))) := by simp [rngD, h]
theorem w_rng {K : PySem.W.Frag} {Hh : Hp} {lo : Int} {n : Nat} : WalkD K (Itr lo n) Hh (rngD lo n) where
  go := fun M i H hi _ x => by rw [rngD_length] at hi; exact hi
  stop := fun M H _ x => by rw [rngD_length]; exact Nat.le_refl _
  yld := fun M i H y H' hi _ x q => by
    rw [rngD_length] at hi
    obtain ⟨e, q⟩ := q
    subst e
    subst q
    exact ⟨Ex.refl _, _, rngD_get hi, .int _⟩
theorem i_list {xs : List PyData} (h : EvX C te M δ μ μ' (.d (.list xs))) : EvI C (iList C.K te) M δ μ μ' xs := fun σ H o R k => h σ H o _ fun v H1 o1 x1 r => by
  obtain ⟨a, vs, q1, q2, q3⟩ := Dp.lst_of r
  exact ⟨a, q1, ⟨vs, ex_l hide_le q2⟩, k _ H1 o1 x1 (w_list q2 q3)⟩
theorem i_tup {xs : List PyData} (h : EvX C te M δ μ μ' (.d (.tuple xs))) : EvI C (iTup C.K te) M δ μ μ' xs := fun σ H o R k => h σ H o _ fun v H1 o1 x1 r => by
  obtain ⟨a, vs, q1, q2, q3⟩ := Dp.tup_of r
  exact ⟨a, q1, ⟨vs, ex_t hide_le q2⟩, k _ H1 o1 x1 (w_tup q2 q3)⟩
theorem i_rng1 {tr : TA} {n : Int} (h : EvA C tr M δ μ μ' [.d (.int n)]) (h0 : -(2 ^ 62) ≤ n) (h1 : n < 2 ^ 62) : EvI C (iRng1 tr) M δ μ μ' (rngD 0 n.toNat) := fun σ H o R k => h σ H o _ fun vs H1 o1 x1 r => by
  obtain ⟨v, rfl, q⟩ := p1 r
  exact ⟨n, by rw [Dp.int_of q], h0, h1, k _ H1 o1 x1 w_rng⟩
theorem i_rng2 {tr : TA} {m n : Int} (h : EvA C tr M δ μ μ' [.d (.int m), .d (.int n)]) (h0 : -(2 ^ 62) ≤ m ∧ m < 2 ^ 62 ∧ -(2 ^ 62) ≤ n ∧ n < 2 ^ 62) : EvI C (iRng2 tr) M δ μ μ' (rngD m (n - m).toNat) := fun σ H o R k => h σ H o _ fun vs H1 o1 x1 r => by
  obtain ⟨v, w, rfl, q, q'⟩ := p2 r
  exact ⟨m, n, by rw [Dp.int_of q, Dp.int_of q'], h0, k _ H1 o1 x1 w_rng⟩
/-- pairs -/
def pairD (xs ys : List PyData) : List PyData := (xs.zip ys).map fun p => .tuple [p.1, p.2]
theorem pairD_get {xs ys : List PyData} {i : Nat} {x y : PyData} (h1 : xs[i]? = some x) (h2 : ys[i]? = some y) : (pairD xs ys)[i]? = some (.tuple [x, y]) := by
  unfold pairD
  rw [List.getElem?_map, List.getElem?_zip_eq_some (z := (x, y)) |>.mpr ⟨h1, h2⟩]
  rfl
theorem pairD_length (xs ys : List PyData) : (pairD xs ys).length = min xs.length ys.length := by
  unfold pairD
  rw [List.length_map, List.length_zip]
theorem new_pair {K : PySem.W.Frag} {M : List Addr} {H : Hp} {T : Addr} {v w : V} {x y : PyData} (al : ∀ a ∈ M, H a ≠ none) (hT : H T = none) (h1 : Dp K (hide M H) v x) (h2 : Dp K (hide M H) w y) :
    Ex H (upd H T (.tup [v, w])) ∧ Dp K (hide M (upd H T (.tup [v, w]))) (.ref T) (.tuple [x, y]) := by
  have e : Ex H (upd H T (.tup [v, w])) := Ex.new hT
  refine ⟨e, .tup (st_of ?_) (.cons (dp_mono (hide_ex e) _ _ h1) (.cons (dp_mono (hide_ex e) _ _ h2) .nil))⟩
  rw [hide_out (fun z => al T z hT), upd_same]
theorem w_zipT {K : PySem.W.Frag} {Hh : Hp} {a b : Addr} {vs ws : List V} {xs ys : List PyData} (h : SqT K Hh a vs) (hd : DpAll K Hh vs xs) (h' : SqT K Hh b ws) (hd' : DpAll K Hh ws ys) : WalkD K (RZ.ItzT K a b) Hh (pairD xs ys) where
  go := fun M i H hi _ x => by
    rw [pairD_length, ← hd.length, ← hd'.length] at hi
    have i1 : i < vs.length := by omega
    have i2 : i < ws.length := by omega
    exact ⟨vs, ws, vs[i], ws[i], ex_t (x.trans hide_le) h, ex_t (x.trans hide_le) h', by simp [i1], by simp [i2]⟩
  stop := fun M H _ x => ⟨vs, ws, ex_t (x.trans hide_le) h, ex_t (x.trans hide_le) h', by rw [pairD_length, hd.length, hd'.length]; omega⟩
  yld := fun M i H y H' hi al x q => by
    rw [pairD_length] at hi
    obtain ⟨T, v, w, rfl, hT, rfl, qv, qw⟩ := q
    have i1 : i < xs.length := by omega
    have i2 : i < ys.length := by omega
    obtain ⟨v', g1, g2⟩ := hd.get (i := i) (d := xs[i]) (by simp [i1])
    obtain ⟨w', g3, g4⟩ := hd'.get (i := i) (d := ys[i]) (by simp [i2])
    have e1 := qv vs (ex_t (x.trans hide_le) h)
    have e2 := qw ws (ex_t (x.trans hide_le) h')
    rw [g1] at e1; cases e1
    rw [g3] at e2; cases e2
    obtain ⟨r1, r2⟩ := new_pair al hT (dp_mono x _ _ g2) (dp_mono x _ _ g4)
    exact ⟨r1, _, pairD_get (by simp [i1]) (by simp [i2]), r2⟩
theorem w_zipL {K : PySem.W.Frag} {Hh : Hp} {a b : Addr} {vs ws : List V} {xs ys : List PyData} (h : SqL K Hh a vs) (hd : DpAll K Hh vs xs) (h' : SqL K Hh b ws) (hd' : DpAll K Hh ws ys) : WalkD K (Itz K a b) Hh (pairD xs ys) where
  go := fun M i H hi _ x => by
    rw [pairD_length, ← hd.length, ← hd'.length] at hi
    have i1 : i < vs.length := by omega
    have i2 : i < ws.length := by omega
    exact ⟨vs, ws, vs[i], ws[i], ex_l (x.trans hide_le) h, ex_l (x.trans hide_le) h', by simp [i1], by simp [i2]⟩
  stop := fun M H _ x => ⟨vs, ws, ex_l (x.trans hide_le) h, ex_l (x.trans hide_le) h', by rw [pairD_length, hd.length, hd'.length]; omega⟩
  yld := fun M i H y H' hi al x q => by
    rw [pairD_length] at hi
    obtain ⟨T, v, w, rfl, hT, rfl, qv, qw⟩ := q
    have i1 : i < xs.length := by omega
    have i2 : i < ys.length := by omega
    obtain ⟨v', g1, g2⟩ := hd.get (i := i) (d := xs[i]) (by simp [i1])
    obtain ⟨w', g3, g4⟩ := hd'.get (i := i) (d := ys[i]) (by simp [i2])
    have e1 := qv vs (ex_l (x.trans hide_le) h)
    have e2 := qw ws (ex_l (x.trans hide_le) h')
    rw [g1] at e1; cases e1
    rw [g3] at e2; cases e2
    obtain ⟨r1, r2⟩ := new_pair al hT (dp_mono x _ _ g2) (dp_mono x _ _ g4)
    exact ⟨r1, _, pairD_get (by simp [i1]) (by simp [i2]), r2⟩
theorem i_zipT {tr : TA} {xs ys : List PyData} (h : EvA C tr M δ μ μ' [.d (.tuple xs), .d (.tuple ys)]) : EvI C (RZ.iZipA C.K tr) M δ μ μ' (pairD xs ys) := fun σ H o R k => h σ H o _ fun vs H1 o1 x1 r => by
  obtain ⟨v, w, rfl, q, q'⟩ := p2 r
  obtain ⟨a, vs, g1, g2, g3⟩ := Dp.tup_of q
  obtain ⟨b, ws, g4, g5, g6⟩ := Dp.tup_of q'
  exact ⟨a, b, vs, ws, by rw [g1, g4], .inr ⟨ex_t hide_le g2, ex_t hide_le g5, k _ H1 o1 x1 (w_zipT g2 g3 g5 g6)⟩⟩
theorem i_zipL {tr : TA} {xs ys : List PyData} (h : EvA C tr M δ μ μ' [.d (.list xs), .d (.list ys)]) : EvI C (RZ.iZipA C.K tr) M δ μ μ' (pairD xs ys) := fun σ H o R k => h σ H o _ fun vs H1 o1 x1 r => by
  obtain ⟨v, w, rfl, q, q'⟩ := p2 r
  obtain ⟨a, vs, g1, g2, g3⟩ := Dp.lst_of q
  obtain ⟨b, ws, g4, g5, g6⟩ := Dp.lst_of q'
  exact ⟨a, b, vs, ws, by rw [g1, g4], .inl ⟨ex_l hide_le g2, ex_l hide_le g5, k _ H1 o1 x1 (w_zipL g2 g3 g5 g6)⟩⟩
/-- enumerated -/
def enumD (xs : List PyData) : List PyData := xs.zipIdx.map fun p => .tuple [.int (p.2 : Int), p.1]
theorem enumD_length (xs : List PyData) : (enumD xs).length = xs.length := by simp [enumD]
theorem enumD_get {xs : List PyData} {i : Nat} {x : PyData} (h : xs[i]? = some x) : (enumD xs)[i]? = some (.tuple [.int (i : Int), x]) := by
  unfold enumD
  rw [List.getElem?_map, List.getElem?_zipIdx, h]
  simp
theorem w_enumL {K : PySem.W.Frag} {Hh : Hp} {a : Addr} {vs : List V} {xs : List PyData} (h : SqL K Hh a vs) (hd : DpAll K Hh vs xs) : WalkD K (Ite K a) Hh (enumD xs) where
  go := fun M i H hi _ x => by
    rw [enumD_length, ← hd.length] at hi
    exact ⟨vs, vs[i], ex_l (x.trans hide_le) h, by simp [hi]⟩
  stop := fun M H _ x => ⟨vs, ex_l (x.trans hide_le) h, by rw [enumD_length, hd.length]; exact Nat.le_refl _⟩
  yld := fun M i H y H' hi al x q => by
    rw [enumD_length] at hi
    obtain ⟨T, v, rfl, hT, rfl, qv⟩ := q
    obtain ⟨v', g1, g2⟩ := hd.get (i := i) (d := xs[i]) (by simp [hi])
    have e1 := qv vs (ex_l (x.trans hide_le) h)
    rw [g1] at e1; cases e1
    obtain ⟨r1, r2⟩ := new_pair al hT (Dp.int (i : Nat)) (dp_mono x _ _ g2)
    exact ⟨r1, _, enumD_get (by simp [hi]), r2⟩
theorem i_enumL {tr : TA} {xs : List PyData} (h : EvA C tr M δ μ μ' [.d (.list xs)]) : EvI C (iEnum C.K tr) M δ μ μ' (enumD xs) := fun σ H o R k => h σ H o _ fun vs H1 o1 x1 r => by
  obtain ⟨v, rfl, q⟩ := p1 r
  obtain ⟨a, vs, g1, g2, g3⟩ := Dp.lst_of q
  exact ⟨a, vs, by rw [g1], ex_l hide_le g2, k _ H1 o1 x1 (w_enumL g2 g3)⟩
end
end FD
namespace FD
open PySem L2 Evl
section
variable {C : Cfg} {M M' : List Addr} {δ δ' δ1 δ2 : List Ent} {μ μ' μ1 μ2 μ3 : Mem} {σ σ' σ1 σ2 : L2.St} {H H' : Hp} {e e1 e2 e3 : Ent} {ta tb te tc : TE} {t u : TT} {b c : Bool}
/-! ### what else is kept: all hidden lists that are not spoken of -/
theorem Ok.toG (o : Ok C M δ μ σ H) : Ok { C with G := hide (μ.map (·.1)) H } M δ μ σ H where
  len := o.len
  slot := o.slot
  mem := fun p hp => let ⟨a, _, c⟩ := o.mem p hp; ⟨a, hide_in (List.mem_map.mpr ⟨p, hp, rfl⟩), c⟩
  nd := o.nd
  alloc := o.alloc
  sub := o.sub
  gr := hide_le
  base := o.base
theorem Ok.ofG (o : Ok C M δ μ σ H) (p : Ok { C with G := hide (μ.map (·.1)) H } M δ' μ' σ' H') : Ok C M δ' μ' σ' H' where
  len := p.len
  slot := p.slot
  mem := fun q hq => by
    obtain ⟨a, b, c⟩ := p.mem q hq
    refine ⟨a, ?_, c⟩
    cases z : C.G q.1 with
    | none => rfl
    | some u =>
      have hH := o.gr _ _ z
      have b' : hide (μ.map (·.1)) H q.1 = none := b
      by_cases hm : q.1 ∈ μ.map (·.1)
      · obtain ⟨r, hr, er⟩ := List.mem_map.mp hm
        have := (o.mem r hr).2.1
        rw [show r.1 = q.1 from er, z] at this; cases this
      · rw [hide_out hm, hH] at b'; cases b'
  nd := p.nd
  alloc := p.alloc
  sub := p.sub
  gr := fun a u z => by
    have hH := o.gr _ _ z
    refine p.gr a u ?_
    show hide (μ.map (·.1)) H a = some u
    rw [hide_out]
    · exact hH
    · intro hm
      obtain ⟨r, hr, er⟩ := List.mem_map.mp hm
      have := (o.mem r hr).2.1
      rw [show r.1 = a from er, z] at this; cases this
  base := p.base
theorem Ok.writeH (o : Ok C M δ μ σ H) {a : Addr} {ho : HO} (ha : a ∈ M) (hn : ∀ p ∈ μ, p.1 ≠ a) (hg : C.G a = none) : Ok C M δ μ σ (upd H a ho) where
  len := o.len
  slot := fun i x h1 h2 => by rw [hide_upd ha]; exact o.slot i x h1 h2
  mem := fun p hp => by
    obtain ⟨b1, b2, b3⟩ := o.mem p hp
    rw [hide_upd ha]
    refine ⟨b1, b2, b3.mono (Ex.refl _) fun u e => ?_⟩
    rw [upd_ne (hn p hp)]; exact e
  nd := o.nd
  alloc := fun b hb => by
    by_cases q : b = a
    · subst q; rw [upd_same]; exact fun z => nomatch z
    · rw [upd_ne q]; exact o.alloc b hb
  sub := o.sub
  gr := Ex.mut o.gr hg
  base := by rw [hide_upd ha]; exact o.base

/-! ### targets -/
def TgX (K : PySem.W.Frag) (g : TG) (ts : List Nat) (d : PyData) (δ δ' : List Ent) : Prop := ∀ (C : Cfg) (M : List Addr) (μ : Mem) (σ : L2.St) (H : Hp) (v : V), C.K = K → Ok C M δ μ σ H → Dp K (hide M H) v d → ∀ Q : L2.St → Hp → Prop,
  (∀ σ', Ok C M δ' μ σ' H → σ'.length = σ.length → (∀ k, k ∉ ts → σ'[k]? = σ[k]?) → Q σ' H) → g v σ H Q
theorem tg_name {K : PySem.W.Frag} {i : Nat} {d : PyData} : TgX K (gName i) [i] d δ (δ.set i (.d d)) := fun C M μ σ H v hK o h Q k => by
  subst hK
  refine k _ (o.set i (e := .d d) h) (List.length_set ..) fun j hj => ?_
  rw [List.getElem?_set_ne (fun z => hj (by simp [z]))]
theorem tg_tup2 {K : PySem.W.Frag} {i j : Nat} {d1 d2 : PyData} : TgX K (gTup K 2 (gCons (gName i) (gCons (gName j) gNil))) [i, j] (.tuple [d1, d2]) δ ((δ.set i (.d d1)).set j (.d d2)) := fun C M μ σ H v hK o h Q k => by
  subst hK
  obtain ⟨a, vs, q1, q2, q3⟩ := Dp.tup_of h
  cases q3 with
  | cons h1 q3 =>
    cases q3 with
    | cons h2 q3 =>
      cases q3
      refine ⟨a, _, q1, ex_t hide_le q2, rfl, _, _, rfl, _, _, rfl, rfl, ?_⟩
      refine k _ ((o.set i (e := .d d1) h1).set j (e := .d d2) h2) (by rw [List.length_set, List.length_set]) fun m hm => ?_
      rw [List.getElem?_set_ne (fun z => hm (by simp [z])), List.getElem?_set_ne (fun z => hm (by simp [z]))]

/-! ### a comprehension -/
def wipeE (δ : List Ent) : List Nat → List Ent
  | [] => δ
  | v :: vs => (wipeE δ vs).set v .u
theorem wipeE_length (δ : List Ent) : ∀ vs, (wipeE δ vs).length = δ.length
  | [] => rfl
  | v :: vs => by unfold wipeE; rw [List.length_set, wipeE_length δ vs]
theorem wipe_get {σ : L2.St} {i : Nat} : ∀ {vs : List Nat}, i ∉ vs → (wipe σ vs)[i]? = σ[i]?
  | [], _ => rfl
  | v :: vs, h => by
    unfold wipe
    rw [List.getElem?_set_ne (fun z => h (by simp [z])), wipe_get (fun z => h (List.mem_cons_of_mem _ z))]
theorem wipe_at {σ : L2.St} {i : Nat} : ∀ {vs : List Nat}, i ∈ vs → i < σ.length → (wipe σ vs)[i]? = some none
  | v :: vs, h, hl => by
    unfold wipe
    by_cases q : v = i
    · subst q; rw [List.getElem?_set_self (by rw [wipe_length]; exact hl)]
    · rw [List.getElem?_set_ne q]
      exact wipe_at ((List.mem_cons.mp h).elim (fun z => absurd z.symm q) id) hl
theorem wipeE_get {i : Nat} {e : Ent} : ∀ {vs : List Nat}, (wipeE δ vs)[i]? = some e → e ≠ .u → δ[i]? = some e ∧ i ∉ vs
  | [], h, _ => ⟨h, by simp⟩
  | v :: vs, h, hu => by
    unfold wipeE at h
    by_cases q : v = i
    · subst q
      have hl := (List.getElem?_eq_some_iff.mp h).1
      rw [List.length_set] at hl
      rw [List.getElem?_set_self hl] at h
      cases h
      exact absurd rfl hu
    · rw [List.getElem?_set_ne q] at h
      obtain ⟨h1, h2⟩ := wipeE_get (vs := vs) h hu
      exact ⟨h1, fun z => (List.mem_cons.mp z).elim (fun z => q z.symm) h2⟩
theorem Ok.wiped (o : Ok C M δ μ σ H) (vs : List Nat) : Ok C M (wipeE δ vs) μ (wipe σ vs) H :=
  o.weak (by rw [wipe_length, wipeE_length]; exact o.len) fun i e h1 h2 => by
    obtain ⟨a, b⟩ := wipeE_get h1 h2
    exact ⟨a, wipe_get b⟩
theorem wipe_eq {vs ts : List Nat} (hl : σ'.length = σ.length) (h : ∀ k, k ∉ ts → σ'[k]? = (wipe σ vs)[k]?) (s : ∀ k ∈ ts, k ∈ vs) : wipe σ' vs = wipe σ vs := by
  refine List.ext_getElem? fun k => ?_
  by_cases q : k ∈ vs
  · by_cases z : k < σ.length
    · rw [wipe_at q z, wipe_at q (by rw [hl]; exact z)]
    · rw [List.getElem?_eq_none (by rw [wipe_length, hl]; omega), List.getElem?_eq_none (by rw [wipe_length]; omega)]
  · rw [wipe_get q, wipe_get q, h k (fun z => q (s k z)), wipe_get q]
def lcD (b : Nat → Bool) (f : Nat → PyData) (i : Nat) : List PyData := ((List.range i).filter b).map f
theorem lcD_yes {b : Nat → Bool} {f : Nat → PyData} {i : Nat} (h : b i = true) : lcD b f (i + 1) = lcD b f i ++ [f i] := by
  unfold lcD
  rw [List.range_succ, List.filter_append, List.map_append, List.filter_cons, if_pos h]
  rfl
theorem lcD_no {b : Nat → Bool} {f : Nat → PyData} {i : Nat} (h : b i = false) : lcD b f (i + 1) = lcD b f i := by
  unfold lcD
  rw [List.range_succ, List.filter_append, List.map_append]
  rw [List.filter_cons, if_neg (by rw [h]; decide)]
  show _ ++ [] = _
  rw [List.append_nil]
theorem lcD_len (b : Nat → Bool) (f : Nat → PyData) (i : Nat) : (lcD b f i).length ≤ i := by
  unfold lcD
  rw [List.length_map]
  have h := List.length_filter_le b (List.range i)
  rw [List.length_range] at h
  exact h
/-- what one turn asks -/
structure LcTurn (C : Cfg) (g : TG) (tt : TT) (te : TE) (vs : List Nat) (M : List Addr) (δ : List Ent) (μ μ' : Mem) (d : PyData) (b : Bool) (f : PyData) : Prop where
  go : ∃ ts δ' μ1, TgX C.K g ts d (wipeE δ vs) δ' ∧ (∀ k ∈ ts, k ∈ vs) ∧ EvT C tt M δ' μ μ1 b ∧ (b = true → EvX C te M δ' μ1 μ' (.d f)) ∧ (b = false → μ1 = μ')
theorem x_lcN {N : Hp → Prop} {wi : TI} {g : TG} {vs : List Nat} {xs : List PyData} (S : Nat → Mem) (b : Nat → Bool) (f : Nat → PyData) (hi : EvIN C wi M δ μ (S 0) N xs) (hN : ∀ (i : Nat) (B : Hp) (D : Addr) (σ : L2.St) (H : Hp), i ≤ xs.length → Ok { C with B := B } (D :: M) δ (S i) σ H → N H) (hz : xs.length ≤ 100000)
    (hs : ∀ (i : Nat) (d : PyData), xs[i]? = some d → ∀ (G B : Hp) (D : Addr), LcTurn { C with G := G, B := B } g t te vs (D :: M) δ (S i) (S (i + 1)) d (b i) (f i)) :
    EvX C (tLc wi g t te vs) M δ μ (S xs.length) (.d (.list (lcD b f xs.length))) := fun σ H o Q k => by
  refine hi σ H o _ fun J H1 o1 x1 W D hD => ?_
  have oB := o1.toB
  have hDM : D ∉ M := o1.fresh hD
  have o2 : Ok { C with B := hide M H1 } (D :: M) δ (S 0) σ (upd H1 D (.lst [])) :=
    (oB.new hD (mo := .lst []) ⟨[], upd_same, .nil⟩).mems (fun p hp => List.mem_cons_of_mem _ hp) o1.nd
  have hS : ∀ {i : Nat} {H'}, Ok { C with B := hide M H1 } (D :: M) δ (S i) σ H' → (∀ p ∈ S i, p.1 ∈ M) → ∀ p ∈ S i, p.1 ≠ D := fun o' h p hp z => hDM (z ▸ h p hp)
  have gD : C.G D = none := by
    cases z : C.G D with
    | none => rfl
    | some u => have := o1.gr D u z; rw [hD] at this; cases this
  refine ⟨fun i m H' => m = xs.length - i ∧ i ≤ xs.length ∧ (∀ p ∈ S i, p.1 ∈ M) ∧ Ok { C with B := hide M H1 } (D :: M) δ (S i) σ H' ∧ ∃ acc, H' D = some (.lst acc) ∧ DpAll C.K (hide (D :: M) H') acc (lcD b f i),
    ⟨xs.length, by simp, Nat.zero_le _, fun p hp => (o1.mem p hp).1, o2, [], upd_same, .nil⟩, ?_⟩
  rintro i m H' ⟨rfl, hi', hSM, oi, acc, hacc, dacc⟩
  by_cases hlt : i < xs.length
  · refine .inr ⟨W.go (D :: M) i H' hlt oi.alloc oi.base (hN i _ _ _ _ hi' oi), fun H'' => (∀ p ∈ S (i + 1), p.1 ∈ M) ∧ Ok { C with B := hide M H1 } (D :: M) δ (S (i + 1)) σ H'' ∧ ∃ acc, H'' D = some (.lst acc) ∧ DpAll C.K (hide (D :: M) H'') acc (lcD b f (i + 1)),
      fun H'' q => ⟨xs.length - (i + 1), by omega, rfl, hlt, q⟩, fun x H2 y => ?_⟩
    obtain ⟨e2, d, hd, dx⟩ := W.yld (D :: M) i H' x H2 hlt oi.alloc oi.base (hN i _ _ _ _ hi' oi) y
    have o3 := oi.grow e2
    have nD : ∀ p ∈ S i, p.1 ≠ D := hS oi hSM
    -- all that is hidden and not spoken of stays: the list at D
    have o4 := o3.toG
    obtain ⟨ts, δ', μ1, tg, hts, ht, he, hno⟩ := (hs i d hd (hide ((S i).map (·.1)) H2) (hide M H1) D).go
    have hD2 : H2 D = some (.lst acc) := e2 D _ hacc
    have gD2 : hide ((S i).map (·.1)) H2 D = some (.lst acc) := by
      rw [hide_out (fun z => ?_)]
      · exact hD2
      · obtain ⟨r, hr, er⟩ := List.mem_map.mp z
        exact nD r hr er
    refine tg _ _ _ _ _ _ rfl (o4.wiped vs) dx _ fun σ2 o5 hl2 hσ2 => ⟨wipe_eq (by rw [hl2, wipe_length]) hσ2 hts, ?_⟩
    refine ht σ2 H2 o5 _ fun H3 o6 x6 => ?_
    have memM : ∀ {μ9 : Mem} {δ9 : List Ent} {σ9 : L2.St} {H9 : Hp}, Ok { C with G := hide ((S i).map (·.1)) H2, B := hide M H1 } (D :: M) δ9 μ9 σ9 H9 → ∀ p ∈ μ9, p.1 ∈ M := fun o9 p hp => by
      have a := (o9.mem p hp).1
      have g9 : hide ((S i).map (·.1)) H2 p.1 = none := (o9.mem p hp).2.1
      rcases List.mem_cons.mp a with z | z
      · rw [z, gD2] at g9; cases g9
      · exact z
    cases hb : b i with
    | true =>
      rw [if_pos rfl]
      refine he hb σ2 H3 o6 _ fun v H4 o7 x7 r7 => ?_
      have hD4 : H4 D = some (.lst acc) := o7.gr D _ gD2
      have o8 : Ok { C with B := hide M H1 } (D :: M) δ (S (i + 1)) σ H4 := o3.swap (o3.ofG o7) (x6.trans x7)
      have hSM' : ∀ p ∈ S (i + 1), p.1 ∈ M := memM o7
      have hlen : acc.length ≤ i := by rw [dacc.length]; exact lcD_len b f i
      refine ⟨acc, hD4, sz_lt (by omega), hSM', o8.writeH List.mem_cons_self (fun p hp z => hDM (z ▸ hSM' p hp)) gD, _, upd_same, ?_⟩
      rw [hide_upd List.mem_cons_self, lcD_yes hb]
      exact (dpAll_mono ((hide_ex e2).trans (x6.trans x7)) _ _ dacc).append (.cons r7 .nil)
    | false =>
      rw [if_neg Bool.false_ne_true]
      have hm := hno hb
      subst hm
      refine ⟨memM o6, o3.swap (o3.ofG o6) x6, acc, o6.gr D _ gD2, ?_⟩
      rw [lcD_no hb]
      exact dpAll_mono ((hide_ex e2).trans x6) _ _ dacc
  · have ei : i = xs.length := by omega
    subst ei
    refine .inl ⟨W.stop (D :: M) H' oi.alloc oi.base (hN _ _ _ _ _ hi' oi), ?_⟩
    have s1 : ∀ a ∈ M, a ∈ D :: M := fun a ha => List.mem_cons_of_mem _ ha
    have oE : Ok C M δ (S xs.length) σ H' := (oi.drop (M := M) s1 hSM o1.sub).reB o1.base
    have xE : Ex (hide M H) (hide M H') := x1.trans (oi.base.trans (hide_sub s1))
    refine k _ H' oE xE (.lst (sq_of ?_) (dpAll_mono (hide_sub s1) _ _ dacc))
    rw [hide_out hDM]; exact hacc
theorem x_lc {wi : TI} {g : TG} {vs : List Nat} {xs : List PyData} (S : Nat → Mem) (b : Nat → Bool) (f : Nat → PyData) (hi : EvI C wi M δ μ (S 0) xs) (hz : xs.length ≤ 100000)
    (hs : ∀ (i : Nat) (d : PyData), xs[i]? = some d → ∀ (G B : Hp) (D : Addr), LcTurn { C with G := G, B := B } g t te vs (D :: M) δ (S i) (S (i + 1)) d (b i) (f i)) :
    EvX C (tLc wi g t te vs) M δ μ (S xs.length) (.d (.list (lcD b f xs.length))) := x_lcN S b f hi.toN (fun _ _ _ _ _ _ _ => trivial) hz hs
theorem lcD_all (f : Nat → PyData) (i : Nat) : lcD (fun _ => true) f i = (List.range i).map f := by
  unfold lcD
  rw [List.filter_eq_self.mpr (fun _ _ => rfl)]
/-- no test; every turn leaves the lists as they are -/
theorem x_lcP {wi : TI} {g : TG} {vs : List Nat} {xs : List PyData} (f : Nat → PyData) (hi : EvI C wi M δ μ μ' xs) (hz : xs.length ≤ 100000) {ts : List Nat} (dl : Nat → List Ent)
    (htg : ∀ (i : Nat) (d : PyData), xs[i]? = some d → TgX C.K g ts d (wipeE δ vs) (dl i)) (hts : ∀ k ∈ ts, k ∈ vs)
    (he : ∀ (i : Nat) (d : PyData), xs[i]? = some d → ∀ (G B : Hp) (D : Addr), EvX { C with G := G, B := B } te (D :: M) (dl i) μ' μ' (.d (f i))) :
    EvX C (tLc wi g tYes te vs) M δ μ μ' (.d (.list ((List.range xs.length).map f))) := by
  rw [← lcD_all]
  exact x_lc (fun _ => μ') (fun _ => true) f hi hz fun i d hd G B D => ⟨ts, dl i, μ', htg i d hd, hts, t_yes, fun _ => he i d hd G B D, fun z => nomatch z⟩
end
end FD
namespace FD
open PySem L2 Evl
/-! ### statements -/
def Run (C : Cfg) (ts : TS) (D : Ends) (M : List Addr) (δ : List Ent) (μ : Mem) : Prop := ∀ σ H, Ok C M δ μ σ H → ts D σ H
def Nx (C : Cfg) (D : Ends) (M : List Addr) (δ : List Ent) (μ : Mem) : Prop := ∀ σ H, Ok C M δ μ σ H → D.nx σ H
/-- a word about the state, held -/
def NX (C : Cfg) (M : List Addr) (P : List Ent → Mem → Prop) : L2.St → Hp → Prop := fun σ H => ∃ δ μ, P δ μ ∧ Ok C M δ μ σ H
section
variable {C : Cfg} {M M' : List Addr} {δ δ' δ1 δ2 : List Ent} {μ μ' μ1 μ2 μ3 : Mem} {σ σ' σ1 σ2 : L2.St} {H H' : Hp} {e e1 e2 e3 : Ent} {ta tb te tc : TE} {t u : TT} {b c : Bool} {D : Ends} {t1 t2 ts : TS}
theorem r_seq (h : Run C t1 { D with nx := t2 D } M δ μ) : Run C (tSeq t1 t2) D M δ μ := h
theorem r_next (h : Nx C D M δ μ) : Run C tNext D M δ μ := h
theorem r_brk (h : ∀ σ H, Ok C M δ μ σ H → D.bk σ H) : Run C tBreak D M δ μ := h
theorem r_cont (h : ∀ σ H, Ok C M δ μ σ H → D.ct σ H) : Run C tCont D M δ μ := h
theorem r_asg {i : Nat} (h : EvX C te M δ μ μ' e) (k : Nx C D M (δ.set i e) μ') : Run C (tAsg te (gName i)) D M δ μ := fun σ H o =>
  h σ H o _ fun v H' o' x r => k _ H' (o'.set i r)
theorem q_asg {i : Nat} (h : EvX C te M δ μ μ' e) (k : Run C t2 D M (δ.set i e) μ') : Run C (tSeq (tAsg te (gName i)) t2) D M δ μ := r_asg (D := { D with nx := t2 D }) h k
theorem r_drop (h : EvX C te M δ μ μ' e) (k : Nx C D M δ μ') : Run C (tDrop te) D M δ μ := fun σ H o => h σ H o _ fun v H' o' x r => k _ H' o'
theorem q_drop (h : EvX C te M δ μ μ' e) (k : Run C t2 D M δ μ') : Run C (tSeq (tDrop te) t2) D M δ μ := r_drop (D := { D with nx := t2 D }) h k
theorem r_par {i j : Nat} {tr : TA} (h : EvA C tr M δ μ μ' [e1, e2]) (k : Nx C D M ((δ.set i e1).set j e2) μ') : Run C (tPar i j tr) D M δ μ := fun σ H o =>
  h σ H o _ fun vs H' o' x r => by
    obtain ⟨v, w, rfl, q, q'⟩ := p2 r
    exact ⟨v, w, rfl, k _ H' ((o'.set i q).set j q')⟩
theorem q_par {i j : Nat} {tr : TA} (h : EvA C tr M δ μ μ' [e1, e2]) (k : Run C t2 D M ((δ.set i e1).set j e2) μ') : Run C (tSeq (tPar i j tr) t2) D M δ μ := r_par (D := { D with nx := t2 D }) h k
theorem r_if (h : EvT C t M δ μ μ' b) (h1 : b = true → Run C t1 D M δ μ') (h2 : b = false → Run C t2 D M δ μ') : Run C (tIfS t t1 t2) D M δ μ := fun σ H o => h σ H o _ fun H1 o1 x1 => by
  cases b with
  | true => exact h1 rfl σ H1 o1
  | false => exact h2 rfl σ H1 o1
theorem q_if {t3 : TS} (h : EvT C t M δ μ μ' b) (h1 : b = true → Run C t1 { D with nx := t3 D } M δ μ') (h2 : b = false → Run C t2 { D with nx := t3 D } M δ μ') : Run C (tSeq (tIfS t t1 t2) t3) D M δ μ := r_if (D := { D with nx := t3 D }) h h1 h2
/-- an if without an else -/
theorem q_when {t3 : TS} (h : EvT C t M δ μ μ' b) (h1 : b = true → Run C t1 { D with nx := t3 D } M δ μ') (h2 : b = false → Run C t3 D M δ μ') : Run C (tSeq (tIfS t t1 tNext) t3) D M δ μ := r_if (D := { D with nx := t3 D }) h h1 h2
/-- what the caller wants of an end with data -/
def Fin (C : Cfg) (D : Ends) (d : PyData) : Prop := ∀ v H, Ex C.G H → Dp C.K (hide C.M0 H) v d → D.rt v H
theorem r_retD {d : PyData} (h : EvX C te M δ μ μ' (.d d)) (k : Fin C D d) : Run C (tRet te) D M δ μ := fun σ H o => h σ H o _ fun v H1 o1 x1 r =>
  k v H1 o1.gr (dp_mono (hide_sub o1.sub) _ _ r)
theorem r_ret (h : EvX C te M δ μ μ' e) (k : ∀ σ v H, Ok C M δ μ' σ H → EntOk C.K (hide M H) e v → D.rt v H) : Run C (tRet te) D M δ μ := fun σ H o => h σ H o _ fun v H1 o1 x1 r => k σ v H1 o1 r
/-- one's own list handed back -/
theorem r_retM {a : Addr} {ds : List PyData} {j : Nat} (h : EvX C te M δ μ μ' (.m a)) (hj : μ'[j]? = some (a, .lst ds)) (ha : a ∉ C.M0) (k : Fin C D (.list ds)) : Run C (tRet te) D M δ μ := fun σ H o => h σ H o _ fun v H1 o1 x1 r => by
  have r' : v = .ref a := r
  obtain ⟨_, _, vs, q1, q2⟩ := o1.mem _ (List.mem_of_getElem? hj)
  refine k v H1 o1.gr ?_
  rw [r']
  refine .lst (sq_of ?_) (dpAll_mono (hide_sub o1.sub) _ _ q2)
  rw [hide_out ha]; exact q1
/-- x = [..]: a list of one's own -/
theorem r_new {i : Nat} {tr : TA} {ds : List PyData} (h : EvA C tr M δ μ μ' (ds.map Ent.d)) (hl : ds.length ≤ 100000) (k : ∀ p, p ∉ M → Nx C D (p :: M) (δ.set i (.m p)) ((p, .lst ds) :: μ')) : Run C (tAsg (tLst tr) (gName i)) D M δ μ := fun σ H o =>
  h σ H o _ fun vs H1 o1 x1 r => ⟨by have := (dpAll_of r).length; rw [this]; exact sz_of hl, fun p hp => by
    have o2 := o1.new hp (mo := .lst ds) (ho := .lst vs) ⟨vs, upd_same, dpAll_mono (hide_new hp) _ _ (dpAll_of r)⟩
    exact k p (o1.fresh hp) _ _ (o2.set i (e := .m p) rfl)⟩
theorem q_new {i : Nat} {tr : TA} {ds : List PyData} (h : EvA C tr M δ μ μ' (ds.map Ent.d)) (hl : ds.length ≤ 100000) (k : ∀ p, p ∉ M → Run C t2 D (p :: M) (δ.set i (.m p)) ((p, .lst ds) :: μ')) : Run C (tSeq (tAsg (tLst tr) (gName i)) t2) D M δ μ := r_new (D := { D with nx := t2 D }) h hl k
/-- x.append(e) -/
theorem r_app {j : Nat} {a : Addr} {ds : List PyData} {d : PyData} (hx : EvX C ta M δ μ μ1 (.m a)) (h : EvX C te M δ μ1 μ2 (.d d)) (h1 : μ1[j]? = some (a, .lst ds)) (hj : μ2[j]? = some (a, .lst ds)) (hz : ds.length < 100000) (k : Nx C D M δ (μ2.set j (a, .lst (ds ++ [d])))) :
    Run C (tDrop (tBM C.K "list" rAppend ta (tCons te tNil))) D M δ μ := fun σ H o => hx σ H o _ fun v H1 o1 x1 r1 => by
  have e1 : v = .ref a := r1
  subst e1
  obtain ⟨_, _, vs1, q1, q2⟩ := o1.mem _ (List.mem_of_getElem? h1)
  refine ⟨.inl ⟨rfl, _, SqL.of q1⟩, ?_⟩
  refine h σ H1 o1 _ fun w H2 o2 x2 r2 => ?_
  obtain ⟨_, _, vs, q3, q4⟩ := o2.mem _ (List.mem_of_getElem? hj)
  refine ⟨a, vs, w, rfl, rfl, q3, sz_lt (by rw [q4.length]; exact hz), ?_⟩
  refine k _ _ (o2.write hj ⟨_, upd_same, q4.append (.cons r2 .nil)⟩)
theorem q_app {j : Nat} {a : Addr} {ds : List PyData} {d : PyData} (hx : EvX C ta M δ μ μ1 (.m a)) (h : EvX C te M δ μ1 μ2 (.d d)) (h1 : μ1[j]? = some (a, .lst ds)) (hj : μ2[j]? = some (a, .lst ds)) (hz : ds.length < 100000) (k : Run C t2 D M δ (μ2.set j (a, .lst (ds ++ [d])))) :
    Run C (tSeq (tDrop (tBM C.K "list" rAppend ta (tCons te tNil))) t2) D M δ μ := r_app (D := { D with nx := t2 D }) hx h h1 hj hz k
/-- x[k] = e -/
theorem r_setL {j n : Nat} {a : Addr} {ds : List PyData} {d : PyData} {i : Int} (h : EvX C te M δ μ μ1 (.d d)) (hx : EvX C ta M δ μ1 μ2 (.m a)) (hi : EvX C tb M δ μ2 μ3 (.d (.int i))) (hj : μ3[j]? = some (a, .lst ds)) (hn : ixN ds.length i = some n) (k : Nx C D M δ (μ3.set j (a, .lst (ds.set n d)))) :
    Run C (tAsg te (gSub ta tb rSetL)) D M δ μ := fun σ H o => h σ H o _ fun v H1 o1 x1 r1 => hx σ H1 o1 _ fun w H2 o2 x2 r2 => hi σ H2 o2 _ fun z H3 o3 x3 r3 => by
  have e1 : w = .ref a := r2
  subst e1
  obtain ⟨_, _, vs, q3, q4⟩ := o3.mem _ (List.mem_of_getElem? hj)
  refine ⟨a, vs, i, n, rfl, Dp.int_of r3, q3, by rw [q4.length]; exact hn, ?_⟩
  exact k _ _ (o3.write hj ⟨_, upd_same, q4.set n (EntOk.mono (e := .d d) (x2.trans x3) r1)⟩)
theorem q_setL {j n : Nat} {a : Addr} {ds : List PyData} {d : PyData} {i : Int} (h : EvX C te M δ μ μ1 (.d d)) (hx : EvX C ta M δ μ1 μ2 (.m a)) (hi : EvX C tb M δ μ2 μ3 (.d (.int i))) (hj : μ3[j]? = some (a, .lst ds)) (hn : ixN ds.length i = some n) (k : Run C t2 D M δ (μ3.set j (a, .lst (ds.set n d)))) :
    Run C (tSeq (tAsg te (gSub ta tb rSetL)) t2) D M δ μ := r_setL (D := { D with nx := t2 D }) h hx hi hj hn k
/-- a for; B: what stood at its start -/
theorem r_forN {N : Hp → Prop} {wi : TI} {g : TG} {xs : List PyData} (hi : EvIN C wi M δ μ μ1 N xs) (P : Nat → List Ent → Mem → Prop) (hN : ∀ (i : Nat) (B : Hp) (δ1 : List Ent) (μ1 : Mem) (σ : L2.St) (H : Hp), i ≤ xs.length → P i δ1 μ1 → Ok { C with B := B } M δ1 μ1 σ H → N H) (h0 : P 0 δ μ1)
    (hs : ∀ B, Ex C.B B → ∀ (i : Nat) (d : PyData) (δ1 : List Ent) (μ1 : Mem), xs[i]? = some d → P i δ1 μ1 → ∃ tl δ2, TgX C.K g tl d δ1 δ2 ∧
      Run { C with B := B } ts { D with nx := NX { C with B := B } M (P (i + 1)), ct := NX { C with B := B } M (P (i + 1)), bk := D.nx } M δ2 μ1)
    (hd : ∀ δ1 μ1, P xs.length δ1 μ1 → Nx C D M δ1 μ1) : Run C (tFor wi g ts) D M δ μ := fun σ H o => by
  refine hi σ H o _ fun J H1 o1 x1 W => ?_
  refine ⟨fun i m σ' H' => m = xs.length - i ∧ i ≤ xs.length ∧ NX { C with B := hide M H1 } M (P i) σ' H', ⟨xs.length, by simp, Nat.zero_le _, δ, μ1, h0, o1.toB⟩, ?_⟩
  rintro i m σ' H' ⟨rfl, hi', δ1, μ1, hP, oi⟩
  by_cases hlt : i < xs.length
  · refine .inr ⟨W.go M i H' hlt oi.alloc oi.base (hN i _ _ _ _ _ hi' hP oi), NX { C with B := hide M H1 } M (P (i + 1)), fun σ2 H2 q => ⟨xs.length - (i + 1), by omega, rfl, hlt, q⟩, fun x H2 y => ?_⟩
    obtain ⟨e2, d, hd, dx⟩ := W.yld M i H' x H2 hlt oi.alloc oi.base (hN i _ _ _ _ _ hi' hP oi) y
    obtain ⟨tl, δ2, tg, run⟩ := hs (hide M H1) o1.base i d δ1 μ1 hd hP
    exact tg { C with B := hide M H1 } _ _ _ _ _ rfl (oi.grow e2) dx _ fun σ3 o3 _ _ => run σ3 H2 o3
  · have ei : i = xs.length := by omega
    subst ei
    exact .inl ⟨W.stop M H' oi.alloc oi.base (hN _ _ _ _ _ _ hi' hP oi), hd δ1 μ1 hP σ' H' (oi.reB o1.base)⟩
theorem r_for {wi : TI} {g : TG} {xs : List PyData} (hi : EvI C wi M δ μ μ1 xs) (P : Nat → List Ent → Mem → Prop) (h0 : P 0 δ μ1)
    (hs : ∀ B, Ex C.B B → ∀ (i : Nat) (d : PyData) (δ1 : List Ent) (μ1 : Mem), xs[i]? = some d → P i δ1 μ1 → ∃ tl δ2, TgX C.K g tl d δ1 δ2 ∧
      Run { C with B := B } ts { D with nx := NX { C with B := B } M (P (i + 1)), ct := NX { C with B := B } M (P (i + 1)), bk := D.nx } M δ2 μ1)
    (hd : ∀ δ1 μ1, P xs.length δ1 μ1 → Nx C D M δ1 μ1) : Run C (tFor wi g ts) D M δ μ := r_forN hi.toN P (fun _ _ _ _ _ _ _ _ _ => trivial) h0 hs hd
theorem q_for {wi : TI} {g : TG} {xs : List PyData} (hi : EvI C wi M δ μ μ1 xs) (P : Nat → List Ent → Mem → Prop) (h0 : P 0 δ μ1)
    (hs : ∀ B, Ex C.B B → ∀ (i : Nat) (d : PyData) (δ1 : List Ent) (μ1 : Mem), xs[i]? = some d → P i δ1 μ1 → ∃ tl δ2, TgX C.K g tl d δ1 δ2 ∧
      Run { C with B := B } ts { D with nx := NX { C with B := B } M (P (i + 1)), ct := NX { C with B := B } M (P (i + 1)), bk := t2 D } M δ2 μ1)
    (hd : ∀ δ1 μ1, P xs.length δ1 μ1 → Run C t2 D M δ1 μ1) : Run C (tSeq (tFor wi g ts) t2) D M δ μ := r_for (D := { D with nx := t2 D }) hi P h0 hs hd
theorem nx_of {P : List Ent → Mem → Prop} (h : P δ μ) : Nx C { D with nx := NX C M P } M δ μ := fun σ H o => ⟨δ, μ, h, o⟩
/-- a while; m falls -/
theorem r_while (P : Nat → List Ent → Mem → Prop) (m0 : Nat) (h0 : P m0 δ μ)
    (hs : ∀ (m : Nat) (δ1 : List Ent) (μ1 : Mem), P m δ1 μ1 → ∃ b μ2, EvT C t M δ1 μ1 μ2 b ∧
      (b = true → Run C ts { D with nx := NX C M (fun δ μ => ∃ m', m' < m ∧ P m' δ μ), ct := NX C M (fun δ μ => ∃ m', m' < m ∧ P m' δ μ), bk := D.nx } M δ1 μ2) ∧ (b = false → Nx C D M δ1 μ2)) : Run C (tWhile t ts) D M δ μ := fun σ H o => by
  refine ⟨fun m σ' H' => NX C M (P m) σ' H', ⟨m0, δ, μ, h0, o⟩, ?_⟩
  rintro m σ' H' ⟨δ1, μ1, hP, o1⟩
  obtain ⟨b, μ2, ht, h1, h2⟩ := hs m δ1 μ1 hP
  refine ht σ' H' o1 _ fun H2 o2 x2 => ?_
  cases b with
  | true =>
    rw [if_pos rfl]
    exact ⟨_, fun σ3 H3 ⟨δ3, μ3, ⟨m', hm, q⟩, o3⟩ => ⟨m', hm, δ3, μ3, q, o3⟩, h1 rfl σ' H2 o2⟩
  | false =>
    rw [if_neg Bool.false_ne_true]
    exact h2 rfl σ' H2 o2
theorem q_while (P : Nat → List Ent → Mem → Prop) (m0 : Nat) (h0 : P m0 δ μ)
    (hs : ∀ (m : Nat) (δ1 : List Ent) (μ1 : Mem), P m δ1 μ1 → ∃ b μ2, EvT C t M δ1 μ1 μ2 b ∧
      (b = true → Run C ts { D with nx := NX C M (fun δ μ => ∃ m', m' < m ∧ P m' δ μ), ct := NX C M (fun δ μ => ∃ m', m' < m ∧ P m' δ μ), bk := t2 D } M δ1 μ2) ∧ (b = false → Run C t2 D M δ1 μ2)) : Run C (tSeq (tWhile t ts) t2) D M δ μ := r_while (D := { D with nx := t2 D }) P m0 h0 hs
end

/-! ### promises -/
/-- data in, data out -/
def spD (K : PySem.W.Frag) (n : Nat) (Pre : List PyData → Prop) (F : List PyData → PyData) : Sp := fun vs H Q _ => vs.length = n ∧ ∃ M ds, (∀ a ∈ M, H a ≠ none) ∧ DpAll K (hide M H) vs ds ∧ Pre ds ∧ ∀ v H', Ex H H' → Dp K (hide M H') v (F ds) → Q v H'
/-- a list in the first place, changed -/
def spM (K : PySem.W.Frag) (n : Nat) (Pre : List PyData → List PyData → Prop) (F : List PyData → List PyData → PyData) (F2 : List PyData → List PyData → List PyData) : Sp := fun vs H Q _ =>
  vs.length = n ∧ ∃ M b bs ws ds, vs = .ref b :: ws ∧ b ∈ M ∧ (∀ a ∈ M, H a ≠ none) ∧ MOok K (hide M H) H b (.lst bs) ∧ DpAll K (hide M H) ws ds ∧ Pre bs ds ∧
    ∀ v H', Ex (hide [b] H) H' → MOok K (hide M H') H' b (.lst (F2 bs ds)) → Dp K (hide M H') v (F bs ds) → Q v H'
section
variable {C : Cfg} {M : List Addr} {δ : List Ent} {μ μ' μ1 μ2 : Mem} {tr : TA}
theorem x_call {n : Nat} {Pre : List PyData → Prop} {F : List PyData → PyData} {ds : List PyData} {E : XK} (h : EvA C tr M δ μ μ' (ds.map Ent.d)) (hn : ds.length = n) (hp : Pre ds) : EvX C (tCall (spD C.K n Pre F) [] E tr) M δ μ μ' (.d (F ds)) := fun σ H o Q k =>
  h σ H o _ fun vs H1 o1 x1 r1 => by
    rw [List.append_nil]
    refine ⟨by rw [(dpAll_of r1).length]; exact hn, M, ds, o1.alloc, dpAll_of r1, hp, fun v H2 e2 d2 => ?_⟩
    exact k v H2 (o1.grow e2) (x1.trans (hide_ex e2)) d2
theorem after_mut {σ : L2.St} {H1 H2 : Hp} {j : Nat} {b : Addr} {mo mo' : MO} (o1 : Ok C M δ μ σ H1) (hj : μ[j]? = some (b, mo)) (hex : Ex (hide [b] H1) H2) (hm : MOok C.K (hide M H2) H2 b mo') : Ok C M δ (μ.set j (b, mo')) σ H2 ∧ Ex (hide M H1) (hide M H2) := by
  have hb := o1.mem _ (List.mem_of_getElem? hj)
  have kp : ∀ a u, a ≠ b → H1 a = some u → H2 a = some u := fun a u ne e => hex a u (by rw [hide_out (by simp [ne])]; exact e)
  have x : Ex (hide M H1) (hide M H2) := fun a u e => by
    obtain ⟨q, e⟩ := hide_some e
    rw [hide_out q]
    exact kp a u (fun z => q (z ▸ hb.1)) e
  refine ⟨⟨o1.len, fun i y h1 h2 => let ⟨v, a, c⟩ := o1.slot i y h1 h2; ⟨v, a, c.mono x⟩, fun p hp => ?_, by rw [map_set_fst hj]; exact o1.nd, fun a ha => ?_, o1.sub, fun a u z => ?_, o1.base.trans x⟩, x⟩
  · obtain ⟨k, hk⟩ := List.getElem?_of_mem hp
    by_cases q : j = k
    · subst q
      rw [List.getElem?_set_self (List.getElem?_eq_some_iff.mp hj).1] at hk
      cases hk
      exact ⟨hb.1, hb.2.1, hm⟩
    · rw [List.getElem?_set_ne q] at hk
      obtain ⟨b1, b2, b3⟩ := o1.mem p (List.mem_of_getElem? hk)
      refine ⟨b1, b2, b3.mono x fun u e => kp _ u (fun z => ?_) e⟩
      have : (p.1, p.2) = p := rfl
      rw [← this, z] at hk
      exact q (nodup_fst o1.nd hj hk)
  · by_cases q : a = b
    · subst q; exact hm.there
    · cases z : H1 a with
      | none => exact absurd z (o1.alloc a ha)
      | some u => rw [kp a u q z]; exact fun z => nomatch z
  · refine kp a u (fun q => ?_) (o1.gr a u z)
    subst q
    have := hb.2.1
    rw [z] at this; cases this
theorem x_callM {n : Nat} {Pre : List PyData → List PyData → Prop} {F : List PyData → List PyData → PyData} {F2 : List PyData → List PyData → List PyData} {ds bs : List PyData} {E : XK} {b : Addr} {j : Nat}
    (h : EvA C tr M δ μ μ' (.m b :: ds.map Ent.d)) (hn : ds.length + 1 = n) (hj : μ'[j]? = some (b, .lst bs)) (hp : Pre bs ds) : EvX C (tCall (spM C.K n Pre F F2) [] E tr) M δ μ (μ'.set j (b, .lst (F2 bs ds))) (.d (F bs ds)) := fun σ H o Q k =>
  h σ H o _ fun vs H1 o1 x1 r1 => by
    rw [List.append_nil]
    cases r1 with
    | cons r0 rr =>
      have e0 : _ = V.ref b := r0
      subst e0
      have hb := o1.mem _ (List.mem_of_getElem? hj)
      refine ⟨by rw [List.length_cons, (dpAll_of rr).length]; exact hn, M, b, bs, _, ds, rfl, hb.1, o1.alloc, hb.2.2, dpAll_of rr, hp, fun v H2 e2 m2 d2 => ?_⟩
      obtain ⟨o2, x2⟩ := after_mut o1 hj e2 m2
      exact k v H2 o2 (x1.trans x2) d2
end

/-! ### a def's entry -/
def startE (n m : Nat) (es : List Ent) : List Ent := es ++ List.replicate (n - m) .u
theorem start_slot {K : PySem.W.Frag} {Hh : Hp} {N : List Str} {vs : List V} {es : List Ent} (h : Paired (EntOk K Hh) es vs) (i : Nat) (e : Ent) (h1 : (startE N.length es.length es)[i]? = some e) (h2 : e ≠ .u) : ∃ v, (L2.start N vs)[i]? = some (some v) ∧ EntOk K Hh e v := by
  unfold startE at h1
  unfold L2.start
  by_cases hi : i < es.length
  · rw [List.getElem?_append_left hi] at h1
    have hl : es.length = vs.length := by
      clear h1 hi
      induction h with
      | nil => rfl
      | cons _ _ ih => rw [List.length_cons, List.length_cons, ih]
    rw [List.getElem?_append_left (by rw [List.length_map, ← hl]; exact hi), List.getElem?_map]
    clear hi hl
    induction h generalizing i with
    | nil => simp at h1
    | cons r _ ih =>
      cases i with
      | zero => simp at h1; subst h1; exact ⟨_, rfl, r⟩
      | succ i => simpa using ih i (by simpa using h1)
  · rw [List.getElem?_append_right (Nat.le_of_not_lt hi)] at h1
    have := List.mem_replicate.mp (List.mem_of_getElem? h1)
    exact absurd this.2 h2
theorem pairedD {K : PySem.W.Frag} {H : Hp} : ∀ {ds : List PyData} {vs : List V}, DpAll K H vs ds → Paired (EntOk K H) (ds.map Ent.d) vs
  | _, _, .nil => .nil
  | _, _, .cons r t => .cons r (pairedD t)
theorem start_len {N : List Str} {vs : List V} {es : List Ent} (h : es.length = vs.length) (hN : vs.length ≤ N.length) : (L2.start N vs).length = (startE N.length es.length es).length := by
  unfold L2.start startE
  rw [List.length_append, List.length_append, List.length_map, List.length_replicate, List.length_replicate, h]
theorem paired_len {α β : Type} {F : α → β → Prop} {as : List α} {bs : List β} (h : Paired F as bs) : as.length = bs.length := by
  induction h with
  | nil => rfl
  | cons _ _ ih => rw [List.length_cons, List.length_cons, ih]
/-- the entry of a def that is handed data -/
theorem ok_startD {K : PySem.W.Frag} {H : Hp} {N : List Str} {M : List Addr} {vs : List V} {ds : List PyData} (al : ∀ a ∈ M, H a ≠ none) (h : DpAll K (hide M H) vs ds) (hN : vs.length ≤ N.length) :
    Ok ⟨K, M, H, hide M H⟩ M (startE N.length ds.length (ds.map Ent.d)) [] (L2.start N vs) H where
  len := by
    have := start_len (es := ds.map Ent.d) (vs := vs) (N := N) (by rw [List.length_map, h.length]) hN
    rw [List.length_map] at this; exact this
  slot := fun i e h1 h2 => start_slot (es := ds.map Ent.d) (pairedD h) i e (by rw [List.length_map]; exact h1) h2
  mem := fun p hp => absurd hp (by simp)
  nd := .nil
  alloc := al
  sub := fun _ ha => ha
  gr := Ex.refl _
  base := Ex.refl _
/-- the entry of a def whose first argument is a list that it changes -/
theorem ok_startM {K : PySem.W.Frag} {H : Hp} {N : List Str} {M : List Addr} {b : Addr} {bs : List PyData} {ws : List V} {ds : List PyData} (hb : b ∈ M) (al : ∀ a ∈ M, H a ≠ none) (hm : MOok K (hide M H) H b (.lst bs)) (h : DpAll K (hide M H) ws ds) (hN : ws.length + 1 ≤ N.length) :
    Ok ⟨K, M, hide [b] H, hide M H⟩ M (startE N.length (ds.length + 1) (.m b :: ds.map Ent.d)) [(b, .lst bs)] (L2.start N (.ref b :: ws)) H where
  len := by
    have := start_len (es := Ent.m b :: ds.map Ent.d) (vs := V.ref b :: ws) (N := N) (by rw [List.length_cons, List.length_cons, List.length_map, h.length]) (by rw [List.length_cons]; exact hN)
    rw [List.length_cons, List.length_map] at this; exact this
  slot := fun i e h1 h2 => start_slot (K := K) (Hh := hide M H) (es := Ent.m b :: ds.map Ent.d) (.cons rfl (pairedD h)) i e (by rw [List.length_cons, List.length_map]; exact h1) h2
  mem := fun p hp => by
    have : p = (b, .lst bs) := by simpa using hp
    subst this
    exact ⟨hb, hide_in (by simp), hm⟩
  nd := by simp
  alloc := al
  sub := fun _ ha => ha
  gr := hide_le
  base := Ex.refl _
end FD
/-! further rules: min of data, enumerate of a tuple, a call by keywords alone -/
namespace FD
open PySem PySem.Spec L2 PyProof.Rows PySem.W
section
variable {X : Cx}
def rMinD (K : PySem.W.Frag) : List V → Hp → VK → Prop := fun xs1 H Z => ∃ (a : Addr) (ws : List V) (x : PyData) (xs : List PyData), xs1 = [.ref a] ∧ SqL K H a ws ∧ DpAll K H ws (x :: xs) ∧ AlikeAll (x :: xs) ∧ PyData.depthAll (x :: xs) ≤ 32 ∧
  ∀ (j : Nat) (w : V), ws[j]? = some w → (x :: xs)[j]? = some (minD x xs) → Z w H
theorem vals_back {xs : List V} {us : List Value} (r : Vals xs us) : ∀ {i : Nat} {u : Value}, us[i]? = some u → ∃ x, xs[i]? = some x ∧ RelV x u := by
  induction r with
  | nil => intro i u e; simp at e
  | cons r _ ih =>
    intro i u e
    cases i with
    | zero => exact ⟨_, rfl, by have z := e; simp at z; rw [← z]; exact r⟩
    | succ i =>
      obtain ⟨x, h1, h2⟩ := ih (i := i) (u := u) (by simpa using e)
      exact ⟨x, h1, h2⟩
theorem cr_minD (cm : X.calm = true) (gu : X.A.units + 64 < cLine) : CallR X (.builtin "min") (rMinD X.K) := by
  intro pn sh τ H xs1 us1 Z V0 r h
  obtain ⟨a, ws, x, xs, rfl, hsq, dd, al, dp, w9⟩ := h
  obtain ⟨zs, rZ, gl, _⟩ := V0.list hsq
  rw [Vals.ref1 r]
  obtain ⟨as, rm⟩ := Dp.readsAll V0 _ _ zs dd rZ
  have hn : zs.toArray.size = xs.length + 1 := by
    rw [List.size_toArray, ← rZ.length, dd.length, List.length_cons]
  refine call_min_walkH (iter_listW (A := X.A.in1) (V0.ok.hd cm) gl.isList fun s₂ e W sw hfp hw kp => ?_)
  refine ⟨_, _, _, _, _, _, _, sh.heap, _, rfl, W, sw, hfp, by omega, hw, kp, cmpIn_lt (A := X.A.in1) (vs := zs.toArray) (by simpa using rm) al (by show X.A.units + 1 + _ < _; omega), fun v s' hP m => ?_⟩
  obtain ⟨g1, k1, rfl, hk'⟩ := moved_old e rfl m
  have e1 : zs.toArray.size - 1 = xs.length := by omega
  rw [e1] at hP
  obtain ⟨a1, a2⟩ := argBest_fold dataLt PyData.none x xs xs.length (Nat.le_refl _)
  rw [List.take_length] at a2
  have hP' : zs[argBest (fun i j => dataLt ((x :: xs).getD i PyData.none) ((x :: xs).getD j PyData.none)) xs.length]? = some v := by simpa using hP
  obtain ⟨w, h1, h2⟩ := vals_back rZ hP'
  refine ⟨w, H, V0.kept hk', h2, w9 _ w h1 ?_⟩
  have hlt : argBest (fun i j => dataLt ((x :: xs).getD i PyData.none) ((x :: xs).getD j PyData.none)) xs.length < (x :: xs).length := by rw [List.length_cons]; omega
  rw [List.getD_eq_getElem?_getD] at a2
  rw [List.getElem?_eq_getElem hlt] at a2 ⊢
  rw [Option.getD_some] at a2
  rw [a2]
  rfl

/-! ### enumerate of a tuple -/
theorem meets_enum_newT (l : Addr) (ys : Array Value) (n : Nat) (d0 : Option Addr) (sv : Array (Option Value)) :
    Meets (Builtin.«enumerate.__new__» ⟨[.type "enumerate", .ref l], []⟩) (fun _ R sh => sh.heap.get? l = some { cls := .type "tuple", dict := d0, data := .seq ys n, slots := sv } ∧
      R (.ok (.ret (.ref (sh.heap.push { cls := .type "tuple_iterator", data := .fields #[.ref l, .int 0 0] }).objs.size)))
        { sh with heap := (sh.heap.push { cls := .type "tuple_iterator", data := .fields #[.ref l, .int 0 0] }).push { cls := .type "enumerate", data := .fields #[.none, .bool false, .ref sh.heap.objs.size, rawInt 0, .none, .none] } }) :=
  .of_wp fun prog w A R sh h => by
    obtain ⟨hp, g, d, k1, o9⟩ := sh; obtain ⟨gl, h⟩ := h
    have hsub := sub_enumerate
    have gL : Heap.IsTuple (Shared.heap ⟨hp, g, d, k1, o9⟩) l ys := ⟨_, gl, rfl, n, rfl⟩
    wp_walk using AutoSeq1.wpAny_loadPart' gl
    refine wpAny_stack_any fun sw => wpAny_pure ?_
    split
    · rename_i c _ _ _ _ _
      cases (c == Value.type ("enumerate" : String))
      · wp_walk using AutoSeq1.wpAny_loadPart' gl, wpAny_pyIter_tuple gL
        exact ⟨_, rfl, h⟩
      · wp_walk using AutoSeq1.wpAny_loadPart' gl, wpAny_pyIter_tuple gL
        exact ⟨_, rfl, h⟩
    · wp_walk using AutoSeq1.wpAny_loadPart' gl, wpAny_pyIter_tuple gL
      exact ⟨_, rfl, h⟩
theorem call_enumT {prog : Program} {w : World} {A : Around} {E : Value → Shared → Prop} {sh : Shared} {l : Addr} {ys : Array Value} {Z : Value → Shared → Prop} (gL : sh.heap.IsTuple l ys)
    (h : ∀ g1, IsEnum g1 (sh.heap.objs.size + 1) sh.heap.objs.size 0 .none → g1.IsTupleIter sh.heap.objs.size l 0 → g1.objs.size = sh.heap.objs.size + 2 →
      (∀ b o, sh.heap.get? b = some o → g1.get? b = some o) → Z (.ref (sh.heap.objs.size + 1)) { sh with heap := g1 }) :
    wpAny (model prog w) A (call (.type "enumerate") [.ref l]) Z E sh := by
  obtain ⟨⟨c, d0, dt, sv⟩, gl, cm, n, dd⟩ := gL
  replace cm : c = .type "tuple" := cm
  replace dd : dt = .seq ys n := dd
  subst cm dd
  refine callType_new PySem.F.called_enumerate (by decide) (PySem.F.typeCall_enumerate_1 _) (PySem.F.newCall_enumerate_1 _) (fun obj => PySem.F.args_object_init_2 obj _) PySem.F.entry_enumerate_new
    (meets_enum_newT l ys n d0 sv) ⟨gl, ?_⟩
  have gz : (sh.heap.push { cls := .type "tuple_iterator", data := .fields #[.ref l, .int 0 0] }).objs.size = sh.heap.objs.size + 1 := Heap.size_push ..
  show _ ∧ _
  rw [gz]
  have hE : IsEnum ((sh.heap.push { cls := .type "tuple_iterator", data := .fields #[.ref l, .int 0 0] }).push
      { cls := .type "enumerate", data := .fields #[.none, .bool false, .ref sh.heap.objs.size, rawInt 0, .none, .none] }) (sh.heap.objs.size + 1) sh.heap.objs.size 0 .none := by
    have := Heap.get?_push_size (sh.heap.push { cls := .type "tuple_iterator", data := .fields #[.ref l, .int 0 0] })
      (o := { cls := .type "enumerate", data := .fields #[.none, .bool false, .ref sh.heap.objs.size, rawInt 0, .none, .none] }) rfl
    rw [gz] at this; exact this
  refine ⟨⟨_, hE, rfl⟩, h _ hE ⟨_, Heap.get?_push_of_some _ (Heap.get?_push_size _ rfl), rfl, rfl⟩ (by rw [Heap.size_push, gz]) fun b o x => Heap.get?_push_of_some _ (Heap.get?_push_of_some _ x)⟩
/-- a tuple enumerated: each item in a nw pair -/
def IteT (K : PySem.W.Frag) (a : Addr) : It :=
  ⟨fun i H => ∃ (xs : List V) (x : V), SqT K H a xs ∧ xs[i]? = some x, fun i H v H' => ∃ T x, v = .ref T ∧ H T = none ∧ H' = upd H T (.tup [.int (i : Nat), x]) ∧ ∀ xs, SqT K H a xs → xs[i]? = some x, fun i H => ∃ xs : List V, SqT K H a xs ∧ xs.length = i⟩
theorem turn_enumT {P : Program} {w : World} {K : PySem.W.Frag} {elts : List Expr} {kk : Nat} {tpos : Pos} (a e it : Addr) (hai : a ≠ it) (hae : a ≠ e) :
    Turn P w K (.Tuple elts kk tpos) (IteT K a) [e, it] e (fun i h => (∃ w0, IsEnum h e it ((i : Nat) : Int) w0) ∧ h.IsTupleIter it a i ∧ e ≠ it) where
  mem := by simp
  obj := fun i h sw b hb => by
    obtain ⟨⟨w0, hE⟩, ⟨o, ho, cm, dd⟩, _⟩ := sw
    have eb : b = e ∨ b = it := by simpa using hb
    rcases eb with z | z
    · rw [z]; exact ⟨_, hE, fun v w9 => nomatch w9⟩
    · rw [z]; exact ⟨o, ho, fun v w9 => by rw [dd] at w9; cases w9⟩
  keep := fun i h g1 sw k => let ⟨⟨w0, hE⟩, hi, nE⟩ := sw; ⟨⟨w0, k e (by simp) _ hE⟩, hi.at fun o w9 => k it (by simp) o w9, nE⟩
  item := by
    intro X hP hw hK cm i pn sh τ H E V0 ff sw gg
    subst hP hw hK
    obtain ⟨⟨w0, hE⟩, hT, nE⟩ := sw
    obtain ⟨xs, x, sq, gx⟩ := gg
    obtain ⟨zs, rZ, p, gz⟩ := V0.tuple sq
    obtain ⟨y0, gu, rU⟩ := rZ.get gx
    have hel : e < sh.heap.objs.size := Heap.lt_size hE
    have hil : it < sh.heap.objs.size := by obtain ⟨_, w9, _⟩ := hT; exact Heap.lt_size w9
    have hlt : i < zs.toArray.size := by
      rw [List.size_toArray]; exact (List.getElem?_eq_some_iff.mp gu).1
    refine wpAny_pyNext_enum_itemD (Draws.tuple (A := X.A.in1) (V0.ok.hd cm) it a hai zs.toArray) hE ⟨hT, p⟩ hlt nE (by simp [nE, Ne.symm hae]) fun y1 g1 k1 hu' ho hst' hT gz kp => ?_
    obtain ⟨hit', _⟩ := hst'
    have eu : y1 = y0 := by
      have : zs[i]? = some y1 := by simpa using hu'
      rw [gu] at this; exact (Option.some.inj this).symm
    subst eu
    refine ⟨_, rfl, wpAny_letOwnedTupleGo_enum (s := { sh with heap := g1, toks := k1 + 1 }) ho fun g2 he' sb => ?_⟩
    have hT2 : g2.get? sh.heap.objs.size = some { cls := .type "tuple", data := .seq #[.int i k1, y1] } := (sb.2 _ (Nat.ne_of_gt hel)).trans hT
    have nw : ObjOk X.prog X.w (upd H sh.heap.objs.size (.tup [.int (i : Nat), x])) g2 sh.heap.objs.size (.tup [.int (i : Nat), x]) :=
      ⟨by show 2 ≤ sizeLine; decide, [.int i k1, y1], .cons ⟨_, rfl⟩ (.cons rU .nil), ⟨_, hT2, rfl, _, rfl⟩⟩
    have V1 : Inv X pn τ (upd H sh.heap.objs.size (.tup [.int (i : Nat), x])) { sh with heap := g2, toks := k1 + 1 } :=
      V0.turnedNew (ch := [e, it]) (fun b o8 hb w9 => (sb.2 b (fun z => hb (by simp [z]))).trans (kp b o8 (fun z => hb (by simp [z])) (fun z => hb (by simp [z])) w9)) ff (Nat.le_refl _) nw
    refine ⟨.ref sh.heap.objs.size, _, V1, rfl, ⟨_, x, rfl, V0.hok.fresh (Nat.le_refl _), rfl, fun ys hy => by rw [V0.tuple_inj hy sq]; exact gx⟩, ⟨⟨y1, ?_⟩, hit'.at fun o w9 => (sb.2 it (Ne.symm nE)).trans w9, nE⟩, fun b hb => ?_⟩
    · have up1 : ((i + 1 : Nat) : Int) = (i : Int) + 1 := by omega
      rw [up1]; exact he'
    · have lb : b < sh.heap.objs.size := by
        have eb : b = e ∨ b = it := by simpa using hb
        rcases eb with z | z
        · rw [z]; exact hel
        · rw [z]; exact hil
      rw [upd_ne (Nat.ne_of_lt lb)]
      exact (ff b hb).1
  done := by
    intro X hP hw hK cm i pn sh τ H E V0 ff sw gg
    subst hP hw hK
    obtain ⟨⟨w0, hE⟩, hT, nE⟩ := sw
    obtain ⟨xs, sq, gx⟩ := gg
    obtain ⟨zs, rZ, p, gz⟩ := V0.tuple sq
    obtain ⟨f0, f1, f2, f3, f4, f5⟩ := ff it (by simp)
    have gl : i = zs.toArray.size := by rw [List.size_toArray, ← rZ.length, gx]
    subst gl
    refine wpAny_pyNext_enum_endD (Draws.tuple (A := X.A.in1) (V0.ok.hd cm) it a hai zs.toArray) hE ⟨hT, p⟩ fun g1 eb => ⟨rfl, V0.turned (t' := sh.toks) (fun b o hb w9 => eb b o hb w9) f0 f1 f3 f4 f5⟩
  self := fun A i sh Z E sw h => let ⟨⟨_, hE⟩, _⟩ := sw; wpAny_pyIter_enum hE h
def iEnumT (K : PySem.W.Frag) (ta : TA) : TI := fun τ H R => ta τ H fun xs1 H1 => ∃ a xs, xs1 = [.ref a] ∧ SqT K H1 a xs ∧ R (IteT K a) H1
theorem pi_enumT {e : Expr} {ta : TA} {p pos tpos : Pos} {elts : List Expr} {kk : Nat} (gg : Gl X "enumerate") (mm : X.mg "enumerate" = none) (pa0 : PA X [e] ta) (hsq : starEach [e] X.env = [(false, eval e X.env)] := by rfl) :
    PI X (.Tuple elts kk tpos) (.Call (.Name "enumerate" p) [e] [] pos) (iEnumT X.K ta) := by
  refine ⟨fun pn sh τ H R V0 h => ?_⟩
  refine Call_ (ld_blt V0 gg mm boot_enumerate (PyProof.Rows.callWith_type1 (thn (pa0.run pos pn sh τ H _ V0 h) fun us1 s1 ⟨xs1, H1, V1, r1, q1⟩ => ?_) hsq rfl))
  obtain ⟨a, xs, ex, sq, w9⟩ := q1
  subst ex
  cases r1 with
  | cons r rr =>
    cases rr
    cases r
    obtain ⟨zs, rZ, p', gz⟩ := V1.tuple sq
    obtain ⟨oa, hoa, _⟩ := id p'
    have la : a < s1.heap.objs.size := Heap.lt_size hoa
    refine call_enumT p' fun g1 hE hT gz kp => wpAny_pyIter_enum hE ?_
    have V2 : Inv X pn τ H1 { s1 with heap := g1 } := V1.kept (t' := s1.toks) kp
    refine ⟨s1.heap.objs.size + 1, [s1.heap.objs.size + 1, s1.heap.objs.size], _, _, H1, rfl, V2, turn_enumT a (s1.heap.objs.size + 1) s1.heap.objs.size (Nat.ne_of_lt la) (Nat.ne_of_lt (Nat.lt_succ_of_lt la)), ⟨⟨.none, hE⟩, hT, Nat.succ_ne_self _⟩, fun b hb => ?_, w9⟩
    have eb : b = s1.heap.objs.size + 1 ∨ b = s1.heap.objs.size := by simpa using hb
    have ge0 : s1.heap.objs.size ≤ b := by
      rcases eb with z | z
      · rw [z]; exact Nat.le_succ _
      · rw [z]; exact Nat.le_refl _
    exact V1.fpOk ge0 (V1.hok.fresh ge0)
end
/-! ### f(k = v, ..) -/
section
variable {X : Cx} {CX : CXT} {k n : Nat} {f : Addr} {fd : FuncData} {ps ks : List Str} {sp : Sp} {E : XK} {x : Str} {p pos : Pos} {kws : List Keyword} {k1 : TA} {g : List Value → List Value → List Value} {gV : List V → List V → List V}
theorem pe_callN0 (F : FnOk X.prog X.w X.K X.mg X.base CX k f fd ps sp) (rm : Room k X.A) (gg : Gl X x) (mm : X.mg x = some (.ref f)) (kp : PySem.W.keepIn X.K (.ref f) = true) (hb : KBn X.K fd ps 0 ks g gV) (gx : Passes CX X E) (kW : PK X kws k1)
    (hAl : (backToKw pos (keywordEach kws X.env)).all (·.1.isSome) = true := by rfl) (hKs : (backToKw pos (keywordEach kws X.env)).filterMap (·.1) = ks := by rfl) (hDb : (x == ("__debug__" : Str)) = false := by decide)
    (hPl : ((backTo pos (starEach [] X.env)).any (·.1) || (backToKw pos (keywordEach kws X.env)).any (·.1.isNone)) = false := by rfl) :
    PE X (.Call (.Name x p) [] kws pos) (tCallN 0 ks.length sp gV E tNil k1) := by
  refine ⟨fun pn sh τ H Z V0 h => ?_⟩
  refine wpAny_Call_Name_kw (ld_glob V0 gg mm ?_ hDb)
  refine PySem.W.callWith_KW0 (h₀ := X.base) V0.ok.mod.kin kp hAl ?_ hPl
  refine thn (kW.run pos pn sh τ H _ V0 h) fun ws s2 ⟨zs, H2, V2, rz0, l1, l2, q2⟩ => ⟨V2.kIn, ?_⟩
  rw [hKs]
  exact run_fnN (us := []) (vs := []) F rm hb gx V2 .nil rz0 rfl l2 q2
end
end FD
namespace FD
open PySem L2 Evl
section
variable {C : Cfg} {M M' : List Addr} {δ δ' : List Ent} {μ μ' μ1 μ2 : Mem} {e : Ent} {ta tb te : TE} {tr tr' : TA}
theorem c_minD {x : PyData} {xs : List PyData} (r : Rdd μ e (.list (x :: xs))) (ha : PySem.W.AlikeAll (x :: xs)) (hd : PyData.depthAll (x :: xs) ≤ 32) : CallX C (rMinD C.K) M δ μ μ [e] (.d (PySem.W.minD x xs)) := fun σ H vs o h Q k => by
  obtain ⟨v, rfl, q⟩ := p1 h
  obtain ⟨a, ws, q1, q2, q3⟩ := r.lst o q
  refine ⟨a, ws, x, xs, by rw [q1], q2, dpAll_mono hide_le _ _ q3, ha, hd, fun j w h1 h2 => ?_⟩
  obtain ⟨w', g1, g2⟩ := q3.get h2
  rw [h1] at g1
  cases g1
  exact k w H o (Ex.refl _) g2
theorem w_enumT {K : PySem.W.Frag} {Hh : Hp} {a : Addr} {vs : List V} {xs : List PyData} (h : SqT K Hh a vs) (hd : DpAll K Hh vs xs) : WalkD K (IteT K a) Hh (enumD xs) where
  go := fun M i H hi _ x => by
    rw [enumD_length, ← hd.length] at hi
    exact ⟨vs, vs[i], ex_t (x.trans hide_le) h, by simp [hi]⟩
  stop := fun M H _ x => ⟨vs, ex_t (x.trans hide_le) h, by rw [enumD_length, hd.length]⟩
  yld := fun M i H y H' hi al x q => by
    rw [enumD_length] at hi
    obtain ⟨T, v, rfl, hT, rfl, qv⟩ := q
    obtain ⟨v', g1, g2⟩ := hd.get (i := i) (d := xs[i]) (by simp [hi])
    have e1 := qv vs (ex_t (x.trans hide_le) h)
    rw [g1] at e1; cases e1
    obtain ⟨r1, r2⟩ := new_pair al hT (Dp.int (i : Nat)) (dp_mono x _ _ g2)
    exact ⟨r1, _, enumD_get (by simp [hi]), r2⟩
theorem i_enumT {xs : List PyData} (h : EvA C tr M δ μ μ' [.d (.tuple xs)]) : EvI C (iEnumT C.K tr) M δ μ μ' (enumD xs) := fun σ H o R k => h σ H o _ fun vs H1 o1 x1 r => by
  obtain ⟨v, rfl, q⟩ := p1 r
  obtain ⟨a, vs, g1, g2, g3⟩ := Dp.tup_of q
  exact ⟨a, vs, by rw [g1], ex_t hide_le g2, k _ H1 o1 x1 (w_enumT g2 g3)⟩
/-- f(k = v, ..), all data: the values in the parameters' order -/
theorem x_callN {n m : Nat} {Pre : List PyData → Prop} {F : List PyData → PyData} {ds es : List PyData} {E : XK} {gV : List V → List V → List V} (h : EvA C tr' M δ μ μ' (es.map Ent.d)) (hm : es.length = m)
    (hg : ∀ (H : Hp) (zs : List V), DpAll C.K H zs es → DpAll C.K H (gV [] zs) ds) (hn : ds.length = n) (hp : Pre ds) : EvX C (tCallN 0 m (spD C.K n Pre F) gV E tNil tr') M δ μ μ' (.d (F ds)) := fun σ H o Q k =>
  h σ H o _ fun vs H1 o1 x1 r1 => by
    have d1 := hg _ _ (dpAll_of r1)
    refine ⟨rfl, by rw [(dpAll_of r1).length]; exact hm, by rw [d1.length]; exact hn, M, ds, o1.alloc, d1, hp, fun v H2 e2 d2 => ?_⟩
    exact k v H2 (o1.grow e2) (x1.trans (hide_ex e2)) d2
end
end FD
/-! promises by a relation between what is handed in and what comes back; a def's proof -/
namespace FD
open PySem L2 Evl
def spR (K : PySem.W.Frag) (n : Nat) (R : List PyData → PyData → Prop) : Sp := fun vs H Q _ => vs.length = n ∧ ∃ M ds d, (∀ a ∈ M, H a ≠ none) ∧ DpAll K (hide M H) vs ds ∧ R ds d ∧ ∀ v H', Ex H H' → Dp K (hide M H') v d → Q v H'
def spW (K : PySem.W.Frag) (n : Nat) (R : List PyData → List PyData → PyData → List PyData → Prop) : Sp := fun vs H Q _ =>
  vs.length = n ∧ ∃ M b bs ws ds d bs', vs = .ref b :: ws ∧ b ∈ M ∧ (∀ a ∈ M, H a ≠ none) ∧ MOok K (hide M H) H b (.lst bs) ∧ DpAll K (hide M H) ws ds ∧ R bs ds d bs' ∧
    ∀ v H', Ex (hide [b] H) H' → MOok K (hide M H') H' b (.lst bs') → Dp K (hide M H') v d → Q v H'
section
variable {C : Cfg} {M : List Addr} {δ : List Ent} {μ μ' : Mem} {tr tr' : TA}
theorem x_callR {n : Nat} {R : List PyData → PyData → Prop} {ds : List PyData} {d : PyData} {E : XK} (h : EvA C tr M δ μ μ' (ds.map Ent.d)) (hp : R ds d) (hn : ds.length = n := by rfl) : EvX C (tCall (spR C.K n R) [] E tr) M δ μ μ' (.d d) := fun σ H o Q k =>
  h σ H o _ fun vs H1 o1 x1 r1 => by
    rw [List.append_nil]
    refine ⟨by rw [(dpAll_of r1).length]; exact hn, M, ds, d, o1.alloc, dpAll_of r1, hp, fun v H2 e2 d2 => ?_⟩
    exact k v H2 (o1.grow e2) (x1.trans (hide_ex e2)) d2
theorem x_callW {n : Nat} {R : List PyData → List PyData → PyData → List PyData → Prop} {ds bs bs' : List PyData} {d : PyData} {E : XK} {b : Addr} (j : Nat)
    (h : EvA C tr M δ μ μ' (.m b :: ds.map Ent.d)) (hp : R bs ds d bs') (hj : μ'[j]? = some (b, .lst bs) := by rfl) (hn : ds.length + 1 = n := by rfl) : EvX C (tCall (spW C.K n R) [] E tr) M δ μ (μ'.set j (b, .lst bs')) (.d d) := fun σ H o Q k =>
  h σ H o _ fun vs H1 o1 x1 r1 => by
    rw [List.append_nil]
    cases r1 with
    | cons r0 rr =>
      have e0 : _ = V.ref b := r0
      subst e0
      have hb := o1.mem _ (List.mem_of_getElem? hj)
      refine ⟨by rw [List.length_cons, (dpAll_of rr).length]; exact hn, M, b, bs, _, ds, d, bs', rfl, hb.1, o1.alloc, hb.2.2, dpAll_of rr, hp, fun v H2 e2 m2 d2 => ?_⟩
      obtain ⟨o2, x2⟩ := after_mut o1 hj e2 m2
      exact k v H2 o2 (x1.trans x2) d2
theorem x_callRN {n m : Nat} {R : List PyData → PyData → Prop} {ds es : List PyData} {d : PyData} {E : XK} {gV : List V → List V → List V} (h : EvA C tr' M δ μ μ' (es.map Ent.d)) (hg : ∀ (H : Hp) (zs : List V), DpAll C.K H zs es → DpAll C.K H (gV [] zs) ds) (hp : R ds d)
    (hm : es.length = m := by rfl) (hn : ds.length = n := by rfl) : EvX C (tCallN 0 m (spR C.K n R) gV E tNil tr') M δ μ μ' (.d d) := fun σ H o Q k =>
  h σ H o _ fun vs H1 o1 x1 r1 => by
    have d1 := hg _ _ (dpAll_of r1)
    refine ⟨rfl, by rw [(dpAll_of r1).length]; exact hm, by rw [d1.length]; exact hn, M, ds, d, o1.alloc, d1, hp, fun v H2 e2 d2 => ?_⟩
    exact k v H2 (o1.grow e2) (x1.trans (hide_ex e2)) d2
end
section
variable {P : Program} {w : World} {K : PySem.W.Frag} {mg : Str → Option Value} {base : Heap}
theorem def_R {x qual : Str} {st : Stmt} {f : Addr} {fd : FuncData} {N ps : List Str} {k : Nat} {R : List PyData → PyData → Prop} (F : Fun K x qual st f fd) (S : FnScope N ps (defScope st)) (hN : ps.length ≤ N.length)
    (h : ∀ (cdv : Value) (A : Around) (outer : List Env) (s : Shared) (H : Hp) (E : XK), Room k (A.deeper (PyProof.Rows.envOfC qual (defScope st) s.heap.objs.size f cdv)) →
      ∃ t, PSs (cxOf CX0 P w K mg base N qual (defScope st) f cdv A outer s H E).nox (defBody st) t ∧
        ∀ (M : List Addr) (G B : Hp) (ds : List PyData) (d : PyData), ds.length = ps.length → R ds d → ∀ D : Ends, Fin ⟨K, M, G, B⟩ D d → Run ⟨K, M, G, B⟩ t D M (startE N.length ds.length (ds.map Ent.d)) []) :
    FnOk P w K mg base CX0 (k + 1) f fd ps (spR K ps.length R) := by
  refine F.ok S (fun vs H Q E hs => hs.1) fun cdv A outer s H vs Q E hr hs => ?_
  obtain ⟨hn, M, ds, d, al, hd, hR, kk⟩ := hs
  obtain ⟨t, ht, run⟩ := h cdv A outer s H E hr
  exact ⟨t, ht, run M H (hide M H) ds d (by rw [← hd.length]; exact hn) hR _ (fun v H' e r => kk v H' e r) _ _ (ok_startD al hd (by rw [hn]; exact hN))⟩
theorem def_W {x qual : Str} {st : Stmt} {f : Addr} {fd : FuncData} {N ps : List Str} {k n : Nat} {R : List PyData → List PyData → PyData → List PyData → Prop} (F : Fun K x qual st f fd) (S : FnScope N ps (defScope st)) (hN : ps.length ≤ N.length) (hp : ps.length = n)
    (h : ∀ (cdv : Value) (A : Around) (outer : List Env) (s : Shared) (H : Hp) (E : XK), Room k (A.deeper (PyProof.Rows.envOfC qual (defScope st) s.heap.objs.size f cdv)) →
      ∃ t, PSs (cxOf CX0 P w K mg base N qual (defScope st) f cdv A outer s H E).nox (defBody st) t ∧
        ∀ (M : List Addr) (G B : Hp) (b : Addr) (bs ds : List PyData) (d : PyData) (bs' : List PyData), ds.length + 1 = n → R bs ds d bs' → ∀ D : Ends,
          (∀ (v : V) (M' : List Addr) (H' : Hp), Ex G H' → (∀ a ∈ M, a ∈ M') → MOok K (hide M' H') H' b (.lst bs') → Dp K (hide M' H') v d → D.rt v H') → Run ⟨K, M, G, B⟩ t D M (startE N.length (ds.length + 1) (.m b :: ds.map Ent.d)) [(b, .lst bs)]) :
    FnOk P w K mg base CX0 (k + 1) f fd ps (spW K n R) := by
  refine F.ok S (fun vs H Q E hs => hs.1.trans hp.symm) fun cdv A outer s H vs Q E hr hs => ?_
  obtain ⟨hn, M, b, bs, ws, ds, d, bs', rfl, hb, al, hm, hd, hR, kk⟩ := hs
  obtain ⟨t, ht, run⟩ := h cdv A outer s H E hr
  have hl : ws.length + 1 = n := by rw [List.length_cons] at hn; exact hn
  exact ⟨t, ht, run M (hide [b] H) (hide M H) b bs ds d bs' (by rw [← hd.length]; exact hl) hR _ (fun v M' H' e s m r => kk v H' e (m.mono (hide_sub s) fun _ q => q) (dp_mono (hide_sub s) _ _ r)) _ _ (ok_startM hb al hm hd (by rw [hl, ← hp]; exact hN))⟩
end
section
variable {C : Cfg} {M : List Addr} {δ : List Ent} {μ μ' : Mem} {te : TE} {D : Ends}
/-- handing back data, the changed list with it -/
theorem r_retW {b : Addr} {j : Nat} {mo : MO} {d : PyData} (h : EvX C te M δ μ μ' (.d d)) (hj : μ'[j]? = some (b, mo)) (k : ∀ (v : V) (M' : List Addr) (H' : Hp), Ex C.G H' → (∀ a ∈ C.M0, a ∈ M') → MOok C.K (hide M' H') H' b mo → Dp C.K (hide M' H') v d → D.rt v H') : Run C (tRet te) D M δ μ := fun σ H o => h σ H o _ fun v H1 o1 x1 r =>
  k v M H1 o1.gr o1.sub (o1.mem _ (List.mem_of_getElem? hj)).2.2 r
end
/-! ### the rules with the written part named (within a comprehension) -/
section
variable {X : Cx} {K : PySem.W.Frag}
theorem kix_tup (h : X.K = K) : IxR X (rIxT K) := h ▸ ix_tup
theorem kix_list (h : X.K = K) : IxR X (rIxL K) := h ▸ ix_list
theorem kop_eqD (h : X.K = K) (hu : X.A.units + 64 < cLine) : OpR X (compareOp .Eq) (rEqD K) := h ▸ op_eqD hu
theorem kop_neD (h : X.K = K) (hu : X.A.units + 64 < cLine) : OpR X (compareOp .NotEq) (rNeD K) := h ▸ op_neD hu
theorem klen (h : X.K = K) : CallR X (.builtin "len") (FD.rLenS K) := h ▸ call_len_seq
theorem ktuple (h : X.K = K) : CallR X (.type "tuple") (rTupleS K) := h ▸ call_tuple_of
theorem ksum (h : X.K = K) (hc : X.calm = true) : CallR X (.builtin "sum") (rSum K) := h ▸ cr_sum hc
theorem ksl_tupA (h : X.K = K) : SlR X (rSlA K) := h ▸ sl_tupA
theorem ksl_list (h : X.K = K) : SlR X (rSlL K) := h ▸ sl_list
theorem kop_catA (h : X.K = K) : OpR X (binaryOp .Add) (rCatA K) := h ▸ op_catA
end
/-! ### promises where the def chooses what comes back -/
def spP (K : PySem.W.Frag) (n : Nat) (Pre : List PyData → Prop) (Post : List PyData → PyData → Prop) : Sp := fun vs H Q _ => vs.length = n ∧ ∃ M ds, (∀ a ∈ M, H a ≠ none) ∧ DpAll K (hide M H) vs ds ∧ Pre ds ∧ ∀ v H' d, Post ds d → Ex H H' → Dp K (hide M H') v d → Q v H'
section
variable {P : Program} {w : World} {K : PySem.W.Frag} {mg : Str → Option Value} {base : Heap}
theorem def_P {x qual : Str} {st : Stmt} {f : Addr} {fd : FuncData} {N ps : List Str} {k : Nat} {Pre : List PyData → Prop} {Post : List PyData → PyData → Prop} (F : Fun K x qual st f fd) (S : FnScope N ps (defScope st)) (hN : ps.length ≤ N.length)
    (h : ∀ (cdv : Value) (A : Around) (outer : List Env) (s : Shared) (H : Hp) (E : XK), Room k (A.deeper (PyProof.Rows.envOfC qual (defScope st) s.heap.objs.size f cdv)) →
      ∃ t, PSs (cxOf CX0 P w K mg base N qual (defScope st) f cdv A outer s H E).nox (defBody st) t ∧
        ∀ (M : List Addr) (G B : Hp) (ds : List PyData), ds.length = ps.length → Pre ds → ∀ D : Ends, (∀ d, Post ds d → Fin ⟨K, M, G, B⟩ D d) → Run ⟨K, M, G, B⟩ t D M (startE N.length ds.length (ds.map Ent.d)) []) :
    FnOk P w K mg base CX0 (k + 1) f fd ps (spP K ps.length Pre Post) := by
  refine F.ok S (fun vs H Q E hs => hs.1) fun cdv A outer s H vs Q E hr hs => ?_
  obtain ⟨hn, M, ds, al, hd, hR, kk⟩ := hs
  obtain ⟨t, ht, run⟩ := h cdv A outer s H E hr
  exact ⟨t, ht, run M H (hide M H) ds (by rw [← hd.length]; exact hn) hR _ (fun d hp v H' e r => kk v H' d hp e r) _ _ (ok_startD al hd (by rw [hn]; exact hN))⟩
end
section
variable {C : Cfg} {M : List Addr} {δ : List Ent} {μ μ' : Mem} {tr tr' : TA} {D : Ends} {t2 : TS}
theorem r_asgP {i n : Nat} {Pre : List PyData → Prop} {Post : List PyData → PyData → Prop} {ds : List PyData} {E : XK} (h : EvA C tr M δ μ μ' (ds.map Ent.d)) (hp : Pre ds) (k : ∀ d, Post ds d → Nx C D M (δ.set i (.d d)) μ') (hn : ds.length = n := by rfl) :
    Run C (tAsg (tCall (spP C.K n Pre Post) [] E tr) (gName i)) D M δ μ := fun σ H o => h σ H o _ fun vs H1 o1 x1 r1 => by
  rw [List.append_nil]
  refine ⟨by rw [(dpAll_of r1).length]; exact hn, M, ds, o1.alloc, dpAll_of r1, hp, fun v H2 d hd e2 d2 => ?_⟩
  exact k d hd _ _ ((o1.grow e2).set i (e := .d d) d2)
theorem q_asgP {i n : Nat} {Pre : List PyData → Prop} {Post : List PyData → PyData → Prop} {ds : List PyData} {E : XK} (h : EvA C tr M δ μ μ' (ds.map Ent.d)) (hp : Pre ds) (k : ∀ d, Post ds d → Run C t2 D M (δ.set i (.d d)) μ') (hn : ds.length = n := by rfl) :
    Run C (tSeq (tAsg (tCall (spP C.K n Pre Post) [] E tr) (gName i)) t2) D M δ μ := r_asgP (D := { D with nx := t2 D }) h hp k hn
/-- x = f(k = v, ..) -/
theorem q_asgPN {i n m : Nat} {Pre : List PyData → Prop} {Post : List PyData → PyData → Prop} {ds es : List PyData} {E : XK} {gV : List V → List V → List V} (h : EvA C tr' M δ μ μ' (es.map Ent.d)) (hg : ∀ (H : Hp) (zs : List V), DpAll C.K H zs es → DpAll C.K H (gV [] zs) ds) (hp : Pre ds)
    (k : ∀ d, Post ds d → Run C t2 D M (δ.set i (.d d)) μ') (hm : es.length = m := by rfl) (hn : ds.length = n := by rfl) :
    Run C (tSeq (tAsg (tCallN 0 m (spP C.K n Pre Post) gV E tNil tr') (gName i)) t2) D M δ μ := fun σ H o => h σ H o _ fun vs H1 o1 x1 r1 => by
  have d1 := hg _ _ (dpAll_of r1)
  refine ⟨rfl, by rw [(dpAll_of r1).length]; exact hm, by rw [d1.length]; exact hn, M, ds, o1.alloc, d1, hp, fun v H2 d hd e2 d2 => ?_⟩
  exact k d hd _ _ ((o1.grow e2).set i (e := .d d) d2)
end
/-! ### shapes -/
theorem canLay_all : ∀ {l : List PyData}, (∀ d ∈ l, d.canLay0 = true) → PyData.canLayAll0 l = true
  | [], _ => by simp [PyData.canLayAll0]
  | x :: l, h => by
    rw [PyData.canLayAll0, h x List.mem_cons_self, canLay_all fun d hd => h d (List.mem_cons_of_mem _ hd)]
    rfl
theorem depth_all {n : Nat} : ∀ {l : List PyData}, (∀ d ∈ l, d.depth ≤ n) → PyData.depthAll l ≤ n
  | [], _ => by simp [PyData.depthAll]
  | x :: l, h => by
    rw [PyData.depthAll]
    exact Nat.max_le.mpr ⟨h x List.mem_cons_self, depth_all fun d hd => h d (List.mem_cons_of_mem _ hd)⟩
/-- data nested n deep at most -/
def Shp (n : Nat) (d : PyData) : Prop := d.canLay0 = true ∧ d.depth ≤ n
theorem Shp.shaped {n : Nat} {d : PyData} (h : Shp n d) (hn : n ≤ 64) : SeqAt.shaped d = true := by
  unfold SeqAt.shaped
  rw [h.1, decide_eq_true (Nat.le_trans h.2 hn)]
  rfl
theorem shp_int (n : Nat) (i : Int) : Shp n (.int i) := ⟨by simp [PyData.canLay0], by simp [PyData.depth]⟩
theorem shp_bool (n : Nat) (i : Bool) : Shp n (.bool i) := ⟨by simp [PyData.canLay0], by simp [PyData.depth]⟩
theorem shp_none (n : Nat) : Shp n .none := ⟨by simp [PyData.canLay0], by simp [PyData.depth]⟩
theorem shp_list {n : Nat} {l : List PyData} (h : ∀ d ∈ l, Shp n d) : Shp (n + 1) (.list l) := ⟨by rw [PyData.canLay0]; exact canLay_all fun d hd => (h d hd).1, by rw [PyData.depth]; exact Nat.succ_le_succ (depth_all fun d hd => (h d hd).2)⟩
theorem shp_tuple {n : Nat} {l : List PyData} (h : ∀ d ∈ l, Shp n d) : Shp (n + 1) (.tuple l) := ⟨by rw [PyData.canLay0]; exact canLay_all fun d hd => (h d hd).1, by rw [PyData.depth]; exact Nat.succ_le_succ (depth_all fun d hd => (h d hd).2)⟩
theorem shp_ints (n : Nat) (l : List Int) : Shp (n + 1) (.list (l.map .int)) := shp_list fun d hd => by
  obtain ⟨i, _, rfl⟩ := List.mem_map.mp hd
  exact shp_int n i
theorem shp_tints (n : Nat) (l : List Int) : Shp (n + 1) (.tuple (l.map .int)) := shp_tuple fun d hd => by
  obtain ⟨i, _, rfl⟩ := List.mem_map.mp hd
  exact shp_int n i
theorem shp_nil (n : Nat) : Shp (n + 1) (.list []) := shp_list fun d hd => by cases hd
theorem eqv_int (i j : Int) : PyData.eqv (.int i) (.int j) = (i == j) := by simp [PyData.eqv]
theorem eqv_ints : ∀ (xs ys : List Int), PyData.eqvAll (xs.map .int) (ys.map .int) = (xs == ys)
  | [], [] => by simp [PyData.eqvAll]
  | [], _ :: _ => by simp [PyData.eqvAll]
  | _ :: _, [] => by simp [PyData.eqvAll]
  | x :: xs, y :: ys => by
    rw [List.map_cons, List.map_cons, PyData.eqvAll, eqv_ints xs ys, eqv_int]
    rfl
/-! ### where the lists stay as they are -/
section
variable {C : Cfg} {M : List Addr} {δ : List Ent} {μ μ1 : Mem} {te ta tb : TE} {t : TT} {D : Ends} {e : Ent} {b : Bool} {tr : TA}
theorem x_cbP {r : List V → Hp → VK → Prop} {es : List Ent} (h : EvA C tr M δ μ μ1 es) (hr : CallX C r M δ μ1 μ1 es e) : EvX C (tCB r tr) M δ μ μ1 e := x_cb h hr
theorem x_ifP (h : EvT C t M δ μ μ1 b) (h1 : b = true → EvX C ta M δ μ1 μ1 e) (h2 : b = false → EvX C tb M δ μ1 μ1 e) : EvX C (tIf t ta tb) M δ μ μ1 e := x_if h h1 h2
theorem r_retP {d : PyData} (h : EvX C te M δ μ μ (.d d)) (k : Fin C D d) : Run C (tRet te) D M δ μ := r_retD h k
end
end FD
/-! promises that hand back a new list, which the caller may change; types of data; sequences of either kind -/
namespace FD
open PySem L2 Evl
/-- a new list comes back -/
def spN (K : PySem.W.Frag) (n : Nat) (R : List PyData → List PyData → Prop) : Sp := fun vs H Q _ => vs.length = n ∧ ∃ M ds es, (∀ a ∈ M, H a ≠ none) ∧ DpAll K (hide M H) vs ds ∧ R ds es ∧
  ∀ p H' ws, H p = none → Ex H H' → H' p = some (.lst ws) → DpAll K (hide (p :: M) H') ws es → Q (.ref p) H'
def FinN (C : Cfg) (D : Ends) (es : List PyData) : Prop := ∀ p H ws, C.G p = none → p ∉ C.M0 → Ex C.G H → H p = some (.lst ws) → DpAll C.K (hide (p :: C.M0) H) ws es → D.rt (.ref p) H
section
variable {P : Program} {w : World} {K : PySem.W.Frag} {mg : Str → Option Value} {base : Heap}
theorem def_N {x qual : Str} {st : Stmt} {f : Addr} {fd : FuncData} {N ps : List Str} {k : Nat} {R : List PyData → List PyData → Prop} (F : Fun K x qual st f fd) (S : FnScope N ps (defScope st)) (hN : ps.length ≤ N.length)
    (h : ∀ (cdv : Value) (A : Around) (outer : List Env) (s : Shared) (H : Hp) (E : XK), Room k (A.deeper (PyProof.Rows.envOfC qual (defScope st) s.heap.objs.size f cdv)) →
      ∃ t, PSs (cxOf CX0 P w K mg base N qual (defScope st) f cdv A outer s H E).nox (defBody st) t ∧
        ∀ (M : List Addr) (G B : Hp) (ds es : List PyData), ds.length = ps.length → R ds es → ∀ D : Ends, FinN ⟨K, M, G, B⟩ D es → Run ⟨K, M, G, B⟩ t D M (startE N.length ds.length (ds.map Ent.d)) []) :
    FnOk P w K mg base CX0 (k + 1) f fd ps (spN K ps.length R) := by
  refine F.ok S (fun vs H Q E hs => hs.1) fun cdv A outer s H vs Q E hr hs => ?_
  obtain ⟨hn, M, ds, es, al, hd, hR, kk⟩ := hs
  obtain ⟨t, ht, run⟩ := h cdv A outer s H E hr
  exact ⟨t, ht, run M H (hide M H) ds es (by rw [← hd.length]; exact hn) hR _ (fun p H' ws hp _ e q r => kk p H' ws hp e q r) _ _ (ok_startD al hd (by rw [hn]; exact hN))⟩
end
section
variable {C : Cfg} {M : List Addr} {δ : List Ent} {μ μ' μ1 μ2 : Mem} {tr tr' : TA} {D : Ends} {t2 : TS} {te tb ta : TE} {e2 : Ent} {i j : Nat}
/-- return [..] -/
theorem r_retN {es : List PyData} (h : EvA C tr M δ μ μ' (es.map Ent.d)) (hl : es.length ≤ 100000) (k : FinN C D es) : Run C (tRet (tLst tr)) D M δ μ := fun σ H o => h σ H o _ fun vs H1 o1 x1 r1 => ⟨by rw [(dpAll_of r1).length]; exact sz_of hl, fun p hp => by
  have g : C.G p = none := by
    cases z : C.G p with
    | none => rfl
    | some u => have := o1.gr p u z; rw [hp] at this; cases this
  have e : Ex H1 (upd H1 p (.lst vs)) := Ex.new hp
  have s : Ex (hide M H1) (hide (p :: C.M0) (upd H1 p (.lst vs))) := fun a u z => by
    obtain ⟨q, z⟩ := hide_some z
    have ne : a ≠ p := ne_of_none z hp
    rw [hide_out (fun y => (List.mem_cons.mp y).elim ne fun y => q (o1.sub a y)), upd_ne ne]; exact z
  exact k p _ vs g (fun z => o1.alloc p (o1.sub p z) hp) (o1.gr.trans e) upd_same (dpAll_mono s _ _ (dpAll_of r1))⟩
/-- return x, x a list of one's own -/
theorem r_retNM {a : Addr} {es : List PyData} {j : Nat} (h : EvX C te M δ μ μ' (.m a)) (hj : μ'[j]? = some (a, .lst es)) (ha : a ∉ C.M0) (k : FinN C D es) : Run C (tRet te) D M δ μ := fun σ H o => h σ H o _ fun v H1 o1 x1 r => by
  have r' : v = .ref a := r
  obtain ⟨q0, q3, vs, q1, q2⟩ := o1.mem _ (List.mem_of_getElem? hj)
  rw [r']
  refine k a H1 vs q3 ha o1.gr q1 (dpAll_mono (hide_sub fun b hb => ?_) _ _ q2)
  rcases List.mem_cons.mp hb with z | z
  · rw [z]; exact q0
  · exact o1.sub b z
theorem r_asgN {n : Nat} {R : List PyData → List PyData → Prop} {ds es : List PyData} {E : XK} (h : EvA C tr M δ μ μ' (ds.map Ent.d)) (hp : R ds es) (k : ∀ p, p ∉ M → Nx C D (p :: M) (δ.set i (.m p)) ((p, .lst es) :: μ')) (hn : ds.length = n := by rfl) :
    Run C (tAsg (tCall (spN C.K n R) [] E tr) (gName i)) D M δ μ := fun σ H o => h σ H o _ fun vs H1 o1 x1 r1 => by
  rw [List.append_nil]
  refine ⟨by rw [(dpAll_of r1).length]; exact hn, M, ds, es, o1.alloc, dpAll_of r1, hp, fun p H2 ws hp0 e2 hl d2 => ?_⟩
  have x : Ex (hide M H1) (hide (p :: M) H2) := fun a u z => by
    obtain ⟨q, z⟩ := hide_some z
    have ne : a ≠ p := ne_of_none z hp0
    rw [hide_out (fun y => (List.mem_cons.mp y).elim ne q)]; exact e2 a u z
  have pM := o1.fresh hp0
  have ok2 : Ok C (p :: M) δ ((p, .lst es) :: μ') σ H2 := by
    refine ⟨o1.len, fun i y h1 h2 => let ⟨v, a, c⟩ := o1.slot i y h1 h2; ⟨v, a, c.mono x⟩, fun q hq => ?_, ?_, fun b hb => ?_, fun a ha => List.mem_cons_of_mem _ (o1.sub a ha), o1.gr.trans e2, o1.base.trans x⟩
    · rcases List.mem_cons.mp hq with z | hq
      · subst z
        refine ⟨List.mem_cons_self, ?_, ws, hl, d2⟩
        cases z : C.G p with
        | none => rfl
        | some u => have := o1.gr p u z; rw [hp0] at this; cases this
      · obtain ⟨b1, b2, b3⟩ := o1.mem q hq
        exact ⟨List.mem_cons_of_mem _ b1, b2, b3.mono x fun u z => e2 _ u z⟩
    · rw [List.map_cons, List.nodup_cons]
      refine ⟨fun z => ?_, o1.nd⟩
      obtain ⟨q, hq, z⟩ := List.mem_map.mp z
      have y : q.1 = p := z
      exact pM (by rw [← y]; exact (o1.mem q hq).1)
    · rcases List.mem_cons.mp hb with z | hb
      · rw [z, hl]; exact fun y => nomatch y
      · cases z : H1 b with
        | none => exact absurd z (o1.alloc b hb)
        | some u => rw [e2 b u z]; exact fun y => nomatch y
  exact k p pM _ _ (ok2.set i (e := .m p) rfl)
theorem q_asgN {n : Nat} {R : List PyData → List PyData → Prop} {ds es : List PyData} {E : XK} (h : EvA C tr M δ μ μ' (ds.map Ent.d)) (hp : R ds es) (k : ∀ p, p ∉ M → Run C t2 D (p :: M) (δ.set i (.m p)) ((p, .lst es) :: μ')) (hn : ds.length = n := by rfl) :
    Run C (tSeq (tAsg (tCall (spN C.K n R) [] E tr) (gName i)) t2) D M δ μ := r_asgN (D := { D with nx := t2 D }) h hp k hn
/-- x, y = [..], e -/
theorem q_parN {ds : List PyData} (h : EvA C tr M δ μ μ1 (ds.map Ent.d)) (hl : ds.length ≤ 100000) (hb : ∀ p, p ∉ M → EvX C tb (p :: M) δ ((p, .lst ds) :: μ1) ((p, .lst ds) :: μ1) e2)
    (k : ∀ p, p ∉ M → Run C t2 D (p :: M) ((δ.set i (.m p)).set j e2) ((p, .lst ds) :: μ1)) : Run C (tSeq (tPar i j (tCons (tLst tr) (tCons tb tNil))) t2) D M δ μ := fun σ H o =>
  h σ H o _ fun vs H1 o1 x1 r => ⟨by have := (dpAll_of r).length; rw [this]; exact sz_of hl, fun p hp => by
    have o2 := o1.new hp (mo := .lst ds) (ho := .lst vs) ⟨vs, upd_same, dpAll_mono (hide_new hp) _ _ (dpAll_of r)⟩
    have pM := o1.fresh hp
    refine hb p pM σ _ o2 _ fun v H3 o3 x3 r3 => ?_
    exact ⟨.ref p, v, rfl, k p pM _ _ ((o3.set i (e := .m p) rfl).set j r3)⟩⟩

/-! ### either a list or a tuple -/
theorem o_seqL {i : Int} {ds : List PyData} {d : PyData} {e1 : Ent} (r : Rdd μ e1 (.list ds)) (ha : atI ds i = some d) : OpX C (rIx C.K) M δ μ μ e1 (.d (.int i)) (.d d) := fun σ H x y o h1 h2 Q k => .inl (o_ixL r ha σ H x y o h1 h2 Q k)
theorem o_seqT {i : Int} {ds : List PyData} {d : PyData} (ha : atI ds i = some d) : OpX C (rIx C.K) M δ μ μ (.d (.tuple ds)) (.d (.int i)) (.d d) := fun σ H x y o h1 h2 Q k => .inr (.inl (o_ixT ha σ H x y o h1 h2 Q k))

/-! ### isinstance -/
def tyD : PyData → String
  | .none => "NoneType"
  | .bool _ => "bool"
  | .int _ => "int"
  | .str _ => "str"
  | .list _ => "list"
  | .tuple _ => "tuple"
  | .dict _ => "dict"
theorem ty_dp {K : PySem.W.Frag} {H : Hp} {v : V} {d : PyData} (h : Dp K H v d) : TyX K H v (.type (tyD d)) := by
  cases h with
  | non => exact .base .non
  | bl b => exact .base (.bl b)
  | int i => exact .base (.int i)
  | str x => exact .base (.str x)
  | lst hs ha =>
    rcases hs with (hs | ⟨o, hs⟩) | ⟨o, its, n, hk, hc, _⟩
    · exact .base (.lst hs)
    · exact .base (.frz hs)
    · exact .kList hk hc
  | tup hs ha =>
    rcases hs with (hs | ⟨o, hs⟩) | ⟨o, its, n, hk, hc, _⟩
    · exact .base (.tup hs)
    · exact .fTuple hs
    · exact .kTuple hk hc
theorem x_isi {d : PyData} {n : String} {b : Bool} (h : EvX C ta M δ μ μ' (.d d)) (hb : kitB (tyD d) n = some b) : EvX C (tCB (rIsi C.K) (tCons ta (tCons (tC (.ty n)) tNil))) M δ μ μ' (.d (.bool b)) := fun σ H o Q k =>
  h σ H o _ fun v H1 o1 x1 r => ⟨v, .ty n, .type (tyD d), .type n, b, rfl, .ty n, ty_dp (dp_mono hide_le _ _ r), kit_ty hb, k _ H1 o1 x1 (.bl b)⟩
end
end FD
/-! sorted(set(t)), t a tuple of texts: the set's table walked in whatever order -/
namespace FD
open PySem PySem.Spec L2 PyProof.Rows PySem.W PySem.Froz
/-! ### the set's table keeps rising, and its mark -/
theorem tailTx_ris {ep : Nat} {es : Array (Int × Value)} {t : SetTable} {wd : Bool} (r : Ris t.place.toList) : Ris (tailTx ep es t wd).2.2.place.toList := by
  unfold tailTx
  by_cases c : (!wd && t.tooFull) = true
  · rw [if_pos c]; exact relayAll_ris _ _ _
  · rw [if_neg c]; exact r
theorem tailTx_led {ep : Nat} {es : Array (Int × Value)} {t : SetTable} {wd : Bool} : (tailTx ep es t wd).2.2.led = t.led := by
  unfold tailTx
  by_cases c : (!wd && t.tooFull) = true
  · rw [if_pos c]; exact relayAll_led _ _ _
  · rw [if_neg c]
theorem addTx_ris {hs : Int} {v : Value} {T : SD} (r : Ris T.2.2.place.toList) : Ris (addTx hs v T).2.2.place.toList := by
  have r1 := layNew_ris T.2.2 T.1 hs v r
  unfold addTx
  refine tailTx_ris ?_
  split <;> exact r1
theorem addTx_led {hs : Int} {v : Value} {T : SD} : (addTx hs v T).2.2.led = T.2.2.led := by
  have r1 := layNew_led T.2.2 T.1 hs v
  unfold addTx
  refine tailTx_led.trans ?_
  split <;> exact r1
/-- the set of texts at a, its members l (each once) -/
def TxS (P : Program) (w : World) (h : Heap) (a : Addr) (l : List Str) : Prop := ∃ T : SD, h.get? a = some (sObj "set" T) ∧ TxOk P w T l ∧ l.Nodup ∧ Ris T.2.2.place.toList ∧ (w.params.followText "set-order" = true ∨ T.2.2.led = true)
section
variable {P : Program} {w : World} {A : Around} {E : Value → Shared → Prop} {s : Shared}
theorem TxS.at_ {h h' : Heap} {a : Addr} {l : List Str} (x : TxS P w h a l) (k : ∀ o, h.get? a = some o → h'.get? a = some o) : TxS P w h' a l := let ⟨T, h1, r⟩ := x; ⟨T, k _ h1, r⟩
theorem ts_add {a : Addr} {l : List Str} {z : Str} {u : Tok} {Q : Bool → Shared → Prop} (x : TxS P w s.heap a l) (hb : l.length + 1 < scanBound)
    (hQ : ∀ h' l' b, Heap.SameBut a s.heap h' → TxS P w h' a l' → (∀ y, y ∈ l' ↔ y ∈ l ∨ y = z) → l'.length ≤ l.length + 1 → Q b { s with heap := h' }) : wpAny (model P w) A (setAddHashed a (.str z u) (hashStr w z)) Q E s := by
  obtain ⟨T, ho, F, hn, hr, hl⟩ := x
  by_cases hz : z ∈ l
  · obtain ⟨es, ep, t⟩ := T
    have hd : (sObj "set" (es, ep, t)).data = .set es ep t := rfl
    have hsz : es.size = l.length := F.sz
    have isz : (strKind P w).is z (.str z u) = true := is_str z u
    obtain ⟨e, he, hp⟩ := (F.mem z).mp hz
    unfold setAddHashed setAddHashedIn
    refine wpAny_holding (wpAny_bind (wpAny_setState_of ho hd F.fit ?_))
    dsimp only
    rw [byScan_of (x := Value.str z u) rfl (show es.size < scanBound by omega) F.el]
    simp only [↓reduceIte]
    unfold setAddByScan
    refine wpAny_bind ?_
    refine wpAny_bind (wpAny_rule ?_)
    refine wpAny_bind (wpAny_setScan_of (knd := strKind P w) (k := z) isz ho hd F.fit F.el ?_)
    cases hf : List.findIdx? (fun e => (strKind P w).is z e.2) es.toList with
    | none =>
      have c := List.findIdx?_eq_none_iff.mp hf e he
      rw [hp] at c
      cases c
    | some j =>
      dsimp only
      exact wpAny_pure (wpAny_pure (hQ s.heap l false (Heap.SameBut.refl a s.heap) ⟨(es, ep, t), ho, F, hn, hr, hl⟩ (fun y => ⟨.inl, fun q => q.elim id fun e => e ▸ hz⟩) (Nat.le_succ _)))
  · refine add_x ho F hz hb (hQ _ (z :: l) true (Heap.SameBut.update s.heap a _) ⟨_, get_upd _ ho rfl, add_ok u F, List.nodup_cons.mpr ⟨hz, hn⟩, addTx_ris hr, ?_⟩ (fun y => ?_) (Nat.le_refl _))
    · rw [addTx_led]; exact hl
    · rw [List.mem_cons]; exact Or.comm
/-- the loop that fills the set -/
theorem ts_fill {I : Addr} {fp wr : List Addr} {G : Array GenState → Array GenState → Prop} {n : Nat} {Pv : Nat → Value → Prop} {St : Nat → Shared → Prop} {R : Result → Shared → Prop}
    (W : WalksS P w A.in1 I fp wr G n Pv St) (S : Addr) (hSf : S ∉ fp) (zs : List Str) (hn : n = zs.length) (hb : zs.length + 1 < scanBound) (hval : ∀ i v, Pv i v → ∃ k t, zs[i]? = some k ∧ v = .str k t) :
    ∀ (k i : Nat) (sh : Shared), n - i = k → i ≤ n → St i sh → (∃ l, l.length ≤ i ∧ TxS P w sh.heap S l ∧ ∀ y, y ∈ l ↔ y ∈ zs.take i) →
      (∀ s' l, Moved (S :: wr) G sh s' → l.length ≤ n → TxS P w s'.heap S l → (∀ y, y ∈ l ↔ y ∈ zs) → R (.ok (.ret .none)) s') →
      codeAny (model P w) A (.builtin "set.update.loop" ⟨[.ref S, .ref I], []⟩) R sh := by
  have nw : S ∉ wr := fun h => hSf (W.sub _ h)
  have up : ∀ b ∈ wr, b ∈ S :: wr := fun b hb => List.mem_cons_of_mem _ hb
  intro k
  induction k with
  | zero =>
    intro i sh ek hi st0 ⟨l, hl, hT, hm⟩ hR
    obtain rfl : i = n := by omega
    refine codeAny_builtin F.entry_set_update_loop ?_
    rw [Around.under_plainId F.plain_set_update_loop _]
    show wpAny _ A.in1 (pyNext (.ref I) >>= _) _ _ sh
    refine wpAny_bind (W.done sh _ _ st0 fun s' mv => ?_)
    show wpAny _ A.in1 (ret Value.none) _ _ s'
    have e : zs.take i = zs := List.take_of_length_le (by omega)
    rw [e] at hm
    exact wpAny_pure (hR s' l (mv.mono up) hl (hT.at_ fun o q => mv.heap S o nw q) hm)
  | succ k ih =>
    intro i sh ek hi st0 ⟨l, hl, hT, hm⟩ hR
    have lt0 : i < n := by omega
    refine codeAny_builtin F.entry_set_update_loop ?_
    rw [Around.under_plainId F.plain_set_update_loop _]
    show wpAny _ A.in1 (pyNext (.ref I) >>= _) _ _ sh
    refine wpAny_bind (W.item i sh _ _ lt0 st0 fun v s1 pv st1 mv => ?_)
    obtain ⟨z, t, hz, rfl⟩ := hval i v pv
    have hT1 : TxS P w s1.heap S l := hT.at_ fun o q => mv.heap S o nw q
    show wpAny _ A.in1 (holding [Value.str z t] (setAdd S (.str z t)) >>= _) _ _ s1
    refine wpAny_bind (wpAny_holding ?_)
    unfold setAdd
    refine wpAny_holding ?_
    refine wpAny_bind ((strKind P w).pyHash (k := z) (is_str z t) ?_)
    refine ts_add (s := { s1 with toks := s1.toks + 1 }) hT1 (by omega) fun g1 l1 b sb hT2 hm2 hl2 => ?_
    have hm3 : ∀ y, y ∈ l1 ↔ y ∈ zs.take (i + 1) := fun y => by
      rw [hm2, hm, List.take_add_one, hz]
      simp [List.mem_append]
    refine wpAny_pure ⟨plainId_quiet F.plain_set_update_loop _, ih (i + 1) _ (by omega) lt0 (W.frame _ s1 _ _ st1 (Nat.le_succ _) fun b hb o q => ?_) ⟨_, by omega, hT2, hm3⟩ fun s2 l2 mv2 hl3 hT3 hm4 => ?_⟩
    · rw [sb.2 b (fun q : b = S => hSf (by rw [← q]; exact hb))]; exact q
    · refine hR s2 l2 (Moved.trans W.gtrans ((mv.mono up).then_heap (Nat.le_succ _) fun b o hb q => ?_) mv2) hl3 hT3 hm4
      rw [sb.2 b (fun z : b = S => hb (by rw [z]; exact List.mem_cons_self))]; exact q
set_option maxHeartbeats 12000000 in
/-- set(t), t a tuple of texts -/
theorem call_setT {l : Addr} {items : Array Value} (zs : List Str) {Q : Value → Shared → Prop} (hh : A.handled = none) (hl : s.heap.IsTuple l items) (hit : StrsAre items.toList zs) (hb : zs.length + 1 < scanBound)
    (h : ∀ (h' : Heap) (tk : Nat) (ks : List Str), TxS P w h' s.heap.objs.size ks → (∀ y, y ∈ ks ↔ y ∈ zs) → ks.length ≤ zs.length → (∀ b o, s.heap.get? b = some o → h'.get? b = some o) → Q (.ref s.heap.objs.size) { s with heap := h', toks := tk }) :
    wpAny (model P w) A (call (.type "set") [.ref l]) Q E s := by
  have eN : items.size = zs.length := by rw [← StrsAre.length hit, Array.length_toList]
  obtain ⟨c, tl, hmro⟩ := F.called_set.mro
  have hmade := F.called_set.made
  have hsub := F.called_set.sub
  refine wpAny_call (codeAny_of_tree ?_)
  show wpAny _ _ (callAny (.type "set") _) _ _ _
  refine wpAny_pure ⟨Code.quiet_builtin _ (by decide +kernel), codeAny_builtin F.entry_type_call ?_⟩
  rw [Around.under_plain (weight_type_call_type "set" [.ref l] []) rfl]
  have h1 := F.called_set.notType
  have h2 := F.called_set.canCreate
  have hct := F.typeCall_set_1 (.ref l)
  repeat (any_goals (first | assumption | wp_step))
  generalize eS : ({ cls := .type "set", dict := none, data := .set #[] 0 (.fresh 0 0 (!w.params.followText "set-order")) } : Obj) = o0
  refine codeAny_mono (code_set_led1 (.ref l) (E := E) (Q₁ := fun obj t => obj = .ref s.heap.objs.size ∧ t = { s with heap := s.heap.push o0 }) ⟨rfl, by rw [eS]⟩) fun r t hr => ?_
  cases r with
  | error e => exact hr
  | ok fl =>
    cases fl with
    | ret obj =>
      obtain ⟨rfl, rfl⟩ := hr
      have hS : (s.heap.push o0).get? s.heap.objs.size = some o0 := Heap.get?_push_size _ (by rw [← eS]; rfl)
      have hT : Shared.TypeIs { s with heap := s.heap.push o0 } (.ref s.heap.objs.size) "set" := ⟨_, hS, by rw [← eS]⟩
      have hli := F.called_set.init.lookup
      have hbi := F.called_set.init.bind (.ref s.heap.objs.size)
      repeat (any_goals (first | assumption | wp_step))
      refine codeAny_mono (codeAny_call_builtin (R := wants (fun r s₂ => r = .none ∧ ∃ h' tk ks, s₂ = { s with heap := h', toks := tk } ∧ TxS P w h' s.heap.objs.size ks ∧ (∀ y, y ∈ ks ↔ y ∈ zs) ∧ ks.length ≤ zs.length ∧
          (∀ b o, s.heap.get? b = some o → h'.get? b = some o)) E) F.called_set.init.plain F.entry_set_init (check_set_init_1 hT ?_)) fun r₂ s₂ hr₂ => ?_
      · obtain ⟨ol, hol, hcl, nl, hdl⟩ := hl
        obtain ⟨ocls, odict, odata, oslots⟩ := ol
        simp only at hcl hdl
        subst hcl; subst hdl
        have hol' : (s.heap.push o0).get? l = some { cls := .type "tuple", dict := odict, data := .seq items nl, slots := oslots } := Heap.get?_push_of_some _ hol
        have hsls := F.sub_tuple_set
        have hslf := F.sub_tuple_frozenset
        have hne : (Value.type "tuple" == Value.type "dict") = false := by decide
        have tl1 : (s.heap.push o0).IsTuple l items := ⟨_, hol', rfl, nl, rfl⟩
        subst eS
        unfold Builtin.«set.__init__» noKeywords Builtin.Frozenset.updateFrom
        generalize hPI : pyIter = PI
        wp_walk
        subst hPI
        refine wpAny_pyIter_tuple tl1 ?_
        refine wpAny_bind (wpAny_runValue ?_)
        have ltl : l < s.heap.objs.size := Heap.lt_size hol
        have hh3 : A.in1.in1.in1.handled = none := by simp [hh]
        have eP : ∀ o : Obj, (s.heap.push o).objs.size = s.heap.objs.size + 1 := fun o => Heap.size_push ..
        have neI : l ≠ (s.heap.push { cls := .type "set", dict := none, data := .set #[] 0 (.fresh 0 0 (!w.params.followText "set-order")) }).objs.size := by rw [eP]; exact Nat.ne_of_lt (Nat.lt_succ_of_lt ltl)
        have outS : s.heap.objs.size ∉ [(s.heap.push { cls := .type "set", dict := none, data := .set #[] 0 (.fresh 0 0 (!w.params.followText "set-order")) }).objs.size, l] := by
          rw [eP]; simp only [List.mem_cons, List.not_mem_nil, or_false, not_or]
          exact ⟨Nat.ne_of_lt (Nat.lt_succ_self _), Nat.ne_of_gt ltl⟩
        have hval : ∀ (i : Nat) (v : Value), items[i]? = some v → ∃ k t, zs[i]? = some k ∧ v = .str k t := fun i v hv => by
          have hi : i < zs.length := by rw [← eN]; exact (Array.getElem?_eq_some_iff.mp hv).1
          obtain ⟨t, e⟩ := SS.strs_at hit i v (by rw [Array.getElem?_toList]; exact hv)
          refine ⟨zs[i], t, List.getElem?_eq_getElem hi, ?_⟩
          rw [e, List.getD_eq_getElem?_getD, List.getElem?_eq_getElem hi] <;> rfl
        refine ts_fill ((Walks.tuple hh3 _ l neI items).toS) s.heap.objs.size outS zs eN hb hval (items.size - 0) 0 _ (by omega) (Nat.zero_le _)
          ⟨⟨_, Heap.get?_push_size _ rfl, rfl, rfl⟩, (tl1.push _)⟩ ?_ ?_
        · refine ⟨[], Nat.le_refl 0, ⟨(#[], 0, .fresh 0 0 (!w.params.followText "set-order")), ?_, TxOk.nil (by rfl), List.nodup_nil, List.Pairwise.nil, ?_⟩, fun y => by simp⟩
          · refine (Heap.get?_push_of_some _ hS).trans ?_
            rfl
          · show _ ∨ (!w.params.followText "set-order") = true
            cases w.params.followText "set-order"
            · exact .inr rfl
            · exact .inl rfl
        · intro s' ks mv hl' hT' hm'
          obtain ⟨h', gg, d', tk', os'⟩ := s'
          have eg : gg = s.gens := mv.gens
          have ed : d' = s.drawn := mv.drawn
          have eo : os' = s.os := mv.os
          subst eg; subst ed; subst eo
          show wpAny _ _ _ _ _ _
          refine wpAny_pure ?_
          show wpAny _ _ (ret Value.none) _ _ _
          refine wpAny_pure ⟨rfl, h', tk', ks, rfl, hT', hm', by omega, fun b o e => ?_⟩
          have b0 : b < s.heap.objs.size := Heap.lt_size e
          have b1 : b ≠ s.heap.objs.size := Nat.ne_of_lt b0
          have b2 : b ≠ (s.heap.push { cls := .type "set", dict := none, data := .set #[] 0 (.fresh 0 0 (!w.params.followText "set-order")) }).objs.size := by rw [eP]; exact Nat.ne_of_lt (Nat.lt_succ_of_lt b0)
          exact mv.heap b o (by simp only [List.mem_cons, List.not_mem_nil, or_false, not_or]; exact ⟨b1, b2⟩) (Heap.get?_push_of_some _ (Heap.get?_push_of_some _ e))
      · cases r₂ with
        | error e => exact hr₂
        | ok fl₂ =>
          cases fl₂ with
          | ret r =>
            obtain ⟨rfl, h', tk, ks, rfl, a1, a2, a3, a4⟩ := hr₂
            repeat (any_goals (first | assumption | wp_step))
            exact h _ _ _ a1 a2 a3 a4
          | _ => exact hr₂.elim
    | _ => exact hr.elim
end
end FD
/-! texts in order; sorted(set(t)) -/
namespace FD
open PySem PySem.Spec L2 PyProof.Rows PySem.W PySem.Froz
def leS (a b : Str) : Bool := !ltCps b.cps.toList a.cps.toList
theorem leS_iff {a b : Str} : leS a b = true ↔ a.cps.toList ≤ b.cps.toList := by
  unfold leS
  rw [ltCps_eq]
  simp
theorem leS_trans {a b c : Str} (h : leS a b = true) (k : leS b c = true) : leS a c = true := leS_iff.mpr (List.le_trans (leS_iff.mp h) (leS_iff.mp k))
theorem leS_total (a b : Str) : (leS a b || leS b a) = true := by
  rw [Bool.or_eq_true, leS_iff, leS_iff]
  exact List.le_total _ _
theorem leS_anti {a b : Str} (h : leS a b = true) (k : leS b a = true) : a = b := by
  have e : a.cps.toList = b.cps.toList := List.le_antisymm (leS_iff.mp h) (leS_iff.mp k)
  obtain ⟨x⟩ := a
  obtain ⟨y⟩ := b
  have e : x.toList = y.toList := e
  rw [Array.toList_inj.mp e]
def Asc (l : List Str) : Prop := l.Pairwise fun a b => leS a b = true
theorem asc_rising : ∀ (l : List Str) (p : Str), risingS p l = true → Asc (p :: l)
  | [], p, _ => List.pairwise_singleton _ _
  | x :: r, p, h => by
    have h' : (!ltCps x.cps.toList p.cps.toList && risingS x r) = true := h
    rw [Bool.and_eq_true] at h'
    have ih := asc_rising r x h'.2
    have px : leS p x = true := h'.1
    refine List.pairwise_cons.mpr ⟨fun y hy => ?_, ih⟩
    rcases List.mem_cons.mp hy with e | hy
    · rw [e]; exact px
    · exact leS_trans px (List.rel_of_pairwise_cons ih hy)
theorem asc_of : ∀ {l : List Str}, sortedS l = true → Asc l
  | [], _ => List.Pairwise.nil
  | x :: r, h => asc_rising r x h
theorem asc_uniq : ∀ {l m : List Str}, Asc l → Asc m → l.Perm m → l = m
  | [], m, _, _, p => (List.Perm.nil_eq p)
  | x :: l, [], _, _, p => by have := p.length_eq; simp at this
  | x :: l, y :: m, h, k, p => by
    have e : x = y := by
      have h1 : x ∈ y :: m := p.mem_iff.mp List.mem_cons_self
      have h2 : y ∈ x :: l := p.mem_iff.mpr List.mem_cons_self
      rcases List.mem_cons.mp h1 with e | h1
      · exact e
      · rcases List.mem_cons.mp h2 with e | h2
        · exact e.symm
        · exact leS_anti (List.rel_of_pairwise_cons h h2) (List.rel_of_pairwise_cons k h1)
    subst e
    rw [asc_uniq (List.pairwise_cons.mp h).2 (List.pairwise_cons.mp k).2 (List.Perm.cons_inv p)]
def sortT (l : List Str) : List Str := l.mergeSort fun a b => leS a b
theorem sortT_perm (l : List Str) : (sortT l).Perm l := List.mergeSort_perm l _
theorem sortT_asc (l : List Str) : Asc (sortT l) := List.pairwise_mergeSort (le := fun a b => leS a b) (fun a b c h k => leS_trans h k) (fun a b => leS_total a b) l
theorem sortT_eq {l m : List Str} (h : sortedS m = true) (p : m.Perm l) : m = sortT l := asc_uniq (asc_of h) (sortT_asc l) (p.trans (sortT_perm l).symm)
theorem sortT_mem {l : List Str} {x : Str} : x ∈ sortT l ↔ x ∈ l := (sortT_perm l).mem_iff
theorem sortT_len (l : List Str) : (sortT l).length = l.length := (sortT_perm l).length_eq
theorem sortT_congr {l m : List Str} (p : l.Perm m) : sortT l = sortT m := asc_uniq (sortT_asc l) (sortT_asc m) ((sortT_perm l).trans (p.trans (sortT_perm m).symm))
/-- each once -/
def onceT : List Str → List Str
  | [] => []
  | x :: r => if x ∈ onceT r then onceT r else x :: onceT r
theorem onceT_mem : ∀ {l : List Str} {x : Str}, x ∈ onceT l ↔ x ∈ l
  | [], x => by simp [onceT]
  | y :: r, x => by
    have ih := onceT_mem (l := r) (x := x)
    unfold onceT
    split
    · rename_i h
      rw [ih, List.mem_cons]
      exact ⟨.inr, fun z => z.elim (fun e => by rw [e]; exact onceT_mem.mp h) id⟩
    · rw [List.mem_cons, List.mem_cons, ih]
theorem onceT_nodup : ∀ l : List Str, (onceT l).Nodup
  | [] => List.nodup_nil
  | y :: r => by
    unfold onceT
    split
    · exact onceT_nodup r
    · rename_i h
      exact List.nodup_cons.mpr ⟨h, onceT_nodup r⟩
theorem perm_of_nodup : ∀ {l m : List Str}, l.Nodup → m.Nodup → (∀ x, x ∈ l ↔ x ∈ m) → l.Perm m
  | [], m, _, _, h => by
    cases m with
    | nil => exact List.Perm.refl _
    | cons y r => exact absurd ((h y).mpr List.mem_cons_self) (by simp)
  | x :: l, m, hl, hm, h => by
    have hx : x ∈ m := (h x).mp List.mem_cons_self
    obtain ⟨hl1, hl2⟩ := List.nodup_cons.mp hl
    refine List.Perm.trans (List.Perm.cons x (perm_of_nodup hl2 (hm.erase x) fun y => ?_)) (List.perm_cons_erase hx).symm
    rw [hm.mem_erase_iff, ← h y, List.mem_cons]
    exact ⟨fun z => ⟨fun e => hl1 (by rw [← e]; exact z), .inr z⟩, fun z => z.2.elim (fun e => absurd e z.1) id⟩
/-- sorted(set(l)) -/
def setT (l : List Str) : List Str := sortT (onceT l)
theorem setT_mem {l : List Str} {x : Str} : x ∈ setT l ↔ x ∈ l := sortT_mem.trans onceT_mem
theorem onceT_len : ∀ l : List Str, (onceT l).length ≤ l.length
  | [] => Nat.le_refl _
  | y :: r => by
    have ih := onceT_len r
    unfold onceT
    split
    · exact Nat.le_succ_of_le ih
    · exact Nat.succ_le_succ ih
theorem setT_len (l : List Str) : (setT l).length ≤ l.length := by
  unfold setT
  rw [sortT_len]
  exact onceT_len l
theorem setT_nodup (l : List Str) : (setT l).Nodup := (sortT_perm _).nodup_iff.mpr (onceT_nodup l)
/-! ### out of the set's table -/
def textOf (v : Value) : Str := match v with
  | .str k _ => k
  | _ => Str.empty
theorem perm_of_len : ∀ {l xs : List Str}, l.Nodup → (∀ x ∈ l, x ∈ xs) → xs.length = l.length → xs.Perm l
  | [], xs, _, _, h => by rw [List.eq_nil_of_length_eq_zero h]
  | x :: l, xs, hl, hs, h => by
    have hx := hs x List.mem_cons_self
    obtain ⟨h1, h2⟩ := List.nodup_cons.mp hl
    refine (List.perm_cons_erase hx).trans (List.Perm.cons x (perm_of_len h2 (fun y hy => ?_) ?_))
    · exact (List.mem_erase_of_ne (fun (e : y = x) => h1 (by rw [← e]; exact hy))).mpr (hs y (List.mem_cons_of_mem _ hy))
    · rw [List.length_erase_of_mem hx, h]; simp
section
variable {P : Program} {w : World} {A : Around} {E : Value → Shared → Prop} {s : Shared}
theorem elem_text {es : List (Int × Value)} (g : ElemsOf (PySem.strKind P w) es) {e : Int × Value} (he : e ∈ es) : ∃ k t, e.2 = .str k t := by
  obtain ⟨⟨k, hk, _⟩, _⟩ := g e he
  have hk : Value.isStrOf k e.2 = true := hk
  cases h : e.2 with
  | str y t => exact ⟨y, t, rfl⟩
  | _ => rw [h] at hk; simp [Value.isStrOf] at hk
theorem tx_perm {T : SD} {l : List Str} (F : TxOk P w T l) (hn : l.Nodup) : (T.1.toList.map fun e => textOf e.2).Perm l := by
  refine perm_of_len hn (fun x hx => ?_) ?_
  · obtain ⟨e, he, q⟩ := (F.mem x).mp hx
    refine List.mem_map.mpr ⟨e, he, ?_⟩
    obtain ⟨k, t, ek⟩ := elem_text F.el he
    have q : Value.isStrOf x e.2 = true := q
    rw [ek] at q ⊢
    simp [Value.isStrOf] at q
    exact q
  · rw [List.length_map, Array.length_toList]; exact F.sz
theorem texts_are : ∀ (l : List Value), (∀ v ∈ l, ∃ k t, v = Value.str k t) → StrsAre l (l.map textOf)
  | [], _ => .nil
  | v :: l, h => by
    obtain ⟨k, t, rfl⟩ := h v List.mem_cons_self
    exact .cons k t (texts_are l fun u hu => h u (List.mem_cons_of_mem _ hu))
theorem sorted_setT {a : Addr} {l : List Str} {Q : Value → Shared → Prop} (x : TxS P w s.heap a l) (hh : A.handled = none) (hb : l.length < scanBound)
    (hQ : ∀ s' p (out : Array Value) (c : Nat), (∀ b o, s.heap.get? b = some o → s'.heap.get? b = some o) → s'.gens = s.gens → s'.os = s.os → s.heap.objs.size ≤ p →
      s'.heap.get? p = some (seqObj "list" out c) → StrsAre out.toList (sortT l) → Q (.ref p) s') :
    wpAny (model P w) A (call (.builtin "sorted") [.ref a]) Q E s := by
  obtain ⟨T, ho, F, hn, hr, hl⟩ := x
  have hsz : T.1.size = l.length := F.sz
  refine Calls.call_function_entry kind_sorted plain_sorted entry_sorted (args_sorted1 _) ?_
  unfold Builtin.«sorted»
  refine wpAny_bind (m := checkCount "sorted" 1 1 _) (wpAny_pure ?_)
  refine wpAny_bind (collect_set (A := A.in1) hh ⟨_, ho, rfl, rfl⟩ F.fit (by omega) hr hl fun s1 vs k1 hz g1 o1 pm => ?_)
  have hvl : vs.length = l.length := by rw [pm.length_eq, List.length_map, Array.length_toList]; exact hsz
  have isT : ∀ v ∈ vs, ∃ k t, v = Value.str k t := fun v hv => by
    obtain ⟨e, he, q⟩ := List.mem_map.mp (pm.mem_iff.mp hv)
    obtain ⟨k, t, ek⟩ := elem_text F.el he
    exact ⟨k, t, by rw [← q, ek]⟩
  have hS := texts_are vs isT
  have pk : (vs.map textOf).Perm l := by
    have q := pm.map textOf
    rw [List.map_map] at q
    exact q.trans (tx_perm F hn)
  have hL : vs.length ≤ sizeLine := by rw [hvl, sizeLine_eq]; have : scanBound = 4096 := rfl; omega
  refine wpAny_bind (wpAny_newList ?_ hL)
  have hoL : (s1.heap.push (seqObj "list" vs.toArray 0)).get? s1.heap.objs.size = some (seqObj "list" vs.toArray 0) := Heap.get?_push_size _ rfl
  refine wpAny_bind (wpAny_holding (wpAny_call_entry slot_list_sort ⟨_, hoL, rfl⟩ entry_list_sort (list_sort_treeKAny strKind_oneLt hoL hS.keysOf (fun v₁ v₂ rest e => keyKind_strs (by rw [← e]; exact hS)) hL fun st' hp hs => ⟨_, rfl, ?_⟩) (args_list_sort _)))
  obtain ⟨ys, a1, a2, a3⟩ := sorted_out_str hS hp hs
  obtain ⟨c, hc⟩ := sortedHeap_at (vs := vs) (out := (arrOf st').map (·.2)) hoL
  refine wpAny_pure ⟨_, rfl, hQ _ s1.heap.objs.size _ c (fun b u e => ?_) g1 o1 hz hc ?_⟩
  · have q := k1 b u e
    have hlt := Heap.lt_size q
    show (sortedHeap (s1.heap.push (seqObj "list" vs.toArray 0)) s1.heap.objs.size vs _).get? b = some u
    rw [sortedHeap_old (Nat.ne_of_lt hlt) (by rw [size_push']; exact Nat.lt_succ_of_lt hlt)]
    exact Heap.get?_push_of_some _ q
  · rw [← sortT_eq a3 (a2.trans pk)]; exact a1
end
/-- sorted(set(t)) -/
def tSSet (K : PySem.W.Frag) (ta : TE) : TE := fun σ H Q => ta σ H fun x H1 => ∃ (l : Addr) (xs : List Str), x = .ref l ∧ SqT K H1 l (xs.map V.str) ∧ xs.length ≤ 4000 ∧ ∀ p, H1 p = none → Q (.ref p) (upd H1 p (.lst ((setT xs).map V.str)))
section
variable {X : Cx}
theorem pe_sset {a : Expr} {ta : TE} {p p2 q pos : Pos} (hc : X.calm = true) (hg : Gl X "sorted") (hm : X.mg "sorted" = none) (hg2 : Gl X "set") (hm2 : X.mg "set" = none) (ha : PE X a ta)
    (na : starEach [a] X.env = (false, eval a X.env) :: starEach [] X.env := by rfl) : PE X (.Call (.Name "sorted" p) [.Call (.Name "set" p2) [a] [] q] [] pos) (tSSet X.K ta) := by
  refine ⟨fun pins s σ H Q I h => ?_⟩
  refine Call_ (ld_blt I hg hm (show _ = some (.builtin "sorted") by decide +kernel) ?_)
  refine PyProof.Rows.callWith_builtin1 (PyProof.Rows.args_cons ?_ rfl) rfl rfl
  refine Call_ (ld_blt I hg2 hm2 boot_set ?_)
  refine PyProof.Rows.callWith_type1 (PyProof.Rows.args_cons (thn (ha.run pins s σ H _ I h) fun v s1 ⟨x, H1, I1, r1, q1⟩ => PyProof.Rows.args_nil ?_) na) na rfl
  obtain ⟨l, xs, rfl, hq, h1, q1⟩ := q1
  cases r1
  obtain ⟨its, r, pl, hz⟩ := I1.tuple hq
  have hb : scanBound = 4096 := rfl
  refine call_setT xs (I1.ok.hd hc) pl (by simpa using strsAre_of r) (by omega) fun h' tk ks hT hm' hl hk => ?_
  refine PyProof.Rows.args_nil ?_
  have I2 : Inv X pins σ H1 { s1 with heap := h', toks := tk } := I1.kept fun b o e => hk b o e
  have nk : ks.Nodup := let ⟨_, _, _, n, _⟩ := hT; n
  have ek : sortT ks = setT xs := sortT_congr (perm_of_nodup nk (onceT_nodup xs) fun y => (hm' y).trans onceT_mem.symm)
  refine sorted_setT hT (I2.ok.hd hc) (by omega) fun s2 p2 out c k2 g2 o2 hp hob hS => ?_
  rw [ek] at hS
  have hlen : ((setT xs).map V.str).length ≤ sizeLine := by rw [List.length_map, sizeLine_eq]; have := setT_len xs; omega
  have hn : H1 p2 = none := I2.hok.fresh hp
  have J : Inv X pins σ (upd H1 p2 (.lst ((setT xs).map V.str))) { ({ s1 with heap := h', toks := tk } : Shared) with heap := s2.heap, gens := s2.gens, drawn := s2.drawn, toks := s2.toks } :=
    I2.call (ch := []) (Un.laid k2 hp hn) (I2.hok.laid k2 hp ⟨hlen, out.toList, c, vals_of_strs hS, hob⟩) (by rw [g2]; exact I2.bare) (fun _ z => nomatch z)
  have e : s2 = { s1 with heap := s2.heap, gens := s2.gens, drawn := s2.drawn, toks := s2.toks } := by
    obtain ⟨x1, x2, x3, x4, x5⟩ := s2
    have o2 : x5 = s1.os := o2
    subst o2
    rfl
  rw [e]
  exact ⟨.ref p2, _, J, rfl, q1 p2 hn⟩
end
end FD
/-! dicts of one's own (keys: texts), promises over objects, dicts walked under a lock -/
namespace FD
open PySem L2 Evl
abbrev Dct := List (Str × PyData)
def kd (l : Dct) : List (Key × PyData) := l.map fun p => (Sum.inr p.1, p.2)
def valD (l : Dct) (k : Str) : Option PyData := (l.find? fun p => decide (p.1 = k)).map (·.2)
theorem valD_cons (p : Str × PyData) (r : Dct) (k : Str) : valD (p :: r) k = if p.1 = k then some p.2 else valD r k := by
  unfold valD
  rw [List.find?_cons]
  by_cases h : p.1 = k
  · rw [decide_eq_true h, if_pos h]; rfl
  · rw [decide_eq_false h, if_neg h]
theorem valD_at {l : Dct} {p : Str × PyData} (hn : (l.map (·.1)).Nodup) (h : p ∈ l) : valD l p.1 = some p.2 := by
  induction l with
  | nil => cases h
  | cons q r ih =>
    rw [valD_cons]
    rw [List.map_cons, List.nodup_cons] at hn
    rcases List.mem_cons.mp h with e | h
    · rw [← e, if_pos rfl]
    · rw [if_neg (fun e => hn.1 (by rw [e]; exact List.mem_map.mpr ⟨p, h, rfl⟩))]
      exact ih hn.2 h
theorem pairs_app {α β : Type} {F : α → β → Prop} {as as' : List α} {bs bs' : List β} (h : Paired F as bs) (k : Paired F as' bs') : Paired F (as ++ as') (bs ++ bs') := by
  induction h with
  | nil => exact k
  | cons r _ ih => exact .cons r ih
abbrev DcOk (K : PySem.W.Frag) (Hh : Hp) (ws : List (Key × V)) (kvs : List (Key × PyData)) : Prop := Paired (fun (p : Key × V) (q : Key × PyData) => p.1 = q.1 ∧ Dp K Hh p.2 q.2) ws kvs
section
variable {K : PySem.W.Frag} {Hh : Hp}
theorem dc_val : ∀ {l : Dct} {ws : List (Key × V)} {k : Str} {d : PyData}, DcOk K Hh ws (kd l) → valD l k = some d → ∃ v, valV ws (.inr k) = some v ∧ Dp K Hh v d
  | [], ws, k, d, _, h => by cases h
  | p :: r, ws, k, d, c, h => by
    cases c with
    | @cons w _ ws _ h1 c =>
      obtain ⟨e1, e2⟩ := h1
      have e1 : w.1 = Sum.inr p.1 := e1
      rw [valD_cons] at h
      by_cases e : p.1 = k
      · rw [if_pos e] at h
        cases h
        refine ⟨w.2, ?_, e2⟩
        rw [valV_pos (by rw [e1, e])]
      · rw [if_neg e] at h
        obtain ⟨v, q1, q2⟩ := dc_val c h
        exact ⟨v, by rw [valV_neg (fun z => e (Sum.inr.inj (e1.symm.trans z)))]; exact q1, q2⟩
theorem dc_keys : ∀ {l : Dct} {ws : List (Key × V)}, DcOk K Hh ws (kd l) → ws.map (·.1) = (l.map (·.1)).map Sum.inr
  | [], _, .nil => rfl
  | p :: r, _, .cons h c => by rw [List.map_cons, dc_keys (l := r) c, h.1]; rfl
theorem dc_get : ∀ {l : Dct} {ws : List (Key × V)} {i : Nat} {k : Key} {v : V}, DcOk K Hh ws (kd l) → ws[i]? = some (k, v) → ∃ p, l[i]? = some p ∧ k = Sum.inr p.1
  | [], _, i, k, v, .nil, h => by cases h
  | p :: r, _, 0, k, v, .cons h c, e => by
    simp at e
    subst e
    exact ⟨p, rfl, h.1⟩
  | p :: r, _, i + 1, k, v, .cons h c, e => by
    obtain ⟨q, e1, e2⟩ := dc_get (l := r) (i := i) c (by simpa using e)
    exact ⟨q, by simpa using e1, e2⟩
theorem dc_len {l : Dct} {ws : List (Key × V)} (c : DcOk K Hh ws (kd l)) : ws.length = l.length := by
  have := congrArg List.length (dc_keys c)
  rw [List.length_map, List.length_map, List.length_map] at this
  exact this
theorem dc_snoc {l : Dct} {ws : List (Key × V)} {k : Str} {v : V} {d : PyData} (c : DcOk K Hh ws (kd l)) (hk : k ∉ l.map (·.1)) (h : Dp K Hh v d) : DcOk K Hh (putK ws (.inr k) v) (kd (l ++ [(k, d)])) := by
  have e : (ws.any fun kv => decide (kv.1 = (Sum.inr k : Key))) = false := by
    rw [List.any_eq_false]
    intro p hp
    rw [decide_eq_true_eq]
    intro z
    have : p.1 ∈ ws.map (·.1) := List.mem_map.mpr ⟨p, hp, rfl⟩
    rw [dc_keys c, z] at this
    obtain ⟨y, hy, q⟩ := List.mem_map.mp this
    cases q
    exact hk hy
  unfold putK
  rw [e, if_neg Bool.false_ne_true]
  unfold kd
  rw [List.map_append]
  exact pairs_app c (.cons ⟨rfl, h⟩ .nil)
end
def IsDct (mo : MO) (l : Dct) : Prop := mo = .dK (kd l) ∨ ∃ od ws, mo = .fz od ws (kd l)
theorem dct_rd {K : PySem.W.Frag} {Hh H : Hp} {a : Addr} {mo : MO} {l : Dct} (h : MOok K Hh H a mo) (hd : IsDct mo l) : ∃ ws, Rd H a (.dK ws) ∧ DcOk K Hh ws (kd l) := by
  rcases hd with rfl | ⟨od, ws, rfl⟩
  · obtain ⟨ws, e, c⟩ := h
    exact ⟨ws, .inl e, c⟩
  · obtain ⟨e, c⟩ := h
    exact ⟨ws, .inr ⟨od, e⟩, c⟩
theorem DpAll.strs {K : PySem.W.Frag} {H : Hp} : ∀ {vs : List V} {ns : List Str}, DpAll K H vs (ns.map PyData.str) → vs = ns.map V.str
  | vs, [], h => by cases h; rfl
  | vs, n :: ns, h => by
    cases h with
    | cons h1 h2 =>
      cases h1
      rw [DpAll.strs h2]
      rfl
theorem dp_strs {K : PySem.W.Frag} {H : Hp} : ∀ ns : List Str, DpAll K H (ns.map V.str) (ns.map PyData.str)
  | [] => .nil
  | n :: ns => .cons (.str n) (dp_strs ns)
section
variable {C : Cfg} {M : List Addr} {δ : List Ent} {μ μ1 μ2 μ3 : Mem} {ta tb te td ty : TE} {a b : Addr} {mo : MO} {l : Dct} {k : Str} {d : PyData} {e : Ent} {tr : TA} {D : Ends} {t2 : TS} {i j : Nat}
/-! ### what is read of a dict -/
theorem x_dget (hx : EvX C td M δ μ μ1 (.m a)) (hk : EvX C ty M δ μ1 μ2 (.d (.str k))) (hm : (a, mo) ∈ μ2) (hd : IsDct mo l) (hv : valD l k = some d) : EvX C (tDGet td ty) M δ μ μ2 (.d d) := fun σ H o Q kk =>
  hx σ H o _ fun x H1 o1 x1 r1 => hk σ H1 o1 _ fun y H2 o2 x2 r2 => by
    have e1 : x = .ref a := r1
    have e2 : y = .str k := Dp.str_of r2
    obtain ⟨ws, rd, dc⟩ := dct_rd (o2.mem _ hm).2.2 hd
    obtain ⟨v, e3, e4⟩ := dc_val dc hv
    exact ⟨a, v, e1, .inl ⟨ws, .inr k, rd, e2, e3.symm⟩, kk v H2 o2 (x1.trans x2) e4⟩
abbrev rSortedDc : List V → Hp → VK → Prop := fun xs H Q => ∃ (a : Addr) (kvs : List (Key × V)) (ks : List Str), xs = [.ref a] ∧ Rd H a (.dK kvs) ∧ kvs.map (·.1) = ks.map Sum.inr ∧ ks.length < 64 ∧ ∀ ys p, ys.Perm ks → PyProof.Rows.sortedS ys = true → H p = none → Q (.ref p) (upd H p (.lst (ys.map V.str)))
theorem c_sortedD (hm : (a, mo) ∈ μ) (hd : IsDct mo l) (hl : l.length < 64) : CallX C rSortedDc M δ μ μ [.m a] (.d (.list ((sortT (l.map (·.1))).map .str))) := fun σ H vs o h Q kk => by
  obtain ⟨v, rfl, q⟩ := p1 h
  have e1 : v = .ref a := q
  obtain ⟨ws, rd, dc⟩ := dct_rd (o.mem _ hm).2.2 hd
  refine ⟨a, ws, l.map (·.1), by rw [e1], rd, dc_keys dc, by rw [List.length_map]; exact hl, fun ys p hp hs hn => ?_⟩
  rw [sortT_eq hs hp]
  obtain ⟨o', x', d'⟩ := o.lst hn (dp_strs (K := C.K) (H := hide M H) (sortT (l.map (·.1))))
  exact kk _ _ o' x' d'
abbrev rListDc : List V → Hp → VK → Prop := fun xs H Q => ∃ (a : Addr) (kvs : List (Key × V)), xs = [.ref a] ∧ Rd H a (.dK kvs) ∧ ∀ p, H p = none → Q (.ref p) (upd H p (.lst (kvs.map fun kv => kV kv.1)))
theorem c_listD (hm : (a, mo) ∈ μ) (hd : IsDct mo l) : CallX C rListDc M δ μ μ [.m a] (.d (.list ((l.map (·.1)).map .str))) := fun σ H vs o h Q kk => by
  obtain ⟨v, rfl, q⟩ := p1 h
  have e1 : v = .ref a := q
  obtain ⟨ws, rd, dc⟩ := dct_rd (o.mem _ hm).2.2 hd
  refine ⟨a, ws, by rw [e1], rd, fun p hn => ?_⟩
  have e : (ws.map fun kv => kV kv.1) = (l.map (·.1)).map V.str := by
    have q := congrArg (List.map kV) (dc_keys dc)
    rw [List.map_map, List.map_map] at q
    exact q
  rw [e]
  obtain ⟨o', x', d'⟩ := o.lst hn (dp_strs (K := C.K) (H := hide M H) (l.map (·.1)))
  exact kk _ _ o' x' d'
theorem c_sortedS {zs : List Str} (r : Rdd μ e (.list (zs.map .str))) (hl : zs.length < 64) : CallX C (rSortedS C.K) M δ μ μ [e] (.d (.list ((sortT zs).map .str))) := fun σ H vs o h Q kk => by
  obtain ⟨v, rfl, q⟩ := p1 h
  obtain ⟨a, ws, q1, q2, q3⟩ := r.lst o q
  refine ⟨a, zs, by rw [q1], (DpAll.strs q3) ▸ q2, hl, fun ys p hp hs hn => ?_⟩
  rw [sortT_eq hs hp]
  obtain ⟨o', x', d'⟩ := o.lst hn (dp_strs (K := C.K) (H := hide M H) (sortT zs))
  exact kk _ _ o' x' d'
theorem x_sset {zs : List Str} (h : EvX C ta M δ μ μ1 (.d (.tuple (zs.map .str)))) (hl : zs.length ≤ 4000) : EvX C (tSSet C.K ta) M δ μ μ1 (.d (.list ((setT zs).map .str))) := fun σ H o Q kk =>
  h σ H o _ fun v H1 o1 x1 r1 => by
    obtain ⟨p, vs, e1, e2, e3⟩ := Dp.tup_of r1
    refine ⟨p, zs, e1, (DpAll.strs e3) ▸ ex_t hide_le e2, hl, fun q hn => ?_⟩
    obtain ⟨o', x', d'⟩ := o1.lst hn (dp_strs (K := C.K) (H := hide M H1) (setT zs))
    exact kk _ _ o' (x1.trans x') d'
/-! ### what is written -/
theorem r_newD (k : ∀ p, p ∉ M → Nx C D (p :: M) (δ.set i (.m p)) ((p, .dK (kd [])) :: μ)) : Run C (tAsg tDNewK (gName i)) D M δ μ := fun σ H o p hp => by
  have o2 := o.new hp (mo := .dK (kd [])) (ho := .dK []) ⟨[], upd_same, .nil⟩
  exact k p (o.fresh hp) _ _ (o2.set i (e := .m p) rfl)
theorem q_newD (k : ∀ p, p ∉ M → Run C t2 D (p :: M) (δ.set i (.m p)) ((p, .dK (kd [])) :: μ)) : Run C (tSeq (tAsg tDNewK (gName i)) t2) D M δ μ := r_newD (D := { D with nx := t2 D }) k
/-- x[k] = e, k new -/
theorem r_dput (h : EvX C te M δ μ μ1 (.d d)) (hx : EvX C ta M δ μ1 μ2 (.m a)) (hi : EvX C tb M δ μ2 μ3 (.d (.str k))) (hj : μ3[j]? = some (a, .dK (kd l))) (hk : k ∉ l.map (·.1)) (hl : l.length < 1000) (kk : Nx C D M δ (μ3.set j (a, .dK (kd (l ++ [(k, d)]))))) :
    Run C (tAsg te (gSub ta tb rSetD)) D M δ μ := fun σ H o => h σ H o _ fun v H1 o1 x1 r1 => hx σ H1 o1 _ fun w H2 o2 x2 r2 => hi σ H2 o2 _ fun z H3 o3 x3 r3 => by
  have e1 : w = .ref a := r2
  have e2 : z = .str k := Dp.str_of r3
  obtain ⟨_, _, ws, q3, q4⟩ := o3.mem _ (List.mem_of_getElem? hj)
  show ∃ a' H', w = .ref a' ∧ DPut H3 a' z v H' ∧ D.nx σ H'
  refine ⟨a, _, e1, .inl ⟨ws, .inr k, q3, e2, sz_lt (by rw [dc_len q4]; omega), rfl⟩, ?_⟩
  exact kk _ _ (o3.write hj ⟨_, upd_same, dc_snoc q4 hk (EntOk.mono (e := .d d) (x2.trans x3) r1)⟩)
/-- x = dict(y) -/
abbrev rDictDc : List V → Hp → VK → Prop := fun xs H Q => ∃ (a : Addr) (kvs : List (Key × V)), xs = [.ref a] ∧ Rd H a (.dK kvs) ∧ ∀ p, H p = none → Q (.ref p) (upd H p (.dK kvs))
theorem q_copyD (h : EvA C tr M δ μ μ1 [.m a]) (hm : (a, mo) ∈ μ1) (hd : IsDct mo l) (k : ∀ p, p ∉ M → Run C t2 D (p :: M) (δ.set i (.m p)) ((p, .dK (kd l)) :: μ1)) : Run C (tSeq (tAsg (tCB rDictDc tr) (gName i)) t2) D M δ μ := fun σ H o => h σ H o _ fun vs H1 o1 x1 r1 => by
  obtain ⟨v, rfl, q⟩ := p1 r1
  have e1 : v = .ref a := q
  obtain ⟨ws, rd, dc⟩ := dct_rd (o1.mem _ hm).2.2 hd
  refine ⟨a, ws, by rw [e1], rd, fun p hp => ?_⟩
  have o2 := o1.new hp (mo := .dK (kd l)) (ho := .dK ws) ⟨ws, upd_same, Paired.mapP dc fun p q z => ⟨z.1, dp_mono (hide_new hp) _ _ z.2⟩⟩
  exact k p (o1.fresh hp) _ _ (o2.set i (e := .m p) rfl)
theorem q_clear (hx : EvX C ta M δ μ μ1 (.m a)) (hj : μ1[j]? = some (a, .dK (kd l))) (k : Run C t2 D M δ (μ1.set j (a, .dK (kd [])))) : Run C (tSeq (tDrop (tBM0 C.K "dict" rDClear ta)) t2) D M δ μ := fun σ H o => hx σ H o _ fun v H1 o1 x1 r1 => by
  have e1 : v = .ref a := r1
  subst e1
  obtain ⟨_, _, ws, q3, q4⟩ := o1.mem _ (List.mem_of_getElem? hj)
  exact ⟨.inr (.inr (.inl ⟨rfl, .inl ⟨_, q3⟩⟩)), a, ws, rfl, rfl, q3, k _ _ (o1.write hj ⟨_, upd_same, .nil⟩)⟩
end
/-! ### two dicts compared -/
def rNeDK (K : PySem.W.Frag) : R2 := fun x y H Q => ∃ (a b : Addr) (ks ls : List (Key × V)) (l : Dct), x = .ref a ∧ y = .ref b ∧ H a = some (.dK ks) ∧ H b = some (.dK ls) ∧ DcOk K H ks (kd l) ∧ DcOk K H ls (kd l) ∧ (l.map (·.1)).Nodup ∧ (∀ p ∈ l, SeqAt.shaped p.2 = true) ∧ Q (.bl false) H
section
variable {X : Cx}
theorem dk_hits {pins : List (Addr × Obj)} {σ : L2.St} {H : Hp} {s : Shared} (I : Inv X pins σ H s) (hu : X.A.in1.units + 64 < cLine) {kb : List (Key × Value)} :
    ∀ {l : Dct} {ks : List (Key × V)} {ka : List (Key × Value)}, DcOk X.K H ks (kd l) → KV ks ka → (∀ p ∈ l, SeqAt.shaped p.2 = true) → (∀ p ∈ l, ∃ y as, valueAt kb (Sum.inr p.1) = some y ∧ PySem.Reads s.heap y p.2 as) → PySem.W.KeqHits X.A.in1 s kb ka true
  | [], _, _, .nil, .nil, _, _ => .nil
  | p :: r, _, _, .cons h c, .cons (b := q) g t, hs, hb => by
    obtain ⟨y, bs, e1, e2⟩ := hb p List.mem_cons_self
    obtain ⟨as, e3⟩ := Dp.reads I _ _ _ h.2 g.2
    have hp := hs p List.mem_cons_self
    have e3 : PySem.Reads s.heap q.2 p.2 as := e3
    have E := PySem.W.keq_at (A := X.A) e3 e2 hp hp hu
    have : PyData.eqv p.2 p.2 = true := SeqAt.eqv_refl _ (SeqAt.canLay_of_shaped hp)
    have E : SeqAt.EqAt X.A.in1 s q.2 y true := by rw [← this]; exact E
    have k1 : q.1 = (Sum.inr p.1 : Key) := g.1.symm.trans h.1
    obtain ⟨q1, q2⟩ := q
    have k1 : q1 = (Sum.inr p.1 : Key) := k1
    subst k1
    exact .hit (e := true) (b := true) e1 E (dk_hits I hu (l := r) c t (fun p hp => hs p (List.mem_cons_of_mem _ hp)) fun p hp => hb p (List.mem_cons_of_mem _ hp))
theorem op_neDK (hu : X.A.units + 65 < cLine) : OpR X (compareOp .NotEq) (rNeDK X.K) := by
  intro pins s σ H x y v u Q I rx ry h
  obtain ⟨a, b, ks, ls, l, rfl, rfl, ea, eb, ca, cb, hn, hs, q⟩ := h
  obtain rfl : v = Value.ref a := rx
  obtain rfl : u = Value.ref b := ry
  obtain ⟨_, ya, va, ra, da⟩ := (show ObjOk X.prog X.w H s.heap a (.dK ks) from I.hok a _ ea)
  obtain ⟨_, yb, vb, rb, db⟩ := (show ObjOk X.prog X.w H s.heap b (.dK ls) from I.hok b _ eb)
  have hl : va.length = vb.length := by rw [← ra.length, ← rb.length, dc_len ca, dc_len cb]
  have hu1 : X.A.in1.units + 64 < cLine := by show X.A.units + 1 + 64 < cLine; omega
  refine PySem.W.keq_ne (knd := mixKind X.prog X.w) (r := true) ya yb da db (by omega) (fun _ => dk_hits I hu1 ca ra hs fun p hp => ?_) (fin_bl I q (by simp [hl]))
  obtain ⟨v, e1, e2⟩ := dc_val cb (valD_at hn hp)
  have r := rb.val (Sum.inr p.1)
  rw [e1] at r
  cases z : valueAt vb (Sum.inr p.1) with
  | none => rw [z] at r; exact (show False from r).elim
  | some y =>
    rw [z] at r
    obtain ⟨as, e3⟩ := Dp.reads I _ _ _ e2 r
    exact ⟨y, as, rfl, e3⟩
end
end FD
/-! promises over objects of one's own; dicts walked under a lock -/
namespace FD
open PySem L2 Evl
abbrev ad (μ : Mem) : List Addr := μ.map (·.1)
def spE (K : PySem.W.Frag) (n : Nat) (R : List Ent → Mem → PyData → Mem → Prop) : Sp := fun vs H Q _ => vs.length = n ∧ ∃ M es μ d μ', (∀ a ∈ M, H a ≠ none) ∧ Paired (EntOk K (hide M H)) es vs ∧ (∀ p ∈ μ, p.1 ∈ M ∧ MOok K (hide M H) H p.1 p.2) ∧ (ad μ).Nodup ∧ ad μ' = ad μ ∧ R es μ d μ' ∧
  ∀ v H', Ex (hide (ad μ) H) H' → (∀ p ∈ μ', MOok K (hide M H') H' p.1 p.2) → Dp K (hide M H') v d → Q v H'
def spEN (K : PySem.W.Frag) (n : Nat) (R : List Ent → Mem → MO → Mem → Prop) : Sp := fun vs H Q _ => vs.length = n ∧ ∃ M es μ mo μ', (∀ a ∈ M, H a ≠ none) ∧ Paired (EntOk K (hide M H)) es vs ∧ (∀ p ∈ μ, p.1 ∈ M ∧ MOok K (hide M H) H p.1 p.2) ∧ (ad μ).Nodup ∧ ad μ' = ad μ ∧ R es μ mo μ' ∧
  ∀ p H', H p = none → Ex (hide (ad μ) H) H' → MOok K (hide (p :: M) H') H' p mo → (∀ q ∈ μ', MOok K (hide (p :: M) H') H' q.1 q.2) → Q (.ref p) H'
def FinE (C : Cfg) (D : Ends) (d : PyData) (μ' : Mem) : Prop := ∀ v M' H, Ex C.G H → (∀ a ∈ C.M0, a ∈ M') → (∀ p ∈ μ', MOok C.K (hide M' H) H p.1 p.2) → Dp C.K (hide M' H) v d → D.rt v H
def FinEN (C : Cfg) (D : Ends) (mo : MO) (μ' : Mem) : Prop := ∀ p M' H, C.G p = none → p ∉ C.M0 → Ex C.G H → (∀ a ∈ C.M0, a ∈ M') → p ∈ M' → MOok C.K (hide M' H) H p mo → (∀ q ∈ μ', MOok C.K (hide M' H) H q.1 q.2) → D.rt (.ref p) H
theorem ok_startE {K : PySem.W.Frag} {H : Hp} {N : List Str} {M : List Addr} {vs : List V} {es : List Ent} {μ : Mem} (al : ∀ a ∈ M, H a ≠ none) (h : Paired (EntOk K (hide M H)) es vs) (hm : ∀ p ∈ μ, p.1 ∈ M ∧ MOok K (hide M H) H p.1 p.2) (nd : (ad μ).Nodup) (hN : vs.length ≤ N.length) :
    Ok ⟨K, M, hide (ad μ) H, hide M H⟩ M (startE N.length es.length es) μ (L2.start N vs) H where
  len := start_len (paired_len h) hN
  slot := fun i e h1 h2 => start_slot h i e h1 h2
  mem := fun p hp => ⟨(hm p hp).1, hide_in (List.mem_map.mpr ⟨p, hp, rfl⟩), (hm p hp).2⟩
  nd := nd
  alloc := al
  sub := fun _ ha => ha
  gr := hide_le
  base := Ex.refl _
section
variable {P : Program} {w : World} {K : PySem.W.Frag} {mg : Str → Option Value} {base : Heap}
theorem def_E {x qual : Str} {st : Stmt} {f : Addr} {fd : FuncData} {N ps : List Str} {k n : Nat} {R : List Ent → Mem → PyData → Mem → Prop} (F : Fun K x qual st f fd) (S : FnScope N ps (defScope st)) (hN : ps.length ≤ N.length) (hp : ps.length = n)
    (h : ∀ (cdv : Value) (A : Around) (outer : List Env) (s : Shared) (H : Hp) (E : XK), Room k (A.deeper (PyProof.Rows.envOfC qual (defScope st) s.heap.objs.size f cdv)) →
      ∃ t, PSs (cxOf CX0 P w K mg base N qual (defScope st) f cdv A outer s H E).nox (defBody st) t ∧
        ∀ (M : List Addr) (G B : Hp) (es : List Ent) (μ : Mem) (d : PyData) (μ' : Mem), R es μ d μ' → ∀ D : Ends, FinE ⟨K, M, G, B⟩ D d μ' → Run ⟨K, M, G, B⟩ t D M (startE N.length es.length es) μ) :
    FnOk P w K mg base CX0 (k + 1) f fd ps (spE K n R) := by
  refine F.ok S (fun vs H Q E hs => hs.1.trans hp.symm) fun cdv A outer s H vs Q E hr hs => ?_
  obtain ⟨hn, M, es, μ, d, μ', al, he, hm, nd, had, hR, kk⟩ := hs
  obtain ⟨t, ht, run⟩ := h cdv A outer s H E hr
  refine ⟨t, ht, run M (hide (ad μ) H) (hide M H) es μ d μ' hR _ (fun v M' H' e s m r => kk v H' e (fun p hp => (m p hp).mono (hide_sub s) fun _ q => q) (dp_mono (hide_sub s) _ _ r)) _ _ (ok_startE al he hm nd (by rw [hn, ← hp]; exact hN))⟩
theorem def_EN {x qual : Str} {st : Stmt} {f : Addr} {fd : FuncData} {N ps : List Str} {k n : Nat} {R : List Ent → Mem → MO → Mem → Prop} (F : Fun K x qual st f fd) (S : FnScope N ps (defScope st)) (hN : ps.length ≤ N.length) (hp : ps.length = n)
    (h : ∀ (cdv : Value) (A : Around) (outer : List Env) (s : Shared) (H : Hp) (E : XK), Room k (A.deeper (PyProof.Rows.envOfC qual (defScope st) s.heap.objs.size f cdv)) →
      ∃ t, PSs (cxOf CX0 P w K mg base N qual (defScope st) f cdv A outer s H E).nox (defBody st) t ∧
        ∀ (M : List Addr) (G B : Hp) (es : List Ent) (μ : Mem) (mo : MO) (μ' : Mem), R es μ mo μ' → ∀ D : Ends, FinEN ⟨K, M, G, B⟩ D mo μ' → Run ⟨K, M, G, B⟩ t D M (startE N.length es.length es) μ) :
    FnOk P w K mg base CX0 (k + 1) f fd ps (spEN K n R) := by
  refine F.ok S (fun vs H Q E hs => hs.1.trans hp.symm) fun cdv A outer s H vs Q E hr hs => ?_
  obtain ⟨hn, M, es, μ, mo, μ', al, he, hm, nd, had, hR, kk⟩ := hs
  obtain ⟨t, ht, run⟩ := h cdv A outer s H E hr
  refine ⟨t, ht, run M (hide (ad μ) H) (hide M H) es μ mo μ' hR _ (fun p M' H' g pM e s pm m mm => ?_) _ _ (ok_startE al he hm nd (by rw [hn, ← hp]; exact hN))⟩
  have sub : ∀ a ∈ p :: M, a ∈ M' := fun a ha => (List.mem_cons.mp ha).elim (fun z => by rw [z]; exact pm) (s a)
  have hp0 : H p = none := by
    have : hide (ad μ) H p = none := g
    rw [hide_out (fun z => ?_)] at this
    · exact this
    · obtain ⟨q, hq, e⟩ := List.mem_map.mp z
      exact pM (by have := (hm q hq).1; rw [e] at this; exact this)
  exact kk p H' hp0 e (m.mono (hide_sub sub) fun _ q => q) (fun q hq => (mm q hq).mono (hide_sub sub) fun _ q => q)
end
section
variable {C : Cfg} {M : List Addr} {δ : List Ent} {μ μ0 μ0' μ1 μ2 μ' : Mem} {σ : L2.St} {H1 H2 : Hp} {tr : TA} {te ta : TE} {D : Ends} {t2 : TS} {i j : Nat} {a : Addr} {mo : MO} {es : List Ent} {d : PyData} {n : Nat}
/-- the objects that a call was handed, as it leaves them -/
structure Swap (μ0 μ0' μ1 μ2 : Mem) : Prop where
  sub : ∀ p ∈ μ0, p ∈ μ1
  ad0 : ad μ0' = ad μ0
  ad1 : ad μ2 = ad μ1
  new : ∀ p ∈ μ2, p ∈ μ0' ∨ (p ∈ μ1 ∧ p.1 ∉ ad μ0)
theorem after_E (o : Ok C M δ μ1 σ H1) (w : Swap μ0 μ0' μ1 μ2) (e : Ex (hide (ad μ0) H1) H2) (hm : ∀ p ∈ μ0', MOok C.K (hide M H2) H2 p.1 p.2) : Ok C M δ μ2 σ H2 ∧ Ex (hide M H1) (hide M H2) := by
  have inM : ∀ b ∈ ad μ0, b ∈ M ∧ C.G b = none := fun b hb => by
    obtain ⟨q, hq, z⟩ := List.mem_map.mp hb
    have := o.mem q (w.sub q hq)
    rw [z] at this
    exact ⟨this.1, this.2.1⟩
  have kp : ∀ b u, b ∉ ad μ0 → H1 b = some u → H2 b = some u := fun b u ne q => e b u (by rw [hide_out ne]; exact q)
  have x : Ex (hide M H1) (hide M H2) := fun b u z => by
    obtain ⟨q, z⟩ := hide_some z
    rw [hide_out q]
    exact kp b u (fun y => q (inM b y).1) z
  refine ⟨⟨o.len, fun i y h1 h2 => let ⟨v, a, c⟩ := o.slot i y h1 h2; ⟨v, a, c.mono x⟩, fun p hp => ?_, by rw [show μ2.map (·.1) = μ1.map (·.1) from w.ad1]; exact o.nd, fun b hb => ?_, o.sub, fun b u z => ?_, o.base.trans x⟩, x⟩
  · rcases w.new p hp with h0 | ⟨h1, h2⟩
    · have : p.1 ∈ ad μ0 := by rw [← w.ad0]; exact List.mem_map.mpr ⟨p, h0, rfl⟩
      exact ⟨(inM _ this).1, (inM _ this).2, hm p h0⟩
    · obtain ⟨b1, b2, b3⟩ := o.mem p h1
      exact ⟨b1, b2, b3.mono x fun u z => kp _ u h2 z⟩
  · by_cases q : b ∈ ad μ0
    · rw [← w.ad0] at q
      obtain ⟨p, hp, z⟩ := List.mem_map.mp q
      have := (hm p hp).there
      rw [z] at this; exact this
    · cases z : H1 b with
      | none => exact absurd z (o.alloc b hb)
      | some u => rw [kp b u q z]; exact fun z => nomatch z
  · exact kp b u (fun q => by have := (inM b q).2; rw [z] at this; cases this) (o.gr b u z)
theorem x_callE {R : List Ent → Mem → PyData → Mem → Prop} {E : XK} (h : EvA C tr M δ μ μ1 es) (w : Swap μ0 μ0' μ1 μ2) (nd : (ad μ0).Nodup) (hR : R es μ0 d μ0') (hn : es.length = n := by rfl) : EvX C (tCall (spE C.K n R) [] E tr) M δ μ μ2 (.d d) := fun σ H o Q k =>
  h σ H o _ fun vs H1 o1 x1 r1 => by
    rw [List.append_nil]
    refine ⟨by rw [← paired_len r1]; exact hn, M, es, μ0, d, μ0', o1.alloc, r1, fun p hp => let q := o1.mem p (w.sub p hp); ⟨q.1, q.2.2⟩, nd, w.ad0, hR, fun v H2 e2 m2 d2 => ?_⟩
    obtain ⟨o2, x2⟩ := after_E o1 w e2 m2
    exact k v H2 o2 (x1.trans x2) d2
theorem swap_same (hj : (a, mo) ∈ μ) (nd : (ad μ).Nodup) : Swap [(a, mo)] [(a, mo)] μ μ where
  sub := fun p hp => by rw [List.mem_singleton.mp hp]; exact hj
  ad0 := rfl
  ad1 := rfl
  new := fun p hp => by
    by_cases e : p.1 = a
    · left
      obtain ⟨i, hi⟩ := List.getElem?_of_mem hp
      obtain ⟨k, hk⟩ := List.getElem?_of_mem hj
      obtain ⟨x, y⟩ := p
      have e : x = a := e
      subst e
      have := nodup_fst nd hi hk
      subst this
      rw [hi] at hk
      rw [Option.some.inj hk]; simp
    · exact .inr ⟨hp, by simpa using e⟩
/-- one object, read alone -/
theorem x_callE1 {R : List Ent → Mem → PyData → Mem → Prop} {E : XK} (h : EvA C tr M δ μ μ1 es) (hj : (a, mo) ∈ μ1) (hR : R es [(a, mo)] d [(a, mo)]) (hn : es.length = n := by rfl) : EvX C (tCall (spE C.K n R) [] E tr) M δ μ μ1 (.d d) := fun σ H o Q k =>
  h σ H o _ fun vs H1 o1 x1 r1 => by
    rw [List.append_nil]
    refine ⟨by rw [← paired_len r1]; exact hn, M, es, [(a, mo)], d, [(a, mo)], o1.alloc, r1, fun p hp => ?_, by simp, rfl, hR, fun v H2 e2 m2 d2 => ?_⟩
    · rw [List.mem_singleton.mp hp]
      let q := o1.mem _ hj; exact ⟨q.1, q.2.2⟩
    obtain ⟨o2, x2⟩ := after_E o1 (swap_same hj o1.nd) e2 m2
    exact k v H2 o2 (x1.trans x2) d2
theorem ok_newE {G : Mem} (o : Ok C M δ μ1 σ H1) {p : Addr} (w : Swap μ0 μ0' μ1 μ2) (hp : H1 p = none) (e : Ex (hide (ad μ0) H1) H2) (hmo : MOok C.K (hide (p :: M) H2) H2 p mo) (hm : ∀ q ∈ μ0', MOok C.K (hide (p :: M) H2) H2 q.1 q.2) : p ∉ M ∧ Ok C (p :: M) δ ((p, mo) :: μ2) σ H2 := by
  have pM := o.fresh hp
  have inM : ∀ b ∈ ad μ0, b ∈ M ∧ C.G b = none := fun b hb => by
    obtain ⟨q, hq, z⟩ := List.mem_map.mp hb
    have := o.mem q (w.sub q hq)
    rw [z] at this
    exact ⟨this.1, this.2.1⟩
  have kp : ∀ b u, b ∉ ad μ0 → H1 b = some u → H2 b = some u := fun b u ne q => e b u (by rw [hide_out ne]; exact q)
  have x : Ex (hide M H1) (hide (p :: M) H2) := fun b u z => by
    obtain ⟨q, z⟩ := hide_some z
    have ne : b ≠ p := ne_of_none z hp
    rw [hide_out (fun y => (List.mem_cons.mp y).elim ne q)]
    exact kp b u (fun y => q (inM b y).1) z
  refine ⟨pM, ⟨o.len, fun i y h1 h2 => let ⟨v, a, c⟩ := o.slot i y h1 h2; ⟨v, a, c.mono x⟩, fun q hq => ?_, ?_, fun b hb => ?_, fun b hb => List.mem_cons_of_mem _ (o.sub b hb), fun b u z => ?_, o.base.trans x⟩⟩
  · rcases List.mem_cons.mp hq with z | hq
    · subst z
      refine ⟨List.mem_cons_self, ?_, hmo⟩
      cases z : C.G p with
      | none => rfl
      | some u => have := o.gr p u z; rw [hp] at this; cases this
    · rcases w.new q hq with h0 | ⟨h1, h2⟩
      · have : q.1 ∈ ad μ0 := by rw [← w.ad0]; exact List.mem_map.mpr ⟨q, h0, rfl⟩
        exact ⟨List.mem_cons_of_mem _ (inM _ this).1, (inM _ this).2, hm q h0⟩
      · obtain ⟨b1, b2, b3⟩ := o.mem q h1
        exact ⟨List.mem_cons_of_mem _ b1, b2, b3.mono x fun u z => kp _ u h2 z⟩
  · rw [List.map_cons, List.nodup_cons, show μ2.map (·.1) = μ1.map (·.1) from w.ad1]
    refine ⟨fun z => ?_, o.nd⟩
    obtain ⟨q, hq, z⟩ := List.mem_map.mp z
    have := (o.mem q hq).1
    rw [z] at this
    exact pM this
  · rcases List.mem_cons.mp hb with z | hb
    · rw [z]; exact hmo.there
    · by_cases q : b ∈ ad μ0
      · rw [← w.ad0] at q
        obtain ⟨r, hr, z⟩ := List.mem_map.mp q
        have := (hm r hr).there
        rw [z] at this; exact this
      · cases z : H1 b with
        | none => exact absurd z (o.alloc b hb)
        | some u => rw [kp b u q z]; exact fun z => nomatch z
  · exact kp b u (fun q => by have := (inM b q).2; rw [z] at this; cases this) (o.gr b u z)
/-- x = f(..), a new object handed back -/
theorem r_asgEN {R : List Ent → Mem → MO → Mem → Prop} {E : XK} (h : EvA C tr M δ μ μ1 es) (w : Swap μ0 μ0' μ1 μ2) (nd : (ad μ0).Nodup) (hR : R es μ0 mo μ0') (k : ∀ p, p ∉ M → Nx C D (p :: M) (δ.set i (.m p)) ((p, mo) :: μ2)) (hn : es.length = n := by rfl) :
    Run C (tAsg (tCall (spEN C.K n R) [] E tr) (gName i)) D M δ μ := fun σ H o => h σ H o _ fun vs H1 o1 x1 r1 => by
  rw [List.append_nil]
  refine ⟨by rw [← paired_len r1]; exact hn, M, es, μ0, mo, μ0', o1.alloc, r1, fun p hp => let q := o1.mem p (w.sub p hp); ⟨q.1, q.2.2⟩, nd, w.ad0, hR, fun p H2 hp e2 m1 m2 => ?_⟩
  obtain ⟨pM, o2⟩ := ok_newE (G := []) o1 w hp e2 m1 m2
  exact k p pM _ _ (o2.set i (e := .m p) rfl)
theorem q_asgEN {R : List Ent → Mem → MO → Mem → Prop} {E : XK} (h : EvA C tr M δ μ μ1 es) (w : Swap μ0 μ0' μ1 μ2) (nd : (ad μ0).Nodup) (hR : R es μ0 mo μ0') (k : ∀ p, p ∉ M → Run C t2 D (p :: M) (δ.set i (.m p)) ((p, mo) :: μ2)) (hn : es.length = n := by rfl) :
    Run C (tSeq (tAsg (tCall (spEN C.K n R) [] E tr) (gName i)) t2) D M δ μ := r_asgEN (D := { D with nx := t2 D }) h w nd hR k hn
/-- f(..) an operand, its new object held for the moment alone: the caller's rule -/
theorem r_retE (h : EvX C te M δ μ μ1 (.d d)) (hs : ∀ p ∈ μ', p ∈ μ1) (k : FinE C D d μ') : Run C (tRet te) D M δ μ := fun σ H o => h σ H o _ fun v H1 o1 x1 r =>
  k v M H1 o1.gr o1.sub (fun p hp => (o1.mem p (hs p hp)).2.2) r
theorem r_retEN (h : EvX C te M δ μ μ1 (.m a)) (hj : (a, mo) ∈ μ1) (ha : a ∉ C.M0) (hs : ∀ p ∈ μ', p ∈ μ1) (k : FinEN C D mo μ') : Run C (tRet te) D M δ μ := fun σ H o => h σ H o _ fun v H1 o1 x1 r => by
  have r' : v = .ref a := r
  rw [r']
  obtain ⟨q0, q1, q2⟩ := o1.mem _ hj
  exact k a M H1 q1 ha o1.gr o1.sub q0 q2 fun p hp => (o1.mem p (hs p hp)).2.2
/-! ### a dict walked under a lock -/
def lkE (D : Ends) (a : Addr) (u : HO) (od : Obj) : Ends := ⟨fun σ' H' => H' a = some (.frz od u) ∧ D.nx σ' (upd H' a u), fun v H' => H' a = some (.frz od u) ∧ D.rt v (upd H' a u), fun σ' H' => H' a = some (.frz od u) ∧ D.bk σ' (upd H' a u), fun σ' H' => H' a = some (.frz od u) ∧ D.ct σ' (upd H' a u)⟩
variable {kvs : List (Key × PyData)} {ws : List (Key × V)} {od : Obj} {t : TS}
theorem set_back {l : Mem} {x y : Addr × MO} (h : l[j]? = some x) : (l.set j y).set j x = l := by
  rw [List.set_set]
  refine List.ext_getElem? fun k => ?_
  by_cases q : j = k
  · subst q
    rw [List.getElem?_set_self (List.getElem?_eq_some_iff.mp h).1, h]
  · rw [List.getElem?_set_ne q]
theorem ok_lock (o : Ok C M δ μ σ H1) (hj : μ[j]? = some (a, .dK kvs)) : ∃ ws, H1 a = some (.dK ws) ∧ ∀ od, Ok C M δ (μ.set j (a, .fz od ws kvs)) σ (upd H1 a (.frz od (.dK ws))) := by
  obtain ⟨_, _, ws, e, c⟩ := o.mem _ (List.mem_of_getElem? hj)
  exact ⟨ws, e, fun od => o.write hj ⟨upd_same, c⟩⟩
theorem ok_unlock (hj : μ[j]? = some (a, .dK kvs)) (o : Ok C M δ (μ.set j (a, .fz od ws kvs)) σ H1) : H1 a = some (.frz od (.dK ws)) ∧ a ∈ M ∧ Ok C M δ μ σ (upd H1 a (.dK ws)) := by
  have hj' : (μ.set j (a, MO.fz od ws kvs))[j]? = some (a, .fz od ws kvs) := List.getElem?_set_self (List.getElem?_eq_some_iff.mp hj).1
  obtain ⟨q0, _, e, c⟩ := o.mem _ (List.mem_of_getElem? hj')
  have := o.write hj' (mo' := .dK kvs) (ho := .dK ws) ⟨ws, upd_same, c⟩
  rw [set_back hj] at this
  exact ⟨e, q0, this⟩
theorem r_lock (hj : μ[j]? = some (a, .dK kvs)) (h : ∀ od ws, Run C t (lkE D a (.dK ws) od) M δ (μ.set j (a, .fz od ws kvs))) : Run C (tLock t) D M δ μ := fun σ H o => by
  obtain ⟨ws, e, k⟩ := ok_lock o hj
  exact ⟨a, .dK ws, e, trivial, fun od => h od ws _ _ (k od)⟩
theorem q_lock (hj : μ[j]? = some (a, .dK kvs)) (h : ∀ od ws, Run C t (lkE { D with nx := t2 D } a (.dK ws) od) M δ (μ.set j (a, .fz od ws kvs))) : Run C (tSeq (tLock t) t2) D M δ μ := r_lock (D := { D with nx := t2 D }) hj h
theorem lk_nx (hj : μ[j]? = some (a, .dK kvs)) (k : Nx C D M δ μ) : Nx C (lkE D a (.dK ws) od) M δ (μ.set j (a, .fz od ws kvs)) := fun σ H o => by
  obtain ⟨e, _, o'⟩ := ok_unlock hj o
  exact ⟨e, k _ _ o'⟩
/-- handing back from within -/
theorem lk_ret (hj : μ1[j]? = some (a, .dK kvs)) (h : EvX C te M δ μ (μ1.set j (a, .fz od ws kvs)) (.d d)) (hs : ∀ p ∈ μ', p ∈ μ1) (k : FinE C D d μ') : Run C (tRet te) (lkE D a (.dK ws) od) M δ μ := fun σ H o => h σ H o _ fun v H1 o1 x1 r => by
  obtain ⟨e, aM, o'⟩ := ok_unlock hj o1
  exact ⟨e, k v M _ o'.gr o'.sub (fun p hp => (o'.mem p (hs p hp)).2.2) (by rw [hide_upd aM]; exact r)⟩
theorem x_lock {e : Ent} (hj : μ[j]? = some (a, .dK kvs)) (h : ∀ od ws, EvX C te M δ (μ.set j (a, .fz od ws kvs)) (μ.set j (a, .fz od ws kvs)) e) : EvX C (tLockE te) M δ μ μ e := fun σ H o Q k => by
  obtain ⟨ws, e0, kk⟩ := ok_lock o hj
  refine ⟨a, .dK ws, e0, trivial, fun od => h od ws _ _ (kk od) _ fun v H1 o1 x1 r => ?_⟩
  obtain ⟨e1, aM, o'⟩ := ok_unlock hj o1
  rw [hide_upd aM] at x1
  exact ⟨e1, k v _ o' (by rw [hide_upd aM]; exact x1) (by rw [hide_upd aM]; exact r)⟩
theorem w_keys {K : PySem.W.Frag} {Hh : Hp} {l : Dct} {Hx : Hp} (c : DcOk K Hx ws (kd l)) : WalkN K (Itk a od ws) Hh (fun H => H a = some (.frz od (.dK ws))) ((l.map (·.1)).map .str) where
  go := fun M i H hi _ _ n => ⟨n, by rw [dc_len c]; simpa using hi⟩
  stop := fun M H _ _ n => ⟨n, by rw [dc_len c]; simp⟩
  yld := fun M i H x H' hi al ex n y => by
    obtain ⟨rfl, k, v, e1, rfl⟩ := y
    obtain ⟨p, e2, rfl⟩ := dc_get c e1
    refine ⟨Ex.refl _, .str p.1, ?_, .str _⟩
    rw [List.getElem?_map, List.getElem?_map, e2]; rfl
theorem i_keys {l : Dct} (h : EvX C ta M δ μ μ1 (.m a)) (hm : (a, .fz od ws (kd l)) ∈ μ1) : EvIN C (iKeys ta) M δ μ μ1 (fun H => H a = some (.frz od (.dK ws))) ((l.map (·.1)).map .str) := fun σ H o R k => h σ H o _ fun v H1 o1 x1 r => by
  have r' : v = .ref a := r
  obtain ⟨_, _, e, c⟩ := o1.mem _ hm
  exact ⟨a, od, r', .inl ⟨ws, e, k _ H1 o1 x1 (w_keys c)⟩⟩
theorem ok_frz {l : Dct} (hm : (a, .fz od ws (kd l)) ∈ μ) (o : Ok C M δ μ σ H1) : H1 a = some (.frz od (.dK ws)) := (o.mem _ hm).2.2.1
end
end FD
/-! a comprehension of two fors -/
namespace FD
open PySem L2 Evl
section
variable {C : Cfg} {M : List Addr} {δ : List Ent} {μ μ' : Mem}
theorem wipe_two {σ2 σ3 : L2.St} {vs1 : List Nat} (h : wipe σ3 vs1 = wipe σ2 vs1) : True := trivial
theorem x_lc2P {N : Hp → Prop} {wi wi1 : TI} {g g1 : TG} {tt : TT} {te : TE} {vs vs1 : List Nat} {xs : List PyData} (b : Nat → Bool) (ys : Nat → List PyData) (f : Nat → Nat → PyData) (hi : EvIN C wi M δ μ μ' N xs) (hN : ∀ (B : Hp) (D : Addr) (σ : L2.St) (H : Hp), Ok { C with B := B } (D :: M) δ μ' σ H → N H)
    (hz : ((List.range xs.length).map fun i => (ys i).length).sum ≤ 90000)
    (hs : ∀ (i : Nat) (d : PyData), xs[i]? = some d → ∀ (G B : Hp) (D : Addr), ∃ ts δ1, TgX C.K g ts d (wipeE δ vs) δ1 ∧ (∀ k ∈ ts, k ∈ vs) ∧ EvT { C with G := G, B := B } tt (D :: M) δ1 μ' μ' (b i) ∧
      (b i = true → EvI { C with G := G, B := B } wi1 (D :: M) δ1 μ' μ' (ys i) ∧ ∀ (j : Nat) (e : PyData), (ys i)[j]? = some e → ∃ ts1 δ2, TgX C.K g1 ts1 e (wipeE δ1 vs1) δ2 ∧ (∀ k ∈ ts1, k ∈ vs1) ∧ ∀ G B : Hp, EvX { C with G := G, B := B } te (D :: M) δ2 μ' μ' (.d (f i j)))) :
    EvX C (tLc2 wi g tt wi1 g1 tYes te vs vs1) M δ μ μ' (.d (.list ((List.range xs.length).flatMap fun i => if b i = true then (List.range (ys i).length).map (f i) else []))) := fun σ H o Q k => by
  refine hi σ H o _ fun J H1 o1 x1 W D hD => ?_
  have oB := o1.toB
  have hDM : D ∉ M := o1.fresh hD
  have o2 : Ok { C with B := hide M H1 } (D :: M) δ μ' σ (upd H1 D (.lst [])) :=
    (oB.new hD (mo := .lst []) ⟨[], upd_same, .nil⟩).mems (fun p hp => List.mem_cons_of_mem _ hp) o1.nd
  have hSM : ∀ p ∈ μ', p.1 ∈ M := fun p hp => (o1.mem p hp).1
  have nD : ∀ p ∈ μ', p.1 ≠ D := fun p hp z => hDM (z ▸ hSM p hp)
  have gD : C.G D = none := by
    cases z : C.G D with
    | none => rfl
    | some u => have := o1.gr D u z; rw [hD] at this; cases this
  generalize hg : (fun i => if b i = true then (List.range (ys i).length).map (f i) else []) = gg
  have hgl : ∀ n, n ≤ xs.length → ((List.range n).flatMap gg).length ≤ ((List.range n).map fun i => (ys i).length).sum := by
    intro n
    induction n with
    | zero => intro _; simp
    | succ n ih =>
      intro hn
      rw [List.range_succ, List.flatMap_append, List.map_append, List.sum_append, List.length_append]
      have := ih (by omega)
      have e2 : ([n].flatMap gg).length ≤ (ys n).length := by
        rw [List.flatMap_singleton, ← hg]
        dsimp only
        split
        · simp
        · simp
      simp only [List.map_cons, List.map_nil, List.sum_cons, List.sum_nil]
      omega
  have hmono : ∀ n, n < xs.length → ((List.range n).map fun i => (ys i).length).sum + (ys n).length ≤ 90000 := by
    intro n hn
    have : ∀ m, n + 1 ≤ m → ((List.range (n + 1)).map fun i => (ys i).length).sum ≤ ((List.range m).map fun i => (ys i).length).sum := by
      intro m hm
      induction m with
      | zero => omega
      | succ m ih =>
        by_cases e : n + 1 = m + 1
        · rw [e]; exact Nat.le_refl _
        · have := ih (by omega)
          rw [List.range_succ (n := m), List.map_append, List.sum_append]
          omega
    have h1 := this xs.length (by omega)
    rw [List.range_succ, List.map_append, List.sum_append] at h1
    simp only [List.map_cons, List.map_nil, List.sum_cons, List.sum_nil] at h1
    omega
  refine ⟨fun i m H' => m = xs.length - i ∧ i ≤ xs.length ∧ Ok { C with B := hide M H1 } (D :: M) δ μ' σ H' ∧ ∃ acc, H' D = some (.lst acc) ∧ DpAll C.K (hide (D :: M) H') acc ((List.range i).flatMap gg),
    ⟨xs.length, by simp, Nat.zero_le _, o2, [], upd_same, .nil⟩, ?_⟩
  rintro i m H' ⟨rfl, hi', oi, acc, hacc, dacc⟩
  by_cases hlt : i < xs.length
  · refine .inr ⟨W.go (D :: M) i H' hlt oi.alloc oi.base (hN _ _ _ _ oi), fun H'' => Ok { C with B := hide M H1 } (D :: M) δ μ' σ H'' ∧ ∃ acc, H'' D = some (.lst acc) ∧ DpAll C.K (hide (D :: M) H'') acc ((List.range (i + 1)).flatMap gg),
      fun H'' q => ⟨xs.length - (i + 1), by omega, rfl, hlt, q⟩, fun x H2 y => ?_⟩
    obtain ⟨e2, d, hd, dx⟩ := W.yld (D :: M) i H' x H2 hlt oi.alloc oi.base (hN _ _ _ _ oi) y
    have o3 := oi.grow e2
    have o4 := o3.toG
    obtain ⟨ts, δ1, tg, hts, ht, hin⟩ := hs i d hd (hide (μ'.map (·.1)) H2) (hide M H1) D
    have hD2 : H2 D = some (.lst acc) := e2 D _ hacc
    have outD : D ∉ μ'.map (·.1) := fun z => by
      obtain ⟨r, hr, er⟩ := List.mem_map.mp z
      exact nD r hr er
    have gD2 : hide (μ'.map (·.1)) H2 D = some (.lst acc) := by rw [hide_out outD]; exact hD2
    refine tg { C with G := hide (μ'.map (·.1)) H2, B := hide M H1 } _ _ _ _ _ rfl (o4.wiped vs) dx _ fun σ2 o5 hl2 hσ2 => ⟨wipe_eq (by rw [hl2, wipe_length]) hσ2 hts, ?_⟩
    refine ht σ2 H2 o5 _ fun H3 o6 x6 => ?_
    have hlen : acc.length ≤ ((List.range i).map fun i => (ys i).length).sum := by rw [dacc.length]; exact hgl i (by omega)
    have d3 : DpAll C.K (hide (D :: M) H3) acc ((List.range i).flatMap gg) := dpAll_mono ((hide_ex e2).trans x6) _ _ dacc
    have hD3 : H3 D = some (.lst acc) := o6.gr D _ gD2
    have esucc : (List.range (i + 1)).flatMap gg = (List.range i).flatMap gg ++ gg i := by rw [List.range_succ, List.flatMap_append, List.flatMap_singleton]
    cases hb : b i with
    | false =>
      rw [if_neg Bool.false_ne_true]
      refine ⟨o3.swap (o3.ofG o6) x6, acc, hD3, ?_⟩
      rw [esucc, show gg i = [] by rw [← hg]; simp [hb], List.append_nil]
      exact d3
    | true =>
      rw [if_pos rfl]
      obtain ⟨hi1, hin1⟩ := hin hb
      refine hi1 σ2 H3 o6 _ fun J1 H4 o7 x7 W1 => ?_
      have hD4 : H4 D = some (.lst acc) := o7.gr D _ gD2
      have o7' : Ok { C with B := hide (D :: M) H4 } (D :: M) δ1 μ' σ2 H4 := (o3.ofG o7).toB
      have o8 : Ok { C with B := hide M H1 } (D :: M) δ μ' σ H4 := o3.swap (o3.ofG o7) (x6.trans x7)
      have egg : gg i = (List.range (ys i).length).map (f i) := by rw [← hg]; simp [hb]
      refine ⟨fun j m H' => m = (ys i).length - j ∧ j ≤ (ys i).length ∧ Ok { C with B := hide (D :: M) H4 } (D :: M) δ1 μ' σ2 H' ∧ Ok { C with B := hide M H1 } (D :: M) δ μ' σ H' ∧ ∃ acc, H' D = some (.lst acc) ∧ DpAll C.K (hide (D :: M) H') acc ((List.range i).flatMap gg ++ (List.range j).map (f i)),
        ⟨(ys i).length, by simp, Nat.zero_le _, o7', o8, acc, hD4, by rw [List.range_zero, List.map_nil, List.append_nil]; exact dpAll_mono x7 _ _ d3⟩, ?_⟩
      rintro j m H5 ⟨rfl, hj', oj, oj2, acc1, hacc1, dacc1⟩
      by_cases hlt1 : j < (ys i).length
      · refine .inr ⟨W1.go (D :: M) j H5 hlt1 oj.alloc oj.base, fun H'' => Ok { C with B := hide (D :: M) H4 } (D :: M) δ1 μ' σ2 H'' ∧ Ok { C with B := hide M H1 } (D :: M) δ μ' σ H'' ∧ ∃ acc, H'' D = some (.lst acc) ∧ DpAll C.K (hide (D :: M) H'') acc ((List.range i).flatMap gg ++ (List.range (j + 1)).map (f i)),
          fun H'' q => ⟨(ys i).length - (j + 1), by omega, rfl, hlt1, q⟩, fun x1 H6 y1 => ?_⟩
        obtain ⟨e6, e, he, dx1⟩ := W1.yld (D :: M) j H5 x1 H6 hlt1 oj.alloc oj.base y1
        have p3 := oj.grow e6
        have p4 := p3.toG
        obtain ⟨ts1, δ2, tg1, hts1, hel⟩ := hin1 j e he
        have hD6 : H6 D = some (.lst acc1) := e6 D _ hacc1
        have gD6 : hide (μ'.map (·.1)) H6 D = some (.lst acc1) := by rw [hide_out outD]; exact hD6
        refine tg1 { C with G := hide (μ'.map (·.1)) H6, B := hide (D :: M) H4 } _ _ _ _ _ rfl (p4.wiped vs1) dx1 _ fun σ3 p5 hl3 hσ3 => ⟨wipe_eq (by rw [hl3, wipe_length]) hσ3 hts1, ?_⟩
        unfold tYes
        dsimp only
        rw [if_pos rfl]
        refine hel _ _ σ3 H6 p5 _ fun v H7 p7 x7 r7 => ?_
        have hD7 : H7 D = some (.lst acc1) := p7.gr D _ gD6
        have q8 : Ok { C with B := hide (D :: M) H4 } (D :: M) δ1 μ' σ2 H7 := p3.swap (p3.ofG p7) x7
        have pg := (oj2.grow e6)
        have q9 : Ok { C with B := hide M H1 } (D :: M) δ μ' σ H7 :=
          ⟨pg.len, fun i y h1 h2 => let ⟨v, a, c⟩ := pg.slot i y h1 h2; ⟨v, a, c.mono x7⟩, q8.mem, q8.nd, q8.alloc, q8.sub, q8.gr, pg.base.trans x7⟩
        have l1 : acc1.length ≤ 90000 := by
          rw [dacc1.length, List.length_append, List.length_map, List.length_range]
          have := hmono i hlt
          have := hgl i (by omega)
          omega
        refine ⟨acc1, hD7, sz_lt (by omega), q8.writeH List.mem_cons_self nD gD, q9.writeH List.mem_cons_self nD gD, _, upd_same, ?_⟩
        rw [hide_upd List.mem_cons_self, List.range_succ, List.map_append, ← List.append_assoc]
        exact (dpAll_mono ((hide_ex e6).trans x7) _ _ dacc1).append (.cons r7 .nil)
      · have ej : j = (ys i).length := by omega
        subst ej
        refine .inl ⟨W1.stop (D :: M) H5 oj.alloc oj.base, oj2, acc1, hacc1, ?_⟩
        rw [esucc, egg]
        exact dacc1
  · have ei : i = xs.length := by omega
    subst ei
    refine .inl ⟨W.stop (D :: M) H' oi.alloc oi.base (hN _ _ _ _ oi), ?_⟩
    have s1 : ∀ a ∈ M, a ∈ D :: M := fun a ha => List.mem_cons_of_mem _ ha
    have oE : Ok C M δ μ' σ H' := (oi.drop (M := M) s1 hSM o1.sub).reB o1.base
    have xE : Ex (hide M H) (hide M H') := x1.trans (oi.base.trans (hide_sub s1))
    subst hg
    refine k _ H' oE xE (.lst (sq_of ?_) (dpAll_mono (hide_sub s1) _ _ dacc))
    rw [hide_out hDM]; exact hacc
end
end FD
/-! texts, bits, more of lists; t[::-1] of a tuple -/
namespace FD
open PySem PySem.Spec L2 PyProof.Rows HT
section
variable {prog : Program} {w : World} {A : Around} {E : Value → Shared → Prop} {s : Shared}
theorem fm_congr {α β : Type} {f g : α → Option β} : ∀ {l : List α}, (∀ m ∈ l, f m = g m) → l.filterMap f = l.filterMap g
  | [], _ => rfl
  | x :: l, h => by
    rw [List.filterMap_cons, List.filterMap_cons, h x List.mem_cons_self, fm_congr fun m hm => h m (List.mem_cons_of_mem _ hm)]
theorem back_adjust (n : Nat) : Builtin.Slice.sliceAdjust none none (-1) (n : Int) = ((n : Int) - 1, -1) := rfl
theorem back_places (n : Nat) : Builtin.Slice.slicePlaces ((n : Int) - 1) (-1) (-1) = n := by
  unfold Builtin.Slice.slicePlaces
  rw [if_neg (by decide)]
  split
  · have e : ((n : Int) - 1 - -1 - 1) / (- -1) = (n : Int) - 1 := by
      rw [show (- -1 : Int) = 1 by decide, Int.ediv_one]
      omega
    rw [e]; omega
  · omega
theorem back_pick (xs : Array Value) : ((List.range xs.size).filterMap fun (m : Nat) => xs[((xs.size : Int) - 1 + (m : Int) * (-1)).toNat]?) = xs.toList.reverse := by
  have e : ∀ m ∈ List.range xs.size, xs[((xs.size : Int) - 1 + (m : Int) * (-1)).toNat]? = xs.toList.reverse[m]? := fun m hm => by
    have hm := List.mem_range.mp hm
    rw [List.getElem?_reverse (by simpa using hm), Array.length_toList, Array.getElem?_toList]
    congr 1
    omega
  rw [fm_congr e]
  refine List.ext_getElem? fun i => ?_
  have key : ∀ (ys : List Value) (n : Nat), n ≤ ys.length → (List.range n).filterMap (fun m => ys[m]?) = ys.take n := by
    intro ys n
    induction n with
    | zero => intro _; simp
    | succ n ih =>
      intro h
      rw [List.range_succ, List.filterMap_append, ih (by omega), List.take_add_one]
      simp [show n < ys.length by omega]
  rw [key _ _ (by simp), List.take_of_length_le (by simp)]
theorem getItem_back {t sl : Addr} {items : Array Value} {vz : Value} {Q : Value → Shared → Prop} (ht : IsTup s.heap t items) (hs : s.heap.IsSliceOf sl .none .none vz) (pz : IsPart vz (some (-1)))
    (h : Q (.ref s.heap.objs.size) { s with heap := s.heap.push { cls := .type "tuple", data := .seq items.toList.reverse.toArray } }) (hsz : items.size ≤ sizeLine) : wpAny (model prog w) A (getItem (.ref t) (.ref sl)) Q E s := by
  have okS : sizeOk (.seq items.toList.reverse.toArray) := by
    show items.toList.reverse.toArray.size ≤ sizeLine
    simpa using hsz
  obtain ⟨os, hos, hcs, hds⟩ := id hs
  have tS : s.TypeIs (.ref sl) "slice" := ⟨os, hos, hcs⟩
  unfold getItem
  try with_reducible refine wpAny_holding ?_
  first | refine wpAny_bind (wpAny_pure ?_) | skip
  refine wpAny_bind (wpAny_sequenceKey ht.typeIs (by decide) ?_)
  refine wpAny_bind (wpAny_callSpecial?_slot (name := Str.ofString "__getitem__") ht.typeIs PyProof.Rows.slot_tuple_getitem (wpAny_call_entry PyProof.Rows.slot_tuple_getitem ht.typeIs entry_tuple_getitem ?_ (args_tuple_getitem _ _)))
  show wpAny _ _ (Builtin.Tuple.tupleItemsOf (.ref t) >>= _) _ _ s
  refine wpAny_bind (tupleItemsOf_ ht ?_)
  refine wpAny_bind (wpAny_typeOf tS ?_)
  rw [if_pos (by decide)]
  refine wpAny_bind ?_
  unfold Builtin.Slice.sliceApplied Builtin.Slice.sliceFields
  refine wpAny_bind (wpAny_bind (wpAny_field hos hds (x := .none) rfl (wpAny_bind (wpAny_field hos hds (x := .none) rfl (wpAny_bind (wpAny_field hos hds (x := vz) rfl (wpAny_pure ?_)))))))
  refine wpAny_bind (slicePart_ pz ?_)
  show wpAny _ _ (if ((-1 : Int) == 0) = true then _ else _) _ _ s
  rw [if_neg (by decide)]
  refine wpAny_bind (slicePart_none (wpAny_bind (slicePart_none (wpAny_bind (wpAny_pure ?_)))))
  show wpAny _ _ (match Builtin.Slice.sliceAdjust none none (-1) (items.size : Int) with | (lo, hi) => pure (lo, (-1 : Int), Builtin.Slice.slicePlaces lo hi (-1))) _ _ s
  rw [back_adjust]
  show wpAny _ _ (pure ((items.size : Int) - 1, (-1 : Int), Builtin.Slice.slicePlaces ((items.size : Int) - 1) (-1) (-1))) _ _ s
  rw [back_places]
  refine wpAny_pure ?_
  have no1 : ¬ ((((items.size : Int) - 1 == 0) && ((-1 : Int) == 1) && (items.size == items.size)) = true) := by simp
  show wpAny _ _ (if (((items.size : Int) - 1 == 0) && ((-1 : Int) == 1) && (items.size == items.size)) = true then _ else _) _ _ s
  rw [if_neg no1, back_pick]
  first
    | exact wpAny_bind (m := Builtin.Tuple.tupleExact _) (wpAny_newObj_type (wpAny_pure ⟨_, rfl, wpAny_pure h⟩) okS)
    | exact wpAny_bind (m := Builtin.Tuple.tupleExact _) (wpAny_newObj_type (wpAny_bind (wpAny_pure (wpAny_pure ⟨_, rfl, wpAny_pure h⟩))) okS)
    | exact wpAny_bind (wpAny_bind (m := Builtin.Tuple.tupleExact _) (wpAny_newObj_type (wpAny_pure (wpAny_pure ⟨_, rfl, wpAny_pure h⟩)) okS))
    | exact wpAny_bind (wpAny_bind (m := Builtin.Tuple.tupleExact _) (wpAny_newObj_type (wpAny_pure ⟨_, rfl, wpAny_pure h⟩) okS))
end
def tRevT (K : PySem.W.Frag) (te : TE) : TE := fun σ H Q => te σ H fun x H1 => ∃ a xs, x = .ref a ∧ SqT K H1 a xs ∧ ∀ p, H1 p = none → Q (.ref p) (upd H1 p (.tup xs.reverse))
section
variable {X : Cx}
theorem pe_revT {e : Expr} {te : TE} {k : Nat} {p1 p2 p3 pos : Pos} (he : PE X e te) : PE X (.Subscript e (.Slice none none (some (.UnaryOp .USub (.Constant (.int 1) k p1) p2)) p3) pos) (tRevT X.K te) := by
  refine ⟨fun pins s σ H Q I h => ?_⟩
  refine Subscript_ (thn (he.run pins s σ H _ I h) fun v s1 ⟨x, H1, I1, r1, a, xs, ex, hx, q⟩ => ?_)
  subst ex
  cases r1
  have st1 : PO X (some (.UnaryOp .USub (.Constant (.int 1) k p1) p2)) (tPart (tUn (rU fun i => .int (-i)) (tC (.int 1)))) := po_some (pe_un un_neg pe_int)
  have n0 : PO X none tNoPart := po_none
  refine wpAny_Slice ?_
  rw [evalPart_none]
  refine wpAny_pure (wpAny_pure ?_)
  refine thn (st1.run pins s1 σ H1 (fun o H4 => o = some (-1) ∧ H4 = H1) I1 ⟨1, rfl, -1, rfl, rfl, rfl⟩) fun vz s4 ⟨o, H4, I4, pz, eo, e4⟩ => ?_
  subst eo e4
  have I5 : Inv X pins σ H4 { s4 with heap := s4.heap.push { cls := .type "slice", data := .fields #[.none, .none, vz] } } := I4.kept (t' := s4.toks) fun b ob q => Heap.get?_push_of_some _ q
  obtain ⟨its, r, pt, hz⟩ := I5.tuple hx
  have hlen := r.length
  show wpAny (model X.prog X.w) X.A (subscriptTail e (.Slice none none (some (.UnaryOp .USub (.Constant (.int 1) k p1) p2)) p3) (.ref a) (.ref s4.heap.objs.size)) (EP X pins σ Q) X.xe { s4 with heap := s4.heap.push { cls := .type "slice", data := .fields #[.none, .none, vz] } }
  refine tail_any (ops := [.ref a, .ref s4.heap.objs.size]) pt.typeIs (PyProof.Rows.slot_tuple_getitem.lookup) ?_ (by with_unfolding_all rfl)
  refine getItem_back pt (Heap.IsSliceOf.new _ .none .none vz) pz ?_ (by rw [List.size_toArray]; omega)
  refine ⟨.ref _, _, I5.laid (t' := s4.toks) (o := .tup xs.reverse) (fun b ob q => Heap.get?_push_of_some _ q) (Nat.le_refl _) ?_, rfl, q _ (I5.hok.fresh (Nat.le_refl _))⟩
  exact ⟨by rw [List.length_reverse]; exact hz, its.reverse, r.reverse, ⟨_, Heap.get?_push_size _ rfl, rfl, _, rfl⟩⟩
end
end FD
namespace FD
open PySem L2 Evl
theorem DpAll.bools {K : PySem.W.Frag} {H : Hp} : ∀ {vs : List V} {ns : List Bool}, DpAll K H vs (ns.map PyData.bool) → vs = ns.map V.bl
  | vs, [], h => by cases h; rfl
  | vs, n :: ns, h => by
    cases h with
    | cons h1 h2 =>
      cases h1
      rw [DpAll.bools h2]
      rfl
theorem inV_strs (z : Str) (zs : List Str) : inV (.str z) (zs.map V.str) = decide (z ∈ zs) := by
  unfold inV
  rw [List.any_map]
  rw [Bool.eq_iff_iff, List.any_eq_true, decide_eq_true_eq]
  constructor
  · rintro ⟨y, hy, e⟩
    have e : (y == z) = true := e
    rw [← eq_of_beq e]; exact hy
  · exact fun h => ⟨z, h, (beq_self_eq_true z : (z == z) = true)⟩
section
variable {C : Cfg} {M : List Addr} {δ : List Ent} {μ μ1 μ2 μ3 μ' : Mem} {ta tb te : TE} {a : Addr} {e : Ent} {tr : TA} {D : Ends} {t2 : TS} {i j : Nat} {z y : Str} {zs : List Str} {ds : List PyData} {d : PyData}
/-! ### texts -/
abbrev rAddStr : R2 := fun x y H Q => ∃ i j, x = .str i ∧ y = .str j ∧ i.length + j.length ≤ sizeLine ∧ Q (.str (i ++ j)) H
theorem o_addS (h : z.length + y.length ≤ 100000) : OpX C rAddStr M δ μ μ (.d (.str z)) (.d (.str y)) (.d (.str (z ++ y))) := fun σ H u v o h1 h2 Q k =>
  ⟨z, y, Dp.str_of h1, Dp.str_of h2, sz_of h, k _ H o (Ex.refl _) (.str _)⟩
theorem x_slS {tl th : TO} {lo hi : Option Int} (h : EvX C te M δ μ μ1 (.d (.str z))) (hl : EvO C tl M δ μ1 μ2 lo) (hh : EvO C th M δ μ2 μ3 hi) (hz : z.length ≤ 100000) : EvX C (tSl rSlS te tl th) M δ μ μ3 (.d (.str (cutS z lo hi))) := fun σ H o Q k =>
  h σ H o _ fun v H1 o1 x1 r1 => hl σ H1 o1 _ fun H2 o2 x2 => hh σ H2 o2 _ fun H3 o3 x3 => ⟨z, Dp.str_of r1, sz_of hz, k _ H3 o3 (x1.trans (x2.trans x3)) (.str _)⟩
theorem o_ixS {n : Int} {c : Nat} (hz : z.length ≤ 100000) (ha : atI z.cps.toList n = some c) : OpX C rIxS M δ μ μ (.d (.str z)) (.d (.int n)) (.d (.str ⟨#[c]⟩)) := fun σ H u v o h1 h2 Q k =>
  ⟨z, n, c, Dp.str_of h1, Dp.int_of h2, sz_of hz, ha, k _ H o (Ex.refl _) (.str _)⟩
abbrev rLenStr : List V → Hp → VK → Prop := fun xs H Q => ∃ z, xs = [.str z] ∧ z.length ≤ sizeLine ∧ Q (.int z.length) H
theorem c_lenS (hz : z.length ≤ 100000) : CallX C rLenStr M δ μ μ [.d (.str z)] (.d (.int z.length)) := fun σ H vs o h Q k => by
  obtain ⟨v, rfl, q⟩ := p1 h
  exact ⟨z, by rw [Dp.str_of q], sz_of hz, k _ H o (Ex.refl _) (.int _)⟩
/-! ### a text in a list or tuple of texts -/
theorem o_inL (r : Rdd μ e (.list (zs.map .str))) : OpX C (rIn C.K false) M δ μ μ (.d (.str z)) e (.d (.bool (decide (z ∈ zs)))) := fun σ H u v o h1 h2 Q k => by
  obtain ⟨p, ws, q1, q2, q3⟩ := r.lst o h2
  have e3 := DpAll.strs q3
  subst e3
  refine ⟨p, zs.map V.str, q1, .inl q2, by rw [Dp.str_of h1]; rfl, flat_strs zs, ?_⟩
  rw [Dp.str_of h1, if_neg Bool.false_ne_true, inV_strs]
  exact k _ H o (Ex.refl _) (.bl _)
theorem o_inT : OpX C (rIn C.K false) M δ μ μ (.d (.str z)) (.d (.tuple (zs.map .str))) (.d (.bool (decide (z ∈ zs)))) := fun σ H u v o h1 h2 Q k => by
  obtain ⟨p, ws, q1, q2, q3⟩ := Dp.tup_of h2
  have e3 := DpAll.strs q3
  subst e3
  refine ⟨p, zs.map V.str, q1, .inr (ex_t hide_le q2), by rw [Dp.str_of h1]; rfl, flat_strs zs, ?_⟩
  rw [Dp.str_of h1, if_neg Bool.false_ne_true, inV_strs]
  exact k _ H o (Ex.refl _) (.bl _)
theorem o_notInL (r : Rdd μ e (.list (zs.map .str))) : OpX C (rIn C.K true) M δ μ μ (.d (.str z)) e (.d (.bool (!decide (z ∈ zs)))) := fun σ H u v o h1 h2 Q k => by
  obtain ⟨p, ws, q1, q2, q3⟩ := r.lst o h2
  have e3 := DpAll.strs q3
  subst e3
  refine ⟨p, zs.map V.str, q1, .inl q2, by rw [Dp.str_of h1]; rfl, flat_strs zs, ?_⟩
  rw [Dp.str_of h1, if_pos rfl, inV_strs]
  exact k _ H o (Ex.refl _) (.bl _)
/-! ### all, any -/
theorem c_all {bs : List Bool} (r : Rdd μ e (.list (bs.map .bool))) : CallX C (rAll C.K) M δ μ μ [e] (.d (.bool (bs.all id))) := fun σ H vs o h Q k => by
  obtain ⟨v, rfl, q⟩ := p1 h
  obtain ⟨p, ws, q1, q2, q3⟩ := r.lst o q
  have e3 := DpAll.bools q3
  subst e3
  exact ⟨p, bs, by rw [q1], q2, k _ H o (Ex.refl _) (.bl _)⟩
theorem c_any {bs : List Bool} (r : Rdd μ e (.list (bs.map .bool))) : CallX C (rAny C.K) M δ μ μ [e] (.d (.bool (bs.any id))) := fun σ H vs o h Q k => by
  obtain ⟨v, rfl, q⟩ := p1 h
  obtain ⟨p, ws, q1, q2, q3⟩ := r.lst o q
  have e3 := DpAll.bools q3
  subst e3
  exact ⟨p, bs, by rw [q1], q2, k _ H o (Ex.refl _) (.bl _)⟩
/-! ### list(x), pops, repeats -/
abbrev rListOf (K : PySem.W.Frag) : List V → Hp → VK → Prop := fun xs H Q => ∃ p ys, xs = [.ref p] ∧ (SqL K H p ys ∨ SqT K H p ys) ∧ ∀ l, H l = none → Q (.ref l) (upd H l (.lst ys))
/-- x = list(t): a list of one's own -/
theorem q_listT (h : EvA C tr M δ μ μ1 [.d (.tuple ds)]) (k : ∀ p, p ∉ M → Run C t2 D (p :: M) (δ.set i (.m p)) ((p, .lst ds) :: μ1)) : Run C (tSeq (tAsg (tCB (rListOf C.K) tr) (gName i)) t2) D M δ μ := fun σ H o => h σ H o _ fun vs H1 o1 x1 r1 => by
  obtain ⟨v, rfl, q⟩ := p1 r1
  obtain ⟨p, ws, q1, q2, q3⟩ := Dp.tup_of q
  refine ⟨p, ws, by rw [q1], .inr (ex_t hide_le q2), fun l hp => ?_⟩
  have o2 := o1.new hp (mo := .lst ds) (ho := .lst ws) ⟨ws, upd_same, dpAll_mono (hide_new hp) _ _ q3⟩
  exact k l (o1.fresh hp) _ _ (o2.set i (e := .m l) rfl)
theorem dp_dropLast {K : PySem.W.Frag} {H : Hp} {vs : List V} {ds : List PyData} (h : DpAll K H vs ds) : DpAll K H vs.dropLast ds.dropLast := by
  rw [List.dropLast_eq_take, List.dropLast_eq_take, h.length]
  exact h.take _
/-- x.pop() -/
theorem r_pop (hx : EvX C ta M δ μ μ1 (.m a)) (hj : μ1[j]? = some (a, .lst ds)) (h0 : ds ≠ []) (k : Nx C D M δ (μ1.set j (a, .lst ds.dropLast))) : Run C (tDrop (tBM0 C.K "list" rPop ta)) D M δ μ := fun σ H o => hx σ H o _ fun v H1 o1 x1 r1 => by
  have e1 : v = .ref a := r1
  subst e1
  obtain ⟨_, _, vs, q1, q2⟩ := o1.mem _ (List.mem_of_getElem? hj)
  have hl : 0 < vs.length := by rw [q2.length]; exact List.length_pos_iff.mpr h0
  refine ⟨.inl ⟨rfl, _, SqL.of q1⟩, a, vs, vs[vs.length - 1], rfl, rfl, q1, by simp [show vs.length - 1 < vs.length by omega], ?_⟩
  exact k _ _ (o1.write hj ⟨_, upd_same, dp_dropLast q2⟩)
/-- x = [z] * n -/
theorem q_rep {n : Nat} {z : Int} (h : ∀ p, p ∉ M → EvX C tb (p :: M) δ ((p, .lst [.int z]) :: μ) ((p, .lst [.int z]) :: μ) (.d (.int (n : Int)))) (hn : n ≤ 100000)
    (k : ∀ p q, p ∉ M → q ∉ p :: M → Run C t2 D (q :: p :: M) (δ.set i (.m q)) ((q, .lst (List.replicate n (.int z))) :: (p, .lst [.int z]) :: μ)) : Run C (tSeq (tAsg (tOp rRep (tLst (tCons (tC (.int z)) tNil)) tb) (gName i)) t2) D M δ μ := fun σ H o => ⟨sz_of (by simp), fun p hp => by
  have pM := o.fresh hp
  have o2 : Ok C (p :: M) δ ((p, .lst [.int z]) :: μ) σ (upd H p (.lst [.int z])) := o.new hp (mo := .lst [.int z]) (ho := .lst [.int z]) ⟨_, upd_same, .cons (.int z) .nil⟩
  refine h p pM σ _ o2 _ fun v H1 o1 x1 r1 => ?_
  obtain ⟨_, _, vs, q1, q2⟩ := o1.mem _ List.mem_cons_self
  have e1 : vs = [.int z] := DpAll.ints (ns := [z]) q2
  subst e1
  refine ⟨p, n, _, rfl, Dp.int_of r1, q1, by omega, by omega, sz_of (by simp; omega), fun q hq => ?_⟩
  have e2 : (List.replicate ((n : Int)).toNat [V.int z]).flatten = List.replicate n (V.int z) := by
    rw [Int.toNat_natCast]
    clear q2 r1 h k
    induction n with
    | zero => rfl
    | succ n ih => rw [List.replicate_succ, List.flatten_cons, ih (by omega)]; rfl
  rw [e2]
  have dr : DpAll C.K (hide (q :: p :: M) (upd H1 q (.lst (List.replicate n (V.int z))))) (List.replicate n (V.int z)) (List.replicate n (PyData.int z)) := by
    clear e2 r1 h k
    induction n with
    | zero => exact .nil
    | succ n ih => rw [List.replicate_succ, List.replicate_succ]; exact .cons (.int z) (by have := ih (by omega); clear ih; exact (by
        have w : ∀ {A B : Hp} {vs : List V} {ns : List Int}, DpAll C.K A vs (ns.map PyData.int) → DpAll C.K B vs (ns.map PyData.int) := fun h => by rw [DpAll.ints h]; exact DpAll.of_ints _
        have e : List.replicate n (PyData.int z) = (List.replicate n z).map PyData.int := by rw [List.map_replicate]
        rw [e] at this ⊢
        exact w this))
  have o3 := o1.new hq (mo := .lst (List.replicate n (.int z))) (ho := .lst (List.replicate n (V.int z))) ⟨_, upd_same, dr⟩
  exact k p q pM (o1.fresh hq) _ _ (o3.set i (e := .m q) rfl)⟩
/-- x += e -/
theorem r_aug {m n : Int} {f : Int → Int → Int} (hx : δ[i]? = some (.d (.int m))) (h : EvX C te M δ μ μ1 (.d (.int n))) (k : Nx C D M (δ.set i (.d (.int (f m n)))) μ1) : Run C (tAug i te (ipI f)) D M δ μ := fun σ H o => by
  obtain ⟨v, e1, e2⟩ := o.slot i _ hx (fun z => nomatch z)
  refine ⟨v, e1, h σ H o _ fun y H1 o1 x1 r1 => ⟨m, n, Dp.int_of e2, Dp.int_of r1, ?_⟩⟩
  exact k _ H1 (o1.set i (e := .d (.int (f m n))) (.int _))
theorem dp_reverse {K : PySem.W.Frag} {A : Hp} : ∀ {vs : List V} (ds : List PyData), DpAll K A vs ds → DpAll K A vs.reverse ds.reverse
  | _, [], h => by cases h; exact .nil
  | _, d :: ds, h => by
    cases h with
    | cons r t => rw [List.reverse_cons, List.reverse_cons]; exact (dp_reverse ds t).append (.cons r .nil)
theorem x_revT (h : EvX C te M δ μ μ1 (.d (.tuple ds))) : EvX C (tRevT C.K te) M δ μ μ1 (.d (.tuple ds.reverse)) := fun σ H o Q k => h σ H o _ fun v H1 o1 x1 r1 => by
  obtain ⟨p, ws, q1, q2, q3⟩ := Dp.tup_of r1
  refine ⟨p, ws, q1, ex_t hide_le q2, fun q hq => ?_⟩
  obtain ⟨o', x', d'⟩ := o1.tup hq (dp_reverse _ q3)
  exact k _ _ o' (x1.trans x') d'
/-- range(m, n, -1) -/
def downD (lo : Int) (n : Nat) : List PyData := (List.range n).map fun (i : Nat) => PyData.int (lo - (i : Int))
theorem downD_length (lo : Int) (n : Nat) : (downD lo n).length = n := by simp [downD]
theorem downD_get {lo : Int} {n i : Nat} (h : i < n) : (downD lo n)[i]? = some (.int (lo - (i : Int))) := by simp [downD, h]
theorem i_down {m n : Int} (h : EvA C tr M δ μ μ' [.d (.int m), .d (.int n), .d (.int (-1))]) (h0 : -(2 ^ 62) ≤ m ∧ m < 2 ^ 62 ∧ -(2 ^ 62) ≤ n ∧ n < 2 ^ 62) : EvI C (iRng3 tr) M δ μ μ' (downD m (m - n).toNat) := fun σ H o R k => h σ H o _ fun vs H1 o1 x1 r => by
  cases r with
  | cons r1 r => cases r with
    | cons r2 r => cases r with
      | cons r3 r =>
        cases r
        refine ⟨m, n, -1, (m - n).toNat, by rw [Dp.int_of r1, Dp.int_of r2, Dp.int_of r3], RgC.neg h0.1 h0.2.1 h0.2.2.1 h0.2.2.2, k _ H1 o1 x1 ⟨fun M i H hi _ _ => by rw [downD_length] at hi; exact hi, fun M H _ _ => by rw [downD_length]; exact Nat.le_refl _, fun M i H x H' hi al ex y => ?_⟩⟩
        obtain ⟨rfl, rfl⟩ := y
        rw [downD_length] at hi
        refine ⟨Ex.refl _, _, downD_get hi, ?_⟩
        rw [show m + (i : Int) * (-1) = m - (i : Int) by omega]
        exact .int _
/-- a, b = a list of two -/
theorem tg_lst2 {K : PySem.W.Frag} {i j : Nat} {d1 d2 : PyData} : TgX K (gLst K 2 (gCons (gName i) (gCons (gName j) gNil))) [i, j] (.list [d1, d2]) δ ((δ.set i (.d d1)).set j (.d d2)) := fun C M μ σ H v hK o h Q k => by
  subst hK
  obtain ⟨a, vs, q1, q2, q3⟩ := Dp.lst_of h
  cases q3 with
  | cons h1 q3 =>
    cases q3 with
    | cons h2 q3 =>
      cases q3
      refine ⟨a, _, q1, ex_l hide_le q2, rfl, _, _, rfl, _, _, rfl, rfl, ?_⟩
      refine k _ ((o.set i (e := .d d1) h1).set j (e := .d d2) h2) (by rw [List.length_set, List.length_set]) fun m hm => ?_
      rw [List.getElem?_set_ne (fun z => hm (by simp [z])), List.getElem?_set_ne (fun z => hm (by simp [z]))]
end
end FD
/-! lists of any origin put together -/
namespace FD
open PySem PySem.Spec L2 PyProof.Rows HT
def rCatL (K : PySem.W.Frag) : R2 := fun x y H Q => ∃ l b xs zs, x = .ref l ∧ y = .ref b ∧ SqL K H l xs ∧ SqL K H b zs ∧ xs.length + zs.length ≤ sizeLine ∧ ∀ p, H p = none → Q (.ref p) (upd H p (.lst (xs ++ zs)))
section
variable {X : Cx}
theorem op_catL : OpR X (binaryOp .Add) (rCatL X.K) := by
  intro pins s σ H x y v u Q I rx ry h
  obtain ⟨l, b, xs, zs, rfl, rfl, hl, hb, hz, q⟩ := h
  cases rx
  cases ry
  obtain ⟨its, r1, ⟨o1, n1, e1, c1, d1, f1⟩, _⟩ := I.list hl
  obtain ⟨its2, r2, ⟨o2, n2, e2, c2, d2, f2⟩, _⟩ := I.list hb
  obtain ⟨cl, dd, da, sl⟩ := o1
  obtain ⟨cl2, dd2, da2, sl2⟩ := o2
  simp only at c1 d1 f1 c2 d2 f2
  subst c1 c2
  try subst d1
  try subst d2
  try subst f1
  try subst f2
  have hlen := r1.length
  have hlen2 := r2.length
  have ea : its.toArray ++ its2.toArray = (its ++ its2).toArray := by simp
  refine concat_meets ⟨_, e1, rfl⟩ ⟨_, e2, rfl⟩ noFill_list_add seq_list_add PySem.F.slot_list_add PySem.F.entry_list_add (PySem.F.args_list_add_2 _ _) (list_addW l b its.toArray its2.toArray _ _ _ _ _ _ (by rw [List.size_toArray, List.size_toArray]; omega)) ⟨e1, e2, ?_⟩
  rw [ea]
  exact ⟨.ref _, _, I.lnew (t' := s.toks) (r1.append r2) (by rw [List.length_append]; omega), rfl, q _ I.fresh⟩
end
end FD
namespace FD
open PySem L2 Evl
theorem o_catL {C : Cfg} {M : List Addr} {δ : List Ent} {μ : Mem} {ds es : List PyData} (hz : ds.length + es.length ≤ 100000) : OpX C (rCatL C.K) M δ μ μ (.d (.list ds)) (.d (.list es)) (.d (.list (ds ++ es))) := fun σ H u v o h1 h2 Q k => by
  obtain ⟨a, vs, q1, q2, q3⟩ := Dp.lst_of h1
  obtain ⟨b, ws, p1, p2, p3⟩ := Dp.lst_of h2
  refine ⟨a, b, vs, ws, q1, p1, ex_l hide_le q2, ex_l hide_le p2, sz_of (by rw [q3.length, p3.length]; exact hz), fun p hp => ?_⟩
  obtain ⟨o', x', d'⟩ := o.lst hp (q3.append p3)
  exact k _ _ o' x' d'
end FD
/-! promises over objects where the def chooses what comes back -/
namespace FD
open PySem L2 Evl
def spX (K : PySem.W.Frag) (n : Nat) (Pre : List Ent → Mem → Prop) (Post : List Ent → Mem → PyData → Mem → Prop) : Sp := fun vs H Q _ => vs.length = n ∧ ∃ M es μ, (∀ a ∈ M, H a ≠ none) ∧ Paired (EntOk K (hide M H)) es vs ∧ (∀ p ∈ μ, p.1 ∈ M ∧ MOok K (hide M H) H p.1 p.2) ∧ (ad μ).Nodup ∧ Pre es μ ∧
  ∀ v H' d μ', Post es μ d μ' → ad μ' = ad μ → Ex (hide (ad μ) H) H' → (∀ p ∈ μ', MOok K (hide M H') H' p.1 p.2) → Dp K (hide M H') v d → Q v H'
def spXN (K : PySem.W.Frag) (n : Nat) (Pre : List Ent → Mem → Prop) (Post : List Ent → Mem → MO → Mem → Prop) : Sp := fun vs H Q _ => vs.length = n ∧ ∃ M es μ, (∀ a ∈ M, H a ≠ none) ∧ Paired (EntOk K (hide M H)) es vs ∧ (∀ p ∈ μ, p.1 ∈ M ∧ MOok K (hide M H) H p.1 p.2) ∧ (ad μ).Nodup ∧ Pre es μ ∧
  ∀ p H' mo μ', Post es μ mo μ' → ad μ' = ad μ → H p = none → Ex (hide (ad μ) H) H' → MOok K (hide (p :: M) H') H' p mo → (∀ q ∈ μ', MOok K (hide (p :: M) H') H' q.1 q.2) → Q (.ref p) H'
section
variable {P : Program} {w : World} {K : PySem.W.Frag} {mg : Str → Option Value} {base : Heap}
theorem def_X {x qual : Str} {st : Stmt} {f : Addr} {fd : FuncData} {N ps : List Str} {k n : Nat} {Pre : List Ent → Mem → Prop} {Post : List Ent → Mem → PyData → Mem → Prop} (F : Fun K x qual st f fd) (S : FnScope N ps (defScope st)) (hN : ps.length ≤ N.length) (hp : ps.length = n)
    (h : ∀ (cdv : Value) (A : Around) (outer : List Env) (s : Shared) (H : Hp) (E : XK), Room k (A.deeper (PyProof.Rows.envOfC qual (defScope st) s.heap.objs.size f cdv)) →
      ∃ t, PSs (cxOf CX0 P w K mg base N qual (defScope st) f cdv A outer s H E).nox (defBody st) t ∧
        ∀ (M : List Addr) (G B : Hp) (es : List Ent) (μ : Mem), (ad μ).Nodup → Pre es μ → ∀ D : Ends, (∀ d μ', Post es μ d μ' → ad μ' = ad μ → FinE ⟨K, M, G, B⟩ D d μ') → Run ⟨K, M, G, B⟩ t D M (startE N.length es.length es) μ) :
    FnOk P w K mg base CX0 (k + 1) f fd ps (spX K n Pre Post) := by
  refine F.ok S (fun vs H Q E hs => hs.1.trans hp.symm) fun cdv A outer s H vs Q E hr hs => ?_
  obtain ⟨hn, M, es, μ, al, he, hm, nd, hP, kk⟩ := hs
  obtain ⟨t, ht, run⟩ := h cdv A outer s H E hr
  refine ⟨t, ht, run M (hide (ad μ) H) (hide M H) es μ nd hP _ (fun d μ' hq had v M' H' e s m r => kk v H' d μ' hq had e (fun p hp => (m p hp).mono (hide_sub s) fun _ q => q) (dp_mono (hide_sub s) _ _ r)) _ _ (ok_startE al he hm nd (by rw [hn, ← hp]; exact hN))⟩
theorem def_XN {x qual : Str} {st : Stmt} {f : Addr} {fd : FuncData} {N ps : List Str} {k n : Nat} {Pre : List Ent → Mem → Prop} {Post : List Ent → Mem → MO → Mem → Prop} (F : Fun K x qual st f fd) (S : FnScope N ps (defScope st)) (hN : ps.length ≤ N.length) (hp : ps.length = n)
    (h : ∀ (cdv : Value) (A : Around) (outer : List Env) (s : Shared) (H : Hp) (E : XK), Room k (A.deeper (PyProof.Rows.envOfC qual (defScope st) s.heap.objs.size f cdv)) →
      ∃ t, PSs (cxOf CX0 P w K mg base N qual (defScope st) f cdv A outer s H E).nox (defBody st) t ∧
        ∀ (M : List Addr) (G B : Hp) (es : List Ent) (μ : Mem), (ad μ).Nodup → Pre es μ → ∀ D : Ends, (∀ mo μ', Post es μ mo μ' → ad μ' = ad μ → FinEN ⟨K, M, G, B⟩ D mo μ') → Run ⟨K, M, G, B⟩ t D M (startE N.length es.length es) μ) :
    FnOk P w K mg base CX0 (k + 1) f fd ps (spXN K n Pre Post) := by
  refine F.ok S (fun vs H Q E hs => hs.1.trans hp.symm) fun cdv A outer s H vs Q E hr hs => ?_
  obtain ⟨hn, M, es, μ, al, he, hm, nd, hP, kk⟩ := hs
  obtain ⟨t, ht, run⟩ := h cdv A outer s H E hr
  refine ⟨t, ht, run M (hide (ad μ) H) (hide M H) es μ nd hP _ (fun mo μ' hq had p M' H' g pM e s pm m mm => ?_) _ _ (ok_startE al he hm nd (by rw [hn, ← hp]; exact hN))⟩
  have sub : ∀ a ∈ p :: M, a ∈ M' := fun a ha => (List.mem_cons.mp ha).elim (fun z => by rw [z]; exact pm) (s a)
  have hp0 : H p = none := by
    have : hide (ad μ) H p = none := g
    rw [hide_out (fun z => ?_)] at this
    · exact this
    · obtain ⟨q, hq, e⟩ := List.mem_map.mp z
      exact pM (by have := (hm q hq).1; rw [e] at this; exact this)
  exact kk p H' mo μ' hq had hp0 e (m.mono (hide_sub sub) fun _ q => q) (fun q hq => (mm q hq).mono (hide_sub sub) fun _ q => q)
end
section
variable {C : Cfg} {M : List Addr} {δ : List Ent} {μ μ0 μ1 : Mem} {tr : TA} {D : Ends} {t1 t2 : TS} {i j n : Nat} {es : List Ent} {E : XK} {b : Addr} {mo mo' : MO} {u : TT} {g : TG}
theorem swap_set (hj : μ1[j]? = some (b, mo)) (nd : (ad μ1).Nodup) : Swap [(b, mo)] [(b, mo')] μ1 (μ1.set j (b, mo')) where
  sub := fun p hp => by rw [List.mem_singleton.mp hp]; exact List.mem_of_getElem? hj
  ad0 := rfl
  ad1 := map_set_fst hj
  new := fun p hp => by
    obtain ⟨k, hk⟩ := List.getElem?_of_mem hp
    by_cases q : j = k
    · subst q
      rw [List.getElem?_set_self (List.getElem?_eq_some_iff.mp hj).1] at hk
      exact .inl (by rw [← Option.some.inj hk]; simp)
    · rw [List.getElem?_set_ne q] at hk
      refine .inr ⟨List.mem_of_getElem? hk, fun z => ?_⟩
      have z : p.1 = b := by simpa using z
      obtain ⟨x, y⟩ := p
      have z : x = b := z
      subst z
      exact q (nodup_fst nd hj hk)
theorem r_asgXG {Pre : List Ent → Mem → Prop} {Post : List Ent → Mem → PyData → Mem → Prop} (h : EvA C tr M δ μ μ1 es) (hsub : ∀ p ∈ μ0, p ∈ μ1) (nd : (ad μ1).Nodup → (ad μ0).Nodup) (hP : Pre es μ0)
    (k : (ad μ1).Nodup → ∀ d μ0', Post es μ0 d μ0' → ad μ0' = ad μ0 → ∃ μ2 tl δ2, Swap μ0 μ0' μ1 μ2 ∧ TgX C.K g tl d δ δ2 ∧ Nx C D M δ2 μ2) (hn : es.length = n := by rfl) :
    Run C (tAsg (tCall (spX C.K n Pre Post) [] E tr) g) D M δ μ := fun σ H o => h σ H o _ fun vs H1 o1 x1 r1 => by
  rw [List.append_nil]
  refine ⟨by rw [← paired_len r1]; exact hn, M, es, μ0, o1.alloc, r1, fun p hp => let q := o1.mem p (hsub p hp); ⟨q.1, q.2.2⟩, nd o1.nd, hP, fun v H2 d μ0' hq had e2 m2 d2 => ?_⟩
  obtain ⟨μ2, tl, δ2, sw, tg, run⟩ := k o1.nd d μ0' hq had
  obtain ⟨o2, x2⟩ := after_E o1 sw e2 m2
  exact tg C M μ2 σ H2 v rfl o2 d2 _ fun σ' o3 _ _ => run σ' H2 o3
theorem q_asgXG {Pre : List Ent → Mem → Prop} {Post : List Ent → Mem → PyData → Mem → Prop} (h : EvA C tr M δ μ μ1 es) (hsub : ∀ p ∈ μ0, p ∈ μ1) (nd : (ad μ1).Nodup → (ad μ0).Nodup) (hP : Pre es μ0)
    (k : (ad μ1).Nodup → ∀ d μ0', Post es μ0 d μ0' → ad μ0' = ad μ0 → ∃ μ2 tl δ2, Swap μ0 μ0' μ1 μ2 ∧ TgX C.K g tl d δ δ2 ∧ Run C t2 D M δ2 μ2) (hn : es.length = n := by rfl) :
    Run C (tSeq (tAsg (tCall (spX C.K n Pre Post) [] E tr) g) t2) D M δ μ := r_asgXG (D := { D with nx := t2 D }) h hsub nd hP k hn
theorem q_asgXN {Pre : List Ent → Mem → Prop} {Post : List Ent → Mem → MO → Mem → Prop} (h : EvA C tr M δ μ μ1 es) (hsub : ∀ p ∈ μ0, p ∈ μ1) (nd : (ad μ1).Nodup → (ad μ0).Nodup) (hP : Pre es μ0)
    (k : (ad μ1).Nodup → ∀ mo μ0', Post es μ0 mo μ0' → ad μ0' = ad μ0 → ∃ μ2, Swap μ0 μ0' μ1 μ2 ∧ ∀ p, p ∉ M → Run C t2 D (p :: M) (δ.set i (.m p)) ((p, mo) :: μ2)) (hn : es.length = n := by rfl) :
    Run C (tSeq (tAsg (tCall (spXN C.K n Pre Post) [] E tr) (gName i)) t2) D M δ μ := fun σ H o => h σ H o _ fun vs H1 o1 x1 r1 => by
  rw [List.append_nil]
  refine ⟨by rw [← paired_len r1]; exact hn, M, es, μ0, o1.alloc, r1, fun p hp => let q := o1.mem p (hsub p hp); ⟨q.1, q.2.2⟩, nd o1.nd, hP, fun p H2 mo μ0' hq had hp e2 m1 m2 => ?_⟩
  obtain ⟨μ2, sw, run⟩ := k o1.nd mo μ0' hq had
  obtain ⟨pM, o2⟩ := ok_newE (G := []) o1 sw hp e2 m1 m2
  exact run p pM _ _ (o2.set i (e := .m p) rfl)
/-- if not f(..) or u: .. -/
theorem r_ifX {Pre : List Ent → Mem → Prop} {Post : List Ent → Mem → PyData → Mem → Prop} (h : EvA C tr M δ μ μ1 es) (hsub : ∀ p ∈ μ0, p ∈ μ1) (nd : (ad μ1).Nodup → (ad μ0).Nodup) (hP : Pre es μ0)
    (k : (ad μ1).Nodup → ∀ d μ0', Post es μ0 d μ0' → ad μ0' = ad μ0 → d = .bool true ∧ ∃ μ2, Swap μ0 μ0' μ1 μ2 ∧ EvT C u M δ μ2 μ2 false ∧ Run C t2 D M δ μ2) (hn : es.length = n := by rfl) :
    Run C (tIfS (tOr (tNot (tB (tCall (spX C.K n Pre Post) [] E tr))) u) t1 t2) D M δ μ := fun σ H o => h σ H o _ fun vs H1 o1 x1 r1 => by
  rw [List.append_nil]
  refine ⟨by rw [← paired_len r1]; exact hn, M, es, μ0, o1.alloc, r1, fun p hp => let q := o1.mem p (hsub p hp); ⟨q.1, q.2.2⟩, nd o1.nd, hP, fun v H2 d μ0' hq had e2 m2 d2 => ?_⟩
  obtain ⟨rfl, μ2, sw, ht, run⟩ := k o1.nd d μ0' hq had
  obtain ⟨o2, x2⟩ := after_E o1 sw e2 m2
  refine ⟨true, Dp.bool_of d2, ?_⟩
  show (if (!true) = true then _ else _)
  rw [if_neg (by decide)]
  refine ht σ H2 o2 _ fun H3 o3 x3 => ?_
  show (if false = true then _ else _)
  rw [if_neg (by decide)]
  exact run σ H3 o3
end
end FD
/-! more of promises over objects: keywords, a new dict compared at once -/
namespace FD
open PySem L2 Evl
section
variable {C : Cfg} {M : List Addr} {δ : List Ent} {μ μ1 : Mem} {tr : TA} {ta tb : TE} {D : Ends} {t1 t2 : TS} {i m n : Nat} {es es' : List Ent} {E : XK} {a b : Addr} {mo mo' : MO} {d : PyData} {gV : List V → List V → List V}
theorem q_asgEN1 {R : List Ent → Mem → MO → Mem → Prop} (h : EvA C tr M δ μ μ1 es) (hj : (a, mo) ∈ μ1) (hR : R es [(a, mo)] mo' [(a, mo)]) (k : ∀ p, p ∉ M → Run C t2 D (p :: M) (δ.set i (.m p)) ((p, mo') :: μ1)) (hn : es.length = n := by rfl) :
    Run C (tSeq (tAsg (tCall (spEN C.K n R) [] E tr) (gName i)) t2) D M δ μ := fun σ H o => h σ H o _ fun vs H1 o1 x1 r1 => by
  rw [List.append_nil]
  refine ⟨by rw [← paired_len r1]; exact hn, M, es, [(a, mo)], mo', [(a, mo)], o1.alloc, r1, fun p hp => by rw [List.mem_singleton.mp hp]; let q := o1.mem _ hj; exact ⟨q.1, q.2.2⟩, by simp, rfl, hR, fun p H2 hp e2 m1 m2 => ?_⟩
  obtain ⟨pM, o2⟩ := ok_newE (G := []) o1 (swap_same hj o1.nd) hp e2 m1 m2
  exact k p pM _ _ (o2.set i (e := .m p) rfl)
theorem x_callEK {R : List Ent → Mem → PyData → Mem → Prop} (h : EvA C tr M δ μ μ1 es) (hg : ∀ (H : Hp) (zs : List V), Paired (EntOk C.K H) es zs → Paired (EntOk C.K H) es' (gV [] zs)) (hj : (a, mo) ∈ μ1) (hR : R es' [(a, mo)] d [(a, mo)]) (hm : es.length = m := by rfl) (hn : es'.length = n := by rfl) :
    EvX C (tCallN 0 m (spE C.K n R) gV E tNil tr) M δ μ μ1 (.d d) := fun σ H o Q k => h σ H o _ fun vs H1 o1 x1 r1 => by
  have d1 := hg _ _ r1
  refine ⟨rfl, by rw [← paired_len r1]; exact hm, by rw [← paired_len d1]; exact hn, M, es', [(a, mo)], d, [(a, mo)], o1.alloc, d1, fun p hp => by rw [List.mem_singleton.mp hp]; let q := o1.mem _ hj; exact ⟨q.1, q.2.2⟩, by simp, rfl, hR, fun v H2 e2 m2 d2 => ?_⟩
  obtain ⟨o2, x2⟩ := after_E o1 (swap_same hj o1.nd) e2 m2
  exact k v H2 o2 (x1.trans x2) d2
theorem o_neDK {l : Dct} (ha : (a, .dK (kd l)) ∈ μ) (hb : (b, .dK (kd l)) ∈ μ) (nd : (l.map (·.1)).Nodup) (sh : ∀ p ∈ l, SeqAt.shaped p.2 = true) : OpX C (rNeDK C.K) M δ μ μ (.m a) (.m b) (.d (.bool false)) := fun σ H x y o h1 h2 Q k => by
  obtain ⟨_, _, ks, e1, c1⟩ := o.mem _ ha
  obtain ⟨_, _, ls, e2, c2⟩ := o.mem _ hb
  exact ⟨a, b, ks, ls, l, h1, h2, e1, e2, Paired.mapP c1 fun p q z => ⟨z.1, dp_mono hide_le _ _ z.2⟩, Paired.mapP c2 fun p q z => ⟨z.1, dp_mono hide_le _ _ z.2⟩, nd, sh, k _ H o (Ex.refl _) (.bl _)⟩
/-- if f(k = x) != y: .., dicts both -/
theorem r_ifEN {R : List Ent → Mem → MO → Mem → Prop} {l : Dct} (h : EvA C tr M δ μ μ1 es) (hg : ∀ (H : Hp) (zs : List V), Paired (EntOk C.K H) es zs → Paired (EntOk C.K H) es' (gV [] zs)) (hj : (a, mo) ∈ μ1) (hR : R es' [(a, mo)] (.dK (kd l)) [(a, mo)])
    (hb : ∀ p, p ∉ M → EvX C tb (p :: M) δ ((p, .dK (kd l)) :: μ1) ((p, .dK (kd l)) :: μ1) (.m b)) (hm : (b, .dK (kd l)) ∈ μ1) (nd : (l.map (·.1)).Nodup) (sh : ∀ p ∈ l, SeqAt.shaped p.2 = true) (k : ∀ p, p ∉ M → Run C t2 D (p :: M) δ ((p, .dK (kd l)) :: μ1)) (hm' : es.length = m := by rfl) (hn : es'.length = n := by rfl) :
    Run C (tIfS (tTest (tOp (rNeDK C.K) (tCallN 0 m (spEN C.K n R) gV E tNil tr) tb)) t1 t2) D M δ μ := fun σ H o => h σ H o _ fun vs H1 o1 x1 r1 => by
  have d1 := hg _ _ r1
  refine ⟨rfl, by rw [← paired_len r1]; exact hm', by rw [← paired_len d1]; exact hn, M, es', [(a, mo)], .dK (kd l), [(a, mo)], o1.alloc, d1, fun p hp => by rw [List.mem_singleton.mp hp]; let q := o1.mem _ hj; exact ⟨q.1, q.2.2⟩, by simp, rfl, hR, fun p H2 hp e2 m1 m2 => ?_⟩
  obtain ⟨pM, o2⟩ := ok_newE (G := []) o1 (swap_same hj o1.nd) hp e2 m1 m2
  refine hb p pM σ H2 o2 _ fun y H3 o3 x3 r3 => ?_
  refine o_neDK (a := p) (b := b) List.mem_cons_self (List.mem_cons_of_mem _ hm) nd sh σ H3 (.ref p) y o3 rfl r3 _ fun v H4 o4 x4 r4 => ?_
  refine ⟨false, Dp.bool_of r4, ?_⟩
  dsimp only
  rw [if_neg Bool.false_ne_true]
  exact k p pM σ H4 o4
theorem q_ifEN {R : List Ent → Mem → MO → Mem → Prop} {l : Dct} {t3 : TS} (h : EvA C tr M δ μ μ1 es) (hg : ∀ (H : Hp) (zs : List V), Paired (EntOk C.K H) es zs → Paired (EntOk C.K H) es' (gV [] zs)) (hj : (a, mo) ∈ μ1) (hR : R es' [(a, mo)] (.dK (kd l)) [(a, mo)])
    (hb : ∀ p, p ∉ M → EvX C tb (p :: M) δ ((p, .dK (kd l)) :: μ1) ((p, .dK (kd l)) :: μ1) (.m b)) (hm : (b, .dK (kd l)) ∈ μ1) (nd : (l.map (·.1)).Nodup) (sh : ∀ p ∈ l, SeqAt.shaped p.2 = true) (k : ∀ p, p ∉ M → Run C t3 D (p :: M) δ ((p, .dK (kd l)) :: μ1)) (hm' : es.length = m := by rfl) (hn : es'.length = n := by rfl) :
    Run C (tSeq (tIfS (tTest (tOp (rNeDK C.K) (tCallN 0 m (spEN C.K n R) gV E tNil tr) tb)) t1 tNext) t3) D M δ μ := r_ifEN (D := { D with nx := t3 D }) (t2 := tNext) h hg hj hR hb hm nd sh k hm' hn
end
end FD
namespace K83
/-! ### rows within rows -/
section
variable {α : Type} [DecidableEq α]
def eatStep (r : List α) (b : α) : List α := match r with
  | [] => []
  | a :: u => if a = b then u else a :: u
def eat (u v : List α) : List α := v.foldl eatStep u
theorem eat_nil (v : List α) : eat [] v = [] := by
  unfold eat
  induction v with
  | nil => rfl
  | cons b v ih => exact ih
theorem eat_snoc (u v : List α) (b : α) : eat u (v ++ [b]) = eatStep (eat u v) b := by
  unfold eat
  rw [List.foldl_append]; rfl
theorem eat_append (u v w : List α) : eat u (v ++ w) = eat (eat u v) w := by
  unfold eat
  rw [List.foldl_append]
theorem eat_sub : ∀ (v u : List α), eat u v = [] ↔ u.Sublist v
  | [], u => by
    show u = [] ↔ _
    exact List.sublist_nil.symm
  | b :: v, u => by
    show eat (eatStep u b) v = [] ↔ _
    rw [eat_sub v]
    cases u with
    | nil => exact ⟨fun _ => List.nil_sublist _, fun _ => List.nil_sublist _⟩
    | cons a u =>
      unfold eatStep
      by_cases h : a = b
      · rw [h]
        simp
      · simp only [h, if_false]
        exact ⟨fun q => q.cons b, fun q => by
          cases q with
          | cons _ q => exact q
          | cons_cons _ q => exact absurd rfl h⟩
theorem eatStep_suffix (r : List α) (b : α) : eatStep r b = r ∨ ∃ a, r = a :: eatStep r b := by
  cases r with
  | nil => exact .inl rfl
  | cons a u =>
    unfold eatStep
    by_cases h : a = b
    · simp [h]
    · simp [h]
theorem eat_drop (u : List α) : ∀ v : List α, ∃ n, eat u v = u.drop n ∧ n ≤ u.length := by
  intro v
  generalize hn : v.length = n
  induction n generalizing v with
  | zero => rw [List.eq_nil_of_length_eq_zero hn]; exact ⟨0, rfl, Nat.zero_le _⟩
  | succ n ih =>
    obtain ⟨w, b, rfl⟩ : ∃ w b, v = w ++ [b] := ⟨v.dropLast, v.getLast (by intro z; rw [z] at hn; cases hn), (List.dropLast_concat_getLast _).symm⟩
    obtain ⟨k, e, hk⟩ := ih w (by simp at hn; exact hn)
    rw [eat_snoc]
    rcases eatStep_suffix (eat u w) b with q | ⟨a, q⟩
    · exact ⟨k, by rw [q, e], hk⟩
    · have hlt : k < u.length := by
        have := congrArg List.length e
        rw [q, List.length_drop] at this
        simp at this; omega
      refine ⟨k + 1, ?_, by omega⟩
      rw [e] at q
      have := congrArg List.tail q
      rw [List.tail_cons] at this
      rw [e, ← this, ← List.drop_drop]
      simp
end
/-! ### makings -/
abbrev Row (α : Type) := List α
section
variable {α : Type} [DecidableEq α]
/-- a making: its deeds in turn, each with its row -/
abbrev Mk (α : Type) := List (α × List α)
def rowOf (m : Mk α) (k : α) : List α := ((m.find? fun p => decide (p.1 = k)).map (·.2)).getD []
def made (m : Mk α) (r : List α) : List α := r.flatMap (rowOf m)
theorem rowOf_at {m : Mk α} (hn : (m.map (·.1)).Nodup) {p : α × List α} (h : p ∈ m) : rowOf m p.1 = p.2 := by
  unfold rowOf
  induction m with
  | nil => cases h
  | cons q r ih =>
    rw [List.map_cons, List.nodup_cons] at hn
    rw [List.find?_cons]
    rcases List.mem_cons.mp h with e | h
    · subst e
      rw [decide_eq_true rfl]; rfl
    · rw [decide_eq_false (fun e => hn.1 (by rw [e]; exact List.mem_map.mpr ⟨p, h, rfl⟩))]
      exact ih hn.2 h
theorem flatMap_sub {β : Type} (f : α → List β) : ∀ {u v : List α}, u.Sublist v → (u.flatMap f).Sublist (v.flatMap f) := by
  intro u v h
  induction h with
  | slnil => exact List.Sublist.refl _
  | cons a _ ih => rw [List.flatMap_cons]; exact ih.trans (List.sublist_append_right _ _)
  | cons_cons a _ ih => rw [List.flatMap_cons, List.flatMap_cons]; exact (List.Sublist.refl _).append ih
/-- the others' names -/
def othersOf (m : Mk α) (k : α) : List α := (m.filter fun p => decide (p.1 ≠ k)).flatMap (·.2)
theorem filter_flatMap {β γ : Type} (p : γ → Bool) (f : β → List γ) : ∀ l : List β, (l.flatMap f).filter p = l.flatMap fun x => (f x).filter p
  | [] => rfl
  | x :: l => by rw [List.flatMap_cons, List.filter_append, filter_flatMap p f l, List.flatMap_cons]
theorem rep_sub {c : α} : ∀ {n : Nat} {A B : List α}, (List.replicate n c ++ A).Sublist (List.replicate n c ++ B) → A.Sublist B
  | _, _, _, h => (List.append_sublist_append_left _).mp h
/-- each deed of one told by runs of its own letter -/
theorem runs_sub {f : α → List α} {c : α → α} {n : α → Nat} (hf : ∀ k, f k = List.replicate (n k + 1) (c k)) : ∀ {v u : List α}, (∀ k ∈ u, ∀ j ∈ v, c k = c j → k = j) → (u.flatMap f).Sublist (v.flatMap f) → u.Sublist v
  | [], [], _, _ => List.Sublist.refl _
  | [], k :: u, _, h => by
    rw [List.flatMap_cons, hf] at h
    have := List.sublist_nil.mp h
    simp at this
  | j :: v, [], _, _ => List.nil_sublist _
  | j :: v, k :: u, hc, h => by
    rw [List.flatMap_cons, List.flatMap_cons] at h
    by_cases e : k = j
    · subst e
      rw [hf] at h
      exact (runs_sub hf (fun x hx y hy => hc x (List.mem_cons_of_mem _ hx) y (List.mem_cons_of_mem _ hy)) (rep_sub h)).cons_cons k
    · have ne : c k ≠ c j := fun q => e (hc k List.mem_cons_self j List.mem_cons_self q)
      refine (runs_sub (v := v) (u := k :: u) hf (fun x hx y hy => hc x hx y (List.mem_cons_of_mem _ hy)) ?_).cons j
      rw [List.flatMap_cons]
      have key : ∀ (m : Nat) (x y : α), x ≠ y → ∀ (A B : List α), (x :: A).Sublist (List.replicate m y ++ B) → (x :: A).Sublist B := by
        intro m x y hxy
        induction m with
        | zero => intro A B q; exact q
        | succ m ih =>
          intro A B q
          rw [List.replicate_succ, List.cons_append] at q
          cases q with
          | cons _ q => exact ih _ _ q
          | cons_cons _ q => exact absurd rfl hxy
      rw [hf k, List.replicate_succ, List.cons_append] at h ⊢
      rw [hf j] at h
      exact key _ _ _ ne _ _ h
theorem filter_rep {p : α → Bool} {c : α} : ∀ {l : List α}, c ∈ l → (∀ x ∈ l, p x = true ↔ x = c) → ∃ n, l.filter p = List.replicate (n + 1) c := by
  intro l hc h
  have e : l.filter p = List.replicate (l.filter p).length c := by
    refine List.eq_replicate_iff.mpr ⟨rfl, fun x hx => ?_⟩
    obtain ⟨h1, h2⟩ := List.mem_filter.mp hx
    exact (h x h1).mp h2
  have hp : 0 < (l.filter p).length := List.length_pos_iff.mpr fun z => by
    have : c ∈ l.filter p := List.mem_filter.mpr ⟨hc, (h c hc).mpr rfl⟩
    rw [z] at this; cases this
  exact ⟨(l.filter p).length - 1, by rw [show (l.filter p).length - 1 + 1 = (l.filter p).length by omega]; exact e⟩
/-- where each deed has a name of its own, rows lie within rows as their made rows do -/
theorem exact_sub {m : Mk α} (ho : ∀ k ∈ m.map (·.1), ∃ c, c ∈ rowOf m k ∧ ∀ j ∈ m.map (·.1), j ≠ k → c ∉ rowOf m j) {u v : List α} (hu : ∀ k ∈ u, k ∈ m.map (·.1)) (hv : ∀ k ∈ v, k ∈ m.map (·.1)) (h : (made m u).Sublist (made m v)) : u.Sublist v := by
  have hch : ∃ c : α → α, ∀ k ∈ m.map (·.1), c k ∈ rowOf m k ∧ ∀ j ∈ m.map (·.1), j ≠ k → c k ∉ rowOf m j := by
    refine ⟨fun k => if hk : k ∈ m.map (·.1) then Classical.choose (ho k hk) else k, fun k hk => ?_⟩
    simp only [hk, dite_true]
    exact Classical.choose_spec (ho k hk)
  obtain ⟨c, hc⟩ := hch
  have inj : ∀ k ∈ m.map (·.1), ∀ j ∈ m.map (·.1), c k = c j → k = j := fun k hk j hj e => by
    by_cases q : k = j
    · exact q
    · exact absurd (e ▸ (hc k hk).1) ((hc j hj).2 k hk q)
  let p : α → Bool := fun x => (m.map (·.1)).any fun k => decide (c k = x)
  have hp : ∀ k ∈ m.map (·.1), ∀ x ∈ rowOf m k, p x = true ↔ x = c k := fun k hk x hx => by
    show (m.map (·.1)).any (fun k => decide (c k = x)) = true ↔ _
    rw [List.any_eq_true]
    constructor
    · rintro ⟨j, hj, e⟩
      have e := of_decide_eq_true e
      by_cases q : j = k
      · rw [← e, q]
      · exact absurd (by rw [e]; exact hx) ((hc j hj).2 k hk (fun z => q z.symm))
    · intro e
      exact ⟨k, hk, decide_eq_true e.symm⟩
  have h2 := h.filter p
  unfold made at h2
  rw [filter_flatMap, filter_flatMap] at h2
  have hn : ∃ n : α → Nat, ∀ k ∈ m.map (·.1), (rowOf m k).filter p = List.replicate (n k + 1) (c k) := by
    have q : ∀ k ∈ m.map (·.1), ∃ n, (rowOf m k).filter p = List.replicate (n + 1) (c k) := fun k hk => filter_rep (hc k hk).1 (hp k hk)
    refine ⟨fun k => if hk : k ∈ m.map (·.1) then Classical.choose (q k hk) else 0, fun k hk => ?_⟩
    simp only [hk, dite_true]
    exact Classical.choose_spec (q k hk)
  obtain ⟨n, hn⟩ := hn
  have e : ∀ w : List α, (∀ k ∈ w, k ∈ m.map (·.1)) → (w.flatMap fun k => (rowOf m k).filter p) = w.flatMap fun k => List.replicate (n k + 1) (c k) := by
    intro w hw
    induction w with
    | nil => rfl
    | cons k w ih => rw [List.flatMap_cons, List.flatMap_cons, hn k (hw k List.mem_cons_self), ih fun j hj => hw j (List.mem_cons_of_mem _ hj)]
  rw [e u hu, e v hv] at h2
  exact runs_sub (f := fun k => List.replicate (n k + 1) (c k)) (c := c) (n := n) (fun _ => rfl) (fun k hk j hj => inj k (hu k hk) j (hv j hj)) h2
end
end K83
namespace K83
section
variable {α : Type} [DecidableEq α]
/-! ### fits from a place on -/
def fitStep (row : List α) (p : Nat) (x : α) : Nat := if row[p]? = some x then p + 1 else p
def fit (row : List α) (p : Nat) (s : List α) : Nat := s.foldl (fitStep row) p
theorem fit_cons (row : List α) (p : Nat) (x : α) (s : List α) : fit row p (x :: s) = fit row (fitStep row p x) s := rfl
theorem fit_snoc (row : List α) (p : Nat) (s : List α) (x : α) : fit row p (s ++ [x]) = fitStep row (fit row p s) x := by unfold fit; rw [List.foldl_append]; rfl
theorem fit_append (row : List α) (p : Nat) (s t : List α) : fit row p (s ++ t) = fit row (fit row p s) t := by unfold fit; rw [List.foldl_append]
theorem fitStep_le (row : List α) (p : Nat) (x : α) : p ≤ fitStep row p x ∧ (p ≤ row.length → fitStep row p x ≤ row.length) := by
  unfold fitStep
  split
  · rename_i h
    have := (List.getElem?_eq_some_iff.mp h).1
    omega
  · omega
theorem fit_le (row : List α) : ∀ (s : List α) (p : Nat), p ≤ fit row p s ∧ (p ≤ row.length → fit row p s ≤ row.length)
  | [], p => ⟨Nat.le_refl _, fun h => h⟩
  | x :: s, p => by
    have h1 := fitStep_le row p x
    have h2 := fit_le row s (fitStep row p x)
    rw [fit_cons]
    exact ⟨Nat.le_trans h1.1 h2.1, fun h => h2.2 (h1.2 h)⟩
theorem fit_lt (row : List α) : ∀ (s : List α) (p : Nat) (a : α), row[p]? = some a → a ∈ s → p < fit row p s
  | x :: s, p, a, h, hs => by
    rw [fit_cons]
    by_cases e : row[p]? = some x
    · have : fitStep row p x = p + 1 := if_pos e
      rw [this]
      exact (fit_le row s (p + 1)).1
    · have : fitStep row p x = p := if_neg e
      rw [this]
      rcases List.mem_cons.mp hs with q | q
      · exact absurd (q ▸ h) e
      · exact fit_lt row s p a h q
theorem eat_fit (row : List α) : ∀ (s : List α) (p : Nat), eat (row.drop p) s = row.drop (fit row p s)
  | [], p => rfl
  | x :: s, p => by
    show eat (eatStep (row.drop p) x) s = _
    rw [fit_cons, ← eat_fit row s (fitStep row p x)]
    congr 1
    unfold fitStep
    cases h : row[p]? with
    | none =>
      have hl : row.length ≤ p := List.getElem?_eq_none_iff.mp h
      rw [List.drop_eq_nil_of_le hl]
      simp [eatStep, List.drop_eq_nil_of_le hl]
    | some a =>
      have hl := (List.getElem?_eq_some_iff.mp h).1
      have e : row.drop p = a :: row.drop (p + 1) := by
        rw [List.drop_eq_getElem_cons hl]
        rw [List.getElem?_eq_getElem hl] at h
        rw [Option.some.inj h]
      rw [e]
      unfold eatStep
      by_cases q : a = x
      · subst q; simp
      · show (if a = x then row.drop (p + 1) else a :: row.drop (p + 1)) = _
        rw [if_neg q, if_neg (fun z => q (Option.some.inj z)), e]
def fitAll (m : Mk α) (row : List α) (p : Nat) (ks : List α) : Nat := ks.foldl (fun p k => fit row p (rowOf m k)) p
theorem fit_made (m : Mk α) (row : List α) : ∀ (ks : List α) (p : Nat), fit row p (made m ks) = fitAll m row p ks
  | [], p => rfl
  | k :: ks, p => by
    show fit row p (made m (k :: ks)) = fitAll m row (fit row p (rowOf m k)) ks
    rw [← fit_made m row ks]
    unfold made
    rw [List.flatMap_cons, fit_append]
/-- the row lies in the made row as all of it is fitted -/
theorem sub_made (m : Mk α) (row ks : List α) : row.Sublist (made m ks) ↔ fitAll m row 0 ks = row.length := by
  rw [← eat_sub, ← fit_made]
  have h := eat_fit row (made m ks) 0
  rw [List.drop_zero] at h
  rw [h, List.drop_eq_nil_iff]
  have := (fit_le row (made m ks) 0).2 (Nat.zero_le _)
  omega
/-! ### all choices of so many names, in turn -/
def lev (names : List α) : Nat → List (List α)
  | 0 => [[]]
  | s + 1 => (lev names s).flatMap fun one => names.map fun n => one ++ [n]
theorem lev_cons (names : List α) : ∀ s, lev names (s + 1) = names.flatMap fun n => (lev names s).map (n :: ·)
  | 0 => by
    show ([[]] : List (List α)).flatMap (fun one => names.map fun n => one ++ [n]) = names.flatMap fun n => ([[]] : List (List α)).map (n :: ·)
    rw [List.flatMap_singleton]
    have : ∀ l : List α, l.map (fun n => ([] : List α) ++ [n]) = l.flatMap fun n => ([[]] : List (List α)).map (n :: ·) := by
      intro l
      induction l with
      | nil => rfl
      | cons x l ih => rw [List.map_cons, List.flatMap_cons, ih]; rfl
    exact this names
  | s + 1 => by
    refine (congrArg (List.flatMap fun one => names.map fun n => one ++ [n]) (lev_cons names s)).trans ?_
    rw [List.flatMap_assoc]
    congr 1
    funext n
    show ((lev names s).map (n :: ·)).flatMap _ = (lev names (s + 1)).map (n :: ·)
    show _ = ((lev names s).flatMap fun one => names.map fun k => one ++ [k]).map (n :: ·)
    rw [List.map_flatMap, List.flatMap_map]
    congr 1
    funext one
    rw [List.map_map]
    rfl
theorem lev_len (names : List α) : ∀ s, ∀ x ∈ lev names s, x.length = s
  | 0, x, h => by
    have : x = [] := by simpa [lev] using h
    rw [this]; rfl
  | s + 1, x, h => by
    obtain ⟨one, h1, h2⟩ := List.mem_flatMap.mp h
    obtain ⟨n, _, e⟩ := List.mem_map.mp h2
    rw [← e, List.length_append, lev_len names s one h1]; rfl
theorem lev_count (names : List α) : ∀ s, (lev names s).length = names.length ^ s
  | 0 => by simp [lev]
  | s + 1 => by
    show ((lev names s).flatMap fun one => names.map fun n => one ++ [n]).length = _
    rw [List.length_flatMap]
    have : ∀ l : List (List α), (l.map fun one => (names.map fun n => one ++ [n]).length).sum = l.length * names.length := by
      intro l
      induction l with
      | nil => simp
      | cons x l ih => rw [List.map_cons, List.sum_cons, ih, List.length_map, List.length_cons, Nat.succ_mul, Nat.add_comm]
    rw [this, lev_count names s, Nat.pow_succ]
theorem lev_names (names : List α) : ∀ s, ∀ x ∈ lev names s, ∀ k ∈ x, k ∈ names
  | 0, x, h, k, hk => by
    have : x = [] := by simpa [lev] using h
    rw [this] at hk; cases hk
  | s + 1, x, h, k, hk => by
    obtain ⟨one, h1, h2⟩ := List.mem_flatMap.mp h
    obtain ⟨n, hn, e⟩ := List.mem_map.mp h2
    rw [← e] at hk
    rcases List.mem_append.mp hk with q | q
    · exact lev_names names s one h1 k q
    · rw [List.mem_singleton.mp q]; exact hn
/-! ### the least numbers -/
/-- F p: the least number of names that fit the row from p on -/
structure Least (m : Mk α) (row names : List α) (F : Nat → Nat) (p0 : Nat) : Prop where
  end_ : F row.length = 0
  one : ∀ p, p0 ≤ p → p < row.length → ∃ n ∈ names, p < fit row p (rowOf m n) ∧ F p = 1 + F (fit row p (rowOf m n))
  le : ∀ p, p0 ≤ p → p < row.length → ∀ n ∈ names, p < fit row p (rowOf m n) → F p ≤ 1 + F (fit row p (rowOf m n))
variable {m : Mk α} {row names : List α} {F : Nat → Nat}
def reach (m : Mk α) (row : List α) (p : Nat) (one : List α) : Bool := decide (fitAll m row p one = row.length)
theorem least_le (L : Least m row names F 0) : ∀ (ks : List α) (p : Nat), p ≤ row.length → (∀ k ∈ ks, k ∈ names) → fitAll m row p ks = row.length → F p ≤ ks.length
  | [], p, _, _, h => by
    have h : p = row.length := h
    rw [h, L.end_]; exact Nat.zero_le _
  | k :: ks, p, hp, hk, h => by
    have f := fit_le row (rowOf m k) p
    have ih := least_le L ks (fit row p (rowOf m k)) (f.2 hp) (fun x hx => hk x (List.mem_cons_of_mem _ hx)) h
    rw [List.length_cons]
    by_cases e : p = row.length
    · rw [e, L.end_]; exact Nat.zero_le _
    · by_cases q : p < fit row p (rowOf m k)
      · have := L.le p (Nat.zero_le _) (by omega) k (hk k List.mem_cons_self) q
        omega
      · have : fit row p (rowOf m k) = p := by omega
        rw [this] at ih
        omega
theorem least_bound (L : Least m row names F 0) : ∀ (k p : Nat), p ≤ row.length → row.length - p = k → F p ≤ k := by
  intro k
  induction k using Nat.strongRecOn with
  | _ k ih =>
    intro p hp hk
    by_cases e : p = row.length
    · rw [e, L.end_]; exact Nat.zero_le _
    · obtain ⟨n, hn, h1, h2⟩ := L.one p (Nat.zero_le _) (by omega)
      have f := (fit_le row (rowOf m n) p).2 hp
      have := ih (row.length - fit row p (rowOf m n)) (by omega) _ f rfl
      omega
def best (m : Mk α) (row names : List α) (F : Nat → Nat) (p : Nat) : Option (List α) := (lev names (F p)).find? (reach m row p)
theorem best_end (L : Least m row names F 0) : best m row names F row.length = some [] := by
  unfold best
  rw [L.end_]
  show ([[]] : List (List α)).find? _ = _
  rw [List.find?_cons]
  have : reach m row row.length [] = true := decide_eq_true rfl
  rw [this]
theorem find_map_cons (p q : Nat) (n : α) (hq : q = fit row p (rowOf m n)) (l : List (List α)) : (l.map (n :: ·)).find? (reach m row p) = (l.find? (reach m row q)).map (n :: ·) := by
  rw [List.find?_map]
  congr 1
  have : (reach m row p ∘ fun x => n :: x) = reach m row q := by
    funext x
    rw [hq]; rfl
  rw [this]
theorem find_flat {β γ : Type} (f : β → List γ) (P : γ → Bool) : ∀ l : List β, (l.flatMap f).find? P = l.findSome? fun x => (f x).find? P
  | [] => rfl
  | x :: l => by
    rw [List.flatMap_cons, List.find?_append, List.findSome?_cons, find_flat f P l]
    cases (f x).find? P <;> rfl
theorem best_some (L : Least m row names F 0) : ∀ (k p : Nat), p ≤ row.length → row.length - p = k → ∃ x, best m row names F p = some x := by
  intro k
  induction k using Nat.strongRecOn with
  | _ k ih =>
    intro p hp hk
    by_cases e : p = row.length
    · rw [e]; exact ⟨_, best_end L⟩
    · obtain ⟨n, hn, h1, h2⟩ := L.one p (Nat.zero_le _) (by omega)
      have f := (fit_le row (rowOf m n) p).2 hp
      obtain ⟨x, hx⟩ := ih (row.length - fit row p (rowOf m n)) (by omega) _ f rfl
      cases hb : best m row names F p with
      | some y => exact ⟨y, rfl⟩
      | none =>
        unfold best at hb hx
        have hmem : (n :: x) ∈ lev names (F p) := by
          rw [h2, Nat.add_comm, lev_cons]
          exact List.mem_flatMap.mpr ⟨n, hn, List.mem_map.mpr ⟨x, List.mem_of_find?_eq_some hx, rfl⟩⟩
        have := List.find?_eq_none.mp hb _ hmem
        exact absurd (List.find?_some hx) this
/-- the first name that leads on, as the program takes it -/
theorem best_step (L : Least m row names F 0) {p : Nat} (hp : p < row.length) {pre post : List α} {n : α} (he : names = pre ++ n :: post)
    (hpre : ∀ x ∈ pre, ¬ (p < fit row p (rowOf m x) ∧ F (fit row p (rowOf m x)) + 1 = F p)) (h1 : p < fit row p (rowOf m n)) (h2 : F (fit row p (rowOf m n)) + 1 = F p) :
    best m row names F p = (best m row names F (fit row p (rowOf m n))).map (n :: ·) := by
  have f := (fit_le row (rowOf m n) p).2 (by omega)
  obtain ⟨x, hx⟩ := best_some L _ _ f rfl
  rw [hx]
  unfold best at hx ⊢
  rw [← h2, lev_cons, find_flat]
  have hfun : ∀ y, ((lev names (F (fit row p (rowOf m n)))).map (y :: ·)).find? (reach m row p) = ((lev names (F (fit row p (rowOf m n)))).find? (reach m row (fit row p (rowOf m y)))).map (y :: ·) := fun y => find_map_cons p _ y rfl _
  have hnone : ∀ y ∈ pre, ((lev names (F (fit row p (rowOf m n)))).map (y :: ·)).find? (reach m row p) = none := fun y hy => by
    rw [hfun]
    have : (lev names (F (fit row p (rowOf m n)))).find? (reach m row (fit row p (rowOf m y))) = none := by
      rw [List.find?_eq_none]
      intro z hz hr
      have hr := of_decide_eq_true hr
      have fy := fit_le row (rowOf m y) p
      have hl := least_le L z _ (fy.2 (by omega)) (lev_names _ _ z hz) hr
      rw [lev_len _ _ z hz] at hl
      have ny : y ∈ names := by rw [he]; exact List.mem_append_left _ hy
      by_cases q : p < fit row p (rowOf m y)
      · have := L.le p (Nat.zero_le _) hp y ny q
        exact hpre y hy ⟨q, by omega⟩
      · have : fit row p (rowOf m y) = p := by omega
        rw [this] at hl
        omega
    rw [this]; rfl
  have key : ∀ l : List α, (∀ y ∈ l, ((lev names (F (fit row p (rowOf m n)))).map (y :: ·)).find? (reach m row p) = none) → (l ++ n :: post).findSome? (fun y => ((lev names (F (fit row p (rowOf m n)))).map (y :: ·)).find? (reach m row p)) = some (n :: x) := by
    intro l hl
    induction l with
    | nil =>
      rw [List.nil_append, List.findSome?_cons, hfun n, hx]; rfl
    | cons y l ih =>
      rw [List.cons_append, List.findSome?_cons, hl y List.mem_cons_self]
      exact ih fun z hz => hl z (List.mem_cons_of_mem _ hz)
  have e := key pre hnone
  rw [← he] at e
  exact e
/-- what the law finds: the first choice of at most five names that reaches the end -/
def found6 (m : Mk α) (row names : List α) : Option (List α) := ((List.range 6).flatMap (lev names)).find? (reach m row 0)
theorem found6_best (L : Least m row names F 0) (h : row.length ≤ 5) : found6 m row names = best m row names F 0 := by
  have hb := least_bound L row.length 0 (Nat.zero_le _) rfl
  obtain ⟨x, hx⟩ := best_some L _ 0 (Nat.zero_le _) rfl
  unfold found6
  rw [find_flat, hx]
  unfold best at hx
  have hlow : ∀ s, s < F 0 → (lev names s).find? (reach m row 0) = none := fun s hs => by
    rw [List.find?_eq_none]
    intro z hz hr
    have := least_le L z 0 (Nat.zero_le _) (lev_names _ _ z hz) (of_decide_eq_true hr)
    rw [lev_len _ _ z hz] at this
    omega
  have key : ∀ k, k ≤ 6 → k ≤ F 0 → (List.range' k (6 - k)).findSome? (fun s => (lev names s).find? (reach m row 0)) = (List.range' 0 6).findSome? (fun s => (lev names s).find? (reach m row 0)) := by
    intro k
    induction k with
    | zero => intro _ _; rfl
    | succ k ih =>
      intro h1 h2
      rw [← ih (by omega) (by omega), show 6 - k = (6 - (k + 1)) + 1 by omega, List.range'_succ, List.findSome?_cons, hlow k (by omega)]
  rw [List.range_eq_range', ← key (F 0) (by omega) (Nat.le_refl _), show 6 - F 0 = (5 - F 0) + 1 by omega, List.range'_succ, List.findSome?_cons, hx]
end
end K83
namespace FD
open PySem L2
section
variable {X : Cx} {K : PySem.W.Frag}
theorem kop_in (h : X.K = K) : OpR X (compareOp .In) (rIn K false) := h ▸ op_in_seq
theorem kop_notIn (h : X.K = K) : OpR X (compareOp .NotIn) (rIn K true) := h ▸ op_notIn_seq
theorem kpi_tup {tg e : Expr} {te : TE} (h : X.K = K) (he : PE X e te) : PI X tg e (iTup K te) := h ▸ pi_tup he
end
theorem eqv_str (i j : Str) : PyData.eqv (.str i) (.str j) = (i == j) := by simp [PyData.eqv]
end FD
namespace K83
open PySem L2 FD
def top (i : Nat) : Stmt := PySem.Challenge.pw_stillowed_k83_exact_makings.main.body.getD i (.Pass ⟨0, 0, 0, 0⟩)
abbrev sFf : Stmt := top 1
abbrev sWi : Stmt := top 2
abbrev sRb : Stmt := top 4
abbrev sMr : Stmt := top 6
abbrev sOd : Stmt := top 7
abbrev sIe : Stmt := top 8
abbrev sFt : Stmt := top 9
abbrev sFh : Stmt := top 10
abbrev sCo : Stmt := top 11
abbrev sCc : Stmt := top 12
abbrev sBx : Stmt := top 14
abbrev sTk : Stmt := top 15
abbrev sPk : Stmt := top 16
abbrev sNa : Stmt := top 17
abbrev sLi : Stmt := top 18
abbrev sLm : Stmt := top 19
abbrev sLk : Stmt := top 20
abbrev sLo : Stmt := top 21
abbrev sLf : Stmt := top 22
abbrev sLp : Stmt := top 23
abbrev sLr : Stmt := top 24
abbrev sLw : Stmt := top 25
structure Txt (mg : Str → Option Value) : Prop where
  abs : mg "abs" = none
  all : mg "all" = none
  any : mg "any" = none
  bool : mg "bool" = none
  dict : mg "dict" = none
  enumerate : mg "enumerate" = none
  int : mg "int" = none
  isinstance : mg "isinstance" = none
  len : mg "len" = none
  list : mg "list" = none
  min : mg "min" = none
  range : mg "range" = none
  set : mg "set" = none
  sorted : mg "sorted" = none
  tuple : mg "tuple" = none
structure Has (K : PySem.W.Frag) (mg : Str → Option Value) (x : Str) (st : Stmt) (ps : List Str) (f : Addr) (fd : FuncData) : Prop where
  F : Fun K x x st f fd
  b : Binds K fd ps []
  m : mg x = some (.ref f)
/-! ### texts -/
def tok (x : Str) : Prop := PyData.canLay0 (.str x) = true
def Good (r : List Str) : Prop := ∀ x ∈ r, tok x
theorem shp_str (n : Nat) {x : Str} (h : tok x) : Shp n (.str x) := ⟨h, by simp [PyData.depth]⟩
theorem sh_str {x : Str} (h : tok x) : SeqAt.shaped (.str x) = true := (shp_str 0 h).shaped (by decide)
def ts (r : List Str) : PyData := .tuple (r.map .str)
theorem shp_ts (n : Nat) {r : List Str} (h : Good r) : Shp (n + 1) (ts r) := shp_tuple fun d hd => by
  obtain ⟨x, hx, rfl⟩ := List.mem_map.mp hd
  exact shp_str n (h x hx)
theorem ts_get {r : List Str} {i : Nat} {x : Str} (h : r[i]? = some x) : (r.map PyData.str)[i]? = some (.str x) := by rw [List.getElem?_map, h]; rfl
theorem ts_back {r : List Str} {i : Nat} {d : PyData} (h : (r.map PyData.str)[i]? = some d) : ∃ x, r[i]? = some x ∧ d = .str x := by
  rw [List.getElem?_map] at h
  cases e : r[i]? with
  | none => rw [e] at h; cases h
  | some x => rw [e] at h; exact ⟨x, rfl, (Option.some.inj h).symm⟩
theorem good_at {r : List Str} (h : Good r) {i : Nat} {x : Str} (e : r[i]? = some x) : tok x := h x (List.mem_of_getElem? e)
theorem take_succ' {α : Type} {l : List α} {i : Nat} {x : α} (h : l[i]? = some x) : l.take (i + 1) = l.take i ++ [x] := by rw [List.take_add_one, h]; rfl
def ffTake (u v : List Str) : Nat → List Nat
  | 0 => []
  | i + 1 => if u[(ffTake u v i).length]? = v[i]? then ffTake u v i ++ [i] else ffTake u v i
theorem ff_fit (u v : List Str) : ∀ i, i ≤ v.length → (ffTake u v i).length = fit u 0 (v.take i)
  | 0, _ => rfl
  | i + 1, h => by
    have e : v[i]? = some v[i] := List.getElem?_eq_getElem (by omega)
    have ih := ff_fit u v i (by omega)
    rw [take_succ' e, fit_snoc, ← ih]
    show (if u[(ffTake u v i).length]? = v[i]? then ffTake u v i ++ [i] else ffTake u v i).length = _
    rw [e]
    unfold fitStep
    split <;> simp
theorem ff_len (u v : List Str) (i : Nat) : (ffTake u v i).length ≤ i := by
  induction i with
  | zero => exact Nat.le_refl _
  | succ i ih =>
    show (if u[(ffTake u v i).length]? = v[i]? then ffTake u v i ++ [i] else ffTake u v i).length ≤ _
    split
    · simp; exact ih
    · omega
theorem fit_sub (u v : List Str) : fit u 0 v = u.length ↔ u.Sublist v := by
  rw [← eat_sub]
  have h := eat_fit u v 0
  rw [List.drop_zero] at h
  rw [h, List.drop_eq_nil_iff]
  have := (fit_le u v 0).2 (Nat.zero_le _)
  omega
def ffD (u v : List Str) : PyData := if (ffTake u v v.length).length = u.length then .tuple ((ffTake u v v.length).map fun (n : Nat) => PyData.int (n : Int)) else .none
theorem ffD_non (u v : List Str) : (!isNon (ffD u v)) = decide (u.Sublist v) := by
  have h := ff_fit u v v.length (Nat.le_refl _)
  rw [List.take_length] at h
  unfold ffD
  rw [h]
  by_cases q : u.Sublist v
  · rw [if_pos ((fit_sub u v).mpr q), decide_eq_true q]; rfl
  · rw [if_neg (fun z => q ((fit_sub u v).mp z)), decide_eq_false q]; rfl
section
variable {P : Program} {w : World} {K : PySem.W.Frag} {mg : Str → Option Value} {base : Heap}
/-! ### first_fit, within -/
def Rff (ds : List PyData) (d : PyData) : Prop := ∃ u v : List Str, ds = [ts u, ts v] ∧ Good u ∧ Good v ∧ u.length ≤ 1000 ∧ v.length ≤ 1000 ∧ d = ffD u v
def Rwi (ds : List PyData) (d : PyData) : Prop := ∃ u v : List Str, ds = [ts u, ts v] ∧ Good u ∧ Good v ∧ u.length ≤ 1000 ∧ v.length ≤ 1000 ∧ d = .bool (decide (u.Sublist v))
abbrev nFf : List Str := ["u", "v", "places", "at", "deed"]
theorem scFf : FnScope nFf ["u", "v"] (defScope sFf) := ⟨rfl, rfl, rfl, by decide +kernel, rfl, by decide +kernel, by decide +kernel⟩
theorem ok_ff {f : Addr} {fd : FuncData} (T : Txt mg) (F : Fun K "first_fit" "first_fit" sFf f fd) : FnOk P w K mg base CX0 1 f fd ["u", "v"] (spR K 2 Rff) := by
  refine def_R F scFf (by decide) fun cdv A outer s H E hr => ?_
  have nd := scFf.nd
  refine ⟨_, (pss_cons (ps_set (i := 2) nd rfl (Or.inl rfl) (pe_lst pa_nil))
 (pss_cons (ps_for PassesOwn.never rfl (pi_enumT (by rfl) T.enumerate (pa_cons (pv 1) pa_nil)) (pg_tup rfl (pgs_cons (pg_name (i := 3) nd rfl (Or.inl rfl)) (pgs_cons (pg_name (i := 4) nd rfl (Or.inl rfl)) pgs_nil))) (pss_one (ps_if (PW.pt (pw_and (pt_cmpR op_lt (pe_callB call_len_seq (by rfl) T.len PySem.boot_len (pa_cons (pv 2) pa_nil)) (pe_callB call_len_seq (by rfl) T.len PySem.boot_len (pa_cons (pv 0) pa_nil)) (nomark _)) (pw_and1 (pt_cmpR (op_eqD hr.units) (pe_ix ix_tup (pv 0) (pe_callB call_len_seq (by rfl) T.len PySem.boot_len (pa_cons (pv 2) pa_nil)) (fun _ _ => rfl)) (pv 4) (nomark _))))) (pss_one (ps_expr (pe_bm PySem.F.plainAttrs_list PySem.F.slot_list_append PySem.F.type_list_append mt_append (pv 2) (pa_cons (pv 3) pa_nil)))) pss_nil)))
 (pss_one (ps_ret (pe_ifExp (pt_cmpR (op_eqD hr.units) (pe_callB call_len_seq (by rfl) T.len PySem.boot_len (pa_cons (pv 2) pa_nil)) (pe_callB call_len_seq (by rfl) T.len PySem.boot_len (pa_cons (pv 0) pa_nil)) (nomark _)) (pe_callTy call_tuple_of (by rfl) T.tuple (by decide +kernel) (pa_cons (pv 2) pa_nil)) pe_non))))), ?_⟩
  rintro M G B ds d _ ⟨u, v, rfl, gu, gv, lu, lv, rfl⟩ D fin
  show Run _ _ D M [.d (ts u), .d (ts v), .u, .u, .u] []
  refine q_new (ds := []) a_nil (by simp) fun a ha => ?_
  refine q_for (i_enumT (a_cons (x_vd rfl) a_nil)) (fun i δ μ => ∃ e3 e4, δ = [.d (ts u), .d (ts v), .m a, e3, e4] ∧ μ = [(a, .lst ((ffTake u v i).map fun (n : Nat) => PyData.int (n : Int)))]) ⟨_, _, rfl, rfl⟩ ?_ ?_
  · rintro B' hB i d δ1 μ1 hi ⟨e3, e4, rfl, rfl⟩
    have hl := (List.getElem?_eq_some_iff.mp hi).1
    rw [enumD_length, List.length_map] at hl
    have ev : v[i]? = some v[i] := List.getElem?_eq_getElem hl
    rw [enumD_get (ts_get ev)] at hi
    cases hi
    refine ⟨[3, 4], _, tg_tup2, ?_⟩
    show Run _ _ _ _ [.d (ts u), .d (ts v), .m a, .d (.int (i : Int)), .d (.str v[i])] _
    have hlen : ((ffTake u v i).map fun (n : Nat) => PyData.int (n : Int)).length = (ffTake u v i).length := List.length_map ..
    have hle := ff_len u v i
    have nxt : ffTake u v (i + 1) = if u[(ffTake u v i).length]? = v[i]? then ffTake u v i ++ [i] else ffTake u v i := rfl
    rw [ev] at nxt
    refine r_if (b := decide (u[(ffTake u v i).length]? = some v[i])) (t_is (t_and (t_test (x_op (x_cbP (a_cons (x_vm rfl) a_nil) (c_lenL (.m (j := 0) rfl))) (x_cbP (a_cons (x_vd rfl) a_nil) c_lenT) o_B0)) (c := PyData.eqv (.str (u.getD (ffTake u v i).length "")) (.str v[i])) (fun hb => ?_) (fun _ => rfl)) ?_) (fun hb => ?_) fun hb => ?_
    · have hb := of_decide_eq_true hb
      rw [hlen, List.length_map] at hb
      have eu : u[(ffTake u v i).length]? = some (u.getD (ffTake u v i).length "") := by simp [show (ffTake u v i).length < u.length by omega]
      refine t_test (x_op (x_op (x_vd rfl) (x_cbP (a_cons (x_vm rfl) a_nil) (c_lenL (.m (j := 0) rfl))) (o_ixT (by rw [hlen]; exact atI_nat (ts_get eu)))) (x_vd rfl) (o_eqD (.d _) (.d _) (sh_str (good_at gu eu)) (sh_str (good_at gv ev))))
    · rw [hlen, List.length_map, eqv_str]
      by_cases q : (ffTake u v i).length < u.length
      · have eu : u[(ffTake u v i).length]? = some (u.getD (ffTake u v i).length "") := by simp [q]
        rw [decide_eq_true (by omega : ((ffTake u v i).length : Int) < (u.length : Int)), eu, Bool.true_and]
        by_cases z : u.getD (ffTake u v i).length "" = v[i]
        · rw [z]; simp
        · rw [decide_eq_false (fun y => z (Option.some.inj y))]
          exact beq_eq_false_iff_ne.mpr z
      · have eu : u[(ffTake u v i).length]? = none := List.getElem?_eq_none (by omega)
        rw [decide_eq_false (by omega : ¬ ((ffTake u v i).length : Int) < (u.length : Int)), eu]
        simp
    · rw [if_pos (of_decide_eq_true hb)] at nxt
      refine r_app (j := 0) (d := .int (i : Int)) (x_vm rfl) (x_vd rfl) rfl rfl (by rw [hlen]; omega) fun σ H o => ⟨_, _, ⟨_, _, rfl, ?_⟩, o⟩
      rw [nxt, List.map_append]; rfl
    · rw [if_neg (of_decide_eq_false hb)] at nxt
      exact r_next fun σ H o => ⟨_, _, ⟨_, _, rfl, by rw [nxt]⟩, o⟩
  · rintro δ1 μ1 ⟨e3, e4, rfl, rfl⟩
    rw [enumD_length, List.length_map]
    have hlen : ((ffTake u v v.length).map fun (n : Nat) => PyData.int (n : Int)).length = (ffTake u v v.length).length := List.length_map ..
    refine r_retP (x_is (x_if2 (t_test (x_op (x_cbP (a_cons (x_vm rfl) a_nil) (c_lenL (.m (j := 0) rfl))) (x_cbP (a_cons (x_vd rfl) a_nil) c_lenT) (o_eqD (.d _) (.d _) ((shp_int 0 _).shaped (by decide)) ((shp_int 0 _).shaped (by decide))))) (x_cbP (a_cons (x_vm rfl) a_nil) (c_tupleL (.m (j := 0) rfl))) x_non) ?_) fin
    rw [eqv_int, hlen, List.length_map]
    unfold ffD
    by_cases q : (ffTake u v v.length).length = u.length
    · rw [if_pos q, q]; simp
    · rw [if_neg q]
      have : (((ffTake u v v.length).length : Int) == (u.length : Int)) = false := beq_eq_false_iff_ne.mpr (by omega)
      rw [this]; rfl
abbrev nWi : List Str := ["u", "v"]
theorem scWi : FnScope nWi ["u", "v"] (defScope sWi) := ⟨rfl, rfl, rfl, by decide +kernel, rfl, by decide +kernel, by decide +kernel⟩
theorem ok_wi {f : Addr} {fd : FuncData} (T : Txt mg) (F : Fun K "within" "within" sWi f fd) {f1 : Addr} {fd1 : FuncData} (H1 : Has K mg "first_fit" sFf ["u", "v"] f1 fd1) : FnOk P w K mg base CX0 2 f fd ["u", "v"] (spR K 2 Rwi) := by
  have G1 : FnOk P w K mg base CX0 1 f1 fd1 ["u", "v"] (spR K 2 Rff) := ok_ff T H1.F
  refine def_R F scWi (by decide) fun cdv A outer s H E hr => ?_
  refine ⟨_, (pss_one (ps_ret (pe_cmpR op_notN (pe_call G1 hr rfl H1.m H1.F.kp H1.b .nil pass0 (pa_cons (pv 0) (pa_cons (pv 1) pa_nil))) pe_non (nomark _)))), ?_⟩
  rintro M G B ds d _ ⟨u, v, rfl, gu, gv, lu, lv, rfl⟩ D fin
  show Run _ _ D M [.d (ts u), .d (ts v)] []
  exact r_retP (x_is (x_op (x_callR (ds := [ts u, ts v]) (a_cons (x_vd rfl) (a_cons (x_vd rfl) a_nil)) ⟨u, v, rfl, gu, gv, lu, lv, rfl⟩) x_non o_notN) (by rw [ffD_non])) fin
end
end K83
namespace K83
open PySem L2 FD
structure SM (m : Mk Str) : Prop where
  nd : (m.map (·.1)).Nodup
  len : m.length ≤ 4
  rows : ∀ p ∈ m, p.2.length ≤ 5
  good : ∀ p ∈ m, tok p.1 ∧ Good p.2
abbrev keys (m : Mk Str) : List Str := m.map (·.1)
def mkD (m : Mk Str) : Dct := m.map fun p => (p.1, ts p.2)
theorem mkD_keys (m : Mk Str) : (mkD m).map (·.1) = keys m := by unfold mkD; rw [List.map_map]; rfl
theorem mkD_len (m : Mk Str) : (mkD m).length = m.length := List.length_map ..
theorem mk_val : ∀ {m : Mk Str} {k : Str}, k ∈ keys m → valD (mkD m) k = some (ts (rowOf m k))
  | p :: r, k, h => by
    show valD ((p.1, ts p.2) :: mkD r) k = _
    rw [valD_cons]
    unfold rowOf
    rw [List.find?_cons]
    by_cases e : p.1 = k
    · rw [if_pos e, decide_eq_true e]; rfl
    · rw [if_neg e, decide_eq_false e]
      rcases List.mem_cons.mp h with q | q
      · exact absurd q.symm e
      · exact mk_val q
theorem SM.at_ {m : Mk Str} (S : SM m) {k : Str} (h : k ∈ keys m) : ∃ p ∈ m, p.1 = k ∧ rowOf m k = p.2 := by
  obtain ⟨p, hp, e⟩ := List.mem_map.mp h
  exact ⟨p, hp, e, by rw [← e]; exact rowOf_at S.nd hp⟩
theorem SM.rlen {m : Mk Str} (S : SM m) {k : Str} (h : k ∈ keys m) : (rowOf m k).length ≤ 5 := by
  obtain ⟨p, hp, _, e⟩ := S.at_ h
  rw [e]; exact S.rows p hp
theorem SM.rgood {m : Mk Str} (S : SM m) {k : Str} (h : k ∈ keys m) : Good (rowOf m k) := by
  obtain ⟨p, hp, _, e⟩ := S.at_ h
  rw [e]; exact (S.good p hp).2
theorem SM.kgood {m : Mk Str} (S : SM m) {k : Str} (h : k ∈ keys m) : tok k := by
  obtain ⟨p, hp, e, _⟩ := S.at_ h
  rw [← e]; exact (S.good p hp).1
theorem made_snoc (m : Mk Str) (r : List Str) (k : Str) : made m (r ++ [k]) = made m r ++ rowOf m k := by
  unfold made
  rw [List.flatMap_append, List.flatMap_singleton]
theorem made_len {m : Mk Str} (S : SM m) : ∀ {r : List Str}, (∀ k ∈ r, k ∈ keys m) → (made m r).length ≤ 5 * r.length
  | [], _ => Nat.le_refl _
  | k :: r, h => by
    have ih := made_len S (r := r) fun x hx => h x (List.mem_cons_of_mem _ hx)
    have h1 := S.rlen (h k List.mem_cons_self)
    show (made m (k :: r)).length ≤ _
    unfold made at ih ⊢
    rw [List.flatMap_cons, List.length_append, List.length_cons]
    omega
theorem made_good {m : Mk Str} (S : SM m) {r : List Str} (h : ∀ k ∈ r, k ∈ keys m) : Good (made m r) := fun x hx => by
  obtain ⟨k, hk, q⟩ := List.mem_flatMap.mp hx
  exact S.rgood (h k hk) x q
def Rmd (es : List Ent) (μ : Mem) (d : PyData) (μ' : Mem) : Prop := ∃ (a : Addr) (mo : MO) (m : Mk Str) (row : List Str), es = [.m a, .d (ts row)] ∧ μ = [(a, mo)] ∧ IsDct mo (mkD m) ∧ SM m ∧ (∀ k ∈ row, k ∈ keys m) ∧ row.length ≤ 100 ∧ d = ts (made m row) ∧ μ' = μ
section
variable {P : Program} {w : World} {K : PySem.W.Frag} {mg : Str → Option Value} {base : Heap}
abbrev nRb : List Str := ["view", "row", "found", "deed"]
theorem scRb : FnScope nRb ["view", "row"] (defScope sRb) := ⟨rfl, rfl, rfl, by decide +kernel, rfl, by decide +kernel, by decide +kernel⟩
theorem walk_made {M : List Addr} {G B : Hp} {a : Addr} {mo : MO} {m : Mk Str} {row : List Str} (hd : IsDct mo (mkD m)) (S : SM m) (hk : ∀ k ∈ row, k ∈ keys m) (hl : row.length ≤ 100) (D : Ends) (fin : FinE ⟨K, M, G, B⟩ D (ts (made m row)) [(a, mo)]) :
    Run ⟨K, M, G, B⟩ (tSeq (tAsg (tTup tNil) (gName 2)) (tSeq (tFor (iTup K (tVar 1)) (gName 3) (tAsg (tOp (rCatA K) (tVar 2) (tDGet (tVar 0) (tVar 3))) (gName 2))) (tRet (tVar 2)))) D M [.m a, .d (ts row), .u, .u] [(a, mo)] := by
  refine q_asg (x_tup (ds := []) a_nil (by simp)) ?_
  refine q_for (i_tup (x_vd rfl)) (fun i δ μ => ∃ e3, δ = [.m a, .d (ts row), .d (ts (made m (row.take i))), e3] ∧ μ = [(a, mo)]) ⟨_, rfl, rfl⟩ ?_ ?_
  · rintro B' hB i d δ1 μ1 hi ⟨e3, rfl, rfl⟩
    obtain ⟨x, hx, rfl⟩ := ts_back hi
    refine ⟨[3], _, tg_name, ?_⟩
    have hkx := hk x (List.mem_of_getElem? hx)
    have h1 := made_len S (r := row.take i) fun k q => hk k (List.mem_of_mem_take q)
    have h2 := S.rlen hkx
    have h3 : (row.take i).length ≤ 100 := by rw [List.length_take]; omega
    refine r_asg (e := .d (ts (made m (row.take (i + 1))))) (x_is (x_op (x_vd rfl) (x_dget (x_vm rfl) (x_vd rfl) (List.mem_singleton.mpr rfl) hd (mk_val hkx)) (o_catT (by rw [List.length_map, List.length_map]; omega))) ?_) fun σ H o => ⟨_, _, ⟨_, rfl, rfl⟩, o⟩
    rw [take_succ' hx, made_snoc]
    unfold ts
    rw [List.map_append]
  · rintro δ1 μ1 ⟨e3, rfl, rfl⟩
    rw [List.length_map, List.take_length]
    exact r_retE (x_vd rfl) (fun p hp => hp) fin
theorem ok_rb {f : Addr} {fd : FuncData} (T : Txt mg) (F : Fun K "row_by" "row_by" sRb f fd) : FnOk P w K mg base CX0 1 f fd ["view", "row"] (spE K 2 Rmd) := by
  refine def_E F scRb (by decide) rfl fun cdv A outer s H E hr => ?_
  have nd := scRb.nd
  have hu1 := hu_of hr
  refine ⟨_, (pss_cons (ps_set (i := 2) nd rfl (Or.inl rfl) (pe_tup pa_nil))
 (pss_cons (ps_for PassesOwn.never rfl (pi_tup (pv 1)) (pg_name (i := 3) nd rfl (Or.inl rfl)) (pss_one (ps_set (i := 2) nd rfl (Or.inl rfl) (pe_op op_catA (pv 2) (pe_dget hu1 (pv 0) (pv 3) (fun _ _ => rfl))))))
 (pss_one (ps_ret (pv 2))))), ?_⟩
  rintro M G B es μ d μ' ⟨a, mo, m, row, rfl, rfl, hd, S, hk, hl, rfl, rfl⟩ D fin
  exact walk_made hd S hk hl D fin
abbrev nLm : List Str := ["_law_making_here", "_law_row", "_law_found", "_law_deed"]
theorem scLm : FnScope nLm ["_law_making_here", "_law_row"] (defScope sLm) := ⟨rfl, rfl, rfl, by decide +kernel, rfl, by decide +kernel, by decide +kernel⟩
theorem ok_lm {f : Addr} {fd : FuncData} (T : Txt mg) (F : Fun K "_law_made" "_law_made" sLm f fd) : FnOk P w K mg base CX0 1 f fd ["_law_making_here", "_law_row"] (spE K 2 Rmd) := by
  refine def_E F scLm (by decide) rfl fun cdv A outer s H E hr => ?_
  have nd := scLm.nd
  have hu1 := hu_of hr
  refine ⟨_, (pss_cons (ps_set (i := 2) nd rfl (Or.inl rfl) (pe_tup pa_nil))
 (pss_cons (ps_for PassesOwn.never rfl (pi_tup (pv 1)) (pg_name (i := 3) nd rfl (Or.inl rfl)) (pss_one (ps_set (i := 2) nd rfl (Or.inl rfl) (pe_op op_catA (pv 2) (pe_dget hu1 (pv 0) (pv 3) (fun _ _ => rfl))))))
 (pss_one (ps_ret (pv 2))))), ?_⟩
  rintro M G B es μ d μ' ⟨a, mo, m, row, rfl, rfl, hd, S, hk, hl, rfl, rfl⟩ D fin
  exact walk_made hd S hk hl D fin
abbrev nMr : List Str := ["making", "row"]
theorem scMr : FnScope nMr ["making", "row"] (defScope sMr) := ⟨rfl, rfl, rfl, by decide +kernel, rfl, by decide +kernel, by decide +kernel⟩
theorem ok_mr {f : Addr} {fd : FuncData} (T : Txt mg) (F : Fun K "made_row" "made_row" sMr f fd) {f1 : Addr} {fd1 : FuncData} (H1 : Has K mg "row_by" sRb ["view", "row"] f1 fd1) : FnOk P w K mg base CX0 2 f fd ["making", "row"] (spE K 2 Rmd) := by
  have G1 : FnOk P w K mg base CX0 1 f1 fd1 ["view", "row"] (spE K 2 Rmd) := ok_rb T H1.F
  refine def_E F scMr (by decide) rfl fun cdv A outer s H E hr => ?_
  refine ⟨_, (pss_one (ps_ret (pe_call G1 hr rfl H1.m H1.F.kp H1.b .nil pass0 (pa_cons (pv 0) (pa_cons (pv 1) pa_nil))))), ?_⟩
  rintro M G B es μ d μ' ⟨a, mo, m, row, rfl, rfl, hd, S, hk, hl, rfl, rfl⟩ D fin
  show Run _ _ D M [.m a, .d (ts row)] [(a, mo)]
  exact r_retE (x_callE1 (a_cons (x_vm rfl) (a_cons (x_vd rfl) a_nil)) (List.mem_singleton.mpr rfl) ⟨a, mo, m, row, rfl, rfl, hd, S, hk, hl, rfl, rfl⟩) (fun p hp => hp) fin
/-! ### fitted_to -/
def Rft (ds : List PyData) (d : PyData) : Prop := ∃ (row : List Str) (p : Nat) (s : List Str), ds = [ts row, .int (p : Int), ts s] ∧ Good row ∧ Good s ∧ d = .int (fit row p s : Int)
abbrev nFt : List Str := ["row", "place", "shown", "name"]
theorem scFt : FnScope nFt ["row", "place", "shown"] (defScope sFt) := ⟨rfl, rfl, rfl, by decide +kernel, rfl, by decide +kernel, by decide +kernel⟩
theorem ok_ft {f : Addr} {fd : FuncData} (T : Txt mg) (F : Fun K "fitted_to" "fitted_to" sFt f fd) : FnOk P w K mg base CX0 1 f fd ["row", "place", "shown"] (spR K 3 Rft) := by
  refine def_R F scFt (by decide) fun cdv A outer s H E hr => ?_
  have nd := scFt.nd
  refine ⟨_, (pss_cons (ps_for PassesOwn.never rfl (pi_tup (pv 2)) (pg_name (i := 3) nd rfl (Or.inl rfl)) (pss_one (ps_if (PW.pt (pw_and (pt_cmpR op_lt (pv 1) (pe_callB call_len_seq (by rfl) T.len PySem.boot_len (pa_cons (pv 0) pa_nil)) (nomark _)) (pw_and1 (pt_cmpR (op_eqD hr.units) (pe_ix ix_tup (pv 0) (pv 1) (fun _ _ => rfl)) (pv 3) (nomark _))))) (pss_one (ps_aug (i := 1) nd rfl (.inl rfl) pe_int ip_add)) pss_nil)))
 (pss_one (ps_ret (pv 1)))), ?_⟩
  rintro M G B ds d _ ⟨row, p, s, rfl, gr, gs, rfl⟩ D fin
  show Run _ _ D M [.d (ts row), .d (.int (p : Int)), .d (ts s), .u] []
  refine q_for (i_tup (x_vd rfl)) (fun i δ μ => ∃ e3, δ = [.d (ts row), .d (.int (fit row p (s.take i) : Int)), .d (ts s), e3] ∧ μ = []) ⟨_, rfl, rfl⟩ ?_ ?_
  · rintro B' hB i d δ1 μ1 hi ⟨e3, rfl, rfl⟩
    obtain ⟨x, hx, rfl⟩ := ts_back hi
    refine ⟨[3], _, tg_name, ?_⟩
    rw [take_succ' hx]
    have e := fit_snoc row p (s.take i) x
    rw [e]
    generalize fit row p (s.take i) = q
    show Run _ _ _ _ [.d (ts row), .d (.int (q : Int)), .d (ts s), .d (.str x)] _
    refine r_if (b := decide (row[q]? = some x)) (t_is (t_and (t_test (x_op (x_vd rfl) (x_cbP (a_cons (x_vd rfl) a_nil) c_lenT) o_B0)) (c := PyData.eqv (.str (row.getD q "")) (.str x)) (fun hb => ?_) (fun _ => rfl)) ?_) (fun hb => ?_) fun hb => ?_
    · have hb := of_decide_eq_true hb
      rw [List.length_map] at hb
      have eu : row[q]? = some (row.getD q "") := by simp [show q < row.length by omega]
      exact t_test (x_op (x_op (x_vd rfl) (x_vd rfl) (o_ixT (atI_nat (ts_get eu)))) (x_vd rfl) (o_eqD (.d _) (.d _) (sh_str (good_at gr eu)) (sh_str (good_at gs hx))))
    · rw [List.length_map, eqv_str]
      by_cases z : q < row.length
      · have eu : row[q]? = some (row.getD q "") := by simp [z]
        rw [decide_eq_true (by omega : (q : Int) < (row.length : Int)), eu, Bool.true_and]
        by_cases y : row.getD q "" = x
        · rw [y]; simp
        · rw [decide_eq_false (fun t => y (Option.some.inj t))]
          exact beq_eq_false_iff_ne.mpr y
      · rw [decide_eq_false (by omega : ¬ (q : Int) < (row.length : Int)), List.getElem?_eq_none (by omega)]
        simp
    · refine r_aug rfl x_int fun σ H o => ⟨_, _, ⟨.d (.str x), ?_, rfl⟩, o⟩
      unfold fitStep
      rw [if_pos (of_decide_eq_true hb)]; rfl
    · refine r_next fun σ H o => ⟨_, _, ⟨.d (.str x), ?_, rfl⟩, o⟩
      unfold fitStep
      rw [if_neg (of_decide_eq_false hb)]
  · rintro δ1 μ1 ⟨e3, rfl, rfl⟩
    rw [List.length_map, List.take_length]
    exact r_retP (x_vd rfl) fin
/-! ### _law_within -/
abbrev nLi : List Str := ["_law_u", "_law_v", "_law_left", "_law_deed"]
theorem scLi : FnScope nLi ["_law_u", "_law_v"] (defScope sLi) := ⟨rfl, rfl, rfl, by decide +kernel, rfl, by decide +kernel, by decide +kernel⟩
/-- what is left of u, from behind -/
def leftOf (u v : List Str) (i : Nat) : List Str := (eat u.reverse (v.reverse.take i)).reverse
theorem left_end (u v : List Str) : leftOf u v v.length = [] ↔ u.Sublist v := by
  unfold leftOf
  rw [List.take_of_length_le (by simp), List.reverse_eq_nil_iff, eat_sub, List.reverse_sublist]
theorem left_step {u v : List Str} {i : Nat} {x : Str} (h : v.reverse[i]? = some x) : leftOf u v (i + 1) = if (leftOf u v i).getLast? = some x then (leftOf u v i).dropLast else leftOf u v i := by
  unfold leftOf
  rw [take_succ' h, eat_snoc]
  generalize eat u.reverse (v.reverse.take i) = r
  rw [List.getLast?_reverse]
  cases r with
  | nil => simp [eatStep]
  | cons a r =>
    unfold eatStep
    by_cases e : a = x
    · subst e; simp
    · simp [e]
theorem ok_li {f : Addr} {fd : FuncData} (T : Txt mg) (F : Fun K "_law_within" "_law_within" sLi f fd) : FnOk P w K mg base CX0 1 f fd ["_law_u", "_law_v"] (spR K 2 Rwi) := by
  refine def_R F scLi (by decide) fun cdv A outer s H E hr => ?_
  have nd := scLi.nd
  refine ⟨_, (pss_cons (ps_set (i := 2) nd rfl (Or.inl rfl) (pe_callTy call_list_of (by rfl) T.list (by decide +kernel) (pa_cons (pv 0) pa_nil)))
 (pss_cons (ps_for PassesOwn.never rfl (pi_tup (pe_revT (pv 1))) (pg_name (i := 3) nd rfl (Or.inl rfl)) (pss_one (ps_if (PW.pt (pw_and (pt_cmpR op_gt (pe_callB call_len_seq (by rfl) T.len PySem.boot_len (pa_cons (pv 2) pa_nil)) pe_int (nomark _)) (pw_and1 (pt_cmpR (op_eqD hr.units) (pe_ix ix_list (pv 2) (pe_op op_sub (pe_callB call_len_seq (by rfl) T.len PySem.boot_len (pa_cons (pv 2) pa_nil)) pe_int) (fun _ _ => rfl)) (pv 3) (nomark _))))) (pss_one (ps_expr (pe_bm0 PySem.F.plainAttrs_list PySem.F.slot_list_pop PySem.F.type_list_pop mt_pop (pv 2)))) pss_nil)))
 (pss_one (ps_ret (pe_cmpR (op_eqD hr.units) (pe_callB call_len_seq (by rfl) T.len PySem.boot_len (pa_cons (pv 2) pa_nil)) pe_int (nomark _)))))), ?_⟩
  rintro M G B ds d _ ⟨u, v, rfl, gu, gv, lu, lv, rfl⟩ D fin
  show Run _ _ D M [.d (ts u), .d (ts v), .u, .u] []
  refine q_listT (a_cons (x_vd rfl) a_nil) fun a ha => ?_
  have e0 : leftOf u v 0 = u := by unfold leftOf; simp [eat]
  have er : (v.map PyData.str).reverse = v.reverse.map PyData.str := by rw [List.map_reverse]
  have gl : ∀ i, Good (leftOf u v i) := fun i x hx => by
    obtain ⟨n, e, _⟩ := eat_drop u.reverse (v.reverse.take i)
    unfold leftOf at hx
    rw [e, List.mem_reverse] at hx
    exact gu x (List.mem_reverse.mp (List.mem_of_mem_drop hx))
  refine q_for (i_tup (x_revT (x_vd rfl))) (fun i δ μ => ∃ e3, δ = [.d (ts u), .d (ts v), .m a, e3] ∧ μ = [(a, .lst ((leftOf u v i).map .str))]) ⟨_, rfl, by rw [e0]⟩ ?_ ?_
  · rintro B' hB i d δ1 μ1 hi ⟨e3, rfl, rfl⟩
    rw [er] at hi
    obtain ⟨x, hx, rfl⟩ := ts_back hi
    refine ⟨[3], _, tg_name, ?_⟩
    have st := left_step (u := u) hx
    have gx : tok x := gv x (List.mem_reverse.mp (List.mem_of_getElem? hx))
    have gL := gl i
    rw [st]
    revert gL
    generalize leftOf u v i = l
    intro gL
    show Run _ _ _ _ [.d (ts u), .d (ts v), .m a, .d (.str x)] [(a, .lst (l.map .str))]
    have el : l ≠ [] → ((l.map PyData.str).length : Int) - 1 = ((l.length - 1 : Nat) : Int) := fun h => by
      have := List.length_pos_iff.mpr h
      rw [List.length_map]; omega
    refine r_if (b := decide (l.getLast? = some x)) (t_is (t_and (t_test (x_op (x_cbP (a_cons (x_vm rfl) a_nil) (c_lenL (.m (j := 0) rfl))) x_int o_B0)) (c := PyData.eqv (.str (l.getLast?.getD "")) (.str x)) (fun hb => ?_) (fun _ => rfl)) ?_) (fun hb => ?_) fun hb => ?_
    · have hb := of_decide_eq_true hb
      rw [List.length_map] at hb
      have hne : l ≠ [] := fun z => by rw [z] at hb; simp at hb
      have eu : l[l.length - 1]? = some (l.getLast?.getD "") := by
        rw [← List.getLast?_eq_getElem?]
        cases q : l.getLast? with
        | none => exact absurd (List.getLast?_eq_none_iff.mp q) hne
        | some y => rfl
      refine t_test (x_op (x_op (x_vm rfl) (x_op (x_cbP (a_cons (x_vm rfl) a_nil) (c_lenL (.m (j := 0) rfl))) x_int o_I0) (o_ixL (.m (j := 0) rfl) (by rw [el hne]; exact atI_nat (ts_get eu)))) (x_vd rfl) (o_eqD (.d _) (.d _) (sh_str (good_at gL eu)) (sh_str gx)))
    · rw [List.length_map, eqv_str]
      cases q : l.getLast? with
      | none =>
        have := List.getLast?_eq_none_iff.mp q
        rw [this]; simp
      | some y =>
        have hne : l ≠ [] := fun z => by rw [z] at q; cases q
        have := List.length_pos_iff.mpr hne
        rw [decide_eq_true (by omega : (0 : Int) < (l.length : Int)), Bool.true_and]
        show (y == x) = _
        by_cases z : y = x
        · rw [z]; simp
        · rw [decide_eq_false (fun t => z (Option.some.inj t))]
          exact beq_eq_false_iff_ne.mpr z
    · have hb := of_decide_eq_true hb
      rw [if_pos hb]
      refine r_pop (j := 0) (x_vm rfl) rfl (fun z => ?_) fun σ H o => ⟨_, _, ⟨_, rfl, ?_⟩, o⟩
      · have := List.map_eq_nil_iff.mp z
        rw [this] at hb; cases hb
      · rw [← List.map_dropLast]; rfl
    · rw [if_neg (of_decide_eq_false hb)]
      exact r_next fun σ H o => ⟨_, _, ⟨_, rfl, rfl⟩, o⟩
  · rintro δ1 μ1 ⟨e3, rfl, rfl⟩
    rw [List.length_reverse, List.length_map]
    refine r_retP (x_is (x_op (x_cbP (a_cons (x_vm rfl) a_nil) (c_lenL (.m (j := 0) rfl))) x_int (o_eqD (.d _) (.d _) ((shp_int 0 _).shaped (by decide)) ((shp_int 0 _).shaped (by decide)))) ?_) fin
    rw [eqv_int, List.length_map]
    have h := left_end u v
    by_cases q : u.Sublist v
    · rw [h.mpr q, decide_eq_true q]; rfl
    · rw [decide_eq_false q]
      have : (leftOf u v v.length).length ≠ 0 := fun z => q (h.mp (List.eq_nil_of_length_eq_zero z))
      have : (((leftOf u v v.length).length : Int) == 0) = false := beq_eq_false_iff_ne.mpr (by omega)
      rw [this]
end
end K83
namespace K83
open PySem L2 FD
theorem lc_filter {α : Type} (l : List α) (d0 : α) (p : α → Bool) (g : α → PyData) : lcD (fun i => p (l.getD i d0)) (fun i => g (l.getD i d0)) l.length = (l.filter p).map g := by
  have key : ∀ n, n ≤ l.length → lcD (fun i => p (l.getD i d0)) (fun i => g (l.getD i d0)) n = ((l.take n).filter p).map g := by
    intro n
    induction n with
    | zero => intro _; simp [lcD]
    | succ n ih =>
      intro h
      have hx : l[n]? = some (l.getD n d0) := by simp [show n < l.length by omega]
      rw [take_succ' hx, List.filter_append, List.map_append]
      cases hp : p (l.getD n d0) with
      | true => rw [lcD_yes (b := fun i => p (l.getD i d0)) hp, ih (by omega), List.filter_cons, if_pos hp]; rfl
      | false => rw [lcD_no (b := fun i => p (l.getD i d0)) hp, ih (by omega), List.filter_cons, if_neg (by rw [hp]; decide)]; simp
  rw [key l.length (Nat.le_refl _), List.take_length]
theorem range_map {α β : Type} (l : List α) (d0 : α) (g : α → β) : (List.range l.length).map (fun i => g (l.getD i d0)) = l.map g := by
  refine List.ext_getElem? fun i => ?_
  by_cases h : i < l.length
  · simp [h]
  · rw [List.getElem?_eq_none (by simp; omega), List.getElem?_eq_none (by simp; omega)]
theorem range_flat {α β : Type} (l : List α) (d0 : α) (g : α → List β) : (List.range l.length).flatMap (fun i => g (l.getD i d0)) = l.flatMap g := by
  rw [List.flatMap_def, List.flatMap_def, range_map]
theorem flat_if {α β : Type} (p : α → Bool) (g : α → List β) : ∀ l : List α, (l.flatMap fun x => if p x = true then g x else []) = (l.filter p).flatMap g
  | [] => rfl
  | x :: l => by
    rw [List.flatMap_cons, flat_if p g l, List.filter_cons]
    cases h : p x <;> simp
theorem getD_at {α : Type} {l : List α} {i : Nat} (h : i < l.length) (d : α) : l[i]? = some (l.getD i d) := by simp [h]
theorem sum_le {α : Type} (g : α → Nat) (b : Nat) : ∀ l : List α, (∀ x ∈ l, g x ≤ b) → (l.map g).sum ≤ l.length * b
  | [], _ => by simp
  | x :: l, h => by
    have h1 := h x List.mem_cons_self
    have h2 := sum_le g b l fun y hy => h y (List.mem_cons_of_mem _ hy)
    rw [List.map_cons, List.sum_cons, List.length_cons, Nat.succ_mul]
    omega
/-! ### a making's own names -/
def ownR (m : Mk Str) (k : Str) : List Str := (setT (rowOf m k)).filter fun n => !decide (n ∈ othersOf m k)
def ownM (m : Mk Str) (ks : List Str) : Mk Str := ks.map fun k => (k, ownR m k)
theorem ownM_keys (m : Mk Str) (ks : List Str) : keys (ownM m ks) = ks := by
  show (ks.map fun k => (k, ownR m k)).map (·.1) = ks
  rw [List.map_map]
  exact List.map_id ks
theorem ownR_len {m : Mk Str} (S : SM m) {k : Str} (h : k ∈ keys m) : (ownR m k).length ≤ 5 := by
  have := S.rlen h
  have := setT_len (rowOf m k)
  have := List.length_filter_le (fun n => !decide (n ∈ othersOf m k)) (setT (rowOf m k))
  unfold ownR
  omega
theorem ownR_good {m : Mk Str} (S : SM m) {k : Str} (h : k ∈ keys m) : Good (ownR m k) := fun x hx => S.rgood h x (setT_mem.mp (List.mem_filter.mp hx).1)
theorem own_SM {m : Mk Str} (S : SM m) : SM (ownM m (sortT (keys m))) where
  nd := by
    show (keys (ownM m (sortT (keys m)))).Nodup
    rw [ownM_keys]
    exact (sortT_perm _).nodup_iff.mpr S.nd
  len := by
    unfold ownM
    rw [List.length_map, sortT_len, List.length_map]; exact S.len
  rows := fun p hp => by
    obtain ⟨k, hk, rfl⟩ := List.mem_map.mp hp
    exact ownR_len S (sortT_mem.mp hk)
  good := fun p hp => by
    obtain ⟨k, hk, rfl⟩ := List.mem_map.mp hp
    exact ⟨S.kgood (sortT_mem.mp hk), ownR_good S (sortT_mem.mp hk)⟩
theorem others_map (m : Mk Str) (k : Str) : ((List.range m.length).flatMap fun i => if (!PyData.eqv (.str (m.getD i ("", [])).1) (.str k)) = true then (List.range (((m.getD i ("", [])).2).map PyData.str).length).map (fun j => PyData.str ((m.getD i ("", [])).2.getD j "")) else []) = (othersOf m k).map .str := by
  have h := range_flat m ("", []) fun p => if (!PyData.eqv (.str p.1) (.str k)) = true then (List.range ((p.2).map PyData.str).length).map (fun j => PyData.str (p.2.getD j "")) else []
  rw [h]
  rw [flat_if (fun p : Str × List Str => !PyData.eqv (.str p.1) (.str k))]
  unfold othersOf
  rw [List.map_flatMap]
  have e1 : (fun p : Str × List Str => !PyData.eqv (.str p.1) (.str k)) = fun p => decide (p.1 ≠ k) := by
    funext p
    rw [eqv_str]
    by_cases q : p.1 = k
    · rw [q]; simp
    · rw [decide_eq_true q, show (p.1 == k) = false from beq_eq_false_iff_ne.mpr q]; rfl
  rw [e1]
  congr 1
  funext p
  rw [List.length_map]
  exact range_map p.2 "" PyData.str
def Ron (es : List Ent) (μ : Mem) (mo : MO) (μ' : Mem) : Prop := ∃ (a : Addr) (m : Mk Str), es = [.m a] ∧ μ = [(a, .dK (kd (mkD m)))] ∧ SM m ∧ mo = .dK (kd (mkD (ownM m (sortT (keys m))))) ∧ μ' = μ
section
variable {P : Program} {w : World} {K : PySem.W.Frag} {mg : Str → Option Value} {base : Heap}
abbrev nOd : List Str := ["making", "found", "deed", "others", "other", "name"]
theorem scOd : FnScope nOd ["making"] (defScope sOd) := ⟨rfl, rfl, rfl, by decide +kernel, rfl, by decide +kernel, by decide +kernel⟩
theorem ok_od {f : Addr} {fd : FuncData} (T : Txt mg) (F : Fun K "own_deeds" "own_deeds" sOd f fd) : FnOk P w K mg base CX0 1 f fd ["making"] (spEN K 1 Ron) := by
  refine def_EN F scOd (by decide) rfl fun cdv A outer s H E hr => ?_
  have nd := scOd.nd
  have hu1 := hu_of hr
  refine ⟨_, (pss_cons (ps_set (i := 1) nd rfl (Or.inl rfl) pe_dnewK)
 (pss_cons (ps_for PassesOwn.never rfl (pi_list (pe_callB (call_sortedD rfl) (by rfl) T.sorted (by decide +kernel) (pa_cons (pv 0) pa_nil))) (pg_name (i := 2) nd rfl (Or.inr rfl)) (pss_cons (ps_set (i := 3) nd rfl (Or.inr rfl) (pe_lock (pe_lc2 (own := [("other", 4), ("name", 5)]) (vs1 := [5]) (g := (gName 4)) (g1 := (gName 5)) (tt1 := tYes) rfl nd (pi_keys (pv 0)) (blkOk_by (N := nOd) (sc := defScope sOd) (by decide +kernel)) (by decide) (fun _ _ _ _ _ => (pg_name (i := 4) nd rfl (Or.inl rfl))) (fun _ _ _ _ _ => (pts_one (pt_cmpR (kop_neD (K := K) rfl hr.units) (pv 4) (pv 2) (nomark _)))) (fun _ _ _ _ _ => (kpi_tup (K := K) rfl (pe_dget hu1 (pv 0) (pv 4) (fun _ _ => rfl)))) (fun _ _ _ _ _ => (pg_name (i := 5) nd rfl (Or.inl rfl))) (fun _ _ _ _ _ => pts_nil) (fun _ _ _ _ _ => (pv 5)))))
 (pss_one (ps_asg (pe_callTy call_tuple_of (by rfl) T.tuple (by decide +kernel) (pa_cons (pe_lc (own := [("name", 5)]) (g := (gName 5)) rfl nd (pi_list (pe_sset rfl (by rfl) T.sorted (by rfl) T.set (pe_dget hu1 (pv 0) (pv 2) (fun _ _ => rfl)))) (blkOk_by (N := nOd) (sc := defScope sOd) (by decide +kernel)) (fun _ _ _ _ _ => (pg_name (i := 5) nd rfl (Or.inl rfl))) (fun _ _ _ _ _ => (pts_one (pt_cmpR (kop_notIn (K := K) rfl) (pv 5) (pv 3) (by rfl)))) (fun _ _ _ _ _ => (pv 5))) pa_nil)) (pg_sub (pv 1) (pv 2) (set_dict hu1))))))
 (pss_one (ps_ret (pv 1))))), ?_⟩
  rintro M G B es μ mo μ' ⟨a, m, rfl, rfl, S, rfl, rfl⟩ D fin
  show Run _ _ D M [.m a, .u, .u, .u, .u, .u] [(a, .dK (kd (mkD m)))]
  refine q_newD fun p hp => ?_
  have hks := sortT_len (keys m)
  rw [show (keys m).length = m.length from List.length_map ..] at hks
  refine q_for (i_list (x_cbP (a_cons (x_vm rfl) a_nil) (c_sortedD (mo := .dK (kd (mkD m))) (List.mem_cons_of_mem _ List.mem_cons_self) (.inl rfl) (by rw [mkD_len]; have := S.len; omega))))
    (fun i δ μ => ∃ e2 e3 e4 e5, δ = [.m a, .m p, e2, e3, e4, e5] ∧ μ = [(p, .dK (kd (mkD (ownM m ((sortT (keys m)).take i))))), (a, .dK (kd (mkD m)))]) ⟨_, _, _, _, rfl, rfl⟩ ?_ ?_
  · rintro B' hB i d δ1 μ1 hi ⟨e2, e3, e4, e5, rfl, rfl⟩
    rw [mkD_keys] at hi
    obtain ⟨k, hk, rfl⟩ := ts_back hi
    have hkm : k ∈ keys m := sortT_mem.mp (List.mem_of_getElem? hk)
    refine ⟨[2], _, tg_name, ?_⟩
    show Run _ _ _ _ [.m a, .m p, .d (.str k), e3, e4, e5] _
    refine q_asg (e := .d (.list ((othersOf m k).map .str))) (x_lock (j := 1) rfl fun od ws => ?_) ?_
    · show EvX _ _ _ _ [(p, .dK (kd (mkD (ownM m ((sortT (keys m)).take i))))), (a, .fz od ws (kd (mkD m)))] [(p, .dK (kd (mkD (ownM m ((sortT (keys m)).take i))))), (a, .fz od ws (kd (mkD m)))] _
      have hin : (a, MO.fz od ws (kd (mkD m))) ∈ [(p, MO.dK (kd (mkD (ownM m ((sortT (keys m)).take i))))), (a, .fz od ws (kd (mkD m)))] := List.mem_cons_of_mem _ List.mem_cons_self
      have hl : (((mkD m).map (·.1)).map PyData.str).length = m.length := by rw [mkD_keys, List.length_map, List.length_map]
      have e := others_map m k
      rw [← e, ← hl]
      refine x_lc2P (fun i => !PyData.eqv (.str (m.getD i ("", [])).1) (.str k)) (fun i => ((m.getD i ("", [])).2).map PyData.str) (fun i j => PyData.str ((m.getD i ("", [])).2.getD j "")) (i_keys (x_vm rfl) hin) (fun B D σ H o => ok_frz hin o) ?_ ?_
      · rw [hl]
        have := sum_le (fun i => (((m.getD i ("", [])).2).map PyData.str).length) 5 (List.range m.length) fun i hi => by
          have hi := List.mem_range.mp hi
          rw [List.length_map]
          exact S.rows _ (List.mem_of_getElem? (getD_at hi ("", [])))
        rw [List.length_range] at this
        have := S.len
        omega
      · intro i' d hd G' B'' D'
        have hi' := (List.getElem?_eq_some_iff.mp hd).1
        rw [hl] at hi'
        have ep := getD_at hi' (("", []) : Str × List Str)
        have hmem := List.mem_of_getElem? ep
        have ed : d = .str (m.getD i' ("", [])).1 := by
          rw [mkD_keys, List.getElem?_map, List.getElem?_map, ep] at hd
          exact (Option.some.inj hd).symm
        subst ed
        have er : rowOf m (m.getD i' ("", [])).1 = (m.getD i' ("", [])).2 := rowOf_at S.nd hmem
        have hkk : (m.getD i' ("", [])).1 ∈ keys m := List.mem_map.mpr ⟨_, hmem, rfl⟩
        refine ⟨[4], [.m a, .m p, .d (.str k), e3, .d (.str (m.getD i' ("", [])).1), .u], tg_name, by simp, t_test (x_op (x_vd rfl) (x_vd rfl) (o_neD (.d _) (.d _) (sh_str (S.kgood hkk)) (sh_str (S.kgood hkm)))), fun _ => ⟨i_tup (x_is (x_dget (mo := .fz od ws (kd (mkD m))) (x_vm rfl) (x_vd rfl) hin (.inr ⟨od, ws, rfl⟩) (mk_val hkk)) (by rw [er]; rfl)), fun j e he => ?_⟩⟩
        obtain ⟨x, hx, rfl⟩ := ts_back he
        refine ⟨[5], [.m a, .m p, .d (.str k), e3, .d (.str (m.getD i' ("", [])).1), .d (.str x)], tg_name, fun k hk => hk, fun G B => x_is (x_vd rfl) ?_⟩
        rw [List.getD_eq_getElem?_getD, hx]; rfl
    · show Run _ _ _ _ [.m a, .m p, .d (.str k), .d (.list ((othersOf m k).map .str)), e4, e5] _
      have hgs : Good (setT (rowOf m k)) := fun x hx => S.rgood hkm x (setT_mem.mp hx)
      have hnk : k ∉ (mkD (ownM m ((sortT (keys m)).take i))).map (·.1) := by
        rw [mkD_keys, ownM_keys]
        intro q
        obtain ⟨n, hn⟩ := List.getElem?_of_mem q
        have hlt := (List.getElem?_eq_some_iff.mp hn).1
        rw [List.length_take] at hlt
        rw [List.getElem?_take, if_pos (by omega)] at hn
        have hnd : (sortT (keys m)).Nodup := (sortT_perm _).nodup_iff.mpr S.nd
        have := nd_ix hnd hn hk
        omega
      refine r_dput (j := 0) (d := ts (ownR m k)) (l := mkD (ownM m ((sortT (keys m)).take i))) (x_is (x_cbP (a_cons (x_lc (fun _ => [(p, .dK (kd (mkD (ownM m ((sortT (keys m)).take i))))), (a, .dK (kd (mkD m)))]) (fun i => !decide ((setT (rowOf m k)).getD i "" ∈ othersOf m k)) (fun i => .str ((setT (rowOf m k)).getD i "")) (i_list (x_sset (zs := rowOf m k) (x_dget (mo := .dK (kd (mkD m))) (x_vm rfl) (x_vd rfl) (List.mem_cons_of_mem _ List.mem_cons_self) (.inl rfl) (mk_val hkm)) (by have := S.rlen hkm; omega))) ?_ fun i' d hd G' B'' D' => ?_) a_nil) (c_tupleL (.d _))) ?_) (x_vm rfl) (x_vd rfl) rfl hnk ?_ fun σ H o => ⟨_, _, ⟨_, _, _, _, rfl, ?_⟩, o⟩
      · rw [List.length_map]
        have := setT_len (rowOf m k)
        have := S.rlen hkm
        omega
      · obtain ⟨x, hx, rfl⟩ := ts_back hd
        have ex : (setT (rowOf m k)).getD i' "" = x := by rw [List.getD_eq_getElem?_getD, hx]; rfl
        exact ⟨[5], [.m a, .m p, .d (.str k), .d (.list ((othersOf m k).map .str)), e4, .d (.str x)], _, tg_name, fun k hk => hk, t_is (t_test (x_op (x_vd rfl) (x_vd rfl) (o_notInL (.d _)))) (by rw [ex]), fun _ => x_is (x_vd rfl) (by rw [ex]), fun _ => rfl⟩
      · rw [List.length_map]
        have := lc_filter (setT (rowOf m k)) "" (fun n => !decide (n ∈ othersOf m k)) PyData.str
        rw [this]
        rfl
      · rw [mkD_len]
        unfold ownM
        rw [List.length_map, List.length_take, hks]
        have := S.len
        omega
      · rw [take_succ' hk]
        unfold ownM mkD
        rw [List.map_append, List.map_append]
        rfl
  · rintro δ1 μ1 ⟨e2, e3, e4, e5, rfl, rfl⟩
    have eL : (sortT (keys m)).take (((sortT ((mkD m).map (·.1))).map PyData.str).length) = sortT (keys m) := List.take_of_length_le (by rw [mkD_keys, List.length_map]; exact Nat.le_refl _)
    rw [eL]
    exact r_retEN (x_vm rfl) List.mem_cons_self hp (fun q hq => List.mem_cons_of_mem _ hq) fin
end
end K83
namespace K83
open PySem L2 FD
theorem take_filter_snoc {α : Type} (l : List α) (p : α → Bool) {i : Nat} {x : α} (h : l[i]? = some x) : (l.take (i + 1)).filter p = if p x = true then (l.take i).filter p ++ [x] else (l.take i).filter p := by
  rw [take_succ' h, List.filter_append, List.filter_cons]
  cases p x <;> simp
theorem any_others (m : Mk Str) (k one : Str) : (((m.filter fun p => !PyData.eqv (.str p.1) (.str k)).map fun p => decide (one ∈ p.2)).any id) = decide (one ∈ othersOf m k) := by
  have e1 : (fun p : Str × List Str => !PyData.eqv (.str p.1) (.str k)) = fun p => decide (p.1 ≠ k) := by
    funext p
    rw [eqv_str]
    by_cases q : p.1 = k
    · rw [q]; simp
    · rw [decide_eq_true q, show (p.1 == k) = false from beq_eq_false_iff_ne.mpr q]; rfl
  rw [e1, List.any_map, Bool.eq_iff_iff, List.any_eq_true, decide_eq_true_eq]
  unfold othersOf
  rw [List.mem_flatMap]
  constructor
  · rintro ⟨p, h1, h2⟩
    exact ⟨p, h1, of_decide_eq_true h2⟩
  · rintro ⟨p, h1, h2⟩
    exact ⟨p, h1, decide_eq_true h2⟩
section
variable {P : Program} {w : World} {K : PySem.W.Frag} {mg : Str → Option Value} {base : Heap}
abbrev nLo : List Str := ["_law_making_here", "_law_found", "_law_deed", "_law_lot", "_law_one", "_law_other"]
theorem scLo : FnScope nLo ["_law_making_here"] (defScope sLo) := ⟨rfl, rfl, rfl, by decide +kernel, rfl, by decide +kernel, by decide +kernel⟩
theorem ok_lo {f : Addr} {fd : FuncData} (T : Txt mg) (F : Fun K "_law_owned" "_law_owned" sLo f fd) : FnOk P w K mg base CX0 1 f fd ["_law_making_here"] (spEN K 1 Ron) := by
  refine def_EN F scLo (by decide) rfl fun cdv A outer s H E hr => ?_
  have nd := scLo.nd
  have hu1 := hu_of hr
  refine ⟨_, (pss_cons (ps_set (i := 1) nd rfl (Or.inl rfl) pe_dnewK)
 (pss_cons (ps_for PassesOwn.never rfl (pi_list (pe_callB cr_sortedS (by rfl) T.sorted (by decide +kernel) (pa_cons (pe_callTy (call_listD rfl) (by rfl) T.list (by decide +kernel) (pa_cons (pv 0) pa_nil)) pa_nil))) (pg_name (i := 2) nd rfl (Or.inr rfl)) (pss_cons (ps_set (i := 3) nd rfl (Or.inl rfl) (pe_lst pa_nil))
 (pss_cons (ps_for PassesOwn.never rfl (pi_list (pe_sset rfl (by rfl) T.sorted (by rfl) T.set (pe_dget hu1 (pv 0) (pv 2) (fun _ _ => rfl)))) (pg_name (i := 4) nd rfl (Or.inr rfl)) (pss_one (ps_if (pt_not (pt_val (pe_callB (cr_any rfl) (by rfl) T.any (by decide +kernel) (pa_cons (pe_lock (pe_lc (own := [("_law_other", 5)]) (g := (gName 5)) rfl nd (pi_keys (pv 0)) (blkOk_by (N := nLo) (sc := defScope sLo) (by decide +kernel)) (fun _ _ _ _ _ => (pg_name (i := 5) nd rfl (Or.inl rfl))) (fun _ _ _ _ _ => (pts_one (pt_cmpR (kop_neD (K := K) rfl hr.units) (pv 5) (pv 2) (nomark _)))) (fun _ _ _ _ _ => (pe_cmpR (kop_in (K := K) rfl) (pv 4) (pe_dget hu1 (pv 0) (pv 5) (fun _ _ => rfl)) (by rfl))))) pa_nil)))) (pss_one (ps_expr (pe_bm PySem.F.plainAttrs_list PySem.F.slot_list_append PySem.F.type_list_append mt_append (pv 3) (pa_cons (pv 4) pa_nil)))) pss_nil)))
 (pss_one (ps_asg (pe_callTy call_tuple_of (by rfl) T.tuple (by decide +kernel) (pa_cons (pv 3) pa_nil)) (pg_sub (pv 1) (pv 2) (set_dict hu1)))))))
 (pss_one (ps_ret (pv 1))))), ?_⟩
  rintro M G B es μ mo μ' ⟨a, m, rfl, rfl, S, rfl, rfl⟩ D fin
  show Run _ _ D M [.m a, .u, .u, .u, .u, .u] [(a, .dK (kd (mkD m)))]
  refine q_newD fun p hp => ?_
  have hks := sortT_len (keys m)
  rw [show (keys m).length = m.length from List.length_map ..] at hks
  have hsorted : sortT ((mkD m).map (·.1)) = sortT (keys m) := by rw [mkD_keys]
  refine q_for (i_list (x_cbP (a_cons (x_cbP (a_cons (x_vm rfl) a_nil) (c_listD (mo := .dK (kd (mkD m))) (List.mem_cons_of_mem _ List.mem_cons_self) (.inl rfl))) a_nil) (c_sortedS (.d _) (by rw [List.length_map, mkD_len]; have := S.len; omega))))
    (fun i δ μ => ∃ e2 e3 e4 e5, δ = [.m a, .m p, e2, e3, e4, e5] ∧ μ = [(p, .dK (kd (mkD (ownM m ((sortT (keys m)).take i))))), (a, .dK (kd (mkD m)))]) ⟨_, _, _, _, rfl, rfl⟩ ?_ ?_
  · rintro B' hB i d δ1 μ1 hi ⟨e2, e3, e4, e5, rfl, rfl⟩
    rw [hsorted] at hi
    obtain ⟨k, hk, rfl⟩ := ts_back hi
    have hkm : k ∈ keys m := sortT_mem.mp (List.mem_of_getElem? hk)
    refine ⟨[2], _, tg_name, ?_⟩
    show Run _ _ _ _ [.m a, .m p, .d (.str k), e3, e4, e5] _
    refine q_new (ds := []) a_nil (by simp) fun q hq => ?_
    have hgs : Good (setT (rowOf m k)) := fun x hx => S.rgood hkm x (setT_mem.mp hx)
    have hsl : (setT (rowOf m k)).length ≤ 5 := by have := setT_len (rowOf m k); have := S.rlen hkm; omega
    refine q_for (i_list (x_sset (zs := rowOf m k) (x_dget (mo := .dK (kd (mkD m))) (x_vm rfl) (x_vd rfl) (List.mem_cons_of_mem _ (List.mem_cons_of_mem _ List.mem_cons_self)) (.inl rfl) (mk_val hkm)) (by have := S.rlen hkm; omega)))
      (fun j δ μ => ∃ e4 e5, δ = [.m a, .m p, .d (.str k), .m q, e4, e5] ∧ μ = [(q, .lst ((((setT (rowOf m k)).take j).filter fun n => !decide (n ∈ othersOf m k)).map .str)), (p, .dK (kd (mkD (ownM m ((sortT (keys m)).take i))))), (a, .dK (kd (mkD m)))]) ⟨_, _, rfl, rfl⟩ ?_ ?_
    · rintro B2 hB2 j d δ2 μ2 hj ⟨e4, e5, rfl, rfl⟩
      obtain ⟨x, hx, rfl⟩ := ts_back hj
      refine ⟨[4], _, tg_name, ?_⟩
      show Run _ _ _ _ [.m a, .m p, .d (.str k), .m q, .d (.str x), e5] _
      have st := take_filter_snoc (setT (rowOf m k)) (fun n => !decide (n ∈ othersOf m k)) hx
      rw [st]
      have hfl : (((setT (rowOf m k)).take j).filter fun n => !decide (n ∈ othersOf m k)).length ≤ 5 := by
        have := List.length_filter_le (fun n => !decide (n ∈ othersOf m k)) ((setT (rowOf m k)).take j)
        rw [List.length_take] at this
        omega
      revert hfl
      generalize ((setT (rowOf m k)).take j).filter (fun n => !decide (n ∈ othersOf m k)) = lot
      intro hfl
      generalize hDp : MO.dK (kd (mkD (ownM m ((sortT (keys m)).take i)))) = DP
      refine r_if (b := !decide (x ∈ othersOf m k)) (t_not (t_B (x_is (x_cbP (e := .d (.bool (decide (x ∈ othersOf m k)))) (a_cons (e := .d (.list (((m.filter fun p => !PyData.eqv (.str p.1) (.str k)).map fun p => decide (x ∈ p.2)).map .bool))) (x_lock (j := 2) rfl fun od ws => ?_) a_nil) ?_) rfl))) (fun hb => ?_) fun hb => ?_
      · show EvX _ _ _ _ [(q, .lst (lot.map .str)), (p, DP), (a, .fz od ws (kd (mkD m)))] [(q, .lst (lot.map .str)), (p, DP), (a, .fz od ws (kd (mkD m)))] _
        have hin : (a, MO.fz od ws (kd (mkD m))) ∈ [(q, MO.lst (lot.map .str)), (p, DP), (a, .fz od ws (kd (mkD m)))] := by simp
        have hl : (((mkD m).map (·.1)).map PyData.str).length = m.length := by rw [mkD_keys, List.length_map, List.length_map]
        have e := lc_filter m (("", []) : Str × List Str) (fun p => !PyData.eqv (.str p.1) (.str k)) (fun p => PyData.bool (decide (x ∈ p.2)))
        refine x_is (x_lcN (fun _ => [(q, .lst (lot.map .str)), (p, DP), (a, .fz od ws (kd (mkD m)))]) (fun i => !PyData.eqv (.str (m.getD i ("", [])).1) (.str k)) (fun i => .bool (decide (x ∈ (m.getD i ("", [])).2))) (i_keys (x_vm rfl) hin) (fun i B D σ H _ o => ok_frz hin o) (by rw [hl]; have := S.len; omega) fun i' d hd G' B'' D' => ?_) (by rw [hl, e, List.map_map]; rfl)
        have hi' := (List.getElem?_eq_some_iff.mp hd).1
        rw [hl] at hi'
        have ep := getD_at hi' (("", []) : Str × List Str)
        have hmem := List.mem_of_getElem? ep
        have ed : d = .str (m.getD i' ("", [])).1 := by
          rw [mkD_keys, List.getElem?_map, List.getElem?_map, ep] at hd
          exact (Option.some.inj hd).symm
        subst ed
        have er : rowOf m (m.getD i' ("", [])).1 = (m.getD i' ("", [])).2 := rowOf_at S.nd hmem
        have hkk : (m.getD i' ("", [])).1 ∈ keys m := List.mem_map.mpr ⟨_, hmem, rfl⟩
        exact ⟨[5], [.m a, .m p, .d (.str k), .m q, .d (.str x), .d (.str (m.getD i' ("", [])).1)], _, tg_name, fun k hk => hk, t_test (x_op (x_vd rfl) (x_vd rfl) (o_neD (.d _) (.d _) (sh_str (S.kgood hkk)) (sh_str (S.kgood hkm)))), fun _ => x_op (x_vd rfl) (x_is (x_dget (mo := .fz od ws (kd (mkD m))) (x_vm rfl) (x_vd rfl) hin (.inr ⟨od, ws, rfl⟩) (mk_val hkk)) (by rw [er]; rfl)) o_inT, fun _ => rfl⟩
      · rw [← any_others m k x]
        exact c_any (.d _)
      · rw [if_pos hb]
        exact r_app (j := 0) (d := .str x) (x_vm rfl) (x_vd rfl) rfl rfl (by rw [List.length_map]; omega) fun σ H o => ⟨_, _, ⟨_, _, rfl, by rw [List.map_append]; rfl⟩, o⟩
      · rw [if_neg (by rw [hb]; exact Bool.false_ne_true)]
        exact r_next fun σ H o => ⟨_, _, ⟨_, _, rfl, rfl⟩, o⟩
    · rintro δ2 μ2 ⟨e4, e5, rfl, rfl⟩
      rw [List.length_map, List.take_length]
      have hnk : k ∉ (mkD (ownM m ((sortT (keys m)).take i))).map (·.1) := by
        rw [mkD_keys, ownM_keys]
        intro q
        obtain ⟨n, hn⟩ := List.getElem?_of_mem q
        have hlt := (List.getElem?_eq_some_iff.mp hn).1
        rw [List.length_take] at hlt
        rw [List.getElem?_take, if_pos (by omega)] at hn
        have hnd : (sortT (keys m)).Nodup := (sortT_perm _).nodup_iff.mpr S.nd
        have := nd_ix hnd hn hk
        omega
      refine r_dput (j := 1) (d := ts (ownR m k)) (l := mkD (ownM m ((sortT (keys m)).take i))) (x_cbP (a_cons (x_vm rfl) a_nil) (c_tupleL (.m (j := 0) rfl))) (x_vm rfl) (x_vd rfl) rfl hnk ?_ fun σ H o => ⟨_, _, ⟨_, _, _, _, rfl, ?_⟩, (o.mems (μ' := [(p, .dK (kd (mkD (ownM m ((sortT (keys m)).take i)) ++ [(k, ts (ownR m k))]))), (a, .dK (kd (mkD m)))]) (fun r hr => List.mem_cons_of_mem _ hr) (List.nodup_cons.mp o.nd).2).drop (fun b hb => List.mem_cons_of_mem _ hb) (fun r hr => ?_) (fun b hb => List.mem_cons_of_mem _ hb)⟩
      · rw [mkD_len]
        unfold ownM
        rw [List.length_map, List.length_take, hks]
        have := S.len
        omega
      · rw [take_succ' hk]
        unfold ownM mkD
        rw [List.map_append, List.map_append]
        rfl
      · have h1 := o.mem r (List.mem_cons_of_mem _ hr)
        rcases List.mem_cons.mp h1.1 with z | z
        · have hnd := (List.nodup_cons.mp o.nd).1
          exact absurd (List.mem_map.mpr ⟨r, hr, z⟩) hnd
        · exact z
  · rintro δ1 μ1 ⟨e2, e3, e4, e5, rfl, rfl⟩
    have eL : (sortT (keys m)).take (((sortT ((mkD m).map (·.1))).map PyData.str).length) = sortT (keys m) := List.take_of_length_le (by rw [mkD_keys, List.length_map]; exact Nat.le_refl _)
    rw [eL]
    exact r_retEN (x_vm rfl) List.mem_cons_self hp (fun q hq => List.mem_cons_of_mem _ hq) fin
end
end K83
namespace FD
open PySem L2 Evl
theorem q_unpN2 {C : Cfg} {M : List Addr} {δ : List Ent} {μ : Mem} {i j : Nat} {z : Int} {t2 : TS} {D : Ends} (k : ∀ p, p ∉ M → Run C t2 D (p :: M) ((δ.set i (.m p)).set j (.d (.int z))) ((p, .lst []) :: μ)) :
    Run C (tSeq (tAsg (tTup (tCons (tLst tNil) (tCons (tC (.int z)) tNil))) (gTup C.K 2 (gCons (gName i) (gCons (gName j) gNil)))) t2) D M δ μ := fun σ H o => by
  refine ⟨sz_of (by simp), fun p hp => ⟨sz_of (by simp), fun q hq => ?_⟩⟩
  have o2 : Ok C (p :: M) δ ((p, .lst []) :: μ) σ (upd H p (.lst [])) := o.new hp (mo := .lst []) (ho := .lst []) ⟨[], upd_same, .nil⟩
  have o3 := o2.grow (Ex.new (o := .tup [.ref p, .int z]) hq)
  exact ⟨q, [.ref p, .int z], rfl, SqT.of upd_same, rfl, _, _, rfl, _, _, rfl, rfl, k p (o.fresh hp) _ _ ((o3.set i (e := .m p) rfl).set j (e := .d (.int z)) (.int z))⟩
end FD
namespace K83
open PySem L2 FD
/-! ### the least numbers, that they are -/
section
variable {α : Type} [DecidableEq α]
theorem min_nat : ∀ l : List Nat, l ≠ [] → ∃ m, m ∈ l ∧ ∀ y ∈ l, m ≤ y
  | [], h => absurd rfl h
  | [a], _ => ⟨a, List.mem_cons_self, fun y hy => by
    have : y = a := by simpa using hy
    omega⟩
  | a :: b :: r, _ => by
    obtain ⟨m, h1, h2⟩ := min_nat (b :: r) (by simp)
    by_cases h : a ≤ m
    · exact ⟨a, List.mem_cons_self, fun y hy => by
        rcases List.mem_cons.mp hy with q | q
        · omega
        · have := h2 y q; omega⟩
    · exact ⟨m, List.mem_cons_of_mem _ h1, fun y hy => by
        rcases List.mem_cons.mp hy with q | q
        · omega
        · exact h2 y q⟩
theorem least_ex {m : Mk α} {row names : List α} (hc : ∀ p, p < row.length → ∃ n ∈ names, p < fit row p (rowOf m n)) : ∀ k, k ≤ row.length → ∃ F, Least m row names F (row.length - k)
  | 0, _ => ⟨fun _ => 0, rfl, fun p h1 h2 => by omega, fun p h1 h2 => by omega⟩
  | k + 1, h => by
    obtain ⟨F, L⟩ := least_ex hc k (by omega)
    let p0 := row.length - (k + 1)
    have hp0 : p0 < row.length := by show row.length - (k + 1) < _; omega
    let vals := (names.filter fun n => decide (p0 < fit row p0 (rowOf m n))).map fun n => F (fit row p0 (rowOf m n))
    have hne : vals ≠ [] := by
      obtain ⟨n, hn, hlt⟩ := hc p0 hp0
      intro z
      have : F (fit row p0 (rowOf m n)) ∈ vals := List.mem_map.mpr ⟨n, List.mem_filter.mpr ⟨hn, decide_eq_true hlt⟩, rfl⟩
      rw [z] at this; cases this
    obtain ⟨v, hv1, hv2⟩ := min_nat vals hne
    obtain ⟨n, hn, hvn⟩ := List.mem_map.mp hv1
    obtain ⟨hn1, hn2⟩ := List.mem_filter.mp hn
    have hn2 := of_decide_eq_true hn2
    refine ⟨fun p => if p = p0 then 1 + v else F p, ?_, fun p h1 h2 => ?_, fun p h1 h2 x hx hlt => ?_⟩
    · show (if row.length = p0 then 1 + v else F row.length) = 0
      rw [if_neg (by omega)]; exact L.end_
    · by_cases e : p = p0
      · subst e
        refine ⟨n, hn1, hn2, ?_⟩
        show (if p0 = p0 then 1 + v else F p0) = 1 + (if fit row p0 (rowOf m n) = p0 then 1 + v else F (fit row p0 (rowOf m n)))
        rw [if_pos rfl, if_neg (by omega), hvn]
      · obtain ⟨x, hx, q1, q2⟩ := L.one p (by show row.length - k ≤ p; have : row.length - (k + 1) ≤ p := h1; have : p ≠ row.length - (k + 1) := e; omega) h2
        refine ⟨x, hx, q1, ?_⟩
        show (if p = p0 then 1 + v else F p) = 1 + (if fit row p (rowOf m x) = p0 then 1 + v else F (fit row p (rowOf m x)))
        rw [if_neg e, if_neg (by have : p0 ≤ p := h1; omega), q2]
    · show (if p = p0 then 1 + v else F p) ≤ 1 + (if fit row p (rowOf m x) = p0 then 1 + v else F (fit row p (rowOf m x)))
      have hge : p0 ≤ p := h1
      rw [if_neg (show fit row p (rowOf m x) ≠ p0 by omega)]
      by_cases e : p = p0
      · subst e
        rw [if_pos rfl]
        have := hv2 (F (fit row p0 (rowOf m x))) (List.mem_map.mpr ⟨x, List.mem_filter.mpr ⟨hx, decide_eq_true hlt⟩, rfl⟩)
        omega
      · rw [if_neg e]
        exact L.le p (by have : p ≠ row.length - (k + 1) := e; have : row.length - (k + 1) ≤ p := h1; omega) h2 x hx hlt
end
theorem eqv_ts_nil (r : List Str) : PyData.eqv (ts r) (.tuple []) = r.isEmpty := by
  cases r with
  | nil => simp [ts, PyData.eqv, PyData.eqvAll]
  | cons x r => simp [ts, PyData.eqv, PyData.eqvAll]
def ownedOf (m : Mk Str) : Mk Str := ownM m (sortT (keys m))
def exactB (m : Mk Str) : Bool := ((ownedOf m).map fun p => !p.2.isEmpty).all id
def Rie (es : List Ent) (μ : Mem) (d : PyData) (μ' : Mem) : Prop := ∃ (a : Addr) (m : Mk Str), es = [.m a] ∧ μ = [(a, .dK (kd (mkD m)))] ∧ SM m ∧ d = .bool (exactB m) ∧ μ' = μ
section
variable {P : Program} {w : World} {K : PySem.W.Frag} {mg : Str → Option Value} {base : Heap}
abbrev nIe : List Str := ["making", "owned", "deed"]
theorem scIe : FnScope nIe ["making"] (defScope sIe) := ⟨rfl, rfl, rfl, by decide +kernel, rfl, by decide +kernel, by decide +kernel⟩
theorem ok_ie {f : Addr} {fd : FuncData} (T : Txt mg) (F : Fun K "is_exact" "is_exact" sIe f fd) {f1 : Addr} {fd1 : FuncData} (H1 : Has K mg "own_deeds" sOd ["making"] f1 fd1) : FnOk P w K mg base CX0 2 f fd ["making"] (spE K 1 Rie) := by
  have G1 : FnOk P w K mg base CX0 1 f1 fd1 ["making"] (spEN K 1 Ron) := ok_od T H1.F
  refine def_E F scIe (by decide) rfl fun cdv A outer s H E hr => ?_
  have nd := scIe.nd
  have hu1 := hu_of hr
  refine ⟨_, (pss_cons (ps_set (i := 1) nd rfl (Or.inr rfl) (pe_call G1 hr rfl H1.m H1.F.kp H1.b .nil pass0 (pa_cons (pv 0) pa_nil)))
 (pss_one (ps_ret (pe_callB (cr_all rfl) (by rfl) T.all (by decide +kernel) (pa_cons (pe_lock (pe_lc (own := [("deed", 2)]) (g := (gName 2)) (tt := tYes) rfl nd (pi_keys (pv 1)) (blkOk_by (N := nIe) (sc := defScope sIe) (by decide +kernel)) (fun _ _ _ _ _ => (pg_name (i := 2) nd rfl (Or.inl rfl))) (fun _ _ _ _ _ => pts_nil) (fun _ _ _ _ _ => (pe_cmpR (kop_neD (K := K) rfl hr.units) (pe_dget hu1 (pv 1) (pv 2) (fun _ _ => rfl)) (pe_tup pa_nil) (nomark _))))) pa_nil))))), ?_⟩
  rintro M G B es μ d μ' ⟨a, m, rfl, rfl, S, rfl, rfl⟩ D fin
  show Run _ _ D M [.m a, .u, .u] [(a, .dK (kd (mkD m)))]
  refine q_asgEN (a_cons (x_vm rfl) a_nil) (swap_same List.mem_cons_self (by simp)) (by simp) ⟨a, m, rfl, rfl, S, rfl, rfl⟩ fun p hp => ?_
  show Run _ _ D (p :: M) [.m a, .m p, .u] [(p, .dK (kd (mkD (ownedOf m)))), (a, .dK (kd (mkD m)))]
  have SO : SM (ownedOf m) := own_SM S
  revert SO
  unfold exactB at fin
  revert fin
  generalize ownedOf m = O
  intro fin SO
  refine r_retE (x_cbP (e := .d (.bool ((O.map fun p => !p.2.isEmpty).all id))) (a_cons (e := .d (.list ((O.map fun p => !p.2.isEmpty).map .bool))) (x_lock (j := 0) rfl fun od ws => ?_) a_nil) (c_all (.d _))) (fun r hr => List.mem_cons_of_mem _ hr) fin
  show EvX _ _ _ _ [(p, .fz od ws (kd (mkD O))), (a, .dK (kd (mkD m)))] [(p, .fz od ws (kd (mkD O))), (a, .dK (kd (mkD m)))] _
  have hin : (p, MO.fz od ws (kd (mkD O))) ∈ [(p, MO.fz od ws (kd (mkD O))), (a, .dK (kd (mkD m)))] := List.mem_cons_self
  have hl : (((mkD O).map (·.1)).map PyData.str).length = O.length := by rw [mkD_keys, List.length_map, List.length_map]
  have e := range_map O (("", []) : Str × List Str) fun p => PyData.bool (!p.2.isEmpty)
  refine x_is (x_lcN (fun _ => [(p, .fz od ws (kd (mkD O))), (a, .dK (kd (mkD m)))]) (fun _ => true) (fun i => .bool (!(O.getD i ("", [])).2.isEmpty)) (i_keys (x_vm rfl) hin) (fun i B D σ H _ o => ok_frz hin o) (by rw [hl]; have := SO.len; omega) fun i' d hd G' B'' D' => ?_) (by rw [hl, lcD_all, e, List.map_map]; rfl)
  have hi' := (List.getElem?_eq_some_iff.mp hd).1
  rw [hl] at hi'
  have ep := getD_at hi' (("", []) : Str × List Str)
  have hmem := List.mem_of_getElem? ep
  have ed : d = .str (O.getD i' ("", [])).1 := by
    rw [mkD_keys, List.getElem?_map, List.getElem?_map, ep] at hd
    exact (Option.some.inj hd).symm
  subst ed
  have er : rowOf O (O.getD i' ("", [])).1 = (O.getD i' ("", [])).2 := rowOf_at SO.nd hmem
  have hkk : (O.getD i' ("", [])).1 ∈ keys O := List.mem_map.mpr ⟨_, hmem, rfl⟩
  refine ⟨[2], [.m a, .m p, .d (.str (O.getD i' ("", [])).1)], _, tg_name, fun k hk => hk, t_yes, fun _ => x_is (x_op (x_dget (mo := .fz od ws (kd (mkD O))) (x_vm rfl) (x_vd rfl) hin (.inr ⟨od, ws, rfl⟩) (mk_val hkk)) (x_tup (ds := []) a_nil (by simp)) (o_neD (.d _) (.d _) ((shp_ts 0 (SO.rgood hkk)).shaped (by decide)) ((shp_tuple (n := 0) (l := []) (fun d hd => by cases hd)).shaped (by decide)))) ?_, fun z => nomatch z⟩
  rw [eqv_ts_nil, er]
end
end K83
namespace K83
open PySem L2 FD
def fwL (F : Nat → Nat) (len place : Nat) : List PyData := (List.range (len + 1)).map fun (j : Nat) => PyData.int (if place ≤ j then (F j : Int) else 0)
theorem fw_len (F : Nat → Nat) (len place : Nat) : (fwL F len place).length = len + 1 := by simp [fwL]
theorem fw_get {F : Nat → Nat} {len place j : Nat} (h : place ≤ j) (hj : j ≤ len) : (fwL F len place)[j]? = some (.int (F j : Int)) := by
  unfold fwL
  rw [List.getElem?_map, List.getElem?_range (by omega)]
  simp [h]
theorem fw_set {F : Nat → Nat} {len pl : Nat} (h : pl ≤ len) : (fwL F len (pl + 1)).set pl (.int (F pl : Int)) = fwL F len pl := by
  refine List.ext_getElem? fun j => ?_
  by_cases hj : j < len + 1
  · by_cases e : pl = j
    · subst e
      rw [List.getElem?_set_self (by rw [fw_len]; omega), fw_get (Nat.le_refl _) h]
    · rw [List.getElem?_set_ne e]
      unfold fwL
      rw [List.getElem?_map, List.getElem?_map, List.getElem?_range hj]
      show some (PyData.int (if pl + 1 ≤ j then (F j : Int) else 0)) = some (PyData.int (if pl ≤ j then (F j : Int) else 0))
      by_cases q : pl + 1 ≤ j
      · rw [if_pos q, if_pos (by omega)]
      · rw [if_neg q, if_neg (by omega)]
  · rw [List.getElem?_eq_none (by rw [List.length_set, fw_len]; omega), List.getElem?_eq_none (by rw [fw_len]; omega)]
theorem fw_zero {F : Nat → Nat} {len : Nat} (h : F len = 0) : fwL F len len = List.replicate (len + 1) (.int 0) := by
  refine List.ext_getElem? fun j => ?_
  by_cases hj : j < len + 1
  · rw [List.getElem?_replicate, if_pos hj]
    unfold fwL
    rw [List.getElem?_map, List.getElem?_range hj]
    show some (PyData.int (if len ≤ j then (F j : Int) else 0)) = _
    by_cases q : len ≤ j
    · rw [if_pos q, show j = len by omega, h]; rfl
    · rw [if_neg q]
  · rw [List.getElem?_eq_none (by rw [fw_len]; omega), List.getElem?_replicate, if_neg hj]
def Rfh (es : List Ent) (μ : Mem) (d : PyData) (μ' : Mem) : Prop := ∃ (a : Addr) (mo : MO) (m : Mk Str) (row names res : List Str), es = [.m a, .d (ts row), .d (.list (names.map .str))] ∧ μ = [(a, mo)] ∧ IsDct mo (mkD m) ∧ SM m ∧ Good row ∧ row.length ≤ 5 ∧ (∀ n ∈ names, n ∈ keys m) ∧ names.length ≤ 3 ∧
  (∀ p, p < row.length → ∃ n ∈ names, p < fit row p (rowOf m n)) ∧ found6 m row names = some res ∧ d = ts res ∧ μ' = μ
section
variable {P : Program} {w : World} {K : PySem.W.Frag} {mg : Str → Option Value} {base : Heap}
abbrev nFh : List Str := ["making", "row", "names", "fewest", "place", "later", "found", "name", "to"]
theorem scFh : FnScope nFh ["making", "row", "names"] (defScope sFh) := ⟨rfl, rfl, rfl, by decide +kernel, rfl, by decide +kernel, by decide +kernel⟩
theorem ok_fh {f : Addr} {fd : FuncData} (T : Txt mg) (F : Fun K "first_holder" "first_holder" sFh f fd) {f1 : Addr} {fd1 : FuncData} (H1 : Has K mg "fitted_to" sFt ["row", "place", "shown"] f1 fd1) : FnOk P w K mg base CX0 2 f fd ["making", "row", "names"] (spE K 3 Rfh) := by
  have G1 : FnOk P w K mg base CX0 1 f1 fd1 ["row", "place", "shown"] (spR K 3 Rft) := ok_ft T H1.F
  refine def_E F scFh (by decide) rfl fun cdv A outer s H E hr => ?_
  have nd := scFh.nd
  have hu1 := hu_of hr
  refine ⟨_, (pss_cons (ps_set (i := 3) nd rfl (Or.inr rfl) (pe_op op_rep (pe_lst (pa_cons pe_int pa_nil)) (pe_op op_add (pe_callB call_len_seq (by rfl) T.len PySem.boot_len (pa_cons (pv 1) pa_nil)) pe_int)))
 (pss_cons (ps_for PassesOwn.never rfl (pi_range3 (by rfl) T.range (pa_cons (pe_op op_sub (pe_callB call_len_seq (by rfl) T.len PySem.boot_len (pa_cons (pv 1) pa_nil)) pe_int) (pa_cons (pe_un un_neg pe_int) (pa_cons (pe_un un_neg pe_int) pa_nil)))) (pg_name (i := 4) nd rfl (Or.inr rfl)) (pss_cons (ps_setLc (i := 5) (own := [("name", 7)]) (g := (gName 7)) (tt := tYes) rfl nd rfl rfl (sw_true rfl rfl rfl (by decide +kernel)) (pi_list (pv 2)) (blkOk_by (N := nFh) (sc := defScope sFh) (by decide +kernel)) (fun _ _ _ _ _ => (pg_name (i := 7) nd rfl (Or.inl rfl))) (fun _ _ _ _ _ => pts_nil) (fun _ _ _ _ _ => (pe_call G1 hr rfl H1.m H1.F.kp H1.b .nil pass0 (pa_cons (pv 1) (pa_cons (pv 4) (pa_cons (pe_dget hu1 (pv 0) (pv 7) (fun _ _ => rfl)) pa_nil))))))
 (pss_one (ps_asg (pe_op op_add pe_int (pe_callB (cr_min rfl) (by rfl) T.min (by decide +kernel) (pa_cons (pe_lc (own := [("to", 8)]) (g := (gName 8)) rfl nd (pi_list (pv 5)) (blkOk_by (N := nFh) (sc := defScope sFh) (by decide +kernel)) (fun _ _ _ _ _ => (pg_name (i := 8) nd rfl (Or.inl rfl))) (fun _ _ _ _ _ => (pts_one (pt_cmpR op_gt (pv 8) (pv 4) (nomark _)))) (fun _ _ _ _ _ => (pe_ix (kix_list (K := K) rfl) (pv 3) (pv 8) (fun _ _ => rfl)))) pa_nil))) (pg_sub (pv 3) (pv 4) set_list)))))
 (pss_cons (ps_asg (pe_tup (pa_cons (pe_lst pa_nil) (pa_cons pe_int pa_nil))) (pg_tup rfl (pgs_cons (pg_name (i := 6) nd rfl (Or.inl rfl)) (pgs_cons (pg_name (i := 4) nd rfl (Or.inr rfl)) pgs_nil))))
 (pss_cons (ps_while PassesOwn.never (pt_cmpR op_lt (pv 4) (pe_callB call_len_seq (by rfl) T.len PySem.boot_len (pa_cons (pv 1) pa_nil)) (nomark _)) (pss_one (ps_for PassesOwn.never rfl (pi_list (pv 2)) (pg_name (i := 7) nd rfl (Or.inl rfl)) (pss_cons (ps_set (i := 8) nd rfl (Or.inl rfl) (pe_call G1 hr rfl H1.m H1.F.kp H1.b .nil pass0 (pa_cons (pv 1) (pa_cons (pv 4) (pa_cons (pe_dget hu1 (pv 0) (pv 7) (fun _ _ => rfl)) pa_nil)))))
 (pss_one (ps_if (PW.pt (pw_and (pt_cmpR op_gt (pv 8) (pv 4) (nomark _)) (pw_and1 (pt_cmpR (op_eqD hr.units) (pe_ix ix_list (pv 3) (pv 8) (fun _ _ => rfl)) (pe_op op_sub (pe_ix ix_list (pv 3) (pv 4) (fun _ _ => rfl)) pe_int) (nomark _))))) (pss_cons (ps_expr (pe_bm PySem.F.plainAttrs_list PySem.F.slot_list_append PySem.F.type_list_append mt_append (pv 6) (pa_cons (pv 7) pa_nil)))
 (pss_cons (ps_set (i := 4) nd rfl (Or.inr rfl) (pv 8))
 (pss_one ps_break))) pss_nil))))))
 (pss_one (ps_ret (pe_callTy call_tuple_of (by rfl) T.tuple (by decide +kernel) (pa_cons (pv 6) pa_nil)))))))), ?_⟩
  rintro M G B es μ d μ' ⟨a, mo, m, row, names, res, rfl, rfl, hd, S, gr, hrl, hnk, hnl, hcov, hf6, rfl, rfl⟩ D fin
  show Run _ _ D M [.m a, .d (ts row), .d (.list (names.map .str)), .u, .u, .u, .u, .u, .u] [(a, mo)]
  obtain ⟨F0, L⟩ := least_ex (m := m) (row := row) (names := names) hcov row.length (Nat.le_refl _)
  rw [Nat.sub_self] at L
  have hgn : ∀ {n}, n ∈ names → tok n := fun h => S.kgood (hnk _ h)
  refine q_rep (n := row.length + 1) (fun p hp => x_is (x_op (x_cbP (a_cons (x_vd rfl) a_nil) c_lenT) x_int o_I0) (by rw [List.length_map]; rfl)) (by omega) fun p q hp hq => ?_
  rw [← fw_zero L.end_]
  show Run _ _ D (q :: p :: M) [.m a, .d (ts row), .d (.list (names.map .str)), .m q, .u, .u, .u, .u, .u] [(q, .lst (fwL F0 row.length row.length)), (p, .lst [.int 0]), (a, mo)]
  have hn0 : (((row.map PyData.str).length : Int) - 1 - (-1)).toNat = row.length := by rw [List.length_map]; omega
  refine q_for (i_down (m := ((row.map PyData.str).length : Int) - 1) (n := -1) (a_cons (x_op (x_cbP (a_cons (x_vd rfl) a_nil) c_lenT) x_int o_I0) (a_cons (x_neg x_int) (a_cons (x_neg x_int) a_nil))) (by rw [List.length_map]; omega))
    (fun i δ μ => ∃ e4 e5 e7 e8, δ = [.m a, .d (ts row), .d (.list (names.map .str)), .m q, e4, e5, .u, e7, e8] ∧ μ = [(q, .lst (fwL F0 row.length (row.length - i))), (p, .lst [.int 0]), (a, mo)]) ⟨_, _, _, _, rfl, rfl⟩ ?_ ?_
  · rintro B' hB i d δ1 μ1 hi ⟨e4, e5, e7, e8, rfl, rfl⟩
    have hlt := (List.getElem?_eq_some_iff.mp hi).1
    rw [downD_length, hn0] at hlt
    rw [downD_get (by rw [hn0]; exact hlt)] at hi
    obtain ⟨pl, hpl⟩ : ∃ pl, row.length - i = pl + 1 := ⟨row.length - i - 1, by omega⟩
    have ed : d = .int (pl : Int) := by
      rw [← Option.some.inj hi, List.length_map]
      congr 1
      omega
    subst ed
    refine ⟨[4], _, tg_name, ?_⟩
    show Run _ _ _ _ [.m a, .d (ts row), .d (.list (names.map .str)), .m q, .d (.int (pl : Int)), e5, .u, e7, e8] [(q, .lst (fwL F0 row.length (row.length - i))), (p, .lst [.int 0]), (a, mo)]
    rw [hpl, show row.length - (i + 1) = pl by omega]
    have hin : (a, mo) ∈ [(q, MO.lst (fwL F0 row.length (pl + 1))), (p, .lst [.int 0]), (a, mo)] := by simp
    have hpl2 : pl < row.length := by omega
    refine q_asg (e := .d (.list ((names.map fun n => (fit row pl (rowOf m n) : Int)).map .int))) (x_is (x_lcP (ts := [7]) (fun j => .int (fit row pl (rowOf m (names.getD j "")) : Int)) (i_list (x_vd rfl)) (by rw [List.length_map]; omega)
      (fun j => [.m a, .d (ts row), .d (.list (names.map .str)), .m q, .d (.int (pl : Int)), e5, .u, .d (.str (names.getD j "")), e8]) (fun j d hd => ?_) (fun k hk => hk) (fun j d hd' G' B'' D' => ?_)) ?_) ?_
    · obtain ⟨x, hx, rfl⟩ := ts_back hd
      have : names.getD j "" = x := by rw [List.getD_eq_getElem?_getD, hx]; rfl
      rw [this]
      exact tg_name
    · obtain ⟨x, hx, rfl⟩ := ts_back hd'
      have ex : names.getD j "" = x := by rw [List.getD_eq_getElem?_getD, hx]; rfl
      rw [ex]
      have hxk := hnk x (List.mem_of_getElem? hx)
      exact x_callR (ds := [ts row, .int (pl : Int), ts (rowOf m x)]) (a_cons (x_vd rfl) (a_cons (x_vd rfl) (a_cons (x_dget (mo := mo) (x_vm rfl) (x_vd rfl) hin hd (mk_val hxk)) a_nil))) ⟨row, pl, rowOf m x, rfl, gr, S.rgood hxk, rfl⟩
    · rw [List.length_map, List.map_map]
      have := range_map names "" fun n => PyData.int (fit row pl (rowOf m n) : Int)
      rw [this]; rfl
    show Run _ _ _ _ [.m a, .d (ts row), .d (.list (names.map .str)), .m q, .d (.int (pl : Int)), .d (.list ((names.map fun n => (fit row pl (rowOf m n) : Int)).map .int)), .u, e7, e8] _
    obtain ⟨n1, hn1, hf1, hF1⟩ := L.one pl (Nat.zero_le _) hpl2
    have hlat : ∀ y ∈ (names.map fun n => (fit row pl (rowOf m n) : Int)), ∃ n ∈ names, y = (fit row pl (rowOf m n) : Int) ∧ pl ≤ fit row pl (rowOf m n) ∧ fit row pl (rowOf m n) ≤ row.length := fun y hy => by
      obtain ⟨n, hn, rfl⟩ := List.mem_map.mp hy
      have := fit_le row (rowOf m n) pl
      exact ⟨n, hn, rfl, this.1, this.2 (by omega)⟩
    revert hlat
    generalize hlatE : (names.map fun n => (fit row pl (rowOf m n) : Int)) = lat
    intro hlat
    have hlc := lc_filter lat (0 : Int) (fun t => decide ((pl : Int) < t)) (fun t => PyData.int (F0 t.toNat : Int))
    refine r_setL (j := 0) (n := pl) (d := .int (F0 pl : Int)) (x_is (x_op x_int (x_cbP (e := .d (.int ((F0 pl : Int) - 1))) (a_cons (e := .d (.list (((lat.filter fun t => decide ((pl : Int) < t)).map fun t => (F0 t.toNat : Int)).map .int))) (x_is (x_lc (fun _ => [(q, .lst (fwL F0 row.length (pl + 1))), (p, .lst [.int 0]), (a, mo)]) (fun i => decide ((pl : Int) < lat.getD i 0)) (fun i => .int (F0 (lat.getD i 0).toNat : Int)) (i_list (x_vd rfl)) (by rw [List.length_map, ← hlatE, List.length_map]; omega) fun j d hd' G' B'' D' => ?_) ?_) a_nil) (c_minI (.d _) ?_ ?_)) o_I0) ?_) (x_vm rfl) (x_vd rfl) rfl ?_ fun σ H o => ⟨_, _, ⟨_, _, _, _, rfl, ?_⟩, o⟩
    · have hj := (List.getElem?_eq_some_iff.mp hd').1
      rw [List.length_map] at hj
      have ej := getD_at hj (0 : Int)
      have ed : d = .int (lat.getD j 0) := by
        rw [List.getElem?_map, ej] at hd'
        exact (Option.some.inj hd').symm
      subst ed
      obtain ⟨n, hn, ey, hy1, hy2⟩ := hlat _ (List.mem_of_getElem? ej)
      rw [ey]
      refine ⟨[8], [.m a, .d (ts row), .d (.list (names.map .str)), .m q, .d (.int (pl : Int)), .d (.list (lat.map .int)), .u, e7, .d (.int (fit row pl (rowOf m n) : Int))], _, tg_name, fun k hk => hk, t_test (x_op (x_vd rfl) (x_vd rfl) o_B0), fun hb => ?_, fun _ => rfl⟩
      have hb := of_decide_eq_true hb
      rw [Int.toNat_natCast]
      exact x_op (x_vm rfl) (x_vd rfl) (o_ixL (.m (j := 0) rfl) (atI_nat (fw_get (by omega) hy2)))
    · rw [List.length_map, hlc, List.map_map]; rfl
    · refine List.mem_map.mpr ⟨(fit row pl (rowOf m n1) : Int), List.mem_filter.mpr ⟨by rw [← hlatE]; exact List.mem_map.mpr ⟨n1, hn1, rfl⟩, decide_eq_true (by omega)⟩, ?_⟩
      rw [Int.toNat_natCast]; omega
    · intro y hy
      obtain ⟨t, ht, rfl⟩ := List.mem_map.mp hy
      obtain ⟨ht1, ht2⟩ := List.mem_filter.mp ht
      have ht2 := of_decide_eq_true ht2
      obtain ⟨n, hn, rfl, _, _⟩ := hlat t ht1
      rw [Int.toNat_natCast]
      have := L.le pl (Nat.zero_le _) hpl2 n hn (by omega)
      omega
    · congr 2; omega
    · rw [fw_len]; exact Evl.ixN_nat (by omega)
    · show [(q, MO.lst ((fwL F0 row.length (pl + 1)).set pl (.int (F0 pl : Int)))), (p, .lst [.int 0]), (a, mo)] = _
      rw [fw_set (by omega)]
  · rintro δ1 μ1 ⟨e4, e5, e7, e8, rfl, rfl⟩
    rw [downD_length, hn0, Nat.sub_self]
    refine q_unpN2 fun r hrM => ?_
    show Run _ _ D (r :: q :: p :: M) [.m a, .d (ts row), .d (.list (names.map .str)), .m q, .d (.int 0), e5, .m r, e7, e8] [(r, .lst []), (q, .lst (fwL F0 row.length 0)), (p, .lst [.int 0]), (a, mo)]
    have hb0 := found6_best L hrl
    rw [hf6] at hb0
    refine q_while (fun mm δ μ => ∃ (pl : Nat) (fs : List Str) (e7 e8 : Ent), δ = [.m a, .d (ts row), .d (.list (names.map .str)), .m q, .d (.int (pl : Int)), e5, .m r, e7, e8] ∧ μ = [(r, .lst (fs.map .str)), (q, .lst (fwL F0 row.length 0)), (p, .lst [.int 0]), (a, mo)] ∧ pl ≤ row.length ∧ mm = row.length - pl ∧ fs.length ≤ pl ∧ some res = (best m row names F0 pl).map (fs ++ ·))
      row.length ⟨0, [], e7, e8, rfl, rfl, Nat.zero_le _, rfl, Nat.le_refl _, by rw [hb0]; cases best m row names F0 0 <;> rfl⟩ ?_
    rintro mm δ1 μ1 ⟨pl, fs, e7, e8, rfl, rfl, hple, rfl, hfs, hbest⟩
    refine ⟨_, _, t_test (x_op (x_vd rfl) (x_cbP (a_cons (x_vd rfl) a_nil) c_lenT) o_B0), fun hb => ?_, fun hb => ?_⟩
    · have hb := of_decide_eq_true hb
      rw [List.length_map] at hb
      have hlt : pl < row.length := by omega
      have hin : (a, mo) ∈ [(r, MO.lst (fs.map .str)), (q, .lst (fwL F0 row.length 0)), (p, .lst [.int 0]), (a, mo)] := by simp
      refine r_for (i_list (x_vd rfl)) (fun i δ μ => (∃ e7 e8, δ = [.m a, .d (ts row), .d (.list (names.map .str)), .m q, .d (.int (pl : Int)), e5, .m r, e7, e8]) ∧ μ = [(r, .lst (fs.map .str)), (q, .lst (fwL F0 row.length 0)), (p, .lst [.int 0]), (a, mo)] ∧ ∀ x ∈ names.take i, ¬ (pl < fit row pl (rowOf m x) ∧ F0 (fit row pl (rowOf m x)) + 1 = F0 pl))
        ⟨⟨_, _, rfl⟩, rfl, fun x hx => by simp at hx⟩ ?_ ?_
      · rintro B' hB i d δ2 μ2 hi ⟨⟨e7, e8, rfl⟩, rfl, hno⟩
        obtain ⟨x, hx, rfl⟩ := ts_back hi
        have hxk := hnk x (List.mem_of_getElem? hx)
        refine ⟨[7], _, tg_name, ?_⟩
        show Run _ _ _ _ [.m a, .d (ts row), .d (.list (names.map .str)), .m q, .d (.int (pl : Int)), e5, .m r, .d (.str x), e8] _
        refine q_asg (x_callR (ds := [ts row, .int (pl : Int), ts (rowOf m x)]) (a_cons (x_vd rfl) (a_cons (x_vd rfl) (a_cons (x_dget (mo := mo) (x_vm rfl) (x_vd rfl) hin hd (mk_val hxk)) a_nil))) ⟨row, pl, rowOf m x, rfl, gr, S.rgood hxk, rfl⟩) ?_
        show Run _ _ _ _ [.m a, .d (ts row), .d (.list (names.map .str)), .m q, .d (.int (pl : Int)), e5, .m r, .d (.str x), .d (.int (fit row pl (rowOf m x) : Int))] _
        have ft := fit_le row (rowOf m x) pl
        have ft2 := ft.2 hple
        refine r_if (b := decide (pl < fit row pl (rowOf m x) ∧ F0 (fit row pl (rowOf m x)) + 1 = F0 pl)) (t_is (t_and (t_test (x_op (x_vd rfl) (x_vd rfl) o_B0)) (fun _ => t_test (x_op (x_op (x_vm rfl) (x_vd rfl) (o_ixL (.m (j := 1) rfl) (atI_nat (fw_get (Nat.zero_le _) ft2)))) (x_op (x_op (x_vm rfl) (x_vd rfl) (o_ixL (.m (j := 1) rfl) (atI_nat (fw_get (Nat.zero_le _) hple)))) x_int o_I0) (o_eqD (.d _) (.d _) ((shp_int 0 _).shaped (by decide)) ((shp_int 0 _).shaped (by decide))))) (fun _ => rfl)) ?_) (fun hq => ?_) fun hq => ?_
        · rw [eqv_int, Bool.eq_iff_iff, Bool.and_eq_true, decide_eq_true_eq, decide_eq_true_eq, beq_iff_eq]
          omega
        · obtain ⟨h1, h2⟩ := of_decide_eq_true hq
          refine q_app (j := 0) (d := .str x) (x_vm rfl) (x_vd rfl) rfl rfl (by rw [List.length_map]; omega) ?_
          refine q_asg (x_vd rfl) ?_
          have hsplit : names = names.take i ++ x :: names.drop (i + 1) := by
            have e1 := List.take_append_drop i names
            rw [List.drop_eq_getElem_cons (List.getElem?_eq_some_iff.mp hx).1] at e1
            rw [List.getElem?_eq_getElem (List.getElem?_eq_some_iff.mp hx).1] at hx
            rw [Option.some.inj hx] at e1
            exact e1.symm
          have hst := best_step L hlt hsplit hno h1 h2
          refine r_brk fun σ H o => ⟨_, _, ⟨row.length - fit row pl (rowOf m x), by omega, fit row pl (rowOf m x), fs ++ [x], _, _, rfl, ?_, ft2, rfl, ?_, ?_⟩, o.reB hB⟩
          · rw [List.map_append]; rfl
          · rw [List.length_append, List.length_singleton]; omega
          · rw [hbest, hst]
            cases best m row names F0 (fit row pl (rowOf m x)) with
            | none => rfl
            | some y => simp
        · have hq := of_decide_eq_false hq
          refine r_next fun σ H o => ⟨_, _, ⟨⟨_, _, rfl⟩, rfl, fun y hy => ?_⟩, o⟩
          rw [take_succ' hx] at hy
          rcases List.mem_append.mp hy with z | z
          · exact hno y z
          · rw [List.mem_singleton.mp z]; exact hq
      · rintro δ2 μ2 ⟨⟨e7, e8, rfl⟩, rfl, hno⟩
        rw [List.length_map, List.take_length] at hno
        obtain ⟨n1, hn1, hf1, hF1⟩ := L.one pl (Nat.zero_le _) hlt
        exact absurd ⟨hf1, by omega⟩ (hno n1 hn1)
    · have hb := of_decide_eq_false hb
      rw [List.length_map] at hb
      have e : pl = row.length := by omega
      rw [e, best_end L] at hbest
      have er : res = fs := by have := Option.some.inj hbest; rw [this]; simp
      subst er
      exact r_retE (x_cbP (a_cons (x_vm rfl) a_nil) (c_tupleL (.m (j := 0) rfl))) (fun z hz => by rw [List.mem_singleton.mp hz]; simp) fin
end
end K83
namespace K83
open PySem L2 FD
/-! ### the law's first choice -/
section
variable {α : Type} [DecidableEq α] {m : Mk α} {row names : List α}
theorem found6_flat : found6 m row names = (List.range' 0 6).findSome? fun s => (lev names s).find? (reach m row 0) := by
  unfold found6
  rw [find_flat, List.range_eq_range']
theorem found6_level {s : Nat} (hl : ∀ t, t < s → (lev names t).find? (reach m row 0) = none) (hs : s < 6) : found6 m row names = ((lev names s).find? (reach m row 0)).or ((List.range' (s + 1) (5 - s)).findSome? fun s => (lev names s).find? (reach m row 0)) := by
  rw [found6_flat]
  have key : ∀ k, k ≤ s → (List.range' k (6 - k)).findSome? (fun s => (lev names s).find? (reach m row 0)) = (List.range' 0 6).findSome? (fun s => (lev names s).find? (reach m row 0)) := by
    intro k
    induction k with
    | zero => intro _; rfl
    | succ k ih =>
      intro h1
      rw [← ih (by omega), show 6 - k = (6 - (k + 1)) + 1 by omega, List.range'_succ, List.findSome?_cons, hl k (by omega)]
  rw [← key s (Nat.le_refl _), show 6 - s = (5 - s) + 1 by omega, List.range'_succ, List.findSome?_cons]
  cases (lev names s).find? (reach m row 0) <;> rfl
theorem find_at {β : Type} {P : β → Bool} {l : List β} {j : Nat} {x : β} (hx : l[j]? = some x) (hp : P x = true) (hno : ∀ y ∈ l.take j, ¬ P y = true) : l.find? P = some x := by
  have e1 := List.take_append_drop j l
  rw [List.drop_eq_getElem_cons (List.getElem?_eq_some_iff.mp hx).1] at e1
  rw [List.getElem?_eq_getElem (List.getElem?_eq_some_iff.mp hx).1] at hx
  rw [Option.some.inj hx] at e1
  rw [← e1, List.find?_append, List.find?_eq_none.mpr hno, List.find?_cons, hp]
  rfl
theorem found6_none (h : ∀ t, t < 6 → (lev names t).find? (reach m row 0) = none) : found6 m row names = none := by
  rw [found6_flat, List.findSome?_eq_none_iff]
  intro t ht
  exact h t (by have := List.mem_range'_1.mp ht; omega)
end
theorem lev3 {names : List Str} (h : names.length ≤ 3) {s : Nat} (hs : s ≤ 5) : (lev names s).length ≤ 243 := by
  rw [lev_count]
  have h1 : names.length ^ s ≤ 3 ^ s := Nat.pow_le_pow_left h s
  have h2 : 3 ^ s ≤ 3 ^ 5 := Nat.pow_le_pow_right (by decide) hs
  exact Nat.le_trans h1 (Nat.le_trans h2 (by decide))
theorem reach_sub (m : Mk Str) (row one : List Str) : decide (row.Sublist (made m one)) = reach m row 0 one := by
  unfold reach
  rw [Bool.eq_iff_iff, decide_eq_true_eq, decide_eq_true_eq]
  exact sub_made m row one
def Rcc (es : List Ent) (μ : Mem) (d : PyData) (μ' : Mem) : Prop := ∃ (a : Addr) (mo : MO) (m : Mk Str) (u v : List Str), es = [.m a, .d (ts u), .d (ts v)] ∧ μ = [(a, mo)] ∧ IsDct mo (mkD m) ∧ SM m ∧ (∀ k ∈ u, k ∈ keys m) ∧ (∀ k ∈ v, k ∈ keys m) ∧ u.length ≤ 100 ∧ v.length ≤ 100 ∧ d = .bool (decide ((made m u).Sublist (made m v)) && !decide (u.Sublist v)) ∧ μ' = μ
section
variable {P : Program} {w : World} {K : PySem.W.Frag} {mg : Str → Option Value} {base : Heap}
abbrev nCc : List Str := ["making", "u", "v"]
theorem scCc : FnScope nCc ["making", "u", "v"] (defScope sCc) := ⟨rfl, rfl, rfl, by decide +kernel, rfl, by decide +kernel, by decide +kernel⟩
theorem ok_cc {f : Addr} {fd : FuncData} (T : Txt mg) (F : Fun K "check_couple" "check_couple" sCc f fd) {f0 f1 f2 f3 : Addr} {fd0 fd1 fd2 fd3 : FuncData} (H0 : Has K mg "first_fit" sFf ["u", "v"] f0 fd0) (H1 : Has K mg "within" sWi ["u", "v"] f1 fd1)
    (H2 : Has K mg "row_by" sRb ["view", "row"] f2 fd2) (H3 : Has K mg "made_row" sMr ["making", "row"] f3 fd3) : FnOk P w K mg base CX0 3 f fd ["making", "u", "v"] (spE K 3 Rcc) := by
  have G1 : FnOk P w K mg base CX0 2 f1 fd1 ["u", "v"] (spR K 2 Rwi) := ok_wi T H1.F H0
  have G3 : FnOk P w K mg base CX0 2 f3 fd3 ["making", "row"] (spE K 2 Rmd) := ok_mr T H3.F H2
  refine def_E F scCc (by decide) rfl fun cdv A outer s H E hr => ?_
  refine ⟨_, (pss_one (ps_ret (pe_and (pe_call G1 hr rfl H1.m H1.F.kp H1.b .nil pass0 (pa_cons (pe_call G3 hr rfl H3.m H3.F.kp H3.b .nil pass0 (pa_cons (pv 0) (pa_cons (pv 1) pa_nil))) (pa_cons (pe_call G3 hr rfl H3.m H3.F.kp H3.b .nil pass0 (pa_cons (pv 0) (pa_cons (pv 2) pa_nil))) pa_nil))) (pe_one (pe_not (pe_call G1 hr rfl H1.m H1.F.kp H1.b .nil pass0 (pa_cons (pv 1) (pa_cons (pv 2) pa_nil)))))))), ?_⟩
  rintro M G B es μ d μ' ⟨a, mo, m, u, v, rfl, rfl, hd, S, hu, hv, lu, lv, rfl, rfl⟩ D fin
  show Run _ _ D M [.m a, .d (ts u), .d (ts v)] [(a, mo)]
  have h1 := made_len S hu
  have h2 := made_len S hv
  refine r_retE (x_andV (x_callR (ds := [ts (made m u), ts (made m v)]) (a_cons (x_callE1 (a_cons (x_vm rfl) (a_cons (x_vd rfl) a_nil)) (List.mem_singleton.mpr rfl) ⟨a, mo, m, u, rfl, rfl, hd, S, hu, lu, rfl, rfl⟩) (a_cons (x_callE1 (a_cons (x_vm rfl) (a_cons (x_vd rfl) a_nil)) (List.mem_singleton.mpr rfl) ⟨a, mo, m, v, rfl, rfl, hd, S, hv, lv, rfl, rfl⟩) a_nil)) ⟨made m u, made m v, rfl, made_good S hu, made_good S hv, by omega, by omega, rfl⟩)
    (fun _ => x_notV (x_callR (ds := [ts u, ts v]) (a_cons (x_vd rfl) (a_cons (x_vd rfl) a_nil)) ⟨u, v, rfl, fun x hx => S.kgood (hu x hx), fun x hx => S.kgood (hv x hx), by omega, by omega, rfl⟩)) (fun _ => rfl)) (fun p hp => hp) fin
/-! ### couple -/
def othersN (m : Mk Str) (k : Str) : List Str := (sortT (keys m)).filter fun n => decide (n ≠ k)
theorem bare_cover {m : Mk Str} (S : SM m) {k : Str} (hk : k ∈ keys m) (h : ownR m k = []) : ∀ p, p < (rowOf m k).length → ∃ n ∈ othersN m k, p < fit (rowOf m k) p (rowOf m n) := fun p hp => by
  have ex : (rowOf m k)[p]? = some (rowOf m k)[p] := List.getElem?_eq_getElem hp
  have hx : (rowOf m k)[p] ∈ setT (rowOf m k) := setT_mem.mpr (List.getElem_mem hp)
  have ho : (rowOf m k)[p] ∈ othersOf m k := by
    have := List.filter_eq_nil_iff.mp h _ hx
    simpa using this
  obtain ⟨q, hq, hxq⟩ := List.mem_flatMap.mp ho
  obtain ⟨hq1, hq2⟩ := List.mem_filter.mp hq
  have er := rowOf_at S.nd hq1
  exact ⟨q.1, List.mem_filter.mpr ⟨sortT_mem.mpr (List.mem_map.mpr ⟨q, hq1, rfl⟩), hq2⟩, fit_lt _ _ _ _ ex (by rw [er]; exact hxq)⟩
theorem othersN_len {m : Mk Str} (S : SM m) {k : Str} (hk : k ∈ keys m) : (othersN m k).length ≤ 3 := by
  have h1 : (othersN m k).length < (sortT (keys m)).length := by
    refine Nat.lt_of_le_of_ne (List.length_filter_le _ _) fun e => ?_
    have := List.length_filter_eq_length_iff.mp e k (sortT_mem.mpr hk)
    simp at this
  rw [sortT_len, show (keys m).length = m.length from List.length_map ..] at h1
  have := S.len
  omega
theorem othersN_keys {m : Mk Str} {k : Str} : ∀ n ∈ othersN m k, n ∈ keys m := fun n hn => sortT_mem.mp (List.mem_filter.mp hn).1
theorem bare_found {m : Mk Str} (S : SM m) {k : Str} (hk : k ∈ keys m) (h : ownR m k = []) : ∃ res, found6 m (rowOf m k) (othersN m k) = some res := by
  obtain ⟨F0, L⟩ := least_ex (m := m) (row := rowOf m k) (names := othersN m k) (bare_cover S hk h) (rowOf m k).length (Nat.le_refl _)
  rw [Nat.sub_self] at L
  obtain ⟨x, hx⟩ := best_some L _ 0 (Nat.zero_le _) rfl
  exact ⟨x, by rw [found6_best L (S.rlen hk), hx]⟩
def Cpl (m : Mk Str) (d : PyData) : Prop := ((∀ k ∈ keys m, ownR m k ≠ []) ∧ d = .none) ∨ ∃ (pre post : List Str) (k : Str) (res : List Str), sortT (keys m) = pre ++ k :: post ∧ (∀ x ∈ pre, ownR m x ≠ []) ∧ ownR m k = [] ∧ found6 m (rowOf m k) (othersN m k) = some res ∧ d = .tuple [ts [k], ts res]
def Rco (es : List Ent) (μ : Mem) (d : PyData) (μ' : Mem) : Prop := ∃ (a : Addr) (m : Mk Str), es = [.m a] ∧ μ = [(a, .dK (kd (mkD m)))] ∧ SM m ∧ Cpl m d ∧ μ' = μ
theorem own_at {m : Mk Str} (S : SM m) {k : Str} (hk : k ∈ keys m) : k ∈ keys (ownedOf m) ∧ rowOf (ownedOf m) k = ownR m k := by
  have hs : k ∈ sortT (keys m) := sortT_mem.mpr hk
  refine ⟨by unfold ownedOf; rw [ownM_keys]; exact hs, ?_⟩
  have hp : (k, ownR m k) ∈ ownedOf m := List.mem_map.mpr ⟨k, hs, rfl⟩
  exact rowOf_at (own_SM S).nd hp
abbrev nCo : List Str := ["making", "owned", "deed", "others", "name"]
theorem scCo : FnScope nCo ["making"] (defScope sCo) := ⟨rfl, rfl, rfl, by decide +kernel, rfl, by decide +kernel, by decide +kernel⟩
theorem ok_co {f : Addr} {fd : FuncData} (T : Txt mg) (F : Fun K "couple" "couple" sCo f fd) {f1 f2 f3 : Addr} {fd1 fd2 fd3 : FuncData} (H1 : Has K mg "own_deeds" sOd ["making"] f1 fd1) (H2 : Has K mg "fitted_to" sFt ["row", "place", "shown"] f2 fd2)
    (H3 : Has K mg "first_holder" sFh ["making", "row", "names"] f3 fd3) : FnOk P w K mg base CX0 3 f fd ["making"] (spE K 1 Rco) := by
  have G1 : FnOk P w K mg base CX0 1 f1 fd1 ["making"] (spEN K 1 Ron) := ok_od T H1.F
  have G3 : FnOk P w K mg base CX0 2 f3 fd3 ["making", "row", "names"] (spE K 3 Rfh) := ok_fh T H3.F H2
  refine def_E F scCo (by decide) rfl fun cdv A outer s H E hr => ?_
  have nd := scCo.nd
  have hu1 := hu_of hr
  have hr1 : Room 1 _ := hr.mono (by decide)
  refine ⟨_, (pss_cons (ps_set (i := 1) nd rfl (Or.inl rfl) (pe_call G1 hr1 rfl H1.m H1.F.kp H1.b .nil pass0 (pa_cons (pv 0) pa_nil)))
 (pss_cons (ps_lock (ps_for PassesOwn.never rfl (pi_keys (pv 1)) (pg_name (i := 2) nd rfl (Or.inr rfl)) (pss_one (ps_if (pt_cmpR (op_eqD hr.units) (pe_dget hu1 (pv 1) (pv 2) (fun _ _ => rfl)) (pe_tup pa_nil) (nomark _)) (pss_cons (ps_setLc (i := 3) (own := [("name", 4)]) (g := (gName 4)) rfl nd rfl rfl (sw_true rfl rfl rfl (by decide +kernel)) (pi_keys (pv 1)) (blkOk_by (N := nCo) (sc := defScope sCo) (by decide +kernel)) (fun _ _ _ _ _ => (pg_name (i := 4) nd rfl (Or.inl rfl))) (fun _ _ _ _ _ => (pts_one (pt_cmpR (kop_neD (K := K) rfl hr.units) (pv 4) (pv 2) (nomark _)))) (fun _ _ _ _ _ => (pv 4)))
 (pss_one (ps_ret (pe_tup (pa_cons (pe_tup (pa_cons (pv 2) pa_nil)) (pa_cons (pe_call G3 hr rfl H3.m H3.F.kp H3.b .nil pass0 (pa_cons (pv 0) (pa_cons (pe_dget hu1 (pv 0) (pv 2) (fun _ _ => rfl)) (pa_cons (pv 3) pa_nil)))) pa_nil)))))) pss_nil))))
 (pss_one (ps_ret pe_non)))), ?_⟩
  rintro M G B es μ d μ' ⟨a, m, rfl, rfl, S, hC, rfl⟩ D fin
  show Run _ _ D M [.m a, .u, .u, .u, .u] [(a, .dK (kd (mkD m)))]
  refine q_asgEN (a_cons (x_vm rfl) a_nil) (swap_same List.mem_cons_self (by simp)) (by simp) ⟨a, m, rfl, rfl, S, rfl, rfl⟩ fun p hp => ?_
  show Run _ _ D (p :: M) [.m a, .m p, .u, .u, .u] [(p, .dK (kd (mkD (ownedOf m)))), (a, .dK (kd (mkD m)))]
  have SO : SM (ownedOf m) := own_SM S
  have hkO : (mkD (ownedOf m)).map (·.1) = sortT (keys m) := by rw [mkD_keys]; exact ownM_keys m _
  have hsl : (sortT (keys m)).length ≤ 4 := by rw [sortT_len, show (keys m).length = m.length from List.length_map ..]; exact S.len
  refine q_lock (j := 0) rfl fun od ws => ?_
  have hin : (p, MO.fz od ws (kd (mkD (ownedOf m)))) ∈ [(p, MO.fz od ws (kd (mkD (ownedOf m)))), (a, .dK (kd (mkD m)))] := List.mem_cons_self
  show Run _ _ _ _ _ [(p, .fz od ws (kd (mkD (ownedOf m)))), (a, .dK (kd (mkD m)))]
  refine r_forN (i_keys (x_vm rfl) hin) (fun i δ μ => (∃ e2 e3 e4, δ = [.m a, .m p, e2, e3, e4]) ∧ μ = [(p, .fz od ws (kd (mkD (ownedOf m)))), (a, .dK (kd (mkD m)))] ∧ ∀ x ∈ (sortT (keys m)).take i, ownR m x ≠ []) (fun i B δ1 μ1 σ H _ hP o => ?_) ⟨⟨_, _, _, rfl⟩, rfl, fun x hx => by simp at hx⟩ ?_ ?_
  · obtain ⟨_, rfl, _⟩ := hP
    exact ok_frz hin o
  · rintro B' hB i d1 δ1 μ1 hi ⟨⟨e2, e3, e4, rfl⟩, rfl, hno⟩
    rw [hkO] at hi
    obtain ⟨k, hk, rfl⟩ := ts_back hi
    have hkm : k ∈ keys m := sortT_mem.mp (List.mem_of_getElem? hk)
    obtain ⟨hkO1, hkO2⟩ := own_at S hkm
    refine ⟨[2], _, tg_name, ?_⟩
    show Run _ _ _ _ [.m a, .m p, .d (.str k), e3, e4] _
    refine r_if (t_test (x_op (x_dget (mo := .fz od ws (kd (mkD (ownedOf m)))) (x_vm rfl) (x_vd rfl) hin (.inr ⟨od, ws, rfl⟩) (mk_val hkO1)) (x_tup (ds := []) a_nil (by simp)) (o_eqD (.d _) (.d _) ((shp_ts 0 (SO.rgood hkO1)).shaped (by decide)) ((shp_tuple (n := 0) (l := []) (fun d hd => by cases hd)).shaped (by decide))))) (fun hb => ?_) fun hb => ?_
    · rw [eqv_ts_nil, hkO2] at hb
      have hbare : ownR m k = [] := List.isEmpty_iff.mp hb
      have hl : (((mkD (ownedOf m)).map (·.1)).map PyData.str).length = (sortT (keys m)).length := by rw [hkO, List.length_map]
      have hlc := lc_filter (sortT (keys m)) "" (fun n => decide (n ≠ k)) PyData.str
      refine q_asg (e := .d (.list ((othersN m k).map .str))) (x_is (x_lcN (fun _ => [(p, .fz od ws (kd (mkD (ownedOf m)))), (a, .dK (kd (mkD m)))]) (fun i => decide ((sortT (keys m)).getD i "" ≠ k)) (fun i => .str ((sortT (keys m)).getD i "")) (i_keys (x_vm rfl) hin) (fun i B D σ H _ o => ok_frz hin o) (by rw [hl]; omega) fun j d hd' G' B'' D' => ?_) (by rw [hl, hlc]; rfl)) ?_
      · rw [hkO] at hd'
        obtain ⟨x, hx, rfl⟩ := ts_back hd'
        have ex : (sortT (keys m)).getD j "" = x := by rw [List.getD_eq_getElem?_getD, hx]; rfl
        rw [ex]
        have hxm : x ∈ keys m := sortT_mem.mp (List.mem_of_getElem? hx)
        refine ⟨[4], [.m a, .m p, .d (.str k), e3, .d (.str x)], _, tg_name, fun k hk => hk, t_is (t_test (x_op (x_vd rfl) (x_vd rfl) (o_neD (.d _) (.d _) (sh_str (S.kgood hxm)) (sh_str (S.kgood hkm))))) ?_, fun _ => x_vd rfl, fun _ => rfl⟩
        rw [eqv_str]
        by_cases q : x = k
        · rw [q]; simp
        · rw [decide_eq_true q, show (x == k) = false from beq_eq_false_iff_ne.mpr q]; rfl
      show Run _ _ _ _ [.m a, .m p, .d (.str k), .d (.list ((othersN m k).map .str)), e4] [(p, .fz od ws (kd (mkD (ownedOf m)))), (a, .dK (kd (mkD m)))]
      obtain ⟨res, hres, rfl⟩ : ∃ res, found6 m (rowOf m k) (othersN m k) = some res ∧ d = .tuple [ts [k], ts res] := by
        rcases hC with ⟨h1, _⟩ | ⟨pre, post, k', res, h1, h2, h3, h4, h5⟩
        · exact absurd hbare (h1 k hkm)
        · have ek : k = k' := by
            have hlt := (List.getElem?_eq_some_iff.mp hk).1
            rw [h1] at hk hno
            rcases Nat.lt_trichotomy i pre.length with q | q | q
            · rw [List.getElem?_append_left q] at hk
              exact absurd hbare (h2 k (List.mem_of_getElem? hk))
            · rw [q, List.getElem?_append_right (Nat.le_refl _), Nat.sub_self] at hk
              exact (Option.some.inj hk).symm
            · have hm' : k' ∈ (pre ++ k' :: post).take i := by
                refine List.mem_of_getElem? (i := pre.length) ?_
                rw [List.getElem?_take, if_pos q, List.getElem?_append_right (Nat.le_refl _), Nat.sub_self]; rfl
              exact absurd h3 (hno k' hm')
          subst ek
          exact ⟨res, h4, h5⟩
      refine lk_ret (D := { D with nx := _ }) (μ1 := [(p, .dK (kd (mkD (ownedOf m)))), (a, .dK (kd (mkD m)))]) (j := 0) (μ' := [(a, .dK (kd (mkD m)))]) rfl ?_ (fun r hr => List.mem_cons_of_mem _ hr) fin
      exact x_tup (ds := [ts [k], ts res]) (a_cons (x_tup (ds := [.str k]) (a_cons (x_vd rfl) a_nil) (by simp)) (a_cons (x_callE1 (a := a) (mo := .dK (kd (mkD m))) (a_cons (x_vm rfl) (a_cons (x_dget (mo := .dK (kd (mkD m))) (x_vm rfl) (x_vd rfl) (by simp) (.inl rfl) (mk_val hkm)) (a_cons (x_vd rfl) a_nil))) (by simp) ⟨a, _, m, rowOf m k, othersN m k, res, rfl, rfl, .inl rfl, S, S.rgood hkm, S.rlen hkm, othersN_keys, othersN_len S hkm, bare_cover S hkm hbare, hres, rfl, rfl⟩) a_nil)) (by simp)
    · rw [eqv_ts_nil, hkO2] at hb
      refine r_next fun σ H o => ⟨_, _, ⟨⟨_, _, _, rfl⟩, rfl, fun x hx => ?_⟩, o⟩
      rw [take_succ' hk] at hx
      rcases List.mem_append.mp hx with z | z
      · exact hno x z
      · rw [List.mem_singleton.mp z]
        intro q
        rw [q] at hb; cases hb
  · rintro δ1 μ1 ⟨⟨e2, e3, e4, rfl⟩, rfl, hno⟩
    refine lk_nx (μ := [(p, .dK (kd (mkD (ownedOf m)))), (a, .dK (kd (mkD m)))]) (j := 0) rfl ?_
    have ed : d = .none := by
      rw [hkO, List.length_map, List.take_length] at hno
      rcases hC with ⟨_, h⟩ | ⟨pre, post, k', res, h1, h2, h3, h4, h5⟩
      · exact h
      · exact absurd h3 (hno k' (by rw [h1]; simp))
    subst ed
    exact r_retE x_non (fun r hr => List.mem_cons_of_mem _ hr) fin
end
end K83
namespace K83
open PySem L2 FD
section
variable {P : Program} {w : World} {K : PySem.W.Frag} {mg : Str → Option Value} {base : Heap}
abbrev nLf : List Str := ["_law_making_here", "_law_row", "_law_names_here", "_law_some", "_law_size", "_law_one", "_law_longer", "_law_name"]
theorem scLf : FnScope nLf ["_law_making_here", "_law_row", "_law_names_here"] (defScope sLf) := ⟨rfl, rfl, rfl, by decide +kernel, rfl, by decide +kernel, by decide +kernel⟩
theorem lev_get {names : List Str} {s j : Nat} {d : PyData} (h : ((lev names s).map ts)[j]? = some d) : ∃ one, (lev names s)[j]? = some one ∧ d = ts one := by
  rw [List.getElem?_map] at h
  cases e : (lev names s)[j]? with
  | none => rw [e] at h; cases h
  | some x => rw [e] at h; exact ⟨x, rfl, (Option.some.inj h).symm⟩
theorem ok_lf {f : Addr} {fd : FuncData} (T : Txt mg) (F : Fun K "_law_first_holder" "_law_first_holder" sLf f fd) {f1 f2 : Addr} {fd1 fd2 : FuncData} (H1 : Has K mg "_law_within" sLi ["_law_u", "_law_v"] f1 fd1) (H2 : Has K mg "_law_made" sLm ["_law_making_here", "_law_row"] f2 fd2) :
    FnOk P w K mg base CX0 2 f fd ["_law_making_here", "_law_row", "_law_names_here"] (spE K 3 Rfh) := by
  have G1 : FnOk P w K mg base CX0 1 f1 fd1 ["_law_u", "_law_v"] (spR K 2 Rwi) := ok_li T H1.F
  have G2 : FnOk P w K mg base CX0 1 f2 fd2 ["_law_making_here", "_law_row"] (spE K 2 Rmd) := ok_lm T H2.F
  refine def_E F scLf (by decide) rfl fun cdv A outer s H E hr => ?_
  have nd := scLf.nd
  refine ⟨_, (pss_cons (ps_set (i := 3) nd rfl (Or.inl rfl) (pe_lst (pa_cons (pe_tup pa_nil) pa_nil)))
 (pss_cons (ps_for PassesOwn.never rfl (pi_range1 (by rfl) T.range (pa_cons pe_int pa_nil)) (pg_name (i := 4) nd rfl (Or.inl rfl)) (pss_cons (ps_for PassesOwn.never rfl (pi_list (pv 3)) (pg_name (i := 5) nd rfl (Or.inr rfl)) (pss_one (ps_if (pt_val (pe_call G1 hr rfl H1.m H1.F.kp H1.b .nil pass0 (pa_cons (pv 1) (pa_cons (pe_call G2 hr rfl H2.m H2.F.kp H2.b .nil pass0 (pa_cons (pv 0) (pa_cons (pv 5) pa_nil))) pa_nil)))) (pss_one (ps_ret (pv 5))) pss_nil)))
 (pss_cons (ps_set (i := 6) nd rfl (Or.inl rfl) (pe_lst pa_nil))
 (pss_cons (ps_for PassesOwn.never rfl (pi_list (pv 3)) (pg_name (i := 5) nd rfl (Or.inr rfl)) (pss_one (ps_set (i := 6) nd rfl (Or.inl rfl) (pe_op op_catL (pv 6) (pe_lc (own := [("_law_name", 7)]) (g := (gName 7)) (tt := tYes) rfl nd (pi_list (pv 2)) (blkOk_by (N := nLf) (sc := defScope sLf) (by decide +kernel)) (fun _ _ _ _ _ => (pg_name (i := 7) nd rfl (Or.inl rfl))) (fun _ _ _ _ _ => pts_nil) (fun _ _ _ _ _ => (pe_op (kop_catA (K := K) rfl) (pv 5) (pe_tup (pa_cons (pv 7) pa_nil)))))))))
 (pss_one (ps_set (i := 3) nd rfl (Or.inl rfl) (pe_slice sl_list (pv 6) po_none (po_some pe_int))))))))
 (pss_one (ps_ret pe_non)))), ?_⟩
  rintro M G B es μ d μ' ⟨a, mo, m, row, names, res, rfl, rfl, hd, S, gr, hrl, hnk, hnl, hcov, hf6, rfl, rfl⟩ D fin
  show Run _ _ D M [.m a, .d (ts row), .d (.list (names.map .str)), .u, .u, .u, .u, .u] [(a, mo)]
  have hin : (a, mo) ∈ [(a, mo)] := List.mem_singleton.mpr rfl
  refine q_asg (e := .d (.list ((lev names 0).map ts))) (x_lst (ds := [.tuple []]) (a_cons (x_tup (ds := []) a_nil (by simp)) a_nil) (by simp)) ?_
  refine q_for (i_rng1 (n := 6) (a_cons x_int a_nil) (by decide) (by decide)) (fun s δ μ => ∃ e4 e5 e6, δ = [.m a, .d (ts row), .d (.list (names.map .str)), .d (.list ((lev names s).map ts)), e4, e5, e6, .u] ∧ μ = [(a, mo)] ∧ ∀ t, t < s → (lev names t).find? (reach m row 0) = none)
    ⟨_, _, _, rfl, rfl, fun t ht => absurd ht (Nat.not_lt_zero t)⟩ ?_ ?_
  · rintro B' hB s d δ1 μ1 hi ⟨e4, e5, e6, rfl, rfl, hlow⟩
    have hs6 : s < 6 := by have := (List.getElem?_eq_some_iff.mp hi).1; rw [rngD_length] at this; exact this
    have hlev := found6_level hlow hs6
    have hl243 : (lev names s).length ≤ 243 := lev3 hnl (by omega)
    refine ⟨[4], _, tg_name, ?_⟩
    show Run _ _ _ _ [.m a, .d (ts row), .d (.list (names.map .str)), .d (.list ((lev names s).map ts)), .d d, e5, e6, .u] _
    refine q_for (i_list (x_vd rfl)) (fun j δ μ => ∃ e5, δ = [.m a, .d (ts row), .d (.list (names.map .str)), .d (.list ((lev names s).map ts)), .d d, e5, e6, .u] ∧ μ = [(a, mo)] ∧ ∀ x ∈ (lev names s).take j, ¬ reach m row 0 x = true) ⟨_, rfl, rfl, fun x hx => by simp at hx⟩ ?_ ?_
    · rintro B2 hB2 j d2 δ2 μ2 hj ⟨e5, rfl, rfl, hno⟩
      obtain ⟨one, ho, rfl⟩ := lev_get hj
      have hom := List.mem_of_getElem? ho
      have hok : ∀ k ∈ one, k ∈ keys m := fun k hk => hnk k (lev_names names s one hom k hk)
      have hol : one.length = s := lev_len names s one hom
      have hml := made_len S hok
      refine ⟨[5], _, tg_name, ?_⟩
      show Run _ _ _ _ [.m a, .d (ts row), .d (.list (names.map .str)), .d (.list ((lev names s).map ts)), .d d, .d (ts one), e6, .u] _
      refine r_if (t_B (x_callR (ds := [ts row, ts (made m one)]) (a_cons (x_vd rfl) (a_cons (x_callE1 (a_cons (x_vm rfl) (a_cons (x_vd rfl) a_nil)) hin ⟨a, mo, m, one, rfl, rfl, hd, S, hok, by omega, rfl, rfl⟩) a_nil)) ⟨row, made m one, rfl, gr, made_good S hok, by omega, by omega, rfl⟩)) (fun hb => ?_) fun hb => ?_
      · rw [reach_sub] at hb
        have hfx := find_at ho hb hno
        rw [hfx] at hlev
        have er : res = one := by
          rw [hf6] at hlev
          exact Option.some.inj hlev
        subst er
        exact r_retE (x_vd rfl) (fun z hz => hz) fin
      · rw [reach_sub] at hb
        refine r_next fun σ H o => ⟨_, _, ⟨_, rfl, rfl, fun x hx => ?_⟩, o⟩
        rw [take_succ' ho] at hx
        rcases List.mem_append.mp hx with z | z
        · exact hno x z
        · rw [List.mem_singleton.mp z, hb]; exact Bool.false_ne_true
    · rintro δ2 μ2 ⟨e5, rfl, rfl, hno⟩
      rw [List.length_map, List.take_length] at hno
      have hnone : (lev names s).find? (reach m row 0) = none := List.find?_eq_none.mpr hno
      have hlow' : ∀ t, t < s + 1 → (lev names t).find? (reach m row 0) = none := fun t ht => by
        by_cases e : t = s
        · rw [e]; exact hnone
        · exact hlow t (by omega)
      have hs5 : s < 5 := by
        refine Nat.lt_of_not_le fun hge => ?_
        have := found6_none (m := m) (row := row) (names := names) fun t ht => hlow' t (by omega)
        rw [hf6] at this; cases this
      have hl2 : (lev names (s + 1)).length ≤ 243 := lev3 hnl (by omega)
      refine q_asg (x_lst (ds := []) a_nil (by simp)) ?_
      show Run _ _ _ _ [.m a, .d (ts row), .d (.list (names.map .str)), .d (.list ((lev names s).map ts)), .d d, e5, .d (.list []), .u] _
      refine q_for (i_list (x_vd rfl)) (fun j δ μ => ∃ e5, δ = [.m a, .d (ts row), .d (.list (names.map .str)), .d (.list ((lev names s).map ts)), .d d, e5, .d (.list ((((lev names s).take j).flatMap fun one => names.map fun n => one ++ [n]).map ts)), .u] ∧ μ = [(a, mo)]) ⟨_, rfl, rfl⟩ ?_ ?_
      · rintro B2 hB2 j d2 δ2 μ2 hj ⟨e5, rfl, rfl⟩
        obtain ⟨one, ho, rfl⟩ := lev_get hj
        have hjl := (List.getElem?_eq_some_iff.mp ho).1
        have hol : one.length = s := lev_len names s one (List.mem_of_getElem? ho)
        refine ⟨[5], _, tg_name, ?_⟩
        show Run _ _ _ _ [.m a, .d (ts row), .d (.list (names.map .str)), .d (.list ((lev names s).map ts)), .d d, .d (ts one), .d (.list ((((lev names s).take j).flatMap fun one => names.map fun n => one ++ [n]).map ts)), .u] _
        have hsz : (((lev names s).take j).flatMap fun one => names.map fun n => one ++ [n]).length ≤ 243 * 3 := by
          rw [List.length_flatMap]
          have := sum_le (fun one : List Str => (names.map fun n => one ++ [n]).length) 3 ((lev names s).take j) fun x _ => by rw [List.length_map]; exact hnl
          rw [List.length_take] at this
          omega
        refine r_asg (x_is (x_op (x_vd rfl) (x_lcP (ts := [7]) (fun j => ts (one ++ [names.getD j ""])) (i_list (x_vd rfl)) (by rw [List.length_map]; omega)
          (fun j' => [.m a, .d (ts row), .d (.list (names.map .str)), .d (.list ((lev names s).map ts)), .d d, .d (ts one), .d (.list ((((lev names s).take j).flatMap fun one => names.map fun n => one ++ [n]).map ts)), .d (.str (names.getD j' ""))]) (fun j' d hd' => ?_) (fun k hk => hk) (fun j' d hd' G' B'' D' => ?_)) (o_catL ?_)) ?_) fun σ H o => ⟨_, _, ⟨_, rfl, rfl⟩, o⟩
        · obtain ⟨x, hx, rfl⟩ := ts_back hd'
          have : names.getD j' "" = x := by rw [List.getD_eq_getElem?_getD, hx]; rfl
          rw [this]
          exact tg_name
        · refine x_is (x_op (x_vd rfl) (x_tup (ds := [.str (names.getD j' "")]) (a_cons (x_vd rfl) a_nil) (by simp)) (o_catT (by rw [List.length_map, hol]; simp; omega))) ?_
          unfold ts
          rw [List.map_append]; rfl
        · rw [List.length_map, List.length_map, List.length_range, List.length_map]
          omega
        · rw [take_succ' ho, List.flatMap_append, List.map_append, List.flatMap_singleton, List.length_map]
          have := range_map names "" fun n => ts (one ++ [n])
          rw [this, List.map_map]; rfl
      · rintro δ2 μ2 ⟨e5, rfl, rfl⟩
        rw [List.length_map, List.take_length]
        refine r_asg (e := .d (.list ((lev names (s + 1)).map ts))) (x_is (x_slL (x_vd rfl) p_none (p_some x_int) (.d _)) ?_) fun σ H o => ⟨_, _, ⟨_, _, _, rfl, rfl, hlow'⟩, o⟩
        show Ent.d (.list (cutD ((lev names (s + 1)).map ts) none (some 400))) = _
        rw [cutD_whole]
        refine ⟨rfl, ?_⟩
        have : HT.sIx ((lev names (s + 1)).map ts).length ((lev names (s + 1)).map ts).length (some ((400 : Nat) : Int)) = min 400 ((lev names (s + 1)).map ts).length := HT.sIx_nat _ _ _
        rw [List.length_map] at this ⊢
        rw [show (400 : Int) = ((400 : Nat) : Int) from rfl, this]
        omega
  · rintro δ1 μ1 ⟨e4, e5, e6, rfl, rfl, hlow⟩
    have := found6_none (m := m) (row := row) (names := names) fun t ht => hlow t (by rw [rngD_length]; exact ht)
    rw [hf6] at this; cases this
end
end K83
namespace K83
open PySem L2 FD
/-! ### the law's draws -/
abbrev Box := Int × Int × Int
def Box.ds (b : Box) : List PyData := [.int b.1, .int b.2.1, .int b.2.2]
def rawOf (y z : Int) : Int := ((y + 99991 * z) * 69621 + 59) % 2147483563
def nextOf (r : Int) : Int := (r * 40692 + 27017) % 2147483629 + 1
def tkB (b : Box) (n : Int) : Box := if 0 < b.1 then (b.1 / n, b.2.1, b.2.2) else (b.1, nextOf (rawOf b.2.1 (b.2.2 + 1)), b.2.2 + 1)
def tkV (b : Box) (n : Int) : Int := if 0 < b.1 then b.1 % n else (rawOf b.2.1 (b.2.2 + 1) * 2147483647 + nextOf (rawOf b.2.1 (b.2.2 + 1))) / 8191 % n
theorem tkV_lt {b : Box} {n : Int} (h : 0 < n) : 0 ≤ tkV b n ∧ tkV b n < n := by
  unfold tkV
  split
  · exact ⟨Int.emod_nonneg _ (by omega), Int.emod_lt_of_pos _ h⟩
  · exact ⟨Int.emod_nonneg _ (by omega), Int.emod_lt_of_pos _ h⟩
def Rtk (bs ds : List PyData) (d : PyData) (bs' : List PyData) : Prop := ∃ (b : Box) (n : Int), bs = b.ds ∧ ds = [.int n] ∧ 0 < n ∧ n < 2 ^ 64 ∧ d = .int (tkV b n) ∧ bs' = (tkB b n).ds
section
variable {P : Program} {w : World} {K : PySem.W.Frag} {mg : Str → Option Value} {base : Heap}
abbrev nTk : List Str := ["_law_box_here", "_law_many", "_law_raw", "_law_digit"]
theorem scTk : FnScope nTk ["_law_box_here", "_law_many"] (defScope sTk) := ⟨rfl, rfl, rfl, by decide +kernel, rfl, by decide +kernel, by decide +kernel⟩
theorem ok_tk {f : Addr} {fd : FuncData} (T : Txt mg) (F : Fun K "_law_take" "_law_take" sTk f fd) : FnOk P w K mg base CX0 1 f fd ["_law_box_here", "_law_many"] (spW K 2 Rtk) := by
  refine def_W F scTk (by decide) rfl fun cdv A outer s H E hr => ?_
  have nd := scTk.nd
  refine ⟨_, (pss_cons (ps_if (pt_cmpR op_gt (pe_ix ix_list (pv 0) pe_int (fun _ _ => rfl)) pe_int (nomark _)) (pss_cons (ps_set (i := 3) nd rfl (Or.inl rfl) (pe_op op_mod (pe_callTy call_int1 (by rfl) T.int (by decide +kernel) (pa_cons (pe_ix ix_list (pv 0) pe_int (fun _ _ => rfl)) pa_nil)) (pv 1)))
 (pss_cons (ps_asg (pe_op op_fdivW (pe_ix ix_list (pv 0) pe_int (fun _ _ => rfl)) (pv 1)) (pg_sub (pv 0) pe_int set_list))
 (pss_one (ps_ret (pv 3))))) pss_nil)
 (pss_cons (ps_asg (pe_op op_add (pe_ix ix_list (pv 0) pe_int (fun _ _ => rfl)) pe_int) (pg_sub (pv 0) pe_int set_list))
 (pss_cons (ps_set (i := 2) nd rfl (Or.inl rfl) (pe_op op_mod (pe_callTy call_int1 (by rfl) T.int (by decide +kernel) (pa_cons (pe_op op_add (pe_op op_mul (pe_op op_add (pe_ix ix_list (pv 0) pe_int (fun _ _ => rfl)) (pe_op op_mul pe_int (pe_ix ix_list (pv 0) pe_int (fun _ _ => rfl)))) pe_int) pe_int) pa_nil)) pe_int))
 (pss_cons (ps_asg (pe_op op_add (pe_op op_mod (pe_callTy call_int1 (by rfl) T.int (by decide +kernel) (pa_cons (pe_op op_add (pe_op op_mul (pv 2) pe_int) pe_int) pa_nil)) pe_int) pe_int) (pg_sub (pv 0) pe_int set_list))
 (pss_one (ps_ret (pe_op op_mod (pe_callTy call_int1 (by rfl) T.int (by decide +kernel) (pa_cons (pe_op op_fdivW (pe_op op_add (pe_op op_mul (pv 2) pe_int) (pe_ix ix_list (pv 0) pe_int (fun _ _ => rfl))) pe_int) pa_nil)) (pv 1)))))))), ?_⟩
  rintro M G B b bs ds d bs' _ ⟨⟨x, y, z⟩, n, rfl, rfl, h0, h1, rfl, rfl⟩ D fin
  show Run _ _ D M [.m b, .d (.int n), .u, .u] [(b, .lst [.int x, .int y, .int z])]
  have hR : Rdd [(b, .lst [.int x, .int y, .int z])] (.m b) (.list [.int x, .int y, .int z]) := .m (j := 0) rfl
  refine q_when (t_test (x_op (x_op (x_vm rfl) x_int (o_ixL hR rfl)) x_int o_B0)) (fun hb => ?_) fun hb => ?_
  · have hx : 0 < x := of_decide_eq_true hb
    refine q_asg (x_op (x_cbP (a_cons (x_op (x_vm rfl) x_int (o_ixL hR rfl)) a_nil) c_intI) (x_vd rfl) (o_I h0)) ?_
    refine q_setL (j := 0) (n := 0) (x_op (x_op (x_vm rfl) x_int (o_ixL hR rfl)) (x_vd rfl) (o_I (wide_div h0 (b := 64) (by omega) (by decide) (by decide)))) (x_vm rfl) x_int rfl rfl ?_
    refine r_retW (j := 0) (x_vd rfl) rfl fun v M' H' e s m r => fin v M' H' e s ?_ ?_
    · have e1 : (tkB (x, y, z) n).ds = [.int (x / n), .int y, .int z] := by unfold tkB; rw [if_pos hx]; rfl
      rw [e1]; exact m
    · have e1 : tkV (x, y, z) n = x % n := by unfold tkV; rw [if_pos hx]
      rw [e1]; exact r
  · have hx : ¬ 0 < x := of_decide_eq_false hb
    refine q_setL (j := 0) (n := 2) (x_op (x_op (x_vm rfl) x_int (o_ixL hR rfl)) x_int o_I0) (x_vm rfl) x_int rfl rfl ?_
    have hR2 : Rdd [(b, .lst [.int x, .int y, .int (z + 1)])] (.m b) (.list [.int x, .int y, .int (z + 1)]) := .m (j := 0) rfl
    show Run _ _ D M [.m b, .d (.int n), .u, .u] [(b, .lst [.int x, .int y, .int (z + 1)])]
    refine q_asg (x_op (x_cbP (a_cons (x_op (x_op (x_op (x_op (x_vm rfl) x_int (o_ixL hR2 rfl)) (x_op x_int (x_op (x_vm rfl) x_int (o_ixL hR2 rfl)) (o_I (.inl ⟨by decide, by decide⟩))) o_I0) x_int (o_I (.inr ⟨by decide, by decide⟩))) x_int o_I0) a_nil) c_intI) x_int (o_I (by decide))) ?_
    show Run _ _ D M [.m b, .d (.int n), .d (.int (rawOf y (z + 1))), .u] [(b, .lst [.int x, .int y, .int (z + 1)])]
    refine q_setL (j := 0) (n := 1) (x_op (x_op (x_cbP (a_cons (x_op (x_op (x_vd rfl) x_int (o_I (.inr ⟨by decide, by decide⟩))) x_int o_I0) a_nil) c_intI) x_int (o_I (by decide))) x_int o_I0) (x_vm rfl) x_int rfl rfl ?_
    have hR3 : Rdd [(b, .lst [.int x, .int (nextOf (rawOf y (z + 1))), .int (z + 1)])] (.m b) (.list [.int x, .int (nextOf (rawOf y (z + 1))), .int (z + 1)]) := .m (j := 0) rfl
    show Run _ _ D M [.m b, .d (.int n), .d (.int (rawOf y (z + 1))), .u] [(b, .lst [.int x, .int (nextOf (rawOf y (z + 1))), .int (z + 1)])]
    refine r_retW (j := 0) (x_op (x_cbP (a_cons (x_op (x_op (x_op (x_vd rfl) x_int (o_I (.inr ⟨by decide, by decide⟩))) (x_op (x_vm rfl) x_int (o_ixL hR3 rfl)) o_I0) x_int (o_I (wide_div (by decide) (b := 64) (by decide) (by decide) (by decide)))) a_nil) c_intI) (x_vd rfl) (o_I h0)) rfl fun v M' H' e s m r => fin v M' H' e s ?_ ?_
    · have e1 : (tkB (x, y, z) n).ds = [.int x, .int (nextOf (rawOf y (z + 1))), .int (z + 1)] := by unfold tkB; rw [if_neg hx]; rfl
      rw [e1]; exact m
    · have e1 : tkV (x, y, z) n = (rawOf y (z + 1) * 2147483647 + nextOf (rawOf y (z + 1))) / 8191 % n := by unfold tkV; rw [if_neg hx]
      rw [e1]; exact r
/-! ### _law_pick -/
def Rpk (bs ds : List PyData) (d : PyData) (bs' : List PyData) : Prop := ∃ (b : Box) (xs : List PyData), bs = b.ds ∧ (ds = [.list xs] ∨ ds = [.tuple xs]) ∧ 0 < xs.length ∧ xs.length < 100000 ∧ xs[(tkV b xs.length).toNat]? = some d ∧ bs' = (tkB b xs.length).ds
abbrev nPk : List Str := ["_law_box_here", "_law_some"]
theorem scPk : FnScope nPk ["_law_box_here", "_law_some"] (defScope sPk) := ⟨rfl, rfl, rfl, by decide +kernel, rfl, by decide +kernel, by decide +kernel⟩
theorem at_nat {α : Type} {xs : List α} {i : Int} {v : α} (h0 : 0 ≤ i) (h : xs[i.toNat]? = some v) : atI xs i = some v := by
  have e : i = (i.toNat : Int) := by omega
  rw [e]; exact atI_nat h
theorem ok_pk {f : Addr} {fd : FuncData} (T : Txt mg) (F : Fun K "_law_pick" "_law_pick" sPk f fd) {f1 : Addr} {fd1 : FuncData} (H1 : Has K mg "_law_take" sTk ["_law_box_here", "_law_many"] f1 fd1) : FnOk P w K mg base CX0 2 f fd ["_law_box_here", "_law_some"] (spW K 2 Rpk) := by
  have G1 : FnOk P w K mg base CX0 1 f1 fd1 ["_law_box_here", "_law_many"] (spW K 2 Rtk) := ok_tk T H1.F
  refine def_W F scPk (by decide) rfl fun cdv A outer s H E hr => ?_
  have nd := scPk.nd
  refine ⟨_, (pss_one (ps_ret (pe_ix ix_seq (pv 1) (pe_call G1 hr rfl H1.m H1.F.kp H1.b .nil pass0 (pa_cons (pv 0) (pa_cons (pe_callB call_len_seq (by rfl) T.len PySem.boot_len (pa_cons (pv 1) pa_nil)) pa_nil))) (fun _ _ => rfl)))), ?_⟩
  rintro M G B b bs ds d bs' _ ⟨bx, xs, rfl, hds, h0, h1, hx, rfl⟩ D fin
  have hv := tkV_lt (b := bx) (n := xs.length) (by omega)
  rcases hds with rfl | rfl
  · show Run _ _ D M [.m b, .d (.list xs)] [(b, .lst bx.ds)]
    refine r_retW (j := 0) (x_op (x_vd rfl) (x_callW 0 (ds := [.int (xs.length : Int)]) (a_cons (x_vm rfl) (a_cons (x_cbP (a_cons (x_vd rfl) a_nil) (c_lenL (.d _))) a_nil)) ⟨bx, _, rfl, rfl, by omega, by omega, rfl, rfl⟩) (o_seqL (.d _) (at_nat hv.1 hx))) rfl fin
  · show Run _ _ D M [.m b, .d (.tuple xs)] [(b, .lst bx.ds)]
    refine r_retW (j := 0) (x_op (x_vd rfl) (x_callW 0 (ds := [.int (xs.length : Int)]) (a_cons (x_vm rfl) (a_cons (x_cbP (a_cons (x_vd rfl) a_nil) c_lenT) a_nil)) ⟨bx, _, rfl, rfl, by omega, by omega, rfl, rfl⟩) (o_seqT (at_nat hv.1 hx))) rfl fin
end
end K83
namespace FD
open PySem L2 Evl
section
variable {C : Cfg} {M : List Addr} {δ δ' : List Ent} {μ μ' μ'' : Mem} {t : TT} {b : Bool} {t1 t2 t3 : TS} {D : Ends}
/-- both ways meet -/
theorem q_ifJ (δ' : List Ent) (μ'' : Mem) (h : EvT C t M δ μ μ' b) (h1 : b = true → ∀ D', Nx C D' M δ' μ'' → Run C t1 D' M δ μ') (h2 : b = false → ∀ D', Nx C D' M δ' μ'' → Run C t2 D' M δ μ') (k : Run C t3 D M δ' μ'') : Run C (tSeq (tIfS t t1 t2) t3) D M δ μ :=
  q_if h (fun hb => h1 hb { D with nx := t3 D } k) (fun hb => h2 hb { D with nx := t3 D } k)
theorem nx_to {δ1 : List Ent} {μ1 : Mem} (k : Nx C D M δ1 μ1) (e1 : δ = δ1) (e2 : μ = μ1) : Nx C D M δ μ := by rw [e1, e2]; exact k
end
end FD
namespace FD
open PySem L2 Evl
section
variable {C : Cfg} {M : List Addr} {δ δ' : List Ent} {μ μ' : Mem} {t : TT} {b : Bool} {t1 t2 t3 : TS} {D : Ends} {te : TE} {g : TG} {d : PyData}
theorem x_is_a {ta : TA} {es es' : List Ent} {μ1 : Mem} (h : EvA C ta M δ μ μ' es) (e : es = es') (q : μ' = μ1) : EvA C ta M δ μ μ1 es' := by rw [← e, ← q]; exact h
theorem q_asgG {tl : List Nat} (h : EvX C te M δ μ μ' (.d d)) (tg : TgX C.K g tl d δ δ') (k : Run C t2 D M δ' μ') : Run C (tSeq (tAsg te g) t2) D M δ μ := fun σ H o =>
  h σ H o _ fun v H' o' x r => tg C M μ' σ H' v rfl o' r _ fun σ' o2 _ _ => k σ' H' o2
theorem q_whenJ (J : List Ent → Mem → Prop) (h : EvT C t M δ μ μ' b) (h1 : b = true → ∀ D', (∀ δ1 μ1, J δ1 μ1 → Nx C D' M δ1 μ1) → Run C t1 D' M δ μ') (h2 : b = false → J δ μ') (k : ∀ δ1 μ1, J δ1 μ1 → Run C t3 D M δ1 μ1) : Run C (tSeq (tIfS t t1 tNext) t3) D M δ μ :=
  q_when h (fun hb => h1 hb { D with nx := t3 D } k) (fun hb => k _ _ (h2 hb))
end
end FD
namespace K83
open PySem L2 FD
theorem ti_get {xs : List Int} {i : Nat} {x : Int} (h : xs[i]? = some x) : (xs.map PyData.int)[i]? = some (.int x) := by rw [List.getElem?_map, h]; rfl
def absI (i : Int) : Int := if i < 0 then -i else i
def cellOf (ns : List Int) (k : Nat) : Int := if k < ns.length then absI (ns.getD k 0) else if 0 < ns.length then 8009 * (k : Int) + 50021 + absI (ns.getD (k % ns.length) 0) % 2147483629 * 60727 else 8009 * (k : Int) + 50021
def bxOf (ns : List Int) (k : Nat) : Box := (if (10 : Int) ^ (18 : Int).toNat ≤ cellOf ns k then cellOf ns k else 0, (cellOf ns k % 2147483629 * 48271 + 30013 * (k : Int) + 991) % 2147483629 + 1, 0)
section
variable {P : Program} {w : World} {K : PySem.W.Frag} {mg : Str → Option Value} {base : Heap}
def Rbx (ds es : List PyData) : Prop := ∃ (ns : List Int) (k : Nat), ds = [.list (ns.map .int), .int (k : Int)] ∧ k < 64 ∧ es = (bxOf ns k).ds
abbrev nBx : List Str := ["_law_script", "_law_k", "_law_cell", "_law_great"]
theorem scBx : FnScope nBx ["_law_script", "_law_k"] (defScope sBx) := ⟨rfl, rfl, rfl, by decide +kernel, rfl, by decide +kernel, by decide +kernel⟩
theorem getD_get {xs : List Int} {i : Nat} (h : i < xs.length) : xs[i]? = some (xs.getD i 0) := by simp [h]
theorem ok_bx {f : Addr} {fd : FuncData} (T : Txt mg) (F : Fun K "_law_box" "_law_box" sBx f fd) : FnOk P w K mg base CX0 1 f fd ["_law_script", "_law_k"] (spN K 2 Rbx) := by
  refine def_N F scBx (by decide) fun cdv A outer s H E hr => ?_
  have nd := scBx.nd
  refine ⟨_, (pss_cons (ps_set (i := 2) nd rfl (Or.inl rfl) (pe_op op_add (pe_op op_mul pe_int (pv 1)) pe_int))
 (pss_cons (ps_if (pt_cmpR op_lt (pv 1) (pe_callB call_len_seq (by rfl) T.len PySem.boot_len (pa_cons (pv 0) pa_nil)) (nomark _)) (pss_one (ps_set (i := 2) nd rfl (Or.inl rfl) (pe_callB call_abs (by rfl) T.abs (by decide +kernel) (pa_cons (pe_ix ix_list (pv 0) (pv 1) (fun _ _ => rfl)) pa_nil)))) (pss_one (ps_if (pt_cmpR op_gt (pe_callB call_len_seq (by rfl) T.len PySem.boot_len (pa_cons (pv 0) pa_nil)) pe_int (nomark _)) (pss_one (ps_set (i := 2) nd rfl (Or.inl rfl) (pe_op op_add (pv 2) (pe_op op_mul (pe_op op_mod (pe_callTy call_int1 (by rfl) T.int (by decide +kernel) (pa_cons (pe_callB call_abs (by rfl) T.abs (by decide +kernel) (pa_cons (pe_ix ix_list (pv 0) (pe_op op_mod (pe_callTy call_int1 (by rfl) T.int (by decide +kernel) (pa_cons (pv 1) pa_nil)) (pe_callB call_len_seq (by rfl) T.len PySem.boot_len (pa_cons (pv 0) pa_nil))) (fun _ _ => rfl)) pa_nil)) pa_nil)) pe_int) pe_int)))) pss_nil)))
 (pss_cons (ps_set (i := 3) nd rfl (Or.inl rfl) (pe_callTy call_int1 (by rfl) T.int (by decide +kernel) (pa_cons (pe_cmpR op_ge (pv 2) (pe_op op_pow pe_int pe_int) (nomark _)) pa_nil)))
 (pss_one (ps_ret (pe_lst (pa_cons (pe_ix ix_list (pe_lst (pa_cons pe_int (pa_cons (pv 2) pa_nil))) (pv 3) (fun _ _ => rfl)) (pa_cons (pe_op op_add (pe_op op_mod (pe_callTy call_int1 (by rfl) T.int (by decide +kernel) (pa_cons (pe_op op_add (pe_op op_add (pe_op op_mul (pe_op op_mod (pe_callTy call_int1 (by rfl) T.int (by decide +kernel) (pa_cons (pv 2) pa_nil)) pe_int) pe_int) (pe_op op_mul pe_int (pv 1))) pe_int) pa_nil)) pe_int) pe_int) (pa_cons pe_int pa_nil))))))))), ?_⟩
  rintro M G B ds es _ ⟨ns, k, rfl, hk, rfl⟩ D fin
  show Run _ _ D M [.d (.list (ns.map .int)), .d (.int (k : Int)), .u, .u] []
  refine q_asg (x_op (x_op x_int (x_vd rfl) (o_I (.inl ⟨by decide, by decide⟩))) x_int o_I0) ?_
  refine q_ifJ [.d (.list (ns.map .int)), .d (.int (k : Int)), .d (.int (cellOf ns k)), .u] [] (t_test (x_op (x_vd rfl) (x_cbP (a_cons (x_vd rfl) a_nil) (c_lenL (.d _))) o_B0)) (fun hb D' kk => ?_) (fun hb D' kk => ?_) ?_
  · have h : k < ns.length := by have := of_decide_eq_true hb; rw [List.length_map] at this; omega
    refine r_asg (x_cbP (a_cons (x_op (x_vd rfl) (x_vd rfl) (o_ixL (.d _) (atI_nat (ti_get (getD_get h))))) a_nil) c_abs) (nx_to kk ?_ rfl)
    unfold cellOf
    rw [if_pos h]; rfl
  · have h : ¬ k < ns.length := by have := of_decide_eq_false hb; rw [List.length_map] at this; omega
    refine r_if (t_test (x_op (x_cbP (a_cons (x_vd rfl) a_nil) (c_lenL (.d _))) x_int o_B0)) (fun hb => ?_) fun hb => ?_
    · have h0 : 0 < ns.length := by have := of_decide_eq_true hb; rw [List.length_map] at this; omega
      have e : ((k : Int) % ((ns.map PyData.int).length : Int)) = ((k % ns.length : Nat) : Int) := by rw [List.length_map]; omega
      refine r_asg (x_op (x_vd rfl) (x_op (x_op (x_cbP (a_cons (x_cbP (a_cons (x_op (x_vd rfl) (x_op (x_cbP (a_cons (x_vd rfl) a_nil) c_intI) (x_cbP (a_cons (x_vd rfl) a_nil) (c_lenL (.d _))) (o_I (by rw [List.length_map]; omega))) (o_ixL (.d _) (by rw [e]; exact atI_nat (ti_get (getD_get (Nat.mod_lt _ h0)))))) a_nil) c_abs) a_nil) c_intI) x_int (o_I (by decide))) x_int (o_I (.inr ⟨by decide, by decide⟩))) o_I0) (nx_to kk ?_ rfl)
      unfold cellOf
      rw [if_neg h, if_pos h0]; rfl
    · have h0 : ¬ 0 < ns.length := by have := of_decide_eq_false hb; rw [List.length_map] at this; omega
      refine r_next (nx_to kk ?_ rfl)
      unfold cellOf
      rw [if_neg h, if_neg h0]; rfl
  · refine q_asg (x_cbP (a_cons (x_op (x_vd rfl) (x_op x_int x_int (o_I ⟨by decide, by decide, by decide⟩)) o_B0) a_nil) c_intB) ?_
    refine r_retN (μ' := []) (es := (bxOf ns k).ds) ?_ (by simp [Box.ds]) fin
    refine a_cons (x_is (x_op (x_lst (ds := [.int 0, .int (cellOf ns k)]) (a_cons x_int (a_cons (x_vd rfl) a_nil)) (by simp)) (x_vd rfl) (o_ixL (d := .int (bxOf ns k).1) (.d _) ?_)) rfl) (a_cons (x_op (x_op (x_cbP (a_cons (x_op (x_op (x_op (x_op (x_cbP (a_cons (x_vd rfl) a_nil) c_intI) x_int (o_I (by decide))) x_int (o_I (.inr ⟨by decide, by decide⟩))) (x_op x_int (x_vd rfl) (o_I (.inl ⟨by decide, by decide⟩))) o_I0) x_int o_I0) a_nil) c_intI) x_int (o_I (by decide))) x_int o_I0) (a_cons x_int a_nil))
    unfold bxOf
    by_cases hc : (10 : Int) ^ (18 : Int).toNat ≤ cellOf ns k
    · rw [decide_eq_true hc]; simp only [hc, if_true]; rfl
    · rw [decide_eq_false hc]; simp only [hc, if_false]; rfl
end
section
variable {C : Cfg} {M : List Addr} {δ : List Ent} {μ μ' : Mem} {tb tn : TE} {E : XK} {p : Addr} {b : Box} {n : Int}
theorem x_take (h1 : EvX C tb M δ [(p, .lst b.ds)] [(p, .lst b.ds)] (.m p)) (h2 : EvX C tn M δ [(p, .lst b.ds)] [(p, .lst b.ds)] (.d (.int n))) (h0 : 0 < n) (h3 : n < 2 ^ 64) :
    EvX C (tCall (spW C.K 2 Rtk) [] E (tCons tb (tCons tn tNil))) M δ [(p, .lst b.ds)] [(p, .lst (tkB b n).ds)] (.d (.int (tkV b n))) :=
  x_callW 0 (ds := [.int n]) (a_cons h1 (a_cons h2 a_nil)) ⟨b, n, rfl, rfl, h0, h3, rfl, rfl⟩
theorem x_pick {xs : List PyData} {d y : PyData} (h1 : EvX C tb M δ [(p, .lst b.ds)] [(p, .lst b.ds)] (.m p)) (h2 : EvX C tn M δ [(p, .lst b.ds)] [(p, .lst b.ds)] (.d y)) (hy : y = .list xs ∨ y = .tuple xs) (h0 : 0 < xs.length) (h3 : xs.length < 100000)
    (hx : xs[(tkV b xs.length).toNat]? = some d) : EvX C (tCall (spW C.K 2 Rpk) [] E (tCons tb (tCons tn tNil))) M δ [(p, .lst b.ds)] [(p, .lst (tkB b xs.length).ds)] (.d d) :=
  x_callW 0 (ds := [y]) (a_cons h1 (a_cons h2 a_nil)) ⟨b, xs, rfl, by rcases hy with rfl | rfl <;> simp, h0, h3, hx, rfl⟩
end
end K83
namespace FD
open PySem L2 Evl
/-- one's own list handed back as data, others with it -/
theorem r_retEM {C : Cfg} {M : List Addr} {δ : List Ent} {μ μ1 μ' : Mem} {te : TE} {D : Ends} {a : Addr} {ds : List PyData} (h : EvX C te M δ μ μ1 (.m a)) (hj : (a, .lst ds) ∈ μ1) (ha : a ∉ C.M0) (hs : ∀ p ∈ μ', p ∈ μ1) (k : FinE C D (.list ds) μ') : Run C (tRet te) D M δ μ := fun σ H o => h σ H o _ fun v H1 o1 x1 r => by
  have r' : v = .ref a := r
  rw [r']
  obtain ⟨_, _, vs, q1, q2⟩ := o1.mem _ hj
  refine k _ C.M0 H1 o1.gr (fun _ h => h) (fun p hp => ((o1.mem p (hs p hp)).2.2).mono (hide_sub o1.sub) fun _ q => q) ?_
  refine .lst (sq_of ?_) (dpAll_mono (hide_sub o1.sub) _ _ q2)
  rw [hide_out ha]; exact q1
end FD
namespace K83
open PySem L2 FD
theorem tok_iff {x : Str} : tok x ↔ ∀ c ∈ x.cps.toList, c < 0x110000 := by
  unfold tok
  rw [show PyData.canLay0 (.str x) = x.cps.all (· < 0x110000) by simp [PyData.canLay0, PyData.strOk]]
  rw [← Array.all_toList, List.all_eq_true]
  exact ⟨fun h c hc => of_decide_eq_true (h c hc), fun h c hc => decide_eq_true (h c hc)⟩
theorem app_codes (x y : Str) : (x ++ y).cps.toList = x.cps.toList ++ y.cps.toList := by
  show (x.cps ++ y.cps).toList = _
  simp
theorem len_codes (x : Str) : x.length = x.cps.toList.length := by
  show x.cps.size = _
  simp
theorem tok_app {x y : Str} (h : tok x) (k : tok y) : tok (x ++ y) := tok_iff.mpr fun c hc => by
  rw [app_codes] at hc
  exact (List.mem_append.mp hc).elim (tok_iff.mp h c) (tok_iff.mp k c)
theorem tok_cut {x : Str} (h : tok x) (lo hi : Option Int) : tok (cutS x lo hi) := tok_iff.mpr fun c hc => by
  unfold cutS at hc
  have hc : c ∈ ((x.cps.toList.drop (HT.sIx x.length 0 lo)).take (HT.sIx x.length x.length hi - HT.sIx x.length 0 lo)) := by simpa using hc
  exact tok_iff.mp h c (List.mem_of_mem_drop (List.mem_of_mem_take hc))
theorem cut_hi {x : Str} {p : Nat} (hp : p ≤ x.length) : (cutS x none (some (p : Int))).cps.toList = x.cps.toList.take p := by
  unfold cutS
  rw [HT.sIx_none, HT.sIx_nat, Nat.min_eq_left hp]
  simp
theorem cut_lo {x : Str} {p : Nat} (hp : p ≤ x.length) : (cutS x (some (p : Int)) none).cps.toList = x.cps.toList.drop p := by
  unfold cutS
  rw [HT.sIx_none, HT.sIx_nat, Nat.min_eq_left hp]
  have : (x.cps.toList.drop p).length = x.length - p := by rw [List.length_drop, ← len_codes]
  simp only []
  rw [List.take_of_length_le (by rw [this]; exact Nat.le_refl _)]
abbrev letters : Str := "abcdefghijklmnopqrstuvwxyz"
theorem let_len : letters.cps.toList.length = 26 := by decide +kernel
theorem let_small : ∀ c ∈ letters.cps.toList, c < 0x110000 := by decide +kernel
theorem let_nodup : letters.cps.toList.Nodup := by decide +kernel
def letC (n : Nat) : Nat := letters.cps.toList.getD (n % 26) 0
theorem letC_get (n : Nat) : letters.cps.toList[n % 26]? = some (letC n) := getD_at (by rw [let_len]; omega) 0
theorem letC_tok (n : Nat) : tok ⟨#[letC n]⟩ := tok_iff.mpr fun c hc => by
  have : c = letC n := by simpa using hc
  rw [this]; exact let_small _ (List.mem_of_getElem? (letC_get n))
theorem letC_inj {m n : Nat} (h : letC m = letC n) : m % 26 = n % 26 := by
  have h1 := letC_get m
  have h2 := letC_get n
  rw [h] at h1
  exact nd_ix let_nodup h1 h2
def nm (stem : Str) (p : Nat) (c : Nat) (fl : Bool) : Str := if fl = true then ⟨#[c]⟩ else cutS stem none (some (p : Int)) ++ ⟨#[c]⟩ ++ cutS stem (some (p : Int)) none
theorem nm_codes {stem : Str} {p c : Nat} {fl : Bool} (hp : p ≤ stem.length) : (nm stem p c fl).cps.toList = if fl = true then [c] else stem.cps.toList.take p ++ [c] ++ stem.cps.toList.drop p := by
  unfold nm
  cases fl with
  | true => rfl
  | false => rw [if_neg Bool.false_ne_true, if_neg Bool.false_ne_true, app_codes, app_codes, cut_hi hp, cut_lo hp]
theorem nm_inj {stem : Str} {p c c' : Nat} {fl fl' : Bool} (hp : p ≤ stem.length) (h : nm stem p c fl = nm stem p c' fl') : c = c' := by
  have e : (nm stem p c fl).cps.toList = (nm stem p c' fl').cps.toList := congrArg (fun x : Str => x.cps.toList) h
  rw [nm_codes hp, nm_codes hp] at e
  have hl := len_codes stem
  cases fl <;> cases fl' <;> simp only [if_true, if_false, Bool.false_eq_true] at e
  · have e1 := List.append_inj e (by simp)
    have e2 := List.append_inj e1.1 rfl
    simpa using e2.2
  · have := congrArg List.length e
    simp only [List.length_append, List.length_take, List.length_drop, List.length_cons, List.length_nil] at this
    have h0 : stem.cps.toList = [] := List.eq_nil_of_length_eq_zero (by omega)
    rw [h0] at e
    simpa using e
  · have := congrArg List.length e
    simp only [List.length_append, List.length_take, List.length_drop, List.length_cons, List.length_nil] at this
    have h0 : stem.cps.toList = [] := List.eq_nil_of_length_eq_zero (by omega)
    rw [h0] at e
    simpa using e
  · simpa using e
theorem nm_tok {stem : Str} {p c : Nat} {fl : Bool} (h : tok stem) (hc : tok ⟨#[c]⟩) : tok (nm stem p c fl) := by
  unfold nm
  split
  · exact hc
  · exact tok_app (tok_app (tok_cut h _ _) hc) (tok_cut h _ _)
def Pna (es : List Ent) (μ : Mem) : Prop := ∃ (b : Addr) (n : Nat) (bx : Box), es = [.m b, .d (.int (n : Int))] ∧ μ = [(b, .lst bx.ds)] ∧ n ≤ 4
def Qna (es : List Ent) (μ : Mem) (d : PyData) (μ' : Mem) : Prop := ∀ (b : Addr) (n : Nat) (bx : Box), es = [.m b, .d (.int (n : Int))] → μ = [(b, .lst bx.ds)] → ∃ (l : List Str) (bx' : Box), d = .list (l.map .str) ∧ l.length = n ∧ l.Nodup ∧ Good l ∧ μ' = [(b, .lst bx'.ds)]
section
variable {P : Program} {w : World} {K : PySem.W.Frag} {mg : Str → Option Value} {base : Heap}
theorem x_takeJ {C : Cfg} {M : List Addr} {δ : List Ent} {μ : Mem} {tb tn : TE} {E : XK} {p : Addr} {b : Box} {n : Int} (j : Nat) (h1 : EvX C tb M δ μ μ (.m p)) (h2 : EvX C tn M δ μ μ (.d (.int n))) (hj : μ[j]? = some (p, .lst b.ds)) (h0 : 0 < n) (h3 : n < 2 ^ 64) :
    EvX C (tCall (spW C.K 2 Rtk) [] E (tCons tb (tCons tn tNil))) M δ μ (μ.set j (p, .lst (tkB b n).ds)) (.d (.int (tkV b n))) :=
  x_callW j (ds := [.int n]) (a_cons h1 (a_cons h2 a_nil)) ⟨b, n, rfl, rfl, h0, h3, rfl, rfl⟩ hj
abbrev nNa : List Str := ["_law_box_here", "_law_many", "_law_letters", "_law_stem", "_law_turn", "_law_place", "_law_first", "_law_found", "_law_k", "_law_mark"]
theorem scNa : FnScope nNa ["_law_box_here", "_law_many"] (defScope sNa) := ⟨rfl, rfl, rfl, by decide +kernel, rfl, by decide +kernel, by decide +kernel⟩
theorem ok_na {f : Addr} {fd : FuncData} (T : Txt mg) (F : Fun K "_law_names" "_law_names" sNa f fd) {f1 : Addr} {fd1 : FuncData} (H1 : Has K mg "_law_take" sTk ["_law_box_here", "_law_many"] f1 fd1) : FnOk P w K mg base CX0 2 f fd ["_law_box_here", "_law_many"] (spX K 2 Pna Qna) := by
  have G1 : FnOk P w K mg base CX0 1 f1 fd1 ["_law_box_here", "_law_many"] (spW K 2 Rtk) := ok_tk T H1.F
  refine def_X F scNa (by decide) rfl fun cdv A outer s H E hr => ?_
  have nd := scNa.nd
  refine ⟨_, (pss_cons (ps_set (i := 2) nd rfl (Or.inl rfl) pe_str)
 (pss_cons (ps_set (i := 3) nd rfl (Or.inl rfl) pe_str)
 (pss_cons (ps_for PassesOwn.never rfl (pi_range1 (by rfl) T.range (pa_cons (pe_call G1 hr rfl H1.m H1.F.kp H1.b .nil pass0 (pa_cons (pv 0) (pa_cons pe_int pa_nil))) pa_nil)) (pg_name (i := 4) nd rfl (Or.inl rfl)) (pss_one (ps_set (i := 3) nd rfl (Or.inl rfl) (pe_op op_add_str (pv 3) (pe_ix ix_str (pv 2) (pe_call G1 hr rfl H1.m H1.F.kp H1.b .nil pass0 (pa_cons (pv 0) (pa_cons pe_int pa_nil))) (fun _ _ => rfl))))))
 (pss_cons (ps_set (i := 5) nd rfl (Or.inl rfl) (pe_call G1 hr rfl H1.m H1.F.kp H1.b .nil pass0 (pa_cons (pv 0) (pa_cons (pe_op op_add (pe_callB call_len_str (by rfl) T.len PySem.boot_len (pa_cons (pv 3) pa_nil)) pe_int) pa_nil))))
 (pss_cons (ps_set (i := 6) nd rfl (Or.inl rfl) (pe_call G1 hr rfl H1.m H1.F.kp H1.b .nil pass0 (pa_cons (pv 0) (pa_cons pe_int pa_nil))))
 (pss_cons (ps_set (i := 7) nd rfl (Or.inl rfl) (pe_lst pa_nil))
 (pss_cons (ps_for PassesOwn.never rfl (pi_range1 (by rfl) T.range (pa_cons (pv 1) pa_nil)) (pg_name (i := 8) nd rfl (Or.inl rfl)) (pss_cons (ps_set (i := 9) nd rfl (Or.inl rfl) (pe_ix ix_str (pv 2) (pe_op op_mod (pe_callTy call_int1 (by rfl) T.int (by decide +kernel) (pa_cons (pe_op op_add (pv 6) (pe_op op_mul pe_int (pv 8))) pa_nil)) pe_int) (fun _ _ => rfl)))
 (pss_one (ps_expr (pe_bm PySem.F.plainAttrs_list PySem.F.slot_list_append PySem.F.type_list_append mt_append (pv 7) (pa_cons (pe_ix ix_list (pe_lst (pa_cons (pe_op op_add_str (pe_op op_add_str (pe_slice sl_str (pv 3) po_none (po_some (pv 5))) (pv 9)) (pe_slice sl_str (pv 3) (po_some (pv 5)) po_none)) (pa_cons (pv 9) pa_nil))) (pe_callTy call_int1 (by rfl) T.int (by decide +kernel) (pa_cons (pe_cmpR (op_eqD hr.units) (pe_call G1 hr rfl H1.m H1.F.kp H1.b .nil pass0 (pa_cons (pv 0) (pa_cons pe_int pa_nil))) pe_int (nomark _)) pa_nil)) (fun _ _ => rfl)) pa_nil))))))
 (pss_one (ps_ret (pv 7)))))))))), ?_⟩
  rintro M G B es μ _ ⟨b, n, bx, rfl, rfl, hn⟩ D fin
  show Run _ _ D M [.m b, .d (.int (n : Int)), .u, .u, .u, .u, .u, .u, .u, .u] [(b, .lst bx.ds)]
  refine q_asg x_str ?_
  refine q_asg x_str ?_
  show Run _ _ D M [.m b, .d (.int (n : Int)), .d (.str letters), .d (.str ""), .u, .u, .u, .u, .u, .u] [(b, .lst bx.ds)]
  have hv5 := tkV_lt (b := bx) (n := 5) (by decide)
  have hll : letters.length ≤ 100000 := by rw [len_codes, let_len]; omega
  refine q_for (i_rng1 (a_cons (x_takeJ 0 (x_vm rfl) x_int rfl (by decide) (by decide)) a_nil) (by omega) (by omega))
    (fun i δ μ => ∃ (stem : Str) (bx' : Box) (e4 : Ent), δ = [.m b, .d (.int (n : Int)), .d (.str letters), .d (.str stem), e4, .u, .u, .u, .u, .u] ∧ μ = [(b, .lst bx'.ds)] ∧ stem.length ≤ i ∧ tok stem) ⟨"", tkB bx 5, _, rfl, rfl, by decide +kernel, tok_iff.mpr (by decide +kernel)⟩ ?_ ?_
  · rintro B' hB i d δ1 μ1 hi ⟨stem, bx', e4, rfl, rfl, hsl, hst⟩
    have hil := (List.getElem?_eq_some_iff.mp hi).1
    rw [rngD_length] at hil
    refine ⟨[4], _, tg_name, ?_⟩
    show Run _ _ _ _ [.m b, .d (.int (n : Int)), .d (.str letters), .d (.str stem), .d d, .u, .u, .u, .u, .u] [(b, .lst bx'.ds)]
    have hv := tkV_lt (b := bx') (n := 26) (by decide)
    obtain ⟨v, hvv⟩ : ∃ v : Nat, tkV bx' 26 = (v : Int) := ⟨(tkV bx' 26).toNat, by omega⟩
    have hg := letC_get v
    rw [Nat.mod_eq_of_lt (by omega)] at hg
    have l1 : (⟨#[letC v]⟩ : Str).length = 1 := rfl
    refine r_asg (x_op (x_vd rfl) (x_op (x_vd rfl) (x_is (x_takeJ 0 (x_vm rfl) x_int rfl (by decide) (by decide)) (by rw [hvv])) (o_ixS hll (atI_nat hg))) (o_addS (by rw [l1]; omega))) fun σ H o => ⟨_, _, ⟨stem ++ (⟨#[letC v]⟩ : Str), tkB bx' 26, _, rfl, rfl, ?_, tok_app hst (letC_tok v)⟩, o⟩
    rw [len_codes, app_codes, List.length_append, ← len_codes]
    show stem.length + 1 ≤ i + 1
    omega
  · rintro δ1 μ1 ⟨stem, bx1, e4, rfl, rfl, hsl, hst⟩
    rw [rngD_length] at hsl
    have hsl4 : stem.length ≤ 4 := by omega
    have hvp := tkV_lt (b := bx1) (n := (stem.length : Int) + 1) (by omega)
    obtain ⟨p, hp⟩ : ∃ p : Nat, tkV bx1 ((stem.length : Int) + 1) = (p : Int) := ⟨(tkV bx1 ((stem.length : Int) + 1)).toNat, by omega⟩
    have hpl : p ≤ stem.length := by omega
    refine q_asg (e := .d (.int (p : Int))) (x_is (x_takeJ 0 (x_vm rfl) (x_op (x_cbP (a_cons (x_vd rfl) a_nil) (c_lenS (by omega))) x_int o_I0) rfl (by omega) (by omega)) (by rw [hp])) ?_
    show Run _ _ D M [.m b, .d (.int (n : Int)), .d (.str letters), .d (.str stem), e4, .d (.int (p : Int)), .u, .u, .u, .u] [(b, .lst (tkB bx1 ((stem.length : Int) + 1)).ds)]
    generalize tkB bx1 ((stem.length : Int) + 1) = bx2
    have hvf := tkV_lt (b := bx2) (n := 26) (by decide)
    obtain ⟨q, hq⟩ : ∃ q : Nat, tkV bx2 26 = (q : Int) := ⟨(tkV bx2 26).toNat, by omega⟩
    refine q_asg (e := .d (.int (q : Int))) (x_is (x_takeJ 0 (x_vm rfl) x_int rfl (by decide) (by decide)) (by rw [hq])) ?_
    show Run _ _ D M [.m b, .d (.int (n : Int)), .d (.str letters), .d (.str stem), e4, .d (.int (p : Int)), .d (.int (q : Int)), .u, .u, .u] [(b, .lst (tkB bx2 26).ds)]
    refine q_new (ds := []) a_nil (by simp) fun r hrM => ?_
    refine q_for (i_rng1 (n := (n : Int)) (a_cons (x_vd rfl) a_nil) (by omega) (by omega))
      (fun i δ μ => ∃ (l : List Str) (bx' : Box) (e8 e9 : Ent), δ = [.m b, .d (.int (n : Int)), .d (.str letters), .d (.str stem), e4, .d (.int (p : Int)), .d (.int (q : Int)), .m r, e8, e9] ∧ μ = [(r, .lst (l.map .str)), (b, .lst bx'.ds)] ∧ l.length = i ∧ ∀ j x, l[j]? = some x → ∃ fl, x = nm stem p (letC (q + 7 * j)) fl)
      ⟨[], tkB bx2 26, _, _, rfl, rfl, rfl, fun j x h => by simp at h⟩ ?_ ?_
    · rintro B' hB i d δ1 μ1 hi ⟨l, bx', e8, e9, rfl, rfl, hl, hx⟩
      have hil := (List.getElem?_eq_some_iff.mp hi).1
      rw [rngD_length] at hil
      rw [rngD_get hil, Int.zero_add] at hi
      cases hi
      refine ⟨[8], _, tg_name, ?_⟩
      show Run _ _ _ _ [.m b, .d (.int (n : Int)), .d (.str letters), .d (.str stem), e4, .d (.int (p : Int)), .d (.int (q : Int)), .m r, .d (.int (i : Int)), e9] [(r, .lst (l.map .str)), (b, .lst bx'.ds)]
      have hg := letC_get (q + 7 * i)
      have hmod : ((q : Int) + 7 * (i : Int)) % 26 = (((q + 7 * i) % 26 : Nat) : Int) := by omega
      refine q_asg (e := .d (.str ⟨#[letC (q + 7 * i)]⟩)) (x_op (x_vd rfl) (x_op (x_cbP (a_cons (x_op (x_vd rfl) (x_op x_int (x_vd rfl) (o_I (.inl ⟨by decide, by decide⟩))) o_I0) a_nil) c_intI) x_int (o_I (by decide))) (o_ixS hll (by rw [hmod]; exact atI_nat hg))) ?_
      show Run _ _ _ _ [.m b, .d (.int (n : Int)), .d (.str letters), .d (.str stem), e4, .d (.int (p : Int)), .d (.int (q : Int)), .m r, .d (.int (i : Int)), .d (.str ⟨#[letC (q + 7 * i)]⟩)] [(r, .lst (l.map .str)), (b, .lst bx'.ds)]
      have l1 : (⟨#[letC (q + 7 * i)]⟩ : Str).length = 1 := rfl
      have lc1 : (cutS stem none (some (p : Int))).length ≤ 4 := by rw [len_codes, cut_hi hpl, List.length_take, ← len_codes]; omega
      have lc2 : (cutS stem (some (p : Int)) none).length ≤ 4 := by rw [len_codes, cut_lo hpl, List.length_drop, ← len_codes]; omega
      have lc3 : (cutS stem none (some (p : Int)) ++ (⟨#[letC (q + 7 * i)]⟩ : Str)).length ≤ 5 := by rw [len_codes, app_codes, List.length_append, ← len_codes, ← len_codes, l1]; omega
      refine r_app (j := 0) (d := .str (nm stem p (letC (q + 7 * i)) (tkV bx' 6 == 0))) (μ2 := [(r, .lst (l.map .str)), (b, .lst (tkB bx' 6).ds)]) (x_vm rfl) (x_op (x_lst (ds := [.str (cutS stem none (some (p : Int)) ++ ⟨#[letC (q + 7 * i)]⟩ ++ cutS stem (some (p : Int)) none), .str ⟨#[letC (q + 7 * i)]⟩]) (a_cons (x_op (x_op (x_slS (x_vd rfl) p_none (p_some (x_vd rfl)) (by omega)) (x_vd rfl) (o_addS (by omega))) (x_slS (x_vd rfl) (p_some (x_vd rfl)) p_none (by omega)) (o_addS (by omega))) (a_cons (x_vd rfl) a_nil)) (by simp)) (x_cbP (a_cons (x_is (x_op (x_takeJ 1 (x_vm rfl) x_int rfl (by decide) (by decide)) x_int (o_eqD (.d _) (.d _) ((shp_int 0 _).shaped (by decide)) ((shp_int 0 _).shaped (by decide)))) (e1 := .d (.bool (tkV bx' 6 == 0))) (by rw [eqv_int])) a_nil) c_intB) (o_ixL (.d _) ?_)) rfl rfl (by rw [List.length_map]; omega) fun σ H o => ⟨_, _, ⟨l ++ [nm stem p (letC (q + 7 * i)) (tkV bx' 6 == 0)], tkB bx' 6, _, _, rfl, ?_, by rw [List.length_append, hl]; rfl, fun j x hj => ?_⟩, o⟩
      · unfold nm
        cases (tkV bx' 6 == 0) <;> rfl
      · rw [List.map_append]; rfl
      · by_cases e : j < l.length
        · rw [List.getElem?_append_left e] at hj
          exact hx j x hj
        · rw [List.getElem?_append_right (by omega)] at hj
          have hj0 := (List.getElem?_eq_some_iff.mp hj).1
          have ej : j = i := by simp at hj0; omega
          subst ej
          rw [hl, Nat.sub_self] at hj
          exact ⟨_, (Option.some.inj hj).symm⟩
    · rintro δ1 μ1 ⟨l, bx', e8, e9, rfl, rfl, hl, hx⟩
      rw [rngD_length] at hl
      have hln : l.length = n := by omega
      have hnd : l.Nodup := by
        refine List.pairwise_iff_getElem.mpr fun i j hil hjl hij he => ?_
        have ei : l[i]? = some l[i] := List.getElem?_eq_getElem hil
        have ej : l[j]? = some l[j] := List.getElem?_eq_getElem hjl
        obtain ⟨f1, q1⟩ := hx i _ ei
        obtain ⟨f2, q2⟩ := hx j _ ej
        rw [q1, q2] at he
        have := letC_inj (nm_inj hpl he)
        omega
      have hgd : Good l := fun x hx' => by
        obtain ⟨j, hj⟩ := List.getElem?_of_mem hx'
        obtain ⟨fl, rfl⟩ := hx j x hj
        exact nm_tok hst (letC_tok _)
      refine r_retEM (μ' := [(b, .lst bx'.ds)]) (x_vm rfl) List.mem_cons_self hrM (fun z hz => List.mem_cons_of_mem _ hz) (fin _ _ (fun b' n' bx0 he hm => ?_) rfl)
      have e0 : Ent.m b = .m b' := (List.cons.inj he).1
      cases e0
      have e1 : Ent.d (.int (n : Int)) = .d (.int (n' : Int)) := (List.cons.inj (List.cons.inj he).2).1
      have e2 : (n : Int) = (n' : Int) := by cases e1; rfl
      exact ⟨l, bx', rfl, by omega, hnd, hgd, rfl⟩
end
end K83
namespace K83
open PySem L2 FD
def itB (b : Box) (n : Int) : Nat → Box
  | 0 => b
  | j + 1 => tkB (itB b n j) n
def pickL (b : Box) (xs : List Str) (c : Nat) : List Str := (List.range c).map fun i => xs.getD (tkV (itB b xs.length i) xs.length).toNat ""
theorem pick_lt {b : Box} {xs : List Str} (h : 0 < xs.length) : (tkV b xs.length).toNat < xs.length := by
  have := tkV_lt (b := b) (n := (xs.length : Int)) (by omega)
  omega
theorem pickL_len (b : Box) (xs : List Str) (c : Nat) : (pickL b xs c).length = c := by simp [pickL]
theorem pickL_mem {b : Box} {xs : List Str} {c : Nat} (h : 0 < xs.length) : ∀ x ∈ pickL b xs c, x ∈ xs := fun x hx => by
  obtain ⟨i, _, rfl⟩ := List.mem_map.mp hx
  exact List.mem_of_getElem? (getD_at (pick_lt h) "")
theorem cutD_hi {α : Type} (f : α → PyData) {l : List α} {p : Nat} (h : p ≤ l.length) : cutD (l.map f) none (some (p : Int)) = (l.take p).map f := by
  unfold cutD
  rw [HT.sIx_none, HT.sIx_nat, List.length_map, Nat.min_eq_left h]
  simp [List.map_take]
theorem cutD_lo {α : Type} (f : α → PyData) {l : List α} {p : Nat} : cutD (l.map f) (some (p : Int)) none = (l.drop p).map f := by
  unfold cutD
  rw [HT.sIx_none, HT.sIx_nat, List.length_map, List.map_drop]
  by_cases h : p ≤ l.length
  · rw [Nat.min_eq_left h, List.take_of_length_le (by simp)]
  · rw [Nat.min_eq_right (by omega), List.drop_eq_nil_of_le (by simp), List.drop_eq_nil_of_le (by simp; omega)]
    simp
section
variable {C : Cfg} {M : List Addr} {δ : List Ent} {μ μ0 : Mem} {tb tn : TE} {E : XK} {p : Addr} {b : Box} {xs : List Str} {wi : TI}
theorem x_pickJ (j : Nat) (h1 : EvX C tb M δ μ μ (.m p)) (h2 : EvX C tn M δ μ μ (.d (.list (xs.map .str)))) (hj : μ[j]? = some (p, .lst b.ds)) (h0 : 0 < xs.length) (h3 : xs.length ≤ 100) :
    EvX C (tCall (spW C.K 2 Rpk) [] E (tCons tb (tCons tn tNil))) M δ μ (μ.set j (p, .lst (tkB b xs.length).ds)) (.d (.str (xs.getD (tkV b xs.length).toNat ""))) := by
  have hl : (xs.map PyData.str).length = xs.length := List.length_map ..
  have := x_callW (n := 2) (R := Rpk) (C := C) (M := M) (δ := δ) (E := E) j (ds := [.list (xs.map .str)]) (d := .str (xs.getD (tkV b xs.length).toNat "")) (bs' := (tkB b xs.length).ds) (a_cons h1 (a_cons h2 a_nil)) ⟨b, xs.map .str, rfl, .inl rfl, by omega, by omega, by rw [hl]; exact ts_get (getD_at (pick_lt h0) ""), by rw [hl]⟩ hj
  exact this
theorem x_picks {t cnt : Nat} (j : Nat) (hj : μ[j]? = some (p, .lst b.ds)) (hi : EvI C wi M δ μ0 μ (rngD 0 cnt)) (h0 : 0 < xs.length) (h3 : xs.length ≤ 100) (hc : cnt ≤ 100)
    (h1 : ∀ (d : PyData) (C' : Cfg) (M' : List Addr) (μ' : Mem), C'.K = C.K → EvX C' tb M' ((wipeE δ [t]).set t (.d d)) μ' μ' (.m p)) (h2 : ∀ (d : PyData) (C' : Cfg) (M' : List Addr) (μ' : Mem), C'.K = C.K → EvX C' tn M' ((wipeE δ [t]).set t (.d d)) μ' μ' (.d (.list (xs.map .str)))) :
    EvX C (tLc wi (gName t) tYes (tCall (spW C.K 2 Rpk) [] E (tCons tb (tCons tn tNil))) [t]) M δ μ0 (μ.set j (p, .lst (itB b xs.length cnt).ds)) (.d (.list ((pickL b xs cnt).map .str))) := by
  have hjl := (List.getElem?_eq_some_iff.mp hj).1
  have e0 : μ.set j (p, .lst (itB b xs.length 0).ds) = μ := by
    refine List.ext_getElem? fun k => ?_
    by_cases q : j = k
    · subst q; rw [List.getElem?_set_self hjl]; exact hj.symm
    · rw [List.getElem?_set_ne q]
  have h := x_lc (C := C) (M := M) (δ := δ) (μ := μ0) (g := gName t) (t := tYes) (te := tCall (spW C.K 2 Rpk) [] E (tCons tb (tCons tn tNil))) (vs := [t]) (fun i => μ.set j (p, .lst (itB b xs.length i).ds)) (fun _ => true) (fun i => .str (xs.getD (tkV (itB b xs.length i) xs.length).toNat "")) (by rw [e0]; exact hi) (by rw [rngD_length]; omega)
    (fun i d _ G B D => ⟨[t], _, μ.set j (p, .lst (itB b xs.length i).ds), tg_name, fun k hk => hk, t_yes, fun _ => by
      have hji : (μ.set j (p, MO.lst (itB b xs.length i).ds))[j]? = some (p, .lst (itB b xs.length i).ds) := List.getElem?_set_self hjl
      have q := x_pickJ (C := { C with G := G, B := B }) (M := D :: M) (E := E) (tb := tb) (tn := tn) j (h1 d _ _ _ rfl) (h2 d _ _ _ rfl) hji h0 h3
      rw [List.set_set] at q
      exact q, fun z => nomatch z⟩)
  rw [rngD_length] at h
  refine x_is h ?_
  rw [lcD_all]
  unfold pickL
  rw [List.map_map]; rfl
end
abbrev marks : List Str := ["q", "qz", "zq", "zz", "qq"]
theorem marks_good : Good marks := fun x hx => tok_iff.mpr (by
  have : ∀ x ∈ marks, ∀ c ∈ x.cps.toList, c < 0x110000 := by decide +kernel
  exact this x hx)
def Pmk (es : List Ent) (μ : Mem) : Prop := ∃ (b : Addr) (names lets : List Str) (most : Nat) (bx : Box), es = [.m b, .d (.list (names.map .str)), .d (.list (lets.map .str)), .d (.int (most : Int))] ∧ μ = [(b, .lst bx.ds)] ∧ 0 < names.length ∧ names.length ≤ 4 ∧ names.Nodup ∧ Good names ∧ 0 < lets.length ∧ lets.length ≤ 10 ∧ Good lets ∧ 0 < most ∧ most ≤ 5
def Qmk (es : List Ent) (μ : Mem) (mo : MO) (μ' : Mem) : Prop := ∀ (b : Addr) (names lets : List Str) (most : Nat), es = [.m b, .d (.list (names.map .str)), .d (.list (lets.map .str)), .d (.int (most : Int))] → ∃ (m : Mk Str) (bx' : Box), SM m ∧ keys m = names ∧ mo = .dK (kd (mkD m)) ∧ μ' = [(b, .lst bx'.ds)]
theorem strs_inj {a b : List Str} (h : Ent.d (.list (a.map .str)) = .d (.list (b.map .str))) : a = b := by
  exact (List.map_inj_right (fun x y h => PyData.str.inj h)).mp (PyData.list.inj (Ent.d.inj h))
section
variable {P : Program} {w : World} {K : PySem.W.Frag} {mg : Str → Option Value} {base : Heap}
abbrev nLk : List Str := ["_law_box_here", "_law_names_here", "_law_letters", "_law_most", "_law_kind", "_law_plain", "_law_found", "_law_k", "_law_size", "_law_row", "_law_place", "_law_turn"]
theorem scLk : FnScope nLk ["_law_box_here", "_law_names_here", "_law_letters", "_law_most"] (defScope sLk) := ⟨rfl, rfl, rfl, by decide +kernel, rfl, by decide +kernel, by decide +kernel⟩
theorem ok_lk {f : Addr} {fd : FuncData} (T : Txt mg) (F : Fun K "_law_making" "_law_making" sLk f fd) {f1 f2 : Addr} {fd1 fd2 : FuncData} (H1 : Has K mg "_law_take" sTk ["_law_box_here", "_law_many"] f1 fd1) (H2 : Has K mg "_law_pick" sPk ["_law_box_here", "_law_some"] f2 fd2) :
    FnOk P w K mg base CX0 3 f fd ["_law_box_here", "_law_names_here", "_law_letters", "_law_most"] (spXN K 4 Pmk Qmk) := by
  have G1 : FnOk P w K mg base CX0 1 f1 fd1 ["_law_box_here", "_law_many"] (spW K 2 Rtk) := ok_tk T H1.F
  have G2 : FnOk P w K mg base CX0 2 f2 fd2 ["_law_box_here", "_law_some"] (spW K 2 Rpk) := ok_pk T H2.F H1
  refine def_XN F scLk (by decide) rfl fun cdv A outer s H E hr => ?_
  have nd := scLk.nd
  have hu1 := hu_of hr
  have hr1 : Room 1 _ := hr.mono (by decide)
  refine ⟨_, (pss_cons (ps_set (i := 4) nd rfl (Or.inl rfl) (pe_call G1 hr1 rfl H1.m H1.F.kp H1.b .nil pass0 (pa_cons (pv 0) (pa_cons pe_int pa_nil))))
 (pss_cons (ps_set (i := 5) nd rfl (Or.inl rfl) (pe_call G1 hr1 rfl H1.m H1.F.kp H1.b .nil pass0 (pa_cons (pv 0) (pa_cons (pe_callB call_len_seq (by rfl) T.len PySem.boot_len (pa_cons (pv 1) pa_nil)) pa_nil))))
 (pss_cons (ps_set (i := 6) nd rfl (Or.inl rfl) pe_dnewK)
 (pss_cons (ps_for PassesOwn.never rfl (pi_range1 (by rfl) T.range (pa_cons (pe_callB call_len_seq (by rfl) T.len PySem.boot_len (pa_cons (pv 1) pa_nil)) pa_nil)) (pg_name (i := 7) nd rfl (Or.inl rfl)) (pss_cons (ps_set (i := 8) nd rfl (Or.inl rfl) (pe_call G1 hr1 rfl H1.m H1.F.kp H1.b .nil pass0 (pa_cons (pv 0) (pa_cons (pv 3) pa_nil))))
 (pss_cons (ps_set (i := 9) nd rfl (Or.inl rfl) (pe_callTy call_tuple_of (by rfl) T.tuple (by decide +kernel) (pa_cons (pe_lc (own := [("_law_turn", 11)]) (g := (gName 11)) (tt := tYes) rfl nd (pi_range1 (by rfl) T.range (pa_cons (pv 8) pa_nil)) (blkOk_by (N := nLk) (sc := defScope sLk) (by decide +kernel)) (fun _ _ _ _ _ => (pg_name (i := 11) nd rfl (Or.inl rfl))) (fun _ _ _ _ _ => pts_nil) (fun _ _ _ _ _ => (pe_call G2 hr rfl H2.m H2.F.kp H2.b .nil pass0 (pa_cons (pv 0) (pa_cons (pv 2) pa_nil))))) pa_nil)))
 (pss_cons (ps_set (i := 10) nd rfl (Or.inl rfl) (pe_call G1 hr1 rfl H1.m H1.F.kp H1.b .nil pass0 (pa_cons (pv 0) (pa_cons (pe_op op_add (pv 8) pe_int) pa_nil))))
 (pss_cons (ps_if (PW.pt (pw_or (pt_cmpR (op_eqD hr.units) (pv 4) pe_int (nomark _)) (pw_or1 (PW.pt (pw_and (pt_cmpR op_gt (pv 4) pe_int (nomark _)) (pw_and1 (pt_cmpR (op_neD hr.units) (pv 7) (pv 5) (nomark _)))))))) (pss_one (ps_set (i := 9) nd rfl (Or.inl rfl) (pe_op op_catA (pe_op op_catA (pe_slice sl_tupA (pv 9) po_none (po_some (pv 10))) (pe_tup (pa_cons (pe_ix ix_list (pe_lst (pa_cons pe_str (pa_cons pe_str (pa_cons pe_str (pa_cons pe_str (pa_cons pe_str pa_nil)))))) (pe_op op_mod (pe_callTy call_int1 (by rfl) T.int (by decide +kernel) (pa_cons (pv 7) pa_nil)) pe_int) (fun _ _ => rfl)) pa_nil))) (pe_slice sl_tupA (pv 9) (po_some (pv 10)) po_none)))) pss_nil)
 (pss_one (ps_asg (pv 9) (pg_sub (pv 6) (pe_ix ix_list (pv 1) (pv 7) (fun _ _ => rfl)) (set_dict hu1)))))))))
 (pss_one (ps_ret (pv 6))))))), ?_⟩
  rintro M G B es μ _ ⟨b, names, lets, most, bx, rfl, rfl, n0, n4, nnd, ngd, l0, l10, lgd, m0, m5⟩ D fin
  show Run _ _ D M [.m b, .d (.list (names.map .str)), .d (.list (lets.map .str)), .d (.int (most : Int)), .u, .u, .u, .u, .u, .u, .u, .u] [(b, .lst bx.ds)]
  refine q_asg (x_takeJ 0 (x_vm rfl) x_int rfl (by decide) (by decide)) ?_
  refine q_asg (x_takeJ (b := tkB bx 4) 0 (x_vm rfl) (x_cbP (a_cons (x_vd rfl) a_nil) (c_lenL (.d _))) rfl (by rw [List.length_map]; omega) (by rw [List.length_map]; omega)) ?_
  generalize tkB (tkB bx 4) ((names.map PyData.str).length : Int) = bx1
  generalize tkV bx 4 = kv
  generalize tkV (tkB bx 4) ((names.map PyData.str).length : Int) = pv
  show Run _ _ D M [.m b, .d (.list (names.map .str)), .d (.list (lets.map .str)), .d (.int (most : Int)), .d (.int kv), .d (.int pv), .u, .u, .u, .u, .u, .u] [(b, .lst bx1.ds)]
  refine q_newD fun q hq => ?_
  refine q_for (i_rng1 (n := ((names.map PyData.str).length : Int)) (a_cons (x_cbP (a_cons (x_vd rfl) a_nil) (c_lenL (.d _))) a_nil) (by rw [List.length_map]; omega) (by rw [List.length_map]; omega))
    (fun i δ μ => ∃ (m : Mk Str) (bx' : Box) (e7 e8 e9 e10 : Ent), δ = [.m b, .d (.list (names.map .str)), .d (.list (lets.map .str)), .d (.int (most : Int)), .d (.int kv), .d (.int pv), .m q, e7, e8, e9, e10, .u] ∧ μ = [(q, .dK (kd (mkD m))), (b, .lst bx'.ds)] ∧ keys m = names.take i ∧ (∀ p ∈ m, p.2.length ≤ 5) ∧ ∀ p ∈ m, Good p.2)
    ⟨[], bx1, _, _, _, _, rfl, rfl, by simp [keys], (fun p hp => nomatch hp), (fun p hp => nomatch hp)⟩ ?_ ?_
  · rintro B' hB i d δ1 μ1 hi ⟨m, bx', e7, e8, e9, e10, rfl, rfl, hk, hr5, hgd⟩
    have hil := (List.getElem?_eq_some_iff.mp hi).1
    rw [rngD_length] at hil
    rw [rngD_get hil, Int.zero_add] at hi
    cases hi
    rw [List.length_map] at hil
    have hin : i < names.length := by omega
    have en := getD_at hin ""
    refine ⟨[7], _, tg_name, ?_⟩
    show Run _ _ _ _ [.m b, .d (.list (names.map .str)), .d (.list (lets.map .str)), .d (.int (most : Int)), .d (.int kv), .d (.int pv), .m q, .d (.int (i : Int)), e8, e9, e10, .u] [(q, .dK (kd (mkD m))), (b, .lst bx'.ds)]
    have hsz := tkV_lt (b := bx') (n := (most : Int)) (by omega)
    obtain ⟨sz, hszE⟩ : ∃ sz : Nat, tkV bx' (most : Int) = (sz : Int) := ⟨(tkV bx' (most : Int)).toNat, by omega⟩
    refine q_asg (e := .d (.int (sz : Int))) (x_is (x_takeJ 1 (x_vm rfl) (x_vd rfl) rfl (by omega) (by omega)) (by rw [hszE])) ?_
    generalize tkB bx' (most : Int) = bx2
    show Run _ _ _ _ [.m b, .d (.list (names.map .str)), .d (.list (lets.map .str)), .d (.int (most : Int)), .d (.int kv), .d (.int pv), .m q, .d (.int (i : Int)), .d (.int (sz : Int)), e9, e10, .u] [(q, .dK (kd (mkD m))), (b, .lst bx2.ds)]
    have hr0 : ((sz : Int)).toNat = sz := Int.toNat_natCast _
    refine q_asg (e := .d (ts (pickL bx2 lets sz))) (x_cbP (a_cons (x_picks (t := 11) (cnt := sz) 1 rfl (by have := i_rng1 (C := ⟨K, M, G, B'⟩) (M := q :: M) (δ := [.m b, .d (.list (names.map .str)), .d (.list (lets.map .str)), .d (.int (most : Int)), .d (.int kv), .d (.int pv), .m q, .d (.int (i : Int)), .d (.int (sz : Int)), e9, e10, .u]) (μ := [(q, .dK (kd (mkD m))), (b, .lst bx2.ds)]) (μ' := [(q, .dK (kd (mkD m))), (b, .lst bx2.ds)]) (n := (sz : Int)) (tr := tCons (tVar 8) tNil) (a_cons (x_vd rfl) a_nil) (by omega) (by omega); rw [hr0] at this; exact this) l0 (by omega) (by omega) (fun _ _ _ _ _ => x_vm rfl) (fun _ _ _ _ _ => x_vd rfl)) a_nil) (c_tupleL (.d _))) ?_
    generalize itB bx2 lets.length sz = bx3
    have hpl := pickL_len bx2 lets sz
    have hpg : Good (pickL bx2 lets sz) := fun x hx => lgd x (pickL_mem l0 x hx)
    revert hpl hpg
    generalize pickL bx2 lets sz = row
    intro hpl hpg
    show Run _ _ _ _ [.m b, .d (.list (names.map .str)), .d (.list (lets.map .str)), .d (.int (most : Int)), .d (.int kv), .d (.int pv), .m q, .d (.int (i : Int)), .d (.int (sz : Int)), .d (ts row), e10, .u] [(q, .dK (kd (mkD m))), (b, .lst bx3.ds)]
    have hvp := tkV_lt (b := bx3) (n := (sz : Int) + 1) (by omega)
    obtain ⟨p, hp⟩ : ∃ p : Nat, tkV bx3 ((sz : Int) + 1) = (p : Int) := ⟨(tkV bx3 ((sz : Int) + 1)).toNat, by omega⟩
    refine q_asg (e := .d (.int (p : Int))) (x_is (x_takeJ 1 (x_vm rfl) (x_op (x_vd rfl) x_int o_I0) rfl (by omega) (by omega)) (by rw [hp])) ?_
    generalize tkB bx3 ((sz : Int) + 1) = bx4
    show Run _ _ _ _ [.m b, .d (.list (names.map .str)), .d (.list (lets.map .str)), .d (.int (most : Int)), .d (.int kv), .d (.int pv), .m q, .d (.int (i : Int)), .d (.int (sz : Int)), .d (ts row), .d (.int (p : Int)), .u] [(q, .dK (kd (mkD m))), (b, .lst bx4.ds)]
    refine q_whenJ (fun δ μ => ∃ row' : List Str, δ = [.m b, .d (.list (names.map .str)), .d (.list (lets.map .str)), .d (.int (most : Int)), .d (.int kv), .d (.int pv), .m q, .d (.int (i : Int)), .d (.int (sz : Int)), .d (ts row'), .d (.int (p : Int)), .u] ∧ μ = [(q, .dK (kd (mkD m))), (b, .lst bx4.ds)] ∧ row'.length ≤ 5 ∧ Good row')
      (t_or (t_test (x_op (x_vd rfl) x_int (o_eqD (.d _) (.d _) ((shp_int 0 _).shaped (by decide)) ((shp_int 0 _).shaped (by decide))))) (fun _ => t_and (t_test (x_op (x_vd rfl) x_int o_B0)) (fun _ => t_test (x_op (x_vd rfl) (x_vd rfl) (o_neD (.d _) (.d _) ((shp_int 0 _).shaped (by decide)) ((shp_int 0 _).shaped (by decide))))) (fun _ => rfl)) (fun _ => rfl)) (fun _ D' kk => ?_) (fun _ => ⟨row, rfl, rfl, by omega, hpg⟩) ?_
    · have hmod : ((i : Int) % 5) = ((i % 5 : Nat) : Int) := by omega
      have h5 : i % 5 < marks.length := by show i % 5 < 5; omega
      have em : marks[i % 5]? = some (marks.getD (i % 5) "") := getD_at h5 ""
      refine r_asg (e := .d (ts (row.take p ++ [marks.getD (i % 5) ""] ++ row.drop p))) (x_is (x_op (x_op (x_slT (x_vd rfl) p_none (p_some (x_vd rfl))) (x_tup (ds := [.str (marks.getD (i % 5) "")]) (a_cons (x_op (x_lst (ds := marks.map .str) (a_cons x_str (a_cons x_str (a_cons x_str (a_cons x_str (a_cons x_str a_nil))))) (by simp)) (x_op (x_cbP (a_cons (x_vd rfl) a_nil) c_intI) x_int (o_I (by decide))) (o_ixL (.d _) (by rw [hmod]; exact atI_nat (ts_get em)))) a_nil) (by simp)) (o_catT ?_)) (x_slT (x_vd rfl) (p_some (x_vd rfl)) p_none) (o_catT ?_)) ?_) (kk _ _ ⟨_, rfl, rfl, ?_, ?_⟩)
      · rw [cutD_hi PyData.str (by omega)]; simp; omega
      · rw [cutD_hi PyData.str (by omega), cutD_lo]; simp; omega
      · rw [cutD_hi PyData.str (by omega), cutD_lo]
        unfold ts
        rw [List.map_append, List.map_append]; rfl
      · simp; omega
      · intro x hx
        rcases List.mem_append.mp hx with z | z
        · rcases List.mem_append.mp z with z | z
          · exact hpg x (List.mem_of_mem_take z)
          · rw [List.mem_singleton.mp z]; exact marks_good _ (List.mem_of_getElem? em)
        · exact hpg x (List.mem_of_mem_drop z)
    · rintro δ2 μ2 ⟨row', rfl, rfl, hrl, hrg⟩
      have hnew : names.getD i "" ∉ (mkD m).map (·.1) := by
        rw [mkD_keys, hk]
        intro z
        obtain ⟨n, hn⟩ := List.getElem?_of_mem z
        have hlt := (List.getElem?_eq_some_iff.mp hn).1
        rw [List.length_take] at hlt
        rw [List.getElem?_take, if_pos (by omega)] at hn
        have := nd_ix nnd hn en
        omega
      have hml : m.length = i := by
        have := congrArg List.length hk
        rw [List.length_map, List.length_take] at this
        omega
      refine r_dput (j := 0) (d := ts row') (l := mkD m) (x_vd rfl) (x_vm rfl) (x_op (x_vd rfl) (x_vd rfl) (o_ixL (.d _) (atI_nat (ts_get en)))) rfl hnew (by rw [mkD_len]; omega) fun σ H o => ⟨_, _, ⟨m ++ [(names.getD i "", row')], bx4, _, _, _, _, rfl, ?_, ?_, fun x hx => ?_, fun x hx => ?_⟩, o⟩
      · unfold mkD
        rw [List.map_append]; rfl
      · rw [take_succ' en, ← hk]
        unfold keys
        rw [List.map_append]; rfl
      · rcases List.mem_append.mp hx with z | z
        · exact hr5 x z
        · rw [List.mem_singleton.mp z]; exact hrl
      · rcases List.mem_append.mp hx with z | z
        · exact hgd x z
        · rw [List.mem_singleton.mp z]; exact hrg
  · rintro δ1 μ1 ⟨m, bx', e7, e8, e9, e10, rfl, rfl, hk, hr5, hgd⟩
    rw [rngD_length, Int.toNat_natCast, List.length_map, List.take_length] at hk
    have hml : m.length = names.length := by rw [← hk]; simp [keys]
    have SMm : SM m := ⟨by show (keys m).Nodup; rw [hk]; exact nnd, by omega, hr5, fun x hx => ⟨ngd x.1 (by rw [← hk]; exact List.mem_map.mpr ⟨x, hx, rfl⟩), hgd x hx⟩⟩
    refine r_retEN (μ' := [(b, .lst bx'.ds)]) (x_vm rfl) List.mem_cons_self hq (fun z hz => List.mem_cons_of_mem _ hz) (fin _ _ (fun b' names' lets' most' he => ?_) rfl)
    have e0 : Ent.m b = .m b' := (List.cons.inj he).1
    have e1 := strs_inj (List.cons.inj (List.cons.inj he).2).1
    cases e0
    exact ⟨m, bx', SMm, by rw [hk, e1], rfl, rfl⟩
end
end K83
namespace K83
open PySem L2 FD
def Ppr (es : List Ent) (μ : Mem) : Prop := ∃ (b : Addr) (names : List Str) (bx : Box), es = [.m b, .d (.list (names.map .str))] ∧ μ = [(b, .lst bx.ds)] ∧ 0 < names.length ∧ names.length ≤ 4
def Qpr (es : List Ent) (μ : Mem) (d : PyData) (μ' : Mem) : Prop := ∀ (b : Addr) (names : List Str), es = [.m b, .d (.list (names.map .str))] → ∃ (u v : List Str) (bx' : Box), d = .list [ts u, ts v] ∧ (∀ k ∈ u, k ∈ names) ∧ (∀ k ∈ v, k ∈ names) ∧ u.length ≤ 20 ∧ v.length ≤ 20 ∧ μ' = [(b, .lst bx'.ds)]
section
variable {P : Program} {w : World} {K : PySem.W.Frag} {mg : Str → Option Value} {base : Heap}
abbrev nLp : List Str := ["_law_box_here", "_law_names_here", "_law_near", "_law_one", "_law_place", "_law_deed", "_law_turn"]
theorem scLp : FnScope nLp ["_law_box_here", "_law_names_here"] (defScope sLp) := ⟨rfl, rfl, rfl, by decide +kernel, rfl, by decide +kernel, by decide +kernel⟩
theorem pick_in {b : Box} {xs : List Str} (h : 0 < xs.length) : xs.getD (tkV b xs.length).toNat "" ∈ xs := List.mem_of_getElem? (getD_at (pick_lt h) "")
theorem x_picks0 {C : Cfg} {M : List Addr} {δ : List Ent} {tb tn tc : TE} {E : XK} {p : Addr} {b : Box} {xs : List Str} {t n : Nat} (hc : EvX C tc M δ [(p, .lst b.ds)] [(p, .lst (tkB b n).ds)] (.d (.int (tkV b (n : Int))))) (hn : 0 < n ∧ n ≤ 10) (h0 : 0 < xs.length) (h3 : xs.length ≤ 100)
    (h1 : ∀ (d : PyData) (C' : Cfg) (M' : List Addr) (μ' : Mem), C'.K = C.K → EvX C' tb M' ((wipeE δ [t]).set t (.d d)) μ' μ' (.m p)) (h2 : ∀ (d : PyData) (C' : Cfg) (M' : List Addr) (μ' : Mem), C'.K = C.K → EvX C' tn M' ((wipeE δ [t]).set t (.d d)) μ' μ' (.d (.list (xs.map .str)))) :
    EvX C (tCB (rTupleS C.K) (tCons (tLc (iRng1 (tCons tc tNil)) (gName t) tYes (tCall (spW C.K 2 Rpk) [] E (tCons tb (tCons tn tNil))) [t]) tNil)) M δ [(p, .lst b.ds)] [(p, .lst (itB (tkB b n) xs.length (tkV b n).toNat).ds)] (.d (ts (pickL (tkB b n) xs (tkV b n).toNat))) := by
  have hv := tkV_lt (b := b) (n := (n : Int)) (by omega)
  exact x_cb (a_cons (x_picks (μ := [(p, .lst (tkB b n).ds)]) (cnt := (tkV b (n : Int)).toNat) 0 rfl (i_rng1 (a_cons hc a_nil) (by omega) (by omega)) h0 h3 (by omega) h1 h2) a_nil) (c_tupleL (.d _))
theorem ok_lp {f : Addr} {fd : FuncData} (T : Txt mg) (F : Fun K "_law_pair" "_law_pair" sLp f fd) {f1 f2 : Addr} {fd1 fd2 : FuncData} (H1 : Has K mg "_law_take" sTk ["_law_box_here", "_law_many"] f1 fd1) (H2 : Has K mg "_law_pick" sPk ["_law_box_here", "_law_some"] f2 fd2) :
    FnOk P w K mg base CX0 3 f fd ["_law_box_here", "_law_names_here"] (spX K 2 Ppr Qpr) := by
  have G1 : FnOk P w K mg base CX0 1 f1 fd1 ["_law_box_here", "_law_many"] (spW K 2 Rtk) := ok_tk T H1.F
  have G2 : FnOk P w K mg base CX0 2 f2 fd2 ["_law_box_here", "_law_some"] (spW K 2 Rpk) := ok_pk T H2.F H1
  refine def_X F scLp (by decide) rfl fun cdv A outer s H E hr => ?_
  have nd := scLp.nd
  have hr1 : Room 1 _ := hr.mono (by decide)
  refine ⟨_, (pss_cons (ps_set (i := 2) nd rfl (Or.inl rfl) (pe_call G1 hr1 rfl H1.m H1.F.kp H1.b .nil pass0 (pa_cons (pv 0) (pa_cons pe_int pa_nil))))
 (pss_cons (ps_set (i := 3) nd rfl (Or.inl rfl) (pe_callTy call_tuple_of (by rfl) T.tuple (by decide +kernel) (pa_cons (pe_lc (own := [("_law_turn", 6)]) (g := (gName 6)) (tt := tYes) rfl nd (pi_range1 (by rfl) T.range (pa_cons (pe_call G1 hr1 rfl H1.m H1.F.kp H1.b .nil pass0 (pa_cons (pv 0) (pa_cons pe_int pa_nil))) pa_nil)) (blkOk_by (N := nLp) (sc := defScope sLp) (by decide +kernel)) (fun _ _ _ _ _ => (pg_name (i := 6) nd rfl (Or.inl rfl))) (fun _ _ _ _ _ => pts_nil) (fun _ _ _ _ _ => (pe_call G2 hr rfl H2.m H2.F.kp H2.b .nil pass0 (pa_cons (pv 0) (pa_cons (pv 1) pa_nil))))) pa_nil)))
 (pss_cons (ps_set (i := 4) nd rfl (Or.inl rfl) (pe_call G1 hr1 rfl H1.m H1.F.kp H1.b .nil pass0 (pa_cons (pv 0) (pa_cons (pe_op op_add (pe_callB call_len_seq (by rfl) T.len PySem.boot_len (pa_cons (pv 3) pa_nil)) pe_int) pa_nil))))
 (pss_cons (ps_set (i := 5) nd rfl (Or.inl rfl) (pe_call G2 hr rfl H2.m H2.F.kp H2.b .nil pass0 (pa_cons (pv 0) (pa_cons (pv 1) pa_nil))))
 (pss_cons (ps_if (pt_cmpR (op_eqD hr.units) (pv 2) pe_int (nomark _)) (pss_one (ps_ret (pe_lst (pa_cons (pv 3) (pa_cons (pe_op op_catA (pe_op op_catA (pe_slice sl_tupA (pv 3) po_none (po_some (pv 4))) (pe_tup (pa_cons (pv 5) (pa_cons (pe_call G2 hr rfl H2.m H2.F.kp H2.b .nil pass0 (pa_cons (pv 0) (pa_cons (pv 1) pa_nil))) pa_nil)))) (pe_slice sl_tupA (pv 3) (po_some (pe_op op_add (pv 4) pe_int)) po_none)) pa_nil))))) pss_nil)
 (pss_one (ps_ret (pe_lst (pa_cons (pv 3) (pa_cons (pe_callTy call_tuple_of (by rfl) T.tuple (by decide +kernel) (pa_cons (pe_lc (own := [("_law_turn", 6)]) (g := (gName 6)) (tt := tYes) rfl nd (pi_range1 (by rfl) T.range (pa_cons (pe_call G1 hr1 rfl H1.m H1.F.kp H1.b .nil pass0 (pa_cons (pv 0) (pa_cons pe_int pa_nil))) pa_nil)) (blkOk_by (N := nLp) (sc := defScope sLp) (by decide +kernel)) (fun _ _ _ _ _ => (pg_name (i := 6) nd rfl (Or.inl rfl))) (fun _ _ _ _ _ => pts_nil) (fun _ _ _ _ _ => (pe_call G2 hr rfl H2.m H2.F.kp H2.b .nil pass0 (pa_cons (pv 0) (pa_cons (pv 1) pa_nil))))) pa_nil)) pa_nil)))))))))), ?_⟩
  rintro M G B es μ _ ⟨b, names, bx, rfl, rfl, n0, n4⟩ D fin
  have fin' : ∀ (u v : List Str) (bx' : Box), (∀ k ∈ u, k ∈ names) → (∀ k ∈ v, k ∈ names) → u.length ≤ 20 → v.length ≤ 20 → FinE ⟨K, M, G, B⟩ D (.list [ts u, ts v]) [(b, .lst bx'.ds)] := fun u v bx' h1 h2 h3 h4 => fin _ _ (fun b' names' he => by
    have e0 : Ent.m b = .m b' := (List.cons.inj he).1
    have e1 := strs_inj (List.cons.inj (List.cons.inj he).2).1
    cases e0
    subst e1
    exact ⟨u, v, bx', rfl, h1, h2, h3, h4, rfl⟩) rfl
  show Run _ _ D M [.m b, .d (.list (names.map .str)), .u, .u, .u, .u, .u] [(b, .lst bx.ds)]
  refine q_asg (x_takeJ 0 (x_vm rfl) x_int rfl (by decide) (by decide)) ?_
  generalize tkV bx 2 = near
  generalize tkB bx 2 = bx1
  show Run _ _ D M [.m b, .d (.list (names.map .str)), .d (.int near), .u, .u, .u, .u] [(b, .lst bx1.ds)]
  have h4 := tkV_lt (b := bx1) (n := 4) (by decide)
  refine q_asg (x_picks0 (t := 6) (n := 4) (x_takeJ 0 (x_vm rfl) x_int rfl (by decide) (by decide)) (by decide) n0 (by omega) (fun _ _ _ _ _ => x_vm rfl) (fun _ _ _ _ _ => x_vd rfl)) ?_
  have hul := pickL_len (tkB bx1 ((4 : Nat) : Int)) names (tkV bx1 ((4 : Nat) : Int)).toNat
  have hum := pickL_mem (b := tkB bx1 ((4 : Nat) : Int)) (c := (tkV bx1 ((4 : Nat) : Int)).toNat) n0
  have hu3 : (tkV bx1 ((4 : Nat) : Int)).toNat ≤ 3 := by
    have : tkV bx1 ((4 : Nat) : Int) = tkV bx1 4 := rfl
    omega
  revert hul hum
  generalize pickL (tkB bx1 ((4 : Nat) : Int)) names (tkV bx1 ((4 : Nat) : Int)).toNat = u
  generalize itB (tkB bx1 ((4 : Nat) : Int)) names.length (tkV bx1 ((4 : Nat) : Int)).toNat = bx2
  intro hul hum
  show Run _ _ D M [.m b, .d (.list (names.map .str)), .d (.int near), .d (ts u), .u, .u, .u] [(b, .lst bx2.ds)]
  have hvp := tkV_lt (b := bx2) (n := ((u.map PyData.str).length : Int) + 1) (by omega)
  obtain ⟨p, hp⟩ : ∃ p : Nat, tkV bx2 (((u.map PyData.str).length : Int) + 1) = (p : Int) := ⟨(tkV bx2 (((u.map PyData.str).length : Int) + 1)).toNat, by omega⟩
  rw [List.length_map] at hvp hp
  refine q_asg (e := .d (.int (p : Int))) (x_is (x_takeJ 0 (x_vm rfl) (x_op (x_cbP (a_cons (x_vd rfl) a_nil) c_lenT) x_int o_I0) rfl (by rw [List.length_map]; omega) (by rw [List.length_map]; omega)) (by rw [List.length_map, hp])) ?_
  generalize tkB bx2 (((u.map PyData.str).length : Int) + 1) = bx3
  show Run _ _ D M [.m b, .d (.list (names.map .str)), .d (.int near), .d (ts u), .d (.int (p : Int)), .u, .u] [(b, .lst bx3.ds)]
  refine q_asg (x_pickJ 0 (x_vm rfl) (x_vd rfl) rfl n0 (by omega)) ?_
  have hd1 := pick_in (b := bx3) n0
  generalize tkB bx3 (names.length : Int) = bx4
  revert hd1
  generalize names.getD (tkV bx3 (names.length : Int)).toNat "" = dd
  intro hd1
  show Run _ _ D M [.m b, .d (.list (names.map .str)), .d (.int near), .d (ts u), .d (.int (p : Int)), .d (.str dd), .u] [(b, .lst bx4.ds)]
  refine q_when (t_test (x_op (x_vd rfl) x_int (o_eqD (.d _) (.d _) ((shp_int 0 _).shaped (by decide)) ((shp_int 0 _).shaped (by decide))))) (fun _ => ?_) fun _ => ?_
  · have hd2 := pick_in (b := bx4) n0
    have hpe : ((p : Int) + 1) = ((p + 1 : Nat) : Int) := by omega
    refine r_retE (μ' := [(b, .lst (tkB bx4 names.length).ds)]) (x_lst (ds := [ts u, ts (u.take p ++ [dd, names.getD (tkV bx4 (names.length : Int)).toNat ""] ++ u.drop (p + 1))]) (a_cons (x_vd rfl) (a_cons (x_is (x_op (x_op (x_slT (x_vd rfl) p_none (p_some (x_vd rfl))) (x_tup (ds := [.str dd, .str (names.getD (tkV bx4 (names.length : Int)).toNat "")]) (a_cons (x_vd rfl) (a_cons (x_pickJ 0 (x_vm rfl) (x_vd rfl) rfl n0 (by omega)) a_nil)) (by simp)) (o_catT ?_)) (x_slT (x_vd rfl) (p_some (x_is (x_op (x_vd rfl) x_int o_I0) (by rw [hpe]))) p_none) (o_catT ?_)) ?_) a_nil)) (by simp)) (fun z hz => hz) (fin' u _ _ hum ?_ (by omega) ?_)
    · rw [cutD_hi PyData.str (by omega)]; simp; omega
    · rw [cutD_hi PyData.str (by omega), cutD_lo]; simp; omega
    · rw [cutD_hi PyData.str (by omega), cutD_lo]
      unfold ts
      rw [List.map_append, List.map_append]; rfl
    · intro x hx
      rcases List.mem_append.mp hx with z | z
      · rcases List.mem_append.mp z with z | z
        · exact hum x (List.mem_of_mem_take z)
        · rcases List.mem_cons.mp z with z | z
          · rw [z]; exact hd1
          · rw [List.mem_singleton.mp z]; exact hd2
      · exact hum x (List.mem_of_mem_drop z)
    · simp; omega
  · have h5 := tkV_lt (b := bx4) (n := 5) (by decide)
    have hvl := pickL_len (tkB bx4 ((5 : Nat) : Int)) names (tkV bx4 ((5 : Nat) : Int)).toNat
    have hvm := pickL_mem (b := tkB bx4 ((5 : Nat) : Int)) (c := (tkV bx4 ((5 : Nat) : Int)).toNat) n0
    have hv4 : (tkV bx4 ((5 : Nat) : Int)).toNat ≤ 4 := by
      have : tkV bx4 ((5 : Nat) : Int) = tkV bx4 5 := rfl
      omega
    refine r_retE (μ' := [(b, .lst (itB (tkB bx4 ((5 : Nat) : Int)) names.length (tkV bx4 ((5 : Nat) : Int)).toNat).ds)]) (x_lst (ds := [ts u, ts (pickL (tkB bx4 ((5 : Nat) : Int)) names (tkV bx4 ((5 : Nat) : Int)).toNat)]) (a_cons (x_vd rfl) (a_cons (x_picks0 (t := 6) (n := 5) (x_takeJ 0 (x_vm rfl) x_int rfl (by decide) (by decide)) (by decide) n0 (by omega) (fun _ _ _ _ _ => x_vm rfl) (fun _ _ _ _ _ => x_vd rfl)) a_nil)) (by simp)) (fun z hz => hz) (fin' u _ _ hum hvm (by omega) (by omega))
end
end K83
namespace K83
open PySem L2 FD
theorem kbn_rev {K : PySem.W.Frag} {x qual : Str} {st : Stmt} {f : Addr} {fd : FuncData} (F : Fun K x qual st f fd) {ps ks : List Str}
    (h : ∀ (kV doc pm : Value) (an : Option Addr) (cdv ct : Value) (ws : List Value), ws.length = ks.length → bindArgs (PySem.W.fnOf x qual (defArgs st) (defBody st) (defScope st) .none kV doc pm an cdv ct) ⟨[], ks.zip ws⟩ = pure (ps.zip ws.reverse)) : KBn K fd ps 0 ks (fun _ ws => ws.reverse) (fun _ zs => zs.reverse) := by
  obtain ⟨oc, od, kV, doc, pm, an, cdv, ct, osl, rfl, lk, hcd⟩ := F.ex
  refine ⟨fun s us ws _ h0 hl => ?_, fun {vs us zs ws} _ r => r.reverse⟩
  cases us with
  | nil => exact .of_eq (h kV doc pm an cdv ct ws hl)
  | cons u us => cases h0
theorem rev1 {K : PySem.W.Frag} {e : Ent} (H : Hp) (zs : List V) (h : Paired (EntOk K H) [e] zs) : Paired (EntOk K H) [e] zs.reverse := by
  obtain ⟨v, rfl, q⟩ := p1 h
  exact .cons q .nil
theorem rev2 {K : PySem.W.Frag} {e1 e2 : Ent} (H : Hp) (zs : List V) (h : Paired (EntOk K H) [e2, e1] zs) : Paired (EntOk K H) [e1, e2] zs.reverse := by
  obtain ⟨v, w, rfl, q, q'⟩ := p2 h
  exact .cons q' (.cons q .nil)
theorem rev3 {K : PySem.W.Frag} {e1 e2 e3 : Ent} (H : Hp) (zs : List V) (h : Paired (EntOk K H) [e3, e2, e1] zs) : Paired (EntOk K H) [e1, e2, e3] zs.reverse := by
  cases h with
  | cons q1 h =>
    obtain ⟨v, w, rfl, q, q'⟩ := p2 h
    exact .cons q' (.cons q (.cons q1 .nil))
def Pmr (es : List Ent) (μ : Mem) : Prop := ∃ (b a : Addr) (m : Mk Str) (bx : Box), es = [.m b, .m a, .d (.list ((keys m).map .str))] ∧ μ = [(b, .lst bx.ds), (a, .dK (kd (mkD m)))] ∧ SM m ∧ 0 < m.length
def Qmr (es : List Ent) (μ : Mem) (d : PyData) (μ' : Mem) : Prop := d = .bool true ∧ ∃ (b : Addr) (bx' : Box), es.head? = some (.m b) ∧ μ' = (b, .lst bx'.ds) :: μ.tail
section
variable {P : Program} {w : World} {K : PySem.W.Frag} {mg : Str → Option Value} {base : Heap}
abbrev nLr : List Str := ["_law_box_here", "_law_making_here", "_law_names_here", "_law_owned_here", "_law_due", "_law_bare", "_law_exact", "_law_told", "_law_turn", "_law_others", "_law_held", "_law_inside", "_law_deed", "_law_one", "_law_other", "_law_name"]
theorem scLr : FnScope nLr ["_law_box_here", "_law_making_here", "_law_names_here"] (defScope sLr) := ⟨rfl, rfl, rfl, by decide +kernel, rfl, by decide +kernel, by decide +kernel⟩
theorem ok_lr {f : Addr} {fd : FuncData} (T : Txt mg) (F : Fun K "_law_making_right" "_law_making_right" sLr f fd) {aFf aWi aRb aMr aOd aIe aFt aFh aCo aCc aTk aPk aLi aLm aLo aLf aLp : Addr} {dFf dWi dRb dMr dOd dIe dFt dFh dCo dCc dTk dPk dLi dLm dLo dLf dLp : FuncData}
    (HFf : Has K mg "first_fit" sFf ["u", "v"] aFf dFf) (HWi : Has K mg "within" sWi ["u", "v"] aWi dWi) (HRb : Has K mg "row_by" sRb ["view", "row"] aRb dRb) (HMr : Has K mg "made_row" sMr ["making", "row"] aMr dMr) (HOd : Has K mg "own_deeds" sOd ["making"] aOd dOd) (HIe : Has K mg "is_exact" sIe ["making"] aIe dIe)
    (HFt : Has K mg "fitted_to" sFt ["row", "place", "shown"] aFt dFt) (HFh : Has K mg "first_holder" sFh ["making", "row", "names"] aFh dFh) (HCo : Has K mg "couple" sCo ["making"] aCo dCo) (HCc : Has K mg "check_couple" sCc ["making", "u", "v"] aCc dCc) (HTk : Has K mg "_law_take" sTk ["_law_box_here", "_law_many"] aTk dTk) (HPk : Has K mg "_law_pick" sPk ["_law_box_here", "_law_some"] aPk dPk)
    (HLi : Has K mg "_law_within" sLi ["_law_u", "_law_v"] aLi dLi) (HLm : Has K mg "_law_made" sLm ["_law_making_here", "_law_row"] aLm dLm) (HLo : Has K mg "_law_owned" sLo ["_law_making_here"] aLo dLo) (HLf : Has K mg "_law_first_holder" sLf ["_law_making_here", "_law_row", "_law_names_here"] aLf dLf) (HLp : Has K mg "_law_pair" sLp ["_law_box_here", "_law_names_here"] aLp dLp)
    (KOd : KBn K dOd ["making"] 0 ["making"] (fun _ ws => ws.reverse) (fun _ zs => zs.reverse)) (KIe : KBn K dIe ["making"] 0 ["making"] (fun _ ws => ws.reverse) (fun _ zs => zs.reverse)) (KCo : KBn K dCo ["making"] 0 ["making"] (fun _ ws => ws.reverse) (fun _ zs => zs.reverse))
    (KMr : KBn K dMr ["making", "row"] 0 ["row", "making"] (fun _ ws => ws.reverse) (fun _ zs => zs.reverse)) (KCc : KBn K dCc ["making", "u", "v"] 0 ["v", "u", "making"] (fun _ ws => ws.reverse) (fun _ zs => zs.reverse)) :
    FnOk P w K mg base CX0 4 f fd ["_law_box_here", "_law_making_here", "_law_names_here"] (spX K 3 Pmr Qmr) := by
  have GOd : FnOk P w K mg base CX0 1 aOd dOd ["making"] (spEN K 1 Ron) := ok_od T HOd.F
  have GLo : FnOk P w K mg base CX0 1 aLo dLo ["_law_making_here"] (spEN K 1 Ron) := ok_lo T HLo.F
  have GIe : FnOk P w K mg base CX0 2 aIe dIe ["making"] (spE K 1 Rie) := ok_ie T HIe.F HOd
  have GCo : FnOk P w K mg base CX0 3 aCo dCo ["making"] (spE K 1 Rco) := ok_co T HCo.F HOd HFt HFh
  have GCc : FnOk P w K mg base CX0 3 aCc dCc ["making", "u", "v"] (spE K 3 Rcc) := ok_cc T HCc.F HFf HWi HRb HMr
  have GLf : FnOk P w K mg base CX0 2 aLf dLf ["_law_making_here", "_law_row", "_law_names_here"] (spE K 3 Rfh) := ok_lf T HLf.F HLi HLm
  have GLp : FnOk P w K mg base CX0 3 aLp dLp ["_law_box_here", "_law_names_here"] (spX K 2 Ppr Qpr) := ok_lp T HLp.F HTk HPk
  have GMr : FnOk P w K mg base CX0 2 aMr dMr ["making", "row"] (spE K 2 Rmd) := ok_mr T HMr.F HRb
  have GLm : FnOk P w K mg base CX0 1 aLm dLm ["_law_making_here", "_law_row"] (spE K 2 Rmd) := ok_lm T HLm.F
  have GLi : FnOk P w K mg base CX0 1 aLi dLi ["_law_u", "_law_v"] (spR K 2 Rwi) := ok_li T HLi.F
  refine def_X F scLr (by decide) rfl fun cdv A outer s H E hr => ?_
  have nd := scLr.nd
  have hu1 := hu_of hr
  have hr1 : Room 1 _ := hr.mono (by decide)
  have hr2 : Room 2 _ := hr.mono (by decide)
  have hu65 : (A.deeper (PyProof.Rows.envOfC "_law_making_right" (defScope sLr) s.heap.objs.size f cdv)).units + 65 < cLine := by have := hr.un; omega
  refine ⟨_, (pss_cons (ps_set (i := 3) nd rfl (Or.inl rfl) (pe_call GOd hr1 rfl HOd.m HOd.F.kp HOd.b .nil pass0 (pa_cons (pv 1) pa_nil)))
 (pss_cons (ps_set (i := 4) nd rfl (Or.inr rfl) (pe_call GLo hr1 rfl HLo.m HLo.F.kp HLo.b .nil pass0 (pa_cons (pv 1) pa_nil)))
 (pss_cons (ps_if (PW.pt (pw_or (pt_cmpR (op_neDK hu65) (pv 3) (pv 4) (nomark _)) (pw_or1 (pt_cmpR (op_neD hr.units) (pe_callTy (call_listD rfl) (by rfl) T.list (by decide +kernel) (pa_cons (pv 3) pa_nil)) (pe_callB cr_sortedS (by rfl) T.sorted (by decide +kernel) (pa_cons (pv 2) pa_nil)) (nomark _))))) (pss_one (ps_ret pe_bl)) pss_nil)
 (pss_cons (ps_expr (pe_dclear (pv 3)))
 (pss_cons (ps_if (pt_cmpR (op_neDK hu65) (pe_callN0 GOd hr1 rfl HOd.m HOd.F.kp KOd pass0 (pk_cons (pv 1) pk_nil)) (pv 4) (nomark _)) (pss_one (ps_ret pe_bl)) pss_nil)
 (pss_cons (ps_set (i := 5) nd rfl (Or.inr rfl) (pe_lock (pe_lc (own := [("_law_deed", 12)]) (g := (gName 12)) rfl nd (pi_keys (pv 4)) (blkOk_by (N := nLr) (sc := defScope sLr) (by decide +kernel)) (fun _ _ _ _ _ => (pg_name (i := 12) nd rfl (Or.inl rfl))) (fun _ _ _ _ _ => (pts_one (pt_cmpR (kop_eqD (K := K) rfl hr.units) (pe_dget hu1 (pv 4) (pv 12) (fun _ _ => rfl)) (pe_tup pa_nil) (nomark _)))) (fun _ _ _ _ _ => (pv 12)))))
 (pss_cons (ps_set (i := 6) nd rfl (Or.inl rfl) (pe_callN0 GIe hr2 rfl HIe.m HIe.F.kp KIe pass0 (pk_cons (pv 1) pk_nil)))
 (pss_cons (ps_if (PW.pt (pw_or (pt_not (pt_val (pe_callB call_isi (by rfl) T.isinstance (by decide +kernel) (pa_cons (pv 6) (pa_cons (pe_bltn (by rfl) T.bool (v := .ty "bool") (u := .type "bool") (by decide +kernel) rfl) pa_nil))))) (pw_or1 (pt_cmpR (op_neD hr.units) (pv 6) (pe_cmpR (op_eqD hr.units) (pe_callB call_len_seq (by rfl) T.len PySem.boot_len (pa_cons (pv 5) pa_nil)) pe_int (nomark _)) (nomark _))))) (pss_one (ps_ret pe_bl)) pss_nil)
 (pss_cons (ps_set (i := 7) nd rfl (Or.inl rfl) (pe_callN0 GCo hr rfl HCo.m HCo.F.kp KCo pass0 (pk_cons (pv 1) pk_nil)))
 (pss_cons (ps_if (pt_cmpR (op_neD hr.units) (pv 6) (pe_cmpR op_isN (pv 7) pe_non (nomark _)) (nomark _)) (pss_one (ps_ret pe_bl)) pss_nil)
 (pss_cons (ps_if (pt_cmpR op_notN (pv 7) pe_non (nomark _)) (pss_cons (ps_setLc (i := 9) (own := [("_law_name", 15)]) (g := (gName 15)) rfl nd rfl rfl (sw_true rfl rfl rfl (by decide +kernel)) (pi_list (pe_callB cr_sortedS (by rfl) T.sorted (by decide +kernel) (pa_cons (pv 2) pa_nil))) (blkOk_by (N := nLr) (sc := defScope sLr) (by decide +kernel)) (fun _ _ _ _ _ => (pg_name (i := 15) nd rfl (Or.inl rfl))) (fun _ _ _ _ _ => (pts_one (pt_cmpR (kop_neD (K := K) rfl hr.units) (pv 15) (pe_ix (kix_list (K := K) rfl) (pv 5) pe_int (fun _ _ => rfl)) (nomark _)))) (fun _ _ _ _ _ => (pv 15)))
 (pss_one (ps_if (PW.pt (pw_or (pt_cmpR (op_neD hr.units) (pv 7) (pe_tup (pa_cons (pe_tup (pa_cons (pe_ix ix_list (pv 5) pe_int (fun _ _ => rfl)) pa_nil)) (pa_cons (pe_call GLf hr2 rfl HLf.m HLf.F.kp HLf.b .nil pass0 (pa_cons (pv 1) (pa_cons (pe_dget hu1 (pv 1) (pe_ix ix_list (pv 5) pe_int (fun _ _ => rfl)) (fun _ _ => rfl)) (pa_cons (pv 9) pa_nil)))) pa_nil))) (nomark _)) (pw_or1 (pt_not (pt_val (pe_call GCc hr rfl HCc.m HCc.F.kp HCc.b .nil pass0 (pa_cons (pv 1) (pa_cons (pe_ix ix_tup (pv 7) pe_int (fun _ _ => rfl)) (pa_cons (pe_ix ix_tup (pv 7) pe_int (fun _ _ => rfl)) pa_nil))))))))) (pss_one (ps_ret pe_bl)) pss_nil))) pss_nil)
 (pss_cons (ps_for PassesOwn.never rfl (pi_range1 (by rfl) T.range (pa_cons pe_int pa_nil)) (pg_name (i := 8) nd rfl (Or.inl rfl)) (pss_cons (ps_asg (pe_call GLp hr rfl HLp.m HLp.F.kp HLp.b .nil pass0 (pa_cons (pv 0) (pa_cons (pv 2) pa_nil))) (pg_lst rfl (pgs_cons (pg_name (i := 13) nd rfl (Or.inl rfl)) (pgs_cons (pg_name (i := 14) nd rfl (Or.inl rfl)) pgs_nil))))
 (pss_cons (ps_if (pt_cmpR (op_neD hr.units) (pe_callN0 GMr hr2 rfl HMr.m HMr.F.kp KMr pass0 (pk_cons (pv 13) (pk_cons (pv 1) pk_nil))) (pe_call GLm hr1 rfl HLm.m HLm.F.kp HLm.b .nil pass0 (pa_cons (pv 1) (pa_cons (pv 13) pa_nil))) (nomark _)) (pss_one (ps_ret pe_bl)) pss_nil)
 (pss_cons (ps_set (i := 10) nd rfl (Or.inl rfl) (pe_call GLi hr1 rfl HLi.m HLi.F.kp HLi.b .nil pass0 (pa_cons (pe_call GLm hr1 rfl HLm.m HLm.F.kp HLm.b .nil pass0 (pa_cons (pv 1) (pa_cons (pv 13) pa_nil))) (pa_cons (pe_call GLm hr1 rfl HLm.m HLm.F.kp HLm.b .nil pass0 (pa_cons (pv 1) (pa_cons (pv 14) pa_nil))) pa_nil))))
 (pss_cons (ps_set (i := 11) nd rfl (Or.inl rfl) (pe_call GLi hr1 rfl HLi.m HLi.F.kp HLi.b .nil pass0 (pa_cons (pv 13) (pa_cons (pv 14) pa_nil))))
 (pss_cons (ps_if (PW.pt (pw_or (PW.pt (pw_and (pt_val (pv 11)) (pw_and1 (pt_not (pt_val (pv 10)))))) (pw_or1 (PW.pt (pw_and (pt_val (pv 6)) (pw_and1 (pt_cmpR (op_neD hr.units) (pv 10) (pv 11) (nomark _)))))))) (pss_one (ps_ret pe_bl)) pss_nil)
 (pss_one (ps_if (pt_cmpR (op_neD hr.units) (pe_callN0 GCc hr rfl HCc.m HCc.F.kp KCc pass0 (pk_cons (pv 14) (pk_cons (pv 13) (pk_cons (pv 1) pk_nil)))) (pe_and (pv 10) (pe_one (pe_not (pv 11)))) (nomark _)) (pss_one (ps_ret pe_bl)) pss_nil))))))))
 (pss_one (ps_ret pe_bl)))))))))))))), ?_⟩
  rintro M G B es μ ndm ⟨b, a, m, bx, rfl, rfl, S, m0⟩ D fin
  have fin' : ∀ bx' : Box, FinE ⟨K, M, G, B⟩ D (.bool true) [(b, .lst bx'.ds), (a, .dK (kd (mkD m)))] := fun bx' => fin _ _ ⟨rfl, b, bx', rfl, rfl⟩ rfl
  show Run _ _ D M [.m b, .m a, .d (.list ((keys m).map .str)), .u, .u, .u, .u, .u, .u, .u, .u, .u, .u, .u, .u, .u] [(b, .lst bx.ds), (a, .dK (kd (mkD m)))]
  have SO : SM (ownedOf m) := own_SM S
  have hkO : keys (ownedOf m) = sortT (keys m) := ownM_keys m _
  have hkl : (keys m).length = m.length := List.length_map ..
  have hsl : (sortT (keys m)).length ≤ 4 := by rw [sortT_len, hkl]; exact S.len
  have ndO : ((mkD (ownedOf m)).map (·.1)).Nodup := by rw [mkD_keys]; exact SO.nd
  have shO : ∀ p ∈ mkD (ownedOf m), SeqAt.shaped p.2 = true := fun p hp => by
    obtain ⟨q, hq, rfl⟩ := List.mem_map.mp hp
    exact (shp_ts 0 (SO.good q hq).2).shaped (by decide)
  have gks : Good (sortT (keys m)) := fun x hx => S.kgood (sortT_mem.mp hx)
  refine q_asgEN1 (a := a) (a_cons (x_vm rfl) a_nil) (by simp) ⟨a, m, rfl, rfl, S, rfl, rfl⟩ fun p1 hp1 => ?_
  refine q_asgEN1 (a := a) (a_cons (x_vm rfl) a_nil) (by simp) ⟨a, m, rfl, rfl, S, rfl, rfl⟩ fun p2 hp2 => ?_
  show Run _ _ D (p2 :: p1 :: M) [.m b, .m a, .d (.list ((keys m).map .str)), .m p1, .m p2, .u, .u, .u, .u, .u, .u, .u, .u, .u, .u, .u] [(p2, .dK (kd (mkD (ownedOf m)))), (p1, .dK (kd (mkD (ownedOf m)))), (b, .lst bx.ds), (a, .dK (kd (mkD m)))]
  have shL : ∀ l : List Str, Good l → SeqAt.shaped (.list (l.map .str)) = true := fun l hl => (shp_list (n := 0) fun d hd => by
    obtain ⟨x, hx, rfl⟩ := List.mem_map.mp hd
    exact shp_str 0 (hl x hx)).shaped (by decide)
  have eqvL : ∀ l : List Str, Good l → PyData.eqv (.list (l.map .str)) (.list (l.map .str)) = true := fun l hl => SeqAt.eqv_refl _ (SeqAt.canLay_of_shaped (shL l hl))
  refine q_when (t_or (t_test (x_op (x_vm rfl) (x_vm rfl) (o_neDK (l := mkD (ownedOf m)) (by simp) (by simp) ndO shO))) (fun _ => t_test (x_op (x_is (x_cbP (a_cons (x_vm rfl) a_nil) (c_listD (mo := .dK (kd (mkD (ownedOf m)))) (by simp) (.inl rfl))) (e1 := .d (.list ((sortT (keys m)).map .str))) (by rw [mkD_keys, hkO])) (x_cbP (a_cons (x_vd rfl) a_nil) (c_sortedS (.d _) (by rw [hkl]; have := S.len; omega))) (o_neD (.d _) (.d _) (shL _ gks) (shL _ gks)))) (fun _ => rfl)) (fun hb => ?_) fun _ => ?_
  · rw [eqvL _ gks] at hb; cases hb
  refine q_clear (j := 1) (x_vm rfl) rfl ?_
  show Run _ _ D (p2 :: p1 :: M) [.m b, .m a, .d (.list ((keys m).map .str)), .m p1, .m p2, .u, .u, .u, .u, .u, .u, .u, .u, .u, .u, .u] [(p2, .dK (kd (mkD (ownedOf m)))), (p1, .dK (kd [])), (b, .lst bx.ds), (a, .dK (kd (mkD m)))]
  refine q_ifEN (a := a) (b := p2) (l := mkD (ownedOf m)) (a_cons (x_vm rfl) a_nil) rev1 (by simp) ⟨a, m, rfl, rfl, S, rfl, rfl⟩ (fun p hp => x_vm rfl) (by simp) ndO shO fun p3 hp3 => ?_
  let bareL : List Str := ((ownedOf m).filter fun p => p.2.isEmpty).map (·.1)
  refine q_asg (e := .d (.list (bareL.map .str))) (x_lock (j := 1) rfl fun od ws => ?_) ?_
  · show EvX _ _ _ _ [(p3, .dK (kd (mkD (ownedOf m)))), (p2, .fz od ws (kd (mkD (ownedOf m)))), (p1, .dK (kd [])), (b, .lst bx.ds), (a, .dK (kd (mkD m)))] [(p3, .dK (kd (mkD (ownedOf m)))), (p2, .fz od ws (kd (mkD (ownedOf m)))), (p1, .dK (kd [])), (b, .lst bx.ds), (a, .dK (kd (mkD m)))] _
    have hin : (p2, MO.fz od ws (kd (mkD (ownedOf m)))) ∈ [(p3, MO.dK (kd (mkD (ownedOf m)))), (p2, .fz od ws (kd (mkD (ownedOf m)))), (p1, .dK (kd [])), (b, .lst bx.ds), (a, .dK (kd (mkD m)))] := by simp
    have hl : (((mkD (ownedOf m)).map (·.1)).map PyData.str).length = (ownedOf m).length := by rw [mkD_keys, List.length_map, List.length_map]
    have e := lc_filter (ownedOf m) (("", []) : Str × List Str) (fun p => p.2.isEmpty) (fun p => PyData.str p.1)
    refine x_is (x_lcN (fun _ => [(p3, .dK (kd (mkD (ownedOf m)))), (p2, .fz od ws (kd (mkD (ownedOf m)))), (p1, .dK (kd [])), (b, .lst bx.ds), (a, .dK (kd (mkD m)))]) (fun i => ((ownedOf m).getD i ("", [])).2.isEmpty) (fun i => .str ((ownedOf m).getD i ("", [])).1) (i_keys (x_vm rfl) hin) (fun i B D σ H _ o => ok_frz hin o) (by rw [hl]; have := SO.len; omega) fun i' d hd G' B'' D' => ?_) (by rw [hl, e]; show _ = Ent.d (.list ((((ownedOf m).filter fun p => p.2.isEmpty).map (·.1)).map .str)); rw [List.map_map]; rfl)
    have hi' := (List.getElem?_eq_some_iff.mp hd).1
    rw [hl] at hi'
    have ep := getD_at hi' (("", []) : Str × List Str)
    have hmem := List.mem_of_getElem? ep
    have ed : d = .str ((ownedOf m).getD i' ("", [])).1 := by
      rw [mkD_keys, List.getElem?_map, List.getElem?_map, ep] at hd
      exact (Option.some.inj hd).symm
    subst ed
    have er : rowOf (ownedOf m) ((ownedOf m).getD i' ("", [])).1 = ((ownedOf m).getD i' ("", [])).2 := rowOf_at SO.nd hmem
    have hkk : ((ownedOf m).getD i' ("", [])).1 ∈ keys (ownedOf m) := List.mem_map.mpr ⟨_, hmem, rfl⟩
    exact ⟨[12], [.m b, .m a, .d (.list ((keys m).map .str)), .m p1, .m p2, .u, .u, .u, .u, .u, .u, .u, .d (.str ((ownedOf m).getD i' ("", [])).1), .u, .u, .u], _, tg_name, fun k hk => hk, t_is (t_test (x_op (x_dget (mo := .fz od ws (kd (mkD (ownedOf m)))) (x_vm rfl) (x_vd rfl) hin (.inr ⟨od, ws, rfl⟩) (mk_val hkk)) (x_tup (ds := []) a_nil (by simp)) (o_eqD (.d _) (.d _) ((shp_ts 0 (SO.rgood hkk)).shaped (by decide)) ((shp_tuple (n := 0) (l := []) (fun d hd => by cases hd)).shaped (by decide))))) (by rw [eqv_ts_nil, er]), fun _ => x_vd rfl, fun _ => rfl⟩
  refine q_asg (x_callEK (a := a) (a_cons (x_vm rfl) a_nil) rev1 (by simp) ⟨a, m, rfl, rfl, S, rfl, rfl⟩) ?_
  have hbx : exactB m = decide (bareL = []) := by
    show ((ownedOf m).map fun p => !p.2.isEmpty).all id = _
    rw [List.all_map, Bool.eq_iff_iff, List.all_eq_true, decide_eq_true_eq]
    show (∀ x ∈ ownedOf m, _) ↔ ((ownedOf m).filter fun p => p.2.isEmpty).map (·.1) = []
    rw [List.map_eq_nil_iff, List.filter_eq_nil_iff]
    constructor
    · intro h x hx q
      have := h x hx
      simp [q] at this
    · intro h x hx
      have := h x hx
      simpa using this
  refine q_when (t_or (t_not (t_B (x_isi (x_vd rfl) (b := true) (show kitB "bool" "bool" = some true by decide +kernel)))) (fun _ => t_test (x_op (x_vd rfl) (x_op (x_cbP (a_cons (x_vd rfl) a_nil) (c_lenL (.d _))) x_int (o_eqD (.d _) (.d _) ((shp_int 0 _).shaped (by decide)) ((shp_int 0 _).shaped (by decide)))) (o_neD (.d _) (.d _) ((shp_bool 0 _).shaped (by decide)) ((shp_bool 0 _).shaped (by decide))))) (fun _ => rfl)) (fun hb => ?_) fun _ => ?_
  · have e1 : PyData.eqv (.int ((bareL.map PyData.str).length : Int)) (.int 0) = exactB m := by
      rw [eqv_int, hbx, List.length_map, Bool.eq_iff_iff, beq_iff_eq, decide_eq_true_eq, ← List.length_eq_zero_iff]
      omega
    rw [e1] at hb
    have e2 : PyData.eqv (.bool (exactB m)) (.bool (exactB m)) = true := SeqAt.eqv_refl _ (shp_bool 0 _).1
    rw [e2] at hb
    cases hb
  have hbl : bareL = (sortT (keys m)).filter fun k => (ownR m k).isEmpty := by
    show ((ownM m (sortT (keys m))).filter fun p => p.2.isEmpty).map (·.1) = _
    unfold ownM
    rw [List.filter_map, List.map_map]
    exact List.map_id _
  obtain ⟨dT, hCp, hdT⟩ : ∃ dT, Cpl m dT ∧ ((bareL = [] ∧ dT = .none) ∨ ∃ k rest res, bareL = k :: rest ∧ k ∈ keys m ∧ ownR m k = [] ∧ found6 m (rowOf m k) (othersN m k) = some res ∧ dT = .tuple [ts [k], ts res]) := by
    cases e : bareL with
    | nil =>
      rw [hbl] at e
      refine ⟨.none, .inl ⟨fun k hk q => ?_, rfl⟩, .inl ⟨rfl, rfl⟩⟩
      have := List.filter_eq_nil_iff.mp e k (sortT_mem.mpr hk)
      rw [q] at this
      exact this rfl
    | cons k rest =>
      rw [hbl] at e
      obtain ⟨l1, l2, e1, e2, e3, _⟩ := List.filter_eq_cons_iff.mp e
      have hkm : k ∈ keys m := sortT_mem.mp (by rw [e1]; simp)
      have hbr : ownR m k = [] := List.isEmpty_iff.mp e3
      obtain ⟨res, hres⟩ := bare_found S hkm hbr
      exact ⟨_, .inr ⟨l1, l2, k, res, e1, fun x hx q => e2 x hx (by rw [q]; rfl), hbr, hres, rfl⟩, .inr ⟨k, rest, res, rfl, hkm, hbr, hres, rfl⟩⟩
  have hnon : isNon dT = exactB m := by
    rw [hbx]
    rcases hdT with ⟨h1, rfl⟩ | ⟨k, rest, res, h1, _, _, _, rfl⟩
    · rw [h1]; rfl
    · rw [h1]; rfl
  refine q_asg (x_callEK (a := a) (a_cons (x_vm rfl) a_nil) rev1 (by simp) ⟨a, m, rfl, rfl, S, hCp, rfl⟩) ?_
  refine q_when (t_test (x_op (x_vd rfl) (x_op (x_vd rfl) x_non o_isN) (o_neD (.d _) (.d _) ((shp_bool 0 _).shaped (by decide)) ((shp_bool 0 _).shaped (by decide))))) (fun hb => ?_) fun _ => ?_
  · rw [hnon] at hb
    have e2 : PyData.eqv (.bool (exactB m)) (.bool (exactB m)) = true := SeqAt.eqv_refl _ (shp_bool 0 _).1
    rw [e2] at hb
    cases hb
  show Run _ _ D (p3 :: p2 :: p1 :: M) [.m b, .m a, .d (.list ((keys m).map .str)), .m p1, .m p2, .d (.list (bareL.map .str)), .d (.bool (exactB m)), .d dT, .u, .u, .u, .u, .u, .u, .u, .u] [(p3, .dK (kd (mkD (ownedOf m)))), (p2, .dK (kd (mkD (ownedOf m)))), (p1, .dK (kd [])), (b, .lst bx.ds), (a, .dK (kd (mkD m)))]
  have hina : ∀ z : MO, (a, MO.dK (kd (mkD m))) ∈ [(p3, MO.dK (kd (mkD (ownedOf m)))), (p2, .dK (kd (mkD (ownedOf m)))), (p1, .dK (kd [])), (b, z), (a, .dK (kd (mkD m)))] := fun z => by simp
  refine q_whenJ (fun δ μ => ∃ e9, δ = [.m b, .m a, .d (.list ((keys m).map .str)), .m p1, .m p2, .d (.list (bareL.map .str)), .d (.bool (exactB m)), .d dT, .u, e9, .u, .u, .u, .u, .u, .u] ∧ μ = [(p3, .dK (kd (mkD (ownedOf m)))), (p2, .dK (kd (mkD (ownedOf m)))), (p1, .dK (kd [])), (b, .lst bx.ds), (a, .dK (kd (mkD m)))])
    (t_test (x_op (x_vd rfl) x_non o_notN)) (fun hb D' kk => ?_) (fun _ => ⟨_, rfl, rfl⟩) ?_
  · rcases hdT with ⟨_, rfl⟩ | ⟨k, rest, res, hbk, hkm, hbr, hres, rfl⟩
    · cases hb
    have hlc := lc_filter (sortT (keys m)) "" (fun n => decide (n ≠ k)) PyData.str
    refine q_asg (e := .d (.list ((othersN m k).map .str))) (x_is (x_lc (fun _ => [(p3, .dK (kd (mkD (ownedOf m)))), (p2, .dK (kd (mkD (ownedOf m)))), (p1, .dK (kd [])), (b, .lst bx.ds), (a, .dK (kd (mkD m)))]) (fun i => decide ((sortT (keys m)).getD i "" ≠ k)) (fun i => .str ((sortT (keys m)).getD i "")) (i_list (x_cbP (a_cons (x_vd rfl) a_nil) (c_sortedS (.d _) (by rw [hkl]; have := S.len; omega)))) (by rw [List.length_map]; omega) fun j d hd' G' B'' D' => ?_) (by rw [List.length_map, hlc]; rfl)) ?_
    · obtain ⟨x, hx, rfl⟩ := ts_back hd'
      have ex : (sortT (keys m)).getD j "" = x := by rw [List.getD_eq_getElem?_getD, hx]; rfl
      rw [ex]
      have hxm : x ∈ keys m := sortT_mem.mp (List.mem_of_getElem? hx)
      have hb0 : (bareL.map PyData.str)[0]? = some (.str k) := by rw [hbk]; rfl
      refine ⟨[15], [.m b, .m a, .d (.list ((keys m).map .str)), .m p1, .m p2, .d (.list (bareL.map .str)), .d (.bool (exactB m)), .d (.tuple [ts [k], ts res]), .u, .u, .u, .u, .u, .u, .u, .d (.str x)], _, tg_name, fun k hk => hk, t_is (t_test (x_op (x_vd rfl) (x_op (x_vd rfl) x_int (o_ixL (.d _) (atI_nat (j := 0) hb0))) (o_neD (.d _) (.d _) (sh_str (S.kgood hxm)) (sh_str (S.kgood hkm))))) ?_, fun _ => x_vd rfl, fun _ => rfl⟩
      rw [eqv_str]
      by_cases q : x = k
      · rw [q]; simp
      · rw [decide_eq_true q, show (x == k) = false from beq_eq_false_iff_ne.mpr q]; rfl
    show Run _ _ _ _ [.m b, .m a, .d (.list ((keys m).map .str)), .m p1, .m p2, .d (.list (bareL.map .str)), .d (.bool (exactB m)), .d (.tuple [ts [k], ts res]), .u, .d (.list ((othersN m k).map .str)), .u, .u, .u, .u, .u, .u] _
    have hres' : ((List.range 6).flatMap (lev (othersN m k))).find? (reach m (rowOf m k) 0) = some res := hres
    have hfm := List.mem_of_find?_eq_some hres'
    have hfr0 : reach m (rowOf m k) 0 res = true := List.find?_some hres'
    have hfr := of_decide_eq_true hfr0
    obtain ⟨lv, hlvR, hlv⟩ := List.mem_flatMap.mp hfm
    have hresN : ∀ n ∈ res, n ∈ othersN m k := lev_names _ _ res hlv
    have hresK : ∀ n ∈ res, n ∈ keys m := fun n hn => othersN_keys n (hresN n hn)
    have hresl : res.length ≤ 100 := by
      have := lev_len _ _ res hlv
      have hlt : lv < 6 := by simpa using hlvR
      omega
    have hgres : Good res := fun n hn => S.kgood (hresK n hn)
    have hgk : Good [k] := fun n hn => by rw [List.mem_singleton.mp hn]; exact S.kgood hkm
    have hsh : SeqAt.shaped (.tuple [ts [k], ts res]) = true := (shp_tuple (n := 1) fun d hd => by
      rcases List.mem_cons.mp hd with z | z
      · rw [z]; exact shp_ts 0 hgk
      · rw [List.mem_singleton.mp z]; exact shp_ts 0 hgres).shaped (by decide)
    have hb0 : (bareL.map PyData.str)[0]? = some (.str k) := by rw [hbk]; rfl
    have hcc : (decide ((made m [k]).Sublist (made m res)) && !decide ([k].Sublist res)) = true := by
      have h1 : (made m [k]).Sublist (made m res) := by
        have : made m [k] = rowOf m k := by unfold made; rw [List.flatMap_singleton]
        rw [this]
        exact (sub_made m (rowOf m k) res).mpr hfr
      have h2 : ¬ [k].Sublist res := fun q => by
        have := (List.mem_filter.mp (hresN k (q.subset (by simp)))).2
        simp at this
      rw [decide_eq_true h1, decide_eq_false h2]; rfl
    refine r_if (t_or (t_test (x_op (x_vd rfl) (x_tup (ds := [ts [k], ts res]) (a_cons (x_tup (ds := [.str k]) (a_cons (x_op (x_vd rfl) x_int (o_ixL (.d _) (atI_nat (j := 0) hb0))) a_nil) (by simp)) (a_cons (x_callE1 (a := a) (mo := .dK (kd (mkD m))) (a_cons (x_vm rfl) (a_cons (x_dget (mo := .dK (kd (mkD m))) (x_vm rfl) (x_op (x_vd rfl) x_int (o_ixL (.d _) (atI_nat (j := 0) hb0))) (hina _) (.inl rfl) (mk_val hkm)) (a_cons (x_vd rfl) a_nil))) (hina _) ⟨a, _, m, rowOf m k, othersN m k, res, rfl, rfl, .inl rfl, S, S.rgood hkm, S.rlen hkm, othersN_keys, othersN_len S hkm, bare_cover S hkm hbr, hres, rfl, rfl⟩) a_nil)) (by simp)) (o_neD (.d _) (.d _) hsh hsh)))
      (fun _ => t_not (t_B (x_callE1 (a := a) (mo := .dK (kd (mkD m))) (a_cons (x_vm rfl) (a_cons (x_op (x_vd rfl) x_int (o_ixT (ds := [ts [k], ts res]) (d := ts [k]) rfl)) (a_cons (x_op (x_vd rfl) x_int (o_ixT (ds := [ts [k], ts res]) (d := ts res) rfl)) a_nil))) (hina _) ⟨a, _, m, [k], res, rfl, rfl, .inl rfl, S, fun n hn => by rw [List.mem_singleton.mp hn]; exact hkm, hresK, by simp, hresl, rfl, rfl⟩))) (fun _ => rfl)) (fun hb => ?_) fun _ => ?_
    · have e2 : PyData.eqv (.tuple [ts [k], ts res]) (.tuple [ts [k], ts res]) = true := SeqAt.eqv_refl _ (SeqAt.canLay_of_shaped hsh)
      rw [e2, hcc] at hb
      cases hb
    · exact r_next (kk _ _ ⟨_, rfl, rfl⟩)
  rintro δ1 μ1 ⟨e9, rfl, rfl⟩
  refine q_for (i_rng1 (n := 8) (a_cons x_int a_nil) (by decide) (by decide)) (fun i δ μ => ∃ (bx' : Box) (e8 e10 e11 e13 e14 : Ent), δ = [.m b, .m a, .d (.list ((keys m).map .str)), .m p1, .m p2, .d (.list (bareL.map .str)), .d (.bool (exactB m)), .d dT, e8, e9, e10, e11, .u, e13, e14, .u] ∧ μ = [(p3, .dK (kd (mkD (ownedOf m)))), (p2, .dK (kd (mkD (ownedOf m)))), (p1, .dK (kd [])), (b, .lst bx'.ds), (a, .dK (kd (mkD m)))])
    ⟨bx, _, _, _, _, _, rfl, rfl⟩ ?_ ?_
  · rintro B' hB i d δ1 μ1 hi ⟨bx', e8, e10, e11, e13, e14, rfl, rfl⟩
    refine ⟨[8], _, tg_name, ?_⟩
    show Run _ _ _ _ [.m b, .m a, .d (.list ((keys m).map .str)), .m p1, .m p2, .d (.list (bareL.map .str)), .d (.bool (exactB m)), .d dT, .d d, e9, e10, e11, .u, e13, e14, .u] [(p3, .dK (kd (mkD (ownedOf m)))), (p2, .dK (kd (mkD (ownedOf m)))), (p1, .dK (kd [])), (b, .lst bx'.ds), (a, .dK (kd (mkD m)))]
    refine q_asgXG (μ0 := [(b, .lst bx'.ds)]) (a_cons (x_vm rfl) (a_cons (x_vd rfl) a_nil)) (fun p hp => by rw [List.mem_singleton.mp hp]; simp) (fun _ => by simp) ⟨b, keys m, bx', rfl, rfl, by omega, by rw [hkl]; exact S.len⟩ fun ndμ dd μ0' hq had => ?_
    obtain ⟨u, v, bx2, rfl, hu, hv, lu, lv, rfl⟩ := hq b (keys m) rfl
    refine ⟨_, _, _, swap_set (j := 3) rfl ndμ, tg_lst2, ?_⟩
    show Run _ _ _ _ [.m b, .m a, .d (.list ((keys m).map .str)), .m p1, .m p2, .d (.list (bareL.map .str)), .d (.bool (exactB m)), .d dT, .d d, e9, e10, e11, .u, .d (ts u), .d (ts v), .u] [(p3, .dK (kd (mkD (ownedOf m)))), (p2, .dK (kd (mkD (ownedOf m)))), (p1, .dK (kd [])), (b, .lst bx2.ds), (a, .dK (kd (mkD m)))]
    have gmu := made_good S hu
    have gmv := made_good S hv
    have hml := made_len S hu
    have hml2 := made_len S hv
    have cu : ∀ {C : Cfg} {M : List Addr} {δ : List Ent} {tr : TA} {E : XK} {μ μ1 : Mem} (w : List Str) (hw : ∀ k ∈ w, k ∈ keys m) (lw : w.length ≤ 20) (h : EvA C tr M δ μ μ1 [.m a, .d (ts w)]) (hi : (a, MO.dK (kd (mkD m))) ∈ μ1), EvX C (tCall (spE C.K 2 Rmd) [] E tr) M δ μ μ1 (.d (ts (made m w))) := fun w hw lw h hi => x_callE1 h hi ⟨a, _, m, w, rfl, rfl, .inl rfl, S, hw, by omega, rfl, rfl⟩
    refine q_when (t_test (x_op (x_callEK (a := a) (mo := .dK (kd (mkD m))) (d := ts (made m u)) (a_cons (x_vd rfl) (a_cons (x_vm rfl) a_nil)) rev2 (hina _) ⟨a, _, m, u, rfl, rfl, .inl rfl, S, hu, by omega, rfl, rfl⟩) (cu u hu lu (a_cons (x_vm rfl) (a_cons (x_vd rfl) a_nil)) (hina _)) (o_neD (.d _) (.d _) ((shp_ts 0 gmu).shaped (by decide)) ((shp_ts 0 gmu).shaped (by decide))))) (fun hb => ?_) fun _ => ?_
    · have e2 : PyData.eqv (ts (made m u)) (ts (made m u)) = true := SeqAt.eqv_refl _ (shp_ts 0 gmu).1
      rw [e2] at hb
      cases hb
    refine q_asg (x_callR (ds := [ts (made m u), ts (made m v)]) (a_cons (cu u hu lu (a_cons (x_vm rfl) (a_cons (x_vd rfl) a_nil)) (hina _)) (a_cons (cu v hv lv (a_cons (x_vm rfl) (a_cons (x_vd rfl) a_nil)) (hina _)) a_nil)) ⟨made m u, made m v, rfl, gmu, gmv, by omega, by omega, rfl⟩) ?_
    refine q_asg (x_callR (ds := [ts u, ts v]) (a_cons (x_vd rfl) (a_cons (x_vd rfl) a_nil)) ⟨u, v, rfl, fun x hx => S.kgood (hu x hx), fun x hx => S.kgood (hv x hx), by omega, by omega, rfl⟩) ?_
    have hIH : u.Sublist v → (made m u).Sublist (made m v) := fun q => flatMap_sub _ q
    have hHI : exactB m = true → (made m u).Sublist (made m v) → u.Sublist v := fun he q => by
      rw [hbx, decide_eq_true_eq] at he
      refine exact_sub (fun k hk => ?_) hu hv q
      have hne : ownR m k ≠ [] := fun z => by
        have : k ∈ bareL := by
          rw [hbl]
          exact List.mem_filter.mpr ⟨sortT_mem.mpr hk, by rw [z]; rfl⟩
        rw [he] at this; cases this
      obtain ⟨c, rest, hc⟩ := List.exists_cons_of_ne_nil hne
      have hcm : c ∈ ownR m k := by rw [hc]; simp
      obtain ⟨hc1, hc2⟩ := List.mem_filter.mp hcm
      refine ⟨c, setT_mem.mp hc1, fun j hj hjk hcj => ?_⟩
      have hc2 : ¬ c ∈ othersOf m k := by simpa using hc2
      obtain ⟨q, hq, hq1, hq2⟩ := S.at_ hj
      exact hc2 (List.mem_flatMap.mpr ⟨q, List.mem_filter.mpr ⟨hq, by simp [hq1, hjk]⟩, by rw [← hq2]; exact hcj⟩)
    refine q_when (t_or (t_and (t_B (x_vd rfl)) (fun _ => t_not (t_B (x_vd rfl))) (fun _ => rfl)) (fun _ => t_and (t_B (x_vd rfl)) (fun _ => t_test (x_op (x_vd rfl) (x_vd rfl) (o_neD (.d _) (.d _) ((shp_bool 0 _).shaped (by decide)) ((shp_bool 0 _).shaped (by decide))))) (fun _ => rfl)) (fun _ => rfl)) (fun hb => ?_) fun _ => ?_
    · exfalso
      by_cases hI : u.Sublist v
      · rw [decide_eq_true hI, decide_eq_true (hIH hI)] at hb
        have : PyData.eqv (.bool true) (.bool true) = true := by decide +kernel
        rw [this] at hb
        revert hb; cases exactB m <;> decide
      · rw [decide_eq_false hI] at hb
        cases he : exactB m with
        | false => rw [he] at hb; cases hb
        | true =>
          have hH : ¬ (made m u).Sublist (made m v) := fun q => hI (hHI he q)
          rw [he, decide_eq_false hH] at hb
          have : PyData.eqv (.bool false) (.bool false) = true := by decide +kernel
          rw [this] at hb
          cases hb
    refine r_if (t_test (x_op (x_callEK (a := a) (mo := .dK (kd (mkD m))) (d := .bool (decide ((made m u).Sublist (made m v)) && !decide (u.Sublist v))) (a_cons (x_vd rfl) (a_cons (x_vd rfl) (a_cons (x_vm rfl) a_nil))) rev3 (hina _) ⟨a, _, m, u, v, rfl, rfl, .inl rfl, S, hu, hv, by omega, by omega, rfl, rfl⟩) (x_andV (x_vd rfl) (fun _ => x_notV (x_vd rfl)) (fun _ => rfl)) (o_neD (.d _) (.d _) ((shp_bool 0 _).shaped (by decide)) ((shp_bool 0 _).shaped (by decide))))) (fun hb => ?_) fun _ => ?_
    · have e2 : ∀ z : Bool, PyData.eqv (.bool z) (.bool z) = true := fun z => SeqAt.eqv_refl _ (shp_bool 0 _).1
      rw [e2] at hb
      cases hb
    · exact r_next fun σ H o => ⟨_, _, ⟨bx2, _, _, _, _, _, rfl, rfl⟩, o⟩
  · rintro δ1 μ1 ⟨bx', e8, e10, e11, e13, e14, rfl, rfl⟩
    exact r_retE (μ' := [(b, .lst bx'.ds), (a, .dK (kd (mkD m)))]) x_bl (fun z hz => by
      rcases List.mem_cons.mp hz with q | q
      · rw [q]; simp
      · rw [List.mem_singleton.mp q]; simp) (fin' bx')
end
end K83
namespace K83
open PySem L2 FD
def spLaw (K : PySem.W.Frag) : Sp := fun vs H Q _ => ∃ (a : Addr) (ns : List Int), vs = [.ref a] ∧ SqL K H a (ns.map V.int) ∧ ns.length ≤ 63 ∧ ∀ H', Q (.bl true) H'
theorem dp_ints {K : PySem.W.Frag} {H : Hp} : ∀ ns : List Int, DpAll K H (ns.map V.int) (ns.map PyData.int)
  | [] => .nil
  | n :: ns => .cons (.int n) (dp_ints ns)
theorem swap3 {k a p : Addr} {x y z z' : MO} (nd : (ad [(k, x), (a, y), (p, z)]).Nodup) : Swap [(p, z), (a, y)] [(p, z'), (a, y)] [(k, x), (a, y), (p, z)] [(k, x), (a, y), (p, z')] where
  sub := fun q hq => by
    rcases List.mem_cons.mp hq with e | e
    · rw [e]; simp
    · rw [List.mem_singleton.mp e]; simp
  ad0 := rfl
  ad1 := rfl
  new := fun q hq => by
    have nd' : ([k, a, p] : List Addr).Nodup := nd
    rcases List.mem_cons.mp hq with e | e
    · refine .inr ⟨by rw [e]; simp, fun h => ?_⟩
      rw [e] at h
      have h : k ∈ [p, a] := h
      have := (List.nodup_cons.mp nd').1
      simp at h this
      rcases h with h | h
      · exact this.2 h
      · exact this.1 h
    · rcases List.mem_cons.mp e with e | e
      · rw [e]; exact .inl (by simp)
      · rw [List.mem_singleton.mp e]; exact .inl (by simp)
section
variable {P : Program} {w : World} {K : PySem.W.Frag} {mg : Str → Option Value} {base : Heap}
abbrev nLw : List Str := ["_law_script", "_law_k", "_law_box_here", "_law_many", "_law_names_here", "_law_letters", "_law_making_here", "_law_kept"]
theorem scLw : FnScope nLw ["_law_script"] (defScope sLw) := ⟨rfl, rfl, rfl, by decide +kernel, rfl, by decide +kernel, by decide +kernel⟩
theorem ok_lw {f : Addr} {fd : FuncData} (T : Txt mg) (F : Fun K "law" "law" sLw f fd) {aFf aWi aRb aMr aOd aIe aFt aFh aCo aCc aBx aTk aPk aNa aLi aLm aLk aLo aLf aLp aLr : Addr} {dFf dWi dRb dMr dOd dIe dFt dFh dCo dCc dBx dTk dPk dNa dLi dLm dLk dLo dLf dLp dLr : FuncData}
    (HFf : Has K mg "first_fit" sFf ["u", "v"] aFf dFf) (HWi : Has K mg "within" sWi ["u", "v"] aWi dWi) (HRb : Has K mg "row_by" sRb ["view", "row"] aRb dRb) (HMr : Has K mg "made_row" sMr ["making", "row"] aMr dMr) (HOd : Has K mg "own_deeds" sOd ["making"] aOd dOd) (HIe : Has K mg "is_exact" sIe ["making"] aIe dIe)
    (HFt : Has K mg "fitted_to" sFt ["row", "place", "shown"] aFt dFt) (HFh : Has K mg "first_holder" sFh ["making", "row", "names"] aFh dFh) (HCo : Has K mg "couple" sCo ["making"] aCo dCo) (HCc : Has K mg "check_couple" sCc ["making", "u", "v"] aCc dCc)
    (HBx : Has K mg "_law_box" sBx ["_law_script", "_law_k"] aBx dBx) (HTk : Has K mg "_law_take" sTk ["_law_box_here", "_law_many"] aTk dTk) (HPk : Has K mg "_law_pick" sPk ["_law_box_here", "_law_some"] aPk dPk) (HNa : Has K mg "_law_names" sNa ["_law_box_here", "_law_many"] aNa dNa)
    (HLi : Has K mg "_law_within" sLi ["_law_u", "_law_v"] aLi dLi) (HLm : Has K mg "_law_made" sLm ["_law_making_here", "_law_row"] aLm dLm) (HLk : Has K mg "_law_making" sLk ["_law_box_here", "_law_names_here", "_law_letters", "_law_most"] aLk dLk) (HLo : Has K mg "_law_owned" sLo ["_law_making_here"] aLo dLo) (HLf : Has K mg "_law_first_holder" sLf ["_law_making_here", "_law_row", "_law_names_here"] aLf dLf) (HLp : Has K mg "_law_pair" sLp ["_law_box_here", "_law_names_here"] aLp dLp)
    (HLr : Has K mg "_law_making_right" sLr ["_law_box_here", "_law_making_here", "_law_names_here"] aLr dLr)
    (KOd : KBn K dOd ["making"] 0 ["making"] (fun _ ws => ws.reverse) (fun _ zs => zs.reverse)) (KIe : KBn K dIe ["making"] 0 ["making"] (fun _ ws => ws.reverse) (fun _ zs => zs.reverse)) (KCo : KBn K dCo ["making"] 0 ["making"] (fun _ ws => ws.reverse) (fun _ zs => zs.reverse))
    (KMr : KBn K dMr ["making", "row"] 0 ["row", "making"] (fun _ ws => ws.reverse) (fun _ zs => zs.reverse)) (KCc : KBn K dCc ["making", "u", "v"] 0 ["v", "u", "making"] (fun _ ws => ws.reverse) (fun _ zs => zs.reverse)) :
    FnOk P w K mg base CX0 5 f fd ["_law_script"] (spLaw K) := by
  have GBx : FnOk P w K mg base CX0 1 aBx dBx ["_law_script", "_law_k"] (spN K 2 Rbx) := ok_bx T HBx.F
  have GTk : FnOk P w K mg base CX0 1 aTk dTk ["_law_box_here", "_law_many"] (spW K 2 Rtk) := ok_tk T HTk.F
  have GNa : FnOk P w K mg base CX0 2 aNa dNa ["_law_box_here", "_law_many"] (spX K 2 Pna Qna) := ok_na T HNa.F HTk
  have GLk : FnOk P w K mg base CX0 3 aLk dLk ["_law_box_here", "_law_names_here", "_law_letters", "_law_most"] (spXN K 4 Pmk Qmk) := ok_lk T HLk.F HTk HPk
  have GLr : FnOk P w K mg base CX0 4 aLr dLr ["_law_box_here", "_law_making_here", "_law_names_here"] (spX K 3 Pmr Qmr) := ok_lr T HLr.F HFf HWi HRb HMr HOd HIe HFt HFh HCo HCc HTk HPk HLi HLm HLo HLf HLp KOd KIe KCo KMr KCc
  refine F.ok scLw (fun vs H Q E hs => ?_) fun cdv A outer s H vs Q E hr hs => ?_
  · obtain ⟨a, ns, rfl, _⟩ := hs
    rfl
  obtain ⟨a, ns, rfl, hS, hlen, kk⟩ := hs
  have nd := scLw.nd
  have hr1 : Room 1 _ := hr.mono (by decide)
  have hr2 : Room 2 _ := hr.mono (by decide)
  have hr3 : Room 3 _ := hr.mono (by decide)
  have hu65 : (A.deeper (PyProof.Rows.envOfC "law" (defScope sLw) s.heap.objs.size f cdv)).units + 65 < cLine := by have := hr.un; omega
  refine ⟨_, (pss_cons (ps_for PassesOwn.never rfl (pi_range1 (by rfl) T.range (pa_cons (pe_op op_add pe_int (pe_callTy call_int1 (by rfl) T.int (by decide +kernel) (pa_cons (pe_cmpR op_gt (pe_callB call_len_seq (by rfl) T.len PySem.boot_len (pa_cons (pv 0) pa_nil)) pe_int (nomark _)) pa_nil))) pa_nil)) (pg_name (i := 1) nd rfl (Or.inl rfl)) (pss_cons (ps_set (i := 2) nd rfl (Or.inl rfl) (pe_call GBx hr1 rfl HBx.m HBx.F.kp HBx.b .nil pass0 (pa_cons (pv 0) (pa_cons (pv 1) pa_nil))))
 (pss_cons (ps_set (i := 3) nd rfl (Or.inl rfl) (pe_op op_add pe_int (pe_call GTk hr1 rfl HTk.m HTk.F.kp HTk.b .nil pass0 (pa_cons (pv 2) (pa_cons pe_int pa_nil)))))
 (pss_cons (ps_set (i := 4) nd rfl (Or.inl rfl) (pe_call GNa hr2 rfl HNa.m HNa.F.kp HNa.b .nil pass0 (pa_cons (pv 2) (pa_cons (pv 3) pa_nil))))
 (pss_cons (ps_set (i := 5) nd rfl (Or.inl rfl) (pe_call GNa hr2 rfl HNa.m HNa.F.kp HNa.b .nil pass0 (pa_cons (pv 2) (pa_cons (pe_op op_add pe_int (pe_call GTk hr1 rfl HTk.m HTk.F.kp HTk.b .nil pass0 (pa_cons (pv 2) (pa_cons pe_int pa_nil)))) pa_nil))))
 (pss_cons (ps_set (i := 6) nd rfl (Or.inl rfl) (pe_call GLk hr3 rfl HLk.m HLk.F.kp HLk.b .nil pass0 (pa_cons (pv 2) (pa_cons (pv 4) (pa_cons (pv 5) (pa_cons (pe_op op_sub pe_int (pe_callTy call_int1 (by rfl) T.int (by decide +kernel) (pa_cons (pe_cmpR op_gt (pv 3) pe_int (nomark _)) pa_nil))) pa_nil))))))
 (pss_cons (ps_set (i := 7) nd rfl (Or.inl rfl) (pe_callTy call_dictD (by rfl) T.dict (by decide +kernel) (pa_cons (pv 6) pa_nil)))
 (pss_one (ps_if (PW.pt (pw_or (pt_not (pt_val (pe_call GLr hr rfl HLr.m HLr.F.kp HLr.b .nil pass0 (pa_cons (pv 2) (pa_cons (pv 6) (pa_cons (pv 4) pa_nil)))))) (pw_or1 (pt_cmpR (op_neDK hu65) (pv 6) (pv 7) (nomark _))))) (pss_one (ps_ret pe_bl)) pss_nil)))))))))
 (pss_one (ps_ret pe_bl))), ?_⟩
  have hd0 : DpAll K (hide [] H) (ns.map V.int) (ns.map PyData.int) := dp_ints ns
  have hh : hide [] H = H := by funext a; exact hide_out (fun z => nomatch z)
  rw [hh] at hd0
  suffices hrun : ∀ D : Ends, Fin ⟨K, [], H, hide [] H⟩ D (.bool true) → Run ⟨K, [], H, hide [] H⟩ _ D [] (startE nLw.length 1 [.d (.list (ns.map .int))]) [] by
    refine hrun _ (fun v H' _ r => ?_) _ _ (ok_startD (ds := [.list (ns.map .int)]) (fun _ z => nomatch z) (.cons (.lst (by rw [hh]; exact hS) (by rw [hh]; exact hd0)) .nil) (by show 1 ≤ 8; decide))
    rw [Dp.bool_of r]
    exact kk _
  intro D fin
  show Run _ _ D [] [.d (.list (ns.map .int)), .u, .u, .u, .u, .u, .u, .u] []
  refine q_for (i_rng1 (a_cons (x_op x_int (x_cbP (a_cons (x_op (x_cbP (a_cons (x_vd rfl) a_nil) (c_lenL (.d _))) x_int o_B0) a_nil) c_intB) o_I0) a_nil) ?_ ?_)
    (fun i δ μ => ∃ e1 e2 e3 e4 e5 e6 e7, δ = [.d (.list (ns.map .int)), e1, e2, e3, e4, e5, e6, e7] ∧ μ = []) ⟨_, _, _, _, _, _, _, rfl, rfl⟩ ?_ ?_
  · split <;> omega
  · split <;> omega
  · rintro B' hB i d δ1 μ1 hi ⟨e1, e2, e3, e4, e5, e6, e7, rfl, rfl⟩
    obtain ⟨hi3, rfl⟩ : i < 3 ∧ d = .int (i : Int) := by
      have hl := (List.getElem?_eq_some_iff.mp hi).1
      rw [rngD_length] at hl
      rw [rngD_get hl, Int.zero_add] at hi
      refine ⟨?_, (Option.some.inj hi).symm⟩
      revert hl
      split <;> omega
    refine ⟨[1], _, tg_name, ?_⟩
    show Run _ _ _ _ [.d (.list (ns.map .int)), .d (.int (i : Int)), e2, e3, e4, e5, e6, e7] _
    refine q_asgN (ds := [.list (ns.map .int), .int (i : Int)]) (es := (bxOf ns i).ds) (a_cons (x_vd rfl) (a_cons (x_vd rfl) a_nil)) ⟨ns, i, rfl, by omega, rfl⟩ fun p hp => ?_
    show Run _ _ _ _ [.d (.list (ns.map .int)), .d (.int (i : Int)), .m p, e3, e4, e5, e6, e7] [(p, .lst (bxOf ns i).ds)]
    generalize bxOf ns i = b0
    have hv4 := tkV_lt (b := b0) (n := 4) (by decide)
    obtain ⟨c, hc⟩ : ∃ c : Nat, 1 + tkV b0 4 = (c : Int) := ⟨(1 + tkV b0 4).toNat, by omega⟩
    have hc1 : 0 < c ∧ c ≤ 4 := by omega
    refine q_asg (e := .d (.int (c : Int))) (x_is (x_op x_int (x_take (x_vm rfl) x_int (by decide) (by decide)) o_I0) (by rw [hc])) ?_
    generalize tkB b0 4 = b1
    show Run _ _ _ _ [.d (.list (ns.map .int)), .d (.int (i : Int)), .m p, .d (.int (c : Int)), e4, e5, e6, e7] [(p, .lst b1.ds)]
    refine q_asgXG (μ0 := [(p, .lst b1.ds)]) (a_cons (x_vm rfl) (a_cons (x_vd rfl) a_nil)) (fun q hq => hq) (fun h => h) ⟨p, c, b1, rfl, rfl, hc1.2⟩ fun ndμ dd μ0' hq had => ?_
    obtain ⟨names, b2, rfl, hnl, hnd, hng, rfl⟩ := hq p c b1 rfl rfl
    refine ⟨_, _, _, swap_set (j := 0) rfl ndμ, tg_name, ?_⟩
    show Run _ _ _ _ [.d (.list (ns.map .int)), .d (.int (i : Int)), .m p, .d (.int (c : Int)), .d (.list (names.map .str)), e5, e6, e7] [(p, .lst b2.ds)]
    have hv3 := tkV_lt (b := b2) (n := 3) (by decide)
    obtain ⟨c3, hc3⟩ : ∃ c : Nat, 2 + tkV b2 3 = (c : Int) := ⟨(2 + tkV b2 3).toNat, by omega⟩
    have hc31 : 0 < c3 ∧ c3 ≤ 4 := by omega
    refine q_asgXG (μ0 := [(p, .lst (tkB b2 3).ds)]) (a_cons (x_vm rfl) (a_cons (x_is (e1 := .d (.int (c3 : Int))) (x_op x_int (x_take (x_vm rfl) x_int (by decide) (by decide)) o_I0) (by rw [hc3])) a_nil)) (fun q hq => hq) (fun h => h) ⟨p, c3, tkB b2 3, rfl, rfl, hc31.2⟩ fun ndμ dd μ0' hq had => ?_
    obtain ⟨lets, b3, rfl, hll, hld, hlg, rfl⟩ := hq p c3 (tkB b2 3) rfl rfl
    refine ⟨_, _, _, swap_set (j := 0) rfl ndμ, tg_name, ?_⟩
    show Run _ _ _ _ [.d (.list (ns.map .int)), .d (.int (i : Int)), .m p, .d (.int (c : Int)), .d (.list (names.map .str)), .d (.list (lets.map .str)), e6, e7] [(p, .lst b3.ds)]
    obtain ⟨mo, hmo, mo1⟩ : ∃ mo : Nat, ((5 : Int) - (if decide ((c : Int) > 3) = true then 1 else 0)) = (mo : Int) ∧ 0 < mo ∧ mo ≤ 5 := by
      by_cases q : (c : Int) > 3
      · exact ⟨4, by simp [q], by decide, by decide⟩
      · exact ⟨5, by simp [q], by decide, by decide⟩
    refine q_asgXN (μ0 := [(p, .lst b3.ds)]) (a_cons (x_vm rfl) (a_cons (x_vd rfl) (a_cons (x_vd rfl) (a_cons (x_is (e1 := .d (.int (mo : Int))) (x_op x_int (x_cbP (a_cons (x_op (x_vd rfl) x_int o_B0) a_nil) c_intB) o_I0) (by rw [← hmo])) a_nil)))) (fun q hq => hq) (fun h => h) ⟨p, names, lets, mo, b3, rfl, rfl, by omega, by omega, hnd, hng, by omega, by omega, hlg, mo1.1, mo1.2⟩ fun ndμ mm μ0' hq had => ?_
    obtain ⟨m, b4, S, hk, rfl, rfl⟩ := hq p names lets mo rfl
    refine ⟨_, swap_set (j := 0) rfl ndμ, fun a ha => ?_⟩
    show Run _ _ _ _ [.d (.list (ns.map .int)), .d (.int (i : Int)), .m p, .d (.int (c : Int)), .d (.list (names.map .str)), .d (.list (lets.map .str)), .m a, e7] [(a, .dK (kd (mkD m))), (p, .lst b4.ds)]
    refine q_copyD (a := a) (l := mkD m) (a_cons (x_vm rfl) a_nil) (List.mem_cons_self ..) (.inl rfl) fun k hkM => ?_
    show Run _ _ _ _ [.d (.list (ns.map .int)), .d (.int (i : Int)), .m p, .d (.int (c : Int)), .d (.list (names.map .str)), .d (.list (lets.map .str)), .m a, .m k] [(k, .dK (kd (mkD m))), (a, .dK (kd (mkD m))), (p, .lst b4.ds)]
    have hml : 0 < m.length := by
      have : (keys m).length = m.length := List.length_map ..
      rw [← this, hk]; omega
    have ndm : ((mkD m).map (·.1)).Nodup := by rw [mkD_keys]; exact S.nd
    have shm : ∀ p ∈ mkD m, SeqAt.shaped p.2 = true := fun p hp => by
      obtain ⟨q, hq, rfl⟩ := List.mem_map.mp hp
      exact (shp_ts 0 (S.good q hq).2).shaped (by decide)
    refine r_ifX (μ0 := [(p, .lst b4.ds), (a, .dK (kd (mkD m)))]) (a_cons (x_vm rfl) (a_cons (x_vm rfl) (a_cons (x_vd rfl) a_nil))) (fun q hq => ?_) (fun h => ?_) ⟨p, a, m, b4, by rw [hk], rfl, S, hml⟩ fun ndμ d μ0' hq had => ?_
    · rcases List.mem_cons.mp hq with e | e
      · rw [e]; simp
      · rw [List.mem_singleton.mp e]; simp
    · have h : ([k, a, p] : List Addr).Nodup := h
      show ([p, a] : List Addr).Nodup
      have h2 := (List.nodup_cons.mp h).2
      simp at h2
      simp
      exact fun z => h2 z.symm
    · obtain ⟨rfl, b', bx', hb, rfl⟩ := hq
      cases hb
      refine ⟨rfl, [(k, .dK (kd (mkD m))), (a, .dK (kd (mkD m))), (p, .lst bx'.ds)], swap3 ndμ, t_test (x_op (x_vm rfl) (x_vm rfl) (o_neDK (l := mkD m) (by simp) (by simp) ndm shm)), ?_⟩
      exact r_next fun σ H o => ⟨_, _, ⟨_, _, _, _, _, _, _, rfl, rfl⟩, (o.mems (μ' := []) (fun _ h => nomatch h) .nil).drop (fun a h => List.mem_cons_of_mem _ (List.mem_cons_of_mem _ (List.mem_cons_of_mem _ h))) (fun _ h => nomatch h) (fun _ h => nomatch h)⟩
  · rintro δ1 μ1 ⟨e1, e2, e3, e4, e5, e6, e7, rfl, rfl⟩
    exact r_retP x_bl fin
end
end K83
namespace K83
open PySem L2 FD
theorem tops {l : PySem.W.OpenLaw} {w : World} {K : PySem.W.Frag} {h : Heap} {mg : Str → Option Value} {fa f1 f2 f3 f4 f5 f6 f7 f8 f9 f10 f11 f12 f13 f14 f15 f16 f17 f18 f19 f20 f21 f22 : Addr} (X : K.In h) (G : h.Ns mainGlobals mg) (hfa : mg "law" = some (.ref fa))
    {od1 an1 od2 an2 od3 an3 od4 an4 od5 an5 od6 an6 od7 an7 od8 an8 od9 an9 od10 an10 od11 an11 od12 an12 od13 an13 od14 an14 od15 an15 od16 an16 od17 an17 od18 an18 od19 an19 od20 an20 od21 an21 od22 an22 : Option Addr} {sl1 sl2 sl3 sl4 sl5 sl6 sl7 sl8 sl9 sl10 sl11 sl12 sl13 sl14 sl15 sl16 sl17 sl18 sl19 sl20 sl21 sl22 : Array (Option Value)} {oc1 kV1 dc1 pm1 cd1 ct1 oc2 kV2 dc2 pm2 cd2 ct2 oc3 kV3 dc3 pm3 cd3 ct3 oc4 kV4 dc4 pm4 cd4 ct4 oc5 kV5 dc5 pm5 cd5 ct5 oc6 kV6 dc6 pm6 cd6 ct6 oc7 kV7 dc7 pm7 cd7 ct7 oc8 kV8 dc8 pm8 cd8 ct8 oc9 kV9 dc9 pm9 cd9 ct9 oc10 kV10 dc10 pm10 cd10 ct10 oc11 kV11 dc11 pm11 cd11 ct11 oc12 kV12 dc12 pm12 cd12 ct12 oc13 kV13 dc13 pm13 cd13 ct13 oc14 kV14 dc14 pm14 cd14 ct14 oc15 kV15 dc15 pm15 cd15 ct15 oc16 kV16 dc16 pm16 cd16 ct16 oc17 kV17 dc17 pm17 cd17 ct17 oc18 kV18 dc18 pm18 cd18 ct18 oc19 kV19 dc19 pm19 cd19 ct19 oc20 kV20 dc20 pm20 cd20 ct20 oc21 kV21 dc21 pm21 cd21 ct21 oc22 kV22 dc22 pm22 cd22 ct22 : Value}
    (a1 : PySem.W.nsIn K mainGlobals "first_fit" = some (some (.ref f1))) (l1 : K.lookup f1 = some ⟨oc1, od1, .func (PySem.W.fnOf "first_fit" "first_fit" (defArgs sFf) (defBody sFf) (defScope sFf) .none kV1 dc1 pm1 an1 cd1 ct1), sl1⟩) (c1 : PySem.W.codeIn K cd1 "first_fit" = true) (k1 : PySem.W.keepIn K (.ref f1) = true)
    (a2 : PySem.W.nsIn K mainGlobals "within" = some (some (.ref f2))) (l2 : K.lookup f2 = some ⟨oc2, od2, .func (PySem.W.fnOf "within" "within" (defArgs sWi) (defBody sWi) (defScope sWi) .none kV2 dc2 pm2 an2 cd2 ct2), sl2⟩) (c2 : PySem.W.codeIn K cd2 "within" = true) (k2 : PySem.W.keepIn K (.ref f2) = true)
    (a3 : PySem.W.nsIn K mainGlobals "row_by" = some (some (.ref f3))) (l3 : K.lookup f3 = some ⟨oc3, od3, .func (PySem.W.fnOf "row_by" "row_by" (defArgs sRb) (defBody sRb) (defScope sRb) .none kV3 dc3 pm3 an3 cd3 ct3), sl3⟩) (c3 : PySem.W.codeIn K cd3 "row_by" = true) (k3 : PySem.W.keepIn K (.ref f3) = true)
    (a4 : PySem.W.nsIn K mainGlobals "made_row" = some (some (.ref f4))) (l4 : K.lookup f4 = some ⟨oc4, od4, .func (PySem.W.fnOf "made_row" "made_row" (defArgs sMr) (defBody sMr) (defScope sMr) .none kV4 dc4 pm4 an4 cd4 ct4), sl4⟩) (c4 : PySem.W.codeIn K cd4 "made_row" = true) (k4 : PySem.W.keepIn K (.ref f4) = true)
    (a5 : PySem.W.nsIn K mainGlobals "own_deeds" = some (some (.ref f5))) (l5 : K.lookup f5 = some ⟨oc5, od5, .func (PySem.W.fnOf "own_deeds" "own_deeds" (defArgs sOd) (defBody sOd) (defScope sOd) .none kV5 dc5 pm5 an5 cd5 ct5), sl5⟩) (c5 : PySem.W.codeIn K cd5 "own_deeds" = true) (k5 : PySem.W.keepIn K (.ref f5) = true)
    (a6 : PySem.W.nsIn K mainGlobals "is_exact" = some (some (.ref f6))) (l6 : K.lookup f6 = some ⟨oc6, od6, .func (PySem.W.fnOf "is_exact" "is_exact" (defArgs sIe) (defBody sIe) (defScope sIe) .none kV6 dc6 pm6 an6 cd6 ct6), sl6⟩) (c6 : PySem.W.codeIn K cd6 "is_exact" = true) (k6 : PySem.W.keepIn K (.ref f6) = true)
    (a7 : PySem.W.nsIn K mainGlobals "fitted_to" = some (some (.ref f7))) (l7 : K.lookup f7 = some ⟨oc7, od7, .func (PySem.W.fnOf "fitted_to" "fitted_to" (defArgs sFt) (defBody sFt) (defScope sFt) .none kV7 dc7 pm7 an7 cd7 ct7), sl7⟩) (c7 : PySem.W.codeIn K cd7 "fitted_to" = true) (k7 : PySem.W.keepIn K (.ref f7) = true)
    (a8 : PySem.W.nsIn K mainGlobals "first_holder" = some (some (.ref f8))) (l8 : K.lookup f8 = some ⟨oc8, od8, .func (PySem.W.fnOf "first_holder" "first_holder" (defArgs sFh) (defBody sFh) (defScope sFh) .none kV8 dc8 pm8 an8 cd8 ct8), sl8⟩) (c8 : PySem.W.codeIn K cd8 "first_holder" = true) (k8 : PySem.W.keepIn K (.ref f8) = true)
    (a9 : PySem.W.nsIn K mainGlobals "couple" = some (some (.ref f9))) (l9 : K.lookup f9 = some ⟨oc9, od9, .func (PySem.W.fnOf "couple" "couple" (defArgs sCo) (defBody sCo) (defScope sCo) .none kV9 dc9 pm9 an9 cd9 ct9), sl9⟩) (c9 : PySem.W.codeIn K cd9 "couple" = true) (k9 : PySem.W.keepIn K (.ref f9) = true)
    (a10 : PySem.W.nsIn K mainGlobals "check_couple" = some (some (.ref f10))) (l10 : K.lookup f10 = some ⟨oc10, od10, .func (PySem.W.fnOf "check_couple" "check_couple" (defArgs sCc) (defBody sCc) (defScope sCc) .none kV10 dc10 pm10 an10 cd10 ct10), sl10⟩) (c10 : PySem.W.codeIn K cd10 "check_couple" = true) (k10 : PySem.W.keepIn K (.ref f10) = true)
    (a11 : PySem.W.nsIn K mainGlobals "_law_box" = some (some (.ref f11))) (l11 : K.lookup f11 = some ⟨oc11, od11, .func (PySem.W.fnOf "_law_box" "_law_box" (defArgs sBx) (defBody sBx) (defScope sBx) .none kV11 dc11 pm11 an11 cd11 ct11), sl11⟩) (c11 : PySem.W.codeIn K cd11 "_law_box" = true) (k11 : PySem.W.keepIn K (.ref f11) = true)
    (a12 : PySem.W.nsIn K mainGlobals "_law_take" = some (some (.ref f12))) (l12 : K.lookup f12 = some ⟨oc12, od12, .func (PySem.W.fnOf "_law_take" "_law_take" (defArgs sTk) (defBody sTk) (defScope sTk) .none kV12 dc12 pm12 an12 cd12 ct12), sl12⟩) (c12 : PySem.W.codeIn K cd12 "_law_take" = true) (k12 : PySem.W.keepIn K (.ref f12) = true)
    (a13 : PySem.W.nsIn K mainGlobals "_law_pick" = some (some (.ref f13))) (l13 : K.lookup f13 = some ⟨oc13, od13, .func (PySem.W.fnOf "_law_pick" "_law_pick" (defArgs sPk) (defBody sPk) (defScope sPk) .none kV13 dc13 pm13 an13 cd13 ct13), sl13⟩) (c13 : PySem.W.codeIn K cd13 "_law_pick" = true) (k13 : PySem.W.keepIn K (.ref f13) = true)
    (a14 : PySem.W.nsIn K mainGlobals "_law_names" = some (some (.ref f14))) (l14 : K.lookup f14 = some ⟨oc14, od14, .func (PySem.W.fnOf "_law_names" "_law_names" (defArgs sNa) (defBody sNa) (defScope sNa) .none kV14 dc14 pm14 an14 cd14 ct14), sl14⟩) (c14 : PySem.W.codeIn K cd14 "_law_names" = true) (k14 : PySem.W.keepIn K (.ref f14) = true)
    (a15 : PySem.W.nsIn K mainGlobals "_law_within" = some (some (.ref f15))) (l15 : K.lookup f15 = some ⟨oc15, od15, .func (PySem.W.fnOf "_law_within" "_law_within" (defArgs sLi) (defBody sLi) (defScope sLi) .none kV15 dc15 pm15 an15 cd15 ct15), sl15⟩) (c15 : PySem.W.codeIn K cd15 "_law_within" = true) (k15 : PySem.W.keepIn K (.ref f15) = true)
    (a16 : PySem.W.nsIn K mainGlobals "_law_made" = some (some (.ref f16))) (l16 : K.lookup f16 = some ⟨oc16, od16, .func (PySem.W.fnOf "_law_made" "_law_made" (defArgs sLm) (defBody sLm) (defScope sLm) .none kV16 dc16 pm16 an16 cd16 ct16), sl16⟩) (c16 : PySem.W.codeIn K cd16 "_law_made" = true) (k16 : PySem.W.keepIn K (.ref f16) = true)
    (a17 : PySem.W.nsIn K mainGlobals "_law_making" = some (some (.ref f17))) (l17 : K.lookup f17 = some ⟨oc17, od17, .func (PySem.W.fnOf "_law_making" "_law_making" (defArgs sLk) (defBody sLk) (defScope sLk) .none kV17 dc17 pm17 an17 cd17 ct17), sl17⟩) (c17 : PySem.W.codeIn K cd17 "_law_making" = true) (k17 : PySem.W.keepIn K (.ref f17) = true)
    (a18 : PySem.W.nsIn K mainGlobals "_law_owned" = some (some (.ref f18))) (l18 : K.lookup f18 = some ⟨oc18, od18, .func (PySem.W.fnOf "_law_owned" "_law_owned" (defArgs sLo) (defBody sLo) (defScope sLo) .none kV18 dc18 pm18 an18 cd18 ct18), sl18⟩) (c18 : PySem.W.codeIn K cd18 "_law_owned" = true) (k18 : PySem.W.keepIn K (.ref f18) = true)
    (a19 : PySem.W.nsIn K mainGlobals "_law_first_holder" = some (some (.ref f19))) (l19 : K.lookup f19 = some ⟨oc19, od19, .func (PySem.W.fnOf "_law_first_holder" "_law_first_holder" (defArgs sLf) (defBody sLf) (defScope sLf) .none kV19 dc19 pm19 an19 cd19 ct19), sl19⟩) (c19 : PySem.W.codeIn K cd19 "_law_first_holder" = true) (k19 : PySem.W.keepIn K (.ref f19) = true)
    (a20 : PySem.W.nsIn K mainGlobals "_law_pair" = some (some (.ref f20))) (l20 : K.lookup f20 = some ⟨oc20, od20, .func (PySem.W.fnOf "_law_pair" "_law_pair" (defArgs sLp) (defBody sLp) (defScope sLp) .none kV20 dc20 pm20 an20 cd20 ct20), sl20⟩) (c20 : PySem.W.codeIn K cd20 "_law_pair" = true) (k20 : PySem.W.keepIn K (.ref f20) = true)
    (a21 : PySem.W.nsIn K mainGlobals "_law_making_right" = some (some (.ref f21))) (l21 : K.lookup f21 = some ⟨oc21, od21, .func (PySem.W.fnOf "_law_making_right" "_law_making_right" (defArgs sLr) (defBody sLr) (defScope sLr) .none kV21 dc21 pm21 an21 cd21 ct21), sl21⟩) (c21 : PySem.W.codeIn K cd21 "_law_making_right" = true) (k21 : PySem.W.keepIn K (.ref f21) = true)
    (a22 : PySem.W.nsIn K mainGlobals "law" = some (some (.ref f22))) (l22 : K.lookup f22 = some ⟨oc22, od22, .func (PySem.W.fnOf "law" "law" (defArgs sLw) (defBody sLw) (defScope sLw) .none kV22 dc22 pm22 an22 cd22 ct22), sl22⟩) (c22 : PySem.W.codeIn K cd22 "law" = true) (k22 : PySem.W.keepIn K (.ref f22) = true)
    (z1 : PySem.W.nsIn K mainGlobals "abs" = some none) (z2 : PySem.W.nsIn K mainGlobals "all" = some none) (z3 : PySem.W.nsIn K mainGlobals "any" = some none) (z4 : PySem.W.nsIn K mainGlobals "bool" = some none) (z5 : PySem.W.nsIn K mainGlobals "dict" = some none) (z6 : PySem.W.nsIn K mainGlobals "enumerate" = some none) (z7 : PySem.W.nsIn K mainGlobals "int" = some none) (z8 : PySem.W.nsIn K mainGlobals "isinstance" = some none) (z9 : PySem.W.nsIn K mainGlobals "len" = some none) (z10 : PySem.W.nsIn K mainGlobals "list" = some none) (z11 : PySem.W.nsIn K mainGlobals "min" = some none) (z12 : PySem.W.nsIn K mainGlobals "range" = some none) (z13 : PySem.W.nsIn K mainGlobals "set" = some none) (z14 : PySem.W.nsIn K mainGlobals "sorted" = some none) (z15 : PySem.W.nsIn K mainGlobals "tuple" = some none) :
    ∃ fd : FuncData, (∀ (s : Shared) (v : Value), BindsTo s fd ⟨[v], []⟩ [("_law_script", v)]) ∧ ∀ base : Heap, K.In base → base.Ns mainGlobals mg → FnOk l.prog w K mg base CX0 5 fa fd ["_law_script"] (spLaw K) := by
  have e := hfa.symm.trans (PySem.W.mg_of X G a22)
  cases e
  have T : Txt mg := ⟨PySem.W.mg_none_of X G z1, PySem.W.mg_none_of X G z2, PySem.W.mg_none_of X G z3, PySem.W.mg_none_of X G z4, PySem.W.mg_none_of X G z5, PySem.W.mg_none_of X G z6, PySem.W.mg_none_of X G z7, PySem.W.mg_none_of X G z8, PySem.W.mg_none_of X G z9, PySem.W.mg_none_of X G z10, PySem.W.mg_none_of X G z11, PySem.W.mg_none_of X G z12, PySem.W.mg_none_of X G z13, PySem.W.mg_none_of X G z14, PySem.W.mg_none_of X G z15⟩
  have F1 := fun_mk (st := sFf) l1 c1 k1
  have b1 := F1.binds (ps := ["u", "v"]) fun _ _ _ _ _ _ us hl => match us, hl with | [_, _], _ => rfl
  have h1 : Has K mg "first_fit" sFf ["u", "v"] f1 _ := ⟨F1, b1, PySem.W.mg_of X G a1⟩
  have F2 := fun_mk (st := sWi) l2 c2 k2
  have b2 := F2.binds (ps := ["u", "v"]) fun _ _ _ _ _ _ us hl => match us, hl with | [_, _], _ => rfl
  have h2 : Has K mg "within" sWi ["u", "v"] f2 _ := ⟨F2, b2, PySem.W.mg_of X G a2⟩
  have F3 := fun_mk (st := sRb) l3 c3 k3
  have b3 := F3.binds (ps := ["view", "row"]) fun _ _ _ _ _ _ us hl => match us, hl with | [_, _], _ => rfl
  have h3 : Has K mg "row_by" sRb ["view", "row"] f3 _ := ⟨F3, b3, PySem.W.mg_of X G a3⟩
  have F4 := fun_mk (st := sMr) l4 c4 k4
  have b4 := F4.binds (ps := ["making", "row"]) fun _ _ _ _ _ _ us hl => match us, hl with | [_, _], _ => rfl
  have h4 : Has K mg "made_row" sMr ["making", "row"] f4 _ := ⟨F4, b4, PySem.W.mg_of X G a4⟩
  have F5 := fun_mk (st := sOd) l5 c5 k5
  have b5 := F5.binds (ps := ["making"]) fun _ _ _ _ _ _ us hl => match us, hl with | [_], _ => rfl
  have h5 : Has K mg "own_deeds" sOd ["making"] f5 _ := ⟨F5, b5, PySem.W.mg_of X G a5⟩
  have F6 := fun_mk (st := sIe) l6 c6 k6
  have b6 := F6.binds (ps := ["making"]) fun _ _ _ _ _ _ us hl => match us, hl with | [_], _ => rfl
  have h6 : Has K mg "is_exact" sIe ["making"] f6 _ := ⟨F6, b6, PySem.W.mg_of X G a6⟩
  have F7 := fun_mk (st := sFt) l7 c7 k7
  have b7 := F7.binds (ps := ["row", "place", "shown"]) fun _ _ _ _ _ _ us hl => match us, hl with | [_, _, _], _ => rfl
  have h7 : Has K mg "fitted_to" sFt ["row", "place", "shown"] f7 _ := ⟨F7, b7, PySem.W.mg_of X G a7⟩
  have F8 := fun_mk (st := sFh) l8 c8 k8
  have b8 := F8.binds (ps := ["making", "row", "names"]) fun _ _ _ _ _ _ us hl => match us, hl with | [_, _, _], _ => rfl
  have h8 : Has K mg "first_holder" sFh ["making", "row", "names"] f8 _ := ⟨F8, b8, PySem.W.mg_of X G a8⟩
  have F9 := fun_mk (st := sCo) l9 c9 k9
  have b9 := F9.binds (ps := ["making"]) fun _ _ _ _ _ _ us hl => match us, hl with | [_], _ => rfl
  have h9 : Has K mg "couple" sCo ["making"] f9 _ := ⟨F9, b9, PySem.W.mg_of X G a9⟩
  have F10 := fun_mk (st := sCc) l10 c10 k10
  have b10 := F10.binds (ps := ["making", "u", "v"]) fun _ _ _ _ _ _ us hl => match us, hl with | [_, _, _], _ => rfl
  have h10 : Has K mg "check_couple" sCc ["making", "u", "v"] f10 _ := ⟨F10, b10, PySem.W.mg_of X G a10⟩
  have F11 := fun_mk (st := sBx) l11 c11 k11
  have b11 := F11.binds (ps := ["_law_script", "_law_k"]) fun _ _ _ _ _ _ us hl => match us, hl with | [_, _], _ => rfl
  have h11 : Has K mg "_law_box" sBx ["_law_script", "_law_k"] f11 _ := ⟨F11, b11, PySem.W.mg_of X G a11⟩
  have F12 := fun_mk (st := sTk) l12 c12 k12
  have b12 := F12.binds (ps := ["_law_box_here", "_law_many"]) fun _ _ _ _ _ _ us hl => match us, hl with | [_, _], _ => rfl
  have h12 : Has K mg "_law_take" sTk ["_law_box_here", "_law_many"] f12 _ := ⟨F12, b12, PySem.W.mg_of X G a12⟩
  have F13 := fun_mk (st := sPk) l13 c13 k13
  have b13 := F13.binds (ps := ["_law_box_here", "_law_some"]) fun _ _ _ _ _ _ us hl => match us, hl with | [_, _], _ => rfl
  have h13 : Has K mg "_law_pick" sPk ["_law_box_here", "_law_some"] f13 _ := ⟨F13, b13, PySem.W.mg_of X G a13⟩
  have F14 := fun_mk (st := sNa) l14 c14 k14
  have b14 := F14.binds (ps := ["_law_box_here", "_law_many"]) fun _ _ _ _ _ _ us hl => match us, hl with | [_, _], _ => rfl
  have h14 : Has K mg "_law_names" sNa ["_law_box_here", "_law_many"] f14 _ := ⟨F14, b14, PySem.W.mg_of X G a14⟩
  have F15 := fun_mk (st := sLi) l15 c15 k15
  have b15 := F15.binds (ps := ["_law_u", "_law_v"]) fun _ _ _ _ _ _ us hl => match us, hl with | [_, _], _ => rfl
  have h15 : Has K mg "_law_within" sLi ["_law_u", "_law_v"] f15 _ := ⟨F15, b15, PySem.W.mg_of X G a15⟩
  have F16 := fun_mk (st := sLm) l16 c16 k16
  have b16 := F16.binds (ps := ["_law_making_here", "_law_row"]) fun _ _ _ _ _ _ us hl => match us, hl with | [_, _], _ => rfl
  have h16 : Has K mg "_law_made" sLm ["_law_making_here", "_law_row"] f16 _ := ⟨F16, b16, PySem.W.mg_of X G a16⟩
  have F17 := fun_mk (st := sLk) l17 c17 k17
  have b17 := F17.binds (ps := ["_law_box_here", "_law_names_here", "_law_letters", "_law_most"]) fun _ _ _ _ _ _ us hl => match us, hl with | [_, _, _, _], _ => rfl
  have h17 : Has K mg "_law_making" sLk ["_law_box_here", "_law_names_here", "_law_letters", "_law_most"] f17 _ := ⟨F17, b17, PySem.W.mg_of X G a17⟩
  have F18 := fun_mk (st := sLo) l18 c18 k18
  have b18 := F18.binds (ps := ["_law_making_here"]) fun _ _ _ _ _ _ us hl => match us, hl with | [_], _ => rfl
  have h18 : Has K mg "_law_owned" sLo ["_law_making_here"] f18 _ := ⟨F18, b18, PySem.W.mg_of X G a18⟩
  have F19 := fun_mk (st := sLf) l19 c19 k19
  have b19 := F19.binds (ps := ["_law_making_here", "_law_row", "_law_names_here"]) fun _ _ _ _ _ _ us hl => match us, hl with | [_, _, _], _ => rfl
  have h19 : Has K mg "_law_first_holder" sLf ["_law_making_here", "_law_row", "_law_names_here"] f19 _ := ⟨F19, b19, PySem.W.mg_of X G a19⟩
  have F20 := fun_mk (st := sLp) l20 c20 k20
  have b20 := F20.binds (ps := ["_law_box_here", "_law_names_here"]) fun _ _ _ _ _ _ us hl => match us, hl with | [_, _], _ => rfl
  have h20 : Has K mg "_law_pair" sLp ["_law_box_here", "_law_names_here"] f20 _ := ⟨F20, b20, PySem.W.mg_of X G a20⟩
  have F21 := fun_mk (st := sLr) l21 c21 k21
  have b21 := F21.binds (ps := ["_law_box_here", "_law_making_here", "_law_names_here"]) fun _ _ _ _ _ _ us hl => match us, hl with | [_, _, _], _ => rfl
  have h21 : Has K mg "_law_making_right" sLr ["_law_box_here", "_law_making_here", "_law_names_here"] f21 _ := ⟨F21, b21, PySem.W.mg_of X G a21⟩
  have B5 : KBn K _ ["making"] 0 ["making"] (fun _ ws => ws.reverse) (fun _ zs => zs.reverse) := kbn_rev F5 fun _ _ _ _ _ _ us hl => match us, hl with | [_], _ => rfl
  have B6 : KBn K _ ["making"] 0 ["making"] (fun _ ws => ws.reverse) (fun _ zs => zs.reverse) := kbn_rev F6 fun _ _ _ _ _ _ us hl => match us, hl with | [_], _ => rfl
  have B9 : KBn K _ ["making"] 0 ["making"] (fun _ ws => ws.reverse) (fun _ zs => zs.reverse) := kbn_rev F9 fun _ _ _ _ _ _ us hl => match us, hl with | [_], _ => rfl
  have B4 : KBn K _ ["making", "row"] 0 ["row", "making"] (fun _ ws => ws.reverse) (fun _ zs => zs.reverse) := kbn_rev F4 fun _ _ _ _ _ _ us hl => match us, hl with | [_, _], _ => rfl
  have B10 : KBn K _ ["making", "u", "v"] 0 ["v", "u", "making"] (fun _ ws => ws.reverse) (fun _ zs => zs.reverse) := kbn_rev F10 fun _ _ _ _ _ _ us hl => match us, hl with | [_, _, _], _ => rfl
  exact ⟨PySem.W.fnOf "law" "law" (defArgs sLw) (defBody sLw) (defScope sLw) .none kV22 dc22 pm22 an22 cd22 ct22, fun s v => .of_eq rfl, fun base _ _ => ok_lw T (fun_mk (st := sLw) l22 c22 k22) h1 h2 h3 h4 h5 h6 h7 h8 h9 h10 h11 h12 h13 h14 h15 h16 h17 h18 h19 h20 h21 B5 B6 B9 B4 B10⟩
theorem walk {l : PySem.W.OpenLaw} {q : Program} {loose : List Str} {XP : (Str → Option Value) → Heap → Prop} {YP : World → Heap → Prop} {d : DefRec} {K : Params → PySem.W.Frag} (hn : l.most = some 63) (hdf : d.params.defaults = [])
    (hY : ∀ (w : World) (h : Heap), YP w h → (K w.params).In h)
    (F : ∀ (w : World) (mg : Str → Option Value) (fa : Addr) (h : Heap), (K w.params).In h → h.Ns mainGlobals mg → mg d.name = some (.ref fa) →
      ∃ fd : FuncData, (∀ (s : Shared) (u : Value), BindsTo s fd ⟨[u], []⟩ [("_law_script", u)]) ∧ ∀ base : Heap, (K w.params).In base → base.Ns mainGlobals mg → FnOk l.prog w (K w.params) mg base CX0 5 fa fd ["_law_script"] (spLaw (K w.params))) :
    PySem.W.WalkO q loose XP YP l.row.toRowW d [] (fun f vs => PySem.call f vs) :=
  L2.walk_of (n := 63) (k := 5) (x := "_law_script") (CX := fun _ => CX0) (sp := fun w => spLaw (K w.params)) hn (by decide) hdf ⟨rfl, by decide, by decide⟩ hY F (fun _ _ a ns hl _ hS => ⟨a, ns, rfl, hS, hl, fun _ => rfl⟩) fun _ _ _ _ _ z => z
end K83

open PySem PySem.W PyProof.Rows in
set_option maxRecDepth 100000 in
set_option maxHeartbeats 0 in
theorem PySem.Challenge.cw_stillowed_k83_exact_makings_holds : PySem.Challenge.rw_stillowed_k83_exact_makings.Holds := by
  w_on; o_law; k_head; (case hw => w_witness2)
  k_fill
  refine K83.walk (l := PySem.Challenge.rw_stillowed_k83_exact_makings) rfl rfl (fun w h Y => PySem.W.kIn_of Y) ?F
  case F =>
    intro w mg fa h KX G hmg
    refine' K83.tops KX G hmg ?a1 ?l1 ?c1 ?k1 ?a2 ?l2 ?c2 ?k2 ?a3 ?l3 ?c3 ?k3 ?a4 ?l4 ?c4 ?k4 ?a5 ?l5 ?c5 ?k5 ?a6 ?l6 ?c6 ?k6 ?a7 ?l7 ?c7 ?k7 ?a8 ?l8 ?c8 ?k8 ?a9 ?l9 ?c9 ?k9 ?a10 ?l10 ?c10 ?k10 ?a11 ?l11 ?c11 ?k11 ?a12 ?l12 ?c12 ?k12 ?a13 ?l13 ?c13 ?k13 ?a14 ?l14 ?c14 ?k14 ?a15 ?l15 ?c15 ?k15 ?a16 ?l16 ?c16 ?k16 ?a17 ?l17 ?c17 ?k17 ?a18 ?l18 ?c18 ?k18 ?a19 ?l19 ?c19 ?k19 ?a20 ?l20 ?c20 ?k20 ?a21 ?l21 ?c21 ?k21 ?a22 ?l22 ?c22 ?k22 ?z1 ?z2 ?z3 ?z4 ?z5 ?z6 ?z7 ?z8 ?z9 ?z10 ?z11 ?z12 ?z13 ?z14 ?z15
    (case a1 => k_is)
    (case l1 => k_is)
    (case c1 => k_is)
    (case k1 => k_is)
    (case a2 => k_is)
    (case l2 => k_is)
    (case c2 => k_is)
    (case k2 => k_is)
    (case a3 => k_is)
    (case l3 => k_is)
    (case c3 => k_is)
    (case k3 => k_is)
    (case a4 => k_is)
    (case l4 => k_is)
    (case c4 => k_is)
    (case k4 => k_is)
    (case a5 => k_is)
    (case l5 => k_is)
    (case c5 => k_is)
    (case k5 => k_is)
    (case a6 => k_is)
    (case l6 => k_is)
    (case c6 => k_is)
    (case k6 => k_is)
    (case a7 => k_is)
    (case l7 => k_is)
    (case c7 => k_is)
    (case k7 => k_is)
    (case a8 => k_is)
    (case l8 => k_is)
    (case c8 => k_is)
    (case k8 => k_is)
    (case a9 => k_is)
    (case l9 => k_is)
    (case c9 => k_is)
    (case k9 => k_is)
    (case a10 => k_is)
    (case l10 => k_is)
    (case c10 => k_is)
    (case k10 => k_is)
    (case a11 => k_is)
    (case l11 => k_is)
    (case c11 => k_is)
    (case k11 => k_is)
    (case a12 => k_is)
    (case l12 => k_is)
    (case c12 => k_is)
    (case k12 => k_is)
    (case a13 => k_is)
    (case l13 => k_is)
    (case c13 => k_is)
    (case k13 => k_is)
    (case a14 => k_is)
    (case l14 => k_is)
    (case c14 => k_is)
    (case k14 => k_is)
    (case a15 => k_is)
    (case l15 => k_is)
    (case c15 => k_is)
    (case k15 => k_is)
    (case a16 => k_is)
    (case l16 => k_is)
    (case c16 => k_is)
    (case k16 => k_is)
    (case a17 => k_is)
    (case l17 => k_is)
    (case c17 => k_is)
    (case k17 => k_is)
    (case a18 => k_is)
    (case l18 => k_is)
    (case c18 => k_is)
    (case k18 => k_is)
    (case a19 => k_is)
    (case l19 => k_is)
    (case c19 => k_is)
    (case k19 => k_is)
    (case a20 => k_is)
    (case l20 => k_is)
    (case c20 => k_is)
    (case k20 => k_is)
    (case a21 => k_is)
    (case l21 => k_is)
    (case c21 => k_is)
    (case k21 => k_is)
    (case a22 => k_is)
    (case l22 => k_is)
    (case c22 => k_is)
    (case k22 => k_is)
    (case z1 => k_is)
    (case z2 => k_is)
    (case z3 => k_is)
    (case z4 => k_is)
    (case z5 => k_is)
    (case z6 => k_is)
    (case z7 => k_is)
    (case z8 => k_is)
    (case z9 => k_is)
    (case z10 => k_is)
    (case z11 => k_is)
    (case z12 => k_is)
    (case z13 => k_is)
    (case z14 => k_is)
    (case z15 => k_is)
