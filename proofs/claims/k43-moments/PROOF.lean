import PyProof.Rows.All
import Wide.All
import OpenK.AllK
import Wide.FinOn
import HandS.ForMost
import HandS.Evl
import HandS.Zip
import HandS.TupAny
import HandS.Wide
import HandS.Walk
import HandS.Defaults
import HandS.IsInst
import KE.DataMinMax
import KE.GoesEnum
import HandS.Lambda
import HandS.SetFor
import HandS.SetTxt0
import HandS.SetTxtIn
import HandS.Strs
import PyProof.Rows.SortShellAny
import HandS.Finally
import HandS.More
import HandS.ForDict
import HandS.Small
import HandS.Iter
import HandS.Style
import HandS.TryOnly
import HandS.Text
import HandS.DictComp
import KE.DataFind
import KE.SortData
import HandS.TupSets
import KE.SortKeyHeap
import HandS.SortKw
import HandS.Conv
import HandS.TupLen
import KE.KDictSum
import HandS.Deep
import PyProof.ListIndex
import PySem.Challenge.RW_stillowed_k43_whole_prices_at_all_moment
set_option Elab.async false
set_option linter.all false
set_option maxRecDepth 100000
set_option maxHeartbeats 8000000
/-! A layer over HandS: expressions and statements by data, the heap hidden. -/
namespace FD
open PySem L2 Evl

/-! ### hidden objects -/
def isT : HO → Bool
  | .tup _ => true
  | _ => false
def isTo : Option HO → Bool
  | some o => isT o
  | none => false
/-- of the objects of M only the tuples are seen -/
def hide (M : List Addr) (H : Hp) : Hp := fun a => if a ∈ M ∧ isTo (H a) = false then none else H a
section
variable {M M' : List Addr} {H H' : Hp} {a : Addr} {o : HO}
theorem hide_in (h : a ∈ M) (t : isTo (H a) = false) : hide M H a = none := if_pos ⟨h, t⟩
theorem hide_out (h : a ∉ M) : hide M H a = H a := if_neg fun z => h z.1
theorem hide_mk (h : H a = some o) (hm : a ∈ M → isT o = true) : hide M H a = some o := by
  refine (if_neg fun z => ?_).trans h
  have := z.2
  rw [h] at this
  rw [show isTo (some o) = isT o from rfl, hm z.1] at this
  cases this
theorem hide_tup {xs : List V} (h : H a = some (.tup xs)) : hide M H a = some (.tup xs) := hide_mk h fun _ => rfl
theorem hide_some (h : hide M H a = some o) : (a ∈ M → isT o = true) ∧ H a = some o := by
  by_cases q : a ∈ M ∧ isTo (H a) = false
  · rw [show hide M H a = none from if_pos q] at h; cases h
  · have e : hide M H a = H a := if_neg q
    rw [e] at h
    refine ⟨fun z => ?_, h⟩
    cases t : isT o with
    | true => rfl
    | false => exact absurd ⟨z, by rw [h]; exact t⟩ q
theorem hide_ex (e : Ex H H') : Ex (hide M H) (hide M H') := fun a o h => by
  obtain ⟨q, h⟩ := hide_some h
  exact hide_mk (e a o h) q
theorem hide_le : Ex (hide M H) H := fun a o h => (hide_some h).2
theorem hide_sub (s : ∀ a ∈ M, a ∈ M') : Ex (hide M' H) (hide M H) := fun a o h => by
  obtain ⟨q, h⟩ := hide_some h
  exact hide_mk h fun z => q (s a z)
theorem hide_upd (h : a ∈ M) (t : isTo (H a) = false) (t' : isT o = false) : hide M (upd H a o) = hide M H := by
  funext b
  by_cases z : b = a
  · subst z
    rw [hide_in h t, hide_in h (by rw [upd_same]; exact t')]
  · by_cases q : b ∈ M ∧ isTo (H b) = false
    · rw [show hide M H b = none from if_pos q]
      refine if_pos ⟨q.1, ?_⟩
      rw [upd_ne z]; exact q.2
    · rw [show hide M H b = H b from if_neg q]
      refine (if_neg fun y => q ⟨y.1, ?_⟩).trans (upd_ne z)
      have := y.2
      rw [upd_ne z] at this
      exact this
end

end FD
namespace L2
open PySem
section
variable {K : PySem.W.Frag} {H : Hp}
theorem DpAll.length : ∀ {vs : List V} {ds : List PyData}, DpAll K H vs ds → vs.length = ds.length
  | _, _, .nil => rfl
  | _, _, .cons _ t => by rw [List.length_cons, List.length_cons, DpAll.length t]
theorem DpAll.get : ∀ {vs : List V} {ds : List PyData} {i : Nat} {d : PyData}, DpAll K H vs ds → ds[i]? = some d → ∃ v, vs[i]? = some v ∧ Dp K H v d
  | _, _, _, _, .nil, z => by simp at z
  | _, _, 0, _, .cons r0 _, z => by simp at z; subst z; exact ⟨_, rfl, r0⟩
  | _, _, i + 1, d, .cons _ t, e => by
    obtain ⟨u, h1, h2⟩ := DpAll.get (i := i) (d := d) t (by simpa using e)
    exact ⟨u, by simpa using h1, by exact h2⟩
end
end L2
namespace FD
open PySem L2 Evl
/-! ### data whose tuples the program made -/
mutual
inductive Dp (K : PySem.W.Frag) (H : Hp) : V → PyData → Prop
  | non : Dp K H .non .none
  | bl (b : Bool) : Dp K H (.bl b) (.bool b)
  | int (i : Int) : Dp K H (.int i) (.int i)
  | str (x : Str) : Dp K H (.str x) (.str x)
  | lst {a : Addr} {xs : List V} {ds : List PyData} : SqL K H a xs → DpAll K H xs ds → Dp K H (.ref a) (.list ds)
  | tup {a : Addr} {xs : List V} {ds : List PyData} : H a = some (.tup xs) → DpAll K H xs ds → Dp K H (.ref a) (.tuple ds)
inductive DpAll (K : PySem.W.Frag) (H : Hp) : List V → List PyData → Prop
  | nil : DpAll K H [] []
  | cons {v : V} {vs : List V} {d : PyData} {ds : List PyData} : Dp K H v d → DpAll K H vs ds → DpAll K H (v :: vs) (d :: ds)
end
mutual
theorem Dp.weak {K : PySem.W.Frag} {H : Hp} : ∀ (d : PyData) (v : V), Dp K H v d → L2.Dp K H v d
  | .none, _, h => by cases h; exact .non
  | .bool b, _, h => by cases h; exact .bl b
  | .int i, _, h => by cases h; exact .int i
  | .str x, _, h => by cases h; exact .str x
  | .list ds, _, h => by
    cases h with
    | lst hs ha => exact .lst hs (DpAll.weak ds _ ha)
  | .tuple ds, _, h => by
    cases h with
    | tup hs ha => exact .tup (st_of hs) (DpAll.weak ds _ ha)
  | .dict _, _, h => by cases h
theorem DpAll.weak {K : PySem.W.Frag} {H : Hp} : ∀ (ds : List PyData) (vs : List V), DpAll K H vs ds → L2.DpAll K H vs ds
  | [], _, h => by cases h; exact .nil
  | d :: ds, _, h => by
    cases h with
    | cons h1 h2 => exact .cons (Dp.weak d _ h1) (DpAll.weak ds _ h2)
end
theorem Dp.w {K : PySem.W.Frag} {H : Hp} {d : PyData} {v : V} (h : Dp K H v d) : L2.Dp K H v d := Dp.weak d v h
theorem DpAll.w {K : PySem.W.Frag} {H : Hp} {d : List PyData} {v : List V} (h : DpAll K H v d) : L2.DpAll K H v d := DpAll.weak d v h
mutual
theorem dp_mono {K : PySem.W.Frag} {H H' : Hp} (e : Ex H H') : ∀ (d : PyData) (v : V), Dp K H v d → Dp K H' v d
  | .none, _, h => by cases h; exact .non
  | .bool b, _, h => by cases h; exact .bl b
  | .int i, _, h => by cases h; exact .int i
  | .str x, _, h => by cases h; exact .str x
  | .list ds, _, h => by
    cases h with
    | lst hs ha => exact .lst (ex_l e hs) (dpAll_mono e ds _ ha)
  | .tuple ds, _, h => by
    cases h with
    | tup hs ha => exact .tup (e _ _ hs) (dpAll_mono e ds _ ha)
  | .dict _, _, h => by cases h
theorem dpAll_mono {K : PySem.W.Frag} {H H' : Hp} (e : Ex H H') : ∀ (ds : List PyData) (vs : List V), DpAll K H vs ds → DpAll K H' vs ds
  | [], _, h => by cases h; exact .nil
  | d :: ds, _, h => by
    cases h with
    | cons h1 h2 => exact .cons (dp_mono e d _ h1) (dpAll_mono e ds _ h2)
end
section
variable {K : PySem.W.Frag} {H : Hp}
theorem DpAll.length : ∀ {vs : List V} {ds : List PyData}, DpAll K H vs ds → vs.length = ds.length
  | _, _, .nil => rfl
  | _, _, .cons _ t => by rw [List.length_cons, List.length_cons, DpAll.length t]
theorem DpAll.get : ∀ {vs : List V} {ds : List PyData} {i : Nat} {d : PyData}, DpAll K H vs ds → ds[i]? = some d → ∃ v, vs[i]? = some v ∧ Dp K H v d
  | _, _, _, _, .nil, z => by simp at z
  | _, _, 0, _, .cons r0 _, z => by simp at z; subst z; exact ⟨_, rfl, r0⟩
  | _, _, i + 1, d, .cons _ t, e => by
    obtain ⟨u, h1, h2⟩ := DpAll.get (i := i) (d := d) t (by simpa using e)
    exact ⟨u, by simpa using h1, by exact h2⟩
theorem DpAll.append : ∀ {vs ws : List V} {ds es : List PyData}, DpAll K H vs ds → DpAll K H ws es → DpAll K H (vs ++ ws) (ds ++ es)
  | _, _, _, _, .nil, s => s
  | _, _, _, _, .cons r t, s => .cons r (DpAll.append t s)
theorem DpAll.take : ∀ {vs : List V} {ds : List PyData} (n : Nat), DpAll K H vs ds → DpAll K H (vs.take n) (ds.take n)
  | _, _, 0, _ => by rw [List.take_zero, List.take_zero]; exact .nil
  | _, _, _ + 1, .nil => .nil
  | _, _, n + 1, .cons r t => by rw [List.take_succ_cons, List.take_succ_cons]; exact .cons r (DpAll.take n t)
theorem DpAll.drop : ∀ {vs : List V} {ds : List PyData} (n : Nat), DpAll K H vs ds → DpAll K H (vs.drop n) (ds.drop n)
  | _, _, 0, r => r
  | _, _, _ + 1, .nil => .nil
  | _, _, n + 1, .cons _ t => by rw [List.drop_succ_cons, List.drop_succ_cons]; exact DpAll.drop n t
theorem DpAll.set : ∀ {vs : List V} {ds : List PyData} {v : V} {d : PyData} (n : Nat), DpAll K H vs ds → Dp K H v d → DpAll K H (vs.set n v) (ds.set n d)
  | _, _, _, _, _, .nil, _ => .nil
  | _, _, _, _, 0, .cons _ t, q => .cons q t
  | _, _, _, _, n + 1, .cons r t, q => .cons r (DpAll.set n t q)
theorem DpAll.ints : ∀ {vs : List V} {ns : List Int}, DpAll K H vs (ns.map PyData.int) → vs = ns.map V.int
  | _, [], h => by cases h; rfl
  | _, n :: ns, h => by
    cases h with
    | cons h1 h2 =>
      cases h1
      rw [DpAll.ints h2]
      rfl
theorem DpAll.of_ints (ns : List Int) : DpAll K H (ns.map V.int) (ns.map PyData.int) := by
  induction ns with
  | nil => exact .nil
  | cons n ns ih => exact .cons (.int n) ih
theorem Dp.int_of {v : V} {i : Int} (h : Dp K H v (.int i)) : v = .int i := by cases h; rfl
theorem Dp.bool_of {v : V} {i : Bool} (h : Dp K H v (.bool i)) : v = .bl i := by cases h; rfl
theorem Dp.str_of {v : V} {i : Str} (h : Dp K H v (.str i)) : v = .str i := by cases h; rfl
theorem Dp.none_of {v : V} (h : Dp K H v .none) : v = .non := by cases h; rfl
theorem Dp.tupH_of {v : V} {ds : List PyData} (h : Dp K H v (.tuple ds)) : ∃ a vs, v = .ref a ∧ H a = some (.tup vs) ∧ DpAll K H vs ds := by
  cases h with
  | tup hs ha => exact ⟨_, _, rfl, hs, ha⟩
theorem Dp.tup_of {v : V} {ds : List PyData} (h : Dp K H v (.tuple ds)) : ∃ a vs, v = .ref a ∧ SqT K H a vs ∧ DpAll K H vs ds := by
  cases h with
  | tup hs ha => exact ⟨_, _, rfl, st_of hs, ha⟩
theorem Dp.lst_of {v : V} {ds : List PyData} (h : Dp K H v (.list ds)) : ∃ a vs, v = .ref a ∧ SqL K H a vs ∧ DpAll K H vs ds := by
  cases h with
  | lst hs ha => exact ⟨_, _, rfl, hs, ha⟩
end


/-! ### the state of a body: its slots by data, its own lists by address -/
/-- what is true of a value, and stays true -/
structure GP where
  p : PySem.W.Frag → Hp → V → Prop
  mono : ∀ (K : PySem.W.Frag) (H H' : Hp) (v : V), Ex H H' → p K H v → p K H' v
def gD (d : PyData) : GP := ⟨fun K H v => Dp K H v d, fun _ _ _ v x h => dp_mono x d v h⟩
def gRef (b : Addr) : GP := ⟨fun _ _ v => v = .ref b, fun _ _ _ _ _ h => h⟩
inductive MO where
  | lst (ds : List PyData)
  | dK (kvs : List (Key × PyData))
  /-- the dict while something walks it -/
  | fz (od : Obj) (ws : List (Key × V)) (kvs : List (Key × PyData))
  /-- a dict whose keys are tuples; while something walks it -/
  | dT (kvs : List (List Key × GP))
  | fT (od : Obj) (ws : List (List Key × V)) (kvs : List (List Key × GP))
  /-- an own instance -/
  | ins (C : Addr) (fs : List (Str × GP))
  /-- a list of any values -/
  | gl (φs : List GP)
inductive Ent where
  | d (d : PyData)
  | m (a : Addr)
  /-- a list that the program made -/
  | l (ds : List PyData)
  | g (φ : GP)
  | u
abbrev Mem := List (Addr × MO)
structure Cfg where
  K : PySem.W.Frag
  M0 : List Addr
  G : Hp
  B : Hp
/-- a value of a dict -/
abbrev DvOk (K : PySem.W.Frag) (Hh : Hp) (v : V) (d : PyData) : Prop := Dp K Hh v d
theorem DvOk.mono {K : PySem.W.Frag} {H H' : Hp} {v : V} {d : PyData} (x : Ex H H') (h : DvOk K H v d) : DvOk K H' v d := dp_mono x d v h
abbrev GtOk (K : PySem.W.Frag) (Hh : Hp) (ws : List (List Key × V)) (kvs : List (List Key × GP)) : Prop := Paired (fun (p : List Key × V) (q : List Key × GP) => p.1 = q.1 ∧ q.2.p K Hh p.2) ws kvs
def MOok (K : PySem.W.Frag) (Hh H : Hp) (a : Addr) : MO → Prop
  | .lst ds => ∃ vs, H a = some (.lst vs) ∧ DpAll K Hh vs ds
  | .dK kvs => ∃ ws, H a = some (.dK ws) ∧ Paired (fun (p : Key × V) (q : Key × PyData) => p.1 = q.1 ∧ DvOk K Hh p.2 q.2) ws kvs
  | .fz od ws kvs => H a = some (.frz od (.dK ws)) ∧ Paired (fun (p : Key × V) (q : Key × PyData) => p.1 = q.1 ∧ DvOk K Hh p.2 q.2) ws kvs
  | .dT kvs => ∃ ws, H a = some (.dT ws) ∧ GtOk K Hh ws kvs
  | .fT od ws kvs => H a = some (.frz od (.dT ws)) ∧ GtOk K Hh ws kvs
  | .ins C fs => ∃ dx ws, H a = some (.ins C dx ws) ∧ Paired (fun (p : Str × V) (q : Str × GP) => p.1 = q.1 ∧ q.2.p K Hh p.2) ws fs
  | .gl φs => ∃ vs, H a = some (.lst vs) ∧ Paired (fun (v : V) (φ : GP) => φ.p K Hh v) vs φs
def EntOk (K : PySem.W.Frag) (Hh : Hp) : Ent → V → Prop
  | .d d, v => Dp K Hh v d
  | .m a, v => v = .ref a
  | .l ds, v => ∃ a vs, v = .ref a ∧ Hh a = some (.lst vs) ∧ DpAll K Hh vs ds
  | .g φ, v => φ.p K Hh v
  | .u, _ => True
theorem EntOk.mono {K : PySem.W.Frag} {H H' : Hp} {e : Ent} {v : V} (x : Ex H H') (h : EntOk K H e v) : EntOk K H' e v := by
  cases e with
  | d d => exact dp_mono x d v h
  | m a => exact h
  | l ds => obtain ⟨a, vs, e1, e2, e3⟩ := h; exact ⟨a, vs, e1, x a _ e2, dpAll_mono x _ _ e3⟩
  | g φ => exact φ.mono _ _ _ _ x h
  | u => trivial
theorem MOok.there {K : PySem.W.Frag} {Hh H : Hp} {a : Addr} {m : MO} (h : MOok K Hh H a m) : H a ≠ none := by
  cases m with
  | lst ds => obtain ⟨_, e, _⟩ := h; rw [e]; exact fun z => nomatch z
  | dK ds => obtain ⟨_, e, _⟩ := h; rw [e]; exact fun z => nomatch z
  | fz _ _ _ => obtain ⟨e, _⟩ := h; rw [e]; exact fun z => nomatch z
  | dT _ => obtain ⟨_, e, _⟩ := h; rw [e]; exact fun z => nomatch z
  | fT _ _ _ => obtain ⟨e, _⟩ := h; rw [e]; exact fun z => nomatch z
  | ins _ _ => obtain ⟨_, _, e, _⟩ := h; rw [e]; exact fun z => nomatch z
  | gl _ => obtain ⟨_, e, _⟩ := h; rw [e]; exact fun z => nomatch z
theorem MOok.nt {K : PySem.W.Frag} {Hh H : Hp} {a : Addr} {m : MO} (h : MOok K Hh H a m) : isTo (H a) = false := by
  cases m with
  | lst ds => obtain ⟨_, e, _⟩ := h; rw [e]; rfl
  | dK ds => obtain ⟨_, e, _⟩ := h; rw [e]; rfl
  | fz _ _ _ => obtain ⟨e, _⟩ := h; rw [e]; rfl
  | dT _ => obtain ⟨_, e, _⟩ := h; rw [e]; rfl
  | fT _ _ _ => obtain ⟨e, _⟩ := h; rw [e]; rfl
  | ins _ _ => obtain ⟨_, _, e, _⟩ := h; rw [e]; rfl
  | gl _ => obtain ⟨_, e, _⟩ := h; rw [e]; rfl
theorem gt_mono {K : PySem.W.Frag} {H H' : Hp} (x : Ex H H') {ws : List (List Key × V)} {kvs : List (List Key × GP)} (h : GtOk K H ws kvs) : GtOk K H' ws kvs := Paired.mapP h fun _ q z => ⟨z.1, q.2.mono _ _ _ _ x z.2⟩
theorem MOok.mono {K : PySem.W.Frag} {Hh Hh' H H' : Hp} {a : Addr} {m : MO} (x : Ex Hh Hh') (e : ∀ o, H a = some o → H' a = some o) (h : MOok K Hh H a m) : MOok K Hh' H' a m := by
  cases m with
  | lst ds => obtain ⟨vs, e1, q⟩ := h; exact ⟨vs, e _ e1, dpAll_mono x _ _ q⟩
  | dK ds => obtain ⟨vs, e1, q⟩ := h; exact ⟨vs, e _ e1, Paired.mapP q fun p q z => ⟨z.1, z.2.mono x⟩⟩
  | fz _ _ _ => obtain ⟨e1, q⟩ := h; exact ⟨e _ e1, Paired.mapP q fun p q z => ⟨z.1, z.2.mono x⟩⟩
  | dT _ => obtain ⟨vs, e1, q⟩ := h; exact ⟨vs, e _ e1, gt_mono x q⟩
  | fT _ _ _ => obtain ⟨e1, q⟩ := h; exact ⟨e _ e1, gt_mono x q⟩
  | ins _ _ => obtain ⟨dx, vs, e1, q⟩ := h; exact ⟨dx, vs, e _ e1, Paired.mapP q fun _ q z => ⟨z.1, q.2.mono _ _ _ _ x z.2⟩⟩
  | gl _ => obtain ⟨vs, e1, q⟩ := h; exact ⟨vs, e _ e1, Paired.mapP q fun _ q z => q.mono _ _ _ _ x z⟩
end FD
namespace FD
open PySem L2 Evl

structure Ok (C : Cfg) (M : List Addr) (δ : List Ent) (μ : Mem) (σ : L2.St) (H : Hp) : Prop where
  len : σ.length = δ.length
  slot : ∀ (i : Nat) (e : Ent), δ[i]? = some e → e ≠ .u → ∃ v, σ[i]? = some (some v) ∧ EntOk C.K (hide M H) e v
  mem : ∀ p ∈ μ, p.1 ∈ M ∧ C.G p.1 = none ∧ MOok C.K (hide M H) H p.1 p.2
  nd : (μ.map (·.1)).Nodup
  alloc : ∀ a ∈ M, H a ≠ none
  sub : ∀ a ∈ C.M0, a ∈ M
  gr : Ex C.G H
  base : Ex C.B (hide M H)

section
variable {C : Cfg} {M M' : List Addr} {δ δ' δ1 δ2 : List Ent} {μ μ' μ1 μ2 μ3 : Mem} {σ σ' σ1 σ2 : L2.St} {H H' : Hp}
theorem Ok.fresh (o : Ok C M δ μ σ H) {p : Addr} (h : H p = none) : p ∉ M := fun z => o.alloc p z h
/-- the heap grows -/
theorem Ok.grow (o : Ok C M δ μ σ H) (e : Ex H H') : Ok C M δ μ σ H' where
  len := o.len
  slot := fun i x h1 h2 => let ⟨v, a, b⟩ := o.slot i x h1 h2; ⟨v, a, b.mono (hide_ex e)⟩
  mem := fun p hp => let ⟨a, b, c⟩ := o.mem p hp; ⟨a, b, c.mono (hide_ex e) fun u q => e _ u q⟩
  nd := o.nd
  alloc := fun a ha => by
    cases q : H a with
    | none => exact absurd q (o.alloc a ha)
    | some u => rw [e a u q]; exact fun z => nomatch z
  sub := o.sub
  gr := o.gr.trans e
  base := o.base.trans (hide_ex e)
/-- the slots of one state, the lists of a later one -/
theorem Ok.swap (o : Ok C M δ1 μ1 σ1 H) (p : Ok C M δ2 μ2 σ2 H') (e : Ex (hide M H) (hide M H')) : Ok C M δ1 μ2 σ1 H' where
  len := o.len
  slot := fun i x h1 h2 => let ⟨v, a, b⟩ := o.slot i x h1 h2; ⟨v, a, b.mono e⟩
  mem := p.mem
  nd := p.nd
  alloc := p.alloc
  sub := p.sub
  gr := p.gr
  base := p.base
theorem Ok.reB {B : Hp} (o : Ok { C with B := B } M δ μ σ H) (h : Ex C.B B) : Ok C M δ μ σ H where
  len := o.len
  slot := o.slot
  mem := o.mem
  nd := o.nd
  alloc := o.alloc
  sub := o.sub
  gr := o.gr
  base := h.trans o.base
theorem Ok.toB (o : Ok C M δ μ σ H) : Ok { C with B := hide M H } M δ μ σ H where
  len := o.len
  slot := o.slot
  mem := o.mem
  nd := o.nd
  alloc := o.alloc
  sub := o.sub
  gr := o.gr
  base := Ex.refl _
theorem Ok.inB {B : Hp} (o : Ok C M δ μ σ H) (h : Ex B (hide M H)) : Ok { C with B := B } M δ μ σ H where
  len := o.len
  slot := o.slot
  mem := o.mem
  nd := o.nd
  alloc := o.alloc
  sub := o.sub
  gr := o.gr
  base := h
/-- a slot is stored -/
theorem Ok.set (o : Ok C M δ μ σ H) (i : Nat) {e : Ent} {v : V} (r : EntOk C.K (hide M H) e v) : Ok C M (δ.set i e) μ (σ.set i (some v)) H where
  len := by rw [List.length_set, List.length_set]; exact o.len
  slot := fun j x h1 h2 => by
    by_cases q : i = j
    · subst q
      have hl : i < δ.length := by
        have := (List.getElem?_eq_some_iff.mp h1).1
        rw [List.length_set] at this; exact this
      rw [List.getElem?_set_self hl] at h1
      cases h1
      exact ⟨v, by rw [List.getElem?_set_self (by rw [o.len]; exact hl)], r⟩
    · rw [List.getElem?_set_ne q] at h1
      obtain ⟨w, a, b⟩ := o.slot j x h1 h2
      exact ⟨w, by rw [List.getElem?_set_ne q]; exact a, b⟩
  mem := o.mem
  nd := o.nd
  alloc := o.alloc
  sub := o.sub
  gr := o.gr
  base := o.base
/-- slots forgotten -/
theorem Ok.weak (o : Ok C M δ μ σ H) (hl : σ'.length = δ'.length) (h : ∀ (i : Nat) (e : Ent), δ'[i]? = some e → e ≠ .u → δ[i]? = some e ∧ σ'[i]? = σ[i]?) : Ok C M δ' μ σ' H where
  len := hl
  slot := fun i e h1 h2 => by
    obtain ⟨a, b⟩ := h i e h1 h2
    obtain ⟨v, c, d⟩ := o.slot i e a h2
    exact ⟨v, b.trans c, d⟩
  mem := o.mem
  nd := o.nd
  alloc := o.alloc
  sub := o.sub
  gr := o.gr
  base := o.base
/-- hidden objects dropped -/
theorem Ok.drop (o : Ok C M' δ μ σ H) (s : ∀ a ∈ M, a ∈ M') (h : ∀ p ∈ μ, p.1 ∈ M) (h0 : ∀ a ∈ C.M0, a ∈ M) : Ok C M δ μ σ H where
  len := o.len
  slot := fun i x h1 h2 => let ⟨v, a, b⟩ := o.slot i x h1 h2; ⟨v, a, b.mono (hide_sub s)⟩
  mem := fun p hp => let ⟨_, b, c⟩ := o.mem p hp; ⟨h p hp, b, c.mono (hide_sub s) fun _ q => q⟩
  nd := o.nd
  alloc := fun a ha => o.alloc a (s a ha)
  sub := h0
  gr := o.gr
  base := o.base.trans (hide_sub s)
/-- some of the lists are no longer spoken of -/
theorem Ok.mems (o : Ok C M δ μ σ H) (h : ∀ p ∈ μ', p ∈ μ) (nd : (μ'.map (·.1)).Nodup) : Ok C M δ μ' σ H where
  len := o.len
  slot := o.slot
  mem := fun p hp => o.mem p (h p hp)
  nd := nd
  alloc := o.alloc
  sub := o.sub
  gr := o.gr
  base := o.base
theorem nodup_fst {α β : Type} {l : List (α × β)} (hN : (l.map (·.1)).Nodup) {i j : Nat} {a : α} {x y : β} (h1 : l[i]? = some (a, x)) (h2 : l[j]? = some (a, y)) : i = j := by
  have e1 : (l.map (·.1))[i]? = some a := by rw [List.getElem?_map, h1]; rfl
  have e2 : (l.map (·.1))[j]? = some a := by rw [List.getElem?_map, h2]; rfl
  exact L2.nd_ix hN e1 e2
theorem map_set_fst {α β : Type} {l : List (α × β)} {j : Nat} {a : α} {x y : β} (h : l[j]? = some (a, x)) : (l.set j (a, y)).map (·.1) = l.map (·.1) := by
  rw [List.map_set]
  refine List.ext_getElem? fun k => ?_
  by_cases q : j = k
  · subst q
    have hl := (List.getElem?_eq_some_iff.mp h).1
    rw [List.getElem?_set_self (by rw [List.length_map]; exact hl), List.getElem?_map, h]; rfl
  · rw [List.getElem?_set_ne q]
/-- one of the lists is written -/
theorem Ok.write (o : Ok C M δ μ σ H) {j : Nat} {a : Addr} {mo mo' : MO} {ho : HO} (h : μ[j]? = some (a, mo)) (hn : MOok C.K (hide M H) (upd H a ho) a mo') : Ok C M δ (μ.set j (a, mo')) σ (upd H a ho) where
  len := o.len
  slot := fun i x h1 h2 => by
    rw [hide_upd (o.mem _ (List.mem_of_getElem? h)).1 (o.mem _ (List.mem_of_getElem? h)).2.2.nt (by have := hn.nt; rw [upd_same] at this; exact this)]; exact o.slot i x h1 h2
  mem := fun p hp => by
    have ha := o.mem _ (List.mem_of_getElem? h)
    rw [hide_upd ha.1 ha.2.2.nt (by have := hn.nt; rw [upd_same] at this; exact this)]
    obtain ⟨k, hk⟩ := List.getElem?_of_mem hp
    by_cases q : j = k
    · subst q
      rw [List.getElem?_set_self (List.getElem?_eq_some_iff.mp h).1] at hk
      cases hk
      exact ⟨ha.1, ha.2.1, hn⟩
    · rw [List.getElem?_set_ne q] at hk
      obtain ⟨b1, b2, b3⟩ := o.mem p (List.mem_of_getElem? hk)
      refine ⟨b1, b2, b3.mono (Ex.refl _) fun u e => ?_⟩
      rw [upd_ne (fun z => ?_)]
      · exact e
      · have : (p.1, p.2) = p := rfl
        rw [← this, z] at hk
        exact q (nodup_fst o.nd h hk)
  nd := by rw [map_set_fst h]; exact o.nd
  alloc := fun b hb => by
    by_cases q : b = a
    · subst q; rw [upd_same]; exact fun z => nomatch z
    · rw [upd_ne q]; exact o.alloc b hb
  sub := o.sub
  gr := Ex.mut o.gr (o.mem _ (List.mem_of_getElem? h)).2.1
  base := by rw [hide_upd (o.mem _ (List.mem_of_getElem? h)).1 (o.mem _ (List.mem_of_getElem? h)).2.2.nt (by have := hn.nt; rw [upd_same] at this; exact this)]; exact o.base
theorem hide_new {p : Addr} {o : HO} (h : H p = none) : Ex (hide M H) (hide (p :: M) (upd H p o)) := fun a u e => by
  obtain ⟨q, e⟩ := hide_some e
  have ne : a ≠ p := ne_of_none e h
  exact hide_mk (by rw [upd_ne ne]; exact e) fun z => (List.mem_cons.mp z).elim (fun y => absurd y ne) q
/-- a new list of one's own -/
theorem Ok.new (o : Ok C M δ μ σ H) {p : Addr} {mo : MO} {ho : HO} (h : H p = none) (hn : MOok C.K (hide (p :: M) (upd H p ho)) (upd H p ho) p mo) : Ok C (p :: M) δ ((p, mo) :: μ) σ (upd H p ho) where
  len := o.len
  slot := fun i x h1 h2 => let ⟨v, a, b⟩ := o.slot i x h1 h2; ⟨v, a, b.mono (hide_new h)⟩
  mem := fun q hq => by
    rcases List.mem_cons.mp hq with e | hq
    · subst e
      refine ⟨List.mem_cons_self, ?_, hn⟩
      cases z : C.G p with
      | none => rfl
      | some u => have := o.gr p u z; rw [h] at this; cases this
    · obtain ⟨b1, b2, b3⟩ := o.mem q hq
      refine ⟨List.mem_cons_of_mem _ b1, b2, b3.mono (hide_new h) fun u e => ?_⟩
      rw [upd_ne (ne_of_none e h)]; exact e
  nd := by
    rw [List.map_cons, List.nodup_cons]
    refine ⟨fun z => ?_, o.nd⟩
    obtain ⟨q, hq, e⟩ := List.mem_map.mp z
    have := (o.mem q hq).2.2.there
    rw [show q.1 = p from e] at this
    exact this h
  alloc := fun b hb => by
    rcases List.mem_cons.mp hb with e | hb
    · subst e; rw [upd_same]; exact fun z => nomatch z
    · have ne : b ≠ p := fun z => o.alloc b hb (z ▸ h)
      rw [upd_ne ne]; exact o.alloc b hb
  sub := fun a ha => List.mem_cons_of_mem _ (o.sub a ha)
  gr := o.gr.trans (Ex.new h)
  base := o.base.trans (hide_new h)
end

/-! ### judgements -/
def EvX (C : Cfg) (te : TE) (M : List Addr) (δ : List Ent) (μ μ' : Mem) (e : Ent) : Prop := ∀ σ H, Ok C M δ μ σ H → ∀ Q : VK, (∀ v H', Ok C M δ μ' σ H' → Ex (hide M H) (hide M H') → EntOk C.K (hide M H') e v → Q v H') → te σ H Q
def EvT (C : Cfg) (tt : TT) (M : List Addr) (δ : List Ent) (μ μ' : Mem) (b : Bool) : Prop := ∀ σ H, Ok C M δ μ σ H → ∀ Q : Bool → Hp → Prop, (∀ H', Ok C M δ μ' σ H' → Ex (hide M H) (hide M H') → Q b H') → tt σ H Q
def EvA (C : Cfg) (ta : TA) (M : List Addr) (δ : List Ent) (μ μ' : Mem) (es : List Ent) : Prop := ∀ σ H, Ok C M δ μ σ H → ∀ Q : List V → Hp → Prop, (∀ vs H', Ok C M δ μ' σ H' → Ex (hide M H) (hide M H') → Paired (EntOk C.K (hide M H')) es vs → Q vs H') → ta σ H Q
def EvO (C : Cfg) (to : TO) (M : List Addr) (δ : List Ent) (μ μ' : Mem) (o : Option Int) : Prop := ∀ σ H, Ok C M δ μ σ H → ∀ Q : Option Int → Hp → Prop, (∀ H', Ok C M δ μ' σ H' → Ex (hide M H) (hide M H') → Q o H') → to σ H Q
def OpX (C : Cfg) (r : R2) (M : List Addr) (δ : List Ent) (μ μ' : Mem) (e1 e2 e3 : Ent) : Prop := ∀ σ H x y, Ok C M δ μ σ H → EntOk C.K (hide M H) e1 x → EntOk C.K (hide M H) e2 y → ∀ Q : VK, (∀ v H', Ok C M δ μ' σ H' → Ex (hide M H) (hide M H') → EntOk C.K (hide M H') e3 v → Q v H') → r x y H Q
def CallX (C : Cfg) (r : List V → Hp → VK → Prop) (M : List Addr) (δ : List Ent) (μ μ' : Mem) (es : List Ent) (e : Ent) : Prop := ∀ σ H vs, Ok C M δ μ σ H → Paired (EntOk C.K (hide M H)) es vs → ∀ Q : VK, (∀ v H', Ok C M δ μ' σ H' → Ex (hide M H) (hide M H') → EntOk C.K (hide M H') e v → Q v H') → r vs H Q
/-- what an entry reads as just now -/
inductive Rdd (μ : Mem) : Ent → PyData → Prop
  | d (d : PyData) : Rdd μ (.d d) d
  | m {j : Nat} {a : Addr} {ds : List PyData} : μ[j]? = some (a, .lst ds) → Rdd μ (.m a) (.list ds)
section
variable {C : Cfg} {M M' : List Addr} {δ δ' δ1 δ2 : List Ent} {μ μ' μ1 μ2 μ3 : Mem} {σ σ' σ1 σ2 : L2.St} {H H' : Hp} {e e1 e2 e3 : Ent} {ta tb te tc : TE} {t u : TT}
theorem Rdd.dp {x : PyData} (r : Rdd μ e x) (o : Ok C M δ μ σ H) {v : V} (h : EntOk C.K (hide M H) e v) : Dp C.K H v x := by
  cases r with
  | d _ => exact dp_mono hide_le x v h
  | m hj =>
    have h' : v = _ := h
    subst h'
    obtain ⟨_, _, vs, e1, q⟩ := o.mem _ (List.mem_of_getElem? hj)
    exact .lst (SqL.of e1) (dpAll_mono hide_le _ _ q)
/-- .. as a list or tuple whose items are data -/
theorem Rdd.lst {ds : List PyData} (r : Rdd μ e (.list ds)) (o : Ok C M δ μ σ H) {v : V} (h : EntOk C.K (hide M H) e v) : ∃ a vs, v = .ref a ∧ SqL C.K H a vs ∧ DpAll C.K (hide M H) vs ds := by
  cases r with
  | d _ =>
    obtain ⟨a, vs, e1, e2, e3⟩ := Dp.lst_of h
    exact ⟨a, vs, e1, ex_l hide_le e2, e3⟩
  | m hj =>
    have h' : v = _ := h
    obtain ⟨_, _, vs, e1, q⟩ := o.mem _ (List.mem_of_getElem? hj)
    exact ⟨_, vs, h', SqL.of e1, q⟩
theorem x_is (h : EvX C te M δ μ μ' e) (q : e = e1) : EvX C te M δ μ μ' e1 := by rw [← q]; exact h
theorem x_var {i : Nat} (h : δ[i]? = some e) (hu : e ≠ .u) : EvX C (tVar i) M δ μ μ e := fun σ H o Q k =>
  let ⟨v, a, b⟩ := o.slot i e h hu
  ⟨v, a, k v H o (Ex.refl _) b⟩
theorem x_vd {i : Nat} {d : PyData} (h : δ[i]? = some (.d d)) : EvX C (tVar i) M δ μ μ (.d d) := x_var h (fun z => nomatch z)
theorem x_vm {i : Nat} {a : Addr} (h : δ[i]? = some (.m a)) : EvX C (tVar i) M δ μ μ (.m a) := x_var h (fun z => nomatch z)
theorem x_int {i : Int} : EvX C (tC (.int i)) M δ μ μ (.d (.int i)) := fun σ H o Q k => k _ H o (Ex.refl _) (.int i)
theorem x_bl {i : Bool} : EvX C (tC (.bl i)) M δ μ μ (.d (.bool i)) := fun σ H o Q k => k _ H o (Ex.refl _) (.bl i)
theorem x_str {i : Str} : EvX C (tC (.str i)) M δ μ μ (.d (.str i)) := fun σ H o Q k => k _ H o (Ex.refl _) (.str i)
theorem x_non : EvX C (tC .non) M δ μ μ (.d .none) := fun σ H o Q k => k _ H o (Ex.refl _) .non
theorem x_op {r : R2} (ha : EvX C ta M δ μ μ1 e1) (hb : EvX C tb M δ μ1 μ2 e2) (hr : OpX C r M δ μ2 μ3 e1 e2 e3) : EvX C (tOp r ta tb) M δ μ μ3 e3 := fun σ H o Q k =>
  ha σ H o _ fun x H1 o1 x1 r1 => hb σ H1 o1 _ fun y H2 o2 x2 r2 => hr σ H2 x y o2 (r1.mono x2) r2 Q fun v H3 o3 x3 r3 => k v H3 o3 ((x1.trans x2).trans x3) r3
theorem x_un {r : V → Hp → VK → Prop} (ha : EvX C ta M δ μ μ1 e1) (hr : ∀ σ H x, Ok C M δ μ1 σ H → EntOk C.K (hide M H) e1 x → ∀ Q : VK, (∀ v H', Ok C M δ μ2 σ H' → Ex (hide M H) (hide M H') → EntOk C.K (hide M H') e3 v → Q v H') → r x H Q) : EvX C (tUn r ta) M δ μ μ2 e3 := fun σ H o Q k =>
  ha σ H o _ fun x H1 o1 x1 r1 => hr σ H1 x o1 r1 Q fun v H3 o3 x3 r3 => k v H3 o3 (x1.trans x3) r3
theorem x_neg {i : Int} (ha : EvX C ta M δ μ μ1 (.d (.int i))) : EvX C (tUn (rU fun i => .int (-i)) ta) M δ μ μ1 (.d (.int (-i))) :=
  x_un ha fun σ H x o h Q k => ⟨i, Dp.int_of h, k _ H o (Ex.refl _) (.int _)⟩
theorem o_I0 {g : Int → Int → Int} {i j : Int} : OpX C (rI0 fun i j => .int (g i j)) M δ μ μ (.d (.int i)) (.d (.int j)) (.d (.int (g i j))) := fun σ H x y o h1 h2 Q k =>
  ⟨i, j, Dp.int_of h1, Dp.int_of h2, k _ H o (Ex.refl _) (.int _)⟩
theorem o_B0 {g : Int → Int → Bool} {i j : Int} : OpX C (rI0 fun i j => .bl (g i j)) M δ μ μ (.d (.int i)) (.d (.int j)) (.d (.bool (g i j))) := fun σ H x y o h1 h2 Q k =>
  ⟨i, j, Dp.int_of h1, Dp.int_of h2, k _ H o (Ex.refl _) (.bl _)⟩
theorem o_I {c : Int → Int → Prop} {g : Int → Int → Int} {i j : Int} (hc : c i j) : OpX C (rI c fun i j => .int (g i j)) M δ μ μ (.d (.int i)) (.d (.int j)) (.d (.int (g i j))) := fun σ H x y o h1 h2 Q k =>
  ⟨i, j, Dp.int_of h1, Dp.int_of h2, hc, k _ H o (Ex.refl _) (.int _)⟩
theorem o_eqD {d1 d2 : PyData} (r1 : Rdd μ e1 d1) (r2 : Rdd μ e2 d2) (s1 : SeqAt.shaped d1 = true) (s2 : SeqAt.shaped d2 = true) : OpX C (rEqD C.K) M δ μ μ e1 e2 (.d (.bool (PyData.eqv d1 d2))) := fun σ H x y o h1 h2 Q k =>
  ⟨d1, d2, (r1.dp o h1).w, (r2.dp o h2).w, s1, s2, k _ H o (Ex.refl _) (.bl _)⟩
theorem o_neD {d1 d2 : PyData} (r1 : Rdd μ e1 d1) (r2 : Rdd μ e2 d2) (s1 : SeqAt.shaped d1 = true) (s2 : SeqAt.shaped d2 = true) : OpX C (rNeD C.K) M δ μ μ e1 e2 (.d (.bool (!PyData.eqv d1 d2))) := fun σ H x y o h1 h2 Q k =>
  ⟨d1, d2, (r1.dp o h1).w, (r2.dp o h2).w, s1, s2, k _ H o (Ex.refl _) (.bl _)⟩
theorem at_dp {K : PySem.W.Frag} {Hh : Hp} {vs : List V} {ds : List PyData} {i : Int} {d : PyData} (h : DpAll K Hh vs ds) (ha : atI ds i = some d) : ∃ v, atI vs i = some v ∧ Dp K Hh v d := by
  unfold atI at ha ⊢
  rw [DpAll.length h]
  cases q : ixN ds.length i with
  | none => rw [q] at ha; cases ha
  | some j =>
    rw [q] at ha
    exact h.get ha
theorem o_ixL {i : Int} {ds : List PyData} {d : PyData} (r : Rdd μ e1 (.list ds)) (ha : atI ds i = some d) : OpX C (rIxL C.K) M δ μ μ e1 (.d (.int i)) (.d d) := fun σ H x y o h1 h2 Q k => by
  obtain ⟨a, vs, q1, q2, q3⟩ := r.lst o h1
  obtain ⟨v, q4, q5⟩ := at_dp q3 ha
  exact ⟨a, vs, i, v, q1, Dp.int_of h2, q2, q4, k _ H o (Ex.refl _) q5⟩
theorem o_ixT {i : Int} {ds : List PyData} {d : PyData} (ha : atI ds i = some d) : OpX C (rIxT C.K) M δ μ μ (.d (.tuple ds)) (.d (.int i)) (.d d) := fun σ H x y o h1 h2 Q k => by
  obtain ⟨a, vs, q1, q2, q3⟩ := Dp.tup_of h1
  obtain ⟨v, q4, q5⟩ := at_dp q3 ha
  exact ⟨a, vs, i, v, q1, Dp.int_of h2, ex_t hide_le q2, q4, k _ H o (Ex.refl _) q5⟩
theorem dpAll_nil {K : PySem.W.Frag} {H : Hp} {vs : List V} {ds : List PyData} (h : DpAll K H vs ds) : vs = [] ↔ ds = [] := by
  cases h with
  | nil => simp
  | cons _ _ => simp
/-- a new tracked tuple -/
theorem Ok.tup (o : Ok C M δ μ σ H) {p : Addr} {vs : List V} {ds : List PyData} (hp : H p = none) (h : DpAll C.K (hide M H) vs ds) : Ok C M δ μ σ (upd H p (.tup vs)) ∧ Ex (hide M H) (hide M (upd H p (.tup vs))) ∧ Dp C.K (hide M (upd H p (.tup vs))) (.ref p) (.tuple ds) := by
  have e : Ex H (upd H p (.tup vs)) := Ex.new hp
  refine ⟨o.grow e, hide_ex e, .tup ?_ (dpAll_mono (hide_ex e) _ _ h)⟩
  rw [hide_out (o.fresh hp), upd_same]
theorem Ok.lst (o : Ok C M δ μ σ H) {p : Addr} {vs : List V} {ds : List PyData} (hp : H p = none) (h : DpAll C.K (hide M H) vs ds) : Ok C M δ μ σ (upd H p (.lst vs)) ∧ Ex (hide M H) (hide M (upd H p (.lst vs))) ∧ Dp C.K (hide M (upd H p (.lst vs))) (.ref p) (.list ds) := by
  have e : Ex H (upd H p (.lst vs)) := Ex.new hp
  refine ⟨o.grow e, hide_ex e, .lst (sq_of ?_) (dpAll_mono (hide_ex e) _ _ h)⟩
  rw [hide_out (o.fresh hp), upd_same]
theorem o_catT {ds es : List PyData} (hz : ds.length + es.length ≤ 100000) : OpX C (rCatA C.K) M δ μ μ (.d (.tuple ds)) (.d (.tuple es)) (.d (.tuple (ds ++ es))) := fun σ H x y o h1 h2 Q k => by
  obtain ⟨a, vs, q1, q2, q3⟩ := Dp.tup_of h1
  obtain ⟨b, ws, p1, p2, p3⟩ := Dp.tup_of h2
  refine ⟨a, b, vs, ws, q1, p1, ex_t hide_le q2, ex_t hide_le p2, ?_, fun z => ?_, fun z1 z2 => ?_, fun z1 z2 p hp => ?_⟩
  · rw [q3.length, p3.length]; exact sz_of hz
  · have z' := (dpAll_nil q3).mp z
    subst z'
    refine k _ H o (Ex.refl _) ?_
    rw [← p1]; exact h2
  · have z' := (dpAll_nil p3).mp z2
    subst z'
    refine k _ H o (Ex.refl _) ?_
    rw [← q1, List.append_nil]; exact h1
  · obtain ⟨o', x', d'⟩ := o.tup hp (q3.append p3)
    exact k _ _ o' x' d'
def isNon : PyData → Bool
  | .none => true
  | _ => false
theorem o_isN {d : PyData} : OpX C (fun x y H Q => y = .non ∧ Q (.bl (decide (x = .non))) H) M δ μ μ (.d d) (.d .none) (.d (.bool (isNon d))) := fun σ H x y o h1 h2 Q k => by
  refine ⟨Dp.none_of h2, k _ H o (Ex.refl _) ?_⟩
  have e : decide (x = .non) = isNon d := by
    cases d <;> cases h1 <;> simp [isNon]
  rw [e]; exact .bl _
theorem o_notN {d : PyData} : OpX C (fun x y H Q => y = .non ∧ Q (.bl (!decide (x = .non))) H) M δ μ μ (.d d) (.d .none) (.d (.bool (!isNon d))) := fun σ H x y o h1 h2 Q k => by
  refine ⟨Dp.none_of h2, k _ H o (Ex.refl _) ?_⟩
  have e : decide (x = .non) = isNon d := by
    cases d <;> cases h1 <;> simp [isNon]
  rw [e]; exact .bl _

/-! ### arguments, displays -/
theorem a_nil : EvA C tNil M δ μ μ [] := fun σ H o Q k => k [] H o (Ex.refl _) .nil
theorem entsMono {K : PySem.W.Frag} {H H' : Hp} (x : Ex H H') {es : List Ent} {vs : List V} (h : Paired (EntOk K H) es vs) : Paired (EntOk K H') es vs := Paired.mapP h fun _ _ q => q.mono x
theorem a_cons {tr : TA} {es : List Ent} (h : EvX C ta M δ μ μ1 e) (hr : EvA C tr M δ μ1 μ2 es) : EvA C (tCons ta tr) M δ μ μ2 (e :: es) := fun σ H o Q k =>
  h σ H o _ fun v H1 o1 x1 r1 => hr σ H1 o1 _ fun vs H2 o2 x2 r2 => k (v :: vs) H2 o2 (x1.trans x2) (.cons (r1.mono x2) r2)
theorem dpAll_of {K : PySem.W.Frag} {H : Hp} : ∀ {ds : List PyData} {vs : List V}, Paired (EntOk K H) (ds.map Ent.d) vs → DpAll K H vs ds
  | [], _, h => by cases h; exact .nil
  | d :: ds, _, h => by
    cases h with
    | cons h1 h2 => exact .cons h1 (dpAll_of h2)
theorem x_tup {tr : TA} {ds : List PyData} (h : EvA C tr M δ μ μ' (ds.map Ent.d)) (hl : ds.length ≤ 100000) : EvX C (tTup tr) M δ μ μ' (.d (.tuple ds)) := fun σ H o Q k =>
  h σ H o _ fun vs H1 o1 x1 r1 => ⟨by have := (dpAll_of r1).length; rw [this]; exact sz_of hl, fun p hp => by
    obtain ⟨o', x', d'⟩ := o1.tup hp (dpAll_of r1)
    exact k _ _ o' (x1.trans x') d'⟩
theorem x_lst {tr : TA} {ds : List PyData} (h : EvA C tr M δ μ μ' (ds.map Ent.d)) (hl : ds.length ≤ 100000) : EvX C (tLst tr) M δ μ μ' (.d (.list ds)) := fun σ H o Q k =>
  h σ H o _ fun vs H1 o1 x1 r1 => ⟨by have := (dpAll_of r1).length; rw [this]; exact sz_of hl, fun p hp => by
    obtain ⟨o', x', d'⟩ := o1.lst hp (dpAll_of r1)
    exact k _ _ o' (x1.trans x') d'⟩
/-! ### calls of built-ins -/
theorem x_cb {r : List V → Hp → VK → Prop} {tr : TA} {es : List Ent} (h : EvA C tr M δ μ μ1 es) (hr : CallX C r M δ μ1 μ2 es e) : EvX C (tCB r tr) M δ μ μ2 e := fun σ H o Q k =>
  h σ H o _ fun vs H1 o1 x1 r1 => hr σ H1 vs o1 r1 Q fun v H2 o2 x2 r2 => k v H2 o2 (x1.trans x2) r2
theorem p1 {α β : Type} {F : α → β → Prop} {a : α} {bs : List β} (h : Paired F [a] bs) : ∃ b, bs = [b] ∧ F a b := by
  cases h with
  | cons h1 h2 => cases h2; exact ⟨_, rfl, h1⟩
theorem p2 {α β : Type} {F : α → β → Prop} {a a' : α} {bs : List β} (h : Paired F [a, a'] bs) : ∃ b b', bs = [b, b'] ∧ F a b ∧ F a' b' := by
  cases h with
  | cons h1 h2 => obtain ⟨b, rfl, q⟩ := p1 h2; exact ⟨_, _, rfl, h1, q⟩
theorem c_abs {i : Int} : CallX C (fun xs H Q => ∃ i, xs = [.int i] ∧ Q (.int (if i < 0 then -i else i)) H) M δ μ μ [.d (.int i)] (.d (.int (if i < 0 then -i else i))) := fun σ H vs o h Q k => by
  obtain ⟨v, rfl, q⟩ := p1 h
  exact ⟨i, by rw [Dp.int_of q], k _ H o (Ex.refl _) (.int _)⟩
theorem c_max2 {i j : Int} : CallX C (fun xs H Q => ∃ i j, xs = [.int i, .int j] ∧ Q (.int (if j > i then j else i)) H) M δ μ μ [.d (.int i), .d (.int j)] (.d (.int (if j > i then j else i))) := fun σ H vs o h Q k => by
  obtain ⟨v, w, rfl, q, q'⟩ := p2 h
  exact ⟨i, j, by rw [Dp.int_of q, Dp.int_of q'], k _ H o (Ex.refl _) (.int _)⟩
theorem c_min2 {i j : Int} : CallX C (fun xs H Q => ∃ i j, xs = [.int i, .int j] ∧ Q (.int (if j < i then j else i)) H) M δ μ μ [.d (.int i), .d (.int j)] (.d (.int (if j < i then j else i))) := fun σ H vs o h Q k => by
  obtain ⟨v, w, rfl, q, q'⟩ := p2 h
  exact ⟨i, j, by rw [Dp.int_of q, Dp.int_of q'], k _ H o (Ex.refl _) (.int _)⟩
theorem c_intI {i : Int} : CallX C (fun xs H Q => (∃ i, xs = [.int i] ∧ Q (.int i) H) ∨ ∃ k, xs = [.bl k] ∧ Q (.int (if k then 1 else 0)) H) M δ μ μ [.d (.int i)] (.d (.int i)) := fun σ H vs o h Q k => by
  obtain ⟨v, rfl, q⟩ := p1 h
  exact .inl ⟨i, by rw [Dp.int_of q], k _ H o (Ex.refl _) (.int _)⟩
theorem c_intB {b : Bool} : CallX C (fun xs H Q => (∃ i, xs = [.int i] ∧ Q (.int i) H) ∨ ∃ k, xs = [.bl k] ∧ Q (.int (if k then 1 else 0)) H) M δ μ μ [.d (.bool b)] (.d (.int (if b then 1 else 0))) := fun σ H vs o h Q k => by
  obtain ⟨v, rfl, q⟩ := p1 h
  exact .inr ⟨b, by rw [Dp.bool_of q], k _ H o (Ex.refl _) (.int _)⟩
abbrev rLenS (K : PySem.W.Frag) : List V → Hp → VK → Prop := fun xs H Q => ∃ p ys, xs = [.ref p] ∧ (SqL K H p ys ∨ SqT K H p ys) ∧ Q (.int ys.length) H
theorem c_lenL {ds : List PyData} (r : Rdd μ e (.list ds)) : CallX C (rLenS C.K) M δ μ μ [e] (.d (.int (ds.length : Int))) := fun σ H vs o h Q k => by
  obtain ⟨v, rfl, q⟩ := p1 h
  obtain ⟨a, ws, q1, q2, q3⟩ := r.lst o q
  refine ⟨a, ws, by rw [q1], .inl q2, k _ H o (Ex.refl _) ?_⟩
  rw [q3.length]; exact .int _
theorem c_lenT {ds : List PyData} : CallX C (rLenS C.K) M δ μ μ [.d (.tuple ds)] (.d (.int (ds.length : Int))) := fun σ H vs o h Q k => by
  obtain ⟨v, rfl, q⟩ := p1 h
  obtain ⟨a, ws, q1, q2, q3⟩ := Dp.tup_of q
  refine ⟨a, ws, by rw [q1], .inr (ex_t hide_le q2), k _ H o (Ex.refl _) ?_⟩
  rw [q3.length]; exact .int _
theorem c_sum {ns : List Int} (r : Rdd μ e (.list (ns.map .int))) : CallX C (rSum C.K) M δ μ μ [e] (.d (.int ns.sum)) := fun σ H vs o h Q k => by
  obtain ⟨v, rfl, q⟩ := p1 h
  obtain ⟨a, ws, q1, q2, q3⟩ := r.lst o q
  rw [q3.ints] at q2
  exact ⟨a, ns, by rw [q1], q2, k _ H o (Ex.refl _) (.int _)⟩
theorem c_minI {ns : List Int} {m : Int} (r : Rdd μ e (.list (ns.map .int))) (hm : m ∈ ns) (hl : ∀ y ∈ ns, m ≤ y) : CallX C (rMin C.K) M δ μ μ [e] (.d (.int m)) := fun σ H vs o h Q k => by
  obtain ⟨v, rfl, q⟩ := p1 h
  obtain ⟨a, ws, q1, q2, q3⟩ := r.lst o q
  rw [q3.ints] at q2
  refine ⟨a, ns, by rw [q1], q2, List.length_pos_of_mem hm, fun m' h1 h2 => ?_⟩
  have e : m' = m := Int.le_antisymm (h2 m hm) (hl m' h1)
  subst e
  exact k _ H o (Ex.refl _) (.int _)
theorem c_maxI {ns : List Int} {m : Int} (r : Rdd μ e (.list (ns.map .int))) (hm : m ∈ ns) (hl : ∀ y ∈ ns, y ≤ m) : CallX C (rMax C.K) M δ μ μ [e] (.d (.int m)) := fun σ H vs o h Q k => by
  obtain ⟨v, rfl, q⟩ := p1 h
  obtain ⟨a, ws, q1, q2, q3⟩ := r.lst o q
  rw [q3.ints] at q2
  refine ⟨a, ns, by rw [q1], q2, List.length_pos_of_mem hm, fun m' h1 h2 => ?_⟩
  have e : m' = m := Int.le_antisymm (hl m' h1) (h2 m hm)
  subst e
  exact k _ H o (Ex.refl _) (.int _)
abbrev rTupleS (K : PySem.W.Frag) : List V → Hp → VK → Prop := fun xs H Q => ∃ p ys, xs = [.ref p] ∧ ((SqL K H p ys ∧ ∀ l, H l = none → Q (.ref l) (upd H l (.tup ys))) ∨ (SqT K H p ys ∧ Q (.ref p) H))
theorem c_tupleL {ds : List PyData} (r : Rdd μ e (.list ds)) : CallX C (rTupleS C.K) M δ μ μ [e] (.d (.tuple ds)) := fun σ H vs o h Q k => by
  obtain ⟨v, rfl, q⟩ := p1 h
  obtain ⟨a, ws, q1, q2, q3⟩ := r.lst o q
  refine ⟨a, ws, by rw [q1], .inl ⟨q2, fun l hl => ?_⟩⟩
  obtain ⟨o', x', d'⟩ := o.tup hl q3
  exact k _ _ o' x' d'
end
end FD
namespace FD
open PySem L2 Evl
section
variable {C : Cfg} {M M' : List Addr} {δ δ' δ1 δ2 : List Ent} {μ μ' μ1 μ2 μ3 : Mem} {σ σ' σ1 σ2 : L2.St} {H H' : Hp} {e e1 e2 e3 : Ent} {ta tb te tc : TE} {t u : TT} {b c : Bool}
/-! ### tests -/
theorem t_is (h : EvT C t M δ μ μ' b) (q : b = c) : EvT C t M δ μ μ' c := by rw [← q]; exact h
theorem t_test (h : EvX C te M δ μ μ' (.d (.bool b))) : EvT C (tTest te) M δ μ μ' b := fun σ H o Q k => h σ H o _ fun v H' o' x r => ⟨b, Dp.bool_of r, k H' o' x⟩
theorem t_B (h : EvX C te M δ μ μ' (.d (.bool b))) : EvT C (tB te) M δ μ μ' b := fun σ H o Q k => h σ H o _ fun v H' o' x r => ⟨b, Dp.bool_of r, k H' o' x⟩
theorem t_not (h : EvT C t M δ μ μ' b) : EvT C (tNot t) M δ μ μ' (!b) := fun σ H o Q k => h σ H o _ fun H' o' x => k H' o' x
theorem t_yes : EvT C tYes M δ μ μ true := fun σ H o Q k => k H o (Ex.refl _)
/-- the second where the first holds; where it does not, the lists stand as behind the first -/
theorem t_and (h1 : EvT C t M δ μ μ1 b) (h2 : b = true → EvT C u M δ μ1 μ2 c) (h3 : b = false → μ1 = μ2) : EvT C (tAnd t u) M δ μ μ2 (b && c) := fun σ H o Q k => h1 σ H o _ fun H1 o1 x1 => by
  cases b with
  | true =>
    show u σ H1 Q
    exact h2 rfl σ H1 o1 Q fun H2 o2 x2 => k H2 o2 (x1.trans x2)
  | false =>
    show Q false H1
    have := h3 rfl
    subst this
    exact k H1 o1 x1
theorem t_or (h1 : EvT C t M δ μ μ1 b) (h2 : b = false → EvT C u M δ μ1 μ2 c) (h3 : b = true → μ1 = μ2) : EvT C (tOr t u) M δ μ μ2 (b || c) := fun σ H o Q k => h1 σ H o _ fun H1 o1 x1 => by
  cases b with
  | false =>
    show u σ H1 Q
    exact h2 rfl σ H1 o1 Q fun H2 o2 x2 => k H2 o2 (x1.trans x2)
  | true =>
    show Q true H1
    have := h3 rfl
    subst this
    exact k H1 o1 x1
theorem x_if (h : EvT C t M δ μ μ1 b) (h1 : b = true → EvX C ta M δ μ1 μ2 e) (h2 : b = false → EvX C tb M δ μ1 μ2 e) : EvX C (tIf t ta tb) M δ μ μ2 e := fun σ H o Q k => h σ H o _ fun H1 o1 x1 => by
  cases b with
  | true =>
    show ta σ H1 Q
    exact h1 rfl σ H1 o1 Q fun v H2 o2 x2 r => k v H2 o2 (x1.trans x2) r
  | false =>
    show tb σ H1 Q
    exact h2 rfl σ H1 o1 Q fun v H2 o2 x2 r => k v H2 o2 (x1.trans x2) r
theorem x_if2 {d1 d2 : PyData} (h : EvT C t M δ μ μ1 b) (h1 : EvX C ta M δ μ1 μ2 (.d d1)) (h2 : EvX C tb M δ μ1 μ2 (.d d2)) : EvX C (tIf t ta tb) M δ μ μ2 (.d (if b = true then d1 else d2)) :=
  x_if h (fun q => by rw [if_pos q]; exact h1) (fun q => by rw [if_neg (by rw [q]; decide)]; exact h2)
/-- or, and as values -/
theorem x_orV (h1 : EvX C ta M δ μ μ1 (.d (.bool b))) (h2 : b = false → EvX C tb M δ μ1 μ2 (.d (.bool c))) (h3 : b = true → μ1 = μ2) : EvX C (tOrV ta tb) M δ μ μ2 (.d (.bool (b || c))) := fun σ H o Q k => h1 σ H o _ fun v H1 o1 x1 r => ⟨b, Dp.bool_of r, by
  cases b with
  | false =>
    show tb σ H1 Q
    exact h2 rfl σ H1 o1 Q fun v H2 o2 x2 r => k v H2 o2 (x1.trans x2) r
  | true =>
    show Q (.bl true) H1
    have := h3 rfl
    subst this
    exact k _ H1 o1 x1 (.bl true)⟩
theorem x_andV (h1 : EvX C ta M δ μ μ1 (.d (.bool b))) (h2 : b = true → EvX C tb M δ μ1 μ2 (.d (.bool c))) (h3 : b = false → μ1 = μ2) : EvX C (tAndV ta tb) M δ μ μ2 (.d (.bool (b && c))) := fun σ H o Q k => h1 σ H o _ fun v H1 o1 x1 r => ⟨b, Dp.bool_of r, by
  cases b with
  | true =>
    show tb σ H1 Q
    exact h2 rfl σ H1 o1 Q fun v H2 o2 x2 r => k v H2 o2 (x1.trans x2) r
  | false =>
    show Q (.bl false) H1
    have := h3 rfl
    subst this
    exact k _ H1 o1 x1 (.bl false)⟩
theorem x_notV (h1 : EvX C ta M δ μ μ1 (.d (.bool b))) : EvX C (tNotV ta) M δ μ μ1 (.d (.bool (!b))) := fun σ H o Q k => h1 σ H o _ fun v H1 o1 x1 r => ⟨b, Dp.bool_of r, k _ H1 o1 x1 (.bl _)⟩

/-! ### slices -/
def cutD (xs : List PyData) (lo hi : Option Int) : List PyData := (xs.drop (HT.sIx xs.length 0 lo)).take (HT.sIx xs.length xs.length hi - HT.sIx xs.length 0 lo)
theorem cut_dp {K : PySem.W.Frag} {Hh : Hp} {vs : List V} {ds : List PyData} (h : DpAll K Hh vs ds) (lo hi : Option Int) : DpAll K Hh (cutV vs lo hi) (cutD ds lo hi) := by
  unfold cutV cutD
  rw [h.length]
  exact (h.drop _).take _
theorem p_none : EvO C tNoPart M δ μ μ none := fun σ H o Q k => k H o (Ex.refl _)
theorem p_some {i : Int} (h : EvX C te M δ μ μ' (.d (.int i))) : EvO C (tPart te) M δ μ μ' (some i) := fun σ H o Q k => h σ H o _ fun v H1 o1 x1 r => ⟨i, Dp.int_of r, k H1 o1 x1⟩
theorem cutD_whole {ds : List PyData} {lo hi : Option Int} (h : HT.sIx ds.length 0 lo = 0 ∧ HT.sIx ds.length ds.length hi = ds.length) : cutD ds lo hi = ds := by
  unfold cutD
  rw [h.1, h.2, List.drop_zero, Nat.sub_zero, List.take_length]
theorem x_slT {tl th : TO} {ds : List PyData} {lo hi : Option Int} (h : EvX C te M δ μ μ1 (.d (.tuple ds))) (hl : EvO C tl M δ μ1 μ2 lo) (hh : EvO C th M δ μ2 μ3 hi) : EvX C (tSl (rSlA C.K) te tl th) M δ μ μ3 (.d (.tuple (cutD ds lo hi))) := fun σ H o Q k =>
  h σ H o _ fun v H1 o1 x1 r1 => hl σ H1 o1 _ fun H2 o2 x2 => hh σ H2 o2 _ fun H3 o3 x3 => by
    obtain ⟨a, vs, q1, q2, q3⟩ := Dp.tup_of (EntOk.mono (e := .d (.tuple ds)) (x2.trans x3) r1)
    refine ⟨a, vs, q1, ex_t hide_le q2, fun hw => ?_, fun _ p hp => ?_⟩
    · refine k _ H3 o3 ((x1.trans x2).trans x3) ?_
      rw [q3.length] at hw
      rw [cutD_whole hw, ← q1]
      exact EntOk.mono (e := .d (.tuple ds)) (x2.trans x3) r1
    · obtain ⟨o', x', d'⟩ := o3.tup hp (cut_dp q3 lo hi)
      exact k _ _ o' (((x1.trans x2).trans x3).trans x') d'
theorem x_slL {tl th : TO} {ds : List PyData} {lo hi : Option Int} (h : EvX C te M δ μ μ1 e) (hl : EvO C tl M δ μ1 μ2 lo) (hh : EvO C th M δ μ2 μ3 hi) (r : Rdd μ3 e (.list ds)) : EvX C (tSl (rSlL C.K) te tl th) M δ μ μ3 (.d (.list (cutD ds lo hi))) := fun σ H o Q k =>
  h σ H o _ fun v H1 o1 x1 r1 => hl σ H1 o1 _ fun H2 o2 x2 => hh σ H2 o2 _ fun H3 o3 x3 => by
    obtain ⟨a, vs, q1, q2, q3⟩ := r.lst o3 (r1.mono (x2.trans x3))
    refine ⟨a, vs, q1, q2, fun p hp => ?_⟩
    obtain ⟨o', x', d'⟩ := o3.lst hp (cut_dp q3 lo hi)
    exact k _ _ o' (((x1.trans x2).trans x3).trans x') d'

/-! ### what is walked -/
structure WalkD (K : PySem.W.Frag) (J : It) (Hh : Hp) (xs : List PyData) : Prop where
  go : ∀ (M : List Addr) i H, i < xs.length → (∀ a ∈ M, H a ≠ none) → Ex Hh (hide M H) → J.go i H
  stop : ∀ (M : List Addr) H, (∀ a ∈ M, H a ≠ none) → Ex Hh (hide M H) → J.stop xs.length H
  yld : ∀ (M : List Addr) i H x H', i < xs.length → (∀ a ∈ M, H a ≠ none) → Ex Hh (hide M H) → J.yld i H x H' → Ex H H' ∧ ∃ d, xs[i]? = some d ∧ Dp K (hide M H') x d
/-- the same where the walk leans on the heap besides -/
structure WalkN (K : PySem.W.Frag) (J : It) (Hh : Hp) (N : Hp → Prop) (xs : List PyData) : Prop where
  go : ∀ (M : List Addr) (i : Nat) (H : Hp), i < xs.length → (∀ a ∈ M, H a ≠ none) → Ex Hh (hide M H) → N H → J.go i H
  stop : ∀ (M : List Addr) (H : Hp), (∀ a ∈ M, H a ≠ none) → Ex Hh (hide M H) → N H → J.stop xs.length H
  yld : ∀ (M : List Addr) (i : Nat) (H : Hp) (x : V) (H' : Hp), i < xs.length → (∀ a ∈ M, H a ≠ none) → Ex Hh (hide M H) → N H → J.yld i H x H' → Ex H H' ∧ ∃ d, xs[i]? = some d ∧ Dp K (hide M H') x d
theorem WalkD.toN {K : PySem.W.Frag} {J : It} {Hh : Hp} {xs : List PyData} (W : WalkD K J Hh xs) : WalkN K J Hh (fun _ => True) xs := ⟨fun M i H h1 h2 h3 _ => W.go M i H h1 h2 h3, fun M H h1 h2 _ => W.stop M H h1 h2, fun M i H x H' h1 h2 h3 _ y => W.yld M i H x H' h1 h2 h3 y⟩
def EvIN (C : Cfg) (wi : TI) (M : List Addr) (δ : List Ent) (μ μ' : Mem) (N : Hp → Prop) (xs : List PyData) : Prop := ∀ σ H, Ok C M δ μ σ H → ∀ R : It → Hp → Prop, (∀ J H', Ok C M δ μ' σ H' → Ex (hide M H) (hide M H') → WalkN C.K J (hide M H') N xs → R J H') → wi σ H R
def EvI (C : Cfg) (wi : TI) (M : List Addr) (δ : List Ent) (μ μ' : Mem) (xs : List PyData) : Prop := ∀ σ H, Ok C M δ μ σ H → ∀ R : It → Hp → Prop, (∀ J H', Ok C M δ μ' σ H' → Ex (hide M H) (hide M H') → WalkD C.K J (hide M H') xs → R J H') → wi σ H R
theorem EvI.toN {wi : TI} {xs : List PyData} (h : EvI C wi M δ μ μ' xs) : EvIN C wi M δ μ μ' (fun _ => True) xs := fun σ H o R k => h σ H o R fun J H' o' x W => k J H' o' x W.toN
theorem w_list {K : PySem.W.Frag} {Hh : Hp} {a : Addr} {vs : List V} {xs : List PyData} (h : SqL K Hh a vs) (hd : DpAll K Hh vs xs) : WalkD K (Itl K a) Hh xs where
  go := fun M i H hi _ x => by
    rw [← hd.length] at hi
    exact ⟨vs, vs[i], ex_l (x.trans hide_le) h, by simp [hi]⟩
  stop := fun M H _ x => ⟨vs, ex_l (x.trans hide_le) h, by rw [hd.length]; exact Nat.le_refl _⟩
  yld := fun M i H y H' hi _ x q => by
    obtain ⟨e, q⟩ := q
    subst e
    refine ⟨Ex.refl _, xs[i], by simp [hi], ?_⟩
    obtain ⟨v, h1, h2⟩ := hd.get (i := i) (d := xs[i]) (by simp [hi])
    have := q vs (ex_l (x.trans hide_le) h)
    rw [this] at h1
    cases h1
    exact dp_mono x _ _ h2
theorem w_tup {K : PySem.W.Frag} {Hh : Hp} {a : Addr} {vs : List V} {xs : List PyData} (h : SqT K Hh a vs) (hd : DpAll K Hh vs xs) : WalkD K (Itt K a) Hh xs where
  go := fun M i H hi _ x => by
    rw [← hd.length] at hi
    exact ⟨vs, vs[i], ex_t (x.trans hide_le) h, by simp [hi]⟩
  stop := fun M H _ x => ⟨vs, ex_t (x.trans hide_le) h, by rw [hd.length]; exact Nat.le_refl _⟩
  yld := fun M i H y H' hi _ x q => by
    obtain ⟨e, q⟩ := q
    subst e
    refine ⟨Ex.refl _, xs[i], by simp [hi], ?_⟩
    obtain ⟨v, h1, h2⟩ := hd.get (i := i) (d := xs[i]) (by simp [hi])
    have := q vs (ex_t (x.trans hide_le) h)
    rw [this] at h1
    cases h1
    exact dp_mono x _ _ h2
def rngD (lo : Int) (n : Nat) : List PyData := (List.range n).map fun (i : Nat) => PyData.int (lo + (i : Int))
theorem rngD_length (lo : Int) (n : Nat) : (rngD lo n).length = n := by simp [rngD]
theorem rngD_get {lo : Int} {n i : Nat} (h : i < n) : (rngD lo n)[i]? = some (.int (lo + (i : Int))) := by simp [rngD, h]
theorem w_rng {K : PySem.W.Frag} {Hh : Hp} {lo : Int} {n : Nat} : WalkD K (Itr lo n) Hh (rngD lo n) where
  go := fun M i H hi _ x => by rw [rngD_length] at hi; exact hi
  stop := fun M H _ x => by rw [rngD_length]; exact Nat.le_refl _
  yld := fun M i H y H' hi _ x q => by
    rw [rngD_length] at hi
    obtain ⟨e, q⟩ := q
    subst e
    subst q
    exact ⟨Ex.refl _, _, rngD_get hi, .int _⟩
theorem i_list {xs : List PyData} (h : EvX C te M δ μ μ' (.d (.list xs))) : EvI C (iList C.K te) M δ μ μ' xs := fun σ H o R k => h σ H o _ fun v H1 o1 x1 r => by
  obtain ⟨a, vs, q1, q2, q3⟩ := Dp.lst_of r
  exact ⟨a, q1, ⟨vs, ex_l hide_le q2⟩, k _ H1 o1 x1 (w_list q2 q3)⟩
theorem i_tup {xs : List PyData} (h : EvX C te M δ μ μ' (.d (.tuple xs))) : EvI C (iTup C.K te) M δ μ μ' xs := fun σ H o R k => h σ H o _ fun v H1 o1 x1 r => by
  obtain ⟨a, vs, q1, q2, q3⟩ := Dp.tup_of r
  exact ⟨a, q1, ⟨vs, ex_t hide_le q2⟩, k _ H1 o1 x1 (w_tup q2 q3)⟩
theorem i_rng1 {tr : TA} {n : Int} (h : EvA C tr M δ μ μ' [.d (.int n)]) (h0 : -(2 ^ 62) ≤ n) (h1 : n < 2 ^ 62) : EvI C (iRng1 tr) M δ μ μ' (rngD 0 n.toNat) := fun σ H o R k => h σ H o _ fun vs H1 o1 x1 r => by
  obtain ⟨v, rfl, q⟩ := p1 r
  exact ⟨n, by rw [Dp.int_of q], h0, h1, k _ H1 o1 x1 w_rng⟩
theorem i_rng2 {tr : TA} {m n : Int} (h : EvA C tr M δ μ μ' [.d (.int m), .d (.int n)]) (h0 : -(2 ^ 62) ≤ m ∧ m < 2 ^ 62 ∧ -(2 ^ 62) ≤ n ∧ n < 2 ^ 62) : EvI C (iRng2 tr) M δ μ μ' (rngD m (n - m).toNat) := fun σ H o R k => h σ H o _ fun vs H1 o1 x1 r => by
  obtain ⟨v, w, rfl, q, q'⟩ := p2 r
  exact ⟨m, n, by rw [Dp.int_of q, Dp.int_of q'], h0, k _ H1 o1 x1 w_rng⟩
/-- pairs -/
def pairD (xs ys : List PyData) : List PyData := (xs.zip ys).map fun p => .tuple [p.1, p.2]
theorem pairD_get {xs ys : List PyData} {i : Nat} {x y : PyData} (h1 : xs[i]? = some x) (h2 : ys[i]? = some y) : (pairD xs ys)[i]? = some (.tuple [x, y]) := by
  unfold pairD
  rw [List.getElem?_map, List.getElem?_zip_eq_some (z := (x, y)) |>.mpr ⟨h1, h2⟩]
  rfl
theorem pairD_length (xs ys : List PyData) : (pairD xs ys).length = min xs.length ys.length := by
  unfold pairD
  rw [List.length_map, List.length_zip]
theorem new_pair {K : PySem.W.Frag} {M : List Addr} {H : Hp} {T : Addr} {v w : V} {x y : PyData} (al : ∀ a ∈ M, H a ≠ none) (hT : H T = none) (h1 : Dp K (hide M H) v x) (h2 : Dp K (hide M H) w y) :
    Ex H (upd H T (.tup [v, w])) ∧ Dp K (hide M (upd H T (.tup [v, w]))) (.ref T) (.tuple [x, y]) := by
  have e : Ex H (upd H T (.tup [v, w])) := Ex.new hT
  refine ⟨e, .tup ?_ (.cons (dp_mono (hide_ex e) _ _ h1) (.cons (dp_mono (hide_ex e) _ _ h2) .nil))⟩
  rw [hide_out (fun z => al T z hT), upd_same]
theorem w_zipT {K : PySem.W.Frag} {Hh : Hp} {a b : Addr} {vs ws : List V} {xs ys : List PyData} (h : SqT K Hh a vs) (hd : DpAll K Hh vs xs) (h' : SqT K Hh b ws) (hd' : DpAll K Hh ws ys) : WalkD K (RZ.ItzT K a b) Hh (pairD xs ys) where
  go := fun M i H hi _ x => by
    rw [pairD_length, ← hd.length, ← hd'.length] at hi
    have i1 : i < vs.length := by omega
    have i2 : i < ws.length := by omega
    exact ⟨vs, ws, vs[i], ws[i], ex_t (x.trans hide_le) h, ex_t (x.trans hide_le) h', by simp [i1], by simp [i2]⟩
  stop := fun M H _ x => ⟨vs, ws, ex_t (x.trans hide_le) h, ex_t (x.trans hide_le) h', by rw [pairD_length, hd.length, hd'.length]; omega⟩
  yld := fun M i H y H' hi al x q => by
    rw [pairD_length] at hi
    obtain ⟨T, v, w, rfl, hT, rfl, qv, qw⟩ := q
    have i1 : i < xs.length := by omega
    have i2 : i < ys.length := by omega
    obtain ⟨v', g1, g2⟩ := hd.get (i := i) (d := xs[i]) (by simp [i1])
    obtain ⟨w', g3, g4⟩ := hd'.get (i := i) (d := ys[i]) (by simp [i2])
    have e1 := qv vs (ex_t (x.trans hide_le) h)
    have e2 := qw ws (ex_t (x.trans hide_le) h')
    rw [g1] at e1; cases e1
    rw [g3] at e2; cases e2
    obtain ⟨r1, r2⟩ := new_pair al hT (dp_mono x _ _ g2) (dp_mono x _ _ g4)
    exact ⟨r1, _, pairD_get (by simp [i1]) (by simp [i2]), r2⟩
theorem w_zipL {K : PySem.W.Frag} {Hh : Hp} {a b : Addr} {vs ws : List V} {xs ys : List PyData} (h : SqL K Hh a vs) (hd : DpAll K Hh vs xs) (h' : SqL K Hh b ws) (hd' : DpAll K Hh ws ys) : WalkD K (Itz K a b) Hh (pairD xs ys) where
  go := fun M i H hi _ x => by
    rw [pairD_length, ← hd.length, ← hd'.length] at hi
    have i1 : i < vs.length := by omega
    have i2 : i < ws.length := by omega
    exact ⟨vs, ws, vs[i], ws[i], ex_l (x.trans hide_le) h, ex_l (x.trans hide_le) h', by simp [i1], by simp [i2]⟩
  stop := fun M H _ x => ⟨vs, ws, ex_l (x.trans hide_le) h, ex_l (x.trans hide_le) h', by rw [pairD_length, hd.length, hd'.length]; omega⟩
  yld := fun M i H y H' hi al x q => by
    rw [pairD_length] at hi
    obtain ⟨T, v, w, rfl, hT, rfl, qv, qw⟩ := q
    have i1 : i < xs.length := by omega
    have i2 : i < ys.length := by omega
    obtain ⟨v', g1, g2⟩ := hd.get (i := i) (d := xs[i]) (by simp [i1])
    obtain ⟨w', g3, g4⟩ := hd'.get (i := i) (d := ys[i]) (by simp [i2])
    have e1 := qv vs (ex_l (x.trans hide_le) h)
    have e2 := qw ws (ex_l (x.trans hide_le) h')
    rw [g1] at e1; cases e1
    rw [g3] at e2; cases e2
    obtain ⟨r1, r2⟩ := new_pair al hT (dp_mono x _ _ g2) (dp_mono x _ _ g4)
    exact ⟨r1, _, pairD_get (by simp [i1]) (by simp [i2]), r2⟩
theorem i_zipT {tr : TA} {xs ys : List PyData} (h : EvA C tr M δ μ μ' [.d (.tuple xs), .d (.tuple ys)]) : EvI C (RZ.iZipA C.K tr) M δ μ μ' (pairD xs ys) := fun σ H o R k => h σ H o _ fun vs H1 o1 x1 r => by
  obtain ⟨v, w, rfl, q, q'⟩ := p2 r
  obtain ⟨a, vs, g1, g2, g3⟩ := Dp.tup_of q
  obtain ⟨b, ws, g4, g5, g6⟩ := Dp.tup_of q'
  exact ⟨a, b, vs, ws, by rw [g1, g4], .inr ⟨ex_t hide_le g2, ex_t hide_le g5, k _ H1 o1 x1 (w_zipT g2 g3 g5 g6)⟩⟩
theorem i_zipL {tr : TA} {xs ys : List PyData} (h : EvA C tr M δ μ μ' [.d (.list xs), .d (.list ys)]) : EvI C (RZ.iZipA C.K tr) M δ μ μ' (pairD xs ys) := fun σ H o R k => h σ H o _ fun vs H1 o1 x1 r => by
  obtain ⟨v, w, rfl, q, q'⟩ := p2 r
  obtain ⟨a, vs, g1, g2, g3⟩ := Dp.lst_of q
  obtain ⟨b, ws, g4, g5, g6⟩ := Dp.lst_of q'
  exact ⟨a, b, vs, ws, by rw [g1, g4], .inl ⟨ex_l hide_le g2, ex_l hide_le g5, k _ H1 o1 x1 (w_zipL g2 g3 g5 g6)⟩⟩
/-- enumerated -/
def enumD (xs : List PyData) : List PyData := xs.zipIdx.map fun p => .tuple [.int (p.2 : Int), p.1]
theorem enumD_length (xs : List PyData) : (enumD xs).length = xs.length := by simp [enumD]
theorem enumD_get {xs : List PyData} {i : Nat} {x : PyData} (h : xs[i]? = some x) : (enumD xs)[i]? = some (.tuple [.int (i : Int), x]) := by
  unfold enumD
  rw [List.getElem?_map, List.getElem?_zipIdx, h]
  simp
theorem w_enumL {K : PySem.W.Frag} {Hh : Hp} {a : Addr} {vs : List V} {xs : List PyData} (h : SqL K Hh a vs) (hd : DpAll K Hh vs xs) : WalkD K (Ite K a) Hh (enumD xs) where
  go := fun M i H hi _ x => by
    rw [enumD_length, ← hd.length] at hi
    exact ⟨vs, vs[i], ex_l (x.trans hide_le) h, by simp [hi]⟩
  stop := fun M H _ x => ⟨vs, ex_l (x.trans hide_le) h, by rw [enumD_length, hd.length]; exact Nat.le_refl _⟩
  yld := fun M i H y H' hi al x q => by
    rw [enumD_length] at hi
    obtain ⟨T, v, rfl, hT, rfl, qv⟩ := q
    obtain ⟨v', g1, g2⟩ := hd.get (i := i) (d := xs[i]) (by simp [hi])
    have e1 := qv vs (ex_l (x.trans hide_le) h)
    rw [g1] at e1; cases e1
    obtain ⟨r1, r2⟩ := new_pair al hT (Dp.int (i : Nat)) (dp_mono x _ _ g2)
    exact ⟨r1, _, enumD_get (by simp [hi]), r2⟩
theorem i_enumL {tr : TA} {xs : List PyData} (h : EvA C tr M δ μ μ' [.d (.list xs)]) : EvI C (iEnum C.K tr) M δ μ μ' (enumD xs) := fun σ H o R k => h σ H o _ fun vs H1 o1 x1 r => by
  obtain ⟨v, rfl, q⟩ := p1 r
  obtain ⟨a, vs, g1, g2, g3⟩ := Dp.lst_of q
  exact ⟨a, vs, by rw [g1], ex_l hide_le g2, k _ H1 o1 x1 (w_enumL g2 g3)⟩
end
end FD
namespace FD
open PySem L2 Evl
section
variable {C : Cfg} {M M' : List Addr} {δ δ' δ1 δ2 : List Ent} {μ μ' μ1 μ2 μ3 : Mem} {σ σ' σ1 σ2 : L2.St} {H H' : Hp} {e e1 e2 e3 : Ent} {ta tb te tc : TE} {t u : TT} {b c : Bool}
/-! ### what else is kept: all hidden lists that are not spoken of -/
theorem Ok.toG (o : Ok C M δ μ σ H) : Ok { C with G := hide (μ.map (·.1)) H } M δ μ σ H where
  len := o.len
  slot := o.slot
  mem := fun p hp => let ⟨a, _, c⟩ := o.mem p hp; ⟨a, hide_in (List.mem_map.mpr ⟨p, hp, rfl⟩) c.nt, c⟩
  nd := o.nd
  alloc := o.alloc
  sub := o.sub
  gr := hide_le
  base := o.base
theorem Ok.ofG (o : Ok C M δ μ σ H) (p : Ok { C with G := hide (μ.map (·.1)) H } M δ' μ' σ' H') : Ok C M δ' μ' σ' H' where
  len := p.len
  slot := p.slot
  mem := fun q hq => by
    obtain ⟨a, b, c⟩ := p.mem q hq
    refine ⟨a, ?_, c⟩
    cases z : C.G q.1 with
    | none => rfl
    | some u =>
      have hH := o.gr _ _ z
      have b' : hide (μ.map (·.1)) H q.1 = none := b
      by_cases hm : q.1 ∈ μ.map (·.1)
      · obtain ⟨r, hr, er⟩ := List.mem_map.mp hm
        have := (o.mem r hr).2.1
        rw [show r.1 = q.1 from er, z] at this; cases this
      · rw [hide_out hm, hH] at b'; cases b'
  nd := p.nd
  alloc := p.alloc
  sub := p.sub
  gr := fun a u z => by
    have hH := o.gr _ _ z
    refine p.gr a u ?_
    show hide (μ.map (·.1)) H a = some u
    rw [hide_out]
    · exact hH
    · intro hm
      obtain ⟨r, hr, er⟩ := List.mem_map.mp hm
      have := (o.mem r hr).2.1
      rw [show r.1 = a from er, z] at this; cases this
  base := p.base
theorem Ok.writeH (o : Ok C M δ μ σ H) {a : Addr} {ho : HO} (ha : a ∈ M) (hn : ∀ p ∈ μ, p.1 ≠ a) (hg : C.G a = none) (ht : isTo (H a) = false) (ht' : isT ho = false := by rfl) : Ok C M δ μ σ (upd H a ho) where
  len := o.len
  slot := fun i x h1 h2 => by rw [hide_upd ha ht ht']; exact o.slot i x h1 h2
  mem := fun p hp => by
    obtain ⟨b1, b2, b3⟩ := o.mem p hp
    rw [hide_upd ha ht ht']
    refine ⟨b1, b2, b3.mono (Ex.refl _) fun u e => ?_⟩
    rw [upd_ne (hn p hp)]; exact e
  nd := o.nd
  alloc := fun b hb => by
    by_cases q : b = a
    · subst q; rw [upd_same]; exact fun z => nomatch z
    · rw [upd_ne q]; exact o.alloc b hb
  sub := o.sub
  gr := Ex.mut o.gr hg
  base := by rw [hide_upd ha ht ht']; exact o.base

/-! ### targets -/
def TgX (K : PySem.W.Frag) (g : TG) (ts : List Nat) (d : PyData) (δ δ' : List Ent) : Prop := ∀ (C : Cfg) (M : List Addr) (μ : Mem) (σ : L2.St) (H : Hp) (v : V), C.K = K → Ok C M δ μ σ H → Dp K (hide M H) v d → ∀ Q : L2.St → Hp → Prop,
  (∀ σ', Ok C M δ' μ σ' H → σ'.length = σ.length → (∀ k, k ∉ ts → σ'[k]? = σ[k]?) → Q σ' H) → g v σ H Q
theorem tg_name {K : PySem.W.Frag} {i : Nat} {d : PyData} : TgX K (gName i) [i] d δ (δ.set i (.d d)) := fun C M μ σ H v hK o h Q k => by
  subst hK
  refine k _ (o.set i (e := .d d) h) (List.length_set ..) fun j hj => ?_
  rw [List.getElem?_set_ne (fun z => hj (by simp [z]))]
theorem tg_tup2 {K : PySem.W.Frag} {i j : Nat} {d1 d2 : PyData} : TgX K (gTup K 2 (gCons (gName i) (gCons (gName j) gNil))) [i, j] (.tuple [d1, d2]) δ ((δ.set i (.d d1)).set j (.d d2)) := fun C M μ σ H v hK o h Q k => by
  subst hK
  obtain ⟨a, vs, q1, q2, q3⟩ := Dp.tup_of h
  cases q3 with
  | cons h1 q3 =>
    cases q3 with
    | cons h2 q3 =>
      cases q3
      refine ⟨a, _, q1, ex_t hide_le q2, rfl, _, _, rfl, _, _, rfl, rfl, ?_⟩
      refine k _ ((o.set i (e := .d d1) h1).set j (e := .d d2) h2) (by rw [List.length_set, List.length_set]) fun m hm => ?_
      rw [List.getElem?_set_ne (fun z => hm (by simp [z])), List.getElem?_set_ne (fun z => hm (by simp [z]))]

/-! ### a comprehension -/
def wipeE (δ : List Ent) : List Nat → List Ent
  | [] => δ
  | v :: vs => (wipeE δ vs).set v .u
theorem wipeE_length (δ : List Ent) : ∀ vs, (wipeE δ vs).length = δ.length
  | [] => rfl
  | v :: vs => by unfold wipeE; rw [List.length_set, wipeE_length δ vs]
theorem wipe_get {σ : L2.St} {i : Nat} : ∀ {vs : List Nat}, i ∉ vs → (wipe σ vs)[i]? = σ[i]?
  | [], _ => rfl
  | v :: vs, h => by
    unfold wipe
    rw [List.getElem?_set_ne (fun z => h (by simp [z])), wipe_get (fun z => h (List.mem_cons_of_mem _ z))]
theorem wipe_at {σ : L2.St} {i : Nat} : ∀ {vs : List Nat}, i ∈ vs → i < σ.length → (wipe σ vs)[i]? = some none
  | v :: vs, h, hl => by
    unfold wipe
    by_cases q : v = i
    · subst q; rw [List.getElem?_set_self (by rw [wipe_length]; exact hl)]
    · rw [List.getElem?_set_ne q]
      exact wipe_at ((List.mem_cons.mp h).elim (fun z => absurd z.symm q) id) hl
theorem wipeE_get {i : Nat} {e : Ent} : ∀ {vs : List Nat}, (wipeE δ vs)[i]? = some e → e ≠ .u → δ[i]? = some e ∧ i ∉ vs
  | [], h, _ => ⟨h, by simp⟩
  | v :: vs, h, hu => by
    unfold wipeE at h
    by_cases q : v = i
    · subst q
      have hl := (List.getElem?_eq_some_iff.mp h).1
      rw [List.length_set] at hl
      rw [List.getElem?_set_self hl] at h
      cases h
      exact absurd rfl hu
    · rw [List.getElem?_set_ne q] at h
      obtain ⟨h1, h2⟩ := wipeE_get (vs := vs) h hu
      exact ⟨h1, fun z => (List.mem_cons.mp z).elim (fun z => q z.symm) h2⟩
theorem Ok.wiped (o : Ok C M δ μ σ H) (vs : List Nat) : Ok C M (wipeE δ vs) μ (wipe σ vs) H :=
  o.weak (by rw [wipe_length, wipeE_length]; exact o.len) fun i e h1 h2 => by
    obtain ⟨a, b⟩ := wipeE_get h1 h2
    exact ⟨a, wipe_get b⟩
theorem wipe_eq {vs ts : List Nat} (hl : σ'.length = σ.length) (h : ∀ k, k ∉ ts → σ'[k]? = (wipe σ vs)[k]?) (s : ∀ k ∈ ts, k ∈ vs) : wipe σ' vs = wipe σ vs := by
  refine List.ext_getElem? fun k => ?_
  by_cases q : k ∈ vs
  · by_cases z : k < σ.length
    · rw [wipe_at q z, wipe_at q (by rw [hl]; exact z)]
    · rw [List.getElem?_eq_none (by rw [wipe_length, hl]; omega), List.getElem?_eq_none (by rw [wipe_length]; omega)]
  · rw [wipe_get q, wipe_get q, h k (fun z => q (s k z)), wipe_get q]
def lcD (b : Nat → Bool) (f : Nat → PyData) (i : Nat) : List PyData := ((List.range i).filter b).map f
theorem lcD_yes {b : Nat → Bool} {f : Nat → PyData} {i : Nat} (h : b i = true) : lcD b f (i + 1) = lcD b f i ++ [f i] := by
  unfold lcD
  rw [List.range_succ, List.filter_append, List.map_append, List.filter_cons, if_pos h]
  rfl
theorem lcD_no {b : Nat → Bool} {f : Nat → PyData} {i : Nat} (h : b i = false) : lcD b f (i + 1) = lcD b f i := by
  unfold lcD
  rw [List.range_succ, List.filter_append, List.map_append]
  rw [List.filter_cons, if_neg (by rw [h]; decide)]
  show _ ++ [] = _
  rw [List.append_nil]
theorem lcD_len (b : Nat → Bool) (f : Nat → PyData) (i : Nat) : (lcD b f i).length ≤ i := by
  unfold lcD
  rw [List.length_map]
  have h := List.length_filter_le b (List.range i)
  rw [List.length_range] at h
  exact h
/-- what one turn asks -/
structure LcTurn (C : Cfg) (g : TG) (tt : TT) (te : TE) (vs : List Nat) (M : List Addr) (δ : List Ent) (μ μ' : Mem) (d : PyData) (b : Bool) (f : PyData) : Prop where
  go : ∃ ts δ' μ1, TgX C.K g ts d (wipeE δ vs) δ' ∧ (∀ k ∈ ts, k ∈ vs) ∧ EvT C tt M δ' μ μ1 b ∧ (b = true → EvX C te M δ' μ1 μ' (.d f)) ∧ (b = false → μ1 = μ')
theorem x_wl {ds : List PyData} (h : EvX C te M δ μ μ' (.l ds)) : EvX C te M δ μ μ' (.d (.list ds)) := fun σ H o Q k => h σ H o Q fun v H' o' x r => by
  obtain ⟨a, vs, e1, e2, e3⟩ := r
  rw [e1]
  refine k _ H' o' x (.lst (sq_of e2) e3)
theorem x_lcNl {N : Hp → Prop} {wi : TI} {g : TG} {vs : List Nat} {xs : List PyData} (S : Nat → Mem) (b : Nat → Bool) (f : Nat → PyData) (hi : EvIN C wi M δ μ (S 0) N xs) (hN : ∀ (i : Nat) (B : Hp) (D : Addr) (σ : L2.St) (H : Hp), i ≤ xs.length → Ok { C with B := B } (D :: M) δ (S i) σ H → N H) (hz : xs.length ≤ 100000)
    (hs : ∀ (i : Nat) (d : PyData), xs[i]? = some d → ∀ (G B : Hp) (D : Addr), LcTurn { C with G := G, B := B } g t te vs (D :: M) δ (S i) (S (i + 1)) d (b i) (f i)) :
    EvX C (tLc wi g t te vs) M δ μ (S xs.length) (.l (lcD b f xs.length)) := fun σ H o Q k => by
  refine hi σ H o _ fun J H1 o1 x1 W D hD => ?_
  have oB := o1.toB
  have hDM : D ∉ M := o1.fresh hD
  have o2 : Ok { C with B := hide M H1 } (D :: M) δ (S 0) σ (upd H1 D (.lst [])) :=
    (oB.new hD (mo := .lst []) ⟨[], upd_same, .nil⟩).mems (fun p hp => List.mem_cons_of_mem _ hp) o1.nd
  have hS : ∀ {i : Nat} {H'}, Ok { C with B := hide M H1 } (D :: M) δ (S i) σ H' → (∀ p ∈ S i, p.1 ∈ M) → ∀ p ∈ S i, p.1 ≠ D := fun o' h p hp z => hDM (z ▸ h p hp)
  have gD : C.G D = none := by
    cases z : C.G D with
    | none => rfl
    | some u => have := o1.gr D u z; rw [hD] at this; cases this
  refine ⟨fun i m H' => m = xs.length - i ∧ i ≤ xs.length ∧ (∀ p ∈ S i, p.1 ∈ M) ∧ Ok { C with B := hide M H1 } (D :: M) δ (S i) σ H' ∧ ∃ acc, H' D = some (.lst acc) ∧ DpAll C.K (hide (D :: M) H') acc (lcD b f i),
    ⟨xs.length, by simp, Nat.zero_le _, fun p hp => (o1.mem p hp).1, o2, [], upd_same, .nil⟩, ?_⟩
  rintro i m H' ⟨rfl, hi', hSM, oi, acc, hacc, dacc⟩
  by_cases hlt : i < xs.length
  · refine .inr ⟨W.go (D :: M) i H' hlt oi.alloc oi.base (hN i _ _ _ _ hi' oi), fun H'' => (∀ p ∈ S (i + 1), p.1 ∈ M) ∧ Ok { C with B := hide M H1 } (D :: M) δ (S (i + 1)) σ H'' ∧ ∃ acc, H'' D = some (.lst acc) ∧ DpAll C.K (hide (D :: M) H'') acc (lcD b f (i + 1)),
      fun H'' q => ⟨xs.length - (i + 1), by omega, rfl, hlt, q⟩, fun x H2 y => ?_⟩
    obtain ⟨e2, d, hd, dx⟩ := W.yld (D :: M) i H' x H2 hlt oi.alloc oi.base (hN i _ _ _ _ hi' oi) y
    have o3 := oi.grow e2
    have nD : ∀ p ∈ S i, p.1 ≠ D := hS oi hSM
    -- all that is hidden and not spoken of stays: the list at D
    have o4 := o3.toG
    obtain ⟨ts, δ', μ1, tg, hts, ht, he, hno⟩ := (hs i d hd (hide ((S i).map (·.1)) H2) (hide M H1) D).go
    have hD2 : H2 D = some (.lst acc) := e2 D _ hacc
    have gD2 : hide ((S i).map (·.1)) H2 D = some (.lst acc) := by
      rw [hide_out (fun z => ?_)]
      · exact hD2
      · obtain ⟨r, hr, er⟩ := List.mem_map.mp z
        exact nD r hr er
    refine tg _ _ _ _ _ _ rfl (o4.wiped vs) dx _ fun σ2 o5 hl2 hσ2 => ⟨wipe_eq (by rw [hl2, wipe_length]) hσ2 hts, ?_⟩
    refine ht σ2 H2 o5 _ fun H3 o6 x6 => ?_
    have memM : ∀ {μ9 : Mem} {δ9 : List Ent} {σ9 : L2.St} {H9 : Hp}, Ok { C with G := hide ((S i).map (·.1)) H2, B := hide M H1 } (D :: M) δ9 μ9 σ9 H9 → ∀ p ∈ μ9, p.1 ∈ M := fun o9 p hp => by
      have a := (o9.mem p hp).1
      have g9 : hide ((S i).map (·.1)) H2 p.1 = none := (o9.mem p hp).2.1
      rcases List.mem_cons.mp a with z | z
      · rw [z, gD2] at g9; cases g9
      · exact z
    cases hb : b i with
    | true =>
      rw [if_pos rfl]
      refine he hb σ2 H3 o6 _ fun v H4 o7 x7 r7 => ?_
      have hD4 : H4 D = some (.lst acc) := o7.gr D _ gD2
      have o8 : Ok { C with B := hide M H1 } (D :: M) δ (S (i + 1)) σ H4 := o3.swap (o3.ofG o7) (x6.trans x7)
      have hSM' : ∀ p ∈ S (i + 1), p.1 ∈ M := memM o7
      have hlen : acc.length ≤ i := by rw [dacc.length]; exact lcD_len b f i
      refine ⟨acc, hD4, sz_lt (by omega), hSM', o8.writeH List.mem_cons_self (fun p hp z => hDM (z ▸ hSM' p hp)) gD (by rw [hD4]; rfl), _, upd_same, ?_⟩
      rw [hide_upd List.mem_cons_self (by rw [hD4]; rfl) rfl, lcD_yes hb]
      exact (dpAll_mono ((hide_ex e2).trans (x6.trans x7)) _ _ dacc).append (.cons r7 .nil)
    | false =>
      rw [if_neg Bool.false_ne_true]
      have hm := hno hb
      subst hm
      refine ⟨memM o6, o3.swap (o3.ofG o6) x6, acc, o6.gr D _ gD2, ?_⟩
      rw [lcD_no hb]
      exact dpAll_mono ((hide_ex e2).trans x6) _ _ dacc
  · have ei : i = xs.length := by omega
    subst ei
    refine .inl ⟨W.stop (D :: M) H' oi.alloc oi.base (hN _ _ _ _ _ hi' oi), ?_⟩
    have s1 : ∀ a ∈ M, a ∈ D :: M := fun a ha => List.mem_cons_of_mem _ ha
    have oE : Ok C M δ (S xs.length) σ H' := (oi.drop (M := M) s1 hSM o1.sub).reB o1.base
    have xE : Ex (hide M H) (hide M H') := x1.trans (oi.base.trans (hide_sub s1))
    refine k _ H' oE xE ⟨D, acc, rfl, ?_, dpAll_mono (hide_sub s1) _ _ dacc⟩
    rw [hide_out hDM]; exact hacc
theorem x_lcN {N : Hp → Prop} {wi : TI} {g : TG} {vs : List Nat} {xs : List PyData} (S : Nat → Mem) (b : Nat → Bool) (f : Nat → PyData) (hi : EvIN C wi M δ μ (S 0) N xs) (hN : ∀ (i : Nat) (B : Hp) (D : Addr) (σ : L2.St) (H : Hp), i ≤ xs.length → Ok { C with B := B } (D :: M) δ (S i) σ H → N H) (hz : xs.length ≤ 100000)
    (hs : ∀ (i : Nat) (d : PyData), xs[i]? = some d → ∀ (G B : Hp) (D : Addr), LcTurn { C with G := G, B := B } g t te vs (D :: M) δ (S i) (S (i + 1)) d (b i) (f i)) :
    EvX C (tLc wi g t te vs) M δ μ (S xs.length) (.d (.list (lcD b f xs.length))) := x_wl (x_lcNl S b f hi hN hz hs)
theorem x_lc {wi : TI} {g : TG} {vs : List Nat} {xs : List PyData} (S : Nat → Mem) (b : Nat → Bool) (f : Nat → PyData) (hi : EvI C wi M δ μ (S 0) xs) (hz : xs.length ≤ 100000)
    (hs : ∀ (i : Nat) (d : PyData), xs[i]? = some d → ∀ (G B : Hp) (D : Addr), LcTurn { C with G := G, B := B } g t te vs (D :: M) δ (S i) (S (i + 1)) d (b i) (f i)) :
    EvX C (tLc wi g t te vs) M δ μ (S xs.length) (.d (.list (lcD b f xs.length))) := x_lcN S b f hi.toN (fun _ _ _ _ _ _ _ => trivial) hz hs
theorem lcD_all (f : Nat → PyData) (i : Nat) : lcD (fun _ => true) f i = (List.range i).map f := by
  unfold lcD
  rw [List.filter_eq_self.mpr (fun _ _ => rfl)]
/-- no test; every turn leaves the lists as they are -/
theorem x_lcP {wi : TI} {g : TG} {vs : List Nat} {xs : List PyData} (f : Nat → PyData) (hi : EvI C wi M δ μ μ' xs) (hz : xs.length ≤ 100000) {ts : List Nat} (dl : Nat → List Ent)
    (htg : ∀ (i : Nat) (d : PyData), xs[i]? = some d → TgX C.K g ts d (wipeE δ vs) (dl i)) (hts : ∀ k ∈ ts, k ∈ vs)
    (he : ∀ (i : Nat) (d : PyData), xs[i]? = some d → ∀ (G B : Hp) (D : Addr), EvX { C with G := G, B := B } te (D :: M) (dl i) μ' μ' (.d (f i))) :
    EvX C (tLc wi g tYes te vs) M δ μ μ' (.d (.list ((List.range xs.length).map f))) := by
  rw [← lcD_all]
  exact x_lc (fun _ => μ') (fun _ => true) f hi hz fun i d hd G B D => ⟨ts, dl i, μ', htg i d hd, hts, t_yes, fun _ => he i d hd G B D, fun z => nomatch z⟩
end
end FD
namespace FD
open PySem L2 Evl
/-! ### statements -/
def Run (C : Cfg) (ts : TS) (D : Ends) (M : List Addr) (δ : List Ent) (μ : Mem) : Prop := ∀ σ H, Ok C M δ μ σ H → ts D σ H
def Nx (C : Cfg) (D : Ends) (M : List Addr) (δ : List Ent) (μ : Mem) : Prop := ∀ σ H, Ok C M δ μ σ H → D.nx σ H
/-- a word about the state, held -/
def NX (C : Cfg) (M : List Addr) (P : List Ent → Mem → Prop) : L2.St → Hp → Prop := fun σ H => ∃ δ μ, P δ μ ∧ Ok C M δ μ σ H
section
variable {C : Cfg} {M M' : List Addr} {δ δ' δ1 δ2 : List Ent} {μ μ' μ1 μ2 μ3 : Mem} {σ σ' σ1 σ2 : L2.St} {H H' : Hp} {e e1 e2 e3 : Ent} {ta tb te tc : TE} {t u : TT} {b c : Bool} {D : Ends} {t1 t2 ts : TS}
theorem r_seq (h : Run C t1 { D with nx := t2 D } M δ μ) : Run C (tSeq t1 t2) D M δ μ := h
theorem r_next (h : Nx C D M δ μ) : Run C tNext D M δ μ := h
theorem r_brk (h : ∀ σ H, Ok C M δ μ σ H → D.bk σ H) : Run C tBreak D M δ μ := h
theorem r_cont (h : ∀ σ H, Ok C M δ μ σ H → D.ct σ H) : Run C tCont D M δ μ := h
theorem r_asg {i : Nat} (h : EvX C te M δ μ μ' e) (k : Nx C D M (δ.set i e) μ') : Run C (tAsg te (gName i)) D M δ μ := fun σ H o =>
  h σ H o _ fun v H' o' x r => k _ H' (o'.set i r)
theorem q_asg {i : Nat} (h : EvX C te M δ μ μ' e) (k : Run C t2 D M (δ.set i e) μ') : Run C (tSeq (tAsg te (gName i)) t2) D M δ μ := r_asg (D := { D with nx := t2 D }) h k
theorem r_drop (h : EvX C te M δ μ μ' e) (k : Nx C D M δ μ') : Run C (tDrop te) D M δ μ := fun σ H o => h σ H o _ fun v H' o' x r => k _ H' o'
theorem q_drop (h : EvX C te M δ μ μ' e) (k : Run C t2 D M δ μ') : Run C (tSeq (tDrop te) t2) D M δ μ := r_drop (D := { D with nx := t2 D }) h k
theorem r_par {i j : Nat} {tr : TA} (h : EvA C tr M δ μ μ' [e1, e2]) (k : Nx C D M ((δ.set i e1).set j e2) μ') : Run C (tPar i j tr) D M δ μ := fun σ H o =>
  h σ H o _ fun vs H' o' x r => by
    obtain ⟨v, w, rfl, q, q'⟩ := p2 r
    exact ⟨v, w, rfl, k _ H' ((o'.set i q).set j q')⟩
theorem q_par {i j : Nat} {tr : TA} (h : EvA C tr M δ μ μ' [e1, e2]) (k : Run C t2 D M ((δ.set i e1).set j e2) μ') : Run C (tSeq (tPar i j tr) t2) D M δ μ := r_par (D := { D with nx := t2 D }) h k
theorem r_if (h : EvT C t M δ μ μ' b) (h1 : b = true → Run C t1 D M δ μ') (h2 : b = false → Run C t2 D M δ μ') : Run C (tIfS t t1 t2) D M δ μ := fun σ H o => h σ H o _ fun H1 o1 x1 => by
  cases b with
  | true => exact h1 rfl σ H1 o1
  | false => exact h2 rfl σ H1 o1
theorem q_if {t3 : TS} (h : EvT C t M δ μ μ' b) (h1 : b = true → Run C t1 { D with nx := t3 D } M δ μ') (h2 : b = false → Run C t2 { D with nx := t3 D } M δ μ') : Run C (tSeq (tIfS t t1 t2) t3) D M δ μ := r_if (D := { D with nx := t3 D }) h h1 h2
/-- an if without an else -/
theorem q_when {t3 : TS} (h : EvT C t M δ μ μ' b) (h1 : b = true → Run C t1 { D with nx := t3 D } M δ μ') (h2 : b = false → Run C t3 D M δ μ') : Run C (tSeq (tIfS t t1 tNext) t3) D M δ μ := r_if (D := { D with nx := t3 D }) h h1 h2
/-- what the caller wants of an end with data -/
def Fin (C : Cfg) (D : Ends) (d : PyData) : Prop := ∀ v H, Ex C.G H → Dp C.K (hide C.M0 H) v d → D.rt v H
theorem r_retD {d : PyData} (h : EvX C te M δ μ μ' (.d d)) (k : Fin C D d) : Run C (tRet te) D M δ μ := fun σ H o => h σ H o _ fun v H1 o1 x1 r =>
  k v H1 o1.gr (dp_mono (hide_sub o1.sub) _ _ r)
theorem r_ret (h : EvX C te M δ μ μ' e) (k : ∀ σ v H, Ok C M δ μ' σ H → EntOk C.K (hide M H) e v → D.rt v H) : Run C (tRet te) D M δ μ := fun σ H o => h σ H o _ fun v H1 o1 x1 r => k σ v H1 o1 r
/-- one's own list handed back -/
theorem r_retM {a : Addr} {ds : List PyData} {j : Nat} (h : EvX C te M δ μ μ' (.m a)) (hj : μ'[j]? = some (a, .lst ds)) (ha : a ∉ C.M0) (k : Fin C D (.list ds)) : Run C (tRet te) D M δ μ := fun σ H o => h σ H o _ fun v H1 o1 x1 r => by
  have r' : v = .ref a := r
  obtain ⟨_, _, vs, q1, q2⟩ := o1.mem _ (List.mem_of_getElem? hj)
  refine k v H1 o1.gr ?_
  rw [r']
  refine .lst (sq_of ?_) (dpAll_mono (hide_sub o1.sub) _ _ q2)
  rw [hide_out ha]; exact q1
/-- x = [..]: a list of one's own -/
theorem r_new {i : Nat} {tr : TA} {ds : List PyData} (h : EvA C tr M δ μ μ' (ds.map Ent.d)) (hl : ds.length ≤ 100000) (k : ∀ p, p ∉ M → Nx C D (p :: M) (δ.set i (.m p)) ((p, .lst ds) :: μ')) : Run C (tAsg (tLst tr) (gName i)) D M δ μ := fun σ H o =>
  h σ H o _ fun vs H1 o1 x1 r => ⟨by have := (dpAll_of r).length; rw [this]; exact sz_of hl, fun p hp => by
    have o2 := o1.new hp (mo := .lst ds) (ho := .lst vs) ⟨vs, upd_same, dpAll_mono (hide_new hp) _ _ (dpAll_of r)⟩
    exact k p (o1.fresh hp) _ _ (o2.set i (e := .m p) rfl)⟩
theorem q_new {i : Nat} {tr : TA} {ds : List PyData} (h : EvA C tr M δ μ μ' (ds.map Ent.d)) (hl : ds.length ≤ 100000) (k : ∀ p, p ∉ M → Run C t2 D (p :: M) (δ.set i (.m p)) ((p, .lst ds) :: μ')) : Run C (tSeq (tAsg (tLst tr) (gName i)) t2) D M δ μ := r_new (D := { D with nx := t2 D }) h hl k
/-- x.append(e) -/
theorem r_app {j : Nat} {a : Addr} {ds : List PyData} {d : PyData} (hx : EvX C ta M δ μ μ1 (.m a)) (h : EvX C te M δ μ1 μ2 (.d d)) (h1 : μ1[j]? = some (a, .lst ds)) (hj : μ2[j]? = some (a, .lst ds)) (hz : ds.length < 100000) (k : Nx C D M δ (μ2.set j (a, .lst (ds ++ [d])))) :
    Run C (tDrop (tBM C.K "list" rAppend ta (tCons te tNil))) D M δ μ := fun σ H o => hx σ H o _ fun v H1 o1 x1 r1 => by
  have e1 : v = .ref a := r1
  subst e1
  obtain ⟨_, _, vs1, q1, q2⟩ := o1.mem _ (List.mem_of_getElem? h1)
  refine ⟨.inl ⟨rfl, _, SqL.of q1⟩, ?_⟩
  refine h σ H1 o1 _ fun w H2 o2 x2 r2 => ?_
  obtain ⟨_, _, vs, q3, q4⟩ := o2.mem _ (List.mem_of_getElem? hj)
  refine ⟨a, vs, w, rfl, rfl, q3, sz_lt (by rw [q4.length]; exact hz), ?_⟩
  refine k _ _ (o2.write hj ⟨_, upd_same, q4.append (.cons r2 .nil)⟩)
theorem q_app {j : Nat} {a : Addr} {ds : List PyData} {d : PyData} (hx : EvX C ta M δ μ μ1 (.m a)) (h : EvX C te M δ μ1 μ2 (.d d)) (h1 : μ1[j]? = some (a, .lst ds)) (hj : μ2[j]? = some (a, .lst ds)) (hz : ds.length < 100000) (k : Run C t2 D M δ (μ2.set j (a, .lst (ds ++ [d])))) :
    Run C (tSeq (tDrop (tBM C.K "list" rAppend ta (tCons te tNil))) t2) D M δ μ := r_app (D := { D with nx := t2 D }) hx h h1 hj hz k
/-- x[k] = e -/
theorem r_setL {j n : Nat} {a : Addr} {ds : List PyData} {d : PyData} {i : Int} (h : EvX C te M δ μ μ1 (.d d)) (hx : EvX C ta M δ μ1 μ2 (.m a)) (hi : EvX C tb M δ μ2 μ3 (.d (.int i))) (hj : μ3[j]? = some (a, .lst ds)) (hn : ixN ds.length i = some n) (k : Nx C D M δ (μ3.set j (a, .lst (ds.set n d)))) :
    Run C (tAsg te (gSub ta tb rSetL)) D M δ μ := fun σ H o => h σ H o _ fun v H1 o1 x1 r1 => hx σ H1 o1 _ fun w H2 o2 x2 r2 => hi σ H2 o2 _ fun z H3 o3 x3 r3 => by
  have e1 : w = .ref a := r2
  subst e1
  obtain ⟨_, _, vs, q3, q4⟩ := o3.mem _ (List.mem_of_getElem? hj)
  refine ⟨a, vs, i, n, rfl, Dp.int_of r3, q3, by rw [q4.length]; exact hn, ?_⟩
  exact k _ _ (o3.write hj ⟨_, upd_same, q4.set n (EntOk.mono (e := .d d) (x2.trans x3) r1)⟩)
theorem q_setL {j n : Nat} {a : Addr} {ds : List PyData} {d : PyData} {i : Int} (h : EvX C te M δ μ μ1 (.d d)) (hx : EvX C ta M δ μ1 μ2 (.m a)) (hi : EvX C tb M δ μ2 μ3 (.d (.int i))) (hj : μ3[j]? = some (a, .lst ds)) (hn : ixN ds.length i = some n) (k : Run C t2 D M δ (μ3.set j (a, .lst (ds.set n d)))) :
    Run C (tSeq (tAsg te (gSub ta tb rSetL)) t2) D M δ μ := r_setL (D := { D with nx := t2 D }) h hx hi hj hn k
/-- a for; B: what stood at its start -/
theorem r_forN {N : Hp → Prop} {wi : TI} {g : TG} {xs : List PyData} (hi : EvIN C wi M δ μ μ1 N xs) (P : Nat → List Ent → Mem → Prop) (hN : ∀ (i : Nat) (B : Hp) (δ1 : List Ent) (μ1 : Mem) (σ : L2.St) (H : Hp), i ≤ xs.length → P i δ1 μ1 → Ok { C with B := B } M δ1 μ1 σ H → N H) (h0 : P 0 δ μ1)
    (hs : ∀ B, Ex C.B B → ∀ (i : Nat) (d : PyData) (δ1 : List Ent) (μ1 : Mem), xs[i]? = some d → P i δ1 μ1 → ∃ tl δ2, TgX C.K g tl d δ1 δ2 ∧
      Run { C with B := B } ts { D with nx := NX { C with B := B } M (P (i + 1)), ct := NX { C with B := B } M (P (i + 1)), bk := D.nx } M δ2 μ1)
    (hd : ∀ δ1 μ1, P xs.length δ1 μ1 → Nx C D M δ1 μ1) : Run C (tFor wi g ts) D M δ μ := fun σ H o => by
  refine hi σ H o _ fun J H1 o1 x1 W => ?_
  refine ⟨fun i m σ' H' => m = xs.length - i ∧ i ≤ xs.length ∧ NX { C with B := hide M H1 } M (P i) σ' H', ⟨xs.length, by simp, Nat.zero_le _, δ, μ1, h0, o1.toB⟩, ?_⟩
  rintro i m σ' H' ⟨rfl, hi', δ1, μ1, hP, oi⟩
  by_cases hlt : i < xs.length
  · refine .inr ⟨W.go M i H' hlt oi.alloc oi.base (hN i _ _ _ _ _ hi' hP oi), NX { C with B := hide M H1 } M (P (i + 1)), fun σ2 H2 q => ⟨xs.length - (i + 1), by omega, rfl, hlt, q⟩, fun x H2 y => ?_⟩
    obtain ⟨e2, d, hd, dx⟩ := W.yld M i H' x H2 hlt oi.alloc oi.base (hN i _ _ _ _ _ hi' hP oi) y
    obtain ⟨tl, δ2, tg, run⟩ := hs (hide M H1) o1.base i d δ1 μ1 hd hP
    exact tg { C with B := hide M H1 } _ _ _ _ _ rfl (oi.grow e2) dx _ fun σ3 o3 _ _ => run σ3 H2 o3
  · have ei : i = xs.length := by omega
    subst ei
    exact .inl ⟨W.stop M H' oi.alloc oi.base (hN _ _ _ _ _ _ hi' hP oi), hd δ1 μ1 hP σ' H' (oi.reB o1.base)⟩
theorem r_for {wi : TI} {g : TG} {xs : List PyData} (hi : EvI C wi M δ μ μ1 xs) (P : Nat → List Ent → Mem → Prop) (h0 : P 0 δ μ1)
    (hs : ∀ B, Ex C.B B → ∀ (i : Nat) (d : PyData) (δ1 : List Ent) (μ1 : Mem), xs[i]? = some d → P i δ1 μ1 → ∃ tl δ2, TgX C.K g tl d δ1 δ2 ∧
      Run { C with B := B } ts { D with nx := NX { C with B := B } M (P (i + 1)), ct := NX { C with B := B } M (P (i + 1)), bk := D.nx } M δ2 μ1)
    (hd : ∀ δ1 μ1, P xs.length δ1 μ1 → Nx C D M δ1 μ1) : Run C (tFor wi g ts) D M δ μ := r_forN hi.toN P (fun _ _ _ _ _ _ _ _ _ => trivial) h0 hs hd
theorem q_for {wi : TI} {g : TG} {xs : List PyData} (hi : EvI C wi M δ μ μ1 xs) (P : Nat → List Ent → Mem → Prop) (h0 : P 0 δ μ1)
    (hs : ∀ B, Ex C.B B → ∀ (i : Nat) (d : PyData) (δ1 : List Ent) (μ1 : Mem), xs[i]? = some d → P i δ1 μ1 → ∃ tl δ2, TgX C.K g tl d δ1 δ2 ∧
      Run { C with B := B } ts { D with nx := NX { C with B := B } M (P (i + 1)), ct := NX { C with B := B } M (P (i + 1)), bk := t2 D } M δ2 μ1)
    (hd : ∀ δ1 μ1, P xs.length δ1 μ1 → Run C t2 D M δ1 μ1) : Run C (tSeq (tFor wi g ts) t2) D M δ μ := r_for (D := { D with nx := t2 D }) hi P h0 hs hd
theorem nx_of {P : List Ent → Mem → Prop} (h : P δ μ) : Nx C { D with nx := NX C M P } M δ μ := fun σ H o => ⟨δ, μ, h, o⟩
/-- a while; m falls -/
theorem r_while (P : Nat → List Ent → Mem → Prop) (m0 : Nat) (h0 : P m0 δ μ)
    (hs : ∀ (m : Nat) (δ1 : List Ent) (μ1 : Mem), P m δ1 μ1 → ∃ b μ2, EvT C t M δ1 μ1 μ2 b ∧
      (b = true → Run C ts { D with nx := NX C M (fun δ μ => ∃ m', m' < m ∧ P m' δ μ), ct := NX C M (fun δ μ => ∃ m', m' < m ∧ P m' δ μ), bk := D.nx } M δ1 μ2) ∧ (b = false → Nx C D M δ1 μ2)) : Run C (tWhile t ts) D M δ μ := fun σ H o => by
  refine ⟨fun m σ' H' => NX C M (P m) σ' H', ⟨m0, δ, μ, h0, o⟩, ?_⟩
  rintro m σ' H' ⟨δ1, μ1, hP, o1⟩
  obtain ⟨b, μ2, ht, h1, h2⟩ := hs m δ1 μ1 hP
  refine ht σ' H' o1 _ fun H2 o2 x2 => ?_
  cases b with
  | true =>
    rw [if_pos rfl]
    exact ⟨_, fun σ3 H3 ⟨δ3, μ3, ⟨m', hm, q⟩, o3⟩ => ⟨m', hm, δ3, μ3, q, o3⟩, h1 rfl σ' H2 o2⟩
  | false =>
    rw [if_neg Bool.false_ne_true]
    exact h2 rfl σ' H2 o2
theorem q_while (P : Nat → List Ent → Mem → Prop) (m0 : Nat) (h0 : P m0 δ μ)
    (hs : ∀ (m : Nat) (δ1 : List Ent) (μ1 : Mem), P m δ1 μ1 → ∃ b μ2, EvT C t M δ1 μ1 μ2 b ∧
      (b = true → Run C ts { D with nx := NX C M (fun δ μ => ∃ m', m' < m ∧ P m' δ μ), ct := NX C M (fun δ μ => ∃ m', m' < m ∧ P m' δ μ), bk := t2 D } M δ1 μ2) ∧ (b = false → Run C t2 D M δ1 μ2)) : Run C (tSeq (tWhile t ts) t2) D M δ μ := r_while (D := { D with nx := t2 D }) P m0 h0 hs
end

/-! ### promises -/
/-- data in, data out -/
def spD (K : PySem.W.Frag) (n : Nat) (Pre : List PyData → Prop) (F : List PyData → PyData) : Sp := fun vs H Q _ => vs.length = n ∧ ∃ M ds, (∀ a ∈ M, H a ≠ none) ∧ DpAll K (hide M H) vs ds ∧ Pre ds ∧ ∀ v H', Ex H H' → Dp K (hide M H') v (F ds) → Q v H'
/-- a list in the first place, changed -/
def spM (K : PySem.W.Frag) (n : Nat) (Pre : List PyData → List PyData → Prop) (F : List PyData → List PyData → PyData) (F2 : List PyData → List PyData → List PyData) : Sp := fun vs H Q _ =>
  vs.length = n ∧ ∃ M b bs ws ds, vs = .ref b :: ws ∧ b ∈ M ∧ (∀ a ∈ M, H a ≠ none) ∧ MOok K (hide M H) H b (.lst bs) ∧ DpAll K (hide M H) ws ds ∧ Pre bs ds ∧
    ∀ v H', Ex (hide [b] H) H' → MOok K (hide M H') H' b (.lst (F2 bs ds)) → Dp K (hide M H') v (F bs ds) → Q v H'
section
variable {C : Cfg} {M : List Addr} {δ : List Ent} {μ μ' μ1 μ2 : Mem} {tr : TA}
theorem x_call {n : Nat} {Pre : List PyData → Prop} {F : List PyData → PyData} {ds : List PyData} {E : XK} (h : EvA C tr M δ μ μ' (ds.map Ent.d)) (hn : ds.length = n) (hp : Pre ds) : EvX C (tCall (spD C.K n Pre F) [] E tr) M δ μ μ' (.d (F ds)) := fun σ H o Q k =>
  h σ H o _ fun vs H1 o1 x1 r1 => by
    rw [List.append_nil]
    refine ⟨by rw [(dpAll_of r1).length]; exact hn, M, ds, o1.alloc, dpAll_of r1, hp, fun v H2 e2 d2 => ?_⟩
    exact k v H2 (o1.grow e2) (x1.trans (hide_ex e2)) d2
theorem after_mut {σ : L2.St} {H1 H2 : Hp} {j : Nat} {b : Addr} {mo mo' : MO} (o1 : Ok C M δ μ σ H1) (hj : μ[j]? = some (b, mo)) (hex : Ex (hide [b] H1) H2) (hm : MOok C.K (hide M H2) H2 b mo') : Ok C M δ (μ.set j (b, mo')) σ H2 ∧ Ex (hide M H1) (hide M H2) := by
  have hb := o1.mem _ (List.mem_of_getElem? hj)
  have kp : ∀ a u, a ≠ b → H1 a = some u → H2 a = some u := fun a u ne e => hex a u (by rw [hide_out (by simp [ne])]; exact e)
  have x : Ex (hide M H1) (hide M H2) := fun a u e => by
    obtain ⟨q, e⟩ := hide_some e
    exact hide_mk (hex a u (hide_mk e fun z => q (by rw [List.mem_singleton.mp z]; exact hb.1))) q
  refine ⟨⟨o1.len, fun i y h1 h2 => let ⟨v, a, c⟩ := o1.slot i y h1 h2; ⟨v, a, c.mono x⟩, fun p hp => ?_, by rw [map_set_fst hj]; exact o1.nd, fun a ha => ?_, o1.sub, fun a u z => ?_, o1.base.trans x⟩, x⟩
  · obtain ⟨k, hk⟩ := List.getElem?_of_mem hp
    by_cases q : j = k
    · subst q
      rw [List.getElem?_set_self (List.getElem?_eq_some_iff.mp hj).1] at hk
      cases hk
      exact ⟨hb.1, hb.2.1, hm⟩
    · rw [List.getElem?_set_ne q] at hk
      obtain ⟨b1, b2, b3⟩ := o1.mem p (List.mem_of_getElem? hk)
      refine ⟨b1, b2, b3.mono x fun u e => kp _ u (fun z => ?_) e⟩
      have : (p.1, p.2) = p := rfl
      rw [← this, z] at hk
      exact q (nodup_fst o1.nd hj hk)
  · by_cases q : a = b
    · subst q; exact hm.there
    · cases z : H1 a with
      | none => exact absurd z (o1.alloc a ha)
      | some u => rw [kp a u q z]; exact fun z => nomatch z
  · refine kp a u (fun q => ?_) (o1.gr a u z)
    subst q
    have := hb.2.1
    rw [z] at this; cases this
theorem x_callM {n : Nat} {Pre : List PyData → List PyData → Prop} {F : List PyData → List PyData → PyData} {F2 : List PyData → List PyData → List PyData} {ds bs : List PyData} {E : XK} {b : Addr} {j : Nat}
    (h : EvA C tr M δ μ μ' (.m b :: ds.map Ent.d)) (hn : ds.length + 1 = n) (hj : μ'[j]? = some (b, .lst bs)) (hp : Pre bs ds) : EvX C (tCall (spM C.K n Pre F F2) [] E tr) M δ μ (μ'.set j (b, .lst (F2 bs ds))) (.d (F bs ds)) := fun σ H o Q k =>
  h σ H o _ fun vs H1 o1 x1 r1 => by
    rw [List.append_nil]
    cases r1 with
    | cons r0 rr =>
      have e0 : _ = V.ref b := r0
      subst e0
      have hb := o1.mem _ (List.mem_of_getElem? hj)
      refine ⟨by rw [List.length_cons, (dpAll_of rr).length]; exact hn, M, b, bs, _, ds, rfl, hb.1, o1.alloc, hb.2.2, dpAll_of rr, hp, fun v H2 e2 m2 d2 => ?_⟩
      obtain ⟨o2, x2⟩ := after_mut o1 hj e2 m2
      exact k v H2 o2 (x1.trans x2) d2
end

/-! ### a def's entry -/
def startE (n m : Nat) (es : List Ent) : List Ent := es ++ List.replicate (n - m) .u
theorem start_slot {K : PySem.W.Frag} {Hh : Hp} {N : List Str} {vs : List V} {es : List Ent} (h : Paired (EntOk K Hh) es vs) (i : Nat) (e : Ent) (h1 : (startE N.length es.length es)[i]? = some e) (h2 : e ≠ .u) : ∃ v, (L2.start N vs)[i]? = some (some v) ∧ EntOk K Hh e v := by
  unfold startE at h1
  unfold L2.start
  by_cases hi : i < es.length
  · rw [List.getElem?_append_left hi] at h1
    have hl : es.length = vs.length := by
      clear h1 hi
      induction h with
      | nil => rfl
      | cons _ _ ih => rw [List.length_cons, List.length_cons, ih]
    rw [List.getElem?_append_left (by rw [List.length_map, ← hl]; exact hi), List.getElem?_map]
    clear hi hl
    induction h generalizing i with
    | nil => simp at h1
    | cons r _ ih =>
      cases i with
      | zero => simp at h1; subst h1; exact ⟨_, rfl, r⟩
      | succ i => simpa using ih i (by simpa using h1)
  · rw [List.getElem?_append_right (Nat.le_of_not_lt hi)] at h1
    have := List.mem_replicate.mp (List.mem_of_getElem? h1)
    exact absurd this.2 h2
theorem pairedD {K : PySem.W.Frag} {H : Hp} : ∀ {ds : List PyData} {vs : List V}, DpAll K H vs ds → Paired (EntOk K H) (ds.map Ent.d) vs
  | _, _, .nil => .nil
  | _, _, .cons r t => .cons r (pairedD t)
theorem start_len {N : List Str} {vs : List V} {es : List Ent} (h : es.length = vs.length) (hN : vs.length ≤ N.length) : (L2.start N vs).length = (startE N.length es.length es).length := by
  unfold L2.start startE
  rw [List.length_append, List.length_append, List.length_map, List.length_replicate, List.length_replicate, h]
theorem paired_len {α β : Type} {F : α → β → Prop} {as : List α} {bs : List β} (h : Paired F as bs) : as.length = bs.length := by
  induction h with
  | nil => rfl
  | cons _ _ ih => rw [List.length_cons, List.length_cons, ih]
/-- the entry of a def that is handed data -/
theorem ok_startD {K : PySem.W.Frag} {H : Hp} {N : List Str} {M : List Addr} {vs : List V} {ds : List PyData} (al : ∀ a ∈ M, H a ≠ none) (h : DpAll K (hide M H) vs ds) (hN : vs.length ≤ N.length) :
    Ok ⟨K, M, H, hide M H⟩ M (startE N.length ds.length (ds.map Ent.d)) [] (L2.start N vs) H where
  len := by
    have := start_len (es := ds.map Ent.d) (vs := vs) (N := N) (by rw [List.length_map, h.length]) hN
    rw [List.length_map] at this; exact this
  slot := fun i e h1 h2 => start_slot (es := ds.map Ent.d) (pairedD h) i e (by rw [List.length_map]; exact h1) h2
  mem := fun p hp => absurd hp (by simp)
  nd := .nil
  alloc := al
  sub := fun _ ha => ha
  gr := Ex.refl _
  base := Ex.refl _
/-- the entry of a def whose first argument is a list that it changes -/
theorem ok_startM {K : PySem.W.Frag} {H : Hp} {N : List Str} {M : List Addr} {b : Addr} {bs : List PyData} {ws : List V} {ds : List PyData} (hb : b ∈ M) (al : ∀ a ∈ M, H a ≠ none) (hm : MOok K (hide M H) H b (.lst bs)) (h : DpAll K (hide M H) ws ds) (hN : ws.length + 1 ≤ N.length) :
    Ok ⟨K, M, hide [b] H, hide M H⟩ M (startE N.length (ds.length + 1) (.m b :: ds.map Ent.d)) [(b, .lst bs)] (L2.start N (.ref b :: ws)) H where
  len := by
    have := start_len (es := Ent.m b :: ds.map Ent.d) (vs := V.ref b :: ws) (N := N) (by rw [List.length_cons, List.length_cons, List.length_map, h.length]) (by rw [List.length_cons]; exact hN)
    rw [List.length_cons, List.length_map] at this; exact this
  slot := fun i e h1 h2 => start_slot (K := K) (Hh := hide M H) (es := Ent.m b :: ds.map Ent.d) (.cons rfl (pairedD h)) i e (by rw [List.length_cons, List.length_map]; exact h1) h2
  mem := fun p hp => by
    have : p = (b, .lst bs) := by simpa using hp
    subst this
    exact ⟨hb, hide_in (by simp) hm.nt, hm⟩
  nd := by simp
  alloc := al
  sub := fun _ ha => ha
  gr := hide_le
  base := Ex.refl _
end FD
/-! further rules: min of data, enumerate of a tuple, a call by keywords alone -/
namespace FD
open PySem PySem.Spec L2 PyProof.Rows PySem.W
section
variable {X : Cx}
def rMinD (K : PySem.W.Frag) : List V → Hp → VK → Prop := fun xs1 H Z => ∃ (a : Addr) (ws : List V) (x : PyData) (xs : List PyData), xs1 = [.ref a] ∧ SqL K H a ws ∧ L2.DpAll K H ws (x :: xs) ∧ AlikeAll (x :: xs) ∧ PyData.depthAll (x :: xs) ≤ 32 ∧
  ∀ (j : Nat) (w : V), ws[j]? = some w → (x :: xs)[j]? = some (minD x xs) → Z w H
theorem vals_back {xs : List V} {us : List Value} (r : Vals xs us) : ∀ {i : Nat} {u : Value}, us[i]? = some u → ∃ x, xs[i]? = some x ∧ RelV x u := by
  induction r with
  | nil => intro i u e; simp at e
  | cons r _ ih =>
    intro i u e
    cases i with
    | zero => exact ⟨_, rfl, by have z := e; simp at z; rw [← z]; exact r⟩
    | succ i =>
      obtain ⟨x, h1, h2⟩ := ih (i := i) (u := u) (by simpa using e)
      exact ⟨x, h1, h2⟩
theorem cr_minD (cm : X.calm = true) (gu : X.A.units + 64 < cLine) : CallR X (.builtin "min") (rMinD X.K) := by
  intro pn sh τ H xs1 us1 Z V0 r h
  obtain ⟨a, ws, x, xs, rfl, hsq, dd, al, dp, w9⟩ := h
  obtain ⟨zs, rZ, gl, _⟩ := V0.list hsq
  rw [Vals.ref1 r]
  obtain ⟨as, rm⟩ := Dp.readsAll V0 _ _ zs dd rZ
  have hn : zs.toArray.size = xs.length + 1 := by
    rw [List.size_toArray, ← rZ.length, dd.length, List.length_cons]
  refine call_min_walkH (iter_listW (A := X.A.in1) (V0.ok.hd cm) gl.isList fun s₂ e W sw hfp hw kp => ?_)
  refine ⟨_, _, _, _, _, _, _, sh.heap, _, rfl, W, sw, hfp, by omega, hw, kp, cmpIn_lt (A := X.A.in1) (vs := zs.toArray) (by simpa using rm) al (by show X.A.units + 1 + _ < _; omega), fun v s' hP m => ?_⟩
  obtain ⟨g1, k1, rfl, hk'⟩ := moved_old e rfl m
  have e1 : zs.toArray.size - 1 = xs.length := by omega
  rw [e1] at hP
  obtain ⟨a1, a2⟩ := argBest_fold dataLt PyData.none x xs xs.length (Nat.le_refl _)
  rw [List.take_length] at a2
  have hP' : zs[argBest (fun i j => dataLt ((x :: xs).getD i PyData.none) ((x :: xs).getD j PyData.none)) xs.length]? = some v := by simpa using hP
  obtain ⟨w, h1, h2⟩ := vals_back rZ hP'
  refine ⟨w, H, V0.kept hk', h2, w9 _ w h1 ?_⟩
  have hlt : argBest (fun i j => dataLt ((x :: xs).getD i PyData.none) ((x :: xs).getD j PyData.none)) xs.length < (x :: xs).length := by rw [List.length_cons]; omega
  rw [List.getD_eq_getElem?_getD] at a2
  rw [List.getElem?_eq_getElem hlt] at a2 ⊢
  rw [Option.getD_some] at a2
  rw [a2]
  rfl

/-! ### enumerate of a tuple -/
theorem meets_enum_newT (l : Addr) (ys : Array Value) (n : Nat) (d0 : Option Addr) (sv : Array (Option Value)) :
    Meets (Builtin.«enumerate.__new__» ⟨[.type "enumerate", .ref l], []⟩) (fun _ R sh => sh.heap.get? l = some { cls := .type "tuple", dict := d0, data := .seq ys n, slots := sv } ∧
      R (.ok (.ret (.ref (sh.heap.push { cls := .type "tuple_iterator", data := .fields #[.ref l, .int 0 0] }).objs.size)))
        { sh with heap := (sh.heap.push { cls := .type "tuple_iterator", data := .fields #[.ref l, .int 0 0] }).push { cls := .type "enumerate", data := .fields #[.none, .bool false, .ref sh.heap.objs.size, rawInt 0, .none, .none] } }) :=
  .of_wp fun prog w A R sh h => by
    obtain ⟨hp, g, d, k1, o9⟩ := sh; obtain ⟨gl, h⟩ := h
    have hsub := sub_enumerate
    have gL : Heap.IsTuple (Shared.heap ⟨hp, g, d, k1, o9⟩) l ys := ⟨_, gl, rfl, n, rfl⟩
    wp_walk using AutoSeq1.wpAny_loadPart' gl
    refine wpAny_stack_any fun sw => wpAny_pure ?_
    split
    · rename_i c _ _ _ _ _
      cases (c == Value.type ("enumerate" : String))
      · wp_walk using AutoSeq1.wpAny_loadPart' gl, wpAny_pyIter_tuple gL
        exact ⟨_, rfl, h⟩
      · wp_walk using AutoSeq1.wpAny_loadPart' gl, wpAny_pyIter_tuple gL
        exact ⟨_, rfl, h⟩
    · wp_walk using AutoSeq1.wpAny_loadPart' gl, wpAny_pyIter_tuple gL
      exact ⟨_, rfl, h⟩
theorem call_enumT {prog : Program} {w : World} {A : Around} {E : Value → Shared → Prop} {sh : Shared} {l : Addr} {ys : Array Value} {Z : Value → Shared → Prop} (gL : sh.heap.IsTuple l ys)
    (h : ∀ g1, IsEnum g1 (sh.heap.objs.size + 1) sh.heap.objs.size 0 .none → g1.IsTupleIter sh.heap.objs.size l 0 → g1.objs.size = sh.heap.objs.size + 2 →
      (∀ b o, sh.heap.get? b = some o → g1.get? b = some o) → Z (.ref (sh.heap.objs.size + 1)) { sh with heap := g1 }) :
    wpAny (model prog w) A (call (.type "enumerate") [.ref l]) Z E sh := by
  obtain ⟨⟨c, d0, dt, sv⟩, gl, cm, n, dd⟩ := gL
  replace cm : c = .type "tuple" := cm
  replace dd : dt = .seq ys n := dd
  subst cm dd
  refine callType_new PySem.F.called_enumerate (by decide) (PySem.F.typeCall_enumerate_1 _) (PySem.F.newCall_enumerate_1 _) (fun obj => PySem.F.args_object_init_2 obj _) PySem.F.entry_enumerate_new
    (meets_enum_newT l ys n d0 sv) ⟨gl, ?_⟩
  have gz : (sh.heap.push { cls := .type "tuple_iterator", data := .fields #[.ref l, .int 0 0] }).objs.size = sh.heap.objs.size + 1 := Heap.size_push ..
  show _ ∧ _
  rw [gz]
  have hE : IsEnum ((sh.heap.push { cls := .type "tuple_iterator", data := .fields #[.ref l, .int 0 0] }).push
      { cls := .type "enumerate", data := .fields #[.none, .bool false, .ref sh.heap.objs.size, rawInt 0, .none, .none] }) (sh.heap.objs.size + 1) sh.heap.objs.size 0 .none := by
    have := Heap.get?_push_size (sh.heap.push { cls := .type "tuple_iterator", data := .fields #[.ref l, .int 0 0] })
      (o := { cls := .type "enumerate", data := .fields #[.none, .bool false, .ref sh.heap.objs.size, rawInt 0, .none, .none] }) rfl
    rw [gz] at this; exact this
  refine ⟨⟨_, hE, rfl⟩, h _ hE ⟨_, Heap.get?_push_of_some _ (Heap.get?_push_size _ rfl), rfl, rfl⟩ (by rw [Heap.size_push, gz]) fun b o x => Heap.get?_push_of_some _ (Heap.get?_push_of_some _ x)⟩
/-- a tuple enumerated: each item in a nw pair -/
def IteT (K : PySem.W.Frag) (a : Addr) : It :=
  ⟨fun i H => ∃ (xs : List V) (x : V), SqT K H a xs ∧ xs[i]? = some x, fun i H v H' => ∃ T x, v = .ref T ∧ H T = none ∧ H' = upd H T (.tup [.int (i : Nat), x]) ∧ ∀ xs, SqT K H a xs → xs[i]? = some x, fun i H => ∃ xs : List V, SqT K H a xs ∧ xs.length = i⟩
theorem turn_enumT {P : Program} {w : World} {K : PySem.W.Frag} {elts : List Expr} {kk : Nat} {tpos : Pos} (a e it : Addr) (hai : a ≠ it) (hae : a ≠ e) :
    Turn P w K (.Tuple elts kk tpos) (IteT K a) [e, it] e (fun i h => (∃ w0, IsEnum h e it ((i : Nat) : Int) w0) ∧ h.IsTupleIter it a i ∧ e ≠ it) where
  mem := by simp
  obj := fun i h sw b hb => by
    obtain ⟨⟨w0, hE⟩, ⟨o, ho, cm, dd⟩, _⟩ := sw
    have eb : b = e ∨ b = it := by simpa using hb
    rcases eb with z | z
    · rw [z]; exact ⟨_, hE, fun v w9 => nomatch w9⟩
    · rw [z]; exact ⟨o, ho, fun v w9 => by rw [dd] at w9; cases w9⟩
  keep := fun i h g1 sw k => let ⟨⟨w0, hE⟩, hi, nE⟩ := sw; ⟨⟨w0, k e (by simp) _ hE⟩, hi.at fun o w9 => k it (by simp) o w9, nE⟩
  item := by
    intro X hP hw hK cm i pn sh τ H E V0 ff sw gg
    subst hP hw hK
    obtain ⟨⟨w0, hE⟩, hT, nE⟩ := sw
    obtain ⟨xs, x, sq, gx⟩ := gg
    obtain ⟨zs, rZ, p, gz⟩ := V0.tuple sq
    obtain ⟨y0, gu, rU⟩ := rZ.get gx
    have hel : e < sh.heap.objs.size := Heap.lt_size hE
    have hil : it < sh.heap.objs.size := by obtain ⟨_, w9, _⟩ := hT; exact Heap.lt_size w9
    have hlt : i < zs.toArray.size := by
      rw [List.size_toArray]; exact (List.getElem?_eq_some_iff.mp gu).1
    refine wpAny_pyNext_enum_itemD (Draws.tuple (A := X.A.in1) (V0.ok.hd cm) it a hai zs.toArray) hE ⟨hT, p⟩ hlt nE (by simp [nE, Ne.symm hae]) fun y1 g1 k1 hu' ho hst' hT gz kp => ?_
    obtain ⟨hit', _⟩ := hst'
    have eu : y1 = y0 := by
      have : zs[i]? = some y1 := by simpa using hu'
      rw [gu] at this; exact (Option.some.inj this).symm
    subst eu
    refine ⟨_, rfl, wpAny_letOwnedTupleGo_enum (s := { sh with heap := g1, toks := k1 + 1 }) ho fun g2 he' sb => ?_⟩
    have hT2 : g2.get? sh.heap.objs.size = some { cls := .type "tuple", data := .seq #[.int i k1, y1] } := (sb.2 _ (Nat.ne_of_gt hel)).trans hT
    have nw : ObjOk X.prog X.w (upd H sh.heap.objs.size (.tup [.int (i : Nat), x])) g2 sh.heap.objs.size (.tup [.int (i : Nat), x]) :=
      ⟨by show 2 ≤ sizeLine; decide, [.int i k1, y1], .cons ⟨_, rfl⟩ (.cons rU .nil), ⟨_, hT2, rfl, _, rfl⟩⟩
    have V1 : Inv X pn τ (upd H sh.heap.objs.size (.tup [.int (i : Nat), x])) { sh with heap := g2, toks := k1 + 1 } :=
      V0.turnedNew (ch := [e, it]) (fun b o8 hb w9 => (sb.2 b (fun z => hb (by simp [z]))).trans (kp b o8 (fun z => hb (by simp [z])) (fun z => hb (by simp [z])) w9)) ff (Nat.le_refl _) nw
    refine ⟨.ref sh.heap.objs.size, _, V1, rfl, ⟨_, x, rfl, V0.hok.fresh (Nat.le_refl _), rfl, fun ys hy => by rw [V0.tuple_inj hy sq]; exact gx⟩, ⟨⟨y1, ?_⟩, hit'.at fun o w9 => (sb.2 it (Ne.symm nE)).trans w9, nE⟩, fun b hb => ?_⟩
    · have up1 : ((i + 1 : Nat) : Int) = (i : Int) + 1 := by omega
      rw [up1]; exact he'
    · have lb : b < sh.heap.objs.size := by
        have eb : b = e ∨ b = it := by simpa using hb
        rcases eb with z | z
        · rw [z]; exact hel
        · rw [z]; exact hil
      rw [upd_ne (Nat.ne_of_lt lb)]
      exact (ff b hb).1
  done := by
    intro X hP hw hK cm i pn sh τ H E V0 ff sw gg
    subst hP hw hK
    obtain ⟨⟨w0, hE⟩, hT, nE⟩ := sw
    obtain ⟨xs, sq, gx⟩ := gg
    obtain ⟨zs, rZ, p, gz⟩ := V0.tuple sq
    obtain ⟨f0, f1, f2, f3, f4, f5⟩ := ff it (by simp)
    have gl : i = zs.toArray.size := by rw [List.size_toArray, ← rZ.length, gx]
    subst gl
    refine wpAny_pyNext_enum_endD (Draws.tuple (A := X.A.in1) (V0.ok.hd cm) it a hai zs.toArray) hE ⟨hT, p⟩ fun g1 eb => ⟨rfl, V0.turned (t' := sh.toks) (fun b o hb w9 => eb b o hb w9) f0 f1 f3 f4 f5⟩
  self := fun A i sh Z E sw h => let ⟨⟨_, hE⟩, _⟩ := sw; wpAny_pyIter_enum hE h
def iEnumT (K : PySem.W.Frag) (ta : TA) : TI := fun τ H R => ta τ H fun xs1 H1 => ∃ a xs, xs1 = [.ref a] ∧ SqT K H1 a xs ∧ R (IteT K a) H1
theorem pi_enumT {e : Expr} {ta : TA} {p pos tpos : Pos} {elts : List Expr} {kk : Nat} (gg : Gl X "enumerate") (mm : X.mg "enumerate" = none) (pa0 : PA X [e] ta) (hsq : starEach [e] X.env = [(false, eval e X.env)] := by rfl) :
    PI X (.Tuple elts kk tpos) (.Call (.Name "enumerate" p) [e] [] pos) (iEnumT X.K ta) := by
  refine ⟨fun pn sh τ H R V0 h => ?_⟩
  refine Call_ (ld_blt V0 gg mm boot_enumerate (PyProof.Rows.callWith_type1 (thn (pa0.run pos pn sh τ H _ V0 h) fun us1 s1 ⟨xs1, H1, V1, r1, q1⟩ => ?_) hsq rfl))
  obtain ⟨a, xs, ex, sq, w9⟩ := q1
  subst ex
  cases r1 with
  | cons r rr =>
    cases rr
    cases r
    obtain ⟨zs, rZ, p', gz⟩ := V1.tuple sq
    obtain ⟨oa, hoa, _⟩ := id p'
    have la : a < s1.heap.objs.size := Heap.lt_size hoa
    refine call_enumT p' fun g1 hE hT gz kp => wpAny_pyIter_enum hE ?_
    have V2 : Inv X pn τ H1 { s1 with heap := g1 } := V1.kept (t' := s1.toks) kp
    refine ⟨s1.heap.objs.size + 1, [s1.heap.objs.size + 1, s1.heap.objs.size], _, _, H1, rfl, V2, turn_enumT a (s1.heap.objs.size + 1) s1.heap.objs.size (Nat.ne_of_lt la) (Nat.ne_of_lt (Nat.lt_succ_of_lt la)), ⟨⟨.none, hE⟩, hT, Nat.succ_ne_self _⟩, fun b hb => ?_, w9⟩
    have eb : b = s1.heap.objs.size + 1 ∨ b = s1.heap.objs.size := by simpa using hb
    have ge0 : s1.heap.objs.size ≤ b := by
      rcases eb with z | z
      · rw [z]; exact Nat.le_succ _
      · rw [z]; exact Nat.le_refl _
    exact V1.fpOk ge0 (V1.hok.fresh ge0)
end
/-! ### f(k = v, ..) -/
section
variable {X : Cx} {CX : CXT} {k n : Nat} {f : Addr} {fd : FuncData} {ps ks : List Str} {sp : Sp} {E : XK} {x : Str} {p pos : Pos} {kws : List Keyword} {k1 : TA} {g : List Value → List Value → List Value} {gV : List V → List V → List V}
theorem pe_callN0 (F : FnOk X.prog X.w X.K X.mg X.base CX k f fd ps sp) (rm : Room k X.A) (gg : Gl X x) (mm : X.mg x = some (.ref f)) (kp : PySem.W.keepIn X.K (.ref f) = true) (hb : KBn X.K fd ps 0 ks g gV) (gx : Passes CX X E) (kW : PK X kws k1)
    (hAl : (backToKw pos (keywordEach kws X.env)).all (·.1.isSome) = true := by rfl) (hKs : (backToKw pos (keywordEach kws X.env)).filterMap (·.1) = ks := by rfl) (hDb : (x == ("__debug__" : Str)) = false := by decide)
    (hPl : ((backTo pos (starEach [] X.env)).any (·.1) || (backToKw pos (keywordEach kws X.env)).any (·.1.isNone)) = false := by rfl) :
    PE X (.Call (.Name x p) [] kws pos) (tCallN 0 ks.length sp gV E tNil k1) := by
  refine ⟨fun pn sh τ H Z V0 h => ?_⟩
  refine wpAny_Call_Name_kw (ld_glob V0 gg mm ?_ hDb)
  refine PySem.W.callWith_KW0 (h₀ := X.base) V0.ok.mod.kin kp hAl ?_ hPl
  refine thn (kW.run pos pn sh τ H _ V0 h) fun ws s2 ⟨zs, H2, V2, rz0, l1, l2, q2⟩ => ⟨V2.kIn, ?_⟩
  rw [hKs]
  exact run_fnN (us := []) (vs := []) F rm hb gx V2 .nil rz0 rfl l2 q2
end
end FD
namespace FD
open PySem L2 Evl
section
variable {C : Cfg} {M M' : List Addr} {δ δ' : List Ent} {μ μ' μ1 μ2 : Mem} {e : Ent} {ta tb te : TE} {tr tr' : TA}
theorem c_minD {x : PyData} {xs : List PyData} (r : Rdd μ e (.list (x :: xs))) (ha : PySem.W.AlikeAll (x :: xs)) (hd : PyData.depthAll (x :: xs) ≤ 32) : CallX C (rMinD C.K) M δ μ μ [e] (.d (PySem.W.minD x xs)) := fun σ H vs o h Q k => by
  obtain ⟨v, rfl, q⟩ := p1 h
  obtain ⟨a, ws, q1, q2, q3⟩ := r.lst o q
  refine ⟨a, ws, x, xs, by rw [q1], q2, (dpAll_mono hide_le _ _ q3).w, ha, hd, fun j w h1 h2 => ?_⟩
  obtain ⟨w', g1, g2⟩ := q3.get h2
  rw [h1] at g1
  cases g1
  exact k w H o (Ex.refl _) g2
theorem w_enumT {K : PySem.W.Frag} {Hh : Hp} {a : Addr} {vs : List V} {xs : List PyData} (h : SqT K Hh a vs) (hd : DpAll K Hh vs xs) : WalkD K (IteT K a) Hh (enumD xs) where
  go := fun M i H hi _ x => by
    rw [enumD_length, ← hd.length] at hi
    exact ⟨vs, vs[i], ex_t (x.trans hide_le) h, by simp [hi]⟩
  stop := fun M H _ x => ⟨vs, ex_t (x.trans hide_le) h, by rw [enumD_length, hd.length]⟩
  yld := fun M i H y H' hi al x q => by
    rw [enumD_length] at hi
    obtain ⟨T, v, rfl, hT, rfl, qv⟩ := q
    obtain ⟨v', g1, g2⟩ := hd.get (i := i) (d := xs[i]) (by simp [hi])
    have e1 := qv vs (ex_t (x.trans hide_le) h)
    rw [g1] at e1; cases e1
    obtain ⟨r1, r2⟩ := new_pair al hT (Dp.int (i : Nat)) (dp_mono x _ _ g2)
    exact ⟨r1, _, enumD_get (by simp [hi]), r2⟩
theorem i_enumT {xs : List PyData} (h : EvA C tr M δ μ μ' [.d (.tuple xs)]) : EvI C (iEnumT C.K tr) M δ μ μ' (enumD xs) := fun σ H o R k => h σ H o _ fun vs H1 o1 x1 r => by
  obtain ⟨v, rfl, q⟩ := p1 r
  obtain ⟨a, vs, g1, g2, g3⟩ := Dp.tup_of q
  exact ⟨a, vs, by rw [g1], ex_t hide_le g2, k _ H1 o1 x1 (w_enumT g2 g3)⟩
/-- f(k = v, ..), all data: the values in the parameters' order -/
theorem x_callN {n m : Nat} {Pre : List PyData → Prop} {F : List PyData → PyData} {ds es : List PyData} {E : XK} {gV : List V → List V → List V} (h : EvA C tr' M δ μ μ' (es.map Ent.d)) (hm : es.length = m)
    (hg : ∀ (H : Hp) (zs : List V), DpAll C.K H zs es → DpAll C.K H (gV [] zs) ds) (hn : ds.length = n) (hp : Pre ds) : EvX C (tCallN 0 m (spD C.K n Pre F) gV E tNil tr') M δ μ μ' (.d (F ds)) := fun σ H o Q k =>
  h σ H o _ fun vs H1 o1 x1 r1 => by
    have d1 := hg _ _ (dpAll_of r1)
    refine ⟨rfl, by rw [(dpAll_of r1).length]; exact hm, by rw [d1.length]; exact hn, M, ds, o1.alloc, d1, hp, fun v H2 e2 d2 => ?_⟩
    exact k v H2 (o1.grow e2) (x1.trans (hide_ex e2)) d2
end
end FD
/-! promises by a relation between what is handed in and what comes back; a def's proof -/
namespace FD
open PySem L2 Evl
def spR (K : PySem.W.Frag) (n : Nat) (R : List PyData → PyData → Prop) : Sp := fun vs H Q _ => vs.length = n ∧ ∃ M ds d, (∀ a ∈ M, H a ≠ none) ∧ DpAll K (hide M H) vs ds ∧ R ds d ∧ ∀ v H', Ex H H' → Dp K (hide M H') v d → Q v H'
def spW (K : PySem.W.Frag) (n : Nat) (R : List PyData → List PyData → PyData → List PyData → Prop) : Sp := fun vs H Q _ =>
  vs.length = n ∧ ∃ M b bs ws ds d bs', vs = .ref b :: ws ∧ b ∈ M ∧ (∀ a ∈ M, H a ≠ none) ∧ MOok K (hide M H) H b (.lst bs) ∧ DpAll K (hide M H) ws ds ∧ R bs ds d bs' ∧
    ∀ v H', Ex (hide [b] H) H' → MOok K (hide M H') H' b (.lst bs') → Dp K (hide M H') v d → Q v H'
section
variable {C : Cfg} {M : List Addr} {δ : List Ent} {μ μ' : Mem} {tr tr' : TA}
theorem x_callR {n : Nat} {R : List PyData → PyData → Prop} {ds : List PyData} {d : PyData} {E : XK} (h : EvA C tr M δ μ μ' (ds.map Ent.d)) (hp : R ds d) (hn : ds.length = n := by rfl) : EvX C (tCall (spR C.K n R) [] E tr) M δ μ μ' (.d d) := fun σ H o Q k =>
  h σ H o _ fun vs H1 o1 x1 r1 => by
    rw [List.append_nil]
    refine ⟨by rw [(dpAll_of r1).length]; exact hn, M, ds, d, o1.alloc, dpAll_of r1, hp, fun v H2 e2 d2 => ?_⟩
    exact k v H2 (o1.grow e2) (x1.trans (hide_ex e2)) d2
theorem x_callW {n : Nat} {R : List PyData → List PyData → PyData → List PyData → Prop} {ds bs bs' : List PyData} {d : PyData} {E : XK} {b : Addr} (j : Nat)
    (h : EvA C tr M δ μ μ' (.m b :: ds.map Ent.d)) (hp : R bs ds d bs') (hj : μ'[j]? = some (b, .lst bs) := by rfl) (hn : ds.length + 1 = n := by rfl) : EvX C (tCall (spW C.K n R) [] E tr) M δ μ (μ'.set j (b, .lst bs')) (.d d) := fun σ H o Q k =>
  h σ H o _ fun vs H1 o1 x1 r1 => by
    rw [List.append_nil]
    cases r1 with
    | cons r0 rr =>
      have e0 : _ = V.ref b := r0
      subst e0
      have hb := o1.mem _ (List.mem_of_getElem? hj)
      refine ⟨by rw [List.length_cons, (dpAll_of rr).length]; exact hn, M, b, bs, _, ds, d, bs', rfl, hb.1, o1.alloc, hb.2.2, dpAll_of rr, hp, fun v H2 e2 m2 d2 => ?_⟩
      obtain ⟨o2, x2⟩ := after_mut o1 hj e2 m2
      exact k v H2 o2 (x1.trans x2) d2
theorem x_callRN {n m : Nat} {R : List PyData → PyData → Prop} {ds es : List PyData} {d : PyData} {E : XK} {gV : List V → List V → List V} (h : EvA C tr' M δ μ μ' (es.map Ent.d)) (hg : ∀ (H : Hp) (zs : List V), DpAll C.K H zs es → DpAll C.K H (gV [] zs) ds) (hp : R ds d)
    (hm : es.length = m := by rfl) (hn : ds.length = n := by rfl) : EvX C (tCallN 0 m (spR C.K n R) gV E tNil tr') M δ μ μ' (.d d) := fun σ H o Q k =>
  h σ H o _ fun vs H1 o1 x1 r1 => by
    have d1 := hg _ _ (dpAll_of r1)
    refine ⟨rfl, by rw [(dpAll_of r1).length]; exact hm, by rw [d1.length]; exact hn, M, ds, d, o1.alloc, d1, hp, fun v H2 e2 d2 => ?_⟩
    exact k v H2 (o1.grow e2) (x1.trans (hide_ex e2)) d2
end
section
variable {P : Program} {w : World} {K : PySem.W.Frag} {mg : Str → Option Value} {base : Heap}
theorem def_R {x qual : Str} {st : Stmt} {f : Addr} {fd : FuncData} {N ps : List Str} {k : Nat} {R : List PyData → PyData → Prop} (F : Fun K x qual st f fd) (S : FnScope N ps (defScope st)) (hN : ps.length ≤ N.length)
    (h : ∀ (cdv : Value) (A : Around) (outer : List Env) (s : Shared) (H : Hp) (E : XK), Room k (A.deeper (PyProof.Rows.envOfC qual (defScope st) s.heap.objs.size f cdv)) →
      ∃ t, PSs (cxOf CX0 P w K mg base N qual (defScope st) f cdv A outer s H E).nox (defBody st) t ∧
        ∀ (M : List Addr) (G B : Hp) (ds : List PyData) (d : PyData), ds.length = ps.length → R ds d → ∀ D : Ends, Fin ⟨K, M, G, B⟩ D d → Run ⟨K, M, G, B⟩ t D M (startE N.length ds.length (ds.map Ent.d)) []) :
    FnOk P w K mg base CX0 (k + 1) f fd ps (spR K ps.length R) := by
  refine F.ok S (fun vs H Q E hs => hs.1) fun cdv A outer s H vs Q E hr hs => ?_
  obtain ⟨hn, M, ds, d, al, hd, hR, kk⟩ := hs
  obtain ⟨t, ht, run⟩ := h cdv A outer s H E hr
  exact ⟨t, ht, run M H (hide M H) ds d (by rw [← hd.length]; exact hn) hR _ (fun v H' e r => kk v H' e r) _ _ (ok_startD al hd (by rw [hn]; exact hN))⟩
theorem def_W {x qual : Str} {st : Stmt} {f : Addr} {fd : FuncData} {N ps : List Str} {k n : Nat} {R : List PyData → List PyData → PyData → List PyData → Prop} (F : Fun K x qual st f fd) (S : FnScope N ps (defScope st)) (hN : ps.length ≤ N.length) (hp : ps.length = n)
    (h : ∀ (cdv : Value) (A : Around) (outer : List Env) (s : Shared) (H : Hp) (E : XK), Room k (A.deeper (PyProof.Rows.envOfC qual (defScope st) s.heap.objs.size f cdv)) →
      ∃ t, PSs (cxOf CX0 P w K mg base N qual (defScope st) f cdv A outer s H E).nox (defBody st) t ∧
        ∀ (M : List Addr) (G B : Hp) (b : Addr) (bs ds : List PyData) (d : PyData) (bs' : List PyData), ds.length + 1 = n → R bs ds d bs' → ∀ D : Ends,
          (∀ (v : V) (M' : List Addr) (H' : Hp), Ex G H' → (∀ a ∈ M, a ∈ M') → MOok K (hide M' H') H' b (.lst bs') → Dp K (hide M' H') v d → D.rt v H') → Run ⟨K, M, G, B⟩ t D M (startE N.length (ds.length + 1) (.m b :: ds.map Ent.d)) [(b, .lst bs)]) :
    FnOk P w K mg base CX0 (k + 1) f fd ps (spW K n R) := by
  refine F.ok S (fun vs H Q E hs => hs.1.trans hp.symm) fun cdv A outer s H vs Q E hr hs => ?_
  obtain ⟨hn, M, b, bs, ws, ds, d, bs', rfl, hb, al, hm, hd, hR, kk⟩ := hs
  obtain ⟨t, ht, run⟩ := h cdv A outer s H E hr
  have hl : ws.length + 1 = n := by rw [List.length_cons] at hn; exact hn
  exact ⟨t, ht, run M (hide [b] H) (hide M H) b bs ds d bs' (by rw [← hd.length]; exact hl) hR _ (fun v M' H' e s m r => kk v H' e (m.mono (hide_sub s) fun _ q => q) (dp_mono (hide_sub s) _ _ r)) _ _ (ok_startM hb al hm hd (by rw [hl, ← hp]; exact hN))⟩
end
section
variable {C : Cfg} {M : List Addr} {δ : List Ent} {μ μ' : Mem} {te : TE} {D : Ends}
/-- handing back data, the changed list with it -/
theorem r_retW {b : Addr} {j : Nat} {mo : MO} {d : PyData} (h : EvX C te M δ μ μ' (.d d)) (hj : μ'[j]? = some (b, mo)) (k : ∀ (v : V) (M' : List Addr) (H' : Hp), Ex C.G H' → (∀ a ∈ C.M0, a ∈ M') → MOok C.K (hide M' H') H' b mo → Dp C.K (hide M' H') v d → D.rt v H') : Run C (tRet te) D M δ μ := fun σ H o => h σ H o _ fun v H1 o1 x1 r =>
  k v M H1 o1.gr o1.sub (o1.mem _ (List.mem_of_getElem? hj)).2.2 r
end
/-! ### the rules with the written part named (within a comprehension) -/
section
variable {X : Cx} {K : PySem.W.Frag}
theorem kix_tup (h : X.K = K) : IxR X (rIxT K) := h ▸ ix_tup
theorem kix_list (h : X.K = K) : IxR X (rIxL K) := h ▸ ix_list
theorem kop_eqD (h : X.K = K) (hu : X.A.units + 64 < cLine) : OpR X (compareOp .Eq) (rEqD K) := h ▸ op_eqD hu
theorem kop_neD (h : X.K = K) (hu : X.A.units + 64 < cLine) : OpR X (compareOp .NotEq) (rNeD K) := h ▸ op_neD hu
theorem klen (h : X.K = K) : CallR X (.builtin "len") (FD.rLenS K) := h ▸ call_len_seq
theorem ktuple (h : X.K = K) : CallR X (.type "tuple") (rTupleS K) := h ▸ call_tuple_of
theorem ksum (h : X.K = K) (hc : X.calm = true) : CallR X (.builtin "sum") (rSum K) := h ▸ cr_sum hc
theorem ksl_tupA (h : X.K = K) : SlR X (rSlA K) := h ▸ sl_tupA
theorem ksl_list (h : X.K = K) : SlR X (rSlL K) := h ▸ sl_list
theorem kop_catA (h : X.K = K) : OpR X (binaryOp .Add) (rCatA K) := h ▸ op_catA
end
/-! ### promises where the def chooses what comes back -/
def spP (K : PySem.W.Frag) (n : Nat) (Pre : List PyData → Prop) (Post : List PyData → PyData → Prop) : Sp := fun vs H Q _ => vs.length = n ∧ ∃ M ds, (∀ a ∈ M, H a ≠ none) ∧ DpAll K (hide M H) vs ds ∧ Pre ds ∧ ∀ v H' d, Post ds d → Ex H H' → Dp K (hide M H') v d → Q v H'
section
variable {P : Program} {w : World} {K : PySem.W.Frag} {mg : Str → Option Value} {base : Heap}
theorem def_P {x qual : Str} {st : Stmt} {f : Addr} {fd : FuncData} {N ps : List Str} {k : Nat} {Pre : List PyData → Prop} {Post : List PyData → PyData → Prop} (F : Fun K x qual st f fd) (S : FnScope N ps (defScope st)) (hN : ps.length ≤ N.length)
    (h : ∀ (cdv : Value) (A : Around) (outer : List Env) (s : Shared) (H : Hp) (E : XK), Room k (A.deeper (PyProof.Rows.envOfC qual (defScope st) s.heap.objs.size f cdv)) →
      ∃ t, PSs (cxOf CX0 P w K mg base N qual (defScope st) f cdv A outer s H E).nox (defBody st) t ∧
        ∀ (M : List Addr) (G B : Hp) (ds : List PyData), ds.length = ps.length → Pre ds → ∀ D : Ends, (∀ d, Post ds d → Fin ⟨K, M, G, B⟩ D d) → Run ⟨K, M, G, B⟩ t D M (startE N.length ds.length (ds.map Ent.d)) []) :
    FnOk P w K mg base CX0 (k + 1) f fd ps (spP K ps.length Pre Post) := by
  refine F.ok S (fun vs H Q E hs => hs.1) fun cdv A outer s H vs Q E hr hs => ?_
  obtain ⟨hn, M, ds, al, hd, hR, kk⟩ := hs
  obtain ⟨t, ht, run⟩ := h cdv A outer s H E hr
  exact ⟨t, ht, run M H (hide M H) ds (by rw [← hd.length]; exact hn) hR _ (fun d hp v H' e r => kk v H' d hp e r) _ _ (ok_startD al hd (by rw [hn]; exact hN))⟩
end
section
variable {C : Cfg} {M : List Addr} {δ : List Ent} {μ μ' : Mem} {tr tr' : TA} {D : Ends} {t2 : TS}
theorem r_asgP {i n : Nat} {Pre : List PyData → Prop} {Post : List PyData → PyData → Prop} {ds : List PyData} {E : XK} (h : EvA C tr M δ μ μ' (ds.map Ent.d)) (hp : Pre ds) (k : ∀ d, Post ds d → Nx C D M (δ.set i (.d d)) μ') (hn : ds.length = n := by rfl) :
    Run C (tAsg (tCall (spP C.K n Pre Post) [] E tr) (gName i)) D M δ μ := fun σ H o => h σ H o _ fun vs H1 o1 x1 r1 => by
  rw [List.append_nil]
  refine ⟨by rw [(dpAll_of r1).length]; exact hn, M, ds, o1.alloc, dpAll_of r1, hp, fun v H2 d hd e2 d2 => ?_⟩
  exact k d hd _ _ ((o1.grow e2).set i (e := .d d) d2)
theorem q_asgP {i n : Nat} {Pre : List PyData → Prop} {Post : List PyData → PyData → Prop} {ds : List PyData} {E : XK} (h : EvA C tr M δ μ μ' (ds.map Ent.d)) (hp : Pre ds) (k : ∀ d, Post ds d → Run C t2 D M (δ.set i (.d d)) μ') (hn : ds.length = n := by rfl) :
    Run C (tSeq (tAsg (tCall (spP C.K n Pre Post) [] E tr) (gName i)) t2) D M δ μ := r_asgP (D := { D with nx := t2 D }) h hp k hn
/-- x = f(k = v, ..) -/
theorem q_asgPN {i n m : Nat} {Pre : List PyData → Prop} {Post : List PyData → PyData → Prop} {ds es : List PyData} {E : XK} {gV : List V → List V → List V} (h : EvA C tr' M δ μ μ' (es.map Ent.d)) (hg : ∀ (H : Hp) (zs : List V), DpAll C.K H zs es → DpAll C.K H (gV [] zs) ds) (hp : Pre ds)
    (k : ∀ d, Post ds d → Run C t2 D M (δ.set i (.d d)) μ') (hm : es.length = m := by rfl) (hn : ds.length = n := by rfl) :
    Run C (tSeq (tAsg (tCallN 0 m (spP C.K n Pre Post) gV E tNil tr') (gName i)) t2) D M δ μ := fun σ H o => h σ H o _ fun vs H1 o1 x1 r1 => by
  have d1 := hg _ _ (dpAll_of r1)
  refine ⟨rfl, by rw [(dpAll_of r1).length]; exact hm, by rw [d1.length]; exact hn, M, ds, o1.alloc, d1, hp, fun v H2 d hd e2 d2 => ?_⟩
  exact k d hd _ _ ((o1.grow e2).set i (e := .d d) d2)
end
/-! ### shapes -/
theorem canLay_all : ∀ {l : List PyData}, (∀ d ∈ l, d.canLay0 = true) → PyData.canLayAll0 l = true
  | [], _ => by simp [PyData.canLayAll0]
  | x :: l, h => by
    rw [PyData.canLayAll0, h x List.mem_cons_self, canLay_all fun d hd => h d (List.mem_cons_of_mem _ hd)]
    rfl
theorem depth_all {n : Nat} : ∀ {l : List PyData}, (∀ d ∈ l, d.depth ≤ n) → PyData.depthAll l ≤ n
  | [], _ => by simp [PyData.depthAll]
  | x :: l, h => by
    rw [PyData.depthAll]
    exact Nat.max_le.mpr ⟨h x List.mem_cons_self, depth_all fun d hd => h d (List.mem_cons_of_mem _ hd)⟩
/-- data nested n deep at most -/
def Shp (n : Nat) (d : PyData) : Prop := d.canLay0 = true ∧ d.depth ≤ n
theorem Shp.shaped {n : Nat} {d : PyData} (h : Shp n d) (hn : n ≤ 64) : SeqAt.shaped d = true := by
  unfold SeqAt.shaped
  rw [h.1, decide_eq_true (Nat.le_trans h.2 hn)]
  rfl
theorem shp_int (n : Nat) (i : Int) : Shp n (.int i) := ⟨by simp [PyData.canLay0], by simp [PyData.depth]⟩
theorem shp_bool (n : Nat) (i : Bool) : Shp n (.bool i) := ⟨by simp [PyData.canLay0], by simp [PyData.depth]⟩
theorem shp_none (n : Nat) : Shp n .none := ⟨by simp [PyData.canLay0], by simp [PyData.depth]⟩
theorem shp_list {n : Nat} {l : List PyData} (h : ∀ d ∈ l, Shp n d) : Shp (n + 1) (.list l) := ⟨by rw [PyData.canLay0]; exact canLay_all fun d hd => (h d hd).1, by rw [PyData.depth]; exact Nat.succ_le_succ (depth_all fun d hd => (h d hd).2)⟩
theorem shp_tuple {n : Nat} {l : List PyData} (h : ∀ d ∈ l, Shp n d) : Shp (n + 1) (.tuple l) := ⟨by rw [PyData.canLay0]; exact canLay_all fun d hd => (h d hd).1, by rw [PyData.depth]; exact Nat.succ_le_succ (depth_all fun d hd => (h d hd).2)⟩
theorem shp_ints (n : Nat) (l : List Int) : Shp (n + 1) (.list (l.map .int)) := shp_list fun d hd => by
  obtain ⟨i, _, rfl⟩ := List.mem_map.mp hd
  exact shp_int n i
theorem shp_tints (n : Nat) (l : List Int) : Shp (n + 1) (.tuple (l.map .int)) := shp_tuple fun d hd => by
  obtain ⟨i, _, rfl⟩ := List.mem_map.mp hd
  exact shp_int n i
theorem shp_nil (n : Nat) : Shp (n + 1) (.list []) := shp_list fun d hd => by cases hd
theorem eqv_int (i j : Int) : PyData.eqv (.int i) (.int j) = (i == j) := by simp [PyData.eqv]
theorem eqv_ints : ∀ (xs ys : List Int), PyData.eqvAll (xs.map .int) (ys.map .int) = (xs == ys)
  | [], [] => by simp [PyData.eqvAll]
  | [], _ :: _ => by simp [PyData.eqvAll]
  | _ :: _, [] => by simp [PyData.eqvAll]
  | x :: xs, y :: ys => by
    rw [List.map_cons, List.map_cons, PyData.eqvAll, eqv_ints xs ys, eqv_int]
    rfl
/-! ### where the lists stay as they are -/
section
variable {C : Cfg} {M : List Addr} {δ : List Ent} {μ μ1 : Mem} {te ta tb : TE} {t : TT} {D : Ends} {e : Ent} {b : Bool} {tr : TA}
theorem x_cbP {r : List V → Hp → VK → Prop} {es : List Ent} (h : EvA C tr M δ μ μ1 es) (hr : CallX C r M δ μ1 μ1 es e) : EvX C (tCB r tr) M δ μ μ1 e := x_cb h hr
theorem x_ifP (h : EvT C t M δ μ μ1 b) (h1 : b = true → EvX C ta M δ μ1 μ1 e) (h2 : b = false → EvX C tb M δ μ1 μ1 e) : EvX C (tIf t ta tb) M δ μ μ1 e := x_if h h1 h2
theorem r_retP {d : PyData} (h : EvX C te M δ μ μ (.d d)) (k : Fin C D d) : Run C (tRet te) D M δ μ := r_retD h k
end
end FD
/-! promises that hand back a new list, which the caller may change; types of data; sequences of either kind -/
namespace FD
open PySem L2 Evl
/-- a new list comes back -/
def spN (K : PySem.W.Frag) (n : Nat) (R : List PyData → List PyData → Prop) : Sp := fun vs H Q _ => vs.length = n ∧ ∃ M ds es, (∀ a ∈ M, H a ≠ none) ∧ DpAll K (hide M H) vs ds ∧ R ds es ∧
  ∀ p H' ws, H p = none → Ex H H' → H' p = some (.lst ws) → DpAll K (hide (p :: M) H') ws es → Q (.ref p) H'
def FinN (C : Cfg) (D : Ends) (es : List PyData) : Prop := ∀ p H ws, C.G p = none → p ∉ C.M0 → Ex C.G H → H p = some (.lst ws) → DpAll C.K (hide (p :: C.M0) H) ws es → D.rt (.ref p) H
section
variable {P : Program} {w : World} {K : PySem.W.Frag} {mg : Str → Option Value} {base : Heap}
theorem def_N {x qual : Str} {st : Stmt} {f : Addr} {fd : FuncData} {N ps : List Str} {k : Nat} {R : List PyData → List PyData → Prop} (F : Fun K x qual st f fd) (S : FnScope N ps (defScope st)) (hN : ps.length ≤ N.length)
    (h : ∀ (cdv : Value) (A : Around) (outer : List Env) (s : Shared) (H : Hp) (E : XK), Room k (A.deeper (PyProof.Rows.envOfC qual (defScope st) s.heap.objs.size f cdv)) →
      ∃ t, PSs (cxOf CX0 P w K mg base N qual (defScope st) f cdv A outer s H E).nox (defBody st) t ∧
        ∀ (M : List Addr) (G B : Hp) (ds es : List PyData), ds.length = ps.length → R ds es → ∀ D : Ends, FinN ⟨K, M, G, B⟩ D es → Run ⟨K, M, G, B⟩ t D M (startE N.length ds.length (ds.map Ent.d)) []) :
    FnOk P w K mg base CX0 (k + 1) f fd ps (spN K ps.length R) := by
  refine F.ok S (fun vs H Q E hs => hs.1) fun cdv A outer s H vs Q E hr hs => ?_
  obtain ⟨hn, M, ds, es, al, hd, hR, kk⟩ := hs
  obtain ⟨t, ht, run⟩ := h cdv A outer s H E hr
  exact ⟨t, ht, run M H (hide M H) ds es (by rw [← hd.length]; exact hn) hR _ (fun p H' ws hp _ e q r => kk p H' ws hp e q r) _ _ (ok_startD al hd (by rw [hn]; exact hN))⟩
end
section
variable {C : Cfg} {M : List Addr} {δ : List Ent} {μ μ' μ1 μ2 : Mem} {tr tr' : TA} {D : Ends} {t2 : TS} {te tb ta : TE} {e2 : Ent} {i j : Nat}
/-- return [..] -/
theorem r_retN {es : List PyData} (h : EvA C tr M δ μ μ' (es.map Ent.d)) (hl : es.length ≤ 100000) (k : FinN C D es) : Run C (tRet (tLst tr)) D M δ μ := fun σ H o => h σ H o _ fun vs H1 o1 x1 r1 => ⟨by rw [(dpAll_of r1).length]; exact sz_of hl, fun p hp => by
  have g : C.G p = none := by
    cases z : C.G p with
    | none => rfl
    | some u => have := o1.gr p u z; rw [hp] at this; cases this
  have e : Ex H1 (upd H1 p (.lst vs)) := Ex.new hp
  have s : Ex (hide M H1) (hide (p :: C.M0) (upd H1 p (.lst vs))) := fun a u z => by
    obtain ⟨q, z⟩ := hide_some z
    have ne : a ≠ p := ne_of_none z hp
    exact hide_mk (by rw [upd_ne ne]; exact z) fun y => (List.mem_cons.mp y).elim (fun y => absurd y ne) fun y => q (o1.sub a y)
  exact k p _ vs g (fun z => o1.alloc p (o1.sub p z) hp) (o1.gr.trans e) upd_same (dpAll_mono s _ _ (dpAll_of r1))⟩
/-- return x, x a list of one's own -/
theorem r_retNM {a : Addr} {es : List PyData} {j : Nat} (h : EvX C te M δ μ μ' (.m a)) (hj : μ'[j]? = some (a, .lst es)) (ha : a ∉ C.M0) (k : FinN C D es) : Run C (tRet te) D M δ μ := fun σ H o => h σ H o _ fun v H1 o1 x1 r => by
  have r' : v = .ref a := r
  obtain ⟨q0, q3, vs, q1, q2⟩ := o1.mem _ (List.mem_of_getElem? hj)
  rw [r']
  refine k a H1 vs q3 ha o1.gr q1 (dpAll_mono (hide_sub fun b hb => ?_) _ _ q2)
  rcases List.mem_cons.mp hb with z | z
  · rw [z]; exact q0
  · exact o1.sub b z
theorem r_asgN {n : Nat} {R : List PyData → List PyData → Prop} {ds es : List PyData} {E : XK} (h : EvA C tr M δ μ μ' (ds.map Ent.d)) (hp : R ds es) (k : ∀ p, p ∉ M → Nx C D (p :: M) (δ.set i (.m p)) ((p, .lst es) :: μ')) (hn : ds.length = n := by rfl) :
    Run C (tAsg (tCall (spN C.K n R) [] E tr) (gName i)) D M δ μ := fun σ H o => h σ H o _ fun vs H1 o1 x1 r1 => by
  rw [List.append_nil]
  refine ⟨by rw [(dpAll_of r1).length]; exact hn, M, ds, es, o1.alloc, dpAll_of r1, hp, fun p H2 ws hp0 e2 hl d2 => ?_⟩
  have x : Ex (hide M H1) (hide (p :: M) H2) := fun a u z => by
    obtain ⟨q, z⟩ := hide_some z
    have ne : a ≠ p := ne_of_none z hp0
    exact hide_mk (e2 a u z) fun y => (List.mem_cons.mp y).elim (fun y => absurd y ne) q
  have pM := o1.fresh hp0
  have ok2 : Ok C (p :: M) δ ((p, .lst es) :: μ') σ H2 := by
    refine ⟨o1.len, fun i y h1 h2 => let ⟨v, a, c⟩ := o1.slot i y h1 h2; ⟨v, a, c.mono x⟩, fun q hq => ?_, ?_, fun b hb => ?_, fun a ha => List.mem_cons_of_mem _ (o1.sub a ha), o1.gr.trans e2, o1.base.trans x⟩
    · rcases List.mem_cons.mp hq with z | hq
      · subst z
        refine ⟨List.mem_cons_self, ?_, ws, hl, d2⟩
        cases z : C.G p with
        | none => rfl
        | some u => have := o1.gr p u z; rw [hp0] at this; cases this
      · obtain ⟨b1, b2, b3⟩ := o1.mem q hq
        exact ⟨List.mem_cons_of_mem _ b1, b2, b3.mono x fun u z => e2 _ u z⟩
    · rw [List.map_cons, List.nodup_cons]
      refine ⟨fun z => ?_, o1.nd⟩
      obtain ⟨q, hq, z⟩ := List.mem_map.mp z
      have y : q.1 = p := z
      exact pM (by rw [← y]; exact (o1.mem q hq).1)
    · rcases List.mem_cons.mp hb with z | hb
      · rw [z, hl]; exact fun y => nomatch y
      · cases z : H1 b with
        | none => exact absurd z (o1.alloc b hb)
        | some u => rw [e2 b u z]; exact fun y => nomatch y
  exact k p pM _ _ (ok2.set i (e := .m p) rfl)
theorem q_asgN {n : Nat} {R : List PyData → List PyData → Prop} {ds es : List PyData} {E : XK} (h : EvA C tr M δ μ μ' (ds.map Ent.d)) (hp : R ds es) (k : ∀ p, p ∉ M → Run C t2 D (p :: M) (δ.set i (.m p)) ((p, .lst es) :: μ')) (hn : ds.length = n := by rfl) :
    Run C (tSeq (tAsg (tCall (spN C.K n R) [] E tr) (gName i)) t2) D M δ μ := r_asgN (D := { D with nx := t2 D }) h hp k hn
/-- x, y = [..], e -/
theorem q_parN {ds : List PyData} (h : EvA C tr M δ μ μ1 (ds.map Ent.d)) (hl : ds.length ≤ 100000) (hb : ∀ p, p ∉ M → EvX C tb (p :: M) δ ((p, .lst ds) :: μ1) ((p, .lst ds) :: μ1) e2)
    (k : ∀ p, p ∉ M → Run C t2 D (p :: M) ((δ.set i (.m p)).set j e2) ((p, .lst ds) :: μ1)) : Run C (tSeq (tPar i j (tCons (tLst tr) (tCons tb tNil))) t2) D M δ μ := fun σ H o =>
  h σ H o _ fun vs H1 o1 x1 r => ⟨by have := (dpAll_of r).length; rw [this]; exact sz_of hl, fun p hp => by
    have o2 := o1.new hp (mo := .lst ds) (ho := .lst vs) ⟨vs, upd_same, dpAll_mono (hide_new hp) _ _ (dpAll_of r)⟩
    have pM := o1.fresh hp
    refine hb p pM σ _ o2 _ fun v H3 o3 x3 r3 => ?_
    exact ⟨.ref p, v, rfl, k p pM _ _ ((o3.set i (e := .m p) rfl).set j r3)⟩⟩

/-! ### either a list or a tuple -/
theorem o_seqL {i : Int} {ds : List PyData} {d : PyData} {e1 : Ent} (r : Rdd μ e1 (.list ds)) (ha : atI ds i = some d) : OpX C (rIx C.K) M δ μ μ e1 (.d (.int i)) (.d d) := fun σ H x y o h1 h2 Q k => .inl (o_ixL r ha σ H x y o h1 h2 Q k)
theorem o_seqT {i : Int} {ds : List PyData} {d : PyData} (ha : atI ds i = some d) : OpX C (rIx C.K) M δ μ μ (.d (.tuple ds)) (.d (.int i)) (.d d) := fun σ H x y o h1 h2 Q k => .inr (.inl (o_ixT ha σ H x y o h1 h2 Q k))

/-! ### isinstance -/
def tyD : PyData → String
  | .none => "NoneType"
  | .bool _ => "bool"
  | .int _ => "int"
  | .str _ => "str"
  | .list _ => "list"
  | .tuple _ => "tuple"
  | .dict _ => "dict"
theorem ty_dp {K : PySem.W.Frag} {H : Hp} {v : V} {d : PyData} (h : Dp K H v d) : TyX K H v (.type (tyD d)) := by
  cases h with
  | non => exact .base .non
  | bl b => exact .base (.bl b)
  | int i => exact .base (.int i)
  | str x => exact .base (.str x)
  | lst hs ha =>
    rcases hs with (hs | ⟨o, hs⟩) | ⟨o, its, n, hk, hc, _⟩
    · exact .base (.lst hs)
    · exact .base (.frz hs)
    · exact .kList hk hc
  | tup hs ha =>
    exact .base (.tup hs)
theorem x_isi {d : PyData} {n : String} {b : Bool} (h : EvX C ta M δ μ μ' (.d d)) (hb : kitB (tyD d) n = some b) : EvX C (tCB (rIsi C.K) (tCons ta (tCons (tC (.ty n)) tNil))) M δ μ μ' (.d (.bool b)) := fun σ H o Q k =>
  h σ H o _ fun v H1 o1 x1 r => ⟨v, .ty n, .type (tyD d), .type n, b, rfl, .ty n, ty_dp (dp_mono hide_le _ _ r), kit_ty hb, k _ H1 o1 x1 (.bl b)⟩
end
end FD
/-! sorted(set(t)), t a tuple of texts: the set's table walked in whatever order -/
namespace FD
open PySem PySem.Spec L2 PyProof.Rows PySem.W PySem.Froz
/-! ### the set's table keeps rising, and its mark -/
theorem tailTx_ris {ep : Nat} {es : Array (Int × Value)} {t : SetTable} {wd : Bool} (r : Ris t.place.toList) : Ris (tailTx ep es t wd).2.2.place.toList := by
  unfold tailTx
  by_cases c : (!wd && t.tooFull) = true
  · rw [if_pos c]; exact relayAll_ris _ _ _
  · rw [if_neg c]; exact r
theorem tailTx_led {ep : Nat} {es : Array (Int × Value)} {t : SetTable} {wd : Bool} : (tailTx ep es t wd).2.2.led = t.led := by
  unfold tailTx
  by_cases c : (!wd && t.tooFull) = true
  · rw [if_pos c]; exact relayAll_led _ _ _
  · rw [if_neg c]
theorem addTx_ris {hs : Int} {v : Value} {T : SD} (r : Ris T.2.2.place.toList) : Ris (addTx hs v T).2.2.place.toList := by
  have r1 := layNew_ris T.2.2 T.1 hs v r
  unfold addTx
  refine tailTx_ris ?_
  split <;> exact r1
theorem addTx_led {hs : Int} {v : Value} {T : SD} : (addTx hs v T).2.2.led = T.2.2.led := by
  have r1 := layNew_led T.2.2 T.1 hs v
  unfold addTx
  refine tailTx_led.trans ?_
  split <;> exact r1
/-- the set of texts at a, its members l (each once) -/
def TxS (P : Program) (w : World) (h : Heap) (a : Addr) (l : List Str) : Prop := ∃ T : SD, h.get? a = some (sObj "set" T) ∧ TxOk P w T l ∧ l.Nodup ∧ Ris T.2.2.place.toList ∧ (w.params.followText "set-order" = true ∨ T.2.2.led = true)
section
variable {P : Program} {w : World} {A : Around} {E : Value → Shared → Prop} {s : Shared}
theorem TxS.at_ {h h' : Heap} {a : Addr} {l : List Str} (x : TxS P w h a l) (k : ∀ o, h.get? a = some o → h'.get? a = some o) : TxS P w h' a l := let ⟨T, h1, r⟩ := x; ⟨T, k _ h1, r⟩
theorem ts_add {a : Addr} {l : List Str} {z : Str} {u : Tok} {Q : Bool → Shared → Prop} (x : TxS P w s.heap a l) (hb : l.length + 1 < scanBound)
    (hQ : ∀ h' l' b, Heap.SameBut a s.heap h' → TxS P w h' a l' → (∀ y, y ∈ l' ↔ y ∈ l ∨ y = z) → l'.length ≤ l.length + 1 → Q b { s with heap := h' }) : wpAny (model P w) A (setAddHashed a (.str z u) (hashStr w z)) Q E s := by
  obtain ⟨T, ho, F, hn, hr, hl⟩ := x
  by_cases hz : z ∈ l
  · obtain ⟨es, ep, t⟩ := T
    have hd : (sObj "set" (es, ep, t)).data = .set es ep t := rfl
    have hsz : es.size = l.length := F.sz
    have isz : (strKind P w).is z (.str z u) = true := is_str z u
    obtain ⟨e, he, hp⟩ := (F.mem z).mp hz
    unfold setAddHashed setAddHashedIn
    refine wpAny_holding (wpAny_bind (wpAny_setState_of ho hd F.fit ?_))
    dsimp only
    rw [byScan_of (x := Value.str z u) rfl (show es.size < scanBound by omega) F.el]
    simp only [↓reduceIte]
    unfold setAddByScan
    refine wpAny_bind ?_
    refine wpAny_bind (wpAny_rule ?_)
    refine wpAny_bind (wpAny_setScan_of (knd := strKind P w) (k := z) isz ho hd F.fit F.el ?_)
    cases hf : List.findIdx? (fun e => (strKind P w).is z e.2) es.toList with
    | none =>
      have c := List.findIdx?_eq_none_iff.mp hf e he
      rw [hp] at c
      cases c
    | some j =>
      dsimp only
      exact wpAny_pure (wpAny_pure (hQ s.heap l false (Heap.SameBut.refl a s.heap) ⟨(es, ep, t), ho, F, hn, hr, hl⟩ (fun y => ⟨.inl, fun q => q.elim id fun e => e ▸ hz⟩) (Nat.le_succ _)))
  · refine add_x ho F hz hb (hQ _ (z :: l) true (Heap.SameBut.update s.heap a _) ⟨_, get_upd _ ho rfl, add_ok u F, List.nodup_cons.mpr ⟨hz, hn⟩, addTx_ris hr, ?_⟩ (fun y => ?_) (Nat.le_refl _))
    · rw [addTx_led]; exact hl
    · rw [List.mem_cons]; exact Or.comm
/-- the loop that fills the set -/
theorem ts_fill {I : Addr} {fp wr : List Addr} {G : Array GenState → Array GenState → Prop} {n : Nat} {Pv : Nat → Value → Prop} {St : Nat → Shared → Prop} {R : Result → Shared → Prop}
    (W : WalksS P w A.in1 I fp wr G n Pv St) (S : Addr) (hSf : S ∉ fp) (zs : List Str) (hn : n = zs.length) (hb : zs.length + 1 < scanBound) (hval : ∀ i v, Pv i v → ∃ k t, zs[i]? = some k ∧ v = .str k t) :
    ∀ (k i : Nat) (sh : Shared), n - i = k → i ≤ n → St i sh → (∃ l, l.length ≤ i ∧ TxS P w sh.heap S l ∧ ∀ y, y ∈ l ↔ y ∈ zs.take i) →
      (∀ s' l, Moved (S :: wr) G sh s' → l.length ≤ n → TxS P w s'.heap S l → (∀ y, y ∈ l ↔ y ∈ zs) → R (.ok (.ret .none)) s') →
      codeAny (model P w) A (.builtin "set.update.loop" ⟨[.ref S, .ref I], []⟩) R sh := by
  have nw : S ∉ wr := fun h => hSf (W.sub _ h)
  have up : ∀ b ∈ wr, b ∈ S :: wr := fun b hb => List.mem_cons_of_mem _ hb
  intro k
  induction k with
  | zero =>
    intro i sh ek hi st0 ⟨l, hl, hT, hm⟩ hR
    obtain rfl : i = n := by omega
    refine codeAny_builtin F.entry_set_update_loop ?_
    rw [Around.under_plainId F.plain_set_update_loop _]
    show wpAny _ A.in1 (pyNext (.ref I) >>= _) _ _ sh
    refine wpAny_bind (W.done sh _ _ st0 fun s' mv => ?_)
    show wpAny _ A.in1 (ret Value.none) _ _ s'
    have e : zs.take i = zs := List.take_of_length_le (by omega)
    rw [e] at hm
    exact wpAny_pure (hR s' l (mv.mono up) hl (hT.at_ fun o q => mv.heap S o nw q) hm)
  | succ k ih =>
    intro i sh ek hi st0 ⟨l, hl, hT, hm⟩ hR
    have lt0 : i < n := by omega
    refine codeAny_builtin F.entry_set_update_loop ?_
    rw [Around.under_plainId F.plain_set_update_loop _]
    show wpAny _ A.in1 (pyNext (.ref I) >>= _) _ _ sh
    refine wpAny_bind (W.item i sh _ _ lt0 st0 fun v s1 pv st1 mv => ?_)
    obtain ⟨z, t, hz, rfl⟩ := hval i v pv
    have hT1 : TxS P w s1.heap S l := hT.at_ fun o q => mv.heap S o nw q
    show wpAny _ A.in1 (holding [Value.str z t] (setAdd S (.str z t)) >>= _) _ _ s1
    refine wpAny_bind (wpAny_holding ?_)
    unfold setAdd
    refine wpAny_holding ?_
    refine wpAny_bind ((strKind P w).pyHash (k := z) (is_str z t) ?_)
    refine ts_add (s := { s1 with toks := s1.toks + 1 }) hT1 (by omega) fun g1 l1 b sb hT2 hm2 hl2 => ?_
    have hm3 : ∀ y, y ∈ l1 ↔ y ∈ zs.take (i + 1) := fun y => by
      rw [hm2, hm, List.take_add_one, hz]
      simp [List.mem_append]
    refine wpAny_pure ⟨plainId_quiet F.plain_set_update_loop _, ih (i + 1) _ (by omega) lt0 (W.frame _ s1 _ _ st1 (Nat.le_succ _) fun b hb o q => ?_) ⟨_, by omega, hT2, hm3⟩ fun s2 l2 mv2 hl3 hT3 hm4 => ?_⟩
    · rw [sb.2 b (fun q : b = S => hSf (by rw [← q]; exact hb))]; exact q
    · refine hR s2 l2 (Moved.trans W.gtrans ((mv.mono up).then_heap (Nat.le_succ _) fun b o hb q => ?_) mv2) hl3 hT3 hm4
      rw [sb.2 b (fun z : b = S => hb (by rw [z]; exact List.mem_cons_self))]; exact q
set_option maxHeartbeats 12000000 in
/-- set(t), t a tuple of texts -/
theorem call_setT {l : Addr} {items : Array Value} (zs : List Str) {Q : Value → Shared → Prop} (hh : A.handled = none) (hl : s.heap.IsTuple l items) (hit : StrsAre items.toList zs) (hb : zs.length + 1 < scanBound)
    (h : ∀ (h' : Heap) (tk : Nat) (ks : List Str), TxS P w h' s.heap.objs.size ks → (∀ y, y ∈ ks ↔ y ∈ zs) → ks.length ≤ zs.length → (∀ b o, s.heap.get? b = some o → h'.get? b = some o) → Q (.ref s.heap.objs.size) { s with heap := h', toks := tk }) :
    wpAny (model P w) A (call (.type "set") [.ref l]) Q E s := by
  have eN : items.size = zs.length := by rw [← StrsAre.length hit, Array.length_toList]
  obtain ⟨c, tl, hmro⟩ := F.called_set.mro
  have hmade := F.called_set.made
  have hsub := F.called_set.sub
  refine wpAny_call (codeAny_of_tree ?_)
  show wpAny _ _ (callAny (.type "set") _) _ _ _
  refine wpAny_pure ⟨Code.quiet_builtin _ (by decide +kernel), codeAny_builtin F.entry_type_call ?_⟩
  rw [Around.under_plain (weight_type_call_type "set" [.ref l] []) rfl]
  have h1 := F.called_set.notType
  have h2 := F.called_set.canCreate
  have hct := F.typeCall_set_1 (.ref l)
  repeat (any_goals (first | assumption | wp_step))
  generalize eS : ({ cls := .type "set", dict := none, data := .set #[] 0 (.fresh 0 0 (!w.params.followText "set-order")) } : Obj) = o0
  refine codeAny_mono (code_set_led1 (.ref l) (E := E) (Q₁ := fun obj t => obj = .ref s.heap.objs.size ∧ t = { s with heap := s.heap.push o0 }) ⟨rfl, by rw [eS]⟩) fun r t hr => ?_
  cases r with
  | error e => exact hr
  | ok fl =>
    cases fl with
    | ret obj =>
      obtain ⟨rfl, rfl⟩ := hr
      have hS : (s.heap.push o0).get? s.heap.objs.size = some o0 := Heap.get?_push_size _ (by rw [← eS]; rfl)
      have hT : Shared.TypeIs { s with heap := s.heap.push o0 } (.ref s.heap.objs.size) "set" := ⟨_, hS, by rw [← eS]⟩
      have hli := F.called_set.init.lookup
      have hbi := F.called_set.init.bind (.ref s.heap.objs.size)
      repeat (any_goals (first | assumption | wp_step))
      refine codeAny_mono (codeAny_call_builtin (R := wants (fun r s₂ => r = .none ∧ ∃ h' tk ks, s₂ = { s with heap := h', toks := tk } ∧ TxS P w h' s.heap.objs.size ks ∧ (∀ y, y ∈ ks ↔ y ∈ zs) ∧ ks.length ≤ zs.length ∧
          (∀ b o, s.heap.get? b = some o → h'.get? b = some o)) E) F.called_set.init.plain F.entry_set_init (check_set_init_1 hT ?_)) fun r₂ s₂ hr₂ => ?_
      · obtain ⟨ol, hol, hcl, nl, hdl⟩ := hl
        obtain ⟨ocls, odict, odata, oslots⟩ := ol
        simp only at hcl hdl
        subst hcl; subst hdl
        have hol' : (s.heap.push o0).get? l = some { cls := .type "tuple", dict := odict, data := .seq items nl, slots := oslots } := Heap.get?_push_of_some _ hol
        have hsls := F.sub_tuple_set
        have hslf := F.sub_tuple_frozenset
        have hne : (Value.type "tuple" == Value.type "dict") = false := by decide
        have tl1 : (s.heap.push o0).IsTuple l items := ⟨_, hol', rfl, nl, rfl⟩
        subst eS
        unfold Builtin.«set.__init__» noKeywords Builtin.Frozenset.updateFrom
        generalize hPI : pyIter = PI
        wp_walk
        subst hPI
        refine wpAny_pyIter_tuple tl1 ?_
        refine wpAny_bind (wpAny_runValue ?_)
        have ltl : l < s.heap.objs.size := Heap.lt_size hol
        have hh3 : A.in1.in1.in1.handled = none := by simp [hh]
        have eP : ∀ o : Obj, (s.heap.push o).objs.size = s.heap.objs.size + 1 := fun o => Heap.size_push ..
        have neI : l ≠ (s.heap.push { cls := .type "set", dict := none, data := .set #[] 0 (.fresh 0 0 (!w.params.followText "set-order")) }).objs.size := by rw [eP]; exact Nat.ne_of_lt (Nat.lt_succ_of_lt ltl)
        have outS : s.heap.objs.size ∉ [(s.heap.push { cls := .type "set", dict := none, data := .set #[] 0 (.fresh 0 0 (!w.params.followText "set-order")) }).objs.size, l] := by
          rw [eP]; simp only [List.mem_cons, List.not_mem_nil, or_false, not_or]
          exact ⟨Nat.ne_of_lt (Nat.lt_succ_self _), Nat.ne_of_gt ltl⟩
        have hval : ∀ (i : Nat) (v : Value), items[i]? = some v → ∃ k t, zs[i]? = some k ∧ v = .str k t := fun i v hv => by
          have hi : i < zs.length := by rw [← eN]; exact (Array.getElem?_eq_some_iff.mp hv).1
          obtain ⟨t, e⟩ := SS.strs_at hit i v (by rw [Array.getElem?_toList]; exact hv)
          refine ⟨zs[i], t, List.getElem?_eq_getElem hi, ?_⟩
          rw [e, List.getD_eq_getElem?_getD, List.getElem?_eq_getElem hi] <;> rfl
        refine ts_fill ((Walks.tuple hh3 _ l neI items).toS) s.heap.objs.size outS zs eN hb hval (items.size - 0) 0 _ (by omega) (Nat.zero_le _)
          ⟨⟨_, Heap.get?_push_size _ rfl, rfl, rfl⟩, (tl1.push _)⟩ ?_ ?_
        · refine ⟨[], Nat.le_refl 0, ⟨(#[], 0, .fresh 0 0 (!w.params.followText "set-order")), ?_, TxOk.nil (by rfl), List.nodup_nil, List.Pairwise.nil, ?_⟩, fun y => by simp⟩
          · refine (Heap.get?_push_of_some _ hS).trans ?_
            rfl
          · show _ ∨ (!w.params.followText "set-order") = true
            cases w.params.followText "set-order"
            · exact .inr rfl
            · exact .inl rfl
        · intro s' ks mv hl' hT' hm'
          obtain ⟨h', gg, d', tk', os'⟩ := s'
          have eg : gg = s.gens := mv.gens
          have ed : d' = s.drawn := mv.drawn
          have eo : os' = s.os := mv.os
          subst eg; subst ed; subst eo
          show wpAny _ _ _ _ _ _
          refine wpAny_pure ?_
          show wpAny _ _ (ret Value.none) _ _ _
          refine wpAny_pure ⟨rfl, h', tk', ks, rfl, hT', hm', by omega, fun b o e => ?_⟩
          have b0 : b < s.heap.objs.size := Heap.lt_size e
          have b1 : b ≠ s.heap.objs.size := Nat.ne_of_lt b0
          have b2 : b ≠ (s.heap.push { cls := .type "set", dict := none, data := .set #[] 0 (.fresh 0 0 (!w.params.followText "set-order")) }).objs.size := by rw [eP]; exact Nat.ne_of_lt (Nat.lt_succ_of_lt b0)
          exact mv.heap b o (by simp only [List.mem_cons, List.not_mem_nil, or_false, not_or]; exact ⟨b1, b2⟩) (Heap.get?_push_of_some _ (Heap.get?_push_of_some _ e))
      · cases r₂ with
        | error e => exact hr₂
        | ok fl₂ =>
          cases fl₂ with
          | ret r =>
            obtain ⟨rfl, h', tk, ks, rfl, a1, a2, a3, a4⟩ := hr₂
            repeat (any_goals (first | assumption | wp_step))
            exact h _ _ _ a1 a2 a3 a4
          | _ => exact hr₂.elim
    | _ => exact hr.elim
end
end FD
/-! texts in order; sorted(set(t)) -/
namespace FD
open PySem PySem.Spec L2 PyProof.Rows PySem.W PySem.Froz
def leS (a b : Str) : Bool := !ltCps b.cps.toList a.cps.toList
theorem leS_iff {a b : Str} : leS a b = true ↔ a.cps.toList ≤ b.cps.toList := by
  unfold leS
  rw [ltCps_eq]
  simp
theorem leS_trans {a b c : Str} (h : leS a b = true) (k : leS b c = true) : leS a c = true := leS_iff.mpr (List.le_trans (leS_iff.mp h) (leS_iff.mp k))
theorem leS_total (a b : Str) : (leS a b || leS b a) = true := by
  rw [Bool.or_eq_true, leS_iff, leS_iff]
  exact List.le_total _ _
theorem leS_anti {a b : Str} (h : leS a b = true) (k : leS b a = true) : a = b := by
  have e : a.cps.toList = b.cps.toList := List.le_antisymm (leS_iff.mp h) (leS_iff.mp k)
  obtain ⟨x⟩ := a
  obtain ⟨y⟩ := b
  have e : x.toList = y.toList := e
  rw [Array.toList_inj.mp e]
def Asc (l : List Str) : Prop := l.Pairwise fun a b => leS a b = true
theorem asc_rising : ∀ (l : List Str) (p : Str), risingS p l = true → Asc (p :: l)
  | [], p, _ => List.pairwise_singleton _ _
  | x :: r, p, h => by
    have h' : (!ltCps x.cps.toList p.cps.toList && risingS x r) = true := h
    rw [Bool.and_eq_true] at h'
    have ih := asc_rising r x h'.2
    have px : leS p x = true := h'.1
    refine List.pairwise_cons.mpr ⟨fun y hy => ?_, ih⟩
    rcases List.mem_cons.mp hy with e | hy
    · rw [e]; exact px
    · exact leS_trans px (List.rel_of_pairwise_cons ih hy)
theorem asc_of : ∀ {l : List Str}, sortedS l = true → Asc l
  | [], _ => List.Pairwise.nil
  | x :: r, h => asc_rising r x h
theorem asc_uniq : ∀ {l m : List Str}, Asc l → Asc m → l.Perm m → l = m
  | [], m, _, _, p => (List.Perm.nil_eq p)
  | x :: l, [], _, _, p => by have := p.length_eq; simp at this
  | x :: l, y :: m, h, k, p => by
    have e : x = y := by
      have h1 : x ∈ y :: m := p.mem_iff.mp List.mem_cons_self
      have h2 : y ∈ x :: l := p.mem_iff.mpr List.mem_cons_self
      rcases List.mem_cons.mp h1 with e | h1
      · exact e
      · rcases List.mem_cons.mp h2 with e | h2
        · exact e.symm
        · exact leS_anti (List.rel_of_pairwise_cons h h2) (List.rel_of_pairwise_cons k h1)
    subst e
    rw [asc_uniq (List.pairwise_cons.mp h).2 (List.pairwise_cons.mp k).2 (List.Perm.cons_inv p)]
def sortT (l : List Str) : List Str := l.mergeSort fun a b => leS a b
theorem sortT_perm (l : List Str) : (sortT l).Perm l := List.mergeSort_perm l _
theorem sortT_asc (l : List Str) : Asc (sortT l) := List.pairwise_mergeSort (le := fun a b => leS a b) (fun a b c h k => leS_trans h k) (fun a b => leS_total a b) l
theorem sortT_eq {l m : List Str} (h : sortedS m = true) (p : m.Perm l) : m = sortT l := asc_uniq (asc_of h) (sortT_asc l) (p.trans (sortT_perm l).symm)
theorem sortT_mem {l : List Str} {x : Str} : x ∈ sortT l ↔ x ∈ l := (sortT_perm l).mem_iff
theorem sortT_len (l : List Str) : (sortT l).length = l.length := (sortT_perm l).length_eq
theorem sortT_congr {l m : List Str} (p : l.Perm m) : sortT l = sortT m := asc_uniq (sortT_asc l) (sortT_asc m) ((sortT_perm l).trans (p.trans (sortT_perm m).symm))
/-- each once -/
def onceT : List Str → List Str
  | [] => []
  | x :: r => if x ∈ onceT r then onceT r else x :: onceT r
theorem onceT_mem : ∀ {l : List Str} {x : Str}, x ∈ onceT l ↔ x ∈ l
  | [], x => by simp [onceT]
  | y :: r, x => by
    have ih := onceT_mem (l := r) (x := x)
    unfold onceT
    split
    · rename_i h
      rw [ih, List.mem_cons]
      exact ⟨.inr, fun z => z.elim (fun e => by rw [e]; exact onceT_mem.mp h) id⟩
    · rw [List.mem_cons, List.mem_cons, ih]
theorem onceT_nodup : ∀ l : List Str, (onceT l).Nodup
  | [] => List.nodup_nil
  | y :: r => by
    unfold onceT
    split
    · exact onceT_nodup r
    · rename_i h
      exact List.nodup_cons.mpr ⟨h, onceT_nodup r⟩
theorem perm_of_nodup : ∀ {l m : List Str}, l.Nodup → m.Nodup → (∀ x, x ∈ l ↔ x ∈ m) → l.Perm m
  | [], m, _, _, h => by
    cases m with
    | nil => exact List.Perm.refl _
    | cons y r => exact absurd ((h y).mpr List.mem_cons_self) (by simp)
  | x :: l, m, hl, hm, h => by
    have hx : x ∈ m := (h x).mp List.mem_cons_self
    obtain ⟨hl1, hl2⟩ := List.nodup_cons.mp hl
    refine List.Perm.trans (List.Perm.cons x (perm_of_nodup hl2 (hm.erase x) fun y => ?_)) (List.perm_cons_erase hx).symm
    rw [hm.mem_erase_iff, ← h y, List.mem_cons]
    exact ⟨fun z => ⟨fun e => hl1 (by rw [← e]; exact z), .inr z⟩, fun z => z.2.elim (fun e => absurd e z.1) id⟩
/-- sorted(set(l)) -/
def setT (l : List Str) : List Str := sortT (onceT l)
theorem setT_mem {l : List Str} {x : Str} : x ∈ setT l ↔ x ∈ l := sortT_mem.trans onceT_mem
theorem onceT_len : ∀ l : List Str, (onceT l).length ≤ l.length
  | [] => Nat.le_refl _
  | y :: r => by
    have ih := onceT_len r
    unfold onceT
    split
    · exact Nat.le_succ_of_le ih
    · exact Nat.succ_le_succ ih
theorem setT_len (l : List Str) : (setT l).length ≤ l.length := by
  unfold setT
  rw [sortT_len]
  exact onceT_len l
theorem setT_nodup (l : List Str) : (setT l).Nodup := (sortT_perm _).nodup_iff.mpr (onceT_nodup l)
/-! ### out of the set's table -/
def textOf (v : Value) : Str := match v with
  | .str k _ => k
  | _ => Str.empty
theorem perm_of_len : ∀ {l xs : List Str}, l.Nodup → (∀ x ∈ l, x ∈ xs) → xs.length = l.length → xs.Perm l
  | [], xs, _, _, h => by rw [List.eq_nil_of_length_eq_zero h]
  | x :: l, xs, hl, hs, h => by
    have hx := hs x List.mem_cons_self
    obtain ⟨h1, h2⟩ := List.nodup_cons.mp hl
    refine (List.perm_cons_erase hx).trans (List.Perm.cons x (perm_of_len h2 (fun y hy => ?_) ?_))
    · exact (List.mem_erase_of_ne (fun (e : y = x) => h1 (by rw [← e]; exact hy))).mpr (hs y (List.mem_cons_of_mem _ hy))
    · rw [List.length_erase_of_mem hx, h]; simp
section
variable {P : Program} {w : World} {A : Around} {E : Value → Shared → Prop} {s : Shared}
theorem elem_text {es : List (Int × Value)} (g : ElemsOf (PySem.strKind P w) es) {e : Int × Value} (he : e ∈ es) : ∃ k t, e.2 = .str k t := by
  obtain ⟨⟨k, hk, _⟩, _⟩ := g e he
  have hk : Value.isStrOf k e.2 = true := hk
  cases h : e.2 with
  | str y t => exact ⟨y, t, rfl⟩
  | _ => rw [h] at hk; simp [Value.isStrOf] at hk
theorem tx_perm {T : SD} {l : List Str} (F : TxOk P w T l) (hn : l.Nodup) : (T.1.toList.map fun e => textOf e.2).Perm l := by
  refine perm_of_len hn (fun x hx => ?_) ?_
  · obtain ⟨e, he, q⟩ := (F.mem x).mp hx
    refine List.mem_map.mpr ⟨e, he, ?_⟩
    obtain ⟨k, t, ek⟩ := elem_text F.el he
    have q : Value.isStrOf x e.2 = true := q
    rw [ek] at q ⊢
    simp [Value.isStrOf] at q
    exact q
  · rw [List.length_map, Array.length_toList]; exact F.sz
theorem texts_are : ∀ (l : List Value), (∀ v ∈ l, ∃ k t, v = Value.str k t) → StrsAre l (l.map textOf)
  | [], _ => .nil
  | v :: l, h => by
    obtain ⟨k, t, rfl⟩ := h v List.mem_cons_self
    exact .cons k t (texts_are l fun u hu => h u (List.mem_cons_of_mem _ hu))
theorem sorted_setT {a : Addr} {l : List Str} {Q : Value → Shared → Prop} (x : TxS P w s.heap a l) (hh : A.handled = none) (hb : l.length < scanBound)
    (hQ : ∀ s' p (out : Array Value) (c : Nat), (∀ b o, s.heap.get? b = some o → s'.heap.get? b = some o) → s'.gens = s.gens → s'.os = s.os → s.heap.objs.size ≤ p →
      s'.heap.get? p = some (seqObj "list" out c) → StrsAre out.toList (sortT l) → Q (.ref p) s') :
    wpAny (model P w) A (call (.builtin "sorted") [.ref a]) Q E s := by
  obtain ⟨T, ho, F, hn, hr, hl⟩ := x
  have hsz : T.1.size = l.length := F.sz
  refine Calls.call_function_entry kind_sorted plain_sorted entry_sorted (args_sorted1 _) ?_
  unfold Builtin.«sorted»
  refine wpAny_bind (m := checkCount "sorted" 1 1 _) (wpAny_pure ?_)
  refine wpAny_bind (collect_set (A := A.in1) hh ⟨_, ho, rfl, rfl⟩ F.fit (by omega) hr hl fun s1 vs k1 hz g1 o1 pm => ?_)
  have hvl : vs.length = l.length := by rw [pm.length_eq, List.length_map, Array.length_toList]; exact hsz
  have isT : ∀ v ∈ vs, ∃ k t, v = Value.str k t := fun v hv => by
    obtain ⟨e, he, q⟩ := List.mem_map.mp (pm.mem_iff.mp hv)
    obtain ⟨k, t, ek⟩ := elem_text F.el he
    exact ⟨k, t, by rw [← q, ek]⟩
  have hS := texts_are vs isT
  have pk : (vs.map textOf).Perm l := by
    have q := pm.map textOf
    rw [List.map_map] at q
    exact q.trans (tx_perm F hn)
  have hL : vs.length ≤ sizeLine := by rw [hvl, sizeLine_eq]; have : scanBound = 4096 := rfl; omega
  refine wpAny_bind (wpAny_newList ?_ hL)
  have hoL : (s1.heap.push (seqObj "list" vs.toArray 0)).get? s1.heap.objs.size = some (seqObj "list" vs.toArray 0) := Heap.get?_push_size _ rfl
  refine wpAny_bind (wpAny_holding (wpAny_call_entry slot_list_sort ⟨_, hoL, rfl⟩ entry_list_sort (list_sort_treeKAny strKind_oneLt hoL hS.keysOf (fun v₁ v₂ rest e => keyKind_strs (by rw [← e]; exact hS)) hL fun st' hp hs => ⟨_, rfl, ?_⟩) (args_list_sort _)))
  obtain ⟨ys, a1, a2, a3⟩ := sorted_out_str hS hp hs
  obtain ⟨c, hc⟩ := sortedHeap_at (vs := vs) (out := (arrOf st').map (·.2)) hoL
  refine wpAny_pure ⟨_, rfl, hQ _ s1.heap.objs.size _ c (fun b u e => ?_) g1 o1 hz hc ?_⟩
  · have q := k1 b u e
    have hlt := Heap.lt_size q
    show (sortedHeap (s1.heap.push (seqObj "list" vs.toArray 0)) s1.heap.objs.size vs _).get? b = some u
    rw [sortedHeap_old (Nat.ne_of_lt hlt) (by rw [size_push']; exact Nat.lt_succ_of_lt hlt)]
    exact Heap.get?_push_of_some _ q
  · rw [← sortT_eq a3 (a2.trans pk)]; exact a1
end
/-- sorted(set(t)) -/
def tSSet (K : PySem.W.Frag) (ta : TE) : TE := fun σ H Q => ta σ H fun x H1 => ∃ (l : Addr) (xs : List Str), x = .ref l ∧ SqT K H1 l (xs.map V.str) ∧ xs.length ≤ 4000 ∧ ∀ p, H1 p = none → Q (.ref p) (upd H1 p (.lst ((setT xs).map V.str)))
section
variable {X : Cx}
theorem pe_sset {a : Expr} {ta : TE} {p p2 q pos : Pos} (hc : X.calm = true) (hg : Gl X "sorted") (hm : X.mg "sorted" = none) (hg2 : Gl X "set") (hm2 : X.mg "set" = none) (ha : PE X a ta)
    (na : starEach [a] X.env = (false, eval a X.env) :: starEach [] X.env := by rfl) : PE X (.Call (.Name "sorted" p) [.Call (.Name "set" p2) [a] [] q] [] pos) (tSSet X.K ta) := by
  refine ⟨fun pins s σ H Q I h => ?_⟩
  refine Call_ (ld_blt I hg hm (show _ = some (.builtin "sorted") by decide +kernel) ?_)
  refine PyProof.Rows.callWith_builtin1 (PyProof.Rows.args_cons ?_ rfl) rfl rfl
  refine Call_ (ld_blt I hg2 hm2 boot_set ?_)
  refine PyProof.Rows.callWith_type1 (PyProof.Rows.args_cons (thn (ha.run pins s σ H _ I h) fun v s1 ⟨x, H1, I1, r1, q1⟩ => PyProof.Rows.args_nil ?_) na) na rfl
  obtain ⟨l, xs, rfl, hq, h1, q1⟩ := q1
  cases r1
  obtain ⟨its, r, pl, hz⟩ := I1.tuple hq
  have hb : scanBound = 4096 := rfl
  refine call_setT xs (I1.ok.hd hc) pl (by simpa using strsAre_of r) (by omega) fun h' tk ks hT hm' hl hk => ?_
  refine PyProof.Rows.args_nil ?_
  have I2 : Inv X pins σ H1 { s1 with heap := h', toks := tk } := I1.kept fun b o e => hk b o e
  have nk : ks.Nodup := let ⟨_, _, _, n, _⟩ := hT; n
  have ek : sortT ks = setT xs := sortT_congr (perm_of_nodup nk (onceT_nodup xs) fun y => (hm' y).trans onceT_mem.symm)
  refine sorted_setT hT (I2.ok.hd hc) (by omega) fun s2 p2 out c k2 g2 o2 hp hob hS => ?_
  rw [ek] at hS
  have hlen : ((setT xs).map V.str).length ≤ sizeLine := by rw [List.length_map, sizeLine_eq]; have := setT_len xs; omega
  have hn : H1 p2 = none := I2.hok.fresh hp
  have J : Inv X pins σ (upd H1 p2 (.lst ((setT xs).map V.str))) { ({ s1 with heap := h', toks := tk } : Shared) with heap := s2.heap, gens := s2.gens, drawn := s2.drawn, toks := s2.toks } :=
    I2.call (ch := []) (Un.laid k2 hp hn) (I2.hok.laid k2 hp ⟨hlen, out.toList, c, vals_of_strs hS, hob⟩) (by rw [g2]; exact I2.bare) (fun _ z => nomatch z)
  have e : s2 = { s1 with heap := s2.heap, gens := s2.gens, drawn := s2.drawn, toks := s2.toks } := by
    obtain ⟨x1, x2, x3, x4, x5⟩ := s2
    have o2 : x5 = s1.os := o2
    subst o2
    rfl
  rw [e]
  exact ⟨.ref p2, _, J, rfl, q1 p2 hn⟩
end
end FD
/-! dicts of one's own (keys: texts), promises over objects, dicts walked under a lock -/
namespace FD
open PySem L2 Evl
abbrev Dct := List (Str × PyData)
def kd (l : Dct) : List (Key × PyData) := l.map fun p => (Sum.inr p.1, p.2)
def valD (l : Dct) (k : Str) : Option PyData := (l.find? fun p => decide (p.1 = k)).map (·.2)
theorem valD_cons (p : Str × PyData) (r : Dct) (k : Str) : valD (p :: r) k = if p.1 = k then some p.2 else valD r k := by
  unfold valD
  rw [List.find?_cons]
  by_cases h : p.1 = k
  · rw [decide_eq_true h, if_pos h]; rfl
  · rw [decide_eq_false h, if_neg h]
theorem valD_at {l : Dct} {p : Str × PyData} (hn : (l.map (·.1)).Nodup) (h : p ∈ l) : valD l p.1 = some p.2 := by
  induction l with
  | nil => cases h
  | cons q r ih =>
    rw [valD_cons]
    rw [List.map_cons, List.nodup_cons] at hn
    rcases List.mem_cons.mp h with e | h
    · rw [← e, if_pos rfl]
    · rw [if_neg (fun e => hn.1 (by rw [e]; exact List.mem_map.mpr ⟨p, h, rfl⟩))]
      exact ih hn.2 h
theorem pairs_app {α β : Type} {F : α → β → Prop} {as as' : List α} {bs bs' : List β} (h : Paired F as bs) (k : Paired F as' bs') : Paired F (as ++ as') (bs ++ bs') := by
  induction h with
  | nil => exact k
  | cons r _ ih => exact .cons r ih
abbrev DcOk (K : PySem.W.Frag) (Hh : Hp) (ws : List (Key × V)) (kvs : List (Key × PyData)) : Prop := Paired (fun (p : Key × V) (q : Key × PyData) => p.1 = q.1 ∧ DvOk K Hh p.2 q.2) ws kvs
section
variable {K : PySem.W.Frag} {Hh : Hp}
theorem dc_val : ∀ {l : Dct} {ws : List (Key × V)} {k : Str} {d : PyData}, DcOk K Hh ws (kd l) → valD l k = some d → ∃ v, valV ws (.inr k) = some v ∧ DvOk K Hh v d
  | [], ws, k, d, _, h => by cases h
  | p :: r, ws, k, d, c, h => by
    cases c with
    | @cons w _ ws _ h1 c =>
      obtain ⟨e1, e2⟩ := h1
      have e1 : w.1 = Sum.inr p.1 := e1
      rw [valD_cons] at h
      by_cases e : p.1 = k
      · rw [if_pos e] at h
        cases h
        refine ⟨w.2, ?_, e2⟩
        rw [valV_pos (by rw [e1, e])]
      · rw [if_neg e] at h
        obtain ⟨v, q1, q2⟩ := dc_val c h
        exact ⟨v, by rw [valV_neg (fun z => e (Sum.inr.inj (e1.symm.trans z)))]; exact q1, q2⟩
theorem dc_keys : ∀ {l : Dct} {ws : List (Key × V)}, DcOk K Hh ws (kd l) → ws.map (·.1) = (l.map (·.1)).map Sum.inr
  | [], _, .nil => rfl
  | p :: r, _, .cons h c => by rw [List.map_cons, dc_keys (l := r) c, h.1]; rfl
theorem dc_get : ∀ {l : Dct} {ws : List (Key × V)} {i : Nat} {k : Key} {v : V}, DcOk K Hh ws (kd l) → ws[i]? = some (k, v) → ∃ p, l[i]? = some p ∧ k = Sum.inr p.1
  | [], _, i, k, v, .nil, h => by cases h
  | p :: r, _, 0, k, v, .cons h c, e => by
    simp at e
    subst e
    exact ⟨p, rfl, h.1⟩
  | p :: r, _, i + 1, k, v, .cons h c, e => by
    obtain ⟨q, e1, e2⟩ := dc_get (l := r) (i := i) c (by simpa using e)
    exact ⟨q, by simpa using e1, e2⟩
theorem dc_len {l : Dct} {ws : List (Key × V)} (c : DcOk K Hh ws (kd l)) : ws.length = l.length := by
  have := congrArg List.length (dc_keys c)
  rw [List.length_map, List.length_map, List.length_map] at this
  exact this
theorem dc_snoc {l : Dct} {ws : List (Key × V)} {k : Str} {v : V} {d : PyData} (c : DcOk K Hh ws (kd l)) (hk : k ∉ l.map (·.1)) (h : DvOk K Hh v d) : DcOk K Hh (putK ws (.inr k) v) (kd (l ++ [(k, d)])) := by
  have e : (ws.any fun kv => decide (kv.1 = (Sum.inr k : Key))) = false := by
    rw [List.any_eq_false]
    intro p hp
    rw [decide_eq_true_eq]
    intro z
    have : p.1 ∈ ws.map (·.1) := List.mem_map.mpr ⟨p, hp, rfl⟩
    rw [dc_keys c, z] at this
    obtain ⟨y, hy, q⟩ := List.mem_map.mp this
    cases q
    exact hk hy
  unfold putK
  rw [e, if_neg Bool.false_ne_true]
  unfold kd
  rw [List.map_append]
  exact pairs_app c (.cons ⟨rfl, h⟩ .nil)
end
def IsDct (mo : MO) (l : Dct) : Prop := mo = .dK (kd l) ∨ ∃ od ws, mo = .fz od ws (kd l)
theorem dct_rd {K : PySem.W.Frag} {Hh H : Hp} {a : Addr} {mo : MO} {l : Dct} (h : MOok K Hh H a mo) (hd : IsDct mo l) : ∃ ws, Rd H a (.dK ws) ∧ DcOk K Hh ws (kd l) := by
  rcases hd with rfl | ⟨od, ws, rfl⟩
  · obtain ⟨ws, e, c⟩ := h
    exact ⟨ws, .inl e, c⟩
  · obtain ⟨e, c⟩ := h
    exact ⟨ws, .inr ⟨od, e⟩, c⟩
theorem DpAll.strs {K : PySem.W.Frag} {H : Hp} : ∀ {vs : List V} {ns : List Str}, DpAll K H vs (ns.map PyData.str) → vs = ns.map V.str
  | vs, [], h => by cases h; rfl
  | vs, n :: ns, h => by
    cases h with
    | cons h1 h2 =>
      cases h1
      rw [DpAll.strs h2]
      rfl
theorem dp_strs {K : PySem.W.Frag} {H : Hp} : ∀ ns : List Str, DpAll K H (ns.map V.str) (ns.map PyData.str)
  | [] => .nil
  | n :: ns => .cons (.str n) (dp_strs ns)
section
variable {C : Cfg} {M : List Addr} {δ : List Ent} {μ μ1 μ2 μ3 : Mem} {ta tb te td ty : TE} {a b : Addr} {mo : MO} {l : Dct} {k : Str} {d : PyData} {e : Ent} {tr : TA} {D : Ends} {t2 : TS} {i j : Nat}
/-! ### what is read of a dict -/
theorem x_dget (hx : EvX C td M δ μ μ1 (.m a)) (hk : EvX C ty M δ μ1 μ2 (.d (.str k))) (hm : (a, mo) ∈ μ2) (hd : IsDct mo l) (hv : valD l k = some d) : EvX C (tDGet td ty) M δ μ μ2 (.d d) := fun σ H o Q kk =>
  hx σ H o _ fun x H1 o1 x1 r1 => hk σ H1 o1 _ fun y H2 o2 x2 r2 => by
    have e1 : x = .ref a := r1
    have e2 : y = .str k := Dp.str_of r2
    obtain ⟨ws, rd, dc⟩ := dct_rd (o2.mem _ hm).2.2 hd
    obtain ⟨v, e3, e4⟩ := dc_val dc hv
    exact ⟨a, v, e1, .inl ⟨ws, .inr k, rd, e2, e3.symm⟩, kk v H2 o2 (x1.trans x2) e4⟩
abbrev rSortedDc : List V → Hp → VK → Prop := fun xs H Q => ∃ (a : Addr) (kvs : List (Key × V)) (ks : List Str), xs = [.ref a] ∧ Rd H a (.dK kvs) ∧ kvs.map (·.1) = ks.map Sum.inr ∧ ks.length < 64 ∧ ∀ ys p, ys.Perm ks → PyProof.Rows.sortedS ys = true → H p = none → Q (.ref p) (upd H p (.lst (ys.map V.str)))
theorem c_sortedD (hm : (a, mo) ∈ μ) (hd : IsDct mo l) (hl : l.length < 64) : CallX C rSortedDc M δ μ μ [.m a] (.d (.list ((sortT (l.map (·.1))).map .str))) := fun σ H vs o h Q kk => by
  obtain ⟨v, rfl, q⟩ := p1 h
  have e1 : v = .ref a := q
  obtain ⟨ws, rd, dc⟩ := dct_rd (o.mem _ hm).2.2 hd
  refine ⟨a, ws, l.map (·.1), by rw [e1], rd, dc_keys dc, by rw [List.length_map]; exact hl, fun ys p hp hs hn => ?_⟩
  rw [sortT_eq hs hp]
  obtain ⟨o', x', d'⟩ := o.lst hn (dp_strs (K := C.K) (H := hide M H) (sortT (l.map (·.1))))
  exact kk _ _ o' x' d'
abbrev rListDc : List V → Hp → VK → Prop := fun xs H Q => ∃ (a : Addr) (kvs : List (Key × V)), xs = [.ref a] ∧ Rd H a (.dK kvs) ∧ ∀ p, H p = none → Q (.ref p) (upd H p (.lst (kvs.map fun kv => kV kv.1)))
theorem c_listD (hm : (a, mo) ∈ μ) (hd : IsDct mo l) : CallX C rListDc M δ μ μ [.m a] (.d (.list ((l.map (·.1)).map .str))) := fun σ H vs o h Q kk => by
  obtain ⟨v, rfl, q⟩ := p1 h
  have e1 : v = .ref a := q
  obtain ⟨ws, rd, dc⟩ := dct_rd (o.mem _ hm).2.2 hd
  refine ⟨a, ws, by rw [e1], rd, fun p hn => ?_⟩
  have e : (ws.map fun kv => kV kv.1) = (l.map (·.1)).map V.str := by
    have q := congrArg (List.map kV) (dc_keys dc)
    rw [List.map_map, List.map_map] at q
    exact q
  rw [e]
  obtain ⟨o', x', d'⟩ := o.lst hn (dp_strs (K := C.K) (H := hide M H) (l.map (·.1)))
  exact kk _ _ o' x' d'
theorem c_sortedS {zs : List Str} (r : Rdd μ e (.list (zs.map .str))) (hl : zs.length < 64) : CallX C (rSortedS C.K) M δ μ μ [e] (.d (.list ((sortT zs).map .str))) := fun σ H vs o h Q kk => by
  obtain ⟨v, rfl, q⟩ := p1 h
  obtain ⟨a, ws, q1, q2, q3⟩ := r.lst o q
  refine ⟨a, zs, by rw [q1], (DpAll.strs q3) ▸ q2, hl, fun ys p hp hs hn => ?_⟩
  rw [sortT_eq hs hp]
  obtain ⟨o', x', d'⟩ := o.lst hn (dp_strs (K := C.K) (H := hide M H) (sortT zs))
  exact kk _ _ o' x' d'
theorem x_sset {zs : List Str} (h : EvX C ta M δ μ μ1 (.d (.tuple (zs.map .str)))) (hl : zs.length ≤ 4000) : EvX C (tSSet C.K ta) M δ μ μ1 (.d (.list ((setT zs).map .str))) := fun σ H o Q kk =>
  h σ H o _ fun v H1 o1 x1 r1 => by
    obtain ⟨p, vs, e1, e2, e3⟩ := Dp.tup_of r1
    refine ⟨p, zs, e1, (DpAll.strs e3) ▸ ex_t hide_le e2, hl, fun q hn => ?_⟩
    obtain ⟨o', x', d'⟩ := o1.lst hn (dp_strs (K := C.K) (H := hide M H1) (setT zs))
    exact kk _ _ o' (x1.trans x') d'
/-! ### what is written -/
theorem r_newD (k : ∀ p, p ∉ M → Nx C D (p :: M) (δ.set i (.m p)) ((p, .dK (kd [])) :: μ)) : Run C (tAsg tDNewK (gName i)) D M δ μ := fun σ H o p hp => by
  have o2 := o.new hp (mo := .dK (kd [])) (ho := .dK []) ⟨[], upd_same, .nil⟩
  exact k p (o.fresh hp) _ _ (o2.set i (e := .m p) rfl)
theorem q_newD (k : ∀ p, p ∉ M → Run C t2 D (p :: M) (δ.set i (.m p)) ((p, .dK (kd [])) :: μ)) : Run C (tSeq (tAsg tDNewK (gName i)) t2) D M δ μ := r_newD (D := { D with nx := t2 D }) k
/-- x[k] = e, k new -/
theorem r_dput (h : EvX C te M δ μ μ1 (.d d)) (hx : EvX C ta M δ μ1 μ2 (.m a)) (hi : EvX C tb M δ μ2 μ3 (.d (.str k))) (hj : μ3[j]? = some (a, .dK (kd l))) (hk : k ∉ l.map (·.1)) (hl : l.length < 1000) (kk : Nx C D M δ (μ3.set j (a, .dK (kd (l ++ [(k, d)]))))) :
    Run C (tAsg te (gSub ta tb rSetD)) D M δ μ := fun σ H o => h σ H o _ fun v H1 o1 x1 r1 => hx σ H1 o1 _ fun w H2 o2 x2 r2 => hi σ H2 o2 _ fun z H3 o3 x3 r3 => by
  have e1 : w = .ref a := r2
  have e2 : z = .str k := Dp.str_of r3
  obtain ⟨_, _, ws, q3, q4⟩ := o3.mem _ (List.mem_of_getElem? hj)
  show ∃ a' H', w = .ref a' ∧ DPut H3 a' z v H' ∧ D.nx σ H'
  refine ⟨a, _, e1, .inl ⟨ws, .inr k, q3, e2, sz_lt (by rw [dc_len q4]; omega), rfl⟩, ?_⟩
  exact kk _ _ (o3.write hj ⟨_, upd_same, dc_snoc q4 hk (EntOk.mono (e := .d d) (x2.trans x3) r1)⟩)
/-- x = dict(y) -/
abbrev rDictDc : List V → Hp → VK → Prop := fun xs H Q => ∃ (a : Addr) (kvs : List (Key × V)), xs = [.ref a] ∧ Rd H a (.dK kvs) ∧ ∀ p, H p = none → Q (.ref p) (upd H p (.dK kvs))
theorem q_copyD (h : EvA C tr M δ μ μ1 [.m a]) (hm : (a, mo) ∈ μ1) (hd : IsDct mo l) (k : ∀ p, p ∉ M → Run C t2 D (p :: M) (δ.set i (.m p)) ((p, .dK (kd l)) :: μ1)) : Run C (tSeq (tAsg (tCB rDictDc tr) (gName i)) t2) D M δ μ := fun σ H o => h σ H o _ fun vs H1 o1 x1 r1 => by
  obtain ⟨v, rfl, q⟩ := p1 r1
  have e1 : v = .ref a := q
  obtain ⟨ws, rd, dc⟩ := dct_rd (o1.mem _ hm).2.2 hd
  refine ⟨a, ws, by rw [e1], rd, fun p hp => ?_⟩
  have o2 := o1.new hp (mo := .dK (kd l)) (ho := .dK ws) ⟨ws, upd_same, Paired.mapP dc fun p q z => ⟨z.1, z.2.mono (hide_new hp)⟩⟩
  exact k p (o1.fresh hp) _ _ (o2.set i (e := .m p) rfl)
theorem q_clear (hx : EvX C ta M δ μ μ1 (.m a)) (hj : μ1[j]? = some (a, .dK (kd l))) (k : Run C t2 D M δ (μ1.set j (a, .dK (kd [])))) : Run C (tSeq (tDrop (tBM0 C.K "dict" rDClear ta)) t2) D M δ μ := fun σ H o => hx σ H o _ fun v H1 o1 x1 r1 => by
  have e1 : v = .ref a := r1
  subst e1
  obtain ⟨_, _, ws, q3, q4⟩ := o1.mem _ (List.mem_of_getElem? hj)
  exact ⟨.inr (.inr (.inl ⟨rfl, .inl ⟨_, q3⟩⟩)), a, ws, rfl, rfl, q3, k _ _ (o1.write hj ⟨_, upd_same, .nil⟩)⟩
end
/-! ### two dicts compared -/
def rNeDK (K : PySem.W.Frag) : R2 := fun x y H Q => ∃ (a b : Addr) (ks ls : List (Key × V)) (l : Dct), x = .ref a ∧ y = .ref b ∧ H a = some (.dK ks) ∧ H b = some (.dK ls) ∧ DcOk K H ks (kd l) ∧ DcOk K H ls (kd l) ∧ (l.map (·.1)).Nodup ∧ (∀ p ∈ l, SeqAt.shaped p.2 = true) ∧ Q (.bl false) H
section
variable {X : Cx}
theorem dk_hits {pins : List (Addr × Obj)} {σ : L2.St} {H : Hp} {s : Shared} (I : Inv X pins σ H s) (hu : X.A.in1.units + 64 < cLine) {kb : List (Key × Value)} :
    ∀ {l : Dct} {ks : List (Key × V)} {ka : List (Key × Value)}, DcOk X.K H ks (kd l) → KV ks ka → (∀ p ∈ l, SeqAt.shaped p.2 = true) → (∀ p ∈ l, ∃ y as, valueAt kb (Sum.inr p.1) = some y ∧ PySem.Reads s.heap y p.2 as) → PySem.W.KeqHits X.A.in1 s kb ka true
  | [], _, _, .nil, .nil, _, _ => .nil
  | p :: r, _, _, .cons h c, .cons (b := q) g t, hs, hb => by
    obtain ⟨y, bs, e1, e2⟩ := hb p List.mem_cons_self
    obtain ⟨as, e3⟩ := Dp.reads I _ _ _ h.2.w g.2
    have hp := hs p List.mem_cons_self
    have e3 : PySem.Reads s.heap q.2 p.2 as := e3
    have E := PySem.W.keq_at (A := X.A) e3 e2 hp hp hu
    have : PyData.eqv p.2 p.2 = true := SeqAt.eqv_refl _ (SeqAt.canLay_of_shaped hp)
    have E : SeqAt.EqAt X.A.in1 s q.2 y true := by rw [← this]; exact E
    have k1 : q.1 = (Sum.inr p.1 : Key) := g.1.symm.trans h.1
    obtain ⟨q1, q2⟩ := q
    have k1 : q1 = (Sum.inr p.1 : Key) := k1
    subst k1
    exact .hit (e := true) (b := true) e1 E (dk_hits I hu (l := r) c t (fun p hp => hs p (List.mem_cons_of_mem _ hp)) fun p hp => hb p (List.mem_cons_of_mem _ hp))
theorem op_neDK (hu : X.A.units + 65 < cLine) : OpR X (compareOp .NotEq) (rNeDK X.K) := by
  intro pins s σ H x y v u Q I rx ry h
  obtain ⟨a, b, ks, ls, l, rfl, rfl, ea, eb, ca, cb, hn, hs, q⟩ := h
  obtain rfl : v = Value.ref a := rx
  obtain rfl : u = Value.ref b := ry
  obtain ⟨_, ya, va, ra, da⟩ := (show ObjOk X.prog X.w H s.heap a (.dK ks) from I.hok a _ ea)
  obtain ⟨_, yb, vb, rb, db⟩ := (show ObjOk X.prog X.w H s.heap b (.dK ls) from I.hok b _ eb)
  have hl : va.length = vb.length := by rw [← ra.length, ← rb.length, dc_len ca, dc_len cb]
  have hu1 : X.A.in1.units + 64 < cLine := by show X.A.units + 1 + 64 < cLine; omega
  refine PySem.W.keq_ne (knd := mixKind X.prog X.w) (r := true) ya yb da db (by omega) (fun _ => dk_hits I hu1 ca ra hs fun p hp => ?_) (fin_bl I q (by simp [hl]))
  obtain ⟨v, e1, e2⟩ := dc_val cb (valD_at hn hp)
  have r := rb.val (Sum.inr p.1)
  rw [e1] at r
  cases z : valueAt vb (Sum.inr p.1) with
  | none => rw [z] at r; exact (show False from r).elim
  | some y =>
    rw [z] at r
    obtain ⟨as, e3⟩ := Dp.reads I _ _ _ e2.w r
    exact ⟨y, as, rfl, e3⟩
end
end FD
/-! promises over objects of one's own; dicts walked under a lock -/
namespace FD
open PySem L2 Evl
abbrev ad (μ : Mem) : List Addr := μ.map (·.1)
def spE (K : PySem.W.Frag) (n : Nat) (R : List Ent → Mem → PyData → Mem → Prop) : Sp := fun vs H Q _ => vs.length = n ∧ ∃ M es μ d μ', (∀ a ∈ M, H a ≠ none) ∧ Paired (EntOk K (hide M H)) es vs ∧ (∀ p ∈ μ, p.1 ∈ M ∧ MOok K (hide M H) H p.1 p.2) ∧ (ad μ).Nodup ∧ ad μ' = ad μ ∧ R es μ d μ' ∧
  ∀ v H', Ex (hide (ad μ) H) H' → (∀ p ∈ μ', MOok K (hide M H') H' p.1 p.2) → Dp K (hide M H') v d → Q v H'
def spEN (K : PySem.W.Frag) (n : Nat) (R : List Ent → Mem → MO → Mem → Prop) : Sp := fun vs H Q _ => vs.length = n ∧ ∃ M es μ mo μ', (∀ a ∈ M, H a ≠ none) ∧ Paired (EntOk K (hide M H)) es vs ∧ (∀ p ∈ μ, p.1 ∈ M ∧ MOok K (hide M H) H p.1 p.2) ∧ (ad μ).Nodup ∧ ad μ' = ad μ ∧ R es μ mo μ' ∧
  ∀ p H', H p = none → Ex (hide (ad μ) H) H' → MOok K (hide (p :: M) H') H' p mo → (∀ q ∈ μ', MOok K (hide (p :: M) H') H' q.1 q.2) → Q (.ref p) H'
def FinE (C : Cfg) (D : Ends) (d : PyData) (μ' : Mem) : Prop := ∀ v M' H, Ex C.G H → (∀ a ∈ C.M0, a ∈ M') → (∀ p ∈ μ', MOok C.K (hide M' H) H p.1 p.2) → Dp C.K (hide M' H) v d → D.rt v H
def FinEN (C : Cfg) (D : Ends) (mo : MO) (μ' : Mem) : Prop := ∀ p M' H, C.G p = none → p ∉ C.M0 → Ex C.G H → (∀ a ∈ C.M0, a ∈ M') → p ∈ M' → MOok C.K (hide M' H) H p mo → (∀ q ∈ μ', MOok C.K (hide M' H) H q.1 q.2) → D.rt (.ref p) H
theorem ok_startE {K : PySem.W.Frag} {H : Hp} {N : List Str} {M : List Addr} {vs : List V} {es : List Ent} {μ : Mem} (al : ∀ a ∈ M, H a ≠ none) (h : Paired (EntOk K (hide M H)) es vs) (hm : ∀ p ∈ μ, p.1 ∈ M ∧ MOok K (hide M H) H p.1 p.2) (nd : (ad μ).Nodup) (hN : vs.length ≤ N.length) :
    Ok ⟨K, M, hide (ad μ) H, hide M H⟩ M (startE N.length es.length es) μ (L2.start N vs) H where
  len := start_len (paired_len h) hN
  slot := fun i e h1 h2 => start_slot h i e h1 h2
  mem := fun p hp => ⟨(hm p hp).1, hide_in (List.mem_map.mpr ⟨p, hp, rfl⟩) (hm p hp).2.nt, (hm p hp).2⟩
  nd := nd
  alloc := al
  sub := fun _ ha => ha
  gr := hide_le
  base := Ex.refl _
section
variable {P : Program} {w : World} {K : PySem.W.Frag} {mg : Str → Option Value} {base : Heap}
theorem def_E {x qual : Str} {st : Stmt} {f : Addr} {fd : FuncData} {N ps : List Str} {k n : Nat} {R : List Ent → Mem → PyData → Mem → Prop} (F : Fun K x qual st f fd) (S : FnScope N ps (defScope st)) (hN : ps.length ≤ N.length) (hp : ps.length = n)
    (h : ∀ (cdv : Value) (A : Around) (outer : List Env) (s : Shared) (H : Hp) (E : XK), Room k (A.deeper (PyProof.Rows.envOfC qual (defScope st) s.heap.objs.size f cdv)) →
      ∃ t, PSs (cxOf CX0 P w K mg base N qual (defScope st) f cdv A outer s H E).nox (defBody st) t ∧
        ∀ (M : List Addr) (G B : Hp) (es : List Ent) (μ : Mem) (d : PyData) (μ' : Mem), R es μ d μ' → ∀ D : Ends, FinE ⟨K, M, G, B⟩ D d μ' → Run ⟨K, M, G, B⟩ t D M (startE N.length es.length es) μ) :
    FnOk P w K mg base CX0 (k + 1) f fd ps (spE K n R) := by
  refine F.ok S (fun vs H Q E hs => hs.1.trans hp.symm) fun cdv A outer s H vs Q E hr hs => ?_
  obtain ⟨hn, M, es, μ, d, μ', al, he, hm, nd, had, hR, kk⟩ := hs
  obtain ⟨t, ht, run⟩ := h cdv A outer s H E hr
  refine ⟨t, ht, run M (hide (ad μ) H) (hide M H) es μ d μ' hR _ (fun v M' H' e s m r => kk v H' e (fun p hp => (m p hp).mono (hide_sub s) fun _ q => q) (dp_mono (hide_sub s) _ _ r)) _ _ (ok_startE al he hm nd (by rw [hn, ← hp]; exact hN))⟩
theorem def_EN {x qual : Str} {st : Stmt} {f : Addr} {fd : FuncData} {N ps : List Str} {k n : Nat} {R : List Ent → Mem → MO → Mem → Prop} (F : Fun K x qual st f fd) (S : FnScope N ps (defScope st)) (hN : ps.length ≤ N.length) (hp : ps.length = n)
    (h : ∀ (cdv : Value) (A : Around) (outer : List Env) (s : Shared) (H : Hp) (E : XK), Room k (A.deeper (PyProof.Rows.envOfC qual (defScope st) s.heap.objs.size f cdv)) →
      ∃ t, PSs (cxOf CX0 P w K mg base N qual (defScope st) f cdv A outer s H E).nox (defBody st) t ∧
        ∀ (M : List Addr) (G B : Hp) (es : List Ent) (μ : Mem) (mo : MO) (μ' : Mem), R es μ mo μ' → ∀ D : Ends, FinEN ⟨K, M, G, B⟩ D mo μ' → Run ⟨K, M, G, B⟩ t D M (startE N.length es.length es) μ) :
    FnOk P w K mg base CX0 (k + 1) f fd ps (spEN K n R) := by
  refine F.ok S (fun vs H Q E hs => hs.1.trans hp.symm) fun cdv A outer s H vs Q E hr hs => ?_
  obtain ⟨hn, M, es, μ, mo, μ', al, he, hm, nd, had, hR, kk⟩ := hs
  obtain ⟨t, ht, run⟩ := h cdv A outer s H E hr
  refine ⟨t, ht, run M (hide (ad μ) H) (hide M H) es μ mo μ' hR _ (fun p M' H' g pM e s pm m mm => ?_) _ _ (ok_startE al he hm nd (by rw [hn, ← hp]; exact hN))⟩
  have sub : ∀ a ∈ p :: M, a ∈ M' := fun a ha => (List.mem_cons.mp ha).elim (fun z => by rw [z]; exact pm) (s a)
  have hp0 : H p = none := by
    have : hide (ad μ) H p = none := g
    rw [hide_out (fun z => ?_)] at this
    · exact this
    · obtain ⟨q, hq, e⟩ := List.mem_map.mp z
      exact pM (by have := (hm q hq).1; rw [e] at this; exact this)
  exact kk p H' hp0 e (m.mono (hide_sub sub) fun _ q => q) (fun q hq => (mm q hq).mono (hide_sub sub) fun _ q => q)
end
section
variable {C : Cfg} {M : List Addr} {δ : List Ent} {μ μ0 μ0' μ1 μ2 μ' : Mem} {σ : L2.St} {H1 H2 : Hp} {tr : TA} {te ta : TE} {D : Ends} {t2 : TS} {i j : Nat} {a : Addr} {mo : MO} {es : List Ent} {d : PyData} {n : Nat}
/-- the objects that a call was handed, as it leaves them -/
structure Swap (μ0 μ0' μ1 μ2 : Mem) : Prop where
  sub : ∀ p ∈ μ0, p ∈ μ1
  ad0 : ad μ0' = ad μ0
  ad1 : ad μ2 = ad μ1
  new : ∀ p ∈ μ2, p ∈ μ0' ∨ (p ∈ μ1 ∧ p.1 ∉ ad μ0)
theorem after_E (o : Ok C M δ μ1 σ H1) (w : Swap μ0 μ0' μ1 μ2) (e : Ex (hide (ad μ0) H1) H2) (hm : ∀ p ∈ μ0', MOok C.K (hide M H2) H2 p.1 p.2) : Ok C M δ μ2 σ H2 ∧ Ex (hide M H1) (hide M H2) := by
  have inM : ∀ b ∈ ad μ0, b ∈ M ∧ C.G b = none := fun b hb => by
    obtain ⟨q, hq, z⟩ := List.mem_map.mp hb
    have := o.mem q (w.sub q hq)
    rw [z] at this
    exact ⟨this.1, this.2.1⟩
  have kp : ∀ b u, b ∉ ad μ0 → H1 b = some u → H2 b = some u := fun b u ne q => e b u (by rw [hide_out ne]; exact q)
  have x : Ex (hide M H1) (hide M H2) := fun b u z => by
    obtain ⟨q, z⟩ := hide_some z
    exact hide_mk (e b u (hide_mk z fun y => q (inM b y).1)) q
  refine ⟨⟨o.len, fun i y h1 h2 => let ⟨v, a, c⟩ := o.slot i y h1 h2; ⟨v, a, c.mono x⟩, fun p hp => ?_, by rw [show μ2.map (·.1) = μ1.map (·.1) from w.ad1]; exact o.nd, fun b hb => ?_, o.sub, fun b u z => ?_, o.base.trans x⟩, x⟩
  · rcases w.new p hp with h0 | ⟨h1, h2⟩
    · have : p.1 ∈ ad μ0 := by rw [← w.ad0]; exact List.mem_map.mpr ⟨p, h0, rfl⟩
      exact ⟨(inM _ this).1, (inM _ this).2, hm p h0⟩
    · obtain ⟨b1, b2, b3⟩ := o.mem p h1
      exact ⟨b1, b2, b3.mono x fun u z => kp _ u h2 z⟩
  · by_cases q : b ∈ ad μ0
    · rw [← w.ad0] at q
      obtain ⟨p, hp, z⟩ := List.mem_map.mp q
      have := (hm p hp).there
      rw [z] at this; exact this
    · cases z : H1 b with
      | none => exact absurd z (o.alloc b hb)
      | some u => rw [kp b u q z]; exact fun z => nomatch z
  · exact kp b u (fun q => by have := (inM b q).2; rw [z] at this; cases this) (o.gr b u z)
theorem x_callE {R : List Ent → Mem → PyData → Mem → Prop} {E : XK} (h : EvA C tr M δ μ μ1 es) (w : Swap μ0 μ0' μ1 μ2) (nd : (ad μ0).Nodup) (hR : R es μ0 d μ0') (hn : es.length = n := by rfl) : EvX C (tCall (spE C.K n R) [] E tr) M δ μ μ2 (.d d) := fun σ H o Q k =>
  h σ H o _ fun vs H1 o1 x1 r1 => by
    rw [List.append_nil]
    refine ⟨by rw [← paired_len r1]; exact hn, M, es, μ0, d, μ0', o1.alloc, r1, fun p hp => let q := o1.mem p (w.sub p hp); ⟨q.1, q.2.2⟩, nd, w.ad0, hR, fun v H2 e2 m2 d2 => ?_⟩
    obtain ⟨o2, x2⟩ := after_E o1 w e2 m2
    exact k v H2 o2 (x1.trans x2) d2
theorem swap_same (hj : (a, mo) ∈ μ) (nd : (ad μ).Nodup) : Swap [(a, mo)] [(a, mo)] μ μ where
  sub := fun p hp => by rw [List.mem_singleton.mp hp]; exact hj
  ad0 := rfl
  ad1 := rfl
  new := fun p hp => by
    by_cases e : p.1 = a
    · left
      obtain ⟨i, hi⟩ := List.getElem?_of_mem hp
      obtain ⟨k, hk⟩ := List.getElem?_of_mem hj
      obtain ⟨x, y⟩ := p
      have e : x = a := e
      subst e
      have := nodup_fst nd hi hk
      subst this
      rw [hi] at hk
      rw [Option.some.inj hk]; simp
    · exact .inr ⟨hp, by simpa using e⟩
/-- one object, read alone -/
theorem x_callE1 {R : List Ent → Mem → PyData → Mem → Prop} {E : XK} (h : EvA C tr M δ μ μ1 es) (hj : (a, mo) ∈ μ1) (hR : R es [(a, mo)] d [(a, mo)]) (hn : es.length = n := by rfl) : EvX C (tCall (spE C.K n R) [] E tr) M δ μ μ1 (.d d) := fun σ H o Q k =>
  h σ H o _ fun vs H1 o1 x1 r1 => by
    rw [List.append_nil]
    refine ⟨by rw [← paired_len r1]; exact hn, M, es, [(a, mo)], d, [(a, mo)], o1.alloc, r1, fun p hp => ?_, by simp, rfl, hR, fun v H2 e2 m2 d2 => ?_⟩
    · rw [List.mem_singleton.mp hp]
      let q := o1.mem _ hj; exact ⟨q.1, q.2.2⟩
    obtain ⟨o2, x2⟩ := after_E o1 (swap_same hj o1.nd) e2 m2
    exact k v H2 o2 (x1.trans x2) d2
theorem ok_newE {G : Mem} (o : Ok C M δ μ1 σ H1) {p : Addr} (w : Swap μ0 μ0' μ1 μ2) (hp : H1 p = none) (e : Ex (hide (ad μ0) H1) H2) (hmo : MOok C.K (hide (p :: M) H2) H2 p mo) (hm : ∀ q ∈ μ0', MOok C.K (hide (p :: M) H2) H2 q.1 q.2) : p ∉ M ∧ Ok C (p :: M) δ ((p, mo) :: μ2) σ H2 := by
  have pM := o.fresh hp
  have inM : ∀ b ∈ ad μ0, b ∈ M ∧ C.G b = none := fun b hb => by
    obtain ⟨q, hq, z⟩ := List.mem_map.mp hb
    have := o.mem q (w.sub q hq)
    rw [z] at this
    exact ⟨this.1, this.2.1⟩
  have kp : ∀ b u, b ∉ ad μ0 → H1 b = some u → H2 b = some u := fun b u ne q => e b u (by rw [hide_out ne]; exact q)
  have x : Ex (hide M H1) (hide (p :: M) H2) := fun b u z => by
    obtain ⟨q, z⟩ := hide_some z
    have ne : b ≠ p := ne_of_none z hp
    exact hide_mk (e b u (hide_mk z fun y => q (inM b y).1)) fun y => (List.mem_cons.mp y).elim (fun y => absurd y ne) q
  refine ⟨pM, ⟨o.len, fun i y h1 h2 => let ⟨v, a, c⟩ := o.slot i y h1 h2; ⟨v, a, c.mono x⟩, fun q hq => ?_, ?_, fun b hb => ?_, fun b hb => List.mem_cons_of_mem _ (o.sub b hb), fun b u z => ?_, o.base.trans x⟩⟩
  · rcases List.mem_cons.mp hq with z | hq
    · subst z
      refine ⟨List.mem_cons_self, ?_, hmo⟩
      cases z : C.G p with
      | none => rfl
      | some u => have := o.gr p u z; rw [hp] at this; cases this
    · rcases w.new q hq with h0 | ⟨h1, h2⟩
      · have : q.1 ∈ ad μ0 := by rw [← w.ad0]; exact List.mem_map.mpr ⟨q, h0, rfl⟩
        exact ⟨List.mem_cons_of_mem _ (inM _ this).1, (inM _ this).2, hm q h0⟩
      · obtain ⟨b1, b2, b3⟩ := o.mem q h1
        exact ⟨List.mem_cons_of_mem _ b1, b2, b3.mono x fun u z => kp _ u h2 z⟩
  · rw [List.map_cons, List.nodup_cons, show μ2.map (·.1) = μ1.map (·.1) from w.ad1]
    refine ⟨fun z => ?_, o.nd⟩
    obtain ⟨q, hq, z⟩ := List.mem_map.mp z
    have := (o.mem q hq).1
    rw [z] at this
    exact pM this
  · rcases List.mem_cons.mp hb with z | hb
    · rw [z]; exact hmo.there
    · by_cases q : b ∈ ad μ0
      · rw [← w.ad0] at q
        obtain ⟨r, hr, z⟩ := List.mem_map.mp q
        have := (hm r hr).there
        rw [z] at this; exact this
      · cases z : H1 b with
        | none => exact absurd z (o.alloc b hb)
        | some u => rw [kp b u q z]; exact fun z => nomatch z
  · exact kp b u (fun q => by have := (inM b q).2; rw [z] at this; cases this) (o.gr b u z)
/-- x = f(..), a new object handed back -/
theorem r_asgEN {R : List Ent → Mem → MO → Mem → Prop} {E : XK} (h : EvA C tr M δ μ μ1 es) (w : Swap μ0 μ0' μ1 μ2) (nd : (ad μ0).Nodup) (hR : R es μ0 mo μ0') (k : ∀ p, p ∉ M → Nx C D (p :: M) (δ.set i (.m p)) ((p, mo) :: μ2)) (hn : es.length = n := by rfl) :
    Run C (tAsg (tCall (spEN C.K n R) [] E tr) (gName i)) D M δ μ := fun σ H o => h σ H o _ fun vs H1 o1 x1 r1 => by
  rw [List.append_nil]
  refine ⟨by rw [← paired_len r1]; exact hn, M, es, μ0, mo, μ0', o1.alloc, r1, fun p hp => let q := o1.mem p (w.sub p hp); ⟨q.1, q.2.2⟩, nd, w.ad0, hR, fun p H2 hp e2 m1 m2 => ?_⟩
  obtain ⟨pM, o2⟩ := ok_newE (G := []) o1 w hp e2 m1 m2
  exact k p pM _ _ (o2.set i (e := .m p) rfl)
theorem q_asgEN {R : List Ent → Mem → MO → Mem → Prop} {E : XK} (h : EvA C tr M δ μ μ1 es) (w : Swap μ0 μ0' μ1 μ2) (nd : (ad μ0).Nodup) (hR : R es μ0 mo μ0') (k : ∀ p, p ∉ M → Run C t2 D (p :: M) (δ.set i (.m p)) ((p, mo) :: μ2)) (hn : es.length = n := by rfl) :
    Run C (tSeq (tAsg (tCall (spEN C.K n R) [] E tr) (gName i)) t2) D M δ μ := r_asgEN (D := { D with nx := t2 D }) h w nd hR k hn
/-- f(..) an operand, its new object held for the moment alone: the caller's rule -/
theorem r_retE (h : EvX C te M δ μ μ1 (.d d)) (hs : ∀ p ∈ μ', p ∈ μ1) (k : FinE C D d μ') : Run C (tRet te) D M δ μ := fun σ H o => h σ H o _ fun v H1 o1 x1 r =>
  k v M H1 o1.gr o1.sub (fun p hp => (o1.mem p (hs p hp)).2.2) r
theorem r_retEN (h : EvX C te M δ μ μ1 (.m a)) (hj : (a, mo) ∈ μ1) (ha : a ∉ C.M0) (hs : ∀ p ∈ μ', p ∈ μ1) (k : FinEN C D mo μ') : Run C (tRet te) D M δ μ := fun σ H o => h σ H o _ fun v H1 o1 x1 r => by
  have r' : v = .ref a := r
  rw [r']
  obtain ⟨q0, q1, q2⟩ := o1.mem _ hj
  exact k a M H1 q1 ha o1.gr o1.sub q0 q2 fun p hp => (o1.mem p (hs p hp)).2.2
/-! ### a dict walked under a lock -/
def lkE (D : Ends) (a : Addr) (u : HO) (od : Obj) : Ends := ⟨fun σ' H' => H' a = some (.frz od u) ∧ D.nx σ' (upd H' a u), fun v H' => H' a = some (.frz od u) ∧ D.rt v (upd H' a u), fun σ' H' => H' a = some (.frz od u) ∧ D.bk σ' (upd H' a u), fun σ' H' => H' a = some (.frz od u) ∧ D.ct σ' (upd H' a u)⟩
variable {kvs : List (Key × PyData)} {ws : List (Key × V)} {od : Obj} {t : TS}
theorem set_back {l : Mem} {x y : Addr × MO} (h : l[j]? = some x) : (l.set j y).set j x = l := by
  rw [List.set_set]
  refine List.ext_getElem? fun k => ?_
  by_cases q : j = k
  · subst q
    rw [List.getElem?_set_self (List.getElem?_eq_some_iff.mp h).1, h]
  · rw [List.getElem?_set_ne q]
theorem ok_lock (o : Ok C M δ μ σ H1) (hj : μ[j]? = some (a, .dK kvs)) : ∃ ws, H1 a = some (.dK ws) ∧ ∀ od, Ok C M δ (μ.set j (a, .fz od ws kvs)) σ (upd H1 a (.frz od (.dK ws))) := by
  obtain ⟨_, _, ws, e, c⟩ := o.mem _ (List.mem_of_getElem? hj)
  exact ⟨ws, e, fun od => o.write hj ⟨upd_same, c⟩⟩
theorem ok_unlock (hj : μ[j]? = some (a, .dK kvs)) (o : Ok C M δ (μ.set j (a, .fz od ws kvs)) σ H1) : H1 a = some (.frz od (.dK ws)) ∧ a ∈ M ∧ Ok C M δ μ σ (upd H1 a (.dK ws)) := by
  have hj' : (μ.set j (a, MO.fz od ws kvs))[j]? = some (a, .fz od ws kvs) := List.getElem?_set_self (List.getElem?_eq_some_iff.mp hj).1
  obtain ⟨q0, _, e, c⟩ := o.mem _ (List.mem_of_getElem? hj')
  have := o.write hj' (mo' := .dK kvs) (ho := .dK ws) ⟨ws, upd_same, c⟩
  rw [set_back hj] at this
  exact ⟨e, q0, this⟩
theorem r_lock (hj : μ[j]? = some (a, .dK kvs)) (h : ∀ od ws, Run C t (lkE D a (.dK ws) od) M δ (μ.set j (a, .fz od ws kvs))) : Run C (tLock t) D M δ μ := fun σ H o => by
  obtain ⟨ws, e, k⟩ := ok_lock o hj
  exact ⟨a, .dK ws, e, trivial, fun od => h od ws _ _ (k od)⟩
theorem q_lock (hj : μ[j]? = some (a, .dK kvs)) (h : ∀ od ws, Run C t (lkE { D with nx := t2 D } a (.dK ws) od) M δ (μ.set j (a, .fz od ws kvs))) : Run C (tSeq (tLock t) t2) D M δ μ := r_lock (D := { D with nx := t2 D }) hj h
theorem lk_nx (hj : μ[j]? = some (a, .dK kvs)) (k : Nx C D M δ μ) : Nx C (lkE D a (.dK ws) od) M δ (μ.set j (a, .fz od ws kvs)) := fun σ H o => by
  obtain ⟨e, _, o'⟩ := ok_unlock hj o
  exact ⟨e, k _ _ o'⟩
/-- handing back from within -/
theorem lk_ret (hj : μ1[j]? = some (a, .dK kvs)) (h : EvX C te M δ μ (μ1.set j (a, .fz od ws kvs)) (.d d)) (hs : ∀ p ∈ μ', p ∈ μ1) (k : FinE C D d μ') : Run C (tRet te) (lkE D a (.dK ws) od) M δ μ := fun σ H o => h σ H o _ fun v H1 o1 x1 r => by
  obtain ⟨e, aM, o'⟩ := ok_unlock hj o1
  exact ⟨e, k v M _ o'.gr o'.sub (fun p hp => (o'.mem p (hs p hp)).2.2) (by rw [hide_upd aM (by rw [e]; rfl) rfl]; exact r)⟩
theorem x_lock {e : Ent} (hj : μ[j]? = some (a, .dK kvs)) (h : ∀ od ws, EvX C te M δ (μ.set j (a, .fz od ws kvs)) (μ.set j (a, .fz od ws kvs)) e) : EvX C (tLockE te) M δ μ μ e := fun σ H o Q k => by
  obtain ⟨ws, e0, kk⟩ := ok_lock o hj
  refine ⟨a, .dK ws, e0, trivial, fun od => h od ws _ _ (kk od) _ fun v H1 o1 x1 r => ?_⟩
  obtain ⟨e1, aM, o'⟩ := ok_unlock hj o1
  rw [hide_upd aM (by rw [e0]; rfl) rfl] at x1
  exact ⟨e1, k v _ o' (by rw [hide_upd aM (by rw [e1]; rfl) rfl]; exact x1) (by rw [hide_upd aM (by rw [e1]; rfl) rfl]; exact r)⟩
theorem w_keys {K : PySem.W.Frag} {Hh : Hp} {l : Dct} {Hx : Hp} (c : DcOk K Hx ws (kd l)) : WalkN K (Itk a od ws) Hh (fun H => H a = some (.frz od (.dK ws))) ((l.map (·.1)).map .str) where
  go := fun M i H hi _ _ n => ⟨n, by rw [dc_len c]; simpa using hi⟩
  stop := fun M H _ _ n => ⟨n, by rw [dc_len c]; simp⟩
  yld := fun M i H x H' hi al ex n y => by
    obtain ⟨rfl, k, v, e1, rfl⟩ := y
    obtain ⟨p, e2, rfl⟩ := dc_get c e1
    refine ⟨Ex.refl _, .str p.1, ?_, .str _⟩
    rw [List.getElem?_map, List.getElem?_map, e2]; rfl
theorem i_keys {l : Dct} (h : EvX C ta M δ μ μ1 (.m a)) (hm : (a, .fz od ws (kd l)) ∈ μ1) : EvIN C (iKeys ta) M δ μ μ1 (fun H => H a = some (.frz od (.dK ws))) ((l.map (·.1)).map .str) := fun σ H o R k => h σ H o _ fun v H1 o1 x1 r => by
  have r' : v = .ref a := r
  obtain ⟨_, _, e, c⟩ := o1.mem _ hm
  exact ⟨a, od, r', .inl ⟨ws, e, k _ H1 o1 x1 (w_keys c)⟩⟩
theorem ok_frz {l : Dct} (hm : (a, .fz od ws (kd l)) ∈ μ) (o : Ok C M δ μ σ H1) : H1 a = some (.frz od (.dK ws)) := (o.mem _ hm).2.2.1
end
end FD
/-! a comprehension of two fors -/
namespace FD
open PySem L2 Evl
section
variable {C : Cfg} {M : List Addr} {δ : List Ent} {μ μ' : Mem}
theorem wipe_two {σ2 σ3 : L2.St} {vs1 : List Nat} (h : wipe σ3 vs1 = wipe σ2 vs1) : True := trivial
theorem x_lc2P {N : Hp → Prop} {wi wi1 : TI} {g g1 : TG} {tt : TT} {te : TE} {vs vs1 : List Nat} {xs : List PyData} (b : Nat → Bool) (ys : Nat → List PyData) (f : Nat → Nat → PyData) (hi : EvIN C wi M δ μ μ' N xs) (hN : ∀ (B : Hp) (D : Addr) (σ : L2.St) (H : Hp), Ok { C with B := B } (D :: M) δ μ' σ H → N H)
    (hz : ((List.range xs.length).map fun i => (ys i).length).sum ≤ 90000)
    (hs : ∀ (i : Nat) (d : PyData), xs[i]? = some d → ∀ (G B : Hp) (D : Addr), ∃ ts δ1, TgX C.K g ts d (wipeE δ vs) δ1 ∧ (∀ k ∈ ts, k ∈ vs) ∧ EvT { C with G := G, B := B } tt (D :: M) δ1 μ' μ' (b i) ∧
      (b i = true → EvI { C with G := G, B := B } wi1 (D :: M) δ1 μ' μ' (ys i) ∧ ∀ (j : Nat) (e : PyData), (ys i)[j]? = some e → ∃ ts1 δ2, TgX C.K g1 ts1 e (wipeE δ1 vs1) δ2 ∧ (∀ k ∈ ts1, k ∈ vs1) ∧ ∀ G B : Hp, EvX { C with G := G, B := B } te (D :: M) δ2 μ' μ' (.d (f i j)))) :
    EvX C (tLc2 wi g tt wi1 g1 tYes te vs vs1) M δ μ μ' (.d (.list ((List.range xs.length).flatMap fun i => if b i = true then (List.range (ys i).length).map (f i) else []))) := fun σ H o Q k => by
  refine hi σ H o _ fun J H1 o1 x1 W D hD => ?_
  have oB := o1.toB
  have hDM : D ∉ M := o1.fresh hD
  have o2 : Ok { C with B := hide M H1 } (D :: M) δ μ' σ (upd H1 D (.lst [])) :=
    (oB.new hD (mo := .lst []) ⟨[], upd_same, .nil⟩).mems (fun p hp => List.mem_cons_of_mem _ hp) o1.nd
  have hSM : ∀ p ∈ μ', p.1 ∈ M := fun p hp => (o1.mem p hp).1
  have nD : ∀ p ∈ μ', p.1 ≠ D := fun p hp z => hDM (z ▸ hSM p hp)
  have gD : C.G D = none := by
    cases z : C.G D with
    | none => rfl
    | some u => have := o1.gr D u z; rw [hD] at this; cases this
  generalize hg : (fun i => if b i = true then (List.range (ys i).length).map (f i) else []) = gg
  have hgl : ∀ n, n ≤ xs.length → ((List.range n).flatMap gg).length ≤ ((List.range n).map fun i => (ys i).length).sum := by
    intro n
    induction n with
    | zero => intro _; simp
    | succ n ih =>
      intro hn
      rw [List.range_succ, List.flatMap_append, List.map_append, List.sum_append, List.length_append]
      have := ih (by omega)
      have e2 : ([n].flatMap gg).length ≤ (ys n).length := by
        rw [List.flatMap_singleton, ← hg]
        dsimp only
        split
        · simp
        · simp
      simp only [List.map_cons, List.map_nil, List.sum_cons, List.sum_nil]
      omega
  have hmono : ∀ n, n < xs.length → ((List.range n).map fun i => (ys i).length).sum + (ys n).length ≤ 90000 := by
    intro n hn
    have : ∀ m, n + 1 ≤ m → ((List.range (n + 1)).map fun i => (ys i).length).sum ≤ ((List.range m).map fun i => (ys i).length).sum := by
      intro m hm
      induction m with
      | zero => omega
      | succ m ih =>
        by_cases e : n + 1 = m + 1
        · rw [e]; exact Nat.le_refl _
        · have := ih (by omega)
          rw [List.range_succ (n := m), List.map_append, List.sum_append]
          omega
    have h1 := this xs.length (by omega)
    rw [List.range_succ, List.map_append, List.sum_append] at h1
    simp only [List.map_cons, List.map_nil, List.sum_cons, List.sum_nil] at h1
    omega
  refine ⟨fun i m H' => m = xs.length - i ∧ i ≤ xs.length ∧ Ok { C with B := hide M H1 } (D :: M) δ μ' σ H' ∧ ∃ acc, H' D = some (.lst acc) ∧ DpAll C.K (hide (D :: M) H') acc ((List.range i).flatMap gg),
    ⟨xs.length, by simp, Nat.zero_le _, o2, [], upd_same, .nil⟩, ?_⟩
  rintro i m H' ⟨rfl, hi', oi, acc, hacc, dacc⟩
  by_cases hlt : i < xs.length
  · refine .inr ⟨W.go (D :: M) i H' hlt oi.alloc oi.base (hN _ _ _ _ oi), fun H'' => Ok { C with B := hide M H1 } (D :: M) δ μ' σ H'' ∧ ∃ acc, H'' D = some (.lst acc) ∧ DpAll C.K (hide (D :: M) H'') acc ((List.range (i + 1)).flatMap gg),
      fun H'' q => ⟨xs.length - (i + 1), by omega, rfl, hlt, q⟩, fun x H2 y => ?_⟩
    obtain ⟨e2, d, hd, dx⟩ := W.yld (D :: M) i H' x H2 hlt oi.alloc oi.base (hN _ _ _ _ oi) y
    have o3 := oi.grow e2
    have o4 := o3.toG
    obtain ⟨ts, δ1, tg, hts, ht, hin⟩ := hs i d hd (hide (μ'.map (·.1)) H2) (hide M H1) D
    have hD2 : H2 D = some (.lst acc) := e2 D _ hacc
    have outD : D ∉ μ'.map (·.1) := fun z => by
      obtain ⟨r, hr, er⟩ := List.mem_map.mp z
      exact nD r hr er
    have gD2 : hide (μ'.map (·.1)) H2 D = some (.lst acc) := by rw [hide_out outD]; exact hD2
    refine tg { C with G := hide (μ'.map (·.1)) H2, B := hide M H1 } _ _ _ _ _ rfl (o4.wiped vs) dx _ fun σ2 o5 hl2 hσ2 => ⟨wipe_eq (by rw [hl2, wipe_length]) hσ2 hts, ?_⟩
    refine ht σ2 H2 o5 _ fun H3 o6 x6 => ?_
    have hlen : acc.length ≤ ((List.range i).map fun i => (ys i).length).sum := by rw [dacc.length]; exact hgl i (by omega)
    have d3 : DpAll C.K (hide (D :: M) H3) acc ((List.range i).flatMap gg) := dpAll_mono ((hide_ex e2).trans x6) _ _ dacc
    have hD3 : H3 D = some (.lst acc) := o6.gr D _ gD2
    have esucc : (List.range (i + 1)).flatMap gg = (List.range i).flatMap gg ++ gg i := by rw [List.range_succ, List.flatMap_append, List.flatMap_singleton]
    cases hb : b i with
    | false =>
      rw [if_neg Bool.false_ne_true]
      refine ⟨o3.swap (o3.ofG o6) x6, acc, hD3, ?_⟩
      rw [esucc, show gg i = [] by rw [← hg]; simp [hb], List.append_nil]
      exact d3
    | true =>
      rw [if_pos rfl]
      obtain ⟨hi1, hin1⟩ := hin hb
      refine hi1 σ2 H3 o6 _ fun J1 H4 o7 x7 W1 => ?_
      have hD4 : H4 D = some (.lst acc) := o7.gr D _ gD2
      have o7' : Ok { C with B := hide (D :: M) H4 } (D :: M) δ1 μ' σ2 H4 := (o3.ofG o7).toB
      have o8 : Ok { C with B := hide M H1 } (D :: M) δ μ' σ H4 := o3.swap (o3.ofG o7) (x6.trans x7)
      have egg : gg i = (List.range (ys i).length).map (f i) := by rw [← hg]; simp [hb]
      refine ⟨fun j m H' => m = (ys i).length - j ∧ j ≤ (ys i).length ∧ Ok { C with B := hide (D :: M) H4 } (D :: M) δ1 μ' σ2 H' ∧ Ok { C with B := hide M H1 } (D :: M) δ μ' σ H' ∧ ∃ acc, H' D = some (.lst acc) ∧ DpAll C.K (hide (D :: M) H') acc ((List.range i).flatMap gg ++ (List.range j).map (f i)),
        ⟨(ys i).length, by simp, Nat.zero_le _, o7', o8, acc, hD4, by rw [List.range_zero, List.map_nil, List.append_nil]; exact dpAll_mono x7 _ _ d3⟩, ?_⟩
      rintro j m H5 ⟨rfl, hj', oj, oj2, acc1, hacc1, dacc1⟩
      by_cases hlt1 : j < (ys i).length
      · refine .inr ⟨W1.go (D :: M) j H5 hlt1 oj.alloc oj.base, fun H'' => Ok { C with B := hide (D :: M) H4 } (D :: M) δ1 μ' σ2 H'' ∧ Ok { C with B := hide M H1 } (D :: M) δ μ' σ H'' ∧ ∃ acc, H'' D = some (.lst acc) ∧ DpAll C.K (hide (D :: M) H'') acc ((List.range i).flatMap gg ++ (List.range (j + 1)).map (f i)),
          fun H'' q => ⟨(ys i).length - (j + 1), by omega, rfl, hlt1, q⟩, fun x1 H6 y1 => ?_⟩
        obtain ⟨e6, e, he, dx1⟩ := W1.yld (D :: M) j H5 x1 H6 hlt1 oj.alloc oj.base y1
        have p3 := oj.grow e6
        have p4 := p3.toG
        obtain ⟨ts1, δ2, tg1, hts1, hel⟩ := hin1 j e he
        have hD6 : H6 D = some (.lst acc1) := e6 D _ hacc1
        have gD6 : hide (μ'.map (·.1)) H6 D = some (.lst acc1) := by rw [hide_out outD]; exact hD6
        refine tg1 { C with G := hide (μ'.map (·.1)) H6, B := hide (D :: M) H4 } _ _ _ _ _ rfl (p4.wiped vs1) dx1 _ fun σ3 p5 hl3 hσ3 => ⟨wipe_eq (by rw [hl3, wipe_length]) hσ3 hts1, ?_⟩
        unfold tYes
        dsimp only
        rw [if_pos rfl]
        refine hel _ _ σ3 H6 p5 _ fun v H7 p7 x7 r7 => ?_
        have hD7 : H7 D = some (.lst acc1) := p7.gr D _ gD6
        have q8 : Ok { C with B := hide (D :: M) H4 } (D :: M) δ1 μ' σ2 H7 := p3.swap (p3.ofG p7) x7
        have pg := (oj2.grow e6)
        have q9 : Ok { C with B := hide M H1 } (D :: M) δ μ' σ H7 :=
          ⟨pg.len, fun i y h1 h2 => let ⟨v, a, c⟩ := pg.slot i y h1 h2; ⟨v, a, c.mono x7⟩, q8.mem, q8.nd, q8.alloc, q8.sub, q8.gr, pg.base.trans x7⟩
        have l1 : acc1.length ≤ 90000 := by
          rw [dacc1.length, List.length_append, List.length_map, List.length_range]
          have := hmono i hlt
          have := hgl i (by omega)
          omega
        refine ⟨acc1, hD7, sz_lt (by omega), q8.writeH List.mem_cons_self nD gD (by rw [hD7]; rfl), q9.writeH List.mem_cons_self nD gD (by rw [hD7]; rfl), _, upd_same, ?_⟩
        rw [hide_upd List.mem_cons_self (by rw [hD7]; rfl) rfl, List.range_succ, List.map_append, ← List.append_assoc]
        exact (dpAll_mono ((hide_ex e6).trans x7) _ _ dacc1).append (.cons r7 .nil)
      · have ej : j = (ys i).length := by omega
        subst ej
        refine .inl ⟨W1.stop (D :: M) H5 oj.alloc oj.base, oj2, acc1, hacc1, ?_⟩
        rw [esucc, egg]
        exact dacc1
  · have ei : i = xs.length := by omega
    subst ei
    refine .inl ⟨W.stop (D :: M) H' oi.alloc oi.base (hN _ _ _ _ oi), ?_⟩
    have s1 : ∀ a ∈ M, a ∈ D :: M := fun a ha => List.mem_cons_of_mem _ ha
    have oE : Ok C M δ μ' σ H' := (oi.drop (M := M) s1 hSM o1.sub).reB o1.base
    have xE : Ex (hide M H) (hide M H') := x1.trans (oi.base.trans (hide_sub s1))
    subst hg
    refine k _ H' oE xE (.lst (sq_of ?_) (dpAll_mono (hide_sub s1) _ _ dacc))
    rw [hide_out hDM]; exact hacc
end
end FD
/-! texts, bits, more of lists; t[::-1] of a tuple -/
namespace FD
open PySem PySem.Spec L2 PyProof.Rows HT
section
variable {prog : Program} {w : World} {A : Around} {E : Value → Shared → Prop} {s : Shared}
theorem fm_congr {α β : Type} {f g : α → Option β} : ∀ {l : List α}, (∀ m ∈ l, f m = g m) → l.filterMap f = l.filterMap g
  | [], _ => rfl
  | x :: l, h => by
    rw [List.filterMap_cons, List.filterMap_cons, h x List.mem_cons_self, fm_congr fun m hm => h m (List.mem_cons_of_mem _ hm)]
theorem back_adjust (n : Nat) : Builtin.Slice.sliceAdjust none none (-1) (n : Int) = ((n : Int) - 1, -1) := rfl
theorem back_places (n : Nat) : Builtin.Slice.slicePlaces ((n : Int) - 1) (-1) (-1) = n := by
  unfold Builtin.Slice.slicePlaces
  rw [if_neg (by decide)]
  split
  · have e : ((n : Int) - 1 - -1 - 1) / (- -1) = (n : Int) - 1 := by
      rw [show (- -1 : Int) = 1 by decide, Int.ediv_one]
      omega
    rw [e]; omega
  · omega
theorem back_pick (xs : Array Value) : ((List.range xs.size).filterMap fun (m : Nat) => xs[((xs.size : Int) - 1 + (m : Int) * (-1)).toNat]?) = xs.toList.reverse := by
  have e : ∀ m ∈ List.range xs.size, xs[((xs.size : Int) - 1 + (m : Int) * (-1)).toNat]? = xs.toList.reverse[m]? := fun m hm => by
    have hm := List.mem_range.mp hm
    rw [List.getElem?_reverse (by simpa using hm), Array.length_toList, Array.getElem?_toList]
    congr 1
    omega
  rw [fm_congr e]
  refine List.ext_getElem? fun i => ?_
  have key : ∀ (ys : List Value) (n : Nat), n ≤ ys.length → (List.range n).filterMap (fun m => ys[m]?) = ys.take n := by
    intro ys n
    induction n with
    | zero => intro _; simp
    | succ n ih =>
      intro h
      rw [List.range_succ, List.filterMap_append, ih (by omega), List.take_add_one]
      simp [show n < ys.length by omega]
  rw [key _ _ (by simp), List.take_of_length_le (by simp)]
theorem getItem_back {t sl : Addr} {items : Array Value} {vz : Value} {Q : Value → Shared → Prop} (ht : IsTup s.heap t items) (hs : s.heap.IsSliceOf sl .none .none vz) (pz : IsPart vz (some (-1)))
    (h : Q (.ref s.heap.objs.size) { s with heap := s.heap.push { cls := .type "tuple", data := .seq items.toList.reverse.toArray } }) (hsz : items.size ≤ sizeLine) : wpAny (model prog w) A (getItem (.ref t) (.ref sl)) Q E s := by
  have okS : sizeOk (.seq items.toList.reverse.toArray) := by
    show items.toList.reverse.toArray.size ≤ sizeLine
    simpa using hsz
  obtain ⟨os, hos, hcs, hds⟩ := id hs
  have tS : s.TypeIs (.ref sl) "slice" := ⟨os, hos, hcs⟩
  unfold getItem
  try with_reducible refine wpAny_holding ?_
  first | refine wpAny_bind (wpAny_pure ?_) | skip
  refine wpAny_bind (wpAny_sequenceKey ht.typeIs (by decide) ?_)
  refine wpAny_bind (wpAny_callSpecial?_slot (name := Str.ofString "__getitem__") ht.typeIs PyProof.Rows.slot_tuple_getitem (wpAny_call_entry PyProof.Rows.slot_tuple_getitem ht.typeIs entry_tuple_getitem ?_ (args_tuple_getitem _ _)))
  show wpAny _ _ (Builtin.Tuple.tupleItemsOf (.ref t) >>= _) _ _ s
  refine wpAny_bind (tupleItemsOf_ ht ?_)
  refine wpAny_bind (wpAny_typeOf tS ?_)
  rw [if_pos (by decide)]
  refine wpAny_bind ?_
  unfold Builtin.Slice.sliceApplied Builtin.Slice.sliceFields
  refine wpAny_bind (wpAny_bind (wpAny_field hos hds (x := .none) rfl (wpAny_bind (wpAny_field hos hds (x := .none) rfl (wpAny_bind (wpAny_field hos hds (x := vz) rfl (wpAny_pure ?_)))))))
  refine wpAny_bind (slicePart_ pz ?_)
  show wpAny _ _ (if ((-1 : Int) == 0) = true then _ else _) _ _ s
  rw [if_neg (by decide)]
  refine wpAny_bind (slicePart_none (wpAny_bind (slicePart_none (wpAny_bind (wpAny_pure ?_)))))
  show wpAny _ _ (match Builtin.Slice.sliceAdjust none none (-1) (items.size : Int) with | (lo, hi) => pure (lo, (-1 : Int), Builtin.Slice.slicePlaces lo hi (-1))) _ _ s
  rw [back_adjust]
  show wpAny _ _ (pure ((items.size : Int) - 1, (-1 : Int), Builtin.Slice.slicePlaces ((items.size : Int) - 1) (-1) (-1))) _ _ s
  rw [back_places]
  refine wpAny_pure ?_
  have no1 : ¬ ((((items.size : Int) - 1 == 0) && ((-1 : Int) == 1) && (items.size == items.size)) = true) := by simp
  show wpAny _ _ (if (((items.size : Int) - 1 == 0) && ((-1 : Int) == 1) && (items.size == items.size)) = true then _ else _) _ _ s
  rw [if_neg no1, back_pick]
  first
    | exact wpAny_bind (m := Builtin.Tuple.tupleExact _) (wpAny_newObj_type (wpAny_pure ⟨_, rfl, wpAny_pure h⟩) okS)
    | exact wpAny_bind (m := Builtin.Tuple.tupleExact _) (wpAny_newObj_type (wpAny_bind (wpAny_pure (wpAny_pure ⟨_, rfl, wpAny_pure h⟩))) okS)
    | exact wpAny_bind (wpAny_bind (m := Builtin.Tuple.tupleExact _) (wpAny_newObj_type (wpAny_pure (wpAny_pure ⟨_, rfl, wpAny_pure h⟩)) okS))
    | exact wpAny_bind (wpAny_bind (m := Builtin.Tuple.tupleExact _) (wpAny_newObj_type (wpAny_pure ⟨_, rfl, wpAny_pure h⟩) okS))
end
def tRevT (K : PySem.W.Frag) (te : TE) : TE := fun σ H Q => te σ H fun x H1 => ∃ a xs, x = .ref a ∧ SqT K H1 a xs ∧ ∀ p, H1 p = none → Q (.ref p) (upd H1 p (.tup xs.reverse))
section
variable {X : Cx}
theorem pe_revT {e : Expr} {te : TE} {k : Nat} {p1 p2 p3 pos : Pos} (he : PE X e te) : PE X (.Subscript e (.Slice none none (some (.UnaryOp .USub (.Constant (.int 1) k p1) p2)) p3) pos) (tRevT X.K te) := by
  refine ⟨fun pins s σ H Q I h => ?_⟩
  refine Subscript_ (thn (he.run pins s σ H _ I h) fun v s1 ⟨x, H1, I1, r1, a, xs, ex, hx, q⟩ => ?_)
  subst ex
  cases r1
  have st1 : PO X (some (.UnaryOp .USub (.Constant (.int 1) k p1) p2)) (tPart (tUn (rU fun i => .int (-i)) (tC (.int 1)))) := po_some (pe_un un_neg pe_int)
  have n0 : PO X none tNoPart := po_none
  refine wpAny_Slice ?_
  rw [evalPart_none]
  refine wpAny_pure (wpAny_pure ?_)
  refine thn (st1.run pins s1 σ H1 (fun o H4 => o = some (-1) ∧ H4 = H1) I1 ⟨1, rfl, -1, rfl, rfl, rfl⟩) fun vz s4 ⟨o, H4, I4, pz, eo, e4⟩ => ?_
  subst eo e4
  have I5 : Inv X pins σ H4 { s4 with heap := s4.heap.push { cls := .type "slice", data := .fields #[.none, .none, vz] } } := I4.kept (t' := s4.toks) fun b ob q => Heap.get?_push_of_some _ q
  obtain ⟨its, r, pt, hz⟩ := I5.tuple hx
  have hlen := r.length
  show wpAny (model X.prog X.w) X.A (subscriptTail e (.Slice none none (some (.UnaryOp .USub (.Constant (.int 1) k p1) p2)) p3) (.ref a) (.ref s4.heap.objs.size)) (EP X pins σ Q) X.xe { s4 with heap := s4.heap.push { cls := .type "slice", data := .fields #[.none, .none, vz] } }
  refine tail_any (ops := [.ref a, .ref s4.heap.objs.size]) pt.typeIs (PyProof.Rows.slot_tuple_getitem.lookup) ?_ (by with_unfolding_all rfl)
  refine getItem_back pt (Heap.IsSliceOf.new _ .none .none vz) pz ?_ (by rw [List.size_toArray]; omega)
  refine ⟨.ref _, _, I5.laid (t' := s4.toks) (o := .tup xs.reverse) (fun b ob q => Heap.get?_push_of_some _ q) (Nat.le_refl _) ?_, rfl, q _ (I5.hok.fresh (Nat.le_refl _))⟩
  exact ⟨by rw [List.length_reverse]; exact hz, its.reverse, r.reverse, ⟨_, Heap.get?_push_size _ rfl, rfl, _, rfl⟩⟩
end
end FD
namespace FD
open PySem L2 Evl
theorem DpAll.bools {K : PySem.W.Frag} {H : Hp} : ∀ {vs : List V} {ns : List Bool}, DpAll K H vs (ns.map PyData.bool) → vs = ns.map V.bl
  | vs, [], h => by cases h; rfl
  | vs, n :: ns, h => by
    cases h with
    | cons h1 h2 =>
      cases h1
      rw [DpAll.bools h2]
      rfl
theorem inV_strs (z : Str) (zs : List Str) : inV (.str z) (zs.map V.str) = decide (z ∈ zs) := by
  unfold inV
  rw [List.any_map]
  rw [Bool.eq_iff_iff, List.any_eq_true, decide_eq_true_eq]
  constructor
  · rintro ⟨y, hy, e⟩
    have e : (y == z) = true := e
    rw [← eq_of_beq e]; exact hy
  · exact fun h => ⟨z, h, (beq_self_eq_true z : (z == z) = true)⟩
section
variable {C : Cfg} {M : List Addr} {δ : List Ent} {μ μ1 μ2 μ3 μ' : Mem} {ta tb te : TE} {a : Addr} {e : Ent} {tr : TA} {D : Ends} {t2 : TS} {i j : Nat} {z y : Str} {zs : List Str} {ds : List PyData} {d : PyData}
/-! ### texts -/
abbrev rAddStr : R2 := fun x y H Q => ∃ i j, x = .str i ∧ y = .str j ∧ i.length + j.length ≤ sizeLine ∧ Q (.str (i ++ j)) H
theorem o_addS (h : z.length + y.length ≤ 100000) : OpX C rAddStr M δ μ μ (.d (.str z)) (.d (.str y)) (.d (.str (z ++ y))) := fun σ H u v o h1 h2 Q k =>
  ⟨z, y, Dp.str_of h1, Dp.str_of h2, sz_of h, k _ H o (Ex.refl _) (.str _)⟩
theorem x_slS {tl th : TO} {lo hi : Option Int} (h : EvX C te M δ μ μ1 (.d (.str z))) (hl : EvO C tl M δ μ1 μ2 lo) (hh : EvO C th M δ μ2 μ3 hi) (hz : z.length ≤ 100000) : EvX C (tSl rSlS te tl th) M δ μ μ3 (.d (.str (cutS z lo hi))) := fun σ H o Q k =>
  h σ H o _ fun v H1 o1 x1 r1 => hl σ H1 o1 _ fun H2 o2 x2 => hh σ H2 o2 _ fun H3 o3 x3 => ⟨z, Dp.str_of r1, sz_of hz, k _ H3 o3 (x1.trans (x2.trans x3)) (.str _)⟩
theorem o_ixS {n : Int} {c : Nat} (hz : z.length ≤ 100000) (ha : atI z.cps.toList n = some c) : OpX C rIxS M δ μ μ (.d (.str z)) (.d (.int n)) (.d (.str ⟨#[c]⟩)) := fun σ H u v o h1 h2 Q k =>
  ⟨z, n, c, Dp.str_of h1, Dp.int_of h2, sz_of hz, ha, k _ H o (Ex.refl _) (.str _)⟩
abbrev rLenStr : List V → Hp → VK → Prop := fun xs H Q => ∃ z, xs = [.str z] ∧ z.length ≤ sizeLine ∧ Q (.int z.length) H
theorem c_lenS (hz : z.length ≤ 100000) : CallX C rLenStr M δ μ μ [.d (.str z)] (.d (.int z.length)) := fun σ H vs o h Q k => by
  obtain ⟨v, rfl, q⟩ := p1 h
  exact ⟨z, by rw [Dp.str_of q], sz_of hz, k _ H o (Ex.refl _) (.int _)⟩
/-! ### a text in a list or tuple of texts -/
theorem o_inL (r : Rdd μ e (.list (zs.map .str))) : OpX C (rIn C.K false) M δ μ μ (.d (.str z)) e (.d (.bool (decide (z ∈ zs)))) := fun σ H u v o h1 h2 Q k => by
  obtain ⟨p, ws, q1, q2, q3⟩ := r.lst o h2
  have e3 := DpAll.strs q3
  subst e3
  refine ⟨p, zs.map V.str, q1, .inl q2, by rw [Dp.str_of h1]; rfl, flat_strs zs, ?_⟩
  rw [Dp.str_of h1, if_neg Bool.false_ne_true, inV_strs]
  exact k _ H o (Ex.refl _) (.bl _)
theorem o_inT : OpX C (rIn C.K false) M δ μ μ (.d (.str z)) (.d (.tuple (zs.map .str))) (.d (.bool (decide (z ∈ zs)))) := fun σ H u v o h1 h2 Q k => by
  obtain ⟨p, ws, q1, q2, q3⟩ := Dp.tup_of h2
  have e3 := DpAll.strs q3
  subst e3
  refine ⟨p, zs.map V.str, q1, .inr (ex_t hide_le q2), by rw [Dp.str_of h1]; rfl, flat_strs zs, ?_⟩
  rw [Dp.str_of h1, if_neg Bool.false_ne_true, inV_strs]
  exact k _ H o (Ex.refl _) (.bl _)
theorem o_notInL (r : Rdd μ e (.list (zs.map .str))) : OpX C (rIn C.K true) M δ μ μ (.d (.str z)) e (.d (.bool (!decide (z ∈ zs)))) := fun σ H u v o h1 h2 Q k => by
  obtain ⟨p, ws, q1, q2, q3⟩ := r.lst o h2
  have e3 := DpAll.strs q3
  subst e3
  refine ⟨p, zs.map V.str, q1, .inl q2, by rw [Dp.str_of h1]; rfl, flat_strs zs, ?_⟩
  rw [Dp.str_of h1, if_pos rfl, inV_strs]
  exact k _ H o (Ex.refl _) (.bl _)
/-! ### all, any -/
theorem c_all {bs : List Bool} (r : Rdd μ e (.list (bs.map .bool))) : CallX C (rAll C.K) M δ μ μ [e] (.d (.bool (bs.all id))) := fun σ H vs o h Q k => by
  obtain ⟨v, rfl, q⟩ := p1 h
  obtain ⟨p, ws, q1, q2, q3⟩ := r.lst o q
  have e3 := DpAll.bools q3
  subst e3
  exact ⟨p, bs, by rw [q1], q2, k _ H o (Ex.refl _) (.bl _)⟩
theorem c_any {bs : List Bool} (r : Rdd μ e (.list (bs.map .bool))) : CallX C (rAny C.K) M δ μ μ [e] (.d (.bool (bs.any id))) := fun σ H vs o h Q k => by
  obtain ⟨v, rfl, q⟩ := p1 h
  obtain ⟨p, ws, q1, q2, q3⟩ := r.lst o q
  have e3 := DpAll.bools q3
  subst e3
  exact ⟨p, bs, by rw [q1], q2, k _ H o (Ex.refl _) (.bl _)⟩
/-! ### list(x), pops, repeats -/
abbrev rListOf (K : PySem.W.Frag) : List V → Hp → VK → Prop := fun xs H Q => ∃ p ys, xs = [.ref p] ∧ (SqL K H p ys ∨ SqT K H p ys) ∧ ∀ l, H l = none → Q (.ref l) (upd H l (.lst ys))
/-- x = list(t): a list of one's own -/
theorem q_listT (h : EvA C tr M δ μ μ1 [.d (.tuple ds)]) (k : ∀ p, p ∉ M → Run C t2 D (p :: M) (δ.set i (.m p)) ((p, .lst ds) :: μ1)) : Run C (tSeq (tAsg (tCB (rListOf C.K) tr) (gName i)) t2) D M δ μ := fun σ H o => h σ H o _ fun vs H1 o1 x1 r1 => by
  obtain ⟨v, rfl, q⟩ := p1 r1
  obtain ⟨p, ws, q1, q2, q3⟩ := Dp.tup_of q
  refine ⟨p, ws, by rw [q1], .inr (ex_t hide_le q2), fun l hp => ?_⟩
  have o2 := o1.new hp (mo := .lst ds) (ho := .lst ws) ⟨ws, upd_same, dpAll_mono (hide_new hp) _ _ q3⟩
  exact k l (o1.fresh hp) _ _ (o2.set i (e := .m l) rfl)
theorem dp_dropLast {K : PySem.W.Frag} {H : Hp} {vs : List V} {ds : List PyData} (h : DpAll K H vs ds) : DpAll K H vs.dropLast ds.dropLast := by
  rw [List.dropLast_eq_take, List.dropLast_eq_take, h.length]
  exact h.take _
/-- x.pop() -/
theorem r_pop (hx : EvX C ta M δ μ μ1 (.m a)) (hj : μ1[j]? = some (a, .lst ds)) (h0 : ds ≠ []) (k : Nx C D M δ (μ1.set j (a, .lst ds.dropLast))) : Run C (tDrop (tBM0 C.K "list" rPop ta)) D M δ μ := fun σ H o => hx σ H o _ fun v H1 o1 x1 r1 => by
  have e1 : v = .ref a := r1
  subst e1
  obtain ⟨_, _, vs, q1, q2⟩ := o1.mem _ (List.mem_of_getElem? hj)
  have hl : 0 < vs.length := by rw [q2.length]; exact List.length_pos_iff.mpr h0
  refine ⟨.inl ⟨rfl, _, SqL.of q1⟩, a, vs, vs[vs.length - 1], rfl, rfl, q1, by simp [show vs.length - 1 < vs.length by omega], ?_⟩
  exact k _ _ (o1.write hj ⟨_, upd_same, dp_dropLast q2⟩)
/-- x = [z] * n -/
theorem q_rep {n : Nat} {z : Int} (h : ∀ p, p ∉ M → EvX C tb (p :: M) δ ((p, .lst [.int z]) :: μ) ((p, .lst [.int z]) :: μ) (.d (.int (n : Int)))) (hn : n ≤ 100000)
    (k : ∀ p q, p ∉ M → q ∉ p :: M → Run C t2 D (q :: p :: M) (δ.set i (.m q)) ((q, .lst (List.replicate n (.int z))) :: (p, .lst [.int z]) :: μ)) : Run C (tSeq (tAsg (tOp rRep (tLst (tCons (tC (.int z)) tNil)) tb) (gName i)) t2) D M δ μ := fun σ H o => ⟨sz_of (by simp), fun p hp => by
  have pM := o.fresh hp
  have o2 : Ok C (p :: M) δ ((p, .lst [.int z]) :: μ) σ (upd H p (.lst [.int z])) := o.new hp (mo := .lst [.int z]) (ho := .lst [.int z]) ⟨_, upd_same, .cons (.int z) .nil⟩
  refine h p pM σ _ o2 _ fun v H1 o1 x1 r1 => ?_
  obtain ⟨_, _, vs, q1, q2⟩ := o1.mem _ List.mem_cons_self
  have e1 : vs = [.int z] := DpAll.ints (ns := [z]) q2
  subst e1
  refine ⟨p, n, _, rfl, Dp.int_of r1, q1, by omega, by omega, sz_of (by simp; omega), fun q hq => ?_⟩
  have e2 : (List.replicate ((n : Int)).toNat [V.int z]).flatten = List.replicate n (V.int z) := by
    rw [Int.toNat_natCast]
    clear q2 r1 h k
    induction n with
    | zero => rfl
    | succ n ih => rw [List.replicate_succ, List.flatten_cons, ih (by omega)]; rfl
  rw [e2]
  have dr : DpAll C.K (hide (q :: p :: M) (upd H1 q (.lst (List.replicate n (V.int z))))) (List.replicate n (V.int z)) (List.replicate n (PyData.int z)) := by
    clear e2 r1 h k
    induction n with
    | zero => exact .nil
    | succ n ih => rw [List.replicate_succ, List.replicate_succ]; exact .cons (.int z) (by have := ih (by omega); clear ih; exact (by
        have w : ∀ {A B : Hp} {vs : List V} {ns : List Int}, DpAll C.K A vs (ns.map PyData.int) → DpAll C.K B vs (ns.map PyData.int) := fun h => by rw [DpAll.ints h]; exact DpAll.of_ints _
        have e : List.replicate n (PyData.int z) = (List.replicate n z).map PyData.int := by rw [List.map_replicate]
        rw [e] at this ⊢
        exact w this))
  have o3 := o1.new hq (mo := .lst (List.replicate n (.int z))) (ho := .lst (List.replicate n (V.int z))) ⟨_, upd_same, dr⟩
  exact k p q pM (o1.fresh hq) _ _ (o3.set i (e := .m q) rfl)⟩
/-- x += e -/
theorem r_aug {m n : Int} {f : Int → Int → Int} (hx : δ[i]? = some (.d (.int m))) (h : EvX C te M δ μ μ1 (.d (.int n))) (k : Nx C D M (δ.set i (.d (.int (f m n)))) μ1) : Run C (tAug i te (ipI f)) D M δ μ := fun σ H o => by
  obtain ⟨v, e1, e2⟩ := o.slot i _ hx (fun z => nomatch z)
  refine ⟨v, e1, h σ H o _ fun y H1 o1 x1 r1 => ⟨m, n, Dp.int_of e2, Dp.int_of r1, ?_⟩⟩
  exact k _ H1 (o1.set i (e := .d (.int (f m n))) (.int _))
theorem dp_reverse {K : PySem.W.Frag} {A : Hp} : ∀ {vs : List V} (ds : List PyData), DpAll K A vs ds → DpAll K A vs.reverse ds.reverse
  | _, [], h => by cases h; exact .nil
  | _, d :: ds, h => by
    cases h with
    | cons r t => rw [List.reverse_cons, List.reverse_cons]; exact (dp_reverse ds t).append (.cons r .nil)
theorem x_revT (h : EvX C te M δ μ μ1 (.d (.tuple ds))) : EvX C (tRevT C.K te) M δ μ μ1 (.d (.tuple ds.reverse)) := fun σ H o Q k => h σ H o _ fun v H1 o1 x1 r1 => by
  obtain ⟨p, ws, q1, q2, q3⟩ := Dp.tup_of r1
  refine ⟨p, ws, q1, ex_t hide_le q2, fun q hq => ?_⟩
  obtain ⟨o', x', d'⟩ := o1.tup hq (dp_reverse _ q3)
  exact k _ _ o' (x1.trans x') d'
/-- range(m, n, -1) -/
def downD (lo : Int) (n : Nat) : List PyData := (List.range n).map fun (i : Nat) => PyData.int (lo - (i : Int))
theorem downD_length (lo : Int) (n : Nat) : (downD lo n).length = n := by simp [downD]
theorem downD_get {lo : Int} {n i : Nat} (h : i < n) : (downD lo n)[i]? = some (.int (lo - (i : Int))) := by simp [downD, h]
theorem i_down {m n : Int} (h : EvA C tr M δ μ μ' [.d (.int m), .d (.int n), .d (.int (-1))]) (h0 : -(2 ^ 62) ≤ m ∧ m < 2 ^ 62 ∧ -(2 ^ 62) ≤ n ∧ n < 2 ^ 62) : EvI C (iRng3 tr) M δ μ μ' (downD m (m - n).toNat) := fun σ H o R k => h σ H o _ fun vs H1 o1 x1 r => by
  cases r with
  | cons r1 r => cases r with
    | cons r2 r => cases r with
      | cons r3 r =>
        cases r
        refine ⟨m, n, -1, (m - n).toNat, by rw [Dp.int_of r1, Dp.int_of r2, Dp.int_of r3], RgC.neg h0.1 h0.2.1 h0.2.2.1 h0.2.2.2, k _ H1 o1 x1 ⟨fun M i H hi _ _ => by rw [downD_length] at hi; exact hi, fun M H _ _ => by rw [downD_length]; exact Nat.le_refl _, fun M i H x H' hi al ex y => ?_⟩⟩
        obtain ⟨rfl, rfl⟩ := y
        rw [downD_length] at hi
        refine ⟨Ex.refl _, _, downD_get hi, ?_⟩
        rw [show m + (i : Int) * (-1) = m - (i : Int) by omega]
        exact .int _
/-- a, b = a list of two -/
theorem tg_lst2 {K : PySem.W.Frag} {i j : Nat} {d1 d2 : PyData} : TgX K (gLst K 2 (gCons (gName i) (gCons (gName j) gNil))) [i, j] (.list [d1, d2]) δ ((δ.set i (.d d1)).set j (.d d2)) := fun C M μ σ H v hK o h Q k => by
  subst hK
  obtain ⟨a, vs, q1, q2, q3⟩ := Dp.lst_of h
  cases q3 with
  | cons h1 q3 =>
    cases q3 with
    | cons h2 q3 =>
      cases q3
      refine ⟨a, _, q1, ex_l hide_le q2, rfl, _, _, rfl, _, _, rfl, rfl, ?_⟩
      refine k _ ((o.set i (e := .d d1) h1).set j (e := .d d2) h2) (by rw [List.length_set, List.length_set]) fun m hm => ?_
      rw [List.getElem?_set_ne (fun z => hm (by simp [z])), List.getElem?_set_ne (fun z => hm (by simp [z]))]
end
end FD
/-! lists of any origin put together -/
namespace FD
open PySem PySem.Spec L2 PyProof.Rows HT
def rCatL (K : PySem.W.Frag) : R2 := fun x y H Q => ∃ l b xs zs, x = .ref l ∧ y = .ref b ∧ SqL K H l xs ∧ SqL K H b zs ∧ xs.length + zs.length ≤ sizeLine ∧ ∀ p, H p = none → Q (.ref p) (upd H p (.lst (xs ++ zs)))
section
variable {X : Cx}
theorem op_catL : OpR X (binaryOp .Add) (rCatL X.K) := by
  intro pins s σ H x y v u Q I rx ry h
  obtain ⟨l, b, xs, zs, rfl, rfl, hl, hb, hz, q⟩ := h
  cases rx
  cases ry
  obtain ⟨its, r1, ⟨o1, n1, e1, c1, d1, f1⟩, _⟩ := I.list hl
  obtain ⟨its2, r2, ⟨o2, n2, e2, c2, d2, f2⟩, _⟩ := I.list hb
  obtain ⟨cl, dd, da, sl⟩ := o1
  obtain ⟨cl2, dd2, da2, sl2⟩ := o2
  simp only at c1 d1 f1 c2 d2 f2
  subst c1 c2
  try subst d1
  try subst d2
  try subst f1
  try subst f2
  have hlen := r1.length
  have hlen2 := r2.length
  have ea : its.toArray ++ its2.toArray = (its ++ its2).toArray := by simp
  refine concat_meets ⟨_, e1, rfl⟩ ⟨_, e2, rfl⟩ noFill_list_add seq_list_add PySem.F.slot_list_add PySem.F.entry_list_add (PySem.F.args_list_add_2 _ _) (list_addW l b its.toArray its2.toArray _ _ _ _ _ _ (by rw [List.size_toArray, List.size_toArray]; omega)) ⟨e1, e2, ?_⟩
  rw [ea]
  exact ⟨.ref _, _, I.lnew (t' := s.toks) (r1.append r2) (by rw [List.length_append]; omega), rfl, q _ I.fresh⟩
end
end FD
namespace FD
open PySem L2 Evl
theorem o_catL {C : Cfg} {M : List Addr} {δ : List Ent} {μ : Mem} {ds es : List PyData} (hz : ds.length + es.length ≤ 100000) : OpX C (rCatL C.K) M δ μ μ (.d (.list ds)) (.d (.list es)) (.d (.list (ds ++ es))) := fun σ H u v o h1 h2 Q k => by
  obtain ⟨a, vs, q1, q2, q3⟩ := Dp.lst_of h1
  obtain ⟨b, ws, p1, p2, p3⟩ := Dp.lst_of h2
  refine ⟨a, b, vs, ws, q1, p1, ex_l hide_le q2, ex_l hide_le p2, sz_of (by rw [q3.length, p3.length]; exact hz), fun p hp => ?_⟩
  obtain ⟨o', x', d'⟩ := o.lst hp (q3.append p3)
  exact k _ _ o' x' d'
end FD
/-! promises over objects where the def chooses what comes back -/
namespace FD
open PySem L2 Evl
def spX (K : PySem.W.Frag) (n : Nat) (Pre : List Ent → Mem → Prop) (Post : List Ent → Mem → PyData → Mem → Prop) : Sp := fun vs H Q _ => vs.length = n ∧ ∃ M es μ, (∀ a ∈ M, H a ≠ none) ∧ Paired (EntOk K (hide M H)) es vs ∧ (∀ p ∈ μ, p.1 ∈ M ∧ MOok K (hide M H) H p.1 p.2) ∧ (ad μ).Nodup ∧ Pre es μ ∧
  ∀ v H' d μ', Post es μ d μ' → ad μ' = ad μ → Ex (hide (ad μ) H) H' → (∀ p ∈ μ', MOok K (hide M H') H' p.1 p.2) → Dp K (hide M H') v d → Q v H'
def spXN (K : PySem.W.Frag) (n : Nat) (Pre : List Ent → Mem → Prop) (Post : List Ent → Mem → MO → Mem → Prop) : Sp := fun vs H Q _ => vs.length = n ∧ ∃ M es μ, (∀ a ∈ M, H a ≠ none) ∧ Paired (EntOk K (hide M H)) es vs ∧ (∀ p ∈ μ, p.1 ∈ M ∧ MOok K (hide M H) H p.1 p.2) ∧ (ad μ).Nodup ∧ Pre es μ ∧
  ∀ p H' mo μ', Post es μ mo μ' → ad μ' = ad μ → H p = none → Ex (hide (ad μ) H) H' → MOok K (hide (p :: M) H') H' p mo → (∀ q ∈ μ', MOok K (hide (p :: M) H') H' q.1 q.2) → Q (.ref p) H'
section
variable {P : Program} {w : World} {K : PySem.W.Frag} {mg : Str → Option Value} {base : Heap}
theorem def_X {x qual : Str} {st : Stmt} {f : Addr} {fd : FuncData} {N ps : List Str} {k n : Nat} {Pre : List Ent → Mem → Prop} {Post : List Ent → Mem → PyData → Mem → Prop} (F : Fun K x qual st f fd) (S : FnScope N ps (defScope st)) (hN : ps.length ≤ N.length) (hp : ps.length = n)
    (h : ∀ (cdv : Value) (A : Around) (outer : List Env) (s : Shared) (H : Hp) (E : XK), Room k (A.deeper (PyProof.Rows.envOfC qual (defScope st) s.heap.objs.size f cdv)) →
      ∃ t, PSs (cxOf CX0 P w K mg base N qual (defScope st) f cdv A outer s H E).nox (defBody st) t ∧
        ∀ (M : List Addr) (G B : Hp) (es : List Ent) (μ : Mem), (ad μ).Nodup → Pre es μ → ∀ D : Ends, (∀ d μ', Post es μ d μ' → ad μ' = ad μ → FinE ⟨K, M, G, B⟩ D d μ') → Run ⟨K, M, G, B⟩ t D M (startE N.length es.length es) μ) :
    FnOk P w K mg base CX0 (k + 1) f fd ps (spX K n Pre Post) := by
  refine F.ok S (fun vs H Q E hs => hs.1.trans hp.symm) fun cdv A outer s H vs Q E hr hs => ?_
  obtain ⟨hn, M, es, μ, al, he, hm, nd, hP, kk⟩ := hs
  obtain ⟨t, ht, run⟩ := h cdv A outer s H E hr
  refine ⟨t, ht, run M (hide (ad μ) H) (hide M H) es μ nd hP _ (fun d μ' hq had v M' H' e s m r => kk v H' d μ' hq had e (fun p hp => (m p hp).mono (hide_sub s) fun _ q => q) (dp_mono (hide_sub s) _ _ r)) _ _ (ok_startE al he hm nd (by rw [hn, ← hp]; exact hN))⟩
theorem def_XN {x qual : Str} {st : Stmt} {f : Addr} {fd : FuncData} {N ps : List Str} {k n : Nat} {Pre : List Ent → Mem → Prop} {Post : List Ent → Mem → MO → Mem → Prop} (F : Fun K x qual st f fd) (S : FnScope N ps (defScope st)) (hN : ps.length ≤ N.length) (hp : ps.length = n)
    (h : ∀ (cdv : Value) (A : Around) (outer : List Env) (s : Shared) (H : Hp) (E : XK), Room k (A.deeper (PyProof.Rows.envOfC qual (defScope st) s.heap.objs.size f cdv)) →
      ∃ t, PSs (cxOf CX0 P w K mg base N qual (defScope st) f cdv A outer s H E).nox (defBody st) t ∧
        ∀ (M : List Addr) (G B : Hp) (es : List Ent) (μ : Mem), (ad μ).Nodup → Pre es μ → ∀ D : Ends, (∀ mo μ', Post es μ mo μ' → ad μ' = ad μ → FinEN ⟨K, M, G, B⟩ D mo μ') → Run ⟨K, M, G, B⟩ t D M (startE N.length es.length es) μ) :
    FnOk P w K mg base CX0 (k + 1) f fd ps (spXN K n Pre Post) := by
  refine F.ok S (fun vs H Q E hs => hs.1.trans hp.symm) fun cdv A outer s H vs Q E hr hs => ?_
  obtain ⟨hn, M, es, μ, al, he, hm, nd, hP, kk⟩ := hs
  obtain ⟨t, ht, run⟩ := h cdv A outer s H E hr
  refine ⟨t, ht, run M (hide (ad μ) H) (hide M H) es μ nd hP _ (fun mo μ' hq had p M' H' g pM e s pm m mm => ?_) _ _ (ok_startE al he hm nd (by rw [hn, ← hp]; exact hN))⟩
  have sub : ∀ a ∈ p :: M, a ∈ M' := fun a ha => (List.mem_cons.mp ha).elim (fun z => by rw [z]; exact pm) (s a)
  have hp0 : H p = none := by
    have : hide (ad μ) H p = none := g
    rw [hide_out (fun z => ?_)] at this
    · exact this
    · obtain ⟨q, hq, e⟩ := List.mem_map.mp z
      exact pM (by have := (hm q hq).1; rw [e] at this; exact this)
  exact kk p H' mo μ' hq had hp0 e (m.mono (hide_sub sub) fun _ q => q) (fun q hq => (mm q hq).mono (hide_sub sub) fun _ q => q)
end
section
variable {C : Cfg} {M : List Addr} {δ : List Ent} {μ μ0 μ1 : Mem} {tr : TA} {D : Ends} {t1 t2 : TS} {i j n : Nat} {es : List Ent} {E : XK} {b : Addr} {mo mo' : MO} {u : TT} {g : TG}
theorem swap_set (hj : μ1[j]? = some (b, mo)) (nd : (ad μ1).Nodup) : Swap [(b, mo)] [(b, mo')] μ1 (μ1.set j (b, mo')) where
  sub := fun p hp => by rw [List.mem_singleton.mp hp]; exact List.mem_of_getElem? hj
  ad0 := rfl
  ad1 := map_set_fst hj
  new := fun p hp => by
    obtain ⟨k, hk⟩ := List.getElem?_of_mem hp
    by_cases q : j = k
    · subst q
      rw [List.getElem?_set_self (List.getElem?_eq_some_iff.mp hj).1] at hk
      exact .inl (by rw [← Option.some.inj hk]; simp)
    · rw [List.getElem?_set_ne q] at hk
      refine .inr ⟨List.mem_of_getElem? hk, fun z => ?_⟩
      have z : p.1 = b := by simpa using z
      obtain ⟨x, y⟩ := p
      have z : x = b := z
      subst z
      exact q (nodup_fst nd hj hk)
theorem r_asgXG {Pre : List Ent → Mem → Prop} {Post : List Ent → Mem → PyData → Mem → Prop} (h : EvA C tr M δ μ μ1 es) (hsub : ∀ p ∈ μ0, p ∈ μ1) (nd : (ad μ1).Nodup → (ad μ0).Nodup) (hP : Pre es μ0)
    (k : (ad μ1).Nodup → ∀ d μ0', Post es μ0 d μ0' → ad μ0' = ad μ0 → ∃ μ2 tl δ2, Swap μ0 μ0' μ1 μ2 ∧ TgX C.K g tl d δ δ2 ∧ Nx C D M δ2 μ2) (hn : es.length = n := by rfl) :
    Run C (tAsg (tCall (spX C.K n Pre Post) [] E tr) g) D M δ μ := fun σ H o => h σ H o _ fun vs H1 o1 x1 r1 => by
  rw [List.append_nil]
  refine ⟨by rw [← paired_len r1]; exact hn, M, es, μ0, o1.alloc, r1, fun p hp => let q := o1.mem p (hsub p hp); ⟨q.1, q.2.2⟩, nd o1.nd, hP, fun v H2 d μ0' hq had e2 m2 d2 => ?_⟩
  obtain ⟨μ2, tl, δ2, sw, tg, run⟩ := k o1.nd d μ0' hq had
  obtain ⟨o2, x2⟩ := after_E o1 sw e2 m2
  exact tg C M μ2 σ H2 v rfl o2 d2 _ fun σ' o3 _ _ => run σ' H2 o3
theorem q_asgXG {Pre : List Ent → Mem → Prop} {Post : List Ent → Mem → PyData → Mem → Prop} (h : EvA C tr M δ μ μ1 es) (hsub : ∀ p ∈ μ0, p ∈ μ1) (nd : (ad μ1).Nodup → (ad μ0).Nodup) (hP : Pre es μ0)
    (k : (ad μ1).Nodup → ∀ d μ0', Post es μ0 d μ0' → ad μ0' = ad μ0 → ∃ μ2 tl δ2, Swap μ0 μ0' μ1 μ2 ∧ TgX C.K g tl d δ δ2 ∧ Run C t2 D M δ2 μ2) (hn : es.length = n := by rfl) :
    Run C (tSeq (tAsg (tCall (spX C.K n Pre Post) [] E tr) g) t2) D M δ μ := r_asgXG (D := { D with nx := t2 D }) h hsub nd hP k hn
theorem q_asgXN {Pre : List Ent → Mem → Prop} {Post : List Ent → Mem → MO → Mem → Prop} (h : EvA C tr M δ μ μ1 es) (hsub : ∀ p ∈ μ0, p ∈ μ1) (nd : (ad μ1).Nodup → (ad μ0).Nodup) (hP : Pre es μ0)
    (k : (ad μ1).Nodup → ∀ mo μ0', Post es μ0 mo μ0' → ad μ0' = ad μ0 → ∃ μ2, Swap μ0 μ0' μ1 μ2 ∧ ∀ p, p ∉ M → Run C t2 D (p :: M) (δ.set i (.m p)) ((p, mo) :: μ2)) (hn : es.length = n := by rfl) :
    Run C (tSeq (tAsg (tCall (spXN C.K n Pre Post) [] E tr) (gName i)) t2) D M δ μ := fun σ H o => h σ H o _ fun vs H1 o1 x1 r1 => by
  rw [List.append_nil]
  refine ⟨by rw [← paired_len r1]; exact hn, M, es, μ0, o1.alloc, r1, fun p hp => let q := o1.mem p (hsub p hp); ⟨q.1, q.2.2⟩, nd o1.nd, hP, fun p H2 mo μ0' hq had hp e2 m1 m2 => ?_⟩
  obtain ⟨μ2, sw, run⟩ := k o1.nd mo μ0' hq had
  obtain ⟨pM, o2⟩ := ok_newE (G := []) o1 sw hp e2 m1 m2
  exact run p pM _ _ (o2.set i (e := .m p) rfl)
/-- if not f(..) or u: .. -/
theorem r_ifX {Pre : List Ent → Mem → Prop} {Post : List Ent → Mem → PyData → Mem → Prop} (h : EvA C tr M δ μ μ1 es) (hsub : ∀ p ∈ μ0, p ∈ μ1) (nd : (ad μ1).Nodup → (ad μ0).Nodup) (hP : Pre es μ0)
    (k : (ad μ1).Nodup → ∀ d μ0', Post es μ0 d μ0' → ad μ0' = ad μ0 → d = .bool true ∧ ∃ μ2, Swap μ0 μ0' μ1 μ2 ∧ EvT C u M δ μ2 μ2 false ∧ Run C t2 D M δ μ2) (hn : es.length = n := by rfl) :
    Run C (tIfS (tOr (tNot (tB (tCall (spX C.K n Pre Post) [] E tr))) u) t1 t2) D M δ μ := fun σ H o => h σ H o _ fun vs H1 o1 x1 r1 => by
  rw [List.append_nil]
  refine ⟨by rw [← paired_len r1]; exact hn, M, es, μ0, o1.alloc, r1, fun p hp => let q := o1.mem p (hsub p hp); ⟨q.1, q.2.2⟩, nd o1.nd, hP, fun v H2 d μ0' hq had e2 m2 d2 => ?_⟩
  obtain ⟨rfl, μ2, sw, ht, run⟩ := k o1.nd d μ0' hq had
  obtain ⟨o2, x2⟩ := after_E o1 sw e2 m2
  refine ⟨true, Dp.bool_of d2, ?_⟩
  show (if (!true) = true then _ else _)
  rw [if_neg (by decide)]
  refine ht σ H2 o2 _ fun H3 o3 x3 => ?_
  show (if false = true then _ else _)
  rw [if_neg (by decide)]
  exact run σ H3 o3
end
end FD
/-! more of promises over objects: keywords, a new dict compared at once -/
namespace FD
open PySem L2 Evl
section
variable {C : Cfg} {M : List Addr} {δ : List Ent} {μ μ1 : Mem} {tr : TA} {ta tb : TE} {D : Ends} {t1 t2 : TS} {i m n : Nat} {es es' : List Ent} {E : XK} {a b : Addr} {mo mo' : MO} {d : PyData} {gV : List V → List V → List V}
theorem q_asgEN1 {R : List Ent → Mem → MO → Mem → Prop} (h : EvA C tr M δ μ μ1 es) (hj : (a, mo) ∈ μ1) (hR : R es [(a, mo)] mo' [(a, mo)]) (k : ∀ p, p ∉ M → Run C t2 D (p :: M) (δ.set i (.m p)) ((p, mo') :: μ1)) (hn : es.length = n := by rfl) :
    Run C (tSeq (tAsg (tCall (spEN C.K n R) [] E tr) (gName i)) t2) D M δ μ := fun σ H o => h σ H o _ fun vs H1 o1 x1 r1 => by
  rw [List.append_nil]
  refine ⟨by rw [← paired_len r1]; exact hn, M, es, [(a, mo)], mo', [(a, mo)], o1.alloc, r1, fun p hp => by rw [List.mem_singleton.mp hp]; let q := o1.mem _ hj; exact ⟨q.1, q.2.2⟩, by simp, rfl, hR, fun p H2 hp e2 m1 m2 => ?_⟩
  obtain ⟨pM, o2⟩ := ok_newE (G := []) o1 (swap_same hj o1.nd) hp e2 m1 m2
  exact k p pM _ _ (o2.set i (e := .m p) rfl)
theorem x_callEK {R : List Ent → Mem → PyData → Mem → Prop} (h : EvA C tr M δ μ μ1 es) (hg : ∀ (H : Hp) (zs : List V), Paired (EntOk C.K H) es zs → Paired (EntOk C.K H) es' (gV [] zs)) (hj : (a, mo) ∈ μ1) (hR : R es' [(a, mo)] d [(a, mo)]) (hm : es.length = m := by rfl) (hn : es'.length = n := by rfl) :
    EvX C (tCallN 0 m (spE C.K n R) gV E tNil tr) M δ μ μ1 (.d d) := fun σ H o Q k => h σ H o _ fun vs H1 o1 x1 r1 => by
  have d1 := hg _ _ r1
  refine ⟨rfl, by rw [← paired_len r1]; exact hm, by rw [← paired_len d1]; exact hn, M, es', [(a, mo)], d, [(a, mo)], o1.alloc, d1, fun p hp => by rw [List.mem_singleton.mp hp]; let q := o1.mem _ hj; exact ⟨q.1, q.2.2⟩, by simp, rfl, hR, fun v H2 e2 m2 d2 => ?_⟩
  obtain ⟨o2, x2⟩ := after_E o1 (swap_same hj o1.nd) e2 m2
  exact k v H2 o2 (x1.trans x2) d2
theorem o_neDK {l : Dct} (ha : (a, .dK (kd l)) ∈ μ) (hb : (b, .dK (kd l)) ∈ μ) (nd : (l.map (·.1)).Nodup) (sh : ∀ p ∈ l, SeqAt.shaped p.2 = true) : OpX C (rNeDK C.K) M δ μ μ (.m a) (.m b) (.d (.bool false)) := fun σ H x y o h1 h2 Q k => by
  obtain ⟨_, _, ks, e1, c1⟩ := o.mem _ ha
  obtain ⟨_, _, ls, e2, c2⟩ := o.mem _ hb
  exact ⟨a, b, ks, ls, l, h1, h2, e1, e2, Paired.mapP c1 fun p q z => ⟨z.1, DvOk.mono hide_le z.2⟩, Paired.mapP c2 fun p q z => ⟨z.1, DvOk.mono hide_le z.2⟩, nd, sh, k _ H o (Ex.refl _) (.bl _)⟩
/-- if f(k = x) != y: .., dicts both -/
theorem r_ifEN {R : List Ent → Mem → MO → Mem → Prop} {l : Dct} (h : EvA C tr M δ μ μ1 es) (hg : ∀ (H : Hp) (zs : List V), Paired (EntOk C.K H) es zs → Paired (EntOk C.K H) es' (gV [] zs)) (hj : (a, mo) ∈ μ1) (hR : R es' [(a, mo)] (.dK (kd l)) [(a, mo)])
    (hb : ∀ p, p ∉ M → EvX C tb (p :: M) δ ((p, .dK (kd l)) :: μ1) ((p, .dK (kd l)) :: μ1) (.m b)) (hm : (b, .dK (kd l)) ∈ μ1) (nd : (l.map (·.1)).Nodup) (sh : ∀ p ∈ l, SeqAt.shaped p.2 = true) (k : ∀ p, p ∉ M → Run C t2 D (p :: M) δ ((p, .dK (kd l)) :: μ1)) (hm' : es.length = m := by rfl) (hn : es'.length = n := by rfl) :
    Run C (tIfS (tTest (tOp (rNeDK C.K) (tCallN 0 m (spEN C.K n R) gV E tNil tr) tb)) t1 t2) D M δ μ := fun σ H o => h σ H o _ fun vs H1 o1 x1 r1 => by
  have d1 := hg _ _ r1
  refine ⟨rfl, by rw [← paired_len r1]; exact hm', by rw [← paired_len d1]; exact hn, M, es', [(a, mo)], .dK (kd l), [(a, mo)], o1.alloc, d1, fun p hp => by rw [List.mem_singleton.mp hp]; let q := o1.mem _ hj; exact ⟨q.1, q.2.2⟩, by simp, rfl, hR, fun p H2 hp e2 m1 m2 => ?_⟩
  obtain ⟨pM, o2⟩ := ok_newE (G := []) o1 (swap_same hj o1.nd) hp e2 m1 m2
  refine hb p pM σ H2 o2 _ fun y H3 o3 x3 r3 => ?_
  refine o_neDK (a := p) (b := b) List.mem_cons_self (List.mem_cons_of_mem _ hm) nd sh σ H3 (.ref p) y o3 rfl r3 _ fun v H4 o4 x4 r4 => ?_
  refine ⟨false, Dp.bool_of r4, ?_⟩
  dsimp only
  rw [if_neg Bool.false_ne_true]
  exact k p pM σ H4 o4
theorem q_ifEN {R : List Ent → Mem → MO → Mem → Prop} {l : Dct} {t3 : TS} (h : EvA C tr M δ μ μ1 es) (hg : ∀ (H : Hp) (zs : List V), Paired (EntOk C.K H) es zs → Paired (EntOk C.K H) es' (gV [] zs)) (hj : (a, mo) ∈ μ1) (hR : R es' [(a, mo)] (.dK (kd l)) [(a, mo)])
    (hb : ∀ p, p ∉ M → EvX C tb (p :: M) δ ((p, .dK (kd l)) :: μ1) ((p, .dK (kd l)) :: μ1) (.m b)) (hm : (b, .dK (kd l)) ∈ μ1) (nd : (l.map (·.1)).Nodup) (sh : ∀ p ∈ l, SeqAt.shaped p.2 = true) (k : ∀ p, p ∉ M → Run C t3 D (p :: M) δ ((p, .dK (kd l)) :: μ1)) (hm' : es.length = m := by rfl) (hn : es'.length = n := by rfl) :
    Run C (tSeq (tIfS (tTest (tOp (rNeDK C.K) (tCallN 0 m (spEN C.K n R) gV E tNil tr) tb)) t1 tNext) t3) D M δ μ := r_ifEN (D := { D with nx := t3 D }) (t2 := tNext) h hg hj hR hb hm nd sh k hm' hn
end
end FD
/-! walks over one's own list that stays as it is -/
namespace FD
open PySem L2 Evl
structure WalkM (K : PySem.W.Frag) (J : It) (N : List Addr → Hp → Prop) (xs : List PyData) : Prop where
  go : ∀ (M : List Addr) (i : Nat) (H : Hp), i < xs.length → N M H → J.go i H
  stop : ∀ (M : List Addr) (H : Hp), N M H → J.stop xs.length H
  yld : ∀ (M : List Addr) (i : Nat) (H : Hp) (x : V) (H' : Hp), i < xs.length → N M H → J.yld i H x H' → Ex H H' ∧ ∃ d, xs[i]? = some d ∧ Dp K (hide M H') x d
def OwnL (K : PySem.W.Frag) (a : Addr) (xs : List PyData) (M : List Addr) (H : Hp) : Prop := ∃ vs, H a = some (.lst vs) ∧ DpAll K (hide M H) vs xs
theorem walk_own {K : PySem.W.Frag} {a : Addr} {xs : List PyData} : WalkM K (Itl K a) (OwnL K a xs) xs where
  go := fun M i H hi ⟨vs, h, hd⟩ => by
    rw [← hd.length] at hi
    exact ⟨vs, vs[i], SqL.of h, by simp [hi]⟩
  stop := fun M H ⟨vs, h, hd⟩ => ⟨vs, SqL.of h, by rw [hd.length]; exact Nat.le_refl _⟩
  yld := fun M i H y H' hi ⟨vs, h, hd⟩ q => by
    obtain ⟨e, q⟩ := q
    subst e
    refine ⟨Ex.refl _, xs[i], by simp [hi], ?_⟩
    obtain ⟨v, h1, h2⟩ := hd.get (i := i) (d := xs[i]) (by simp [hi])
    have := q vs (SqL.of h)
    rw [this] at h1
    cases h1
    exact h2
theorem own_here {K : PySem.W.Frag} {M0 : List Addr} {G B : Hp} {M : List Addr} {δ : List Ent} {μ : Mem} {σ : L2.St} {H : Hp} {a : Addr} {xs : List PyData} (o : Ok ⟨K, M0, G, B⟩ M δ μ σ H) (h : (a, MO.lst xs) ∈ μ) : OwnL K a xs M H := (o.mem _ h).2.2
section
variable {C : Cfg} {M : List Addr} {δ : List Ent} {μ μ' μ1 : Mem} {t : TT} {te : TE}
theorem x_lcMl {a : Addr} {te0 : TE} {g : TG} {vs : List Nat} {xs : List PyData} (S : Nat → Mem) (b : Nat → Bool) (f : Nat → PyData) (h0 : EvX C te0 M δ μ (S 0) (.m a)) (hm : ∀ i, i ≤ xs.length → (a, MO.lst xs) ∈ S i) (hz : xs.length ≤ 100000)
    (hs : ∀ (i : Nat) (d : PyData), xs[i]? = some d → ∀ (G B : Hp) (D : Addr), LcTurn { C with G := G, B := B } g t te vs (D :: M) δ (S i) (S (i + 1)) d (b i) (f i)) :
    EvX C (tLc (iList C.K te0) g t te vs) M δ μ (S xs.length) (.l (lcD b f xs.length)) := fun σ H o Q k => by
  refine h0 σ H o _ fun va H1 o1 x1 ra => ?_
  have ra : va = .ref a := ra
  subst ra
  obtain ⟨_, _, vs0, q1, q2⟩ := o1.mem _ (hm 0 (Nat.zero_le _))
  refine ⟨a, rfl, ⟨vs0, SqL.of q1⟩, fun D hD => ?_⟩
  have W := walk_own (K := C.K) (a := a) (xs := xs)
  have oB := o1.toB
  have hDM : D ∉ M := o1.fresh hD
  have o2 : Ok { C with B := hide M H1 } (D :: M) δ (S 0) σ (upd H1 D (.lst [])) :=
    (oB.new hD (mo := .lst []) ⟨[], upd_same, .nil⟩).mems (fun p hp => List.mem_cons_of_mem _ hp) o1.nd
  have hS : ∀ {i : Nat} {H'}, Ok { C with B := hide M H1 } (D :: M) δ (S i) σ H' → (∀ p ∈ S i, p.1 ∈ M) → ∀ p ∈ S i, p.1 ≠ D := fun o' h p hp z => hDM (z ▸ h p hp)
  have gD : C.G D = none := by
    cases z : C.G D with
    | none => rfl
    | some u => have := o1.gr D u z; rw [hD] at this; cases this
  refine ⟨fun i m H' => m = xs.length - i ∧ i ≤ xs.length ∧ (∀ p ∈ S i, p.1 ∈ M) ∧ Ok { C with B := hide M H1 } (D :: M) δ (S i) σ H' ∧ ∃ acc, H' D = some (.lst acc) ∧ DpAll C.K (hide (D :: M) H') acc (lcD b f i),
    ⟨xs.length, by simp, Nat.zero_le _, fun p hp => (o1.mem p hp).1, o2, [], upd_same, .nil⟩, ?_⟩
  rintro i m H' ⟨rfl, hi', hSM, oi, acc, hacc, dacc⟩
  by_cases hlt : i < xs.length
  · refine .inr ⟨W.go (D :: M) i H' hlt (own_here oi (hm i hi')), fun H'' => (∀ p ∈ S (i + 1), p.1 ∈ M) ∧ Ok { C with B := hide M H1 } (D :: M) δ (S (i + 1)) σ H'' ∧ ∃ acc, H'' D = some (.lst acc) ∧ DpAll C.K (hide (D :: M) H'') acc (lcD b f (i + 1)),
      fun H'' q => ⟨xs.length - (i + 1), by omega, rfl, hlt, q⟩, fun x H2 y => ?_⟩
    obtain ⟨e2, d, hd, dx⟩ := W.yld (D :: M) i H' x H2 hlt (own_here oi (hm i hi')) y
    have o3 := oi.grow e2
    have nD : ∀ p ∈ S i, p.1 ≠ D := hS oi hSM
    -- all that is hidden and not spoken of stays: the list at D
    have o4 := o3.toG
    obtain ⟨ts, δ', μ1, tg, hts, ht, he, hno⟩ := (hs i d hd (hide ((S i).map (·.1)) H2) (hide M H1) D).go
    have hD2 : H2 D = some (.lst acc) := e2 D _ hacc
    have gD2 : hide ((S i).map (·.1)) H2 D = some (.lst acc) := by
      rw [hide_out (fun z => ?_)]
      · exact hD2
      · obtain ⟨r, hr, er⟩ := List.mem_map.mp z
        exact nD r hr er
    refine tg _ _ _ _ _ _ rfl (o4.wiped vs) dx _ fun σ2 o5 hl2 hσ2 => ⟨wipe_eq (by rw [hl2, wipe_length]) hσ2 hts, ?_⟩
    refine ht σ2 H2 o5 _ fun H3 o6 x6 => ?_
    have memM : ∀ {μ9 : Mem} {δ9 : List Ent} {σ9 : L2.St} {H9 : Hp}, Ok { C with G := hide ((S i).map (·.1)) H2, B := hide M H1 } (D :: M) δ9 μ9 σ9 H9 → ∀ p ∈ μ9, p.1 ∈ M := fun o9 p hp => by
      have a := (o9.mem p hp).1
      have g9 : hide ((S i).map (·.1)) H2 p.1 = none := (o9.mem p hp).2.1
      rcases List.mem_cons.mp a with z | z
      · rw [z, gD2] at g9; cases g9
      · exact z
    cases hb : b i with
    | true =>
      rw [if_pos rfl]
      refine he hb σ2 H3 o6 _ fun v H4 o7 x7 r7 => ?_
      have hD4 : H4 D = some (.lst acc) := o7.gr D _ gD2
      have o8 : Ok { C with B := hide M H1 } (D :: M) δ (S (i + 1)) σ H4 := o3.swap (o3.ofG o7) (x6.trans x7)
      have hSM' : ∀ p ∈ S (i + 1), p.1 ∈ M := memM o7
      have hlen : acc.length ≤ i := by rw [dacc.length]; exact lcD_len b f i
      refine ⟨acc, hD4, sz_lt (by omega), hSM', o8.writeH List.mem_cons_self (fun p hp z => hDM (z ▸ hSM' p hp)) gD (by rw [hD4]; rfl), _, upd_same, ?_⟩
      rw [hide_upd List.mem_cons_self (by rw [hD4]; rfl) rfl, lcD_yes hb]
      exact (dpAll_mono ((hide_ex e2).trans (x6.trans x7)) _ _ dacc).append (.cons r7 .nil)
    | false =>
      rw [if_neg Bool.false_ne_true]
      have hm := hno hb
      subst hm
      refine ⟨memM o6, o3.swap (o3.ofG o6) x6, acc, o6.gr D _ gD2, ?_⟩
      rw [lcD_no hb]
      exact dpAll_mono ((hide_ex e2).trans x6) _ _ dacc
  · have ei : i = xs.length := by omega
    subst ei
    refine .inl ⟨W.stop (D :: M) H' (own_here oi (hm _ hi')), ?_⟩
    have s1 : ∀ a ∈ M, a ∈ D :: M := fun a ha => List.mem_cons_of_mem _ ha
    have oE : Ok C M δ (S xs.length) σ H' := (oi.drop (M := M) s1 hSM o1.sub).reB o1.base
    have xE : Ex (hide M H) (hide M H') := x1.trans (oi.base.trans (hide_sub s1))
    refine k _ H' oE xE ⟨D, acc, rfl, ?_, dpAll_mono (hide_sub s1) _ _ dacc⟩
    rw [hide_out hDM]; exact hacc
theorem x_lcM {a : Addr} {te0 : TE} {g : TG} {vs : List Nat} {xs : List PyData} (S : Nat → Mem) (b : Nat → Bool) (f : Nat → PyData) (h0 : EvX C te0 M δ μ (S 0) (.m a)) (hm : ∀ i, i ≤ xs.length → (a, MO.lst xs) ∈ S i) (hz : xs.length ≤ 100000)
    (hs : ∀ (i : Nat) (d : PyData), xs[i]? = some d → ∀ (G B : Hp) (D : Addr), LcTurn { C with G := G, B := B } g t te vs (D :: M) δ (S i) (S (i + 1)) d (b i) (f i)) :
    EvX C (tLc (iList C.K te0) g t te vs) M δ μ (S xs.length) (.d (.list (lcD b f xs.length))) := x_wl (x_lcMl S b f h0 hm hz hs)
end
section
variable {C : Cfg} {M : List Addr} {δ : List Ent} {μ μ1 : Mem} {D : Ends} {ts t2 : TS}
theorem r_forM {a : Addr} {te0 : TE} {g : TG} {xs : List PyData} (hi : EvX C te0 M δ μ μ1 (.m a)) (P : Nat → List Ent → Mem → Prop) (hm : ∀ (i : Nat) (δ1 : List Ent) (μ1 : Mem), i ≤ xs.length → P i δ1 μ1 → (a, MO.lst xs) ∈ μ1) (h0 : P 0 δ μ1)
    (hs : ∀ B, Ex C.B B → ∀ (i : Nat) (d : PyData) (δ1 : List Ent) (μ1 : Mem), xs[i]? = some d → P i δ1 μ1 → ∃ tl δ2, TgX C.K g tl d δ1 δ2 ∧
      Run { C with B := B } ts { D with nx := NX { C with B := B } M (P (i + 1)), ct := NX { C with B := B } M (P (i + 1)), bk := D.nx } M δ2 μ1)
    (hd : ∀ δ1 μ1, P xs.length δ1 μ1 → Nx C D M δ1 μ1) : Run C (tFor (iList C.K te0) g ts) D M δ μ := fun σ H o => by
  refine hi σ H o _ fun va H1 o1 x1 ra => ?_
  have ra : va = .ref a := ra
  subst ra
  obtain ⟨_, _, vs0, q1, q2⟩ := o1.mem _ (hm 0 _ _ (Nat.zero_le _) h0)
  have W := walk_own (K := C.K) (a := a) (xs := xs)
  refine ⟨a, rfl, ⟨vs0, SqL.of q1⟩, fun i m σ' H' => m = xs.length - i ∧ i ≤ xs.length ∧ NX { C with B := hide M H1 } M (P i) σ' H', ⟨xs.length, by simp, Nat.zero_le _, δ, μ1, h0, o1.toB⟩, ?_⟩
  rintro i m σ' H' ⟨rfl, hi', δ1, μ1, hP, oi⟩
  by_cases hlt : i < xs.length
  · refine .inr ⟨W.go M i H' hlt (own_here oi (hm i _ _ hi' hP)), NX { C with B := hide M H1 } M (P (i + 1)), fun σ2 H2 q => ⟨xs.length - (i + 1), by omega, rfl, hlt, q⟩, fun x H2 y => ?_⟩
    obtain ⟨e2, d, hd, dx⟩ := W.yld M i H' x H2 hlt (own_here oi (hm i _ _ hi' hP)) y
    obtain ⟨tl, δ2, tg, run⟩ := hs (hide M H1) o1.base i d δ1 μ1 hd hP
    exact tg { C with B := hide M H1 } _ _ _ _ _ rfl (oi.grow e2) dx _ fun σ3 o3 _ _ => run σ3 H2 o3
  · have ei : i = xs.length := by omega
    subst ei
    exact .inl ⟨W.stop M H' (own_here oi (hm _ _ _ hi' hP)), hd δ1 μ1 hP σ' H' (oi.reB o1.base)⟩
end
end FD
/-! dict comprehensions, a text sought in a dict, tuple.count -/
namespace FD
open PySem PySem.Spec L2 Evl PyProof.Rows
section
variable {C : Cfg} {M : List Addr} {δ : List Ent} {μ μ1 μ2 μ' : Mem} {te ta tb tk tv : TE} {g : TG} {wi : TI} {vs : List Nat} {xs : List PyData} {mo : MO} {D : Ends} {t2 : TS} {i j : Nat} {a : Addr} {kvs : List (Key × PyData)}
/-- an expression that makes an object of one's own -/
def EvN (C : Cfg) (te : TE) (M : List Addr) (δ : List Ent) (μ μ1 : Mem) (mo : MO) : Prop := ∀ (σ : L2.St) (H : Hp), Ok C M δ μ σ H → ∀ Q : VK, (∀ p H', p ∉ M → Ok C (p :: M) δ ((p, mo) :: μ1) σ H' → Ex (hide M H) (hide (p :: M) H') → Q (.ref p) H') → te σ H Q
theorem x_dc {N : Hp → Prop} {l : Dct} (hi : EvIN C wi M δ μ μ' N xs) (hN : ∀ (B : Hp) (p : Addr) (q : MO) (σ : L2.St) (H : Hp), Ok { C with B := B } (p :: M) δ ((p, q) :: μ') σ H → N H) (hl : l.length = xs.length) (hz : xs.length < 1000) (nd : (l.map (·.1)).Nodup)
    (hs : ∀ (i : Nat) (d : PyData) (q : Str × PyData), xs[i]? = some d → l[i]? = some q → ∀ (B : Hp) (p : Addr), ∃ ts δ', TgX C.K g ts d (wipeE δ vs) δ' ∧ (∀ k ∈ ts, k ∈ vs) ∧ EvX { C with B := B } tk (p :: M) δ' ((p, .dK (kd (l.take i))) :: μ') ((p, .dK (kd (l.take i))) :: μ') (.d (.str q.1)) ∧ EvX { C with B := B } tv (p :: M) δ' ((p, .dK (kd (l.take i))) :: μ') ((p, .dK (kd (l.take i))) :: μ') (.d q.2)) :
    EvN C (tDc wi g tYes tk tv vs) M δ μ μ' (.dK (kd l)) := fun σ H o Q k => by
  refine hi σ H o _ fun J H1 o1 x1 W D hD => ?_
  have oB := o1.toB
  have hDM : D ∉ M := o1.fresh hD
  have o2 : Ok { C with B := hide M H1 } (D :: M) δ ((D, .dK (kd (l.take 0))) :: μ') σ (upd H1 D (.dK [])) := oB.new hD (mo := .dK (kd [])) ⟨[], upd_same, .nil⟩
  refine ⟨fun i m H' => m = xs.length - i ∧ i ≤ xs.length ∧ Ok { C with B := hide M H1 } (D :: M) δ ((D, .dK (kd (l.take i))) :: μ') σ H', ⟨xs.length, by simp, Nat.zero_le _, o2⟩, ?_⟩
  rintro i m H' ⟨rfl, hi', oi⟩
  by_cases hlt : i < xs.length
  · refine .inr ⟨W.go (D :: M) i H' hlt oi.alloc oi.base (hN _ _ _ _ _ oi), fun H'' => Ok { C with B := hide M H1 } (D :: M) δ ((D, .dK (kd (l.take (i + 1)))) :: μ') σ H'', fun H'' q => ⟨xs.length - (i + 1), by omega, rfl, hlt, q⟩, fun x H2 y => ?_⟩
    obtain ⟨e2, d, hd, dx⟩ := W.yld (D :: M) i H' x H2 hlt oi.alloc oi.base (hN _ _ _ _ _ oi) y
    have o3 := oi.grow e2
    have o4 := o3.toG
    obtain ⟨q, hq⟩ : ∃ q, l[i]? = some q := ⟨_, List.getElem?_eq_getElem (by omega)⟩
    obtain ⟨ts, δ', tg, hts, hk, hv⟩ := hs i d q hd hq (hide M H1) D
    refine tg { C with B := hide M H1 } _ _ _ _ _ rfl (o3.wiped vs) dx _ fun σ2 o5 hl2 hσ2 => ⟨wipe_eq (by rw [hl2, wipe_length]) hσ2 hts, ?_⟩
    refine t_yes σ2 H2 o5 _ fun H3 o6 x6 => ?_
    rw [if_pos rfl]
    refine hk σ2 H3 o6 _ fun y H4 o7 x7 r7 => ?_
    refine hv σ2 H4 o7 _ fun z H5 o8 x8 r8 => ?_
    have o9 : Ok { C with B := hide M H1 } (D :: M) δ ((D, .dK (kd (l.take i))) :: μ') σ H5 := o3.swap o8 ((x6.trans x7).trans x8)
    have e4 : y = .str q.1 := Dp.str_of r7
    obtain ⟨_, _, ws, q3, q4⟩ := o9.mem _ List.mem_cons_self
    have hnk : q.1 ∉ (l.take i).map (·.1) := fun z => by
      rw [List.map_take] at z
      obtain ⟨n, hn⟩ := List.getElem?_of_mem z
      have hlt := (List.getElem?_eq_some_iff.mp hn).1
      rw [List.length_take] at hlt
      rw [List.getElem?_take, if_pos (by omega)] at hn
      have hq2 : (l.map (·.1))[i]? = some q.1 := by rw [List.getElem?_map, hq]; rfl
      have en := List.getElem?_eq_some_iff.mp hn
      have ei := List.getElem?_eq_some_iff.mp hq2
      exact absurd (en.2.trans ei.2.symm) (List.pairwise_iff_getElem.mp nd n i en.1 ei.1 (by omega))
    refine ⟨ws, .inr q.1, e4, q3, sz_lt (by rw [dc_len q4, List.length_take]; omega), ?_⟩
    have et : l.take (i + 1) = l.take i ++ [q] := by rw [List.take_add_one, hq]; rfl
    rw [et]
    exact o9.write (j := 0) rfl ⟨_, upd_same, dc_snoc q4 hnk r8⟩
  · have ei : i = xs.length := by omega
    subst ei
    refine .inl ⟨W.stop (D :: M) H' oi.alloc oi.base (hN _ _ _ _ _ oi), ?_⟩
    have et : l.take xs.length = l := List.take_of_length_le (by omega)
    rw [et] at oi
    exact k D H' hDM (oi.reB o1.base) (x1.trans oi.base)
theorem n_lock (hj : μ[j]? = some (a, .dK kvs)) (h : ∀ od ws, EvN C te M δ (μ.set j (a, .fz od ws kvs)) (μ.set j (a, .fz od ws kvs)) mo) : EvN C (tLockE te) M δ μ μ mo := fun σ H o Q k => by
  obtain ⟨ws, e0, kk⟩ := ok_lock o hj
  refine ⟨a, .dK ws, e0, trivial, fun od => h od ws _ _ (kk od) _ fun p H1 pM o1 x1 => ?_⟩
  have hj' : ((p, mo) :: μ)[j + 1]? = some (a, .dK kvs) := hj
  obtain ⟨e1, aM, o'⟩ := ok_unlock (ws := ws) (od := od) hj' o1
  have aM0 : a ∈ M := (o.mem _ (List.mem_of_getElem? hj)).1
  rw [hide_upd aM0 (by rw [e0]; rfl) rfl] at x1
  exact ⟨e1, k p _ pM o' (by rw [hide_upd aM (by rw [e1]; rfl) rfl]; exact x1)⟩
theorem r_asgNw (h : EvN C te M δ μ μ1 mo) (k : ∀ p, p ∉ M → Nx C D (p :: M) (δ.set i (.m p)) ((p, mo) :: μ1)) : Run C (tAsg te (gName i)) D M δ μ := fun σ H o => h σ H o _ fun p H1 pM o1 x1 => k p pM _ _ (o1.set i (e := .m p) rfl)
theorem q_asgNw (h : EvN C te M δ μ μ1 mo) (k : ∀ p, p ∉ M → Run C t2 D (p :: M) (δ.set i (.m p)) ((p, mo) :: μ1)) : Run C (tSeq (tAsg te (gName i)) t2) D M δ μ := r_asgNw (D := { D with nx := t2 D }) h k
theorem q_lockN (hj : μ[j]? = some (a, .dK kvs)) (h : ∀ od ws, EvN C te M δ (μ.set j (a, .fz od ws kvs)) (μ.set j (a, .fz od ws kvs)) mo) (k : ∀ p, p ∉ M → Run C t2 D (p :: M) (δ.set i (.m p)) ((p, mo) :: μ)) : Run C (tSeq (tLock (tAsg te (gName i))) t2) D M δ μ :=
  q_lock hj fun od ws => r_asgNw (h od ws) fun p hp => lk_nx (μ := (p, mo) :: μ) (j := j + 1) hj (k p hp)
/-! ### k in d -/
theorem valV_none {K : PySem.W.Frag} {Hh : Hp} : ∀ {l : Dct} {ws : List (Key × V)} {k : Str}, DcOk K Hh ws (kd l) → k ∉ l.map (·.1) → valV ws (.inr k) = none
  | [], _, _, .nil, _ => rfl
  | p :: l, w :: ws, k, .cons h t, hk => by
    have e : w.1 = .inr p.1 := h.1
    have ne : ¬ w.1 = (Sum.inr k : Key) := by
      rw [e]
      intro z
      exact hk (by rw [List.map_cons, ← Sum.inr.inj z]; exact List.mem_cons_self)
    have ih := valV_none t fun z => hk (List.mem_cons_of_mem _ z)
    unfold valV at ih ⊢
    simp [ne, ih]
theorem x_notinK {l : Dct} {k : Str} {td ty : TE} (hk : EvX C ty M δ μ μ1 (.d (.str k))) (hx : EvX C td M δ μ1 μ2 (.m a)) (hm : (a, mo) ∈ μ2) (hd : IsDct mo l) : EvX C (tDNotIn ty td) M δ μ μ2 (.d (.bool (!decide (k ∈ l.map (·.1))))) := fun σ H o Q kk =>
  hk σ H o _ fun y H1 o1 x1 r1 => hx σ H1 o1 _ fun x H2 o2 x2 r2 => by
    have e1 : x = .ref a := r2
    have e2 : y = .str k := Dp.str_of r1
    obtain ⟨ws, rd, dc⟩ := dct_rd (o2.mem _ hm).2.2 hd
    by_cases h : k ∈ l.map (·.1)
    · obtain ⟨d, hv⟩ : ∃ d, valD l k = some d := by
        obtain ⟨q, hq, rfl⟩ := List.mem_map.mp h
        cases z : valD l q.1 with
        | some d => exact ⟨d, rfl⟩
        | none => exact absurd z (by unfold valD; rw [Option.map_eq_none_iff, List.find?_eq_none]; exact fun y => y q hq (decide_eq_true rfl))
      obtain ⟨v, e3, e4⟩ := dc_val dc hv
      refine ⟨a, some v, e1, .inl ⟨ws, .inr k, rd, e2, e3.symm⟩, ?_⟩
      have := kk (.bl false) H2 o2 (x1.trans x2) (by rw [decide_eq_true h]; exact .bl _)
      exact this
    · refine ⟨a, none, e1, .inl ⟨ws, .inr k, rd, e2, (valV_none dc h).symm⟩, ?_⟩
      have := kk (.bl true) H2 o2 (x1.trans x2) (by rw [decide_eq_false h]; exact .bl _)
      exact this
/-! ### t.count(x) -/
/-! ### a written tuple of texts; a part of a row -/
end
section
variable {X : Cx}
/-- name = {..} on one line, the name a local -/
theorem ps_setDc {i : Nat} {y : Str} {py : Pos} {kx vx tg iter : Expr} {ifs : List Expr} {scope : Scope} {own : List (Str × Nat)} {pos spos : Pos} {wi : TI} {g : TG} {tt : TT} {tk tv : TE} (hc : X.calm = true) (hN : X.N.Nodup) (hy : X.N[i]? = some y) (hyl : X.env.scope.names.lookup y = some .local)
    (hsw : swapsWith (.DictComp kx vx [⟨tg, iter, ifs, 0⟩] scope pos) (some (.Name y py)) spos.line X.env = pure true) (hi : PI X tg iter wi) (ok : BlkOk X.N X.env.scope scope own)
    (hg : ∀ (s : Shared) (H : Hp) (C : Addr) (cl : List (Str × Addr)) (fp : List Addr), PG (X.blk s H scope (compEnvC scope cl C X.env) fp) tg g) (ht : ∀ (s : Shared) (H : Hp) (C : Addr) (cl : List (Str × Addr)) (fp : List Addr), PTs (X.blk s H scope (compEnvC scope cl C X.env) fp) ifs tt)
    (hk : ∀ (s : Shared) (H : Hp) (C : Addr) (cl : List (Str × Addr)) (fp : List Addr), PE (X.blk s H scope (compEnvC scope cl C X.env) fp) kx tk)
    (he : ∀ (s : Shared) (H : Hp) (C : Addr) (cl : List (Str × Addr)) (fp : List Addr), PE (X.blk s H scope (compEnvC scope cl C X.env) fp) vx tv) (hs : ∀ x, foldedSetIterable iter X.env x = pure x := by intro _; rfl) :
    PS X (.Assign [.Name y py] (.DictComp kx vx [⟨tg, iter, ifs, 0⟩] scope pos) spos) (tAsg (tDc wi g tt tk tv (own.map (·.2))) (gName i)) := by
  refine ⟨fun pins s σ H D I h => ?_⟩
  rw [exec_Assign_Name_used _ _ _ _ hsw]
  refine wpAny_bind (wpAny_standAt (wpAny_bind ?_))
  show wpAny _ X.A (do let _ ← comprehension (.DictComp kx vx [⟨tg, iter, ifs, 0⟩] scope pos) scope X.env (firstIterPos [⟨tg, iter, ifs, 0⟩] pos) newDict false (eval iter X.env) (some (assign (.Name y py) X.env))) _ _ s
  have h : tDc wi g tt tk tv (own.map (·.2)) σ H (fun x H1 => gName i x σ H1 D.nx) := h
  refine wpAny_bind (thn (dc_core (Qf := fun _ s' => SP X pins D .next s') hc hN I hi ok hg ht hk he hs h fun L C s' m H' I' q hn f => ?_) fun _ s' hq => wpAny_pure (wpAny_pure hq))
  show wpAny _ _ (assign (.Name y py) X.env (.ref L)) _ _ _
  refine wpAny_assign_Name (store_ok2 (v := V.ref L) I' hN hy (.inl hyl) rfl (fun s2 I2 ⟨a, sb, ha⟩ => ?_) (.inr hyl))
  obtain ⟨f0, f1, f2, f3, f4, f5⟩ := f
  have haC : C ≠ a := by
    rcases ha with z | z
    · rw [z]; exact f1
    · exact fun e => f4 y a z e.symm
  refine ⟨m, hn.sameBut sb haC, fun h3 sb3 => ?_⟩
  exact ⟨_, H', I2.turned (t' := s2.toks) (fun b o hb e => (sb3.2 b hb).trans e) f0 f1 f3 f4 f5, q⟩
theorem sw_trueD {kx vx : Expr} {gs : List Comprehension} {scope : Scope} {pos py : Pos} {y : Str} {l : Nat} {env : Env} (hk : env.scope.kind = .function) (hy : env.scope.names.lookup y = some .local) (hl : (py.line == pos.line) = true)
    (ha : (scope.names.any fun (n, k) => n == y && (k == .local || k == .cell)) = false) : swapsWith (.DictComp kx vx gs scope pos) (some (.Name y py)) l env = pure true := by
  have ky : env.kindOf y = some .local := hy
  have hb : env.blockKind = .function := by unfold Env.blockKind; rw [hk]; rfl
  unfold swapsWith
  simp only [hb, ky, ha, Expr.pos, hl]
  rfl
end
end FD
/-! sorted(xs), xs a list of data of one kind -/
namespace FD
open PySem PySem.Spec L2 Evl PyProof.Rows PySem.W
def rSortedDat (K : PySem.W.Frag) : List V → Hp → VK → Prop := fun xs H Q => ∃ (a : Addr) (qs : List (V × PyData)), xs = [.ref a] ∧ SqL K H a (qs.map (·.1)) ∧ (∀ q ∈ qs, L2.Dp K H q.1 q.2) ∧ AllAlike (qs.map (·.2)) ∧ Sortable (qs.map (·.2)) ∧ (∀ q ∈ qs, q.2.depth ≤ 8) ∧
  ∀ p, H p = none → Q (.ref p) (upd H p (.lst ((qs.mergeSort (dataLe false (·.2))).map (·.1))))
section
variable {X : Cx}
theorem each_val : ∀ {qs : List (V × PyData)} {its : List Value}, Vals (qs.map (·.1)) its → EachIs (fun u (q : V × PyData) => RelV q.1 u) its qs
  | [], _, .nil => .nil
  | q :: qs, _, .cons h t => .cons h (each_val t)
theorem val_each : ∀ {qs : List (V × PyData)} {out : List Value}, EachIs (fun u (q : V × PyData) => RelV q.1 u) out qs → Vals (qs.map (·.1)) out
  | _, _, .nil => .nil
  | _, _, .cons h t => .cons h (val_each t)
theorem each_in {α β : Type} {R : α → β → Prop} {S : α → β → Prop} : ∀ {as : List α} {bs : List β}, EachIs R as bs → (∀ a b, b ∈ bs → R a b → S a b) → EachIs S as bs
  | _, _, .nil, _ => .nil
  | _, _, .cons h t, f => .cons (f _ _ List.mem_cons_self h) (each_in t fun a b hb => f a b (List.mem_cons_of_mem _ hb))
theorem cr_sortedDat (hu : X.A.units + 64 < cLine) : CallR X (.builtin "sorted") (rSortedDat X.K) := by
  intro pins s σ H vs us Q I r h
  obtain ⟨a, qs, rfl, hs, hd, hal, hso, hdp, q⟩ := h
  obtain ⟨its, rv, hl, hz⟩ := I.list hs
  obtain ⟨u, rfl, ru⟩ := vals1 r
  obtain rfl : u = Value.ref a := ru
  have el : qs.length = its.length := by rw [← rv.length, List.length_map]
  have e := each_val rv
  refine sorted_data (s := s) (vs := its) (bs := qs) (enc := (·.2)) (R := fun u (q : V × PyData) => RelV q.1 u) hl.isList e (each_in e fun v q hq h => Dp.reads I _ _ _ (hd q hq) h) hal hso (by rw [List.length_map] at hz; exact hz) (fun d hm => by have := hdp d hm; omega) fun out ho eo => ?_
  have h1 := val_each eo
  obtain ⟨n, hat⟩ := sortedAll_at s.heap its out.toArray
  have fr : H (s.heap.objs.size + 1) = none := I.hok.fresh (Nat.le_succ _)
  refine ⟨.ref (s.heap.objs.size + 1), upd H (s.heap.objs.size + 1) (.lst ((qs.mergeSort (dataLe false (·.2))).map (·.1))), I.laid (t' := s.toks) (fun b o z => sortedAll_old z) (Nat.le_succ _) ⟨?_, out, n, h1, hat⟩, rfl, q _ fr⟩
  rw [List.length_map, List.length_mergeSort]
  rw [List.length_map] at hz
  exact hz
end
theorem sort_snd (qs : List (V × PyData)) : (qs.mergeSort (dataLe false (·.2))).map (·.2) = (qs.map (·.2)).mergeSort (dataLe false id) :=
  sort_maps (r := dataLe false fun x : V × PyData => x.2) (s := dataLe false id) (fun x : V × PyData => x.2) fun a _ b _ => rfl
theorem dpAll_zip {K : PySem.W.Frag} {H : Hp} : ∀ {ws : List V} {ds : List PyData}, DpAll K H ws ds → ∃ qs : List (V × PyData), ws = qs.map (·.1) ∧ ds = qs.map (·.2) ∧ ∀ q ∈ qs, Dp K H q.1 q.2
  | _, _, .nil => ⟨[], rfl, rfl, fun q hq => nomatch hq⟩
  | _, _, .cons (v := v) (d := d) h t => by
    obtain ⟨qs, e1, e2, e3⟩ := dpAll_zip t
    refine ⟨(v, d) :: qs, by rw [e1]; rfl, by rw [e2]; rfl, fun q hq => ?_⟩
    rcases List.mem_cons.mp hq with z | z
    · rw [z]; exact h
    · exact e3 q z
theorem dpAll_pairs {K : PySem.W.Frag} {H : Hp} : ∀ {qs : List (V × PyData)}, (∀ q ∈ qs, Dp K H q.1 q.2) → DpAll K H (qs.map (·.1)) (qs.map (·.2))
  | [], _ => .nil
  | q :: qs, h => .cons (h q List.mem_cons_self) (dpAll_pairs fun r hr => h r (List.mem_cons_of_mem _ hr))
section
variable {C : Cfg} {M : List Addr} {δ : List Ent} {μ : Mem} {e : Ent}
theorem c_sortedDat {ds : List PyData} (r : Rdd μ e (.list ds)) (hal : AllAlike ds) (hso : Sortable ds) (hdp : ∀ d ∈ ds, d.depth ≤ 8) : CallX C (rSortedDat C.K) M δ μ μ [e] (.d (.list (ds.mergeSort (dataLe false id)))) := fun σ H vs o h Q kk => by
  obtain ⟨v, rfl, q⟩ := p1 h
  obtain ⟨a, ws, q1, q2, q3⟩ := r.lst o q
  obtain ⟨qs, rfl, rfl, q4⟩ := dpAll_zip q3
  refine ⟨a, qs, by rw [q1], q2, fun q hq => (dp_mono hide_le _ _ (q4 q hq)).w, hal, hso, fun q hq => hdp _ (List.mem_map.mpr ⟨q, hq, rfl⟩), fun p hn => ?_⟩
  have es := sort_snd qs
  obtain ⟨o', x', d'⟩ := o.lst hn (dpAll_pairs (qs := qs.mergeSort (dataLe false (·.2))) fun q hq => q4 q ((List.mergeSort_perm _ _).mem_iff.mp hq))
  rw [es] at d'
  exact kk _ _ o' x' d'
end
end FD
/-! Expressions whose result is known by a relation only. -/
namespace FD
open PySem L2 Evl
def EvP (C : Cfg) (te : TE) (M : List Addr) (δ : List Ent) (μ : Mem) (R : Ent → Mem → Prop) : Prop := ∀ σ H, Ok C M δ μ σ H → ∀ Q : VK, (∀ v H' e μ', R e μ' → Ok C M δ μ' σ H' → Ex (hide M H) (hide M H') → EntOk C.K (hide M H') e v → Q v H') → te σ H Q
def EvPA (C : Cfg) (ta : TA) (M : List Addr) (δ : List Ent) (μ : Mem) (R : List Ent → Mem → Prop) : Prop := ∀ σ H, Ok C M δ μ σ H → ∀ Q : List V → Hp → Prop, (∀ vs H' es μ', R es μ' → Ok C M δ μ' σ H' → Ex (hide M H) (hide M H') → Paired (EntOk C.K (hide M H')) es vs → Q vs H') → ta σ H Q
def EvPT (C : Cfg) (tt : TT) (M : List Addr) (δ : List Ent) (μ : Mem) (R : Bool → Mem → Prop) : Prop := ∀ σ H, Ok C M δ μ σ H → ∀ Q : Bool → Hp → Prop, (∀ b H' μ', R b μ' → Ok C M δ μ' σ H' → Ex (hide M H) (hide M H') → Q b H') → tt σ H Q
section
variable {C : Cfg} {M : List Addr} {δ δ' : List Ent} {μ μ1 : Mem} {te ta tb : TE} {tr : TA} {t u : TT} {D : Ends} {t1 t2 t3 : TS} {n : Nat} {E : XK} {e : Ent} {es : List Ent} {b : Bool} {g : TG}
theorem xp_of {R : Ent → Mem → Prop} (h : EvX C te M δ μ μ1 e) (hR : R e μ1) : EvP C te M δ μ R := fun σ H o Q k => h σ H o Q fun v H' o' x' r' => k v H' e μ1 hR o' x' r'
theorem ap_of {R : List Ent → Mem → Prop} (h : EvA C tr M δ μ μ1 es) (hR : R es μ1) : EvPA C tr M δ μ R := fun σ H o Q k => h σ H o Q fun v H' o' x' r' => k v H' es μ1 hR o' x' r'
theorem tp_of {R : Bool → Mem → Prop} (h : EvT C t M δ μ μ1 b) (hR : R b μ1) : EvPT C t M δ μ R := fun σ H o Q k => h σ H o Q fun H' o' x' => k b H' μ1 hR o' x'
theorem xp_imp {R S : Ent → Mem → Prop} (h : EvP C te M δ μ R) (hR : ∀ e μ', R e μ' → S e μ') : EvP C te M δ μ S := fun σ H o Q k => h σ H o Q fun v H' e μ' q o' x' r' => k v H' e μ' (hR e μ' q) o' x' r'
theorem ap_nil {R : List Ent → Mem → Prop} (hR : R [] μ) : EvPA C tNil M δ μ R := ap_of a_nil hR
theorem ap_cons {R : List Ent → Mem → Prop} (h : EvP C te M δ μ fun e μ1 => EvPA C tr M δ μ1 fun es μ2 => R (e :: es) μ2) : EvPA C (tCons te tr) M δ μ R := fun σ H o Q k =>
  h σ H o _ fun v H1 e μ1 hr o1 x1 r1 => hr σ H1 o1 _ fun vs H2 es μ2 hR o2 x2 r2 => k (v :: vs) H2 (e :: es) μ2 hR o2 (x1.trans x2) (.cons (r1.mono x2) r2)
theorem xp_op {r : R2} {R : Ent → Mem → Prop} (h : EvP C ta M δ μ fun e1 μ1 => EvP C tb M δ μ1 fun e2 μ2 => ∃ e3 μ3, OpX C r M δ μ2 μ3 e1 e2 e3 ∧ R e3 μ3) : EvP C (tOp r ta tb) M δ μ R := fun σ H o Q k =>
  h σ H o _ fun x H1 e1 μ1 h1 o1 x1 r1 => h1 σ H1 o1 _ fun y H2 e2 μ2 ⟨e3, μ3, hr, hR⟩ o2 x2 r2 => hr σ H2 x y o2 (r1.mono x2) r2 Q fun v H3 o3 x3 r3 => k v H3 e3 μ3 hR o3 ((x1.trans x2).trans x3) r3
theorem xp_cb {r : List V → Hp → VK → Prop} {R : Ent → Mem → Prop} (h : EvPA C tr M δ μ fun es μ1 => ∃ e μ2, CallX C r M δ μ1 μ2 es e ∧ R e μ2) : EvP C (tCB r tr) M δ μ R := fun σ H o Q k =>
  h σ H o _ fun vs H1 es μ1 ⟨e, μ2, hr, hR⟩ o1 x1 r1 => hr σ H1 vs o1 r1 Q fun v H2 o2 x2 r2 => k v H2 e μ2 hR o2 (x1.trans x2) r2
/-- a call by a promise spR -/
theorem xp_callR {R : Ent → Mem → Prop} {Rf : List PyData → PyData → Prop} (h : EvPA C tr M δ μ fun es μ1 => ∃ ds d, es = ds.map Ent.d ∧ ds.length = n ∧ Rf ds d ∧ R (.d d) μ1) : EvP C (tCall (spR C.K n Rf) [] E tr) M δ μ R := fun σ H o Q k => h σ H o _ fun vs H1 es μ1 ⟨ds, d, he, hn, hR, hk⟩ o1 x1 r1 => by
  rw [List.append_nil]
  subst he
  have dp := dpAll_of r1
  exact ⟨by rw [dp.length]; exact hn, M, ds, d, o1.alloc, dp, hR, fun v H' e r => k v H' (.d d) μ1 hk (o1.grow e) (x1.trans (hide_ex e)) r⟩
/-- a call by a promise spX -/
theorem xp_callX {Pre : List Ent → Mem → Prop} {Post : List Ent → Mem → PyData → Mem → Prop} {R : Ent → Mem → Prop}
    (h : EvPA C tr M δ μ fun es μ1 => es.length = n ∧ ∃ μ0, (∀ p ∈ μ0, p ∈ μ1) ∧ ((ad μ1).Nodup → (ad μ0).Nodup) ∧ Pre es μ0 ∧ ((ad μ1).Nodup → ∀ d μ0', Post es μ0 d μ0' → ad μ0' = ad μ0 → ∃ μ2, Swap μ0 μ0' μ1 μ2 ∧ R (.d d) μ2)) :
    EvP C (tCall (spX C.K n Pre Post) [] E tr) M δ μ R := fun σ H o Q k => h σ H o _ fun vs H1 es μ1 ⟨hn, μ0, hsub, nd, hP, kk⟩ o1 x1 r1 => by
  rw [List.append_nil]
  refine ⟨by rw [← paired_len r1]; exact hn, M, es, μ0, o1.alloc, r1, fun p hp => let q := o1.mem p (hsub p hp); ⟨q.1, q.2.2⟩, nd o1.nd, hP, fun v H2 d μ0' hq had e2 m2 d2 => ?_⟩
  obtain ⟨μ2, sw, hR⟩ := kk o1.nd d μ0' hq had
  obtain ⟨o2, x2⟩ := after_E o1 sw e2 m2
  exact k v H2 (.d d) μ2 hR o2 (x1.trans x2) d2
/-- .. of one box and data -/
theorem ad_one {μ0' : Mem} {b : Addr} {mo : MO} (had : ad μ0' = ad [(b, mo)]) : ∃ mo', μ0' = [(b, mo')] := by
  cases μ0' with
  | nil => cases had
  | cons q r =>
    obtain ⟨x, y⟩ := q
    have h1 := (List.cons.inj had).1
    have h2 := (List.cons.inj had).2
    have h1 : x = b := h1
    have h2 : r.map (·.1) = [] := h2
    rw [h1, List.map_eq_nil_iff.mp h2]
    exact ⟨y, rfl⟩
theorem xp_callX1 {Pre : List Ent → Mem → Prop} {Post : List Ent → Mem → PyData → Mem → Prop} {R : Ent → Mem → Prop}
    (h : EvPA C tr M δ μ fun es μ1 => es.length = n ∧ ∃ (j : Nat) (b : Addr) (mo : MO), μ1[j]? = some (b, mo) ∧ Pre es [(b, mo)] ∧ ∀ d mo', Post es [(b, mo)] d [(b, mo')] → R (.d d) (μ1.set j (b, mo'))) :
    EvP C (tCall (spX C.K n Pre Post) [] E tr) M δ μ R := by
  refine xp_callX ?_
  intro σ H o Q k
  refine h σ H o Q ?_
  intro vs H1 es μ1 hh o1 x1 r1
  obtain ⟨hn, j, b, mo, hj, hP, kk⟩ := hh
  refine k vs H1 es μ1 ⟨hn, [(b, mo)], ?_, ?_, hP, ?_⟩ o1 x1 r1
  · intro p hp
    rw [List.mem_singleton.mp hp]
    exact List.mem_of_getElem? hj
  · intro _
    exact List.nodup_cons.mpr ⟨by simp, List.nodup_nil⟩
  · intro ndμ d μ0' hq had
    obtain ⟨mo', rfl⟩ := ad_one had
    exact ⟨_, swap_set hj ndμ, kk d mo' hq⟩
theorem tp_B {R : Bool → Mem → Prop} (h : EvP C te M δ μ fun e μ1 => ∃ b, e = .d (.bool b) ∧ R b μ1) : EvPT C (tB te) M δ μ R := fun σ H o Q k =>
  h σ H o _ fun v H1 e μ1 ⟨b, he, hR⟩ o1 x1 r1 => by
    subst he
    exact ⟨b, Dp.bool_of r1, k b H1 μ1 hR o1 x1⟩
theorem tp_test {R : Bool → Mem → Prop} (h : EvP C te M δ μ fun e μ1 => ∃ b, e = .d (.bool b) ∧ R b μ1) : EvPT C (tTest te) M δ μ R := fun σ H o Q k =>
  h σ H o _ fun v H1 e μ1 ⟨b, he, hR⟩ o1 x1 r1 => by
    subst he
    exact ⟨b, Dp.bool_of r1, k b H1 μ1 hR o1 x1⟩
theorem tp_not {R : Bool → Mem → Prop} (h : EvPT C t M δ μ fun b μ1 => R (!b) μ1) : EvPT C (tNot t) M δ μ R := fun σ H o Q k =>
  h σ H o _ fun b H1 μ1 hR o1 x1 => k (!b) H1 μ1 hR o1 x1
theorem tp_and {R : Bool → Mem → Prop} (h : EvPT C t M δ μ fun b μ1 => if b = true then EvPT C u M δ μ1 R else R false μ1) : EvPT C (tAnd t u) M δ μ R := fun σ H o Q k =>
  h σ H o _ fun b H1 μ1 hR o1 x1 => by
    cases b with
    | true =>
      show (if true = true then _ else _)
      rw [if_pos rfl]
      have hR : EvPT C u M δ μ1 R := hR
      exact hR σ H1 o1 _ fun b H2 μ2 hR o2 x2 => k b H2 μ2 hR o2 (x1.trans x2)
    | false =>
      show (if false = true then _ else _)
      rw [if_neg (by decide)]
      have hR : R false μ1 := hR
      exact k false H1 μ1 hR o1 x1
theorem tp_or {R : Bool → Mem → Prop} (h : EvPT C t M δ μ fun b μ1 => if b = true then R true μ1 else EvPT C u M δ μ1 R) : EvPT C (tOr t u) M δ μ R := fun σ H o Q k =>
  h σ H o _ fun b H1 μ1 hR o1 x1 => by
    cases b with
    | true =>
      show (if true = true then _ else _)
      rw [if_pos rfl]
      have hR : R true μ1 := hR
      exact k true H1 μ1 hR o1 x1
    | false =>
      show (if false = true then _ else _)
      rw [if_neg (by decide)]
      have hR : EvPT C u M δ μ1 R := hR
      exact hR σ H1 o1 _ fun b H2 μ2 hR o2 x2 => k b H2 μ2 hR o2 (x1.trans x2)
theorem r_ifP (h : EvPT C t M δ μ fun b μ1 => if b = true then Run C t1 D M δ μ1 else Run C t2 D M δ μ1) : Run C (tIfS t t1 t2) D M δ μ := fun σ H o =>
  h σ H o _ fun b H1 μ1 hR o1 x1 => by
    cases b with
    | true => show (if true = true then _ else _); rw [if_pos rfl]; exact hR σ H1 o1
    | false => show (if false = true then _ else _); rw [if_neg (by decide)]; exact hR σ H1 o1
theorem q_ifP (h : EvPT C t M δ μ fun b μ1 => if b = true then Run C t1 { D with nx := t3 D } M δ μ1 else Run C t2 { D with nx := t3 D } M δ μ1) : Run C (tSeq (tIfS t t1 t2) t3) D M δ μ := r_ifP (D := { D with nx := t3 D }) h
/-- a test that comes out false; then what follows -/
theorem q_noP (h : EvPT C t M δ μ fun b μ1 => b = false ∧ Run C t3 D M δ μ1) : Run C (tSeq (tIfS t t1 tNext) t3) D M δ μ := q_ifP fun σ H o Q k => h σ H o Q fun b H1 μ1 ⟨hb, r⟩ o1 x1 => k b H1 μ1 (by rw [hb]; exact r_next r) o1 x1
theorem q_asgP' {i : Nat} (h : EvP C te M δ μ fun e μ1 => Run C t2 D M (δ.set i e) μ1) : Run C (tSeq (tAsg te (gName i)) t2) D M δ μ := fun σ H o =>
  h σ H o _ fun v H1 e μ1 hr o1 x1 r1 => hr _ H1 (o1.set i r1)
theorem r_asgP' {i : Nat} (h : EvP C te M δ μ fun e μ1 => Nx C D M (δ.set i e) μ1) : Run C (tAsg te (gName i)) D M δ μ := fun σ H o =>
  h σ H o _ fun v H1 e μ1 hr o1 x1 r1 => hr _ H1 (o1.set i r1)
theorem r_retP' (h : EvP C te M δ μ fun e μ1 => ∃ d, e = .d d ∧ ∃ μ', (∀ p ∈ μ', p ∈ μ1) ∧ FinE C D d μ') : Run C (tRet te) D M δ μ := fun σ H o =>
  h σ H o _ fun v H1 e μ1 ⟨d, he, μ', hs, k⟩ o1 x1 r1 => by
    subst he
    exact k v M H1 o1.gr o1.sub (fun p hp => (o1.mem p (hs p hp)).2.2) r1
end
theorem kbn_rev {K : PySem.W.Frag} {x qual : Str} {st : Stmt} {f : Addr} {fd : FuncData} (F : Fun K x qual st f fd) {ps ks : List Str}
    (h : ∀ (kV doc pm : Value) (an : Option Addr) (cdv ct : Value) (ws : List Value), ws.length = ks.length → bindArgs (PySem.W.fnOf x qual (defArgs st) (defBody st) (defScope st) .none kV doc pm an cdv ct) ⟨[], ks.zip ws⟩ = pure (ps.zip ws.reverse)) : KBn K fd ps 0 ks (fun _ ws => ws.reverse) (fun _ zs => zs.reverse) := by
  obtain ⟨oc, od, kV, doc, pm, an, cdv, ct, osl, rfl, lk, hcd⟩ := F.ex
  refine ⟨fun s us ws _ h0 hl => ?_, fun {vs us zs ws} _ r => r.reverse⟩
  cases us with
  | nil => exact .of_eq (h kV doc pm an cdv ct ws hl)
  | cons u us => cases h0
end FD
/-! sets of tuples of texts, found by their hashes -/
namespace FD
open PySem PySem.Spec L2 PyProof.Rows PySem.W PySem.Froz
/-- the tuple at b has the texts k -/
abbrev Tx (P : Program) (w : World) (h : Heap) (k : List Key) (b : Addr) : Prop := IsTupleKey (mixKind P w) h k b
abbrev tsh (P : Program) (w : World) (k : List Key) : Int := tupleKeyHash (mixKind P w) k
abbrev Mbs := List (Addr × List Key)
theorem key_items {P : Program} {w : World} {k : List Key} {vs : List Value} (h : ItemsAre (mixKind P w) k vs) : ∀ v ∈ vs, ∃ z, keyIs z v = true := by
  induction h with
  | nil => exact fun v hv => absurd hv (by simp)
  | @cons z v ks vs q _ ih =>
    intro u hu
    rcases List.mem_cons.mp hu with e | hu
    · rw [e]; exact ⟨z, q⟩
    · exact ih u hu
theorem cls_key (n : Nat) {z : Key} {v : Value} (h : keyIs z v = true) : ofAClassStatement n v = pure false := by
  rcases keyIs_shape h with ⟨i, t, _, rfl⟩ | ⟨x, t, _, rfl⟩ <;> (cases n <;> rfl)
theorem byv_str (n : Nat) (z : Str) (t : Tok) : hashByValue n (.str z t) = pure false := by
  unfold hashByValue
  cases n <;> rfl
theorem byv_int (n : Nat) (z : Int) (t : Tok) : hashByValue n (.int z t) = pure true := by
  unfold hashByValue
  cases n <;> rfl
theorem prb_dum (m : Nat) : ∀ (n : Nat) (p : SetTable.Probe), p.dummy = none → (nth m p n).dummy = none
  | 0, _, e => e
  | n + 1, p, e => prb_dum m n (adv m p) (by unfold adv; split <;> exact e)
section
variable {P : Program} {w : World} {A : Around} {E : Value → Shared → Prop} {s : Shared}
theorem tx_keep {h h' : Heap} {k : List Key} {b : Addr} (x : Tx P w h k b) (up : ∀ c u, h.get? c = some u → h'.get? c = some u) : Tx P w h' k b :=
  let ⟨u, its, m, g, r⟩ := x
  ⟨u, its, m, up b u g, r⟩
theorem tx_off {h h' : Heap} {k : List Key} {b S : Addr} {T : SD} (x : Tx P w h k b) (g : h.get? S = some (sObj "set" T)) (sb : Heap.SameBut S h h') : Tx P w h' k b := by
  obtain ⟨u, its, m, gu, c, dt, r⟩ := x
  refine ⟨u, its, m, (sb.2 b fun z => ?_).trans gu, c, dt, r⟩
  rw [z, g] at gu
  cases gu
  exact nomatch dt
theorem tx_cls {k : List Key} {b : Addr} {Q : Bool → Shared → Prop} (x : Tx P w s.heap k b) (q : Q false s) : wpAny (model P w) A (ofAClassStatement 8 (.ref b)) Q E s := by
  have ty := x.typeIs
  obtain ⟨u, its, m, gu, _, dt, is⟩ := x
  unfold ofAClassStatement
  refine wpAny_bind (wpAny_typeOf ty ?_)
  dsimp only
  have e : (("tuple" : String) == "tuple") = true := by decide
  simp only [e, if_true, Bool.not_true, Bool.false_eq_true, if_false]
  show wpAny _ _ (seqItems? (.ref b) >>= _) _ _ s
  refine wpAny_bind (wpAny_seqItems gu dt ?_)
  dsimp only
  refine wpAny_bind ?_
  show wpAny _ _ (forIn its _ _) _ _ s
  rw [← Array.forIn_toList]
  refine wpAny_forIn_list _ (fun l r t => r.1 = none ∧ t = s ∧ ∀ v ∈ l, ∃ z, keyIs z v = true) _ ?_ ?_ _ _ ⟨rfl, rfl, key_items is⟩
  · rintro v l r t ⟨hr, rfl, hl⟩
    obtain ⟨z, hz⟩ := hl v List.mem_cons_self
    rw [cls_key _ hz]
    refine wpAny_bind (wpAny_pure ?_)
    simp only [Bool.false_eq_true, if_false]
    exact wpAny_pure ⟨rfl, rfl, fun y hy => hl y (List.mem_cons_of_mem _ hy)⟩
  · rintro ⟨r1, r2⟩ t ⟨hr, rfl, _⟩
    have hr : r1 = none := hr
    subst hr
    exact wpAny_pure q
theorem tx_byv {k : List Key} {b : Addr} {Q : Bool → Shared → Prop} (x : Tx P w s.heap k b) (q : ∀ c, Q c s) : wpAny (model P w) A (hashByValue 8 (.ref b)) Q E s := by
  have ty := x.typeIs
  obtain ⟨u, its, m, gu, _, dt, is⟩ := x
  unfold hashByValue
  refine wpAny_bind (wpAny_specialOf ty F.slot_tuple_hash.lookup ?_)
  show wpAny _ _ (seqItems? (.ref b) >>= _) _ _ s
  refine wpAny_bind (wpAny_seqItems gu dt ?_)
  refine wpAny_bind ?_
  show wpAny _ _ (forIn its _ _) _ _ s
  rw [← Array.forIn_toList]
  refine wpAny_forIn_list _ (fun l r t => r.1 = none ∧ t = s ∧ ∀ v ∈ l, ∃ z, keyIs z v = true) _ ?_ ?_ _ _ ⟨rfl, rfl, key_items is⟩
  · rintro v l r t ⟨hr, rfl, hl⟩
    obtain ⟨z, hz⟩ := hl v List.mem_cons_self
    rcases keyIs_shape hz with ⟨i, t, _, rfl⟩ | ⟨x, t, _, rfl⟩
    · rw [byv_int]
      refine wpAny_bind (wpAny_pure ?_)
      simp only [Bool.not_true, Bool.false_eq_true, if_false]
      exact wpAny_pure ⟨rfl, rfl, fun y hy => hl y (List.mem_cons_of_mem _ hy)⟩
    · rw [byv_str]
      refine wpAny_bind (wpAny_pure ?_)
      simp only [Bool.not_false, if_true]
      exact wpAny_pure (wpAny_pure (q false))
  · rintro ⟨r1, r2⟩ t ⟨hr, rfl, _⟩
    have hr : r1 = none := hr
    subst hr
    exact wpAny_pure (q true)
/-- a search among tuples of texts is seen by nobody -/
theorem tx_seen {k : List Key} {b : Addr} {Q : Bool → Shared → Prop} (x : Tx P w s.heap k b) {ys : List Value} (hy : ∀ y ∈ ys, ∃ l c, y = Value.ref c ∧ Tx P w s.heap l c) (q : Q false s) :
    wpAny (model P w) A (searchCouldBeSeen (.ref b) ys) Q E s := by
  unfold searchCouldBeSeen
  refine wpAny_bind ?_
  refine wpAny_forIn_list _ (fun l r t => r.1 = none ∧ t = s ∧ ∀ y ∈ l, ∃ k' c, y = Value.ref c ∧ Tx P w s.heap k' c) _ ?_ ?_ _ _ ⟨rfl, rfl, hy⟩
  · rintro v l r t ⟨hr, rfl, hl⟩
    obtain ⟨k', c, rfl, xc⟩ := hl v List.mem_cons_self
    have hl' : ∀ y ∈ l, ∃ k' c, y = Value.ref c ∧ Tx P w t.heap k' c := fun y hy => hl y (List.mem_cons_of_mem _ hy)
    dsimp only
    by_cases z : (b == c || (carriedByValue (.ref b) && carriedByValue (.ref c))) = true
    · exact wp_if_pos z (wpAny_pure ⟨rfl, rfl, hl'⟩)
    · refine wp_if_neg z (wpAny_bind (wpAny_eqIsQuiet_tuple x ?_))
      simp only [Bool.not_true, Bool.false_eq_true, if_false]
      refine wpAny_bind (wpAny_eqIsQuiet_tuple xc ?_)
      simp only [Bool.not_true, Bool.false_eq_true, if_false]
      refine wpAny_bind (tx_cls x ?_)
      simp only [Bool.false_eq_true, if_false]
      refine wpAny_bind (tx_cls xc ?_)
      simp only [Bool.false_eq_true, if_false]
      exact wpAny_pure ⟨rfl, rfl, hl'⟩
  · rintro ⟨r1, r2⟩ t ⟨hr, rfl, _⟩
    have hr : r1 = none := hr
    subst hr
    exact wpAny_pure q
end
def tEnt (P : Program) (w : World) (L : Mbs) : List (Int × Value) := L.map fun q => (tsh P w q.2, Value.ref q.1)
/-- the set at S: its members, in its table's order -/
structure TtS (P : Program) (w : World) (h : Heap) (S : Addr) (L : Mbs) (T : SD) : Prop where
  obj : h.get? S = some (sObj "set" T)
  ent : T.1.toList = tEnt P w L
  tab : TabOk T.2.2 (L.map fun q => tsh P w q.2)
  dif : (L.map (·.2)).Nodup
  tps : ∀ q ∈ L, Tx P w h q.2 q.1
  mar : w.params.followText "set-order" = true ∨ T.2.2.led = true
  rm : L.length * 5 < T.2.2.mask * 3
  few : L.length < 64
section
variable {P : Program} {w : World} {A : Around} {E : Value → Shared → Prop} {s : Shared} {S : Addr} {L : Mbs} {T : SD}
theorem TtS.num {h : Heap} (R : TtS P w h S L T) : T.1.size = L.length := by
  have e := congrArg List.length R.ent
  rw [Array.length_toList] at e
  rw [e]
  exact List.length_map _
theorem TtS.fit {h : Heap} (R : TtS P w h S L T) : T.2.2.fits T.1.size = true := by
  have a := R.tab.sz
  rw [List.length_map] at a
  have b := R.num
  have c := R.rm
  unfold SetTable.fits SetTable.fill
  rw [R.tab.dm, Bool.and_eq_true, beq_iff_eq, decide_eq_true_eq]
  refine ⟨a.trans b.symm, ?_⟩
  rw [a]
  show L.length + 0 ≤ T.2.2.mask
  omega
theorem TtS.at {h : Heap} (R : TtS P w h S L T) {i : Nat} {q : Addr × List Key} (e : L[i]? = some q) : T.1[i]? = some (tsh P w q.2, Value.ref q.1) := by
  have z : T.1.toList[i]? = some (tsh P w q.2, Value.ref q.1) := by rw [R.ent]; simp [tEnt, e]
  rw [← Array.getElem?_toList]
  exact z
theorem TtS.gave {h : Heap} (R : TtS P w h S L T) : ¬ T.2.2.gaveWay = true := by
  have z := mask_odd R.tab.mok
  unfold SetTable.gaveWay
  rw [z]
  decide
theorem TtS.up {h h' : Heap} (R : TtS P w h S L T) (k : ∀ c u, h.get? c = some u → h'.get? c = some u) : TtS P w h' S L T :=
  ⟨k _ _ R.obj, R.ent, R.tab, R.dif, fun q hq => tx_keep (R.tps q hq) k, R.mar, R.rm, R.few⟩
/-- the search, from the c-th step of its way on; the N-th step meets the first empty slot -/
theorem tt_hunt (R : TtS P w s.heap S L T) {x : Addr} {k : List Key} (hx : Tx P w s.heap k x) (hu : A.units < cLine) {N : Nat} (n1 : N < 10 * SetTable.turns T.2.2.mask) (n2 : way T.2.2.mask (tsh P w k) N ∉ T.2.2.place.toList)
    (n3 : ∀ c, c < N → way T.2.2.mask (tsh P w k) c ∈ T.2.2.place.toList) {Q : SetFound → Shared → Prop} (yes : k ∈ L.map (·.2) → Q (.there none) s) (no : k ∉ L.map (·.2) → Q (.free (way T.2.2.mask (tsh P w k) N) false) s) :
    ∀ (fuel c : Nat) (st : Option SetTable.Probe), st.getD (T.2.2.probeStart (tsh P w k)) = nth T.2.2.mask (runAt T.2.2.mask (SetTable.bits (tsh P w k) % (T.2.2.mask + 1)) (SetTable.bits (tsh P w k))) c → c ≤ N → N < fuel + c →
      (∀ (i : Nat) (q : Addr × List Key), L[i]? = some q → q.2 = k → ∃ c', c ≤ c' ∧ c' < N ∧ T.2.2.place.toList[i]? = some (way T.2.2.mask (tsh P w k) c')) →
      wpAny (model P w) A (setSearchFrom S (.ref x) (tsh P w k) true fuel st) Q E s := by
  have fit := R.fit
  have gave := R.gave
  have obj := R.obj
  have num := R.num
  have sz := R.tab.sz
  rw [List.length_map] at sz
  have ate : ∀ {i : Nat} {q : Addr × List Key}, L[i]? = some q → T.1[i]? = some (tsh P w q.2, Value.ref q.1) := fun e => R.at e
  have ent := R.ent
  have tab := R.tab
  have tps := R.tps
  clear R
  obtain ⟨es, ep, t⟩ := T
  dsimp only at n1 n2 n3 no fit gave num sz ate ent tab ⊢
  have dat : (sObj "set" (es, ep, t)).data = .set es ep t := rfl
  generalize eH : tsh P w k = H at n2 n3 no ⊢
  have shift : ∀ c q, nth t.mask (nth t.mask (runAt t.mask (SetTable.bits H % (t.mask + 1)) (SetTable.bits H)) c) q = nth t.mask (runAt t.mask (SetTable.bits H % (t.mask + 1)) (SetTable.bits H)) (c + q) := fun c q => (nth_add t.mask c _ q).symm
  have sj : ∀ c q, (nth t.mask (nth t.mask (runAt t.mask (SetTable.bits H % (t.mask + 1)) (SetTable.bits H)) c) q).j = way t.mask H (c + q) := fun c q => congrArg SetTable.Probe.j (shift c q)
  intro fuel
  induction fuel with
  | zero => intro c st _ h1 h2 _; omega
  | succ fuel ih =>
    intro c st e0 h1 h2 left
    rw [setSearchFrom_succ]
    refine wpAny_bind (wpAny_setState_of obj dat fit ?_)
    dsimp only
    refine wp_if_neg gave ?_
    try refine wpAny_bind (wpAny_pure ?_)
    have hash : ∀ {i : Nat} {q : Addr × List Key}, L[i]? = some q → (es[i]?.map (·.1)).getD 0 = tsh P w q.2 := fun e => by rw [ate e]; rfl
    have go := go_spec t tab.ris tab.dm (fun i => (es[i]?.map (·.1)).getD 0) H (10 * SetTable.turns t.mask) (N - c) _ (prb_dum t.mask c (runAt t.mask (SetTable.bits H % (t.mask + 1)) (SetTable.bits H)) rfl) (by omega)
      (fun q hq => by rw [sj]; exact n3 _ (by omega)) (by rw [sj, show c + (N - c) = N by omega]; exact n2)
    rcases go with ⟨q, i, hq, hi, hh, before, pr⟩ | ⟨before, pr⟩
    · -- something of this hash
      have pr' : t.probe (fun i => (es[i]?.map (·.1)).getD 0) H (st.getD (t.probeStart H)) = some (.candidate (way t.mask H (c + q)) i (nth t.mask (runAt t.mask (SetTable.bits H % (t.mask + 1)) (SetTable.bits H)) (c + (q + 1)))) := by
        rw [e0, ← sj, ← shift]; exact pr
      rw [pr']
      dsimp only
      rw [sj] at hi
      have il : i < L.length := by
        have z := (List.getElem?_eq_some_iff.mp hi).1
        rw [Array.length_toList] at z
        omega
      obtain ⟨p, hp⟩ : ∃ p, L[i]? = some p := ⟨_, List.getElem?_eq_getElem il⟩
      have pm : p ∈ L := List.mem_of_getElem? hp
      have go2 : wpAny (model P w) A (searchRest S (.ref x) H true fuel es t (way t.mask H (c + q)) i (nth t.mask (runAt t.mask (SetTable.bits H % (t.mask + 1)) (SetTable.bits H)) (c + (q + 1)))) Q E s := by
        unfold searchRest
        rw [ate hp]
        dsimp only
        refine wpAny_bind (wpAny_holding (wpAny_eqBool_tuple hu (tps p pm) hx ?_))
        refine wpAny_bind (wpAny_setState_of obj dat fit ?_)
        dsimp only
        by_cases same : p.2 = k
        · exact wp_if_pos (by simp [same]) (wpAny_pure (yes (List.mem_map.mpr ⟨p, pm, same⟩)))
        · refine wp_if_neg (by simp [same]) ?_
          try refine wpAny_bind (wpAny_pure ?_)
          rw [sameMem]
          dsimp only
          have sl : t.slot (way t.mask H (c + q)) = .live i := slot_live tab.ris hi
          simp only [if_true, sl, ate hp]
          refine wpAny_bind (wpAny_isSame_ref_self (wpAny_bind (wpAny_pure ?_)))
          simp only [if_true]
          refine wp_if_neg (by simp [same]) ?_
          refine ih (c + (q + 1)) _ rfl (by omega) (by omega) fun j r hj hr => ?_
          obtain ⟨c', a1, a2, a3⟩ := left j r hj hr
          refine ⟨c', ?_, a2, a3⟩
          rcases Nat.lt_trichotomy c' (c + q) with z | z | z
          · refine absurd ((hash hj).trans ((congrArg (tsh P w) hr).trans eH)) (before (c' - c) j (by omega) ?_)
            rw [sj, show c + (c' - c) = c' by omega]
            exact a3
          · rw [z] at a3
            have s1 := slot_live tab.ris a3
            rw [sl] at s1
            injection s1 with s1
            rw [← s1, hp] at hj
            exact absurd ((congrArg Prod.snd (Option.some.inj hj)).trans hr) same
          · omega
      by_cases hl : t.led = true
      · refine wp_if_neg (by simp [hl]) ?_
        try refine wpAny_bind (wpAny_pure ?_)
        exact go2
      · refine wp_if_pos (by simp [hl]) (wpAny_bind (tx_seen hx (fun y hy => ?_) ?_))
        · obtain ⟨e, he, ee⟩ := List.mem_map.mp hy
          have he : e ∈ es.toList := by
            have z : e ∈ es ∧ e.1 = H := by simpa using he
            simpa using z.1
          rw [ent] at he
          obtain ⟨r, hr, er⟩ := List.mem_map.mp he
          exact ⟨r.2, r.1, by rw [← ee, ← er], tps r hr⟩
        · refine wp_if_neg (by decide) ?_
          try refine wpAny_bind (wpAny_pure ?_)
          exact go2
    · -- the empty slot
      have pr' : t.probe (fun i => (es[i]?.map (·.1)).getD 0) H (st.getD (t.probeStart H)) = some (.empty (way t.mask H N) none) := by
        have z := sj c (N - c)
        rw [show c + (N - c) = N by omega] at z
        rw [e0, ← z]; exact pr
      rw [pr']
      dsimp only
      refine wpAny_pure (no fun hm => ?_)
      obtain ⟨r, hr, er⟩ := List.mem_map.mp hm
      obtain ⟨j, hj⟩ := List.getElem?_of_mem hr
      obtain ⟨c', a1, a2, a3⟩ := left j r hj er
      refine before (c' - c) j (by omega) ?_ ((hash hj).trans ((congrArg (tsh P w) er).trans eH))
      rw [sj, show c + (c' - c) = c' by omega]
      exact a3
theorem tt_search (R : TtS P w s.heap S L T) {x : Addr} {k : List Key} (hx : Tx P w s.heap k x) (hu : A.units < cLine) {Q : SetFound → Shared → Prop} (yes : k ∈ L.map (·.2) → Q (.there none) s)
    (no : ∀ N, k ∉ L.map (·.2) → way T.2.2.mask (tsh P w k) N ∉ T.2.2.place.toList → (∀ c, c < N → way T.2.2.mask (tsh P w k) c ∈ T.2.2.place.toList) → Q (.free (way T.2.2.mask (tsh P w k) N) false) s) :
    wpAny (model P w) A (setSearch S (.ref x) (tsh P w k) true) Q E s := by
  have rm := R.rm
  obtain ⟨N, n1, n2, n3⟩ := R.tab.first (by rw [List.length_map]; omega) (tsh P w k)
  have nb : N < 100000 := by
    have z : SetTable.turns T.2.2.mask ≤ 142 := by
      rcases R.tab.mok with e | e | e <;> rw [e] <;> decide
    omega
  unfold setSearch
  refine tt_hunt R hx hu n1 n2 n3 yes (fun z => no N z n2 n3) 100000 0 none rfl (Nat.zero_le _) nb fun i q e eq => ?_
  have hi : (L.map fun q => tsh P w q.2)[i]? = some (tsh P w k) := by rw [List.getElem?_map, e, ← eq]; rfl
  have sz := R.tab.sz
  rw [List.length_map] at sz
  have il : i < T.2.2.place.toList.length := by
    have := (List.getElem?_eq_some_iff.mp e).1
    rw [Array.length_toList]; omega
  have hj := List.getElem?_eq_getElem il
  obtain ⟨c, c1, c2⟩ := R.tab.before n2 hi hj
  exact ⟨c, Nat.zero_le _, c1, by rw [hj, c2]⟩
theorem tEnt_cut (p : Nat) (y : Addr × List Key) : tEnt P w (L.take p ++ y :: L.drop p) = (tEnt P w L).take p ++ (tsh P w y.2, Value.ref y.1) :: (tEnt P w L).drop p := by
  simp [tEnt]
theorem tEnt_get (L : Mbs) (i : Nat) : (tEnt P w L)[i]? = (L[i]?).map fun q => (tsh P w q.2, Value.ref q.1) := by simp [tEnt]
theorem fm_map {α β : Type} (f : α → β) (g : Nat → Option α) : ∀ l : List Nat, l.filterMap (fun i => (g i).map f) = (l.filterMap g).map f
  | [] => rfl
  | i :: l => by
    rw [List.filterMap_cons, List.filterMap_cons, fm_map f g l]
    cases g i <;> rfl
theorem fm_range {α : Type} : ∀ l : List α, (List.range l.length).filterMap (fun i => l[i]?) = l
  | [] => rfl
  | x :: l => by
    rw [List.length_cons, List.range_succ_eq_map, List.filterMap_cons]
    have z : (List.map Nat.succ (List.range l.length)).filterMap (fun i => (x :: l)[i]?) = (List.range l.length).filterMap (fun i => l[i]?) := by
      rw [List.filterMap_map]
      rfl
    rw [z, fm_range l]
    rfl
/-- the table laid anew -/
theorem tt_relay (obj : s.heap.get? S = some (sObj "set" T)) (ent : T.1.toList = tEnt P w L) (sz : T.2.2.place.size = L.length) (dm : T.2.2.dummies = #[]) (ml : L.length ≤ T.2.2.mask) (dif : (L.map (·.2)).Nodup) (tps : ∀ q ∈ L, Tx P w s.heap q.2 q.1)
    (mk : w.params.followText "set-order" = true ∨ T.2.2.led = true) (few : L.length < 64) {n M : Nat} (nM : SetTable.sizeAbove n - 1 = M) (hM : MaskOk M) (n128 : SetTable.sizeAbove n ≤ 128) (hn : L.length * 5 < M * 3) {Q : Unit → Shared → Prop}
    (q : ∀ h' L' T', Heap.SameBut S s.heap h' → TtS P w h' S L' T' → L'.Perm L → Q () { s with heap := h' }) : wpAny (model P w) A (setRelay S n) Q E s := by
  obtain ⟨es, ep, t⟩ := T
  dsimp only at ent sz dm ml mk
  have dat : (sObj "set" (es, ep, t)).data = .set es ep t := rfl
  have num : es.size = L.length := by
    have e := congrArg List.length ent
    rw [Array.length_toList] at e
    rw [e]
    exact List.length_map _
  have fit : t.fits es.size = true := by
    unfold SetTable.fits SetTable.fill
    rw [dm, Bool.and_eq_true, beq_iff_eq, decide_eq_true_eq]
    refine ⟨sz.trans num.symm, ?_⟩
    rw [sz]
    exact ml
  obtain ⟨t', ord, e, pm, tb, em, el, ep', ed⟩ := relaid_ok t (hs := es.map (·.1)) (wanted := n) nM hM (by rw [Array.size_map]; omega)
  rw [Array.size_map, num] at pm
  obtain ⟨L', eL⟩ : ∃ L', L' = ord.toList.filterMap fun i => L[i]? := ⟨_, rfl⟩
  have pL : L'.Perm L := by
    have z := pm.filterMap fun i => L[i]?
    rw [fm_range] at z
    rw [eL]; exact z
  have ent' : (ord.filterMap (es[·]?)).toList = tEnt P w L' := by
    rw [Array.toList_filterMap, eL]
    have z : (fun i : Nat => es[i]?) = fun i : Nat => (L[i]?).map fun (q : Addr × List Key) => (tsh P w q.2, Value.ref q.1) := by
      funext i
      rw [← Array.getElem?_toList, ent, tEnt_get]
    rw [z, fm_map]
    rfl
  have hs' : (ord.toList.map fun i => (es.map (·.1)).getD i 0) = L'.map fun q => tsh P w q.2 := by
    have all : ∀ i ∈ ord.toList, i < L.length := fun i hi => List.mem_range.mp (pm.mem_iff.mp hi)
    rw [eL]
    clear pL ent' eL tb e pm
    generalize ord.toList = l at all ⊢
    induction l with
    | nil => rfl
    | cons i l ih =>
      have hi := all i List.mem_cons_self
      have g : L[i]? = some L[i] := List.getElem?_eq_getElem hi
      have g2 : es[i]? = some (tsh P w (L[i]).2, Value.ref (L[i]).1) := by rw [← Array.getElem?_toList, ent, tEnt_get, g]; rfl
      rw [List.map_cons, List.filterMap_cons_some g, List.map_cons, ih fun j hj => all j (List.mem_cons_of_mem _ hj)]
      congr 1
      simp [Array.getD_eq_getD_getElem?, g2]
  rw [hs'] at tb
  have num' : (ord.filterMap (es[·]?)).size = es.size := by
    have z := congrArg List.length ent'
    rw [Array.length_toList] at z
    rw [z, num, ← pL.length_eq]
    exact List.length_map _
  rw [setRelay_eq]
  refine wpAny_bind (wpAny_setState_of obj dat fit ?_)
  dsimp only
  refine wp_if_neg (by rw [sizeLine_eq]; omega) ?_
  try refine wpAny_bind (wpAny_pure ?_)
  rw [e]
  dsimp only
  refine wpAny_bind ?_
  refine wp_if_neg (by rw [num']; simp) ?_
  try refine wpAny_bind (wpAny_pure ?_)
  refine wpAny_pure ?_
  dsimp only
  refine wpAny_storeSet_of obj dat ?_ (by rw [num', num, sizeLine_eq]; omega)
  have sb : Heap.SameBut S s.heap (s.heap.update S (Obj.putSet (ord.filterMap (es[·]?)) t')) := Heap.SameBut.update ..
  refine q _ L' (ord.filterMap (es[·]?), ep + 1, t') sb ⟨store_at obj dat, ent', tb, (pL.map (·.2)).nodup_iff.mpr dif, fun r hr => tx_off (tps r (pL.mem_iff.mp hr)) obj sb, ?_, ?_, by rw [pL.length_eq]; exact few⟩ pL
  · show _ ∨ t'.led = true
    rw [el]; exact mk
  · show L'.length * 5 < t'.mask * 3
    rw [pL.length_eq, em]; exact hn
end
end FD
/-! sets of tuples of texts: one put in, made of a list or a tuple -/
namespace FD
open PySem PySem.Spec L2 PyProof.Rows PySem.W PySem.Froz
theorem grown5 : SetTable.sizeAbove (SetTable.grown 5) = 32 := by decide +kernel
theorem grown19 : SetTable.sizeAbove (SetTable.grown 19) = 128 := by decide +kernel
section
variable {P : Program} {w : World} {A : Around} {E : Value → Shared → Prop} {s : Shared} {S : Addr} {L : Mbs} {T : SD}
theorem tt_add (R : TtS P w s.heap S L T) {x : Addr} {k : List Key} (hx : Tx P w s.heap k x) (hu : A.units < cLine) (room : L.length + 1 < 64) {Q : Bool → Shared → Prop}
    (q : ∀ b h' L' T', Heap.SameBut S s.heap h' → TtS P w h' S L' T' → (k ∈ L.map (·.2) → L' = L) → (k ∉ L.map (·.2) → L'.Perm ((x, k) :: L)) → Q b { s with heap := h' }) :
    wpAny (model P w) A (setAddHashed S (.ref x) (tsh P w k)) Q E s := by
  unfold setAddHashed
  refine wpAny_holding ?_
  rw [show (100000 : Nat) = 99999 + 1 from rfl, setAddHashedIn_succ]
  have num := R.num
  have rm := R.rm
  refine wpAny_bind (wpAny_setState_of R.obj rfl R.fit ?_)
  dsimp only
  refine wp_if_neg (by simp [byScan, Value.scannable]) ?_
  try refine wpAny_bind (wpAny_pure ?_)
  refine wpAny_bind (tt_search R hx hu (fun hm => ?_) fun N hm n2 n3 => ?_)
  · dsimp only
    exact wpAny_pure (q false s.heap L T (Heap.SameBut.refl S s.heap) R (fun _ => rfl) fun z => absurd hm z)
  dsimp only
  refine wpAny_bind (wpAny_setState_of R.obj rfl R.fit ?_)
  dsimp only
  obtain ⟨p1, p2, tb, p4, p5, p6, p7, p8, p9⟩ := R.tab.put n2 n3
  have mk := R.mar
  have obj := R.obj
  have ent := R.ent
  have dif := R.dif
  have tps := R.tps
  have mok := R.tab.mok
  clear R
  obtain ⟨es, ep, t⟩ := T
  dsimp only at p1 p2 tb p4 p5 p6 p7 p8 p9 mk ent num rm mok n2 n3 ⊢
  have dat : (sObj "set" (es, ep, t)).data = .set es ep t := rfl
  generalize hP : t.put (way t.mask (tsh P w k) N) = PT at p1 tb p4 p5 p6 p7 p8 p9 ⊢
  obtain ⟨t1, at1⟩ := PT
  dsimp only at p1 tb p4 p5 p6 p7 p8 p9 ⊢
  subst p1
  suffices fin : ∀ t2 : SetTable, TabOk t2 ((L.map fun q => tsh P w q.2).take (SetTable.below t.place (way t.mask (tsh P w k) N)) ++ tsh P w k :: (L.map fun q => tsh P w q.2).drop (SetTable.below t.place (way t.mask (tsh P w k) N))) → t2.mask = t.mask → t2.led = t.led → t2.fill = (L.map fun q => tsh P w q.2).length + 1 →
      wpAny (model P w) A (do
        storeSet S (SetTable.insertAt es (SetTable.below t.place (way t.mask (tsh P w k) N)) (tsh P w k, Value.ref x)) t2
        if (!false && t2.tooFull) = true then setRelay S (SetTable.grown (es.size + 1))
        return true) Q E s by
    by_cases pl : t1.plain = true
    · first
        | (refine wpAny_bind ?_; refine wp_if_pos pl ?_; refine tx_byv hx fun c => ?_)
        | refine wp_if_pos pl (wpAny_bind (tx_byv hx fun c => ?_))
      cases c with
      | true => exact fin t1 tb p4 p5 p9
      | false => exact fin { t1 with plain := false } ⟨tb.ris, tb.dm, tb.sz, tb.mok, tb.bd, tb.reach⟩ p4 p5 p9
    · first
        | (refine wpAny_bind ?_; refine wp_if_neg pl ?_; refine wpAny_pure ?_)
        | refine wp_if_neg pl (wpAny_bind (wpAny_pure ?_))
      exact fin t1 tb p4 p5 p9
  clear tb p4 p5 p6 p7 p8 p9 hP t1
  intro t2 tb p4 p5 p9
  generalize eP : SetTable.below t.place (way t.mask (tsh P w k) N) = p at p2 tb ⊢
  have ent1 : (SetTable.insertAt es p (tsh P w k, Value.ref x)).toList = tEnt P w (L.take p ++ (x, k) :: L.drop p) := by
    rw [SetTable.toList_insertAt, tEnt_cut, ent]
  have pm := put_perm L p (x, k)
  have l1 : (L.take p ++ (x, k) :: L.drop p).length = L.length + 1 := pm.length_eq
  have hs1 : (L.map fun q => tsh P w q.2).take p ++ tsh P w k :: (L.map fun q => tsh P w q.2).drop p = (L.take p ++ (x, k) :: L.drop p).map fun q => tsh P w q.2 := by simp
  rw [hs1] at tb
  have dif1 : ((L.take p ++ (x, k) :: L.drop p).map (·.2)).Nodup := (pm.map (·.2)).nodup_iff.mpr (List.nodup_cons.mpr ⟨hm, dif⟩)
  generalize SetTable.insertAt es p (tsh P w k, Value.ref x) = es1 at ent1 ⊢
  generalize L.take p ++ (x, k) :: L.drop p = L1 at pm l1 tb dif1 ent1
  have num1 : es1.size = L.length + 1 := by
    have z := congrArg List.length ent1
    rw [Array.length_toList] at z
    rw [z, ← l1]
    exact List.length_map _
  refine wpAny_bind (wpAny_storeSet_of obj dat ?_ (by rw [num1, sizeLine_eq]; omega))
  have sb : Heap.SameBut S s.heap (s.heap.update S (Obj.putSet es1 t2)) := Heap.SameBut.update ..
  have obj1 : (s.heap.update S (Obj.putSet es1 t2)).get? S = some (sObj "set" (es1, ep + 1, t2)) := store_at obj dat
  generalize s.heap.update S (Obj.putSet es1 t2) = h1 at sb obj1 ⊢
  have tps1 : ∀ r ∈ L1, Tx P w h1 r.2 r.1 := fun r hr => by
    rcases List.mem_cons.mp (pm.mem_iff.mp hr) with e | hr
    · rw [e]; exact tx_off hx obj sb
    · exact tx_off (tps r hr) obj sb
  have mk1 : w.params.followText "set-order" = true ∨ t2.led = true := by rw [p5]; exact mk
  have fill : t2.tooFull = decide ((L.length + 1) * 5 ≥ t.mask * 3) := by
    unfold SetTable.tooFull
    rw [p9, p4, List.length_map]
  by_cases full : t2.tooFull = true
  · first
      | (refine wpAny_bind ?_; refine wp_if_pos (by simp [full]) ?_)
      | (refine wp_if_pos (by simp [full]) ?_; refine wpAny_bind ?_)
    have big : (L.length + 1) * 5 ≥ t.mask * 3 := by
      rw [fill] at full
      exact of_decide_eq_true full
    rw [num]
    have sz1 : t2.place.size = L1.length := by
      have z := tb.sz
      rw [List.length_map] at z
      exact z
    have go : ∀ M, SetTable.sizeAbove (SetTable.grown (L.length + 1)) = M + 1 → MaskOk M → M + 1 ≤ 128 → (L.length + 1) * 5 < M * 3 → L.length + 1 ≤ t.mask →
        wpAny (model P w) A (setRelay S (SetTable.grown (L.length + 1))) (fun _ s' => wpAny (model P w) A (pure true) Q E s') E { s with heap := h1 } := fun M g1 g2 g3 g4 g5 => by
      refine tt_relay (s := { s with heap := h1 }) (T := (es1, ep + 1, t2)) (L := L1) (M := M) obj1 ent1 sz1 tb.dm (by show L1.length ≤ t2.mask; rw [l1, p4]; exact g5) dif1 tps1 mk1 (by rw [l1]; exact room) (by rw [g1]; rfl) g2 (by rw [g1]; exact g3) (by rw [l1]; exact g4) ?_
      intro h2 L2 T2 sb2 R2 pm2
      exact wpAny_pure (q true h2 L2 T2 (sb.trans sb2) R2 (fun z => absurd z hm) fun _ => pm2.trans pm)
    rcases mok with e | e | e
    · have z : L.length = 4 := by rw [e] at big rm; omega
      exact go 31 (by rw [z, grown5]) (.inr (.inl rfl)) (by decide) (by omega) (by omega)
    · have z : L.length = 18 := by rw [e] at big rm; omega
      exact go 127 (by rw [z, grown19]) (.inr (.inr rfl)) (by decide) (by omega) (by omega)
    · exfalso; rw [e] at big; omega
  · first
      | refine wp_if_neg (by simp [full]) ?_
      | (refine wpAny_bind ?_; refine wp_if_neg (by simp [full]) ?_; refine wpAny_pure ?_)
    refine wpAny_pure (q true h1 L1 (es1, ep + 1, t2) sb ⟨obj1, ent1, tb, dif1, tps1, mk1, ?_, by rw [l1]; exact room⟩ (fun z => absurd z hm) fun _ => pm)
    rw [fill, decide_eq_true_eq] at full
    show L1.length * 5 < t2.mask * 3
    rw [l1, p4]
    omega
/-- what was put in of the first i -/
structure Ins (ks : Mbs) (i : Nat) (L : Mbs) : Prop where
  sub : ∀ q ∈ L, q ∈ ks.take i
  all : ∀ q ∈ ks.take i, q.2 ∈ L.map (·.2)
  len : L.length ≤ i
theorem Ins.next {ks L L' : Mbs} {i : Nat} {q : Addr × List Key} (g : Ins ks i L) (e : ks[i]? = some q) (h1 : q.2 ∈ L.map (·.2) → L' = L) (h2 : q.2 ∉ L.map (·.2) → L'.Perm (q :: L)) : Ins ks (i + 1) L' := by
  have e2 : ks.take (i + 1) = ks.take i ++ [q] := by rw [List.take_add_one, e]; rfl
  by_cases c : q.2 ∈ L.map (·.2)
  · rw [h1 c]
    refine ⟨fun r hr => ?_, fun r hr => ?_, Nat.le_succ_of_le g.len⟩
    · rw [e2]; exact List.mem_append_left _ (g.sub r hr)
    · rw [e2, List.mem_append, List.mem_singleton] at hr
      rcases hr with hr | hr
      · exact g.all r hr
      · rw [hr]; exact c
  · have pm := h2 c
    refine ⟨fun r hr => ?_, fun r hr => ?_, by rw [pm.length_eq]; exact Nat.succ_le_succ g.len⟩
    · rw [e2, List.mem_append, List.mem_singleton]
      exact (List.mem_cons.mp (pm.mem_iff.mp hr)).elim .inr fun z => .inl (g.sub r z)
    · rw [(pm.map (·.2)).mem_iff, List.map_cons, List.mem_cons]
      rw [e2, List.mem_append, List.mem_singleton] at hr
      exact hr.elim (fun z => .inr (g.all r z)) fun z => .inl (by rw [z])
/-- the loop that fills the set -/
theorem tt_fill {I : Addr} {fp wr : List Addr} {G : Array GenState → Array GenState → Prop} {n : Nat} {Pv : Nat → Value → Prop} {St : Nat → Shared → Prop} {R : Result → Shared → Prop}
    (W : WalksS P w A.in1 I fp wr G n Pv St) (S : Addr) (hSf : S ∉ fp) (ks : Mbs) (hn : n = ks.length) (hb : ks.length < 64) (hval : ∀ i v, Pv i v → ∃ q, ks[i]? = some q ∧ v = .ref q.1) (h0 : Heap)
    (tp : ∀ q ∈ ks, Tx P w h0 q.2 q.1) (S0 : h0.get? S = none) (w0 : ∀ b ∈ wr, h0.get? b = none) (hu : A.in1.units < cLine) :
    ∀ (k i : Nat) (sh : Shared), n - i = k → i ≤ n → St i sh → (∀ b o, h0.get? b = some o → sh.heap.get? b = some o) → (∃ L T, TtS P w sh.heap S L T ∧ Ins ks i L) →
      (∀ s' L T, Moved (S :: wr) G sh s' → TtS P w s'.heap S L T → Ins ks n L → (∀ b o, h0.get? b = some o → s'.heap.get? b = some o) → R (.ok (.ret .none)) s') →
      codeAny (model P w) A (.builtin "set.update.loop" ⟨[.ref S, .ref I], []⟩) R sh := by
  have nw : S ∉ wr := fun h => hSf (W.sub _ h)
  have up : ∀ b ∈ wr, b ∈ S :: wr := fun b hb => List.mem_cons_of_mem _ hb
  have old : ∀ {a b : Shared}, Moved wr G a b → (∀ c o, h0.get? c = some o → a.heap.get? c = some o) → ∀ c o, h0.get? c = some o → b.heap.get? c = some o := fun mv k c o e =>
    mv.heap c o (fun z => by rw [w0 c z] at e; cases e) (k c o e)
  have same : ∀ {a b : Shared} {L : Mbs} {T : SD} {i : Nat}, Moved wr G a b → (∀ c o, h0.get? c = some o → b.heap.get? c = some o) → TtS P w a.heap S L T → Ins ks i L → TtS P w b.heap S L T := fun mv k R g =>
    ⟨mv.heap S _ nw R.obj, R.ent, R.tab, R.dif, fun q hq => tx_keep (tp q (List.mem_of_mem_take (g.sub q hq))) k, R.mar, R.rm, R.few⟩
  intro k
  induction k with
  | zero =>
    intro i sh ek hi st0 kp ⟨L, T, hT, g⟩ hR
    obtain rfl : i = n := by omega
    refine codeAny_builtin F.entry_set_update_loop ?_
    rw [Around.under_plainId F.plain_set_update_loop _]
    show wpAny _ A.in1 (pyNext (.ref I) >>= _) _ _ sh
    refine wpAny_bind (W.done sh _ _ st0 fun s' mv => ?_)
    show wpAny _ A.in1 (ret Value.none) _ _ s'
    have kp' := old mv kp
    exact wpAny_pure (hR s' L T (mv.mono up) (same mv kp' hT g) g kp')
  | succ k ih =>
    intro i sh ek hi st0 kp ⟨L, T, hT, g⟩ hR
    have lt0 : i < n := by omega
    refine codeAny_builtin F.entry_set_update_loop ?_
    rw [Around.under_plainId F.plain_set_update_loop _]
    show wpAny _ A.in1 (pyNext (.ref I) >>= _) _ _ sh
    refine wpAny_bind (W.item i sh _ _ lt0 st0 fun v s1 pv st1 mv => ?_)
    obtain ⟨q, hq, rfl⟩ := hval i v pv
    have kp1 := old mv kp
    have hT1 := same mv kp1 hT g
    have hx : Tx P w s1.heap q.2 q.1 := tx_keep (tp q (List.mem_of_getElem? hq)) kp1
    show wpAny _ A.in1 (holding [Value.ref q.1] (setAdd S (.ref q.1)) >>= _) _ _ s1
    refine wpAny_bind (wpAny_holding ?_)
    unfold setAdd
    refine wpAny_holding ?_
    refine wpAny_bind (wpAny_pyHash_tuple hu hx ?_)
    have gl := g.len
    refine tt_add (s := { s1 with toks := s1.toks + (q.2.length + 1) }) hT1 hx hu (by omega) fun b g1 L1 T1 sb hT2 c1 c2 => ?_
    have kp2 : ∀ c o, h0.get? c = some o → g1.get? c = some o := fun c o e => (sb.2 c (fun z => by rw [z, S0] at e; cases e)).trans (kp1 c o e)
    refine wpAny_pure ⟨plainId_quiet F.plain_set_update_loop _, ih (i + 1) _ (by omega) lt0 (W.frame _ s1 _ _ st1 (Nat.le_add_right _ _) fun b hb o z => ?_) kp2 ⟨L1, T1, hT2, g.next hq c1 c2⟩ fun s2 L2 T2 mv2 hT3 g3 kp3 => ?_⟩
    · rw [sb.2 b (fun z : b = S => hSf (by rw [← z]; exact hb))]; exact z
    · refine hR s2 L2 T2 (Moved.trans W.gtrans ((mv.mono up).then_heap (Nat.le_add_right _ _) fun b o hb z => ?_) mv2) hT3 g3 kp3
      rw [sb.2 b (fun z : b = S => hb (by rw [z]; exact List.mem_cons_self))]; exact z
theorem tt_new {h : Heap} (g : h.get? S = some { cls := .type "set", dict := none, data := .set #[] 0 (.fresh 0 0 (!w.params.followText "set-order")) }) : TtS P w h S [] (#[], 0, .fresh 0 0 (!w.params.followText "set-order")) where
  obj := g
  ent := rfl
  tab := ⟨List.Pairwise.nil, rfl, rfl, .inl rfl, fun x hx => absurd hx (by simp [SetTable.fresh]), fun i h j e => by simp at e⟩
  dif := List.nodup_nil
  tps := fun q hq => absurd hq (by simp)
  mar := by
    cases z : w.params.followText "set-order"
    · exact .inr rfl
    · exact .inl rfl
  rm := by show 0 * 5 < 7 * 3; decide
  few := by decide
set_option maxHeartbeats 24000000 in
/-- set(xs), xs a list of tuples of texts -/
theorem call_setTl {l : Addr} {its : Array Value} (ks : Mbs) {Q : Value → Shared → Prop} (hh : A.handled = none) (hl : s.heap.IsList l its) (hit : its.toList = ks.map fun q => Value.ref q.1) (tp : ∀ q ∈ ks, Tx P w s.heap q.2 q.1) (hb : ks.length < 64) (hu : A.units + 3 < cLine)
    (q : ∀ (h' : Heap) (tk : Nat) L T, TtS P w h' s.heap.objs.size L T → Ins ks ks.length L → (∀ b o, s.heap.get? b = some o → h'.get? b = some o) → Q (.ref s.heap.objs.size) { s with heap := h', toks := tk }) :
    wpAny (model P w) A (call (.type "set") [.ref l]) Q E s := by
  have eN : its.size = ks.length := by
    have z := congrArg List.length hit
    rw [Array.length_toList, List.length_map] at z
    exact z
  have hval : ∀ (i : Nat) (v : Value), its[i]? = some v → ∃ q, ks[i]? = some q ∧ v = .ref q.1 := fun i v hv => by
    have z : its.toList[i]? = some v := by rw [Array.getElem?_toList]; exact hv
    rw [hit, List.getElem?_map] at z
    cases e : ks[i]? with
    | none => rw [e] at z; cases z
    | some r => rw [e] at z; exact ⟨r, rfl, (Option.some.inj z).symm⟩
  have no : ∀ b, s.heap.objs.size ≤ b → s.heap.get? b = none := fun b hb => by
    cases e : s.heap.get? b with
    | none => rfl
    | some o => exact absurd (Heap.lt_size e) (Nat.not_lt.mpr hb)
  obtain ⟨c, tl, hmro⟩ := F.called_set.mro
  have hmade := F.called_set.made
  have hsub := F.called_set.sub
  refine wpAny_call (codeAny_of_tree ?_)
  show wpAny _ _ (callAny (.type "set") _) _ _ _
  refine wpAny_pure ⟨Code.quiet_builtin _ (by decide +kernel), codeAny_builtin F.entry_type_call ?_⟩
  rw [Around.under_plain (weight_type_call_type "set" [.ref l] []) rfl]
  have h1 := F.called_set.notType
  have h2 := F.called_set.canCreate
  have hct := F.typeCall_set_1 (.ref l)
  repeat (any_goals (first | assumption | wp_step))
  generalize eS : ({ cls := .type "set", dict := none, data := .set #[] 0 (.fresh 0 0 (!w.params.followText "set-order")) } : Obj) = o0
  refine codeAny_mono (code_set_led1 (.ref l) (E := E) (Q₁ := fun obj t => obj = .ref s.heap.objs.size ∧ t = { s with heap := s.heap.push o0 }) ⟨rfl, by rw [eS]⟩) fun r t hr => ?_
  cases r with
  | error e => exact hr
  | ok fl =>
    cases fl with
    | ret obj =>
      obtain ⟨rfl, rfl⟩ := hr
      have hS : (s.heap.push o0).get? s.heap.objs.size = some o0 := Heap.get?_push_size _ (by rw [← eS]; rfl)
      have hT : Shared.TypeIs { s with heap := s.heap.push o0 } (.ref s.heap.objs.size) "set" := ⟨_, hS, by rw [← eS]⟩
      have hli := F.called_set.init.lookup
      have hbi := F.called_set.init.bind (.ref s.heap.objs.size)
      repeat (any_goals (first | assumption | wp_step))
      refine codeAny_mono (codeAny_call_builtin (R := wants (fun r s₂ => r = .none ∧ ∃ h' tk L T, s₂ = { s with heap := h', toks := tk } ∧ TtS P w h' s.heap.objs.size L T ∧ Ins ks ks.length L ∧
          (∀ b o, s.heap.get? b = some o → h'.get? b = some o)) E) F.called_set.init.plain F.entry_set_init (check_set_init_1 hT ?_)) fun r₂ s₂ hr₂ => ?_
      · obtain ⟨ol, hol, hcl, nl, hdl⟩ := hl
        obtain ⟨ocls, odict, odata, oslots⟩ := ol
        simp only at hcl hdl
        subst hcl; subst hdl
        have hol' : (s.heap.push o0).get? l = some { cls := .type "list", dict := odict, data := .seq its nl, slots := oslots } := Heap.get?_push_of_some _ hol
        have hsls := F.sub_list_set
        have hslf := F.sub_list_frozenset
        have hne : (Value.type "list" == Value.type "dict") = false := by decide
        have tl1 : (s.heap.push o0).IsList l its := ⟨_, hol', rfl, nl, rfl⟩
        subst eS
        unfold Builtin.«set.__init__» noKeywords Builtin.Frozenset.updateFrom
        generalize hPI : pyIter = PI
        wp_walk
        subst hPI
        refine wpAny_pyIter_list tl1 ?_
        refine wpAny_bind (wpAny_runValue ?_)
        have ltl : l < s.heap.objs.size := Heap.lt_size hol
        have hh3 : A.in1.in1.in1.handled = none := by simp [hh]
        have eP : ∀ o : Obj, (s.heap.push o).objs.size = s.heap.objs.size + 1 := fun o => Heap.size_push ..
        have neI : l ≠ (s.heap.push { cls := .type "set", dict := none, data := .set #[] 0 (.fresh 0 0 (!w.params.followText "set-order")) }).objs.size := by rw [eP]; exact Nat.ne_of_lt (Nat.lt_succ_of_lt ltl)
        have outS : s.heap.objs.size ∉ [(s.heap.push { cls := .type "set", dict := none, data := .set #[] 0 (.fresh 0 0 (!w.params.followText "set-order")) }).objs.size, l] := by
          rw [eP]; simp only [List.mem_cons, List.not_mem_nil, or_false, not_or]
          exact ⟨Nat.ne_of_lt (Nat.lt_succ_self _), Nat.ne_of_gt ltl⟩
        refine tt_fill ((Walks.list hh3 _ l neI its).toS) s.heap.objs.size outS ks eN hb hval s.heap tp (no _ (Nat.le_refl _)) (fun b hb => no b (by rw [List.mem_singleton.mp hb, eP]; exact Nat.le_succ _)) hu (its.size - 0) 0 _ (by omega) (Nat.zero_le _)
          ⟨⟨_, Heap.get?_push_size _ rfl, rfl, rfl⟩, (tl1.push _)⟩ (fun b o e => Heap.get?_push_of_some _ (Heap.get?_push_of_some _ e)) ?_ ?_
        · exact ⟨[], _, tt_new (Heap.get?_push_of_some _ hS), fun q hq => absurd hq (by simp), fun q hq => absurd hq (by simp), Nat.zero_le _⟩
        · intro s' L T mv hT' g' k'
          obtain ⟨h', gg, d', tk', os'⟩ := s'
          have eg : gg = s.gens := mv.gens
          have ed : d' = s.drawn := mv.drawn
          have eo : os' = s.os := mv.os
          subst eg; subst ed; subst eo
          show wpAny _ _ _ _ _ _
          refine wpAny_pure ?_
          show wpAny _ _ (ret Value.none) _ _ _
          rw [eN] at g'
          exact wpAny_pure ⟨rfl, h', tk', L, T, rfl, hT', g', k'⟩
      · cases r₂ with
        | error e => exact hr₂
        | ok fl₂ =>
          cases fl₂ with
          | ret r =>
            obtain ⟨rfl, h', tk, L, T, rfl, a1, a2, a3⟩ := hr₂
            repeat (any_goals (first | assumption | wp_step))
            exact q _ _ _ _ a1 a2 a3
          | _ => exact hr₂.elim
    | _ => exact hr.elim
set_option maxHeartbeats 24000000 in
/-- set(xs), xs a tuple of tuples of texts -/
theorem call_setTt {l : Addr} {its : Array Value} (ks : Mbs) {Q : Value → Shared → Prop} (hh : A.handled = none) (hl : s.heap.IsTuple l its) (hit : its.toList = ks.map fun q => Value.ref q.1) (tp : ∀ q ∈ ks, Tx P w s.heap q.2 q.1) (hb : ks.length < 64) (hu : A.units + 3 < cLine)
    (q : ∀ (h' : Heap) (tk : Nat) L T, TtS P w h' s.heap.objs.size L T → Ins ks ks.length L → (∀ b o, s.heap.get? b = some o → h'.get? b = some o) → Q (.ref s.heap.objs.size) { s with heap := h', toks := tk }) :
    wpAny (model P w) A (call (.type "set") [.ref l]) Q E s := by
  have eN : its.size = ks.length := by
    have z := congrArg List.length hit
    rw [Array.length_toList, List.length_map] at z
    exact z
  have hval : ∀ (i : Nat) (v : Value), its[i]? = some v → ∃ q, ks[i]? = some q ∧ v = .ref q.1 := fun i v hv => by
    have z : its.toList[i]? = some v := by rw [Array.getElem?_toList]; exact hv
    rw [hit, List.getElem?_map] at z
    cases e : ks[i]? with
    | none => rw [e] at z; cases z
    | some r => rw [e] at z; exact ⟨r, rfl, (Option.some.inj z).symm⟩
  have no : ∀ b, s.heap.objs.size ≤ b → s.heap.get? b = none := fun b hb => by
    cases e : s.heap.get? b with
    | none => rfl
    | some o => exact absurd (Heap.lt_size e) (Nat.not_lt.mpr hb)
  obtain ⟨c, tl, hmro⟩ := F.called_set.mro
  have hmade := F.called_set.made
  have hsub := F.called_set.sub
  refine wpAny_call (codeAny_of_tree ?_)
  show wpAny _ _ (callAny (.type "set") _) _ _ _
  refine wpAny_pure ⟨Code.quiet_builtin _ (by decide +kernel), codeAny_builtin F.entry_type_call ?_⟩
  rw [Around.under_plain (weight_type_call_type "set" [.ref l] []) rfl]
  have h1 := F.called_set.notType
  have h2 := F.called_set.canCreate
  have hct := F.typeCall_set_1 (.ref l)
  repeat (any_goals (first | assumption | wp_step))
  generalize eS : ({ cls := .type "set", dict := none, data := .set #[] 0 (.fresh 0 0 (!w.params.followText "set-order")) } : Obj) = o0
  refine codeAny_mono (code_set_led1 (.ref l) (E := E) (Q₁ := fun obj t => obj = .ref s.heap.objs.size ∧ t = { s with heap := s.heap.push o0 }) ⟨rfl, by rw [eS]⟩) fun r t hr => ?_
  cases r with
  | error e => exact hr
  | ok fl =>
    cases fl with
    | ret obj =>
      obtain ⟨rfl, rfl⟩ := hr
      have hS : (s.heap.push o0).get? s.heap.objs.size = some o0 := Heap.get?_push_size _ (by rw [← eS]; rfl)
      have hT : Shared.TypeIs { s with heap := s.heap.push o0 } (.ref s.heap.objs.size) "set" := ⟨_, hS, by rw [← eS]⟩
      have hli := F.called_set.init.lookup
      have hbi := F.called_set.init.bind (.ref s.heap.objs.size)
      repeat (any_goals (first | assumption | wp_step))
      refine codeAny_mono (codeAny_call_builtin (R := wants (fun r s₂ => r = .none ∧ ∃ h' tk L T, s₂ = { s with heap := h', toks := tk } ∧ TtS P w h' s.heap.objs.size L T ∧ Ins ks ks.length L ∧
          (∀ b o, s.heap.get? b = some o → h'.get? b = some o)) E) F.called_set.init.plain F.entry_set_init (check_set_init_1 hT ?_)) fun r₂ s₂ hr₂ => ?_
      · obtain ⟨ol, hol, hcl, nl, hdl⟩ := hl
        obtain ⟨ocls, odict, odata, oslots⟩ := ol
        simp only at hcl hdl
        subst hcl; subst hdl
        have hol' : (s.heap.push o0).get? l = some { cls := .type "tuple", dict := odict, data := .seq its nl, slots := oslots } := Heap.get?_push_of_some _ hol
        have hsls := F.sub_tuple_set
        have hslf := F.sub_tuple_frozenset
        have hne : (Value.type "tuple" == Value.type "dict") = false := by decide
        have tl1 : (s.heap.push o0).IsTuple l its := ⟨_, hol', rfl, nl, rfl⟩
        subst eS
        unfold Builtin.«set.__init__» noKeywords Builtin.Frozenset.updateFrom
        generalize hPI : pyIter = PI
        wp_walk
        subst hPI
        refine wpAny_pyIter_tuple tl1 ?_
        refine wpAny_bind (wpAny_runValue ?_)
        have ltl : l < s.heap.objs.size := Heap.lt_size hol
        have hh3 : A.in1.in1.in1.handled = none := by simp [hh]
        have eP : ∀ o : Obj, (s.heap.push o).objs.size = s.heap.objs.size + 1 := fun o => Heap.size_push ..
        have neI : l ≠ (s.heap.push { cls := .type "set", dict := none, data := .set #[] 0 (.fresh 0 0 (!w.params.followText "set-order")) }).objs.size := by rw [eP]; exact Nat.ne_of_lt (Nat.lt_succ_of_lt ltl)
        have outS : s.heap.objs.size ∉ [(s.heap.push { cls := .type "set", dict := none, data := .set #[] 0 (.fresh 0 0 (!w.params.followText "set-order")) }).objs.size, l] := by
          rw [eP]; simp only [List.mem_cons, List.not_mem_nil, or_false, not_or]
          exact ⟨Nat.ne_of_lt (Nat.lt_succ_self _), Nat.ne_of_gt ltl⟩
        refine tt_fill ((Walks.tuple hh3 _ l neI its).toS) s.heap.objs.size outS ks eN hb hval s.heap tp (no _ (Nat.le_refl _)) (fun b hb => no b (by rw [List.mem_singleton.mp hb, eP]; exact Nat.le_succ _)) hu (its.size - 0) 0 _ (by omega) (Nat.zero_le _)
          ⟨⟨_, Heap.get?_push_size _ rfl, rfl, rfl⟩, (tl1.push _)⟩ (fun b o e => Heap.get?_push_of_some _ (Heap.get?_push_of_some _ e)) ?_ ?_
        · exact ⟨[], _, tt_new (Heap.get?_push_of_some _ hS), fun q hq => absurd hq (by simp), fun q hq => absurd hq (by simp), Nat.zero_le _⟩
        · intro s' L T mv hT' g' k'
          obtain ⟨h', gg, d', tk', os'⟩ := s'
          have eg : gg = s.gens := mv.gens
          have ed : d' = s.drawn := mv.drawn
          have eo : os' = s.os := mv.os
          subst eg; subst ed; subst eo
          show wpAny _ _ _ _ _ _
          refine wpAny_pure ?_
          show wpAny _ _ (ret Value.none) _ _ _
          rw [eN] at g'
          exact wpAny_pure ⟨rfl, h', tk', L, T, rfl, hT', g', k'⟩
      · cases r₂ with
        | error e => exact hr₂
        | ok fl₂ =>
          cases fl₂ with
          | ret r =>
            obtain ⟨rfl, h', tk, L, T, rfl, a1, a2, a3⟩ := hr₂
            repeat (any_goals (first | assumption | wp_step))
            exact q _ _ _ _ a1 a2 a3
          | _ => exact hr₂.elim
    | _ => exact hr.elim
end
end FD
/-! tuples of ints and texts sorted; sets of them -/
namespace FD
open PySem PySem.Spec L2 PyProof.Rows PySem.W PySem.Froz
def kyD : Key → PyData
  | .inl i => .int i
  | .inr x => .str x
/-- a tuple of ints and texts as data -/
def rowK (k : List Key) : PyData := .tuple (k.map kyD)
theorem reads_keys {h : Heap} {P : Program} {w : World} : ∀ {k : List Key} {vs : List Value}, ItemsAre (mixKind P w) k vs → PySem.ReadsAll h vs (k.map kyD) []
  | [], _, .nil => .nil
  | z :: k, _, .cons (v := v) q t => by
    have q : keyIs z v = true := q
    rcases keyIs_shape q with ⟨i, u, rfl, rfl⟩ | ⟨x, u, rfl, rfl⟩
    · exact .cons (as := []) (bs := []) (.int i u) (reads_keys t)
    · exact .cons (as := []) (bs := []) (.str x u) (reads_keys t)
theorem tx_reads {h : Heap} {P : Program} {w : World} {k : List Key} {b : Addr} (x : Tx P w h k b) : PySem.Reads h (.ref b) (rowK k) [] := by
  obtain ⟨u, its, m, g, c, dt, is⟩ := x
  exact .tuple g c dt (reads_keys is)
def isI : Key → Bool
  | .inl _ => true
  | .inr _ => false
theorem alike_keys : ∀ k l : List Key, k.map isI = l.map isI → alikeAll (k.map kyD) (l.map kyD) = true
  | [], [], _ => by simp [alikeAll]
  | [], _ :: _, _ => by simp [alikeAll]
  | _ :: _, [], _ => by simp [alikeAll]
  | x :: k, y :: l, h => by
    rw [List.map_cons, List.map_cons] at h
    have := alike_keys k l (List.cons.inj h).2
    have e := (List.cons.inj h).1
    cases x <;> cases y
    · simp [alikeAll, alike, kyD, this]
    · exact absurd e (by simp [isI])
    · exact absurd e (by simp [isI])
    · simp [alikeAll, alike, kyD, this]
theorem alike_rows {k l : List Key} (h : k.map isI = l.map isI) : alike (rowK k) (rowK l) = true := by
  have := alike_keys k l h
  simpa [rowK, alike] using this
theorem depth_keys : ∀ k : List Key, PyData.depthAll (k.map kyD) = 0
  | [] => by simp [PyData.depthAll]
  | x :: k => by cases x <;> simp [PyData.depthAll, PyData.depth, kyD, depth_keys k]
theorem depth_row (k : List Key) : (rowK k).depth = 1 := by
  simp [rowK, PyData.depth, depth_keys]
/-- the order of such tuples -/
def leK (k l : List Key) : Bool := dataLe false rowK k l
def refsOf (L : Mbs) : List Value := L.map fun q => Value.ref q.1
/-- of one shape, none empty -/
def OneShape (l : List (List Key)) : Prop := ∃ sh : List Bool, sh ≠ [] ∧ ∀ k ∈ l, k.map isI = sh
section
variable {P : Program} {w : World} {A : Around} {E : Value → Shared → Prop} {s : Shared}
theorem rows_each {h : Heap} : ∀ {L : Mbs}, (∀ q ∈ L, Tx P w h q.2 q.1) → EachIs (fun v d => ∃ as, PySem.Reads h v d as) (refsOf L) (L.map fun q => rowK q.2)
  | [], _ => .nil
  | q :: L, t => .cons ⟨[], tx_reads (t q List.mem_cons_self)⟩ (rows_each fun r hr => t r (List.mem_cons_of_mem _ hr))
theorem rows_each2 {h : Heap} : ∀ {L : Mbs}, (∀ q ∈ L, Tx P w h q.2 q.1) → EachIs (fun v (q : Addr × List Key) => ∃ as, PySem.Reads h v (rowK q.2) as) (refsOf L) L
  | [], _ => .nil
  | q :: L, t => .cons ⟨[], tx_reads (t q List.mem_cons_self)⟩ (rows_each2 fun r hr => t r (List.mem_cons_of_mem _ hr))
theorem refs_each : ∀ L : Mbs, EachIs (fun v (q : Addr × List Key) => v = Value.ref q.1) (refsOf L) L
  | [] => .nil
  | _ :: L => .cons rfl (refs_each L)
theorem each_refs : ∀ {L : Mbs} {vs : List Value}, EachIs (fun v (q : Addr × List Key) => v = Value.ref q.1) vs L → vs = refsOf L
  | [], _, .nil => rfl
  | q :: L, _, .cons h t => by rw [each_refs t, h]; rfl
theorem rows_alike {L : Mbs} (h : OneShape (L.map (·.2))) : AllAlike (L.map fun q => rowK q.2) := fun d hd d' hd' => by
  obtain ⟨q, hq, rfl⟩ := List.mem_map.mp hd
  obtain ⟨r, hr, rfl⟩ := List.mem_map.mp hd'
  obtain ⟨sh, _, h⟩ := h
  exact alike_rows ((h _ (List.mem_map_of_mem hq)).trans (h _ (List.mem_map_of_mem hr)).symm)
theorem shape_ne {l : List (List Key)} (h : OneShape l) {k : List Key} (hk : k ∈ l) : ∃ a b, k = a :: b := by
  obtain ⟨sh, ne, h⟩ := h
  cases k with
  | nil => exact absurd (h _ hk).symm ne
  | cons a b => exact ⟨a, b, rfl⟩
theorem shape_sub {l m : List (List Key)} (h : OneShape l) (s : ∀ k ∈ m, k ∈ l) : OneShape m := let ⟨sh, ne, h⟩ := h; ⟨sh, ne, fun k hk => h k (s k hk)⟩
theorem rows_sort {L : Mbs} (hs : OneShape (L.map (·.2))) (t : ∀ q ∈ L, Tx P w s.heap q.2 q.1) (hu : A.units + 1 < cLine) : SortsAt P w A s (dataKind s.heap (L.map fun q => rowK q.2)) (refsOf L) := by
  refine SortsAt.data (rows_each t) (rows_alike hs) (.inl fun d hd => ?_) fun d hd => ?_
  · obtain ⟨q, hq, rfl⟩ := List.mem_map.mp hd
    obtain ⟨a, b, z⟩ := shape_ne hs (List.mem_map_of_mem (f := (·.2)) hq)
    exact ⟨kyD a, b.map kyD, by simp [rowK, z]⟩
  · obtain ⟨q, hq, rfl⟩ := List.mem_map.mp hd
    rw [depth_row]; exact hu
theorem sorted_setTt {a : Addr} {L : Mbs} {T : SD} {Q : Value → Shared → Prop} (R : TtS P w s.heap a L T) (hs : OneShape (L.map (·.2))) (hh : A.handled = none) (hu : A.units + 3 < cLine)
    (hQ : ∀ s' p (out : Array Value) (c : Nat) (L' : Mbs), (∀ b o, s.heap.get? b = some o → s'.heap.get? b = some o) → s'.gens = s.gens → s'.os = s.os → s.heap.objs.size ≤ p →
      s'.heap.get? p = some (seqObj "list" out c) → out.toList = refsOf L' → L'.Perm L → L'.Pairwise (fun q r => leK q.2 r.2 = true) → Q (.ref p) s') :
    wpAny (model P w) A (call (.builtin "sorted") [.ref a]) Q E s := by
  have num := R.num
  have few := R.few
  refine Calls.call_function_entry kind_sorted plain_sorted entry_sorted (args_sorted1 _) ?_
  unfold Builtin.«sorted»
  refine wpAny_bind (m := checkCount "sorted" 1 1 _) (wpAny_pure ?_)
  refine wpAny_bind (collect_set (A := A.in1) hh ⟨_, R.obj, rfl, rfl⟩ R.fit (by unfold scanBound; omega) R.tab.ris R.mar fun s1 vs k1 hz g1 o1 pm => ?_)
  have he : T.1.toList.map (·.2) = refsOf L := by
    rw [R.ent]
    simp [tEnt, refsOf]
  rw [he] at pm
  have ord : ∀ l : List Value, (∀ v ∈ l, v ∈ refsOf L) → ∃ L1 : Mbs, l = refsOf L1 ∧ ∀ q ∈ L1, q ∈ L := by
    intro l
    induction l with
    | nil => exact fun _ => ⟨[], rfl, fun q hq => absurd hq (by simp)⟩
    | cons v l ih =>
      intro hv
      obtain ⟨q, hq, e⟩ := List.mem_map.mp (hv v List.mem_cons_self)
      obtain ⟨L1, e1, h1⟩ := ih fun u hu => hv u (List.mem_cons_of_mem _ hu)
      exact ⟨q :: L1, by rw [e1, ← e]; rfl, fun r hr => (List.mem_cons.mp hr).elim (fun z => by rw [z]; exact hq) (h1 r)⟩
  have one : ∀ q ∈ L, ∀ r ∈ L, q.1 = r.1 → q = r := fun q hq r hr e => by
    have a1 := R.tps q hq
    rw [e] at a1
    exact Prod.ext e (a1.inj (R.tps r hr))
  have back : ∀ L1 : Mbs, (∀ q ∈ L1, q ∈ L) → (refsOf L1).Perm (refsOf L) → L1.Perm L := fun L1 h1 p1 => by
    have nL : L.Nodup := List.Pairwise.of_map (·.2) (fun _ _ ne e => ne (congrArg _ e)) R.dif
    have nr : (refsOf L).Nodup := List.pairwise_map.mpr (List.Pairwise.imp_of_mem (fun {q r} hq hr ne e => ne (one q hq r hr (by injection e))) nL)
    have n1 : L1.Nodup := List.Pairwise.of_map _ (fun _ _ ne e => ne (congrArg (fun q : Addr × List Key => Value.ref q.1) e)) (p1.nodup_iff.mpr nr)
    refine (List.perm_ext_iff_of_nodup n1 nL).mpr fun q => ⟨h1 q, fun hq => ?_⟩
    obtain ⟨r, hr, e⟩ := List.mem_map.mp (p1.mem_iff.mpr (List.mem_map.mpr ⟨q, hq, rfl⟩))
    injection e with e
    rw [← one r (h1 r hr) q hq e]
    exact hr
  obtain ⟨L1, e1, sub1⟩ := ord vs fun v hv => pm.mem_iff.mp hv
  have p1 : L1.Perm L := back L1 sub1 (by rw [← e1]; exact pm)
  have hvl : vs.length < 64 := by rw [pm.length_eq]; unfold refsOf; rw [List.length_map]; exact few
  refine wpAny_bind (wpAny_newList ?_ (by rw [sizeLine_eq]; omega))
  have hoL : (s1.heap.push (seqObj "list" vs.toArray 0)).get? s1.heap.objs.size = some (seqObj "list" vs.toArray 0) := Heap.get?_push_size _ rfl
  have nt : ∀ q ∈ L, ∀ h2 : Heap, Tx P w h2 q.2 q.1 → True := fun _ _ _ _ => trivial
  refine wpAny_bind (wpAny_holding (wpAny_call_entry slot_list_sort ⟨_, hoL, rfl⟩ entry_list_sort (list_sort_vals (s := { s1 with heap := s1.heap.push (seqObj "list" vs.toArray 0) }) (κ := dataKind (sortingHeap (s1.heap.push (seqObj "list" vs.toArray 0)) s1.heap.objs.size vs) (L1.map fun q => rowK q.2)) hoL ?_ (by rw [sizeLine_eq]; omega) ?_) (args_list_sort _)))
  · rw [e1]
    refine rows_sort (shape_sub hs fun k hk => by obtain ⟨q, hq, rfl⟩ := List.mem_map.mp hk; exact List.mem_map_of_mem (sub1 q hq)) (s := { s1 with heap := sortingHeap (s1.heap.push (seqObj "list" (refsOf L1).toArray 0)) s1.heap.objs.size (refsOf L1) }) (fun q hq => ?_) (by show A.units + 1 + 1 + 1 < cLine; omega)
    refine tx_keep (tx_keep (R.tps q (sub1 q hq)) k1) fun c u e => ?_
    exact sortingHeap_old (Nat.ne_of_lt (Heap.lt_size e)) (Heap.get?_push_of_some _ e)
  · refine ⟨_, rfl, ?_⟩
    generalize hO : sortVals (dataKind (sortingHeap (s1.heap.push (seqObj "list" vs.toArray 0)) s1.heap.objs.size vs) (L1.map fun q => rowK q.2)) false vs vs = out
    have po : out.Perm vs := by
      rw [← hO]
      unfold sortVals
      have z := (List.mergeSort_perm (vs.zip vs) (sortLe (dataKind (sortingHeap (s1.heap.push (seqObj "list" vs.toArray 0)) s1.heap.objs.size vs) (L1.map fun q => rowK q.2)).toKeyOrd false fun p : Keyed => keyD (dataKind (sortingHeap (s1.heap.push (seqObj "list" vs.toArray 0)) s1.heap.objs.size vs) (L1.map fun q => rowK q.2)) p.1)).map Prod.snd
      rw [List.map_snd_zip (Nat.le_refl _)] at z
      exact z
    have tL1 : ∀ q ∈ L1, Tx P w (sortingHeap (s1.heap.push (seqObj "list" vs.toArray 0)) s1.heap.objs.size vs) q.2 q.1 := fun q hq => by
      refine tx_keep (tx_keep (R.tps q (sub1 q hq)) k1) fun c u e => ?_
      exact sortingHeap_old (Nat.ne_of_lt (Heap.lt_size e)) (Heap.get?_push_of_some _ e)
    have eo : EachIs (fun v (q : Addr × List Key) => v = Value.ref q.1) out (L1.mergeSort (dataLe false fun q : Addr × List Key => rowK q.2)) := by
      rw [← hO]
      have z1 : EachIs (fun v (q : Addr × List Key) => v = Value.ref q.1) vs L1 := by rw [e1]; exact refs_each L1
      have z2 : EachIs (fun v (q : Addr × List Key) => ∃ as, PySem.Reads (sortingHeap (s1.heap.push (seqObj "list" vs.toArray 0)) s1.heap.objs.size vs) v (rowK q.2) as) vs L1 := by
        have z := rows_each2 tL1
        rw [← e1] at z
        exact z
      exact sortVals_data false z1 z2 (rows_alike (shape_sub hs fun k hk => by obtain ⟨q, hq, rfl⟩ := List.mem_map.mp hk; exact List.mem_map_of_mem (sub1 q hq)))
    have e2 := each_refs eo
    have p2 : (L1.mergeSort (dataLe false fun q : Addr × List Key => rowK q.2)).Perm L := (List.mergeSort_perm _ _).trans p1
    have w2 : (L1.mergeSort (dataLe false fun q : Addr × List Key => rowK q.2)).Pairwise (fun q r => leK q.2 r.2 = true) := by
      have tot := sortLe_total (listOrd itemOrd) false (fun q : Addr × List Key => keyToks (rowK q.2))
      exact List.pairwise_mergeSort (fun a b c => tot.trans a b c) (fun a b => by rw [Bool.or_eq_true]; exact tot.total a b) L1
    generalize L1.mergeSort (dataLe false fun q : Addr × List Key => rowK q.2) = L2 at e2 p2 w2
    obtain ⟨c, hc⟩ := sortedHeap_at (vs := vs) (out := out.toArray) hoL
    refine wpAny_pure ⟨_, rfl, hQ _ s1.heap.objs.size out.toArray c L2 (fun b u e => ?_) g1 o1 hz hc (by simpa using e2) p2 w2⟩
    have q := k1 b u e
    have hlt := Heap.lt_size q
    show (sortedHeap (s1.heap.push (seqObj "list" vs.toArray 0)) s1.heap.objs.size vs out.toArray).get? b = some u
    rw [sortedHeap_old (Nat.ne_of_lt hlt) (by rw [size_push']; exact Nat.lt_succ_of_lt hlt)]
    exact Heap.get?_push_of_some _ q
end
/-! ### the rules -/
def tSTt (K : PySem.W.Frag) (ta : TE) : TE := fun σ H Q => ta σ H fun x H1 => ∃ (l : Addr) (ks : Mbs), x = .ref l ∧ (SqL K H1 l (ks.map fun q => V.ref q.1) ∨ SqT K H1 l (ks.map fun q => V.ref q.1)) ∧ (∀ q ∈ ks, SqT K H1 q.1 (q.2.map kV)) ∧ OneShape (ks.map (·.2)) ∧ ks.length < 64 ∧
  ∀ (p : Addr) (L : Mbs), (∀ q ∈ L, q ∈ ks) → (∀ q ∈ ks, q.2 ∈ L.map (·.2)) → (L.map (·.2)).Nodup → (L.map (·.2)).Pairwise (fun k l => leK k l = true) → H1 p = none → Q (.ref p) (upd H1 p (.lst (L.map fun q => V.ref q.1)))
section
variable {X : Cx}
theorem vals_refs : ∀ L : Mbs, Vals (L.map fun q => V.ref q.1) (refsOf L)
  | [] => .nil
  | _ :: L => .cons rfl (vals_refs L)
theorem refs_vals : ∀ {L : Mbs} {us : List Value}, Vals (L.map fun q => V.ref q.1) us → us = refsOf L
  | [], _, .nil => rfl
  | q :: L, _, .cons r t => by
    cases r
    rw [refs_vals t]
    rfl
theorem inv_tx {pins : List (Addr × Obj)} {σ : L2.St} {H : Hp} {s : Shared} (I : Inv X pins σ H s) {b : Addr} {k : List Key} (h : SqT X.K H b (k.map kV)) : Tx X.prog X.w s.heap k b := by
  obtain ⟨its, r, ⟨o, ho, hc, n, hd⟩, _⟩ := I.tuple h
  exact ⟨o, its.toArray, n, ho, hc, hd, by simpa using items_are r⟩
theorem pe_STt {a : Expr} {ta : TE} {p p2 q pos : Pos} (hc : X.calm = true) (hu : X.A.units + 64 < cLine) (hg : Gl X "sorted") (hm : X.mg "sorted" = none) (hg2 : Gl X "set") (hm2 : X.mg "set" = none) (ha : PE X a ta)
    (na : starEach [a] X.env = (false, eval a X.env) :: starEach [] X.env := by rfl) : PE X (.Call (.Name "sorted" p) [.Call (.Name "set" p2) [a] [] q] [] pos) (tSTt X.K ta) := by
  refine ⟨fun pins s σ H Q I h => ?_⟩
  refine Call_ (ld_blt I hg hm (show _ = some (.builtin "sorted") by decide +kernel) ?_)
  refine PyProof.Rows.callWith_builtin1 (PyProof.Rows.args_cons ?_ rfl) rfl rfl
  refine Call_ (ld_blt I hg2 hm2 boot_set ?_)
  refine PyProof.Rows.callWith_type1 (PyProof.Rows.args_cons (thn (ha.run pins s σ H _ I h) fun v s1 ⟨x, H1, I1, r1, q1⟩ => PyProof.Rows.args_nil ?_) na) na rfl
  obtain ⟨l, ks, rfl, hq, hk, hsh, hf, q1⟩ := q1
  cases r1
  have tp : ∀ r ∈ ks, Tx X.prog X.w s1.heap r.2 r.1 := fun r hr => inv_tx I1 (hk r hr)
  have fin : ∀ (h' : Heap) (tk : Nat) (L : Mbs) (T : SD), TtS X.prog X.w h' s1.heap.objs.size L T → Ins ks ks.length L → (∀ b o, s1.heap.get? b = some o → h'.get? b = some o) →
      wpAny (model X.prog X.w) X.A (call (.builtin "sorted") [.ref s1.heap.objs.size]) (EP X pins σ Q) X.xe { s1 with heap := h', toks := tk } := fun h' tk L T R g k => by
    have I2 : Inv X pins σ H1 { s1 with heap := h', toks := tk } := I1.kept fun b o e => k b o e
    refine sorted_setTt (s := { s1 with heap := h', toks := tk }) R (shape_sub hsh fun k hk => by obtain ⟨q, hq, rfl⟩ := List.mem_map.mp hk; exact List.mem_map_of_mem (List.mem_of_mem_take (g.sub q hq))) (I2.ok.hd hc) (by omega) fun s2 p2 out c L' k2 g2 o2 hp hob hout pm pw => ?_
    have hlen : (L'.map fun q => V.ref q.1).length ≤ sizeLine := by rw [List.length_map, sizeLine_eq, pm.length_eq]; have := R.few; omega
    have hn : H1 p2 = none := I2.hok.fresh hp
    have J : Inv X pins σ (upd H1 p2 (.lst (L'.map fun q => V.ref q.1))) { ({ s1 with heap := h', toks := tk } : Shared) with heap := s2.heap, gens := s2.gens, drawn := s2.drawn, toks := s2.toks } :=
      I2.call (ch := []) (Un.laid k2 hp hn) (I2.hok.laid k2 hp ⟨hlen, out.toList, c, by rw [hout]; exact vals_refs L', hob⟩) (by rw [g2]; exact I2.bare) (fun _ z => nomatch z)
    have e : s2 = { s1 with heap := s2.heap, gens := s2.gens, drawn := s2.drawn, toks := s2.toks } := by
      obtain ⟨x1, x2, x3, x4, x5⟩ := s2
      have o2 : x5 = s1.os := o2
      subst o2
      rfl
    rw [e]
    refine ⟨.ref p2, _, J, rfl, q1 p2 L' (fun r hr => ?_) (fun r hr => ?_) ((pm.map (·.2)).nodup_iff.mpr R.dif) (List.pairwise_map.mpr pw) hn⟩
    · exact List.mem_of_mem_take (g.sub r (pm.mem_iff.mp hr))
    · rw [(pm.map (·.2)).mem_iff]
      exact g.all r (by rw [List.take_length]; exact hr)
  rcases hq with hq | hq
  · obtain ⟨its, r, pl, hz⟩ := I1.list hq
    refine call_setTl ks (I1.ok.hd hc) pl.isList (by show its = refsOf ks; exact refs_vals r) tp hf (by omega) fun h' tk L T R g k => ?_
    exact PyProof.Rows.args_nil (fin h' tk L T R g k)
  · obtain ⟨its, r, pl, hz⟩ := I1.tuple hq
    refine call_setTt ks (I1.ok.hd hc) pl (by show its = refsOf ks; exact refs_vals r) tp hf (by omega) fun h' tk L T R g k => ?_
    exact PyProof.Rows.args_nil (fin h' tk L T R g k)
end
end FD
/-! len(set(rows)), sorted(set(ints)), sorted(set(rows)) -/
namespace FD
open PySem PySem.Spec L2 PyProof.Rows PySem.W PySem.Froz
def tLenSK (K : PySem.W.Frag) (ta : TE) : TE := fun σ H Q => ta σ H fun x H1 => ∃ (l : Addr) (ks : Mbs), x = .ref l ∧ (SqL K H1 l (ks.map fun q => V.ref q.1) ∨ SqT K H1 l (ks.map fun q => V.ref q.1)) ∧ (∀ q ∈ ks, SqT K H1 q.1 (q.2.map kV)) ∧ ks.length < 64 ∧
  ∀ L : Mbs, (∀ q ∈ L, q ∈ ks) → (∀ q ∈ ks, q.2 ∈ L.map (·.2)) → (L.map (·.2)).Nodup → Q (.int L.length) H1
def tSTi (K : PySem.W.Frag) (ta : TE) : TE := fun σ H Q => ta σ H fun x H1 => ∃ (l : Addr) (ns : List Int), x = .ref l ∧ SqT K H1 l (ns.map V.int) ∧ ns.length < 64 ∧
  ∀ (p : Addr) (ms : List Int), ms.Pairwise (· < ·) → (∀ k, k ∈ ms ↔ k ∈ ns) → H1 p = none → Q (.ref p) (upd H1 p (.lst (ms.map V.int)))
section
variable {X : Cx}
theorem pe_lenSK {a : Expr} {ta : TE} {p p2 q pos : Pos} (hc : X.calm = true) (hu : X.A.units + 64 < cLine) (hg : Gl X "len") (hm : X.mg "len" = none) (hg2 : Gl X "set") (hm2 : X.mg "set" = none) (ha : PE X a ta)
    (na : starEach [a] X.env = (false, eval a X.env) :: starEach [] X.env := by rfl) : PE X (.Call (.Name "len" p) [.Call (.Name "set" p2) [a] [] q] [] pos) (tLenSK X.K ta) :=
  ⟨fun pins s σ H Q I h => by
    refine Call_ (ld_blt I hg hm PySem.boot_len (PyProof.Rows.callWith_builtin1 (PyProof.Rows.args_cons (Call_ (ld_blt I hg2 hm2 boot_set (PyProof.Rows.callWith_type1 (PyProof.Rows.args_cons (thn (ha.run pins s σ H _ I h) fun v s1 hv => PyProof.Rows.args_nil ?_) na) na rfl))) rfl) rfl rfl))
    obtain ⟨x, H1, I1, r1, l, ks, rfl, hq, hk, hf, q1⟩ := hv
    cases r1
    have tp : ∀ r ∈ ks, Tx X.prog X.w s1.heap r.2 r.1 := fun r hr => inv_tx I1 (hk r hr)
    have fin : ∀ (h' : Heap) (tk : Nat) (L : Mbs) (T : SD), TtS X.prog X.w h' s1.heap.objs.size L T → Ins ks ks.length L → (∀ b o, s1.heap.get? b = some o → h'.get? b = some o) →
        wpAny (model X.prog X.w) X.A (call (.builtin "len") [.ref s1.heap.objs.size]) (EP X pins σ Q) X.xe { s1 with heap := h', toks := tk } := fun h' tk L T R g k => by
      have I2 : Inv X pins σ H1 { s1 with heap := h', toks := tk } := I1.kept fun b o e => k b o e
      have num := R.num
      have few := R.few
      refine call_len_set R.obj ⟨rfl, rfl, rfl⟩ rfl R.fit (by rw [num]; omega) ⟨.int L.length, H1, I2.tok _, ⟨_, by rw [num]⟩, q1 L (fun r hr => ?_) (fun r hr => ?_) R.dif⟩
      · exact List.mem_of_mem_take (g.sub r hr)
      · exact g.all r (by rw [List.take_length]; exact hr)
    rcases hq with hq | hq
    · obtain ⟨its, r, pl, hz⟩ := I1.list hq
      exact call_setTl ks (I1.ok.hd hc) pl.isList (by show its = refsOf ks; exact refs_vals r) tp hf (by omega) fun h' tk L T R g k => PyProof.Rows.args_nil (fin h' tk L T R g k)
    · obtain ⟨its, r, pl, hz⟩ := I1.tuple hq
      exact call_setTt ks (I1.ok.hd hc) pl (by show its = refsOf ks; exact refs_vals r) tp hf (by omega) fun h' tk L T R g k => PyProof.Rows.args_nil (fin h' tk L T R g k)⟩
theorem pe_STi {a : Expr} {ta : TE} {p p2 q pos : Pos} (hc : X.calm = true) (hg : Gl X "sorted") (hm : X.mg "sorted" = none) (hg2 : Gl X "set") (hm2 : X.mg "set" = none) (ha : PE X a ta)
    (na : starEach [a] X.env = (false, eval a X.env) :: starEach [] X.env := by rfl) : PE X (.Call (.Name "sorted" p) [.Call (.Name "set" p2) [a] [] q] [] pos) (tSTi X.K ta) :=
  ⟨fun pins s σ H Q I h => by
    refine Call_ (ld_blt I hg hm (show _ = some (.builtin "sorted") by decide +kernel) (PyProof.Rows.callWith_builtin1 (PyProof.Rows.args_cons (Call_ (ld_blt I hg2 hm2 boot_set (PyProof.Rows.callWith_type1 (PyProof.Rows.args_cons (thn (ha.run pins s σ H _ I h) fun v s1 hv => PyProof.Rows.args_nil ?_) na) na rfl))) rfl) rfl rfl))
    obtain ⟨x, H1, I1, r1, l, ns, rfl, hq, hf, q1⟩ := hv
    cases r1
    obtain ⟨its, r, pl, hz⟩ := I1.tuple hq
    refine call_set_tupI ns (I1.ok.hd hc) pl (by simpa using r.ints) (by unfold scanBound; omega) fun h' tk c R hcn k => PyProof.Rows.args_nil ?_
    have I2 : Inv X pins σ H1 { s1 with heap := h', toks := tk } := I1.kept fun b o e => k b o e
    refine sorted_set (s := { s1 with heap := h', toks := tk }) R (I2.ok.hd hc) (by omega) fun s2 p2 out c2 ms k2 g2 o2 hp hob hi hpw hmm hl => ?_
    have hlen : (ms.map V.int).length ≤ sizeLine := by rw [List.length_map, hl, sizeLine_eq]; omega
    have hn : H1 p2 = none := I2.hok.fresh hp
    have J : Inv X pins σ (upd H1 p2 (.lst (ms.map V.int))) { ({ s1 with heap := h', toks := tk } : Shared) with heap := s2.heap, gens := s2.gens, drawn := s2.drawn, toks := s2.toks } :=
      I2.call (ch := []) (Un.laid k2 hp hn) (I2.hok.laid k2 hp ⟨hlen, out.toList, c2, vals_of_ints hi, hob⟩) (by rw [g2]; exact I2.bare) (fun _ z => nomatch z)
    have e : s2 = { s1 with heap := s2.heap, gens := s2.gens, drawn := s2.drawn, toks := s2.toks } := by
      obtain ⟨x1, x2, x3, x4, x5⟩ := s2
      exact congrArg _ (show x5 = s1.os from o2)
    rw [e]
    exact ⟨.ref p2, _, J, rfl, q1 p2 ms hpw (fun z => (hmm z).trans decide_eq_true_iff) hn⟩⟩
end
/-! ### .. over the layer -/
section
open Evl
variable {C : Cfg} {M : List Addr} {δ : List Ent} {μ μ1 : Mem} {ta : TE} {e : Ent}
theorem keys_vals {K : PySem.W.Frag} {H : Hp} : ∀ {k : List Key} {vs : List V}, DpAll K H vs (k.map kyD) → vs = k.map kV
  | [], _, h => by cases h; rfl
  | z :: k, _, h => by
    rw [List.map_cons] at h
    cases h with
    | cons h1 h2 =>
      rw [keys_vals h2]
      cases z <;> (cases h1; rfl)
theorem vals_keys {K : PySem.W.Frag} {H : Hp} : ∀ k : List Key, DpAll K H (k.map kV) (k.map kyD)
  | [] => .nil
  | .inl i :: k => .cons (.int i) (vals_keys k)
  | .inr x :: k => .cons (.str x) (vals_keys k)
/-- a tuple of ints and texts that stands as data -/
theorem rowK_at {K : PySem.W.Frag} {H : Hp} {v : V} {k : List Key} (h : Dp K H v (rowK k)) : ∃ a, v = .ref a ∧ H a = some (.tup (k.map kV)) := by
  obtain ⟨a, vs, e1, e2, e3⟩ := Dp.tupH_of (show Dp K H v (.tuple (k.map kyD)) from h)
  exact ⟨a, e1, by rw [e2, keys_vals e3]⟩
theorem at_rowK {K : PySem.W.Frag} {H : Hp} {a : Addr} {k : List Key} (h : H a = some (.tup (k.map kV))) : Dp K H (.ref a) (rowK k) := .tup h (vals_keys k)
theorem rowKs_at {K : PySem.W.Frag} {H : Hp} : ∀ {l : List (List Key)} {vs : List V}, DpAll K H vs (l.map rowK) → ∃ ks : Mbs, vs = (ks.map fun q => V.ref q.1) ∧ ks.map (·.2) = l ∧ ∀ q ∈ ks, H q.1 = some (.tup (q.2.map kV))
  | [], _, h => by cases h; exact ⟨[], rfl, rfl, fun q hq => absurd hq (by simp)⟩
  | k :: l, _, h => by
    rw [List.map_cons] at h
    cases h with
    | cons h1 h2 =>
      obtain ⟨a, rfl, ha⟩ := rowK_at h1
      obtain ⟨ks, e1, e2, e3⟩ := rowKs_at h2
      exact ⟨(a, k) :: ks, by rw [e1]; rfl, by rw [List.map_cons, e2], fun q hq => by
        rcases List.mem_cons.mp hq with z | hq
        · rw [z]; exact ha
        · exact e3 q hq⟩
theorem at_rowKs {K : PySem.W.Frag} {H : Hp} : ∀ {ks : Mbs}, (∀ q ∈ ks, H q.1 = some (.tup (q.2.map kV))) → DpAll K H (ks.map fun q => V.ref q.1) ((ks.map (·.2)).map rowK)
  | [], _ => .nil
  | q :: ks, h => .cons (at_rowK (h q (by simp))) (at_rowKs fun r hr => h r (by simp [hr]))
/-- a list or tuple of such -/
theorem rows_in {l : List (List Key)} {σ : L2.St} {H : Hp} (o : Ok C M δ μ σ H) {v : V} (h : EntOk C.K (hide M H) e v) (r : Rdd μ e (.list (l.map rowK)) ∨ e = .d (.tuple (l.map rowK))) :
    ∃ (a : Addr) (ks : Mbs), v = .ref a ∧ (SqL C.K H a (ks.map fun q => V.ref q.1) ∨ SqT C.K H a (ks.map fun q => V.ref q.1)) ∧ ks.map (·.2) = l ∧ ∀ q ∈ ks, hide M H q.1 = some (.tup (q.2.map kV)) := by
  rcases r with r | r
  · obtain ⟨a, vs, e1, e2, e3⟩ := r.lst o h
    obtain ⟨ks, k1, k2, k3⟩ := rowKs_at e3
    exact ⟨a, ks, e1, .inl (by rw [← k1]; exact e2), k2, k3⟩
  · subst r
    obtain ⟨a, vs, e1, e2, e3⟩ := Dp.tupH_of h
    obtain ⟨ks, k1, k2, k3⟩ := rowKs_at e3
    exact ⟨a, ks, e1, .inr (by rw [← k1]; exact ex_t hide_le (st_of e2)), k2, k3⟩
theorem x_lenSK {l : List (List Key)} (h : EvX C ta M δ μ μ1 e) (r : Rdd μ1 e (.list (l.map rowK)) ∨ e = .d (.tuple (l.map rowK))) (hl : l.length < 64) (nd : l.Nodup) : EvX C (tLenSK C.K ta) M δ μ μ1 (.d (.int (l.length : Int))) := fun σ H o Q kk => h σ H o _ fun v H1 o1 x1 r1 => by
  obtain ⟨a, ks, e1, e2, e3, e4⟩ := rows_in o1 r1 r
  refine ⟨a, ks, e1, e2, fun q hq => ex_t hide_le (st_of (e4 q hq)), by rw [← List.length_map (f := (·.2)), e3]; exact hl, fun L h1 h2 h3 => ?_⟩
  have p : (L.map (·.2)).Perm l := (List.perm_ext_iff_of_nodup h3 nd).mpr fun k => by
    rw [← e3]
    exact ⟨fun z => let ⟨q, hq, e⟩ := List.mem_map.mp z; e ▸ List.mem_map_of_mem (h1 q hq), fun z => let ⟨q, hq, e⟩ := List.mem_map.mp z; e ▸ h2 q hq⟩
  have := p.length_eq
  rw [List.length_map] at this
  rw [this]
  exact kk _ H1 o1 x1 (.int _)
theorem asc_one {α : Type} {le : α → α → Bool} (anti : ∀ a b, le a b = true → le b a = true → a = b) : ∀ {l m : List α}, l.Pairwise (fun a b => le a b = true) → m.Pairwise (fun a b => le a b = true) → l.Perm m → l = m
  | [], m, _, _, p => (List.nil_perm.mp p).symm
  | a :: l, [], _, _, p => absurd p.symm (by intro z; have := List.nil_perm.mp z; cases this)
  | a :: l, b :: m, hl, hm, p => by
    obtain ⟨l1, l2⟩ := List.pairwise_cons.mp hl
    obtain ⟨m1, m2⟩ := List.pairwise_cons.mp hm
    have e : a = b := by
      rcases List.mem_cons.mp (p.mem_iff.mp List.mem_cons_self : a ∈ b :: m) with h | h
      · exact h
      rcases List.mem_cons.mp (p.mem_iff.mpr List.mem_cons_self : b ∈ a :: l) with k | k
      · exact k.symm
      · exact anti _ _ (l1 b k) (m1 a h)
    subst e
    rw [asc_one anti l2 m2 (List.Perm.cons_inv p)]
/-- sorted(set(xs)), xs tuples of one shape: the one rising list of these -/
theorem x_STt {l m : List (List Key)} (h : EvX C ta M δ μ μ1 e) (r : Rdd μ1 e (.list (l.map rowK)) ∨ e = .d (.tuple (l.map rowK))) (hl : l.length < 64) (hsh : OneShape l)
    (hm : ∀ L : List (List Key), L.Nodup → L.Pairwise (fun a b => leK a b = true) → (∀ k, k ∈ L ↔ k ∈ l) → L = m) : EvX C (tSTt C.K ta) M δ μ μ1 (.d (.list (m.map rowK))) := fun σ H o Q kk => h σ H o _ fun v H1 o1 x1 r1 => by
  obtain ⟨a, ks, e1, e2, e3, e4⟩ := rows_in o1 r1 r
  refine ⟨a, ks, e1, e2, fun q hq => ex_t hide_le (st_of (e4 q hq)), by rw [e3]; exact hsh, by rw [← List.length_map (f := (·.2)), e3]; exact hl, fun p L h1 h2 h3 h4 hp => ?_⟩
  have em : L.map (·.2) = m := hm _ h3 (List.pairwise_map.mpr (List.pairwise_map.mp h4)) fun k => by
    rw [← e3]
    exact ⟨fun z => let ⟨q, hq, e⟩ := List.mem_map.mp z; e ▸ List.mem_map_of_mem (h1 q hq), fun z => let ⟨q, hq, e⟩ := List.mem_map.mp z; e ▸ h2 q hq⟩
  obtain ⟨o', x', d'⟩ := o1.lst hp (at_rowKs (K := C.K) (ks := L) fun q hq => e4 q (h1 q hq))
  rw [em] at d'
  exact kk _ _ o' (x1.trans x') d'
theorem x_STi {ns ms : List Int} (h : EvX C ta M δ μ μ1 (.d (.tuple (ns.map .int)))) (hl : ns.length < 64) (h1 : ms.Pairwise (· < ·)) (h2 : ∀ k, k ∈ ms ↔ k ∈ ns) : EvX C (tSTi C.K ta) M δ μ μ1 (.d (.list (ms.map .int))) := fun σ H o Q kk => h σ H o _ fun v H1 o1 x1 r1 => by
  obtain ⟨a, vs, e1, e2, e3⟩ := Dp.tupH_of r1
  refine ⟨a, ns, e1, by rw [← DpAll.ints e3]; exact ex_t hide_le (st_of e2), hl, fun p ms' k1 k2 hp => ?_⟩
  have e : ms' = ms := by
    have n1 : ms'.Nodup := k1.imp fun q z => by omega
    have n2 : ms.Nodup := h1.imp fun q z => by omega
    refine asc_one (le := fun a b => decide (a ≤ b)) (fun a b z1 z2 => Int.le_antisymm (of_decide_eq_true z1) (of_decide_eq_true z2)) (k1.imp fun q => decide_eq_true (Int.le_of_lt q)) (h1.imp fun q => decide_eq_true (Int.le_of_lt q)) ((List.perm_ext_iff_of_nodup n1 n2).mpr fun k => (k2 k).trans (h2 k).symm)
  rw [e]
  obtain ⟨o', x', d'⟩ := o1.lst hp (DpAll.of_ints (K := C.K) (H := hide M H1) ms)
  exact kk _ _ o' (x1.trans x') d'
end
end FD
/-! dicts whose keys are tuples of ints and texts -/
namespace FD
open PySem L2 Evl
abbrev GTab := List (List Key × GP)
def valG (l : GTab) (k : List Key) : Option GP := (l.find? fun p => decide (p.1 = k)).map (·.2)
def putG (l : GTab) (k : List Key) (φ : GP) : GTab := if (valG l k).isSome = true then l.map (fun p => if p.1 = k then (p.1, φ) else p) else l ++ [(k, φ)]
theorem valG_nil (k : List Key) : valG [] k = none := rfl
theorem valG_cons (p : List Key × GP) (l : GTab) (k : List Key) : valG (p :: l) k = if p.1 = k then some p.2 else valG l k := by
  unfold valG
  rw [List.find?_cons]
  by_cases h : p.1 = k
  · rw [if_pos h, decide_eq_true h]; rfl
  · rw [if_neg h, decide_eq_false h]
theorem valG_mem {l : GTab} {k : List Key} : (valG l k).isSome = true ↔ k ∈ l.map (·.1) := by
  induction l with
  | nil => simp [valG_nil]
  | cons p l ih =>
    rw [valG_cons, List.map_cons, List.mem_cons]
    by_cases h : p.1 = k
    · simp [h]
    · rw [if_neg h, ih]
      exact ⟨.inr, fun z => z.resolve_left fun q => h q.symm⟩
def RelG (K : PySem.W.Frag) (Hh : Hp) : Option V → Option GP → Prop
  | none, none => True
  | some v, some φ => φ.p K Hh v
  | _, _ => False
section
variable {K : PySem.W.Frag} {Hh : Hp}
theorem gt_val {ws : List (List Key × V)} {l : GTab} (g : GtOk K Hh ws l) (k : List Key) : RelG K Hh (valV ws k) (valG l k) := by
  induction g with
  | nil => exact trivial
  | @cons p q ps qs h _ ih =>
    rw [valG_cons]
    by_cases e : q.1 = k
    · rw [if_pos e, valV_pos (h.1.trans e)]; exact h.2
    · rw [if_neg e, valV_neg fun z => e (h.1.symm.trans z)]; exact ih
theorem gt_some {ws : List (List Key × V)} {l : GTab} (g : GtOk K Hh ws l) {k : List Key} {φ : GP} (h : valG l k = some φ) : ∃ v, valV ws k = some v ∧ φ.p K Hh v := by
  have r := gt_val g k
  rw [h] at r
  cases z : valV ws k with
  | none => rw [z] at r; exact r.elim
  | some v => rw [z] at r; exact ⟨v, rfl, r⟩
theorem gt_is {ws : List (List Key × V)} {l : GTab} (g : GtOk K Hh ws l) (k : List Key) : (valV ws k).isSome = (valG l k).isSome := by
  have r := gt_val g k
  cases z : valV ws k <;> cases y : valG l k <;> first | rfl | (rw [z, y] at r; exact r.elim)
theorem gt_len {ws : List (List Key × V)} {l : GTab} (g : GtOk K Hh ws l) : ws.length = l.length := paired_len g
theorem gt_keys {ws : List (List Key × V)} {l : GTab} (g : GtOk K Hh ws l) : ws.map (·.1) = l.map (·.1) := by
  induction g with
  | nil => rfl
  | cons h _ ih => rw [List.map_cons, List.map_cons, h.1, ih]
theorem gt_put {ws : List (List Key × V)} {l : GTab} (g : GtOk K Hh ws l) (k : List Key) {v : V} {φ : GP} (h : φ.p K Hh v) : GtOk K Hh (putK ws k v) (putG l k φ) := by
  unfold putK putG
  rw [valV_any, gt_is g k]
  by_cases z : (valG l k).isSome = true
  · rw [if_pos z, if_pos z]
    clear z
    induction g with
    | nil => exact .nil
    | @cons p q ps qs hq _ ih =>
      rw [List.map_cons, List.map_cons]
      refine .cons ?_ ih
      by_cases e : q.1 = k
      · rw [if_pos (hq.1.trans e), if_pos e]; exact ⟨hq.1, h⟩
      · rw [if_neg fun y => e (hq.1.symm.trans y), if_neg e]; exact hq
  · rw [if_neg z, if_neg z]
    clear z
    induction g with
    | nil => exact .cons ⟨rfl, h⟩ .nil
    | cons hq _ ih => exact .cons hq ih
end
/-- such a dict that stays as it is -/
def gDT (l : GTab) : GP := ⟨fun K H v => ∃ a ws, v = .ref a ∧ H a = some (.dT ws) ∧ GtOk K H ws l, fun _ _ _ _ x h => let ⟨a, ws, e1, e2, e3⟩ := h; ⟨a, ws, e1, x a _ e2, gt_mono x e3⟩⟩
inductive TD (μ : Mem) : Ent → GTab → Prop
  | m {a : Addr} {l : GTab} : (a, .dT l) ∈ μ → TD μ (.m a) l
  | f {a : Addr} {od : Obj} {ws : List (List Key × V)} {l : GTab} : (a, .fT od ws l) ∈ μ → TD μ (.m a) l
  | g (l : GTab) : TD μ (.g (gDT l)) l
/-- how a value of an entry is one of a predicate -/
def EntG (e : Ent) (φ : GP) : Prop := ∀ (K : PySem.W.Frag) (Hh : Hp) (v : V), EntOk K Hh e v → φ.p K Hh v
theorem entG_d (d : PyData) : EntG (.d d) (gD d) := fun _ _ _ h => h
theorem entG_g (φ : GP) : EntG (.g φ) φ := fun _ _ _ h => h
theorem entG_m (a : Addr) : EntG (.m a) (gRef a) := fun _ _ _ h => h
section
variable {C : Cfg} {M : List Addr} {δ : List Ent} {μ μ1 μ2 μ3 : Mem} {td ty te ta tb : TE} {e e1 e2 : Ent} {l : GTab} {k : List Key} {i j : Nat} {a : Addr} {D : Ends} {t t2 : TS} {od : Obj} {ws : List (List Key × V)}
theorem TD.rd {σ : L2.St} {H : Hp} (t : TD μ e l) (o : Ok C M δ μ σ H) {v : V} (h : EntOk C.K (hide M H) e v) : ∃ a ws, v = .ref a ∧ Rd H a (.dT ws) ∧ GtOk C.K (hide M H) ws l := by
  cases t with
  | m hm => obtain ⟨_, _, ws, e1, q⟩ := o.mem _ hm; exact ⟨_, ws, h, .inl e1, q⟩
  | f hm => obtain ⟨_, _, e1, q⟩ := o.mem _ hm; exact ⟨_, _, h, .inr ⟨_, e1⟩, q⟩
  | g _ => obtain ⟨a, ws, e1, e2, q⟩ := h; exact ⟨a, ws, e1, .inl ((hide_some e2).2), q⟩
theorem x_gd {d : PyData} (h : EvX C te M δ μ μ1 (.g (gD d))) : EvX C te M δ μ μ1 (.d d) := fun σ H o Q kk => h σ H o Q fun v H1 o1 x1 r1 => kk v H1 o1 x1 r1
theorem x_dg {d : PyData} (h : EvX C te M δ μ μ1 (.d d)) : EvX C te M δ μ μ1 (.g (gD d)) := fun σ H o Q kk => h σ H o Q fun v H1 o1 x1 r1 => kk v H1 o1 x1 r1
theorem x_gref (h : EvX C te M δ μ μ1 (.g (gRef a))) : EvX C te M δ μ μ1 (.m a) := fun σ H o Q kk => h σ H o Q fun v H1 o1 x1 r1 => kk v H1 o1 x1 r1
theorem x_vg {φ : GP} (h : δ[i]? = some (.g φ)) : EvX C (tVar i) M δ μ μ (.g φ) := x_var h (fun z => nomatch z)
/-- d[k] -/
theorem x_tget {φ : GP} (hx : EvX C td M δ μ μ1 e) (hk : EvX C ty M δ μ1 μ2 (.d (rowK k))) (ht : ∀ σ H v, Ok C M δ μ1 σ H → EntOk C.K (hide M H) e v → EntOk C.K (hide M H) e v) (hm : TD μ2 e l) (hv : valG l k = some φ) : EvX C (tDGet td ty) M δ μ μ2 (.g φ) := fun σ H o Q kk =>
  hx σ H o _ fun x H1 o1 x1 r1 => hk σ H1 o1 _ fun y H2 o2 x2 r2 => by
    obtain ⟨b, e3, e4⟩ := rowK_at r2
    obtain ⟨a, ws, e1, rd, g⟩ := hm.rd o2 (r1.mono x2)
    obtain ⟨v, q1, q2⟩ := gt_some g hv
    exact ⟨a, v, e1, .inr ⟨ws, k, b, rd, e3, (hide_some e4).2, q1.symm⟩, kk v H2 o2 (x1.trans x2) q2⟩
theorem x_tgetD {d : PyData} (hx : EvX C td M δ μ μ1 e) (hk : EvX C ty M δ μ1 μ2 (.d (rowK k))) (hm : TD μ2 e l) (hv : valG l k = some (gD d)) : EvX C (tDGet td ty) M δ μ μ2 (.d d) := x_gd (x_tget hx hk (fun _ _ _ _ h => h) hm hv)
/-- k in d, k not in d -/
theorem x_tin (hk : EvX C ty M δ μ μ1 (.d (rowK k))) (hx : EvX C td M δ μ1 μ2 e) (hm : TD μ2 e l) : EvX C (tDIn ty td) M δ μ μ2 (.d (.bool (valG l k).isSome)) := fun σ H o Q kk =>
  hk σ H o _ fun y H1 o1 x1 r1 => hx σ H1 o1 _ fun x H2 o2 x2 r2 => by
    obtain ⟨b, e3, e4⟩ := rowK_at (Dp.w r1 |> fun _ => dp_mono x2 _ _ r1)
    obtain ⟨a, ws, e1, rd, g⟩ := hm.rd o2 r2
    refine ⟨a, _, e1, .inr ⟨ws, k, b, rd, e3, (hide_some e4).2, rfl⟩, ?_⟩
    rw [gt_is g k]
    exact kk _ H2 o2 (x1.trans x2) (.bl _)
theorem x_tnotin (hk : EvX C ty M δ μ μ1 (.d (rowK k))) (hx : EvX C td M δ μ1 μ2 e) (hm : TD μ2 e l) : EvX C (tDNotIn ty td) M δ μ μ2 (.d (.bool (!(valG l k).isSome))) := fun σ H o Q kk =>
  hk σ H o _ fun y H1 o1 x1 r1 => hx σ H1 o1 _ fun x H2 o2 x2 r2 => by
    obtain ⟨b, e3, e4⟩ := rowK_at (dp_mono x2 _ _ r1)
    obtain ⟨a, ws, e1, rd, g⟩ := hm.rd o2 r2
    refine ⟨a, _, e1, .inr ⟨ws, k, b, rd, e3, (hide_some e4).2, rfl⟩, ?_⟩
    rw [gt_is g k]
    exact kk _ H2 o2 (x1.trans x2) (.bl _)
/-- d = {} -/
theorem r_newT (kk : ∀ p, p ∉ M → Nx C D (p :: M) (δ.set i (.m p)) ((p, .dT []) :: μ)) : Run C (tAsg tDNewT (gName i)) D M δ μ := fun σ H o p hp => by
  have o' := o.new hp (ho := .dT []) (mo := .dT []) ⟨[], upd_same, .nil⟩
  exact kk p (o.fresh hp) _ _ (o'.set i (e := .m p) rfl)
theorem q_newT (kk : ∀ p, p ∉ M → Run C t2 D (p :: M) (δ.set i (.m p)) ((p, .dT []) :: μ)) : Run C (tSeq (tAsg tDNewT (gName i)) t2) D M δ μ := r_newT (D := { D with nx := t2 D }) kk
/-- d[k] = e -/
theorem r_tput {φ : GP} (h : EvX C te M δ μ μ1 e) (hx : EvX C ta M δ μ1 μ2 (.m a)) (hi : EvX C tb M δ μ2 μ3 (.d (rowK k))) (hg : EntG e φ) (hj : μ3[j]? = some (a, .dT l)) (hl : l.length < 1000) (kk : Nx C D M δ (μ3.set j (a, .dT (putG l k φ)))) :
    Run C (tAsg te (gSub ta tb rSetD)) D M δ μ := fun σ H o => h σ H o _ fun v H1 o1 x1 r1 => hx σ H1 o1 _ fun w H2 o2 x2 r2 => hi σ H2 o2 _ fun z H3 o3 x3 r3 => by
  have e1 : w = .ref a := r2
  obtain ⟨b, e2, e4⟩ := rowK_at r3
  obtain ⟨_, _, ws, q3, q4⟩ := o3.mem _ (List.mem_of_getElem? hj)
  show ∃ a' H', w = .ref a' ∧ DPut H3 a' z v H' ∧ D.nx σ H'
  refine ⟨a, _, e1, .inr ⟨ws, k, b, q3, e2, (hide_some e4).2, sz_lt (by rw [gt_len q4]; omega), rfl⟩, ?_⟩
  exact kk _ _ (o3.write hj ⟨_, upd_same, gt_put q4 k (hg _ _ _ (r1.mono (x2.trans x3)))⟩)
theorem q_tput {φ : GP} (h : EvX C te M δ μ μ1 e) (hx : EvX C ta M δ μ1 μ2 (.m a)) (hi : EvX C tb M δ μ2 μ3 (.d (rowK k))) (hg : EntG e φ) (hj : μ3[j]? = some (a, .dT l)) (hl : l.length < 1000) (kk : Run C t2 D M δ (μ3.set j (a, .dT (putG l k φ)))) :
    Run C (tSeq (tAsg te (gSub ta tb rSetD)) t2) D M δ μ := r_tput (D := { D with nx := t2 D }) h hx hi hg hj hl kk
/-- list(d) -/
abbrev rListDT : List V → Hp → VK → Prop := fun xs H Q => ∃ d kvs, xs = [V.ref d] ∧ Rd H d (.dT kvs) ∧ ∀ p bs, H p = none → IsKeys H kvs bs → Q (.ref p) (upd H p (.lst (bs.map V.ref)))
theorem keys_rows {K : PySem.W.Frag} {M : List Addr} {H : Hp} : ∀ {ws : List (List Key × V)} {bs : List Addr}, IsKeys H ws bs → DpAll K (hide M H) (bs.map V.ref) ((ws.map (·.1)).map rowK)
  | _, _, .nil => .nil
  | _, _, .cons h t => .cons (at_rowK (hide_tup h)) (keys_rows t)
theorem c_listT (ht : TD μ e l) : CallX C rListDT M δ μ μ [e] (.d (.list ((l.map (·.1)).map rowK))) := fun σ H vs o h Q kk => by
  obtain ⟨v, rfl, q⟩ := p1 h
  obtain ⟨a, ws, e1, rd, g⟩ := ht.rd o q
  refine ⟨a, ws, by rw [e1], rd, fun p bs hp hk => ?_⟩
  have d := keys_rows (K := C.K) (M := M) hk
  rw [gt_keys g] at d
  obtain ⟨o', x', d'⟩ := o.lst hp d
  exact kk _ _ o' x' d'
/-- the dict locked while it is walked -/
theorem ok_lockT {σ : L2.St} {H1 : Hp} (o : Ok C M δ μ σ H1) (hj : μ[j]? = some (a, .dT l)) : ∃ ws, H1 a = some (.dT ws) ∧ ∀ od, Ok C M δ (μ.set j (a, .fT od ws l)) σ (upd H1 a (.frz od (.dT ws))) := by
  obtain ⟨_, _, ws, e, c⟩ := o.mem _ (List.mem_of_getElem? hj)
  exact ⟨ws, e, fun od => o.write hj ⟨upd_same, c⟩⟩
theorem ok_unlockT {σ : L2.St} {H1 : Hp} (hj : μ[j]? = some (a, .dT l)) (o : Ok C M δ (μ.set j (a, .fT od ws l)) σ H1) : H1 a = some (.frz od (.dT ws)) ∧ a ∈ M ∧ Ok C M δ μ σ (upd H1 a (.dT ws)) := by
  have hj' : (μ.set j (a, MO.fT od ws l))[j]? = some (a, .fT od ws l) := List.getElem?_set_self (List.getElem?_eq_some_iff.mp hj).1
  obtain ⟨q0, _, e, c⟩ := o.mem _ (List.mem_of_getElem? hj')
  have := o.write hj' (mo' := .dT l) (ho := .dT ws) ⟨ws, upd_same, c⟩
  rw [set_back hj] at this
  exact ⟨e, q0, this⟩
theorem r_lockT (hj : μ[j]? = some (a, .dT l)) (h : ∀ od ws, Run C t (lkE D a (.dT ws) od) M δ (μ.set j (a, .fT od ws l))) : Run C (tLock t) D M δ μ := fun σ H o => by
  obtain ⟨ws, e, k⟩ := ok_lockT o hj
  exact ⟨a, .dT ws, e, trivial, fun od => h od ws _ _ (k od)⟩
theorem q_lockT (hj : μ[j]? = some (a, .dT l)) (h : ∀ od ws, Run C t (lkE { D with nx := t2 D } a (.dT ws) od) M δ (μ.set j (a, .fT od ws l))) : Run C (tSeq (tLock t) t2) D M δ μ := r_lockT (D := { D with nx := t2 D }) hj h
theorem lk_nxT (hj : μ[j]? = some (a, .dT l)) (kk : Nx C D M δ μ) : Nx C (lkE D a (.dT ws) od) M δ (μ.set j (a, .fT od ws l)) := fun σ H o => by
  obtain ⟨e, _, o'⟩ := ok_unlockT hj o
  exact ⟨e, kk _ _ o'⟩
theorem lk_retT {d : PyData} {μ' : Mem} (hj : μ1[j]? = some (a, .dT l)) (h : EvX C te M δ μ (μ1.set j (a, .fT od ws l)) (.d d)) (hs : ∀ p ∈ μ', p ∈ μ1) (kk : FinE C D d μ') : Run C (tRet te) (lkE D a (.dT ws) od) M δ μ := fun σ H o => h σ H o _ fun v H1 o1 x1 r => by
  obtain ⟨e, aM, o'⟩ := ok_unlockT hj o1
  exact ⟨e, kk v M _ o'.gr o'.sub (fun p hp => (o'.mem p (hs p hp)).2.2) (by rw [hide_upd aM (by rw [e]; rfl) rfl]; exact r)⟩
theorem x_lockT {e : Ent} (hj : μ[j]? = some (a, .dT l)) (h : ∀ od ws, EvX C te M δ (μ.set j (a, .fT od ws l)) (μ.set j (a, .fT od ws l)) e) : EvX C (tLockE te) M δ μ μ e := fun σ H o Q k => by
  obtain ⟨ws, e0, kk⟩ := ok_lockT o hj
  refine ⟨a, .dT ws, e0, trivial, fun od => h od ws _ _ (kk od) _ fun v H1 o1 x1 r => ?_⟩
  obtain ⟨e1, aM, o'⟩ := ok_unlockT hj o1
  rw [hide_upd aM (by rw [e0]; rfl) rfl] at x1
  exact ⟨e1, k v _ o' (by rw [hide_upd aM (by rw [e1]; rfl) rfl]; exact x1) (by rw [hide_upd aM (by rw [e1]; rfl) rfl]; exact r)⟩
theorem w_keysT {K : PySem.W.Frag} {Hx Hh : Hp} (c : GtOk K Hx ws l) : WalkN K (Itkt a od ws) Hh (fun H => H a = some (.frz od (.dT ws))) ((l.map (·.1)).map rowK) where
  go := fun M i H hi _ _ n => ⟨n, by rw [gt_len c]; simpa using hi⟩
  stop := fun M H _ _ n => ⟨n, by rw [gt_len c]; simp⟩
  yld := fun M i H x H' hi _ _ n ⟨e, k, v, q, h1, h2, h3⟩ => by
    subst e
    refine ⟨Ex.refl _, rowK k, ?_, ?_⟩
    · rw [← gt_keys c, List.getElem?_map, List.getElem?_map, h1]; rfl
    · rw [h2]; exact at_rowK (hide_tup h3)
theorem i_keysT (h : EvX C ta M δ μ μ1 (.m a)) (hm : (a, .fT od ws l) ∈ μ1) : EvIN C (iKeys ta) M δ μ μ1 (fun H => H a = some (.frz od (.dT ws))) ((l.map (·.1)).map rowK) := fun σ H o R k => h σ H o _ fun v H1 o1 x1 r1 => by
  obtain ⟨_, _, e, c⟩ := o1.mem _ hm
  have e1 : v = .ref a := r1
  exact ⟨a, od, e1, .inr ⟨ws, e, k _ H1 o1 x1 (w_keysT c)⟩⟩
theorem ok_frzT {σ : L2.St} {H1 : Hp} (hm : (a, .fT od ws l) ∈ μ) (o : Ok C M δ μ σ H1) : H1 a = some (.frz od (.dT ws)) := (o.mem _ hm).2.2.1
end
end FD
/-! own instances: their fields, making them, their methods -/
namespace FD
open PySem L2 Evl
abbrev Flds := List (Str × GP)
abbrev FsOk (K : PySem.W.Frag) (Hh : Hp) (ws : List (Str × V)) (fs : Flds) : Prop := Paired (fun (p : Str × V) (q : Str × GP) => p.1 = q.1 ∧ q.2.p K Hh p.2) ws fs
def putFG (f : Str) (φ : GP) : Flds → Flds
  | [] => [(f, φ)]
  | p :: r => if p.1 = f then (p.1, φ) :: r else p :: putFG f φ r
theorem fs_mono {K : PySem.W.Frag} {H H' : Hp} (x : Ex H H') {ws : List (Str × V)} {fs : Flds} (h : FsOk K H ws fs) : FsOk K H' ws fs := Paired.mapP h fun _ q z => ⟨z.1, q.2.mono _ _ _ _ x z.2⟩
theorem fs_put {K : PySem.W.Frag} {Hh : Hp} {ws : List (Str × V)} {fs : Flds} (h : FsOk K Hh ws fs) (f : Str) {v : V} {φ : GP} (hv : φ.p K Hh v) : FsOk K Hh (putF f v ws) (putFG f φ fs) := by
  induction h with
  | nil => exact .cons ⟨rfl, hv⟩ .nil
  | @cons p q ps qs hq t ih =>
    unfold putF putFG
    by_cases e : q.1 = f
    · rw [if_pos e]
      show FsOk K Hh (if p.1 = f then (p.1, v) :: ps else (p.1, p.2) :: putF f v ps) _
      rw [if_pos (hq.1.trans e)]
      exact .cons ⟨hq.1, hv⟩ t
    · rw [if_neg e]
      show FsOk K Hh (if p.1 = f then (p.1, v) :: ps else (p.1, p.2) :: putF f v ps) _
      rw [if_neg fun z => e (hq.1.symm.trans z)]
      exact .cons hq ih
theorem fs_at {K : PySem.W.Frag} {Hh : Hp} {ws : List (Str × V)} {fs : Flds} (h : FsOk K Hh ws fs) {f : Str} {φ : GP} (hv : fs.lookup f = some φ) : ∃ v, ws.lookup f = some v ∧ φ.p K Hh v := by
  induction h with
  | nil => cases hv
  | @cons p q ps qs hq t ih =>
    obtain ⟨qf, qφ⟩ := q
    obtain ⟨pf, pv⟩ := p
    obtain ⟨e1, e2⟩ := hq
    have e1 : pf = qf := e1
    subst e1
    rw [List.lookup_cons] at hv ⊢
    cases z : f == pf with
    | true =>
      rw [z] at hv
      cases hv
      exact ⟨pv, rfl, e2⟩
    | false =>
      rw [z] at hv
      exact ih hv
theorem fs_no {K : PySem.W.Frag} {Hh : Hp} {ws : List (Str × V)} {fs : Flds} (h : FsOk K Hh ws fs) {f : Str} (hv : fs.lookup f = none) : ws.lookup f = none := by
  induction h with
  | nil => rfl
  | @cons p q ps qs hq t ih =>
    obtain ⟨qf, qφ⟩ := q
    obtain ⟨pf, pv⟩ := p
    obtain ⟨e1, e2⟩ := hq
    have e1 : pf = qf := e1
    subst e1
    rw [List.lookup_cons] at hv ⊢
    cases z : f == pf with
    | true => rw [z] at hv; cases hv
    | false => rw [z] at hv; exact ih hv
/-- an instance that stays as it is -/
def gIns (Cc : Addr) (fs : Flds) : GP := ⟨fun K H v => ∃ a dx ws, v = .ref a ∧ H a = some (.ins Cc dx ws) ∧ FsOk K H ws fs, fun _ _ _ _ x h => let ⟨a, dx, ws, e1, e2, e3⟩ := h; ⟨a, dx, ws, e1, x a _ e2, fs_mono x e3⟩⟩
inductive TIn (μ : Mem) : Ent → Addr → Flds → Prop
  | m {a Cc : Addr} {fs : Flds} : (a, .ins Cc fs) ∈ μ → TIn μ (.m a) Cc fs
  | g (Cc : Addr) (fs : Flds) : TIn μ (.g (gIns Cc fs)) Cc fs
section
variable {C : Cfg} {M : List Addr} {δ : List Ent} {μ μ1 μ2 μ3 : Mem} {td ty te ta tb : TE} {t tr : TA} {e e1 e2 : Ent} {es : List Ent} {i j n : Nat} {a Cc : Addr} {D : Ends} {t2 : TS} {fs : Flds} {f m : Str} {φ : GP} {mo : MO}
theorem TIn.rd {σ : L2.St} {H : Hp} (t : TIn μ e Cc fs) (o : Ok C M δ μ σ H) {v : V} (h : EntOk C.K (hide M H) e v) : ∃ a dx ws, v = .ref a ∧ H a = some (.ins Cc dx ws) ∧ FsOk C.K (hide M H) ws fs := by
  cases t with
  | m hm => obtain ⟨_, _, dx, ws, e1, q⟩ := o.mem _ hm; exact ⟨_, dx, ws, h, e1, q⟩
  | g _ _ => obtain ⟨a, dx, ws, e1, e2, q⟩ := h; exact ⟨a, dx, ws, e1, (hide_some e2).2, q⟩
/-- e.f -/
theorem x_fld (hx : EvX C te M δ μ μ1 e) (ht : TIn μ1 e Cc fs) (cl : Cls C.K Cc) (na : NoAttr C.K Cc f) (hv : fs.lookup f = some φ) : EvX C (tFld C.K te f) M δ μ μ1 (.g φ) := fun σ H o Q kk => hx σ H o _ fun x H1 o1 x1 r1 => by
  obtain ⟨a, dx, ws, e1, e2, q⟩ := ht.rd o1 r1
  obtain ⟨v, q1, q2⟩ := fs_at q hv
  exact ⟨a, Cc, dx, ws, v, e1, e2, cl, na, q1, kk v H1 o1 x1 q2⟩
theorem x_fldD {d : PyData} (hx : EvX C te M δ μ μ1 e) (ht : TIn μ1 e Cc fs) (cl : Cls C.K Cc) (na : NoAttr C.K Cc f) (hv : fs.lookup f = some (gD d)) : EvX C (tFld C.K te f) M δ μ μ1 (.d d) := x_gd (x_fld hx ht cl na hv)
/-- e.f = value -/
theorem r_fset (h : EvX C tb M δ μ μ1 e) (hx : EvX C ta M δ μ1 μ2 (.m a)) (hg : EntG e φ) (hj : μ2[j]? = some (a, .ins Cc fs)) (cl : Cls C.K Cc) (na : NoAttr C.K Cc f) (hl : fs.length < 1000) (kk : Nx C D M δ (μ2.set j (a, .ins Cc (putFG f φ fs)))) :
    Run C (sFld C.K ta tb f) D M δ μ := fun σ H o => h σ H o _ fun y H1 o1 x1 r1 => hx σ H1 o1 _ fun x H2 o2 x2 r2 => by
  obtain ⟨_, _, dx, ws, q3, q4⟩ := o2.mem _ (List.mem_of_getElem? hj)
  refine ⟨a, Cc, dx, ws, r2, q3, cl, na, by rw [paired_len q4]; exact hl, ?_⟩
  exact kk _ _ (o2.write hj ⟨dx, _, upd_same, fs_put q4 f (hg _ _ _ (r1.mono x2))⟩)
theorem q_fset (h : EvX C tb M δ μ μ1 e) (hx : EvX C ta M δ μ1 μ2 (.m a)) (hg : EntG e φ) (hj : μ2[j]? = some (a, .ins Cc fs)) (cl : Cls C.K Cc) (na : NoAttr C.K Cc f) (hl : fs.length < 1000) (kk : Run C t2 D M δ (μ2.set j (a, .ins Cc (putFG f φ fs)))) :
    Run C (tSeq (sFld C.K ta tb f) t2) D M δ μ := r_fset (D := { D with nx := t2 D }) h hx hg hj cl na hl kk
/-- e.f = a new object of one's own -/
theorem r_fsetN (h : EvN C tb M δ μ μ1 mo) (hx : ∀ p, p ∉ M → EvX C ta (p :: M) δ ((p, mo) :: μ1) ((p, mo) :: μ1) (.m a)) (hj : μ1[j]? = some (a, .ins Cc fs)) (cl : Cls C.K Cc) (na : NoAttr C.K Cc f) (hl : fs.length < 1000)
    (kk : ∀ p, p ∉ M → Nx C D (p :: M) δ ((p, mo) :: μ1.set j (a, .ins Cc (putFG f (gRef p) fs)))) : Run C (sFld C.K ta tb f) D M δ μ := fun σ H o => h σ H o _ fun p H1 pM o1 x1 => hx p pM σ H1 o1 _ fun x H2 o2 x2 r2 => by
  have hj' : ((p, mo) :: μ1)[j + 1]? = some (a, .ins Cc fs) := hj
  obtain ⟨_, _, dx, ws, q3, q4⟩ := o2.mem _ (List.mem_of_getElem? hj')
  refine ⟨a, Cc, dx, ws, r2, q3, cl, na, by rw [paired_len q4]; exact hl, ?_⟩
  exact kk p pM _ _ (o2.write hj' ⟨dx, _, upd_same, fs_put q4 f (show (gRef p).p C.K _ (.ref p) from rfl)⟩)
theorem q_fsetN (h : EvN C tb M δ μ μ1 mo) (hx : ∀ p, p ∉ M → EvX C ta (p :: M) δ ((p, mo) :: μ1) ((p, mo) :: μ1) (.m a)) (hj : μ1[j]? = some (a, .ins Cc fs)) (cl : Cls C.K Cc) (na : NoAttr C.K Cc f) (hl : fs.length < 1000)
    (kk : ∀ p, p ∉ M → Run C t2 D (p :: M) δ ((p, mo) :: μ1.set j (a, .ins Cc (putFG f (gRef p) fs)))) : Run C (tSeq (sFld C.K ta tb f) t2) D M δ μ := r_fsetN (D := { D with nx := t2 D }) h hx hj cl na hl kk
theorem n_newT : EvN C tDNewT M δ μ μ (.dT []) := fun σ H o Q k p hp => by
  have o' := o.new hp (ho := .dT []) (mo := .dT []) ⟨[], upd_same, .nil⟩
  exact k p _ (o.fresh hp) o' (hide_new hp)
/-- what __init__ promises: the new instance is so -/
def spMk (K : PySem.W.Frag) (Cc : Addr) (n : Nat) (R : List Ent → GP → Prop) : Sp := fun vs H Q _ => vs.length = n + 1 ∧ ∃ x dx ws M es φ, vs = .ref x :: ws ∧ H x = some (.ins Cc dx []) ∧ x ∉ M ∧ (∀ a ∈ M, H a ≠ none) ∧ Paired (EntOk K (hide (x :: M) H)) es ws ∧ R es φ ∧
  ∀ H', Ex (hide [x] H) H' → φ.p K (hide M H') (.ref x) → Q .non H'
/-- C(..) -/
theorem x_make {R : List Ent → GP → Prop} {E : XK} (h : EvA C tr M δ μ μ1 es) (hR : R es φ) (hn : es.length = n := by rfl) : EvX C (tMake Cc (spMk C.K Cc n R) [] E tr) M δ μ μ1 (.g φ) := fun σ H o Q kk =>
  h σ H o _ fun vs H1 o1 x1 r1 x dx hx hd ne => by
    rw [List.append_nil]
    have e0 : Ex H1 (upd H1 dx (.own x)) := Ex.new hd
    have e2 : Ex H1 (upd (upd H1 dx (.own x)) x (.ins Cc dx [])) := e0.trans (Ex.new (by rw [upd_ne (fun z => ne z.symm)]; exact hx))
    refine ⟨by rw [List.length_cons, ← paired_len r1, hn], x, dx, vs, M, es, φ, rfl, upd_same, o1.fresh hx, (o1.grow e2).alloc, Paired.mapP r1 fun _ _ q => q.mono (fun b u z => ?_), hR, fun H' e3 r3 => ⟨rfl, ?_⟩⟩
    · obtain ⟨q, z⟩ := hide_some z
      exact hide_mk (e2 b u z) fun y => (List.mem_cons.mp y).elim (fun y => by rw [y, hx] at z; cases z) q
    · have e4 : Ex H1 H' := fun b u q => e3 b u (by
        rw [hide_out fun z => ?_]
        · exact e2 b u q
        · rw [List.mem_singleton.mp z] at q
          rw [hx] at q; cases q)
      exact kk _ H' (o1.grow e4) (x1.trans (hide_ex e4)) r3
/-- a method's call -/
theorem x_meth {sp : Sp} {E : XK} (hx : EvX C te M δ μ μ1 e) (ht : TIn μ1 e Cc fs) (hm : fs.lookup m = none) (ha : EvA C t M δ μ1 μ2 es) (hc : CallX C (fun vs H Q => sp vs H Q E) M δ μ2 μ3 (e :: es) e2) :
    EvX C (tMeth Cc m sp [] E te t) M δ μ μ3 e2 := fun σ H o Q kk => hx σ H o _ fun x H1 o1 x1 r1 => by
  obtain ⟨a, dx, ws, q1, q2, q⟩ := ht.rd o1 r1
  refine ⟨a, dx, ws, q1, q2, fs_no q hm, ha σ H1 o1 _ fun vs H2 o2 x2 r2 => ?_⟩
  rw [List.append_nil]
  exact hc σ H2 (x :: vs) o2 (.cons (r1.mono x2) r2) Q fun v H3 o3 x3 r3 => kk v H3 o3 ((x1.trans x2).trans x3) r3
theorem n_meth {sp : Sp} {E : XK} (hx : EvX C te M δ μ μ1 e) (ht : TIn μ1 e Cc fs) (hm : fs.lookup m = none) (ha : EvA C t M δ μ1 μ2 es)
    (hc : ∀ σ H vs, Ok C M δ μ2 σ H → Paired (EntOk C.K (hide M H)) (e :: es) vs → ∀ Q : VK, (∀ p H', p ∉ M → Ok C (p :: M) δ ((p, mo) :: μ3) σ H' → Ex (hide M H) (hide (p :: M) H') → Q (.ref p) H') → sp vs H Q E) : EvN C (tMeth Cc m sp [] E te t) M δ μ μ3 mo := fun σ H o Q kk => hx σ H o _ fun x H1 o1 x1 r1 => by
  obtain ⟨a, dx, ws, q1, q2, q⟩ := ht.rd o1 r1
  refine ⟨a, dx, ws, q1, q2, fs_no q hm, ha σ H1 o1 _ fun vs H2 o2 x2 r2 => ?_⟩
  rw [List.append_nil]
  exact hc σ H2 (x :: vs) o2 (.cons (r1.mono x2) r2) Q fun p H3 pM o3 x3 => kk p H3 pM o3 ((x1.trans x2).trans x3)
theorem swap_nil (μ : Mem) : Swap [] [] μ μ := ⟨fun p hp => absurd hp (by simp), rfl, rfl, fun p hp => .inr ⟨hp, by simp⟩⟩
theorem cX_E {μ0 μ0' : Mem} {R : List Ent → Mem → PyData → Mem → Prop} {E : XK} {d : PyData} (w : Swap μ0 μ0' μ1 μ2) (nd : (ad μ0).Nodup) (hR : R es μ0 d μ0') (hn : es.length = n := by rfl) : CallX C (fun vs H Q => spE C.K n R vs H Q E) M δ μ1 μ2 es (.d d) := fun σ H1 vs o1 r1 Q k => by
  refine ⟨by rw [← paired_len r1]; exact hn, M, es, μ0, d, μ0', o1.alloc, r1, fun p hp => let q := o1.mem p (w.sub p hp); ⟨q.1, q.2.2⟩, nd, w.ad0, hR, fun v H2 e2 m2 d2 => ?_⟩
  obtain ⟨o2, x2⟩ := after_E o1 w e2 m2
  exact k v H2 o2 x2 d2
theorem cX_E0 {R : List Ent → Mem → PyData → Mem → Prop} {E : XK} {d : PyData} (hR : R es [] d []) (hn : es.length = n := by rfl) : CallX C (fun vs H Q => spE C.K n R vs H Q E) M δ μ1 μ1 es (.d d) := cX_E (swap_nil μ1) (by simp) hR hn
theorem x_callE0 {R : List Ent → Mem → PyData → Mem → Prop} {E : XK} {d : PyData} (h : EvA C tr M δ μ μ1 es) (hR : R es [] d []) (hn : es.length = n := by rfl) : EvX C (tCall (spE C.K n R) [] E tr) M δ μ μ1 (.d d) := x_callE h (swap_nil μ1) (by simp) hR hn
/-- a call that hands back a new object -/
theorem n_callEN {μ0 μ0' : Mem} {R : List Ent → Mem → MO → Mem → Prop} {E : XK} (h : EvA C tr M δ μ μ1 es) (w : Swap μ0 μ0' μ1 μ2) (nd : (ad μ0).Nodup) (hR : R es μ0 mo μ0') (hn : es.length = n := by rfl) : EvN C (tCall (spEN C.K n R) [] E tr) M δ μ μ2 mo := fun σ H o Q k => h σ H o _ fun vs H1 o1 x1 r1 => by
  rw [List.append_nil]
  refine ⟨by rw [← paired_len r1]; exact hn, M, es, μ0, mo, μ0', o1.alloc, r1, fun p hp => let q := o1.mem p (w.sub p hp); ⟨q.1, q.2.2⟩, nd, w.ad0, hR, fun p H2 hp e2 m1 m2 => ?_⟩
  obtain ⟨pM, o2⟩ := ok_newE (G := []) o1 w hp e2 m1 m2
  refine k p H2 pM o2 (x1.trans fun b u z => ?_)
  obtain ⟨q, z⟩ := hide_some z
  have ne : b ≠ p := ne_of_none z hp
  refine hide_mk (e2 b u (hide_mk z fun y => q ?_)) fun y => (List.mem_cons.mp y).elim (fun y => absurd y ne) q
  obtain ⟨r, hr, er⟩ := List.mem_map.mp y
  rw [← er]; exact (o1.mem r (w.sub r hr)).1
end
section
variable {P : Program} {w : World} {K : PySem.W.Frag} {mg : Str → Option Value} {base : Heap}
/-- an __init__ -/
theorem def_Mk {Cc : Addr} {x qual : Str} {st : Stmt} {f : Addr} {fd : FuncData} {N ps : List Str} {k n : Nat} {R : List Ent → GP → Prop} (F : Fun K x qual st f fd) (S : FnScope N ps (defScope st)) (hN : ps.length ≤ N.length) (hp : ps.length = n + 1)
    (h : ∀ (cdv : Value) (A : Around) (outer : List Env) (s : Shared) (H : Hp) (E : XK), Room k (A.deeper (PyProof.Rows.envOfC qual (defScope st) s.heap.objs.size f cdv)) →
      ∃ t, PSs (cxOf CX0 P w K mg base N qual (defScope st) f cdv A outer s H E).nox (defBody st) t ∧
        ∀ (M : List Addr) (G B : Hp) (x : Addr) (es : List Ent) (φ : GP), R es φ → x ∉ M → ∀ D : Ends, (∀ M' δ μ' σ H', Ok ⟨K, M, G, B⟩ M' δ μ' σ H' → φ.p K (hide M H') (.ref x) → D.nx σ H') → Run ⟨K, M, G, B⟩ t D (x :: M) (startE N.length (es.length + 1) (.m x :: es)) [(x, .ins Cc [])]) :
    FnOk P w K mg base CX0 (k + 1) f fd ps (spMk K Cc n R) := by
  refine F.ok S (fun vs H Q E hs => hs.1.trans hp.symm) fun cdv A outer s H vs Q E hr hs => ?_
  obtain ⟨hn, x, dx, ws, M, es, φ, rfl, hx, xM, al, he, hR, kk⟩ := hs
  obtain ⟨t, ht, run⟩ := h cdv A outer s H E hr
  have he' : Paired (EntOk K (hide (x :: M) H)) (.m x :: es) (.ref x :: ws) := .cons rfl he
  have o := ok_startE (K := K) (H := H) (N := N) (M := x :: M) (es := .m x :: es) (vs := .ref x :: ws) (μ := [(x, .ins Cc [])]) (fun a ha => (List.mem_cons.mp ha).elim (fun z => by rw [z, hx]; exact fun z => nomatch z) (al a)) he' (fun p hp => by
    rw [List.mem_singleton.mp hp]
    exact ⟨List.mem_cons_self, dx, [], hx, .nil⟩) (by simp) (by rw [hn, ← hp]; exact hN)
  refine ⟨t, ht, run M (hide (ad [(x, MO.ins Cc [])]) H) (hide (x :: M) H) x es φ hR xM _ (fun M' δ μ' σ H' o' r => ?_) _ _ ⟨o.len, o.slot, o.mem, o.nd, o.alloc, fun a ha => List.mem_cons_of_mem _ ha, o.gr, o.base⟩⟩
  exact kk H' o'.gr r
end
end FD
/-! a dict whose keys are tuples, made by a comprehension -/
namespace FD
open PySem PySem.Spec L2 PyProof.Rows Evl
theorem wp_if_pos' {c p q : Prop} [Decidable c] (h : c) (hp : p) : if c then p else q := by rw [if_pos h]; exact hp
theorem wp_if_neg' {c p q : Prop} [Decidable c] (h : ¬ c) (hq : q) : if c then p else q := by rw [if_neg h]; exact hq
/-- what one stored pair does, in a frame of any kind -/
theorem dput_set {X : Cx} {pins : List (Addr × Obj)} {σ : L2.St} {H : Hp} {s : Shared} {E : Value → Shared → Prop} {D : Addr} {y v : V} {u r : Value} {Q : Unit → Shared → Prop} (hu : X.A.units < cLine) (I : Inv X pins σ H s) {ks : List (List Key × V)} {k : List Key} {b : Addr}
    (g : H D = some (.dT ks)) (ey : y = .ref b) (eb : H b = some (.tup (k.map kV))) (hz : ks.length < sizeLine) (ry : RelV y u) (rv : RelV v r) (h : ∀ s', Inv X pins σ (upd H D (.dT (putK ks k v))) s' → Q () s') : wpAny (model X.prog X.w) X.A (dictSet D u r) Q E s := by
  subst ey
  cases (show u = Value.ref b from ry)
  obtain ⟨z, hd, xs, rel, dd⟩ := dt_of I.hok g
  have lx : xs.length ≤ sizeLine := by rw [← Paired.length rel]; exact z
  have lp := length_putK ks k v
  refine wpAny_dictSet_heap (hsz := lx) (show (tupleKind (mixKind X.prog X.w)).room X.A from hu) (key_of I.hok eb) dd fun h' d2 sb => h _ ?_
  obtain ⟨ob, es, ep, q1, q2, q3, q4, _, q5⟩ := d2
  refine d_write I (by rw [g]; trivial) sb ⟨ob, q1⟩ ⟨by omega, hd, _, (rel.put k eb rv).keeps fun c ys ec => ?_, ob, es, ep, q1, q2, q3, q4, q5⟩
  exact (upd_ne (ne_of ec g fun e => nomatch e)).trans ec
def tDcT (wi : TI) (g : TG) (tt : TT) (tk tv : TE) (vs : List Nat) : TE := fun σ H Q => wi σ H fun J H1 => ∀ D, H1 D = none → ∃ W : Nat → Nat → Hp → Prop, (∃ m, W 0 m (upd H1 D (.dT []))) ∧ ∀ i m Hi, W i m Hi → (J.stop i Hi ∧ Q (.ref D) Hi) ∨ (J.go i Hi ∧ ∃ Nx : Hp → Prop, (∀ Hn, Nx Hn → ∃ m', m' < m ∧ W (i + 1) m' Hn) ∧ ∀ x Hn, J.yld i Hi x Hn → g x (wipe σ vs) Hn fun σ2 H2 => wipe σ2 vs = wipe σ vs ∧ tt σ2 H2 fun b H3 => if b = true then tk σ2 H3 fun y H4 => tv σ2 H4 fun z H5 => ∃ ks k a, y = .ref a ∧ H5 a = some (.tup (k.map kV)) ∧ H5 D = some (.dT ks) ∧ ks.length < sizeLine ∧ Nx (upd H5 D (.dT (putK ks k z))) else Nx H3)
/-- the frames of a comprehension's block -/
abbrev InBlk (X : Cx) (scope : Scope) (F : Cx → Prop) : Prop := ∀ (s : Shared) (H : Hp) (C : Addr) (cl : List (Str × Addr)) (fp : List Addr), F (X.blk s H scope (compEnvC scope cl C X.env) fp)
section
variable {X : Cx} {kx vx tg iter : Expr} {ifs : List Expr} {scope : Scope} {own : List (Str × Nat)} {pos pos' : Pos} {wi : TI} {g : TG} {tt : TT} {tk tv : TE}
theorem dct_core {pins : List (Addr × Obj)} {s : Shared} {σ : L2.St} {H : Hp} {Q : VK} {use : Option (Value → Sem Unit)} {Qf : Value → Shared → Prop} (hu : X.A.units < cLine) (calm : X.calm = true) (nd : X.N.Nodup) (I : Inv X pins σ H s) (hi : PI X tg iter wi) (ok : BlkOk X.N X.env.scope scope own)
    (hg : InBlk X scope fun Y => PG Y tg g) (ht : InBlk X scope fun Y => PTs Y ifs tt) (hk : InBlk X scope fun Y => PE Y kx tk) (he : InBlk X scope fun Y => PE Y vx tv) (fs : ∀ x, foldedSetIterable iter X.env x = pure x) (h : tDcT wi g tt tk tv (own.map (·.2)) σ H Q)
    (fin : ∀ D C s' m H', Inv X pins σ H' s' → Q (.ref D) H' → s'.heap.Ns C m → FpOk X pins H' C → compPost (model X.prog X.w) X.A X.xe use Qf (.ref D) C (.ok .next) s') : wpAny (model X.prog X.w) X.A (comprehension (.DictComp kx vx [⟨tg, iter, ifs, 0⟩] scope pos) scope X.env pos' newDict false (eval iter X.env) use) Qf X.xe s := by
  refine wpAny_comprehension_free (use := use) rfl fs (closure_ok fun y hy e => (ok.free y hy e).elim (fun k => I.ok.has _ (.inl k)) fun k => I.ok.has _ (.inr k)) ok.kind (fun y hy e => by rw [ok.uniq y hy, e]) (thn (hi.run pins s σ H _ I h) fun xv s1 hx => thn hx fun itv s2 ⟨it, fp, tn, J, H2, e, I2, T, st2, f2, q⟩ => ?_)
  subst e
  refine wpAny_newObj_type (newEnv_comp ?_)
  generalize hD : s2.heap.objs.size = D
  obtain ⟨W, ⟨m0, w0⟩, turn⟩ := q D (I2.hok.fresh (Nat.le_of_eq hD))
  generalize es3 : ({ s2 with heap := s2.heap.push { cls := .type "dict", data := .dict #[] } } : Shared) = s3
  have h3 : s3.heap = s2.heap.push { cls := .type "dict", data := .dict #[] } := by rw [← es3]
  have I3 : Inv X pins σ (upd H2 D (.dT [])) s3 := by
    subst es3 hD
    exact I2.laid (t' := s2.toks) (fun b o e => Heap.get?_push_of_some _ e) (Nat.le_refl _) (dt_empty s2.heap I2.big)
  have fpl : ∀ b ∈ fp, b < s2.heap.objs.size := fun b hb => let ⟨o, e, _⟩ := T.obj _ _ st2 b hb; Heap.lt_size e
  have f3 : ∀ b ∈ fp, FpOk X pins (upd H2 D (.dT [])) b ∧ b < s3.heap.objs.size := fun b hb => ⟨⟨(upd_ne (hD ▸ Nat.ne_of_lt (fpl b hb))).trans (f2 b hb).1, (f2 b hb).2⟩, by rw [h3, Heap.size_push]; exact Nat.lt_succ_of_lt (fpl b hb)⟩
  have st3 : tn 0 s3.heap := T.keep _ _ _ st2 fun b _ o e => by rw [h3]; exact Heap.get?_push_of_some _ e
  have I4 := block_start I3 ok nd f3
  generalize ecl : cellsFrom (s3.heap.objs.size + 1) scope.names (cloFrom X.env.cells scope.names []) = cl at I4
  have blk := fun (F : Cx → Prop) (a : InBlk X scope F) => a s3 (upd H2 D (.dT [])) s3.heap.objs.size cl fp
  have pg := blk _ hg
  have pt := blk _ ht
  have pk := blk _ hk
  have pv := blk _ he
  have fn3 : ∀ b ∈ fp, (upd H2 D (.dT [])) b = none := fun b hb => (f3 b hb).1.1
  generalize ece : compEnvC scope cl s3.heap.objs.size X.env = ce at I4 pg pt pk pv
  have loc : ce.locals = s3.heap.objs.size := by rw [← ece]; rfl
  generalize upd H2 D (.dT []) = H3 at I3 I4 pg pt pk pv w0 fn3 f3
  generalize es4 : ({ s3 with heap := pushCells (s3.heap.push { cls := .type "dict", data := .dict #[] }) scope.names } : Shared) = s4 at I4
  have st4 : tn 0 s4.heap := T.keep _ _ _ st3 fun b _ o e => by rw [← es4]; exact pushCells_keeps _ _ _ _ (Heap.get?_push_of_some _ e)
  generalize eY : X.blk s3 H3 scope ce fp = Y at I4 pg pt pk pv
  have stat : ∀ {σ' : L2.St} {H' : Hp} {s' : Shared}, Inv Y [] σ' H' s' → (∀ b ∈ fp, H' b = none) → ∀ b ∈ fp, FpOk Y [] H' b := fun {σ' H' s'} I' n b hb => by
    subst eY
    exact ⟨n b hb, (I'.ok.exf b hb).1, I'.ok.exfs b hb, .inl hb, fun x c e => (I'.ok.exf b hb).2 x c e, fun p hp => absurd (show p ∈ ([] : List (Addr × Obj)) ++ [] from hp) (by simp)⟩
  have eP : Y.prog = X.prog ∧ Y.w = X.w ∧ Y.K = X.K ∧ Y.A = X.A := by rw [← eY]; exact ⟨rfl, rfl, rfl, rfl⟩
  have loop : codeAny (model X.prog X.w) X.A (.compLoop (.DictComp kx vx [⟨tg, iter, ifs, 0⟩] scope pos) 0 (.ref it) (.ref D) ce) (compPost (model X.prog X.w) X.A X.xe use Qf (.ref D) s3.heap.objs.size) s4 := by
    refine compLoop_anyD (fun n s' => ∃ i Hc, Inv Y [] (wipe σ (own.map (·.2))) Hc s' ∧ tn i s'.heap ∧ (∀ b ∈ fp, Hc b = none) ∧ W i n Hc) ?_ m0 ⟨0, H3, I4, st4, fn3, w0⟩
    rintro n s5 ⟨i, H5, I5, st5, n5, w5⟩
    rcases turn i n H5 w5 with ⟨stop, qq⟩ | ⟨go, Nx, hN, step⟩
    · subst eY
      refine thnF (T.done (X.blk s3 H3 scope ce fp) rfl rfl rfl calm i [] s5 _ H5 (fun _ _ => False) I5 (stat I5 n5) st5 stop) fun r s6 ⟨hr, I6⟩ => ?_
      subst hr
      obtain ⟨m, hn, _⟩ := I6.loc
      have hn : s6.heap.Ns ce.locals m := hn
      have free : H5 ce.locals = none := I6.free
      rw [loc] at hn free
      exact fin D s3.heap.objs.size s6 m H5 (I3.call' (ch := fp) I6.os I6.base I6.hok I6.bare fun b hb => let z := (f3 b hb).1.2; ⟨z.2.2.1, z.1, z.2.2.2.1, z.2.2.2.2⟩) qq hn (I3.fpOk (Nat.le_refl _) free)
    · subst eY
      refine thnF (T.item (X.blk s3 H3 scope ce fp) rfl rfl rfl calm i [] s5 _ H5 (fun _ _ => False) I5 (stat I5 n5) st5 go) fun r s6 ⟨u, hr, h6⟩ => ?_
      subst hr
      refine thnF h6 fun _ s7 ⟨x, H7, I7, r7, y7, st7, n7⟩ => thnF (pg.run _ s7 _ H7 x u _ (I7.pinned (stat I7 n7) (T.obj _ _ st7)) r7 (step x H7 y7)) fun _ s8 ⟨σ8, H8, I8, hw8, q8⟩ => thnF (pt.run _ s8 σ8 H8 _ I8 q8) fun b s9 ⟨H9, I9, q9⟩ => ?_
      have back : ∀ {s' : Shared} {Hb : Hp}, Inv (X.blk s3 H3 scope ce fp) ([] ++ pinsAt fp s7.heap) σ8 Hb s' → Nx Hb → ∃ m, m < n ∧ ∃ i Hc, Inv (X.blk s3 H3 scope ce fp) [] (wipe σ (own.map (·.2))) Hc s' ∧ tn i s'.heap ∧ (∀ b ∈ fp, Hc b = none) ∧ W i m Hc := fun {s' Hb} Ib nx => by
        obtain ⟨m', hm, w'⟩ := hN Hb nx
        have pin : ∀ b ∈ fp, ∀ o, s7.heap.get? b = some o → s'.heap.get? b = some o ∧ Hb b = none := fun b hb o e => let z := Ib.pin (b, o) (List.mem_append_right _ (List.mem_append_right _ (mem_pinsAt hb e))); ⟨z.1, z.2.1⟩
        refine ⟨m', hm, i + 1, Hb, (Ib.unpinned (pins := [])).weak (by rw [← hw8, wipe_length]) (fun j v e => ?_), T.keep _ _ _ st7 fun b hb o e => (pin b hb o e).1, fun b hb => let ⟨o, e, _⟩ := T.obj _ _ st7 b hb; (pin b hb o e).2, w'⟩
        rw [← hw8] at e
        exact (wipe_some e).1
      cases b with
      | true =>
        have q9 : tk σ8 H9 _ := q9
        refine wp_if_pos' rfl ?_
        exact thnF (pk.run _ s9 σ8 H9 _ I9 q9) fun z s10 ⟨yk, H10, I10, r10, q10⟩ => thnF (pv.run _ s10 σ8 H10 _ I10 q10) fun z2 s11 ⟨yv, H11, I11, r11, ks, k, a, ea, ha, hD11, hz11, nx⟩ => dput_set (X := X.blk s3 H3 scope ce fp) hu I11 hD11 ea ha hz11 r10 r11 fun s12 I12 => back I12 nx
      | false =>
        have q9 : Nx H9 := q9
        exact wp_if_neg' (fun z => nomatch z) (back I9 q9)
  have := codeAny_compStart_dict loop (T.self X.A 0 _ _ _ st4 loop)
  subst ece ecl es4
  exact this
/-- as a value -/
theorem pe_dcT (hu : X.A.units < cLine) (calm : X.calm = true) (nd : X.N.Nodup) (hi : PI X tg iter wi) (ok : BlkOk X.N X.env.scope scope own) (hg : InBlk X scope fun Y => PG Y tg g) (ht : InBlk X scope fun Y => PTs Y ifs tt) (hk : InBlk X scope fun Y => PE Y kx tk) (he : InBlk X scope fun Y => PE Y vx tv) (fs : ∀ x, foldedSetIterable iter X.env x = pure x := by intro _; rfl) :
    PE X (.DictComp kx vx [⟨tg, iter, ifs, 0⟩] scope pos) (tDcT wi g tt tk tv (own.map (·.2))) := ⟨fun pins s σ H Q I h => by
  rw [arm_eval_DictComp]
  refine dct_core hu calm nd I hi ok hg ht hk he fs h fun D C s' m H' I' q hn f => ⟨m, hn, fun _ sb => ?_⟩
  obtain ⟨f0, f1, f2, f3, f4, f5⟩ := f
  exact ⟨.ref D, H', I'.turned (t' := s'.toks) (fun b o hb e => (sb.2 b hb).trans e) f0 f1 f3 f4 f5, rfl, q⟩⟩
end
end FD
/-! the same over the layer; new objects handed back, or handed on at once -/
namespace FD
open PySem L2 Evl
section
variable {C : Cfg} {M : List Addr} {δ : List Ent} {μ μ' μ1 μ2 μ3 : Mem} {te ten : TE} {tr : TA} {e e1 e2 : Ent} {es : List Ent} {i j n : Nat} {a : Addr} {D : Ends} {t2 : TS} {mo mo' : MO} {d : PyData} {wi : TI} {g : TG} {tt : TT} {tk tv : TE} {vs : List Nat} {xs : List PyData}
theorem x_dcT {N : Hp → Prop} (hi : EvIN C wi M δ μ μ' N xs) (hN : ∀ (B : Hp) (p : Addr) (q : MO) (σ : L2.St) (H : Hp), Ok { C with B := B } (p :: M) δ ((p, q) :: μ') σ H → N H) (T : Nat → GTab) (h0 : T 0 = []) (hl : ∀ i, i < xs.length → (T i).length < 1000)
    (hs : ∀ (i : Nat) (d : PyData), xs[i]? = some d → ∀ (B : Hp) (p : Addr), ∃ ts δ' b, TgX C.K g ts d (wipeE δ vs) δ' ∧ (∀ k ∈ ts, k ∈ vs) ∧ EvT { C with B := B } tt (p :: M) δ' ((p, .dT (T i)) :: μ') ((p, .dT (T i)) :: μ') b ∧ (b = false → T (i + 1) = T i) ∧
      (b = true → ∃ k e φ, EvX { C with B := B } tk (p :: M) δ' ((p, .dT (T i)) :: μ') ((p, .dT (T i)) :: μ') (.d (rowK k)) ∧ EvX { C with B := B } tv (p :: M) δ' ((p, .dT (T i)) :: μ') ((p, .dT (T i)) :: μ') e ∧ EntG e φ ∧ T (i + 1) = putG (T i) k φ)) :
    EvN C (tDcT wi g tt tk tv vs) M δ μ μ' (.dT (T xs.length)) := fun σ H o Q k => by
  refine hi σ H o _ fun J H1 o1 x1 W D hD => ?_
  have oB := o1.toB
  have hDM : D ∉ M := o1.fresh hD
  have o2 : Ok { C with B := hide M H1 } (D :: M) δ ((D, .dT (T 0)) :: μ') σ (upd H1 D (.dT [])) := oB.new hD (mo := .dT (T 0)) ⟨[], upd_same, by rw [h0]; exact .nil⟩
  refine ⟨fun i m H' => m = xs.length - i ∧ i ≤ xs.length ∧ Ok { C with B := hide M H1 } (D :: M) δ ((D, .dT (T i)) :: μ') σ H', ⟨xs.length, by simp, Nat.zero_le _, o2⟩, ?_⟩
  rintro i m H' ⟨rfl, hi', oi⟩
  by_cases hlt : i < xs.length
  · refine .inr ⟨W.go (D :: M) i H' hlt oi.alloc oi.base (hN _ _ _ _ _ oi), fun H'' => Ok { C with B := hide M H1 } (D :: M) δ ((D, .dT (T (i + 1))) :: μ') σ H'', fun H'' q => ⟨xs.length - (i + 1), by omega, rfl, hlt, q⟩, fun x H2 y => ?_⟩
    obtain ⟨e2, d, hd, dx⟩ := W.yld (D :: M) i H' x H2 hlt oi.alloc oi.base (hN _ _ _ _ _ oi) y
    have o3 := oi.grow e2
    obtain ⟨ts, δ', b, tg, hts, htt, hF, hT⟩ := hs i d hd (hide M H1) D
    refine tg { C with B := hide M H1 } _ _ _ _ _ rfl (o3.wiped vs) dx _ fun σ2 o5 hl2 hσ2 => ⟨wipe_eq (by rw [hl2, wipe_length]) hσ2 hts, ?_⟩
    refine htt σ2 H2 o5 _ fun H3 o6 x6 => ?_
    cases b with
    | false =>
      have := o3.swap o6 x6
      show Ok { C with B := hide M H1 } (D :: M) δ ((D, .dT (T (i + 1))) :: μ') σ H3
      rw [hF rfl]; exact this
    | true =>
      obtain ⟨kq, e, φ, hk, hv, hg, eT⟩ := hT rfl
      show tk σ2 H3 _
      refine hk σ2 H3 o6 _ fun y H4 o7 x7 r7 => ?_
      refine hv σ2 H4 o7 _ fun z H5 o8 x8 r8 => ?_
      have o9 : Ok { C with B := hide M H1 } (D :: M) δ ((D, .dT (T i)) :: μ') σ H5 := o3.swap o8 ((x6.trans x7).trans x8)
      obtain ⟨b, e4, e5⟩ := rowK_at r7
      obtain ⟨_, _, ws, q3, q4⟩ := o9.mem _ List.mem_cons_self
      refine ⟨ws, kq, b, e4, (hide_some (x8 _ _ e5)).2, q3, sz_lt (by rw [gt_len q4]; exact Nat.lt_of_lt_of_le (hl i hlt) (by decide)), ?_⟩
      rw [eT]
      exact o9.write (j := 0) rfl ⟨_, upd_same, gt_put q4 kq (hg _ _ _ r8)⟩
  · have ei : i = xs.length := by omega
    subst ei
    refine .inl ⟨W.stop (D :: M) H' oi.alloc oi.base (hN _ _ _ _ _ oi), ?_⟩
    exact k D H' hDM (oi.reB o1.base) (x1.trans oi.base)
/-- return {..} or f(..), a new object -/
theorem r_retNn (h : EvN C te M δ μ μ1 mo) (hs : ∀ p ∈ μ', p ∈ μ1) (kk : FinEN C D mo μ') : Run C (tRet te) D M δ μ := fun σ H o => h σ H o _ fun p H1 pM o1 x1 => by
  obtain ⟨q0, q1, q2⟩ := o1.mem (p, mo) List.mem_cons_self
  exact kk p (p :: M) H1 q1 (fun z => pM (o.sub p z)) o1.gr o1.sub q0 q2 fun r hr => (o1.mem r (List.mem_cons_of_mem _ (hs r hr))).2.2
/-- f(x, {..}): the new object is f's alone -/
theorem x_callTmp {R : List Ent → Mem → PyData → Mem → Prop} {E : XK} (h1 : EvX C te M δ μ μ1 e) (h2 : EvN C ten M δ μ1 μ2 mo) (hR : ∀ p, R [e, .m p] [(p, mo)] d [(p, mo')]) : EvX C (tCall (spE C.K 2 R) [] E (tCons te (tCons ten tNil))) M δ μ μ2 (.d d) := fun σ H o Q kk =>
  h1 σ H o _ fun v H1 o1 x1 r1 => h2 σ H1 o1 _ fun p H2 pM o2 x2 => by
    show spE C.K 2 R ([v, .ref p] ++ []) H2 Q E
    rw [List.append_nil]
    have hj : ((p, mo) :: μ2)[0]? = some (p, mo) := rfl
    refine ⟨rfl, p :: M, [e, .m p], [(p, mo)], d, [(p, mo')], o2.alloc, .cons (r1.mono x2) (.cons rfl .nil), fun q hq => ?_, by simp, rfl, hR p, fun u H4 e4 m4 d4 => ?_⟩
    · rw [List.mem_singleton.mp hq]
      exact ⟨(o2.mem _ List.mem_cons_self).1, (o2.mem _ List.mem_cons_self).2.2⟩
    · have w : Swap [(p, mo)] [(p, mo')] ((p, mo) :: μ2) ((p, mo') :: μ2) := swap_set hj o2.nd
      obtain ⟨o5, x5⟩ := after_E o2 w e4 m4
      have o6 : Ok C (p :: M) δ μ2 σ H4 := o5.mems (fun q hq => List.mem_cons_of_mem _ hq) (List.nodup_cons.mp o5.nd).2
      have pn : p ∉ ad μ2 := (List.nodup_cons.mp o5.nd).1
      have o7 : Ok C M δ μ2 σ H4 := o6.drop (fun a ha => List.mem_cons_of_mem _ ha) (fun q hq => ((List.mem_cons.mp (o6.mem q hq).1).resolve_left fun z => pn (by rw [← z]; exact List.mem_map_of_mem hq))) o.sub
      have back : Ex (hide (p :: M) H4) (hide M H4) := hide_sub fun a ha => List.mem_cons_of_mem _ ha
      exact kk u H4 o7 (((x1.trans x2).trans x5).trans back) (dp_mono back _ _ d4)
end
end FD
/-! sorted(d), the keys of d tuples of ints and texts of one shape; more reads of dicts that stay -/
namespace FD
open PySem PySem.Spec L2 PyProof.Rows PySem.W PySem.Froz
section
variable {P : Program} {w : World} {A : Around} {E : Value → Shared → Prop} {s : Shared}
theorem sorted_src {T : String} {d : Addr} {n : Nat} {Pv : Nat → Value → Prop} {OK : Heap → Prop} {L1 : Mbs} {Q : Value → Shared → Prop} (K : KdlSrc P w T d d n Pv OK) (hok : OK s.heap) (hn : n = L1.length) (hP : ∀ i v, Pv i v → (refsOf L1)[i]? = some v) (tps : ∀ q ∈ L1, Tx P w s.heap q.2 q.1) (few : L1.length < 64) (hs : OneShape (L1.map (·.2))) (hh : A.handled = none) (hu : A.units + 3 < cLine)
    (hQ : ∀ (h1 : Heap) s' p (out : Array Value) (c : Nat) (L' : Mbs), (∀ b o, s.heap.get? b = some o → h1.get? b = some o) → p = h1.objs.size → (∀ b o, h1.get? b = some o → s'.heap.get? b = some o) → s'.gens = s.gens → s'.os = s.os →
      s'.heap.get? p = some (seqObj "list" out c) → out.toList = refsOf L' → L'.Perm L1 → L'.Pairwise (fun q r => leK q.2 r.2 = true) → Q (.ref p) s') :
    wpAny (model P w) A (call (.builtin "sorted") [.ref d]) Q E s := by
  refine Calls.call_function_entry kind_sorted plain_sorted entry_sorted (args_sorted1 _) ?_
  unfold Builtin.«sorted»
  refine wpAny_bind (m := checkCount "sorted" 1 1 _) (wpAny_pure ?_)
  refine wpAny_bind (kdu_collect (A := A.in1) K hh hok (by rw [sizeLine_eq]; omega) fun h' tk acc k1 it => ?_)
  generalize es1 : ({ s with heap := h', toks := tk } : Shared) = s1
  generalize ev : acc.toList = vs
  have k1 : ∀ b o, s.heap.get? b = some o → s1.heap.get? b = some o := by rw [← es1]; exact k1
  have g1 : s1.gens = s.gens := by rw [← es1]
  have o1 : s1.os = s.os := by rw [← es1]
  have e1 : vs = refsOf L1 := by
    rw [← ev]
    have hl : acc.toList.length = (refsOf L1).length := by rw [Array.length_toList, it.1, hn]; unfold refsOf; rw [List.length_map]
    refine List.ext_getElem? fun j => ?_
    cases hj : acc.toList[j]? with
    | none =>
      have := List.getElem?_eq_none_iff.mp hj
      rw [List.getElem?_eq_none (by omega)]
    | some v => rw [hP j v (it.2 j v (by rw [← Array.getElem?_toList]; exact hj))]
  have hvl : vs.length < 64 := by rw [e1]; unfold refsOf; rw [List.length_map]; exact few
  refine wpAny_bind (wpAny_newList ?_ (by rw [sizeLine_eq]; omega))
  have hoL : (s1.heap.push (seqObj "list" vs.toArray 0)).get? s1.heap.objs.size = some (seqObj "list" vs.toArray 0) := Heap.get?_push_size _ rfl
  refine wpAny_bind (wpAny_holding (wpAny_call_entry slot_list_sort ⟨_, hoL, rfl⟩ entry_list_sort (list_sort_vals (s := { s1 with heap := s1.heap.push (seqObj "list" vs.toArray 0) }) (κ := dataKind (sortingHeap (s1.heap.push (seqObj "list" vs.toArray 0)) s1.heap.objs.size vs) (L1.map fun q => rowK q.2)) hoL ?_ (by rw [sizeLine_eq]; omega) ?_) (args_list_sort _)))
  · rw [e1]
    refine rows_sort hs (s := { s1 with heap := sortingHeap (s1.heap.push (seqObj "list" (refsOf L1).toArray 0)) s1.heap.objs.size (refsOf L1) }) (fun q hq => ?_) (by show A.units + 1 + 1 + 1 < cLine; omega)
    refine tx_keep (tx_keep (tps q hq) k1) fun c u e => ?_
    exact sortingHeap_old (Nat.ne_of_lt (Heap.lt_size e)) (Heap.get?_push_of_some _ e)
  · refine ⟨_, rfl, ?_⟩
    generalize hO : sortVals (dataKind (sortingHeap (s1.heap.push (seqObj "list" vs.toArray 0)) s1.heap.objs.size vs) (L1.map fun q => rowK q.2)) false vs vs = out
    have po : out.Perm vs := by
      rw [← hO]
      unfold sortVals
      have z := (List.mergeSort_perm (vs.zip vs) (sortLe (dataKind (sortingHeap (s1.heap.push (seqObj "list" vs.toArray 0)) s1.heap.objs.size vs) (L1.map fun q => rowK q.2)).toKeyOrd false fun p : Keyed => keyD (dataKind (sortingHeap (s1.heap.push (seqObj "list" vs.toArray 0)) s1.heap.objs.size vs) (L1.map fun q => rowK q.2)) p.1)).map Prod.snd
      rw [List.map_snd_zip (Nat.le_refl _)] at z
      exact z
    have tL1 : ∀ q ∈ L1, Tx P w (sortingHeap (s1.heap.push (seqObj "list" vs.toArray 0)) s1.heap.objs.size vs) q.2 q.1 := fun q hq => by
      refine tx_keep (tx_keep (tps q hq) k1) fun c u e => ?_
      exact sortingHeap_old (Nat.ne_of_lt (Heap.lt_size e)) (Heap.get?_push_of_some _ e)
    have eo : EachIs (fun v (q : Addr × List Key) => v = Value.ref q.1) out (L1.mergeSort (dataLe false fun q : Addr × List Key => rowK q.2)) := by
      rw [← hO]
      have z1 : EachIs (fun v (q : Addr × List Key) => v = Value.ref q.1) vs L1 := by rw [e1]; exact refs_each L1
      have z2 : EachIs (fun v (q : Addr × List Key) => ∃ as, PySem.Reads (sortingHeap (s1.heap.push (seqObj "list" vs.toArray 0)) s1.heap.objs.size vs) v (rowK q.2) as) vs L1 := by
        have z := rows_each2 tL1
        rw [← e1] at z
        exact z
      exact sortVals_data false z1 z2 (rows_alike hs)
    have e2 := each_refs eo
    have p2 : (L1.mergeSort (dataLe false fun q : Addr × List Key => rowK q.2)).Perm L1 := (List.mergeSort_perm _ _).trans (List.Perm.refl L1)
    have w2 : (L1.mergeSort (dataLe false fun q : Addr × List Key => rowK q.2)).Pairwise (fun q r => leK q.2 r.2 = true) := by
      have tot := sortLe_total (listOrd itemOrd) false (fun q : Addr × List Key => keyToks (rowK q.2))
      exact List.pairwise_mergeSort (fun a b c => tot.trans a b c) (fun a b => by rw [Bool.or_eq_true]; exact tot.total a b) L1
    generalize L1.mergeSort (dataLe false fun q : Addr × List Key => rowK q.2) = L2 at e2 p2 w2
    obtain ⟨c, hc⟩ := sortedHeap_at (vs := vs) (out := out.toArray) hoL
    refine wpAny_pure ⟨_, rfl, hQ s1.heap _ s1.heap.objs.size out.toArray c L2 k1 rfl (fun b u q => ?_) g1 o1 hc (by simpa using e2) p2 w2⟩
    have hlt := Heap.lt_size q
    show (sortedHeap (s1.heap.push (seqObj "list" vs.toArray 0)) s1.heap.objs.size vs out.toArray).get? b = some u
    rw [sortedHeap_old (Nat.ne_of_lt hlt) (by rw [size_push']; exact Nat.lt_succ_of_lt hlt)]
    exact Heap.get?_push_of_some _ q
end
end FD
namespace FD
open PySem PySem.Spec L2 PyProof.Rows Evl
abbrev rSortedT : List V → Hp → VK → Prop := fun xs H Q => ∃ d kvs, xs = [V.ref d] ∧ Rd H d (.dT kvs) ∧ OneShape (kvs.map (·.1)) ∧ kvs.length < 64 ∧ ∀ (p : Addr) (L : Mbs), (L.map (·.2)).Perm (kvs.map (·.1)) → (L.map (·.2)).Pairwise (fun a b => leK a b = true) → (∀ q ∈ L, H q.1 = some (.tup (q.2.map kV))) → H p = none → Q (.ref p) (upd H p (.lst (L.map fun q => V.ref q.1)))
section
variable {X : Cx}
theorem kt_tups {H : Hp} {kvs : List (List Key × V)} {xs : List (List Key × Addr × Value)} (h : Paired (fun (p : List Key × V) (q : List Key × Addr × Value) => p.1 = q.1 ∧ H q.2.1 = some (.tup (p.1.map kV)) ∧ RelV p.2 q.2.2) kvs xs) :
    (xs.map fun x => (x.2.1, x.1)).map (·.2) = kvs.map (·.1) ∧ ∀ q ∈ xs.map fun x => (x.2.1, x.1), H q.1 = some (.tup (q.2.map kV)) := by
  induction h with
  | nil => exact ⟨rfl, fun q hq => absurd hq (by simp)⟩
  | @cons p x ps xs h _ ih =>
    refine ⟨?_, fun q hq => ?_⟩
    · have := ih.1
      simp only [List.map_cons, List.map_map] at this ⊢
      rw [this, h.1]
    · rw [List.map_cons] at hq
      rcases List.mem_cons.mp hq with e | hq
      · rw [e]
        show H x.2.1 = some (.tup (x.1.map kV))
        rw [← h.1]; exact h.2.1
      · exact ih.2 q hq
theorem cr_sortedT (hc : X.calm = true) (hu : X.A.units + 64 < cLine) : CallR X (.builtin "sorted") rSortedT := by
  intro pins s σ H xs us Q I r h
  obtain ⟨d, kvs, rfl, hd, hsh, h64, q⟩ := h
  obtain ⟨u, rfl, rx⟩ := vals1 r
  cases rx
  obtain ⟨z, hs, ks, pr, o, es, ep, ho, hx, hdt, he, hn⟩ := (show ObjOk X.prog X.w H s.heap d (.dT kvs) from hd.ok I.hok)
  have l1 : es.size = ks.length := size_of_entries he
  have l2 : kvs.length = ks.length := Paired.length pr
  obtain ⟨k1, k2⟩ := kt_tups pr
  generalize eL : ks.map (fun x => (x.2.1, x.1)) = L1 at k1 k2
  have lL : L1.length = ks.length := by rw [← eL, List.length_map]
  refine sorted_src (L1 := L1) (kdl_raw hs hx hdt) ho (by omega) (fun i v ⟨en, hen, hv⟩ => ?_) (fun q hq => inv_tx I (st_of (k2 q hq))) (by omega) (by rw [k1]; exact hsh) (I.ok.hd hc) (by omega) fun h1 s' p out c L' kp ep' kp2 g2 o2 hob hout pm pw => ?_
  · have qe := entry_at he i
    rw [hen] at qe
    cases hb : ks[i]? with
    | none => rw [hb] at qe; cases qe
    | some b =>
      rw [hb] at qe
      have e2 : en = entryOfKey (tupleKind (mixKind X.prog X.w)) b := Option.some.inj qe
      unfold refsOf
      rw [← eL, List.map_map, List.getElem?_map, hb, hv, e2]
      rfl
  · subst ep'
    have I1 : Inv X pins σ H { s with heap := h1 } := I.kept fun b o e => kp b o e
    have hn : H h1.objs.size = none := I1.hok.fresh (Nat.le_refl _)
    have hlen : (L'.map fun q => V.ref q.1).length ≤ sizeLine := by rw [List.length_map, sizeLine_eq, pm.length_eq]; omega
    have J : Inv X pins σ (upd H h1.objs.size (.lst (L'.map fun q => V.ref q.1))) { ({ s with heap := h1 } : Shared) with heap := s'.heap, gens := s'.gens, drawn := s'.drawn, toks := s'.toks } :=
      I1.call (ch := []) (Un.laid kp2 (Nat.le_refl _) hn) (I1.hok.laid kp2 (Nat.le_refl _) ⟨hlen, out.toList, c, by rw [hout]; exact vals_refs L', hob⟩) (by rw [g2]; exact I1.bare) (fun _ z => nomatch z)
    have e : s' = { s with heap := s'.heap, gens := s'.gens, drawn := s'.drawn, toks := s'.toks } := by
      obtain ⟨x1, x2, x3, x4, x5⟩ := s'
      exact congrArg _ (show x5 = s.os from o2)
    rw [e]
    refine ⟨.ref h1.objs.size, _, J, rfl, q _ L' (by rw [← k1]; exact pm.map (·.2)) (List.pairwise_map.mpr pw) (fun r hr => k2 r (pm.mem_iff.mp hr)) hn⟩
end
section
variable {C : Cfg} {M : List Addr} {δ : List Ent} {μ μ1 μ2 : Mem} {ta tb td ty te : TE} {tr : TA} {e e' : Ent} {l : GTab}
theorem c_sortedT {m : List (List Key)} (ht : TD μ e l) (hsh : OneShape (l.map (·.1))) (hl : l.length < 64) (hm : ∀ L : List (List Key), L.Perm (l.map (·.1)) → L.Pairwise (fun a b => leK a b = true) → L = m) : CallX C rSortedT M δ μ μ [e] (.d (.list (m.map rowK))) := fun σ H vs o h Q kk => by
  obtain ⟨v, rfl, q⟩ := p1 h
  obtain ⟨a, ws, e1, rd, g⟩ := ht.rd o q
  refine ⟨a, ws, by rw [e1], rd, by rw [gt_keys g]; exact hsh, by rw [gt_len g]; exact hl, fun p L h1 h2 h3 hp => ?_⟩
  obtain ⟨o', x', d'⟩ := o.lst hp (at_rowKs (K := C.K) (H := hide M H) (ks := L) fun q hq => hide_tup (h3 q hq))
  rw [hm _ (by rw [← gt_keys g]; exact h1) h2] at d'
  exact kk _ _ o' x' d'
/-- a dict with text keys that stays as it is -/
def gDK (l : Dct) : GP := ⟨fun K H v => ∃ a ws, v = .ref a ∧ H a = some (.dK ws) ∧ DcOk K H ws (kd l), fun _ _ _ _ x h => let ⟨a, ws, e1, e2, e3⟩ := h; ⟨a, ws, e1, x a _ e2, Paired.mapP e3 fun _ _ z => ⟨z.1, z.2.mono x⟩⟩⟩
theorem x_kget {l : Dct} {k : Str} {d : PyData} (hx : EvX C td M δ μ μ1 (.g (gDK l))) (hk : EvX C ty M δ μ1 μ2 (.d (.str k))) (hv : valD l k = some d) : EvX C (tDGet td ty) M δ μ μ2 (.d d) := fun σ H o Q kk =>
  hx σ H o _ fun x H1 o1 x1 r1 => hk σ H1 o1 _ fun y H2 o2 x2 r2 => by
    obtain ⟨a, ws, e1, e2, c⟩ := r1
    have c2 : DcOk C.K (hide M H2) ws (kd l) := Paired.mapP c fun _ _ z => ⟨z.1, z.2.mono x2⟩
    obtain ⟨v, e3, e4⟩ := dc_val c2 hv
    exact ⟨a, v, e1, .inl ⟨ws, .inr k, .inl ((hide_some (x2 _ _ e2)).2), Dp.str_of r2, e3.symm⟩, kk v H2 o2 (x1.trans x2) e4⟩
/-- an int in a tuple of ints -/
theorem inV_ints (z : Int) (zs : List Int) : inV (.int z) (zs.map V.int) = decide (z ∈ zs) := by
  unfold inV
  rw [List.any_map, Bool.eq_iff_iff, List.any_eq_true, decide_eq_true_eq]
  exact ⟨fun ⟨y, hy, e⟩ => by have e : (y == z) = true := e; rw [← eq_of_beq e]; exact hy, fun h => ⟨z, h, (beq_self_eq_true z : (z == z) = true)⟩⟩
theorem flat_ints (zs : List Int) : (zs.map V.int).all flatV = true := by
  rw [List.all_map, List.all_eq_true]
  exact fun _ _ => rfl
theorem o_inTi {z : Int} {zs : List Int} : OpX C (rIn C.K false) M δ μ μ (.d (.int z)) (.d (.tuple (zs.map .int))) (.d (.bool (decide (z ∈ zs)))) := fun σ H u v o h1 h2 Q k => by
  obtain ⟨p, ws, q1, q2, q3⟩ := Dp.tup_of h2
  have e3 := DpAll.ints q3
  subst e3
  refine ⟨p, zs.map V.int, q1, .inr (ex_t hide_le q2), by rw [Dp.int_of h1]; rfl, flat_ints zs, ?_⟩
  rw [Dp.int_of h1, if_neg Bool.false_ne_true, inV_ints]
  exact k _ H o (Ex.refl _) (.bl _)
theorem o_inLi {z : Int} {zs : List Int} (r : Rdd μ e (.list (zs.map .int))) : OpX C (rIn C.K false) M δ μ μ (.d (.int z)) e (.d (.bool (decide (z ∈ zs)))) := fun σ H u v o h1 h2 Q k => by
  obtain ⟨p, ws, q1, q2, q3⟩ := r.lst o h2
  have e3 := DpAll.ints q3
  subst e3
  refine ⟨p, zs.map V.int, q1, .inl q2, by rw [Dp.int_of h1]; rfl, flat_ints zs, ?_⟩
  rw [Dp.int_of h1, if_neg Bool.false_ne_true, inV_ints]
  exact k _ H o (Ex.refl _) (.bl _)
theorem o_notInLi {z : Int} {zs : List Int} (r : Rdd μ e (.list (zs.map .int))) : OpX C (rIn C.K true) M δ μ μ (.d (.int z)) e (.d (.bool (!decide (z ∈ zs)))) := fun σ H u v o h1 h2 Q k => by
  obtain ⟨p, ws, q1, q2, q3⟩ := r.lst o h2
  have e3 := DpAll.ints q3
  subst e3
  refine ⟨p, zs.map V.int, q1, .inl q2, by rw [Dp.int_of h1]; rfl, flat_ints zs, ?_⟩
  rw [Dp.int_of h1, if_pos rfl, inV_ints]
  exact k _ H o (Ex.refl _) (.bl _)
/-- data in a list of data -/
theorem o_inD {d : PyData} {ds : List PyData} (r1 : Rdd μ e d) (r2 : Rdd μ e' (.list ds)) (s1 : SeqAt.shaped d = true) (s2 : SeqAt.shaped (.list ds) = true) : OpX C (rInD C.K) M δ μ μ e e' (.d (.bool (ds.any fun z => PyData.eqv z d))) := fun σ H x y o h1 h2 Q k =>
  ⟨d, ds, (r1.dp o h1).w, (r2.dp o h2).w, s1, s2, k _ H o (Ex.refl _) (.bl _)⟩
theorem o_notInD {d : PyData} {ds : List PyData} (r1 : Rdd μ e d) (r2 : Rdd μ e' (.list ds)) (s1 : SeqAt.shaped d = true) (s2 : SeqAt.shaped (.list ds) = true) : OpX C (rNotInD C.K) M δ μ μ e e' (.d (.bool (!ds.any fun z => PyData.eqv z d))) := fun σ H x y o h1 h2 Q k =>
  ⟨d, ds, (r1.dp o h1).w, (r2.dp o h2).w, s1, s2, k _ H o (Ex.refl _) (.bl _)⟩
end
end FD
/-! Small rules: x[i] += e, [..] + [..] as a list of one's own, signs of a text, chained comparisons, upper, `in` a list of data, `is` a bool. -/
namespace FD
open PySem L2 Evl
open PySem.Spec PyProof.Rows PySem.W
/-! ### x[i] of a list, for x[i] += e -/
def rGetL (K : PySem.W.Frag) : V → V → Hp → VK → Prop := fun o i H Q => ∃ p xs k z, o = .ref p ∧ i = .int k ∧ SqL K H p xs ∧ 0 ≤ k ∧ xs[k.toNat]? = some z ∧ Q z H
theorem get_list {X : Cx} : PGet X (rGetL X.K) := by
  intro pins s σ H o i ov iv Q I ro ri h
  obtain ⟨p, xs, k, z, rfl, rfl, hq, h0, hz, q⟩ := h
  cases ro
  obtain ⟨t, rfl⟩ := ri
  obtain ⟨its, r, pl, sz⟩ := I.list hq
  obtain ⟨w, ew, rw'⟩ := r.get hz
  have hl := r.length
  have hn := line63
  have hk := (List.getElem?_eq_some_iff.mp hz).1
  exact wpAny_getItem_list pl.isList h0 (by omega) (by simpa using ew) ⟨z, H, I, rw', q⟩
theorem rep_one {α : Type} (x : α) : ∀ n : Nat, (List.replicate n [x]).flatten = List.replicate n x
  | 0 => rfl
  | n + 1 => by rw [List.replicate_succ, List.flatten_cons, rep_one x n, List.replicate_succ]; rfl
section
variable {C : Cfg} {M : List Addr} {δ : List Ent} {μ μ1 μ2 μ3 μ4 : Mem} {ta tb te : TE} {D : Ends} {t2 : TS} {a : Addr} {j k : Nat} {ns : List Int} {m n : Int} {i : Nat} {e : Ent}
theorem r_augL {f : Int → Int → Int} (hx : EvX C ta M δ μ μ1 (.m a)) (hi : EvX C tb M δ μ1 μ2 (.d (.int (k : Nat)))) (h2 : μ2[j]? = some (a, .lst (ns.map .int))) (hk : ns[k]? = some m) (he : EvX C te M δ μ2 μ3 (.d (.int n))) (h3 : μ3[j]? = some (a, .lst (ns.map .int)))
    (kk : Nx C D M δ (μ3.set j (a, .lst ((ns.set k (f m n)).map .int)))) : Run C (tAugS ta tb te (rGetL C.K) (ipI f) rSetL) D M δ μ := fun σ H o => hx σ H o _ fun v H1 o1 x1 r1 => by
  have e1 : v = .ref a := r1
  subst e1
  refine hi σ H1 o1 _ fun w H2 o2 x2 r2 => ?_
  obtain ⟨_, _, vs, q1, q2⟩ := o2.mem _ (List.mem_of_getElem? h2)
  have ev := DpAll.ints q2
  subst ev
  have w1 := Dp.int_of r2
  refine ⟨a, _, (k : Nat), .int m, rfl, w1, SqL.of q1, by omega, by rw [Int.toNat_natCast, List.getElem?_map, hk]; rfl, ?_⟩
  refine he σ H2 o2 _ fun u H3 o3 x3 r3 => ?_
  refine ⟨m, n, rfl, Dp.int_of r3, ?_⟩
  obtain ⟨_, _, vs3, q3, q4⟩ := o3.mem _ (List.mem_of_getElem? h3)
  have ev := DpAll.ints q4
  subst ev
  have hl := (List.getElem?_eq_some_iff.mp hk).1
  refine ⟨a, _, (k : Nat), k, rfl, w1, q3, ?_, ?_⟩
  · unfold ixN
    rw [if_pos (by omega), if_pos (by rw [List.length_map]; omega), Int.toNat_natCast]
  · have e4 : (ns.map V.int).set k (V.int (f m n)) = (ns.set k (f m n)).map V.int := by rw [List.map_set]
    rw [e4]
    exact kk σ _ (o3.write h3 ⟨_, upd_same, DpAll.of_ints _⟩)
/-- [z] * n, data -/
theorem x_rep0 {z : Int} {n : Nat} (h : ∀ M' μ', EvX C tb M' δ μ' μ' (.d (.int (n : Int)))) (hn : n ≤ 100000) : EvX C (tOp rRep (tLst (tCons (tC (.int z)) tNil)) tb) M δ μ μ (.d (.list ((List.replicate n z).map .int))) := fun σ H o Q kk => ⟨sz_of (by simp), fun p hp => by
  have o1 : Ok C M δ μ σ (upd H p (.lst [.int z])) := o.grow (Ex.new hp)
  refine h M μ σ _ o1 _ fun v H1 o2 x1 r1 => ?_
  have hpM := o.fresh hp
  have q1 : hide M H1 p = some (.lst [.int z]) := x1 p _ (by rw [hide_out hpM, upd_same])
  refine ⟨p, n, [.int z], rfl, Dp.int_of r1, (hide_some q1).2, by omega, by omega, sz_of (by simp; omega), fun q hq => ?_⟩
  have e2 : (List.replicate ((n : Int)).toNat [V.int z]).flatten = (List.replicate n z).map V.int := by
    rw [Int.toNat_natCast, List.map_replicate]
    exact rep_one _ n
  rw [e2]
  obtain ⟨o3, x3, d3⟩ := o2.lst hq (DpAll.of_ints (K := C.K) (H := hide M H1) (List.replicate n z))
  exact kk _ _ o3 (((hide_ex (Ex.new hp)).trans x1).trans x3) d3⟩
/-- x = list + list, of one's own -/
theorem q_newCat {ds es : List PyData} (ha : EvX C ta M δ μ μ1 (.d (.list ds))) (hb : EvX C tb M δ μ1 μ2 (.d (.list es))) (hz : ds.length + es.length ≤ 100000) (kk : ∀ p, p ∉ M → Run C t2 D (p :: M) (δ.set i (.m p)) ((p, .lst (ds ++ es)) :: μ2)) : Run C (tSeq (tAsg (tOp (rCatL C.K) ta tb) (gName i)) t2) D M δ μ := fun σ H o =>
  ha σ H o _ fun v H1 o1 x1 r1 => hb σ H1 o1 _ fun w H2 o2 x2 r2 => by
    obtain ⟨a, vs, q1, q2, q3⟩ := Dp.lst_of r1
    obtain ⟨b, ws, p1, p2, p3⟩ := Dp.lst_of r2
    have q3' := dpAll_mono x2 _ _ q3
    refine ⟨a, b, vs, ws, q1, p1, ex_l hide_le (ex_l x2 q2), ex_l hide_le p2, by rw [q3.length, p3.length]; exact sz_of hz, fun p hp => ?_⟩
    have pM := o2.fresh hp
    have o3 := o2.new hp (mo := .lst (ds ++ es)) (ho := .lst (vs ++ ws)) ⟨_, upd_same, dpAll_mono (hide_new hp) _ _ (q3'.append p3)⟩
    exact kk p pM _ _ (o3.set i (e := .m p) rfl)
end
/-! ### texts -/
def signs (x : Str) : List PyData := x.cps.toList.map fun c => PyData.str ⟨#[c]⟩
section
variable {C : Cfg} {M : List Addr} {δ : List Ent} {μ μ1 μ2 μ3 : Mem} {ta tb tc te : TE} {D : Ends} {t2 : TS} {e : Ent} {x : Str} {b : Bool} {i j l : Nat} {tr : TA}
theorem w_str {K : PySem.W.Frag} {Hh : Hp} : WalkD K (Its x) Hh (signs x) where
  go := fun M i H hi _ _ => by
    have : i < x.cps.size := by unfold signs at hi; rw [List.length_map, Array.length_toList] at hi; exact hi
    exact this
  stop := fun M H _ _ => by
    show x.cps.size ≤ _
    unfold signs
    rw [List.length_map, Array.length_toList]
    exact Nat.le_refl _
  yld := fun M i H v H' hi al ex h => by
    obtain ⟨rfl, c, hc, rfl⟩ := h
    refine ⟨Ex.refl _, .str ⟨#[c]⟩, ?_, .str _⟩
    unfold signs
    rw [List.getElem?_map, Array.getElem?_toList, hc]; rfl
theorem i_str (h : EvX C te M δ μ μ1 (.d (.str x))) : EvI C (iStr te) M δ μ μ1 (signs x) := fun σ H o R k => h σ H o _ fun v H1 o1 x1 r1 => ⟨x, Dp.str_of r1, k _ H1 o1 x1 w_str⟩
theorem o_inSign {c : Nat} : OpX C (fun x y H Q => ∃ (c : Nat) (z : Str), x = .str ⟨#[c]⟩ ∧ y = .str z ∧ Q (.bl (decide (c ∈ z.cps.toList))) H) M δ μ μ (.d (.str ⟨#[c]⟩)) (.d (.str x)) (.d (.bool (decide (c ∈ x.cps.toList)))) := fun σ H u v o h1 h2 Q k => ⟨c, x, Dp.str_of h1, Dp.str_of h2, k _ H o (Ex.refl _) (.bl _)⟩
/-- a <= b <= c of ints -/
theorem x_chainI {g g' : Int → Int → Bool} {m n k : Int} (ha : EvX C ta M δ μ μ (.d (.int m))) (hb : EvX C tb M δ μ μ (.d (.int n))) (hc : EvX C tc M δ μ μ (.d (.int k))) : EvX C (tChain (rI0 fun i j => .bl (g i j)) (rI0 fun i j => .bl (g' i j)) ta tb tc) M δ μ μ (.d (.bool (g m n && g' n k))) := fun σ H o Q kk =>
  ha σ H o _ fun u H1 o1 x1 r1 => hb σ H1 o1 _ fun v H2 o2 x2 r2 => ⟨m, n, Dp.int_of r1, Dp.int_of r2, g m n, rfl, by
    cases h : g m n with
    | true =>
      rw [if_pos rfl]
      exact hc σ H2 o2 _ fun w H3 o3 x3 r3 => ⟨n, k, Dp.int_of r2, Dp.int_of r3, kk _ H3 o3 ((x1.trans x2).trans x3) (by rw [h]; exact .bl _)⟩
    | false =>
      rw [if_neg (by decide)]
      exact kk _ H2 o2 (x1.trans x2) (by rw [h]; exact .bl _)⟩
theorem x_upper (h : EvX C te M δ μ μ1 (.d (.str x))) (hz : x.length ≤ 5592405) : EvX C (tM0 (fun x xs H Q => ∃ a, x = .str a ∧ xs = [] ∧ a.length ≤ 5592405 ∧ Q (.str (Txt.upper a)) H) te) M δ μ μ1 (.d (.str (Txt.upper x))) := fun σ H o Q k => h σ H o _ fun v H1 o1 x1 r1 => ⟨⟨x, Dp.str_of r1⟩, x, Dp.str_of r1, rfl, hz, k _ H1 o1 x1 (.str _)⟩
theorem o_inDd {d : PyData} {ds : List PyData} {e' : Ent} (r1 : Rdd μ e d) (r2 : Rdd μ e' (.list ds)) (s1 : SeqAt.shaped d = true) (s2 : SeqAt.shaped (.list ds) = true) : OpX C (rInD C.K) M δ μ μ e e' (.d (.bool (ds.any fun z => PyData.eqv z d))) := fun σ H x y o h1 h2 Q k =>
  ⟨d, ds, (r1.dp o h1).w, (r2.dp o h2).w, s1, s2, k _ H o (Ex.refl _) (.bl _)⟩
theorem o_isB {b c : Bool} : OpX C rIsB M δ μ μ (.d (.bool b)) (.d (.bool c)) (.d (.bool (decide (b = c)))) := fun σ H x y o h1 h2 Q k => ⟨b, c, Dp.bool_of h1, Dp.bool_of h2, k _ H o (Ex.refl _) (.bl _)⟩
theorem o_notIsB {b c : Bool} : OpX C rNotB M δ μ μ (.d (.bool b)) (.d (.bool c)) (.d (.bool (!decide (b = c)))) := fun σ H x y o h1 h2 Q k => ⟨b, c, Dp.bool_of h1, Dp.bool_of h2, k _ H o (Ex.refl _) (.bl _)⟩
/-! ### list(..) as data; three values at once -/
theorem c_listTd {ds : List PyData} : CallX C (rListOf C.K) M δ μ μ [.d (.tuple ds)] (.d (.list ds)) := fun σ H vs o h Q k => by
  obtain ⟨v, rfl, q⟩ := p1 h
  obtain ⟨a, ws, q1, q2, q3⟩ := Dp.tup_of q
  refine ⟨a, ws, by rw [q1], .inr (ex_t hide_le q2), fun l hl => ?_⟩
  obtain ⟨o', x', d'⟩ := o.lst hl q3
  exact k _ _ o' x' d'
theorem c_listLd {ds : List PyData} (r : Rdd μ e (.list ds)) : CallX C (rListOf C.K) M δ μ μ [e] (.d (.list ds)) := fun σ H vs o h Q k => by
  obtain ⟨v, rfl, q⟩ := p1 h
  obtain ⟨a, ws, q1, q2, q3⟩ := r.lst o q
  refine ⟨a, ws, by rw [q1], .inl q2, fun l hl => ?_⟩
  obtain ⟨o', x', d'⟩ := o.lst hl q3
  exact k _ _ o' x' d'
theorem c_tupleTd {ds : List PyData} : CallX C (rTupleS C.K) M δ μ μ [.d (.tuple ds)] (.d (.tuple ds)) := fun σ H vs o h Q k => by
  obtain ⟨v, rfl, q⟩ := p1 h
  obtain ⟨a, ws, q1, q2, q3⟩ := Dp.tup_of q
  refine ⟨a, ws, by rw [q1], .inr ⟨ex_t hide_le q2, ?_⟩⟩
  refine k _ H o (Ex.refl _) ?_
  rw [← q1]; exact q
theorem q_par3 {e1 e2 e3 : Ent} (h : EvA C tr M δ μ μ1 [e1, e2, e3]) (k : Run C t2 D M (((δ.set i e1).set j e2).set l e3) μ1) : Run C (tSeq (tPar3 i j l tr) t2) D M δ μ := fun σ H o =>
  h σ H o _ fun vs H1 o1 x1 r1 => by
    cases r1 with
    | cons h1 r1 =>
      cases r1 with
      | cons h2 r1 =>
        cases r1 with
        | cons h3 r1 =>
          cases r1
          exact ⟨_, _, _, rfl, k _ H1 (((o1.set i h1).set j h2).set l h3)⟩
end
end FD
/-! small rules that laws share: joins behind an if, targets of three and four, defs without a return -/
namespace FD
open PySem L2 Evl
section
variable {C : Cfg} {M : List Addr} {δ δ' : List Ent} {μ μ' μ'' μ1 μ2 : Mem} {t u : TT} {t1 t2 t3 : TS} {D : Ends} {b c : Bool} {te : TE} {g : TG} {d : PyData} {i j k l : Nat}
theorem q_ifJ (δ' : List Ent) (μ'' : Mem) (h : EvT C t M δ μ μ' b) (h1 : b = true → ∀ D', Nx C D' M δ' μ'' → Run C t1 D' M δ μ') (h2 : b = false → ∀ D', Nx C D' M δ' μ'' → Run C t2 D' M δ μ') (k : Run C t3 D M δ' μ'') : Run C (tSeq (tIfS t t1 t2) t3) D M δ μ :=
  q_if h (fun hb => h1 hb { D with nx := t3 D } k) (fun hb => h2 hb { D with nx := t3 D } k)
theorem nx_to {δ1 : List Ent} {μ1 : Mem} (k : Nx C D M δ1 μ1) (e1 : δ = δ1) (e2 : μ = μ1) : Nx C D M δ μ := by rw [e1, e2]; exact k
theorem q_asgG {tl : List Nat} (h : EvX C te M δ μ μ' (.d d)) (tg : TgX C.K g tl d δ δ') (k : Run C t2 D M δ' μ') : Run C (tSeq (tAsg te g) t2) D M δ μ := fun σ H o =>
  h σ H o _ fun v H' o' x r => tg C M μ' σ H' v rfl o' r _ fun σ' o2 _ _ => k σ' H' o2
theorem q_whenJ (J : List Ent → Mem → Prop) (h : EvT C t M δ μ μ' b) (h1 : b = true → ∀ D', (∀ δ1 μ1, J δ1 μ1 → Nx C D' M δ1 μ1) → Run C t1 D' M δ μ') (h2 : b = false → J δ μ') (k : ∀ δ1 μ1, J δ1 μ1 → Run C t3 D M δ1 μ1) : Run C (tSeq (tIfS t t1 tNext) t3) D M δ μ :=
  q_when h (fun hb => h1 hb { D with nx := t3 D } k) (fun hb => k _ _ (h2 hb))
theorem q_ifJ2 (J : List Ent → Mem → Prop) (h : EvT C t M δ μ μ' b) (h1 : b = true → ∀ D', (∀ δ1 μ1, J δ1 μ1 → Nx C D' M δ1 μ1) → Run C t1 D' M δ μ') (h2 : b = false → ∀ D', (∀ δ1 μ1, J δ1 μ1 → Nx C D' M δ1 μ1) → Run C t2 D' M δ μ') (k : ∀ δ1 μ1, J δ1 μ1 → Run C t3 D M δ1 μ1) : Run C (tSeq (tIfS t t1 t2) t3) D M δ μ :=
  q_if h (fun hb => h1 hb { D with nx := t3 D } k) (fun hb => h2 hb { D with nx := t3 D } k)
/-- a test that is false: the suite is not gone through -/
theorem q_no (h : EvT C t M δ μ μ' false) (k : Run C t3 D M δ μ') : Run C (tSeq (tIfS t t1 tNext) t3) D M δ μ := q_when h (fun z => nomatch z) fun _ => k
theorem r_no (h : EvT C t M δ μ μ' false) (k : Nx C D M δ μ') : Run C (tIfS t t1 tNext) D M δ μ := r_if h (fun z => nomatch z) fun _ => r_next k
theorem t_orF (h1 : EvT C t M δ μ μ1 false) (h2 : EvT C u M δ μ1 μ2 false) : EvT C (tOr t u) M δ μ μ2 false := t_or (b := false) (c := false) h1 (fun _ => h2) fun z => nomatch z
theorem t_notT (h : EvT C t M δ μ μ1 true) : EvT C (tNot t) M δ μ μ1 false := t_not h
theorem t_andT (h1 : EvT C t M δ μ μ1 true) (h2 : EvT C u M δ μ1 μ2 true) : EvT C (tAnd t u) M δ μ μ2 true := t_and (b := true) (c := true) h1 (fun _ => h2) fun z => nomatch z
theorem x_andT {ta tb : TE} (h1 : EvX C ta M δ μ μ1 (.d (.bool true))) (h2 : EvX C tb M δ μ1 μ2 (.d (.bool c))) : EvX C (tAndV ta tb) M δ μ μ2 (.d (.bool c)) := x_andV (b := true) h1 (fun _ => h2) fun z => nomatch z
theorem tg_tup3 {K : PySem.W.Frag} {d1 d2 d3 : PyData} : TgX K (gTup K 3 (gCons (gName i) (gCons (gName j) (gCons (gName k) gNil)))) [i, j, k] (.tuple [d1, d2, d3]) δ (((δ.set i (.d d1)).set j (.d d2)).set k (.d d3)) := fun C M μ σ H v hK o h Q kk => by
  subst hK
  obtain ⟨a, vs, q1, q2, q3⟩ := Dp.tup_of h
  rcases q3 with _ | ⟨h1, q3⟩
  rcases q3 with _ | ⟨h2, q3⟩
  rcases q3 with _ | ⟨h3, q3⟩
  cases q3
  refine ⟨a, _, q1, ex_t hide_le q2, rfl, _, _, rfl, _, _, rfl, _, _, rfl, rfl, ?_⟩
  refine kk _ (((o.set i (e := .d d1) h1).set j (e := .d d2) h2).set k (e := .d d3) h3) (by simp only [List.length_set]) fun m hm => ?_
  rw [List.getElem?_set_ne (fun z => hm (by simp [z])), List.getElem?_set_ne (fun z => hm (by simp [z])), List.getElem?_set_ne (fun z => hm (by simp [z]))]
theorem tg_tup4 {K : PySem.W.Frag} {d1 d2 d3 d4 : PyData} : TgX K (gTup K 4 (gCons (gName i) (gCons (gName j) (gCons (gName k) (gCons (gName l) gNil))))) [i, j, k, l] (.tuple [d1, d2, d3, d4]) δ ((((δ.set i (.d d1)).set j (.d d2)).set k (.d d3)).set l (.d d4)) := fun C M μ σ H v hK o h Q kk => by
  subst hK
  obtain ⟨a, vs, q1, q2, q3⟩ := Dp.tup_of h
  rcases q3 with _ | ⟨h1, q3⟩
  rcases q3 with _ | ⟨h2, q3⟩
  rcases q3 with _ | ⟨h3, q3⟩
  rcases q3 with _ | ⟨h4, q3⟩
  cases q3
  refine ⟨a, _, q1, ex_t hide_le q2, rfl, _, _, rfl, _, _, rfl, _, _, rfl, _, _, rfl, rfl, ?_⟩
  refine kk _ ((((o.set i (e := .d d1) h1).set j (e := .d d2) h2).set k (e := .d d3) h3).set l (e := .d d4) h4) (by simp only [List.length_set]) fun m hm => ?_
  rw [List.getElem?_set_ne (fun z => hm (by simp [z])), List.getElem?_set_ne (fun z => hm (by simp [z])), List.getElem?_set_ne (fun z => hm (by simp [z])), List.getElem?_set_ne (fun z => hm (by simp [z]))]
end
section
variable {P : Program} {w : World} {K : PySem.W.Frag} {mg : Str → Option Value} {base : Heap}
/-- a def that may come to its end without a return -/
theorem def_En {x qual : Str} {st : Stmt} {f : Addr} {fd : FuncData} {N ps : List Str} {k n : Nat} {R : List Ent → Mem → PyData → Mem → Prop} (F : Fun K x qual st f fd) (S : FnScope N ps (defScope st)) (hN : ps.length ≤ N.length) (hp : ps.length = n)
    (h : ∀ (cdv : Value) (A : Around) (outer : List Env) (s : Shared) (H : Hp) (E : XK), Room k (A.deeper (PyProof.Rows.envOfC qual (defScope st) s.heap.objs.size f cdv)) →
      ∃ t, PSs (cxOf CX0 P w K mg base N qual (defScope st) f cdv A outer s H E).nox (defBody st) t ∧
        ∀ (M : List Addr) (G B : Hp) (es : List Ent) (μ : Mem) (d : PyData) (μ' : Mem), R es μ d μ' → ∀ D : Ends, (∀ σ H, D.rt .non H → D.nx σ H) → FinE ⟨K, M, G, B⟩ D d μ' → Run ⟨K, M, G, B⟩ t D M (startE N.length es.length es) μ) :
    FnOk P w K mg base CX0 (k + 1) f fd ps (spE K n R) := by
  refine F.ok S (fun vs H Q E hs => hs.1.trans hp.symm) fun cdv A outer s H vs Q E hr hs => ?_
  obtain ⟨hn, M, es, μ, d, μ', al, he, hm, nd, had, hR, kk⟩ := hs
  obtain ⟨t, ht, run⟩ := h cdv A outer s H E hr
  refine ⟨t, ht, run M (hide (ad μ) H) (hide M H) es μ d μ' hR _ (fun _ _ q => q) (fun v M' H' e s m r => kk v H' e (fun p hp => (m p hp).mono (hide_sub s) fun _ q => q) (dp_mono (hide_sub s) _ _ r)) _ _ (ok_startE al he hm nd (by rw [hn, ← hp]; exact hN))⟩
theorem nx_endE {C : Cfg} {M : List Addr} {δ : List Ent} {μ μ' : Mem} {D : Ends} (hn : ∀ σ H, D.rt .non H → D.nx σ H) (fin : FinE C D .none μ') (hs : ∀ p ∈ μ', p ∈ μ) : Nx C D M δ μ := fun σ H o => hn σ H (fin .non M H o.gr o.sub (fun p hp => (o.mem p (hs p hp)).2.2) .non)
end
end FD
/-! comprehensions and loops over the data of a list -/
namespace FD
open PySem L2 Evl
section
variable {α : Type} {C : Cfg} {M : List Addr} {δ : List Ent} {μ μ' μ1 : Mem} {wi : TI} {g : TG} {tt : TT} {te : TE} {vs : List Nat} {l : List α} {enc : α → PyData} {D : Ends} {t2 ts : TS}
theorem lcD_list (p : α → Bool) (f : α → PyData) (a0 : α) : ∀ l : List α, lcD (fun i => p (l.getD i a0)) (fun i => f (l.getD i a0)) l.length = (l.filter p).map f := fun l => by
  have e : l = (List.range l.length).map fun i => l.getD i a0 := by
    refine List.ext_getElem? fun j => ?_
    rw [List.getElem?_map]
    by_cases hj : j < l.length
    · rw [List.getElem?_range hj, List.getElem?_eq_getElem hj]
      simp [List.getD_eq_getElem?_getD, List.getElem?_eq_getElem hj]
    · rw [List.getElem?_eq_none (by omega), List.getElem?_eq_none (by rw [List.length_range]; omega)]; rfl
  unfold lcD
  conv => rhs; rw [e]
  rw [List.filter_map, List.map_map]
  rfl
theorem x_lcF {p : α → Bool} {f : α → PyData} (hi : EvI C wi M δ μ μ' (l.map enc)) (hz : l.length ≤ 100000) {ts : List Nat} (dl : α → List Ent) (htg : ∀ a ∈ l, TgX C.K g ts (enc a) (wipeE δ vs) (dl a)) (hts : ∀ k ∈ ts, k ∈ vs)
    (ht : ∀ a ∈ l, ∀ (G B : Hp) (D : Addr), EvT { C with G := G, B := B } tt (D :: M) (dl a) μ' μ' (p a)) (he : ∀ a ∈ l, p a = true → ∀ (G B : Hp) (D : Addr), EvX { C with G := G, B := B } te (D :: M) (dl a) μ' μ' (.d (f a))) :
    EvX C (tLc wi g tt te vs) M δ μ μ' (.d (.list ((l.filter p).map f))) := by
  cases l with
  | nil =>
    have h := x_lc (t := tt) (g := g) (te := te) (vs := vs) (fun _ => μ') (fun _ => true) (fun _ => PyData.none) hi (Nat.zero_le _) fun i d hd => by simp at hd
    exact h
  | cons a0 r =>
    generalize hl : a0 :: r = l at hi hz htg ht he ⊢
    rw [← lcD_list p f a0 l]
    have e : (l.map enc).length = l.length := List.length_map ..
    rw [← e]
    have gt : ∀ {i : Nat} {d : PyData}, (l.map enc)[i]? = some d → d = enc (l.getD i a0) ∧ l.getD i a0 ∈ l := fun {i d} hd => by
      have hlt := (List.getElem?_eq_some_iff.mp hd).1
      rw [e] at hlt
      rw [List.getElem?_map, List.getElem?_eq_getElem hlt] at hd
      rw [List.getD_eq_getElem?_getD, List.getElem?_eq_getElem hlt]
      exact ⟨(Option.some.inj hd).symm, List.getElem_mem _⟩
    exact x_lc (fun _ => μ') (fun i => p (l.getD i a0)) (fun i => f (l.getD i a0)) hi (by rw [e]; exact hz) fun i d hd G B D => by
      obtain ⟨e1, hm⟩ := gt hd
      exact ⟨ts, dl (l.getD i a0), μ', by rw [e1]; exact htg _ hm, hts, ht _ hm G B D, fun q => he _ hm q G B D, fun _ => rfl⟩
theorem x_lcA {f : α → PyData} (hi : EvI C wi M δ μ μ' (l.map enc)) (hz : l.length ≤ 100000) {ts : List Nat} (dl : α → List Ent) (htg : ∀ a ∈ l, TgX C.K g ts (enc a) (wipeE δ vs) (dl a)) (hts : ∀ k ∈ ts, k ∈ vs)
    (he : ∀ a ∈ l, ∀ (G B : Hp) (D : Addr), EvX { C with G := G, B := B } te (D :: M) (dl a) μ' μ' (.d (f a))) :
    EvX C (tLc wi g tYes te vs) M δ μ μ' (.d (.list (l.map f))) := by
  have h := x_lcF (p := fun _ => true) (f := f) hi hz dl htg hts (fun _ _ _ _ _ => t_yes) fun a ha _ => he a ha
  rw [show l.filter (fun _ => true) = l from List.filter_eq_self.mpr fun _ _ => rfl] at h
  exact h
theorem enumD_map (l : List α) (enc : α → PyData) : enumD (l.map enc) = l.zipIdx.map fun q => PyData.tuple [.int (q.2 : Int), enc q.1] := by
  unfold enumD
  rw [List.zipIdx_map, List.map_map]
  rfl
theorem q_forA (hi : EvI C wi M δ μ μ1 (l.map enc)) (P : Nat → List Ent → Mem → Prop) (h0 : P 0 δ μ1)
    (hs : ∀ B, Ex C.B B → ∀ (i : Nat) (a : α) (δ1 : List Ent) (μ1 : Mem), l[i]? = some a → P i δ1 μ1 → ∃ tl δ2, TgX C.K g tl (enc a) δ1 δ2 ∧ Run { C with B := B } ts { D with nx := NX { C with B := B } M (P (i + 1)), ct := NX { C with B := B } M (P (i + 1)), bk := t2 D } M δ2 μ1)
    (hd : ∀ δ1 μ1, P l.length δ1 μ1 → Run C t2 D M δ1 μ1) : Run C (tSeq (tFor wi g ts) t2) D M δ μ :=
  q_for hi P h0 (fun B x i d δ1 μ1 e p => by
    rw [List.getElem?_map] at e
    cases q : l[i]? with
    | none => rw [q] at e; cases e
    | some a =>
      rw [q] at e
      rw [← Option.some.inj e]
      exact hs B x i a δ1 μ1 q p) fun δ1 μ1 p => hd δ1 μ1 (by rw [List.length_map] at p; exact p)
theorem r_forA (hi : EvI C wi M δ μ μ1 (l.map enc)) (P : Nat → List Ent → Mem → Prop) (h0 : P 0 δ μ1)
    (hs : ∀ B, Ex C.B B → ∀ (i : Nat) (a : α) (δ1 : List Ent) (μ1 : Mem), l[i]? = some a → P i δ1 μ1 → ∃ tl δ2, TgX C.K g tl (enc a) δ1 δ2 ∧ Run { C with B := B } ts { D with nx := NX { C with B := B } M (P (i + 1)), ct := NX { C with B := B } M (P (i + 1)), bk := D.nx } M δ2 μ1)
    (hd : ∀ δ1 μ1, P l.length δ1 μ1 → Nx C D M δ1 μ1) : Run C (tFor wi g ts) D M δ μ :=
  r_for hi P h0 (fun B x i d δ1 μ1 e p => by
    rw [List.getElem?_map] at e
    cases q : l[i]? with
    | none => rw [q] at e; cases e
    | some a =>
      rw [q] at e
      rw [← Option.some.inj e]
      exact hs B x i a δ1 μ1 q p) fun δ1 μ1 p => hd δ1 μ1 (by rw [List.length_map] at p; exact p)
theorem all_true (l : List α) : ((l.map fun _ => true).all id) = true := by rw [List.all_map, List.all_eq_true]; exact fun _ _ => rfl
end
end FD
/-! dicts with text keys: a key stored that may stand there already; len(d) -/
namespace FD
open PySem L2 Evl
/-- a statement that is not reached -/
theorem ps_no {X : Cx} {st : Stmt} : PS X st (fun _ _ _ => False) := ⟨fun _ _ _ _ _ _ h => h.elim⟩
def putDc (l : Dct) (k : Str) (d : PyData) : Dct := if k ∈ l.map (·.1) then l.map (fun p => if p.1 = k then (p.1, d) else p) else l ++ [(k, d)]
theorem putDc_keys (l : Dct) (k : Str) (d : PyData) : (putDc l k d).map (·.1) = if k ∈ l.map (·.1) then l.map (·.1) else l.map (·.1) ++ [k] := by
  unfold putDc
  by_cases h : k ∈ l.map (·.1)
  · rw [if_pos h, if_pos h, List.map_map]
    refine List.map_congr_left fun p _ => ?_
    show (if p.1 = k then (p.1, d) else p).1 = p.1
    split <;> rfl
  · rw [if_neg h, if_neg h, List.map_append]; rfl
theorem putDc_nd {l : Dct} {k : Str} {d : PyData} (h : (l.map (·.1)).Nodup) : ((putDc l k d).map (·.1)).Nodup := by
  rw [putDc_keys]
  by_cases q : k ∈ l.map (·.1)
  · rw [if_pos q]; exact h
  · rw [if_neg q]
    refine List.nodup_append.mpr ⟨h, by simp, fun a ha b hb e => ?_⟩
    rw [List.mem_singleton.mp hb] at e
    exact q (e ▸ ha)
theorem putDc_mem {l : Dct} {k x : Str} {d : PyData} : x ∈ (putDc l k d).map (·.1) ↔ x = k ∨ x ∈ l.map (·.1) := by
  rw [putDc_keys]
  by_cases q : k ∈ l.map (·.1)
  · rw [if_pos q]; exact ⟨.inr, fun h => h.elim (fun e => e ▸ q) id⟩
  · rw [if_neg q, List.mem_append, List.mem_singleton]; exact Or.comm
theorem dc_put {K : PySem.W.Frag} {Hh : Hp} {l : Dct} {ws : List (Key × V)} {k : Str} {v : V} {d : PyData} (c : DcOk K Hh ws (kd l)) (h : Dp K Hh v d) : DcOk K Hh (putK ws (.inr k) v) (kd (putDc l k d)) := by
  by_cases q : k ∈ l.map (·.1)
  · have e : (ws.any fun kv => decide (kv.1 = (Sum.inr k : Key))) = true := by
      rw [List.any_eq_true]
      have : (Sum.inr k : Key) ∈ ws.map (·.1) := by rw [dc_keys c]; exact List.mem_map_of_mem q
      obtain ⟨p, hp, e⟩ := List.mem_map.mp this
      exact ⟨p, hp, decide_eq_true e⟩
    unfold putK putDc
    rw [if_pos e, if_pos q]
    clear e q
    generalize hk : kd l = kl at c
    have : kd (l.map fun p => if p.1 = k then (p.1, d) else p) = kl.map fun p => if p.1 = (Sum.inr k : Key) then (p.1, d) else p := by
      rw [← hk]
      unfold kd
      rw [List.map_map, List.map_map]
      refine List.map_congr_left fun p _ => ?_
      show (Sum.inr (if p.1 = k then (p.1, d) else p).1, (if p.1 = k then (p.1, d) else p).2) = if (Sum.inr p.1 : Key) = Sum.inr k then ((Sum.inr p.1 : Key), d) else (Sum.inr p.1, p.2)
      by_cases e : p.1 = k
      · rw [if_pos e, if_pos (congrArg _ e)]
      · rw [if_neg e, if_neg fun z => e (Sum.inr.inj z)]
    rw [this]
    clear this hk
    induction c with
    | nil => exact .nil
    | @cons p q ps qs hq _ ih =>
      rw [List.map_cons, List.map_cons]
      refine .cons ?_ ih
      by_cases e : q.1 = (Sum.inr k : Key)
      · rw [if_pos (hq.1.trans e), if_pos e]; exact ⟨hq.1, h⟩
      · rw [if_neg fun z => e (hq.1.symm.trans z), if_neg e]; exact hq
  · unfold putDc
    rw [if_neg q]
    exact dc_snoc c q h
section
variable {C : Cfg} {M : List Addr} {δ : List Ent} {μ μ1 μ2 μ3 : Mem} {te ta tb : TE} {D : Ends} {t2 : TS} {i j : Nat} {a : Addr} {d : PyData} {k : Str} {l : Dct} {e : Ent} {mo : MO}
theorem r_dputA (h : EvX C te M δ μ μ1 (.d d)) (hx : EvX C ta M δ μ1 μ2 (.m a)) (hi : EvX C tb M δ μ2 μ3 (.d (.str k))) (hj : μ3[j]? = some (a, .dK (kd l))) (hl : l.length < 1000) (kk : Nx C D M δ (μ3.set j (a, .dK (kd (putDc l k d))))) :
    Run C (tAsg te (gSub ta tb rSetD)) D M δ μ := fun σ H o => h σ H o _ fun v H1 o1 x1 r1 => hx σ H1 o1 _ fun w H2 o2 x2 r2 => hi σ H2 o2 _ fun z H3 o3 x3 r3 => by
  have e1 : w = .ref a := r2
  have e2 : z = .str k := Dp.str_of r3
  obtain ⟨_, _, ws, q3, q4⟩ := o3.mem _ (List.mem_of_getElem? hj)
  show ∃ a' H', w = .ref a' ∧ DPut H3 a' z v H' ∧ D.nx σ H'
  refine ⟨a, _, e1, .inl ⟨ws, .inr k, q3, e2, sz_lt (by rw [dc_len q4]; omega), rfl⟩, ?_⟩
  exact kk _ _ (o3.write hj ⟨_, upd_same, dc_put q4 (EntOk.mono (e := .d d) (x2.trans x3) r1)⟩)
abbrev rLenDc : List V → Hp → VK → Prop := fun xs H Q => ∃ d kvs, xs = [V.ref d] ∧ H d = some (.dK kvs) ∧ Q (.int kvs.length) H
theorem c_lenDc (hm : (a, .dK (kd l)) ∈ μ) : CallX C rLenDc M δ μ μ [.m a] (.d (.int (l.length : Int))) := fun σ H vs o h Q kk => by
  obtain ⟨v, rfl, q⟩ := p1 h
  obtain ⟨_, _, ws, q3, q4⟩ := o.mem _ hm
  refine ⟨a, ws, by rw [show v = .ref a from q], q3, ?_⟩
  rw [dc_len q4]
  exact kk _ H o (Ex.refl _) (.int _)
/-- x, y = 0, {} -/
theorem q_parZD {z : Int} (kk : ∀ p, p ∉ M → Run C t2 D (p :: M) ((δ.set i (.d (.int z))).set j (.m p)) ((p, .dK (kd [])) :: μ)) : Run C (tSeq (tPar i j (tCons (tC (.int z)) (tCons tDNewK tNil))) t2) D M δ μ := fun σ H o => fun p hp => by
  have o2 := o.new hp (mo := .dK (kd [])) (ho := .dK []) ⟨[], upd_same, .nil⟩
  exact ⟨.int z, .ref p, rfl, kk p (o.fresh hp) _ _ ((o2.set i (e := .d (.int z)) (.int z)).set j (e := .m p) rfl)⟩
end
section
variable {μ0 μ1 : Mem}
theorem swap_id (hsub : ∀ p ∈ μ0, p ∈ μ1) (nd : (ad μ1).Nodup) : Swap μ0 μ0 μ1 μ1 where
  sub := hsub
  ad0 := rfl
  ad1 := rfl
  new := fun p hp => by
    by_cases h : p.1 ∈ ad μ0
    · left
      obtain ⟨q, hq, e⟩ := List.mem_map.mp h
      obtain ⟨i, hi⟩ := List.getElem?_of_mem hp
      obtain ⟨j, hj⟩ := List.getElem?_of_mem (hsub q hq)
      obtain ⟨a, y⟩ := p
      obtain ⟨b, z⟩ := q
      have e : b = a := e
      subst e
      have ij := nodup_fst nd hi hj
      subst ij
      rw [hi] at hj
      cases hj
      exact hq
    · exact .inr ⟨hp, h⟩
end
end FD
/-! reversed(list) walked -/
namespace FD
open PySem L2 Evl
theorem w_rev {K : PySem.W.Frag} {Hh : Hp} {a : Addr} {vs : List V} {xs : List PyData} (h : SqL K Hh a vs) (hd : DpAll K Hh vs xs) : WalkD K (Itv K a vs.length) Hh xs.reverse where
  go := fun M i H hi _ x => by
    rw [List.length_reverse, ← hd.length] at hi
    exact ⟨hi, vs, vs[vs.length - 1 - i], ex_l (x.trans hide_le) h, List.getElem?_eq_getElem (by omega)⟩
  stop := fun M H _ x => by
    show vs.length ≤ xs.reverse.length
    rw [List.length_reverse, hd.length]; exact Nat.le_refl _
  yld := fun M i H y H' hi _ x q => by
    obtain ⟨e, q⟩ := q
    subst e
    rw [List.length_reverse] at hi
    have hl := hd.length
    have hx : xs.reverse[i]? = xs[xs.length - 1 - i]? := List.getElem?_reverse hi
    refine ⟨Ex.refl _, xs[xs.length - 1 - i]'(by omega), by rw [hx]; exact List.getElem?_eq_getElem (by omega), ?_⟩
    obtain ⟨v, h1, h2⟩ := hd.get (i := xs.length - 1 - i) (d := xs[xs.length - 1 - i]'(by omega)) (List.getElem?_eq_getElem (by omega))
    have := q vs (ex_l (x.trans hide_le) h)
    rw [hl, h1] at this
    cases this
    exact dp_mono x _ _ h2
theorem i_rev {C : Cfg} {M : List Addr} {δ : List Ent} {μ μ' : Mem} {tr : TA} {xs : List PyData} (h : EvA C tr M δ μ μ' [.d (.list xs)]) : EvI C (iRev C.K tr) M δ μ μ' xs.reverse := fun σ H o R k => h σ H o _ fun vs H1 o1 x1 r => by
  obtain ⟨v, rfl, q⟩ := p1 r
  obtain ⟨a, ws, e1, e2, e3⟩ := Dp.lst_of q
  exact ⟨a, ws, by rw [e1], ex_l hide_le e2, k _ H1 o1 x1 (w_rev e2 e3)⟩
end FD
/-! the order of tuples of ints and texts is a total one -/
namespace FD
open PySem PySem.Spec L2 PyProof.Rows PySem.W PySem.Froz
theorem leK_tot : TotalLe leK := sortLe_total (listOrd itemOrd) false (fun q : List Key => keyToks (rowK q))
theorem toks_keys : ∀ {k l : List Key}, keyToksAll (k.map kyD) = keyToksAll (l.map kyD) → k = l
  | [], [], _ => rfl
  | [], y :: l, h => by cases y <;> simp [keyToksAll] at h
  | x :: k, [], h => by cases x <;> simp [keyToksAll] at h
  | x :: k, y :: l, h => by
    cases x <;> cases y
    · simp [kyD, keyToksAll, keyToks] at h
      rw [h.1, toks_keys h.2]
    · simp [kyD, keyToksAll, keyToks] at h
    · simp [kyD, keyToksAll, keyToks] at h
    · simp only [List.map_cons, kyD, keyToksAll, keyToks, List.cons_append, List.nil_append, List.cons.injEq, Sum.inr.injEq, true_and] at h
      rw [str_of_cps h.1, toks_keys h.2]
theorem leK_anti {k l : List Key} (h : leK k l = true) (q : leK l k = true) : k = l := by
  have h : (!(listOrd itemOrd).blt (keyToks (rowK l)) (keyToks (rowK k))) = true := h
  have q : (!(listOrd itemOrd).blt (keyToks (rowK k)) (keyToks (rowK l))) = true := q
  have e := (listOrd itemOrd).total (keyToks (rowK k)) (keyToks (rowK l)) (by simpa using q) (by simpa using h)
  simp only [rowK, keyToks] at e
  exact toks_keys e
theorem leK_asc (l : List (List Key)) : (l.mergeSort leK).Pairwise fun a b => leK a b = true :=
  List.pairwise_mergeSort (fun a b c => leK_tot.trans a b c) (fun a b => by rw [Bool.or_eq_true]; exact leK_tot.total a b) _
/-- the one rising list of some -/
theorem asc_is {l m : List (List Key)} (h : l.Pairwise fun a b => leK a b = true) (p : l.Perm m) : l = m.mergeSort leK :=
  asc_one (fun a b => leK_anti) h (leK_asc m) (p.trans (List.mergeSort_perm m leK).symm)
end FD
/-! lists of one's own: made, popped from, handed back as data; loops in which new objects come up -/
namespace FD
open PySem L2 Evl
section
variable {C : Cfg} {M : List Addr} {δ : List Ent} {μ μ' μ1 μ2 μ3 : Mem} {te ta tb : TE} {tr : TA} {e : Ent} {es : List Ent} {i j n : Nat} {a p : Addr} {D : Ends} {t2 ts : TS} {mo : MO} {d : PyData} {ds : List PyData} {wi : TI} {g : TG} {tt : TT} {k : List Key} {l : GTab} {t : TT} {σ : L2.St} {H : Hp}
theorem n_newL {tr : TA} (h : EvA C tr M δ μ μ' (ds.map Ent.d)) (hl : ds.length ≤ 100000) : EvN C (tLst tr) M δ μ μ' (.lst ds) := fun σ H o Q kk =>
  h σ H o _ fun vs H1 o1 x1 r => ⟨by have := (dpAll_of r).length; rw [this]; exact sz_of hl, fun p hp => by
    have o2 := o1.new hp (mo := .lst ds) (ho := .lst vs) ⟨vs, upd_same, dpAll_mono (hide_new hp) _ _ (dpAll_of r)⟩
    exact kk p _ (o1.fresh hp) o2 (x1.trans (hide_new hp))⟩
theorem n_lcN {N : Hp → Prop} {wi : TI} {g : TG} {vs : List Nat} {xs : List PyData} (S : Nat → Mem) (b : Nat → Bool) (f : Nat → PyData) (hi : EvIN C wi M δ μ (S 0) N xs) (hN : ∀ (i : Nat) (B : Hp) (D : Addr) (σ : L2.St) (H : Hp), i ≤ xs.length → Ok { C with B := B } (D :: M) δ (S i) σ H → N H) (hz : xs.length ≤ 100000)
    (hs : ∀ (i : Nat) (d : PyData), xs[i]? = some d → ∀ (G B : Hp) (D : Addr), LcTurn { C with G := G, B := B } g t te vs (D :: M) δ (S i) (S (i + 1)) d (b i) (f i)) :
    EvN C (tLc wi g t te vs) M δ μ (S xs.length) (.lst (lcD b f xs.length)) := fun σ H o Q k => by
  refine hi σ H o _ fun J H1 o1 x1 W D hD => ?_
  have oB := o1.toB
  have hDM : D ∉ M := o1.fresh hD
  have o2 : Ok { C with B := hide M H1 } (D :: M) δ (S 0) σ (upd H1 D (.lst [])) :=
    (oB.new hD (mo := .lst []) ⟨[], upd_same, .nil⟩).mems (fun p hp => List.mem_cons_of_mem _ hp) o1.nd
  have hS : ∀ {i : Nat} {H'}, Ok { C with B := hide M H1 } (D :: M) δ (S i) σ H' → (∀ p ∈ S i, p.1 ∈ M) → ∀ p ∈ S i, p.1 ≠ D := fun o' h p hp z => hDM (z ▸ h p hp)
  have gD : C.G D = none := by
    cases z : C.G D with
    | none => rfl
    | some u => have := o1.gr D u z; rw [hD] at this; cases this
  refine ⟨fun i m H' => m = xs.length - i ∧ i ≤ xs.length ∧ (∀ p ∈ S i, p.1 ∈ M) ∧ Ok { C with B := hide M H1 } (D :: M) δ (S i) σ H' ∧ ∃ acc, H' D = some (.lst acc) ∧ DpAll C.K (hide (D :: M) H') acc (lcD b f i),
    ⟨xs.length, by simp, Nat.zero_le _, fun p hp => (o1.mem p hp).1, o2, [], upd_same, .nil⟩, ?_⟩
  rintro i m H' ⟨rfl, hi', hSM, oi, acc, hacc, dacc⟩
  by_cases hlt : i < xs.length
  · refine .inr ⟨W.go (D :: M) i H' hlt oi.alloc oi.base (hN i _ _ _ _ hi' oi), fun H'' => (∀ p ∈ S (i + 1), p.1 ∈ M) ∧ Ok { C with B := hide M H1 } (D :: M) δ (S (i + 1)) σ H'' ∧ ∃ acc, H'' D = some (.lst acc) ∧ DpAll C.K (hide (D :: M) H'') acc (lcD b f (i + 1)),
      fun H'' q => ⟨xs.length - (i + 1), by omega, rfl, hlt, q⟩, fun x H2 y => ?_⟩
    obtain ⟨e2, d, hd, dx⟩ := W.yld (D :: M) i H' x H2 hlt oi.alloc oi.base (hN i _ _ _ _ hi' oi) y
    have o3 := oi.grow e2
    have nD : ∀ p ∈ S i, p.1 ≠ D := hS oi hSM
    -- all that is hidden and not spoken of stays: the list at D
    have o4 := o3.toG
    obtain ⟨ts, δ', μ1, tg, hts, ht, he, hno⟩ := (hs i d hd (hide ((S i).map (·.1)) H2) (hide M H1) D).go
    have hD2 : H2 D = some (.lst acc) := e2 D _ hacc
    have gD2 : hide ((S i).map (·.1)) H2 D = some (.lst acc) := by
      rw [hide_out (fun z => ?_)]
      · exact hD2
      · obtain ⟨r, hr, er⟩ := List.mem_map.mp z
        exact nD r hr er
    refine tg _ _ _ _ _ _ rfl (o4.wiped vs) dx _ fun σ2 o5 hl2 hσ2 => ⟨wipe_eq (by rw [hl2, wipe_length]) hσ2 hts, ?_⟩
    refine ht σ2 H2 o5 _ fun H3 o6 x6 => ?_
    have memM : ∀ {μ9 : Mem} {δ9 : List Ent} {σ9 : L2.St} {H9 : Hp}, Ok { C with G := hide ((S i).map (·.1)) H2, B := hide M H1 } (D :: M) δ9 μ9 σ9 H9 → ∀ p ∈ μ9, p.1 ∈ M := fun o9 p hp => by
      have a := (o9.mem p hp).1
      have g9 : hide ((S i).map (·.1)) H2 p.1 = none := (o9.mem p hp).2.1
      rcases List.mem_cons.mp a with z | z
      · rw [z, gD2] at g9; cases g9
      · exact z
    cases hb : b i with
    | true =>
      rw [if_pos rfl]
      refine he hb σ2 H3 o6 _ fun v H4 o7 x7 r7 => ?_
      have hD4 : H4 D = some (.lst acc) := o7.gr D _ gD2
      have o8 : Ok { C with B := hide M H1 } (D :: M) δ (S (i + 1)) σ H4 := o3.swap (o3.ofG o7) (x6.trans x7)
      have hSM' : ∀ p ∈ S (i + 1), p.1 ∈ M := memM o7
      have hlen : acc.length ≤ i := by rw [dacc.length]; exact lcD_len b f i
      refine ⟨acc, hD4, sz_lt (by omega), hSM', o8.writeH List.mem_cons_self (fun p hp z => hDM (z ▸ hSM' p hp)) gD (by rw [hD4]; rfl), _, upd_same, ?_⟩
      rw [hide_upd List.mem_cons_self (by rw [hD4]; rfl) rfl, lcD_yes hb]
      exact (dpAll_mono ((hide_ex e2).trans (x6.trans x7)) _ _ dacc).append (.cons r7 .nil)
    | false =>
      rw [if_neg Bool.false_ne_true]
      have hm := hno hb
      subst hm
      refine ⟨memM o6, o3.swap (o3.ofG o6) x6, acc, o6.gr D _ gD2, ?_⟩
      rw [lcD_no hb]
      exact dpAll_mono ((hide_ex e2).trans x6) _ _ dacc
  · have ei : i = xs.length := by omega
    subst ei
    refine .inl ⟨W.stop (D :: M) H' oi.alloc oi.base (hN _ _ _ _ _ hi' oi), ?_⟩
    have oE : Ok C (D :: M) δ (S xs.length) σ H' := oi.reB o1.base
    have nDS : D ∉ (S xs.length).map (·.1) := fun z => by
      obtain ⟨r, hr, er⟩ := List.mem_map.mp z
      exact hDM (er ▸ hSM r hr)
    have xE : Ex (hide M H) (hide (D :: M) H') := x1.trans oi.base
    exact k D H' hDM ⟨oE.len, oE.slot, fun p hp => (List.mem_cons.mp hp).elim (fun z => by rw [z]; exact ⟨List.mem_cons_self, gD, acc, hacc, dacc⟩) (fun z => oE.mem p z), List.nodup_cons.mpr ⟨nDS, oE.nd⟩, oE.alloc, oE.sub, oE.gr, oE.base⟩ xE
/-- a new list that nobody holds is data -/
theorem x_newD (h : EvN C te M δ μ μ1 (.lst ds)) : EvX C te M δ μ μ1 (.d (.list ds)) := fun σ H o Q kk => h σ H o _ fun p H1 pM o1 x1 => by
  have s1 : ∀ a ∈ M, a ∈ p :: M := fun a ha => List.mem_cons_of_mem _ ha
  have nd := List.nodup_cons.mp o1.nd
  have o2 : Ok C (p :: M) δ μ1 σ H1 := o1.mems (fun q hq => List.mem_cons_of_mem _ hq) nd.2
  have o3 : Ok C M δ μ1 σ H1 := o2.drop s1 (fun q hq => (List.mem_cons.mp (o2.mem q hq).1).elim (fun z => absurd (List.mem_map.mpr ⟨q, hq, z⟩) nd.1) id) o.sub
  obtain ⟨_, _, vs, q1, q2⟩ := o1.mem _ List.mem_cons_self
  exact kk _ H1 o3 (x1.trans (hide_sub s1)) (.lst (sq_of (by rw [hide_out pM]; exact q1)) (dpAll_mono (hide_sub s1) _ _ q2))
/-- a list of one's own handed back as data -/
theorem r_retEL (h : EvX C te M δ μ μ1 (.m a)) (hj : (a, .lst ds) ∈ μ1) (ha : a ∉ C.M0) (hs : ∀ p ∈ μ', p ∈ μ1) (kk : FinE C D (.list ds) μ') : Run C (tRet te) D M δ μ := fun σ H o => h σ H o _ fun v H1 o1 x1 r => by
  have r' : v = .ref a := r
  subst r'
  obtain ⟨q0, q1, vs, q2, q3⟩ := o1.mem _ hj
  have s1 : ∀ b ∈ M.filter (fun b => decide (b ≠ a)), b ∈ M := fun b hb => (List.mem_filter.mp hb).1
  have na : a ∉ M.filter (fun b => decide (b ≠ a)) := fun z => of_decide_eq_true (List.mem_filter.mp z).2 rfl
  refine kk (.ref a) (M.filter fun b => decide (b ≠ a)) H1 o1.gr (fun b hb => List.mem_filter.mpr ⟨o1.sub b hb, decide_eq_true fun z => ha (z ▸ hb)⟩) (fun p hp => (o1.mem p (hs p hp)).2.2.mono (hide_sub s1) fun _ q => q) ?_
  exact .lst (sq_of (by rw [hide_out na]; exact q2)) (dpAll_mono (hide_sub s1) _ _ q3)
/-- a list that nobody changes any more is data -/
theorem Ok.settle (o : Ok C (p :: M) δ ((p, .lst ds) :: μ) σ H) (pM : p ∉ M) (h0 : ∀ a ∈ C.M0, a ∈ M) (hi : δ[i]? = some (.m p)) : Ok C M (δ.set i (.d (.list ds))) μ σ H := by
  have nd : p ∉ μ.map (·.1) ∧ (μ.map (·.1)).Nodup := List.nodup_cons.mp o.nd
  have o1 : Ok C (p :: M) δ μ σ H := o.mems (fun q hq => List.mem_cons_of_mem _ hq) nd.2
  have o2 : Ok C M δ μ σ H := o1.drop (fun a ha => List.mem_cons_of_mem _ ha) (fun q hq => (List.mem_cons.mp (o.mem q (List.mem_cons_of_mem _ hq)).1).elim (fun z => absurd (List.mem_map.mpr ⟨q, hq, z⟩) nd.1) id) h0
  obtain ⟨_, _, vs, q1, q2⟩ := o.mem _ List.mem_cons_self
  obtain ⟨v, hv, ev⟩ := o.slot i _ hi (fun z => nomatch z)
  have ev : v = .ref p := ev
  subst ev
  have dp : EntOk C.K (hide M H) (.d (.list ds)) (.ref p) := .lst (sq_of (by rw [hide_out pM]; exact q1)) (dpAll_mono (hide_sub fun a ha => List.mem_cons_of_mem _ ha) _ _ q2)
  have o3 := o2.set i dp
  have e : σ.set i (some (.ref p)) = σ := by
    refine List.ext_getElem? fun j => ?_
    by_cases ej : i = j
    · subst ej
      rw [List.getElem?_set_self (List.getElem?_eq_some_iff.mp hv).1, hv]
    · rw [List.getElem?_set_ne ej]
  rwa [e] at o3
theorem run_settle (pM : p ∉ M) (h0 : ∀ a ∈ C.M0, a ∈ M) (hi : δ[i]? = some (.m p)) (h : FD.Run C ts D M (δ.set i (.d (.list ds))) μ) : FD.Run C ts D (p :: M) δ ((p, .lst ds) :: μ) := fun σ H o => h σ H (o.settle pM h0 hi)
theorem run_forget (h0 : ∀ a ∈ C.M0, a ∈ M) (h : FD.Run C ts D M δ μ) : FD.Run C ts D (p :: M) δ ((p, mo) :: μ) := fun σ H o => by
  have nd : p ∉ μ.map (·.1) ∧ (μ.map (·.1)).Nodup := List.nodup_cons.mp o.nd
  have o1 : Ok C (p :: M) δ μ σ H := o.mems (fun q hq => List.mem_cons_of_mem _ hq) nd.2
  exact h σ H (o1.drop (fun a ha => List.mem_cons_of_mem _ ha) (fun q hq => (List.mem_cons.mp (o.mem q (List.mem_cons_of_mem _ hq)).1).elim (fun z => absurd (List.mem_map.mpr ⟨q, hq, z⟩) nd.1) id) h0)
theorem dp_erase {K : PySem.W.Frag} {Hh : Hp} : ∀ {vs : List V} {ds : List PyData}, DpAll K Hh vs ds → ∀ m : Nat, DpAll K Hh (vs.eraseIdx m) (ds.eraseIdx m)
  | _, _, .nil, _ => .nil
  | _, _, .cons h t, 0 => t
  | _, _, .cons h t, m + 1 => .cons h (dp_erase t m)
/-- x.pop(k), a value -/
theorem x_popAt {m : Nat} (hx : EvX C ta M δ μ μ1 (.m a)) (h1 : μ1[j]? = some (a, .lst ds)) (h : EvX C te M δ μ1 μ2 (.d (.int (m : Int)))) (hj : μ2[j]? = some (a, .lst ds)) (hm : ds[m]? = some d) (hz : ds.length < 100000) :
    EvX C (tBM C.K "list" rPopAt ta (tCons te tNil)) M δ μ (μ2.set j (a, .lst (ds.eraseIdx m))) (.d d) := fun σ H o Q kk => hx σ H o _ fun v H1 o1 x1 r1 => by
  have e1 : v = .ref a := r1
  subst e1
  obtain ⟨_, _, vs1, q1, q2⟩ := o1.mem _ (List.mem_of_getElem? h1)
  refine ⟨.inl ⟨rfl, _, SqL.of q1⟩, ?_⟩
  refine h σ H1 o1 _ fun w H2 o2 x2 r2 => ?_
  obtain ⟨aM, _, vs, q3, q4⟩ := o2.mem _ (List.mem_of_getElem? hj)
  have ml : m < ds.length := (List.getElem?_eq_some_iff.mp hm).1
  obtain ⟨y, hy, dy⟩ := q4.get hm
  refine ⟨a, vs, (m : Int), m, y, rfl, by rw [Dp.int_of r2], q3, by omega, by omega, ?_, hy, ?_⟩
  · unfold seqIndex?
    rw [q4.length]
    simp only []
    split <;> first | omega | (simp; try omega)
  · have o3 := o2.write hj (mo' := .lst (ds.eraseIdx m)) (ho := .lst (vs.eraseIdx m)) ⟨_, upd_same, dp_erase q4 m⟩
    have back : Ex (hide M H2) (hide M (upd H2 a (.lst (vs.eraseIdx m)))) := by rw [hide_upd aM (by rw [q3]; rfl) rfl]; exact Ex.refl _
    exact kk y _ o3 ((x1.trans x2).trans back) (dp_mono back _ _ dy)
/-- d[k] = a new object -/
theorem r_tputN (h : EvN C te M δ μ μ1 mo) (hx : ∀ p, p ∉ M → EvX C ta (p :: M) δ ((p, mo) :: μ1) ((p, mo) :: μ1) (.m a)) (hi : ∀ p, p ∉ M → EvX C tb (p :: M) δ ((p, mo) :: μ1) ((p, mo) :: μ1) (.d (rowK k))) (hj : μ1[j]? = some (a, .dT l)) (hl : l.length < 1000)
    (kk : ∀ p, p ∉ M → Nx C D (p :: M) δ ((p, mo) :: μ1.set j (a, .dT (putG l k (gRef p))))) : Run C (tAsg te (gSub ta tb rSetD)) D M δ μ := fun σ H o => h σ H o _ fun p H1 pM o1 x1 => hx p pM σ H1 o1 _ fun w H2 o2 x2 r2 => hi p pM σ H2 o2 _ fun z H3 o3 x3 r3 => by
  have hj' : ((p, mo) :: μ1)[j + 1]? = some (a, .dT l) := hj
  have e1 : w = .ref a := r2
  obtain ⟨b, e2, e4⟩ := rowK_at r3
  obtain ⟨_, _, ws, q3, q4⟩ := o3.mem _ (List.mem_of_getElem? hj')
  refine ⟨a, _, e1, .inr ⟨ws, k, b, q3, e2, (hide_some e4).2, sz_lt (by rw [gt_len q4]; omega), rfl⟩, ?_⟩
  exact kk p pM _ _ (o3.write hj' ⟨_, upd_same, gt_put q4 k (show (gRef p).p C.K _ (.ref p) from rfl)⟩)
/-! ### loops in which new objects come up -/
def NXM (C : Cfg) (P : List Addr → List Ent → Mem → Prop) : L2.St → Hp → Prop := fun σ H => ∃ M δ μ, P M δ μ ∧ Ok C M δ μ σ H
theorem r_forNM {xs : List PyData} (hi : EvI C wi M δ μ μ1 xs) (P : Nat → List Addr → List Ent → Mem → Prop) (h0 : P 0 M δ μ1)
    (hs : ∀ B, Ex C.B B → ∀ (i : Nat) (d : PyData) (M1 : List Addr) (δ1 : List Ent) (μ1 : Mem), xs[i]? = some d → P i M1 δ1 μ1 → ∃ tl δ2, TgX C.K g tl d δ1 δ2 ∧
      Run { C with B := B } ts { D with nx := NXM { C with B := B } (P (i + 1)), ct := NXM { C with B := B } (P (i + 1)), bk := D.nx } M1 δ2 μ1)
    (hd : ∀ M1 δ1 μ1, P xs.length M1 δ1 μ1 → Nx C D M1 δ1 μ1) : Run C (tFor wi g ts) D M δ μ := fun σ H o => by
  refine hi σ H o _ fun J H1 o1 x1 W => ?_
  refine ⟨fun i m σ' H' => m = xs.length - i ∧ i ≤ xs.length ∧ NXM { C with B := hide M H1 } (P i) σ' H', ⟨xs.length, by simp, Nat.zero_le _, M, δ, μ1, h0, o1.toB⟩, ?_⟩
  rintro i m σ' H' ⟨rfl, hi', M1, δ1, μ1, hP, oi⟩
  by_cases hlt : i < xs.length
  · refine .inr ⟨W.go M1 i H' hlt oi.alloc oi.base, NXM { C with B := hide M H1 } (P (i + 1)), fun σ2 H2 q => ⟨xs.length - (i + 1), by omega, rfl, hlt, q⟩, fun x H2 y => ?_⟩
    obtain ⟨e2, d, hd, dx⟩ := W.yld M1 i H' x H2 hlt oi.alloc oi.base y
    obtain ⟨tl, δ2, tg, run⟩ := hs (hide M H1) o1.base i d M1 δ1 μ1 hd hP
    exact tg { C with B := hide M H1 } _ _ _ _ _ rfl (oi.grow e2) dx _ fun σ3 o3 _ _ => run σ3 H2 o3
  · have ei : i = xs.length := by omega
    subst ei
    exact .inl ⟨W.stop M1 H' oi.alloc oi.base, hd M1 δ1 μ1 hP σ' H' (oi.reB o1.base)⟩
theorem q_forNM {xs : List PyData} (hi : EvI C wi M δ μ μ1 xs) (P : Nat → List Addr → List Ent → Mem → Prop) (h0 : P 0 M δ μ1)
    (hs : ∀ B, Ex C.B B → ∀ (i : Nat) (d : PyData) (M1 : List Addr) (δ1 : List Ent) (μ1 : Mem), xs[i]? = some d → P i M1 δ1 μ1 → ∃ tl δ2, TgX C.K g tl d δ1 δ2 ∧
      Run { C with B := B } ts { D with nx := NXM { C with B := B } (P (i + 1)), ct := NXM { C with B := B } (P (i + 1)), bk := t2 D } M1 δ2 μ1)
    (hd : ∀ M1 δ1 μ1, P xs.length M1 δ1 μ1 → Run C t2 D M1 δ1 μ1) : Run C (tSeq (tFor wi g ts) t2) D M δ μ := r_forNM (D := { D with nx := t2 D }) hi P h0 hs hd
/-- lists held by a dict, that nobody changes any more -/
theorem gt_settle {K : PySem.W.Frag} {Hh Hh2 : Hp} (x : Ex Hh Hh2) {ws : List (List Key × V)} {l l2 : GTab} (g : GtOk K Hh ws l) (h : Paired (fun (q r : List Key × GP) => q.1 = r.1 ∧ ∀ v, q.2.p K Hh v → r.2.p K Hh2 v) l l2) : GtOk K Hh2 ws l2 := by
  induction g generalizing l2 with
  | nil => cases h; exact .nil
  | @cons p q ps qs hq _ ih =>
    cases h with
    | cons h1 h2 => exact .cons ⟨hq.1.trans h1.1, h1.2 _ hq.2⟩ (ih h2)
end
end FD
/-! Least costs of stages: the plain law. -/
namespace CK
variable {σ : Type} [DecidableEq σ] {α : Type}
abbrev Tab (σ α : Type) := List (σ × α)
def val (T : Tab σ α) (s : σ) : Option α := (T.find? fun p => decide (p.1 = s)).map (·.2)
def has (T : Tab σ α) (s : σ) : Bool := (val T s).isSome
def allIn (T : Tab σ α) (ps : List σ) : Bool := ps.all (has T)
def put (T : Tab σ α) (s : σ) (v : α) : Tab σ α := if has T s = true then T.map (fun p => if p.1 = s then (p.1, v) else p) else T ++ [(s, v)]
theorem val_nil (s : σ) : val ([] : Tab σ α) s = none := rfl
theorem val_cons (p : σ × α) (T : Tab σ α) (s : σ) : val (p :: T) s = if p.1 = s then some p.2 else val T s := by
  unfold val
  rw [List.find?_cons]
  by_cases h : p.1 = s
  · rw [if_pos h, decide_eq_true h]; rfl
  · rw [if_neg h, decide_eq_false h]
theorem val_mem {T : Tab σ α} {s : σ} : (val T s).isSome = true ↔ s ∈ T.map (·.1) := by
  induction T with
  | nil => simp [val_nil]
  | cons p T ih =>
    rw [val_cons, List.map_cons, List.mem_cons]
    by_cases h : p.1 = s
    · simp [h]
    · rw [if_neg h, ih]
      exact ⟨.inr, fun z => z.resolve_left fun q => h q.symm⟩
theorem val_snoc (T : Tab σ α) (s j : σ) (v : α) (h : val T s = none) : val (T ++ [(s, v)]) j = if j = s then some v else val T j := by
  induction T with
  | nil =>
    rw [List.nil_append, val_cons]
    by_cases e : j = s
    · rw [if_pos e, if_pos e.symm]
    · rw [if_neg e, if_neg fun z => e z.symm]
  | cons p T ih =>
    rw [val_cons] at h
    have hp : ¬ p.1 = s := fun z => by rw [if_pos z] at h; cases h
    rw [if_neg hp] at h
    rw [List.cons_append, val_cons, val_cons, ih h]
    by_cases e : p.1 = j
    · rw [if_pos e, if_pos e, if_neg fun z => hp (e.trans z)]
    · rw [if_neg e, if_neg e]
theorem val_map (T : Tab σ α) (s j : σ) (v : α) : val (T.map fun p => if p.1 = s then (p.1, v) else p) j = (val T j).map fun x => if j = s then v else x := by
  induction T with
  | nil => rfl
  | cons p T ih =>
    rw [List.map_cons, val_cons, val_cons, ih]
    by_cases h : p.1 = s
    · rw [if_pos h]
      by_cases e : p.1 = j
      · rw [if_pos e, if_pos e, Option.map_some, if_pos (e.symm.trans h)]
      · rw [if_neg e, if_neg e]
    · rw [if_neg h]
      by_cases e : p.1 = j
      · rw [if_pos e, if_pos e, Option.map_some, if_neg fun z => h (e.trans z)]
      · rw [if_neg e, if_neg e]
theorem val_put (T : Tab σ α) (s j : σ) (v : α) : val (put T s v) j = if j = s then some v else val T j := by
  unfold put has
  by_cases h : (val T s).isSome = true
  · rw [if_pos h, val_map]
    by_cases e : j = s
    · subst e
      obtain ⟨x, hx⟩ := Option.isSome_iff_exists.mp h
      rw [hx]; simp
    · rw [if_neg e]
      cases val T j with
      | none => rfl
      | some x => simp [e]
  · rw [if_neg h]
    refine val_snoc T s j v ?_
    cases q : val T s with
    | none => rfl
    | some x => rw [q] at h; exact absurd rfl h
theorem put_keys (T : Tab σ α) (s : σ) (v : α) : (put T s v).map (·.1) = if has T s = true then T.map (·.1) else T.map (·.1) ++ [s] := by
  unfold put
  by_cases h : has T s = true
  · rw [if_pos h, if_pos h, List.map_map]
    refine List.map_congr_left fun p _ => ?_
    show (if p.1 = s then (p.1, v) else p).1 = p.1
    by_cases e : p.1 = s
    · rw [if_pos e]
    · rw [if_neg e]
  · rw [if_neg h, if_neg h, List.map_append]; rfl
theorem put_len (T : Tab σ α) (s : σ) (v : α) : (put T s v).length = if has T s = true then T.length else T.length + 1 := by
  unfold put
  split
  · rw [List.length_map]
  · rw [List.length_append]; rfl
theorem has_of {T : Tab σ α} {s : σ} {v : α} (h : val T s = some v) : has T s = true := by unfold has; rw [h]; rfl
theorem has_val {T : Tab σ α} {s : σ} (h : has T s = true) : ∃ v, val T s = some v := Option.isSome_iff_exists.mp h
theorem has_mem {T : Tab σ α} {s : σ} : has T s = true ↔ s ∈ T.map (·.1) := val_mem
theorem has_false {T : Tab σ α} {s : σ} : has T s = false ↔ val T s = none := by
  unfold has
  cases val T s <;> simp
theorem put_nd {T : Tab σ α} {s : σ} {v : α} (h : (T.map (·.1)).Nodup) : ((put T s v).map (·.1)).Nodup := by
  rw [put_keys]
  by_cases q : has T s = true
  · rw [if_pos q]; exact h
  · rw [if_neg q]
    refine List.nodup_append.mpr ⟨h, by simp, fun a ha b hb e => ?_⟩
    rw [List.mem_singleton.mp hb] at e
    exact q (has_mem.mpr (e ▸ ha))
theorem val_of_mem {T : Tab σ α} (nd : (T.map (·.1)).Nodup) : ∀ p ∈ T, val T p.1 = some p.2 := by
  induction T with
  | nil => intro p hp; cases hp
  | cons q T ih =>
    intro p hp
    rw [List.map_cons, List.nodup_cons] at nd
    rw [val_cons]
    rcases List.mem_cons.mp hp with e | hp
    · rw [e, if_pos rfl]
    · rw [if_neg fun z => nd.1 (by rw [z]; exact List.mem_map.mpr ⟨p, hp, rfl⟩)]
      exact ih nd.2 p hp
theorem val_map2 {β : Type} (T : Tab σ α) (f : α → β) (s : σ) : val (T.map fun p => (p.1, f p.2)) s = (val T s).map f := by
  induction T with
  | nil => rfl
  | cons p T ih =>
    rw [List.map_cons, val_cons, val_cons, ih]
    by_cases e : p.1 = s
    · rw [if_pos e, if_pos e]; rfl
    · rw [if_neg e, if_neg e]
theorem val_keys {α : Type} (f : σ → α) : ∀ (l : List σ) (s : σ), val (l.map fun x => (x, f x)) s = if s ∈ l then some (f s) else none
  | [], s => by simp [val_nil]
  | a :: l, s => by
    rw [List.map_cons, val_cons, val_keys f l s]
    by_cases e : a = s
    · subst e; rw [if_pos rfl, if_pos (by simp)]
    · rw [if_neg e]
      by_cases m : s ∈ l
      · rw [if_pos m, if_pos (List.mem_cons_of_mem _ m)]
      · rw [if_neg m, if_neg fun z => (List.mem_cons.mp z).elim (fun z => e z.symm) m]

/-! ### costs -/
abbrev Cost := Nat × Nat
def clt (a b : Cost) : Bool := decide (a.1 < b.1 ∨ (a.1 = b.1 ∧ a.2 < b.2))
def Cle (a b : Cost) : Prop := a.1 < b.1 ∨ (a.1 = b.1 ∧ a.2 ≤ b.2)
theorem cle_of {a b : Cost} (h : clt b a = false) : Cle a b := by
  have h := of_decide_eq_false h
  unfold Cle; omega
theorem clt_of {a b : Cost} (h : clt a b = true) : a.1 < b.1 ∨ (a.1 = b.1 ∧ a.2 < b.2) := of_decide_eq_true h
theorem cle_refl (a : Cost) : Cle a a := .inr ⟨rfl, Nat.le_refl _⟩
theorem cle_trans {a b c : Cost} (h : Cle a b) (k : Cle b c) : Cle a c := by unfold Cle at *; omega
theorem cle_lt {a b : Cost} (h : clt a b = true) : Cle a b := by have := clt_of h; unfold Cle; omega
structure Line (σ δ : Type) where
  num : Nat
  deed : Option δ
  ps : List σ
variable {δ : Type} [DecidableEq δ]
def own (w : δ → Nat) (l : Line σ δ) : Nat := match l.deed with
  | none => 0
  | some d => w d
def g (T : Tab σ Cost) (p : σ) : Cost := (val T p).getD (0, 0)
def wsum (T : Tab σ Cost) (ps : List σ) : Nat := (ps.map fun p => (g T p).1).sum
def msum (T : Tab σ Cost) (ps : List σ) : Nat := (ps.map fun p => (g T p).2).sum
def costOf (w : δ → Nat) (T : Tab σ Cost) (l : Line σ δ) : Cost := (own w l + wsum T l.ps, 1 + msum T l.ps)
def lcStep (w : δ → Nat) (T : Tab σ Cost) (best : Option (Cost × Nat)) (l : Line σ δ) : Option (Cost × Nat) :=
  if allIn T l.ps = true then
    match best with
    | none => some (costOf w T l, l.num)
    | some b => if clt (costOf w T l) b.1 = true then some (costOf w T l, l.num) else some b
  else best
def lc (w : δ → Nat) (lns : List (Line σ δ)) (T : Tab σ Cost) : Option (Cost × Nat) := lns.foldl (lcStep w T) none
theorem lc_fold {w : δ → Nat} {T : Tab σ Cost} : ∀ (lns : List (Line σ δ)) (b : Option (Cost × Nat)), (lns.foldl (lcStep w T) b = none ↔ b = none ∧ ∀ l ∈ lns, allIn T l.ps = false) ∧
    ∀ v, lns.foldl (lcStep w T) b = some v → (b = some v ∨ ∃ l ∈ lns, allIn T l.ps = true ∧ v = (costOf w T l, l.num)) ∧ (∀ x, b = some x → Cle v.1 x.1) ∧ ∀ l ∈ lns, allIn T l.ps = true → Cle v.1 (costOf w T l)
  | [], b => ⟨by simp, fun v h => ⟨.inl h, fun x hx => by rw [List.foldl_nil, hx] at h; cases h; exact cle_refl _, fun ps hp => absurd hp (by simp)⟩⟩
  | l :: lns, b => by
    rw [List.foldl_cons]
    obtain ⟨i1, i2⟩ := lc_fold lns (lcStep w T b l)
    by_cases h : allIn T l.ps = true
    · have hs : ∃ x, lcStep w T b l = some x ∧ (b = some x ∨ x = (costOf w T l, l.num)) ∧ Cle x.1 (costOf w T l) ∧ ∀ y, b = some y → Cle x.1 y.1 := by
        unfold lcStep
        rw [if_pos h]
        cases b with
        | none => exact ⟨_, rfl, .inr rfl, cle_refl _, fun y hy => by cases hy⟩
        | some z =>
          by_cases q : clt (costOf w T l) z.1 = true
          · exact ⟨_, if_pos q, .inr rfl, cle_refl _, fun y hy => by cases hy; exact cle_lt q⟩
          · exact ⟨z, if_neg q, .inl rfl, cle_of (by simpa using q), fun y hy => by cases hy; exact cle_refl _⟩
      obtain ⟨x, hx, hx1, hx2, hx3⟩ := hs
      rw [hx] at i1 i2 ⊢
      refine ⟨⟨fun z => absurd (i1.mp z).1 (by simp), fun ⟨_, z⟩ => ?_⟩, fun v hv => ?_⟩
      · rw [z l (by simp)] at h; cases h
      · obtain ⟨k1, k2, k3⟩ := i2 v hv
        have hvx := k2 x rfl
        refine ⟨?_, fun y hy => cle_trans hvx (hx3 y hy), fun q hq ha => ?_⟩
        · rcases k1 with k1 | ⟨q, hq, ha, e⟩
          · cases k1
            rcases hx1 with hx1 | hx1
            · exact .inl hx1
            · exact .inr ⟨l, by simp, h, hx1⟩
          · exact .inr ⟨q, by simp [hq], ha, e⟩
        · rcases List.mem_cons.mp hq with e | hq
          · rw [e]; exact cle_trans hvx hx2
          · exact k3 q hq ha
    · have hs : lcStep w T b l = b := by unfold lcStep; rw [if_neg h]
      have hf : allIn T l.ps = false := by simpa using h
      rw [hs] at i1 i2 ⊢
      refine ⟨i1.trans ⟨fun ⟨a, c⟩ => ⟨a, fun q hq => ?_⟩, fun ⟨a, c⟩ => ⟨a, fun q hq => c q (by simp [hq])⟩⟩, fun v hv => ?_⟩
      · rcases List.mem_cons.mp hq with e | hq
        · rw [e]; exact hf
        · exact c q hq
      · obtain ⟨k1, k2, k3⟩ := i2 v hv
        refine ⟨?_, k2, fun q hq ha => ?_⟩
        · rcases k1 with k1 | ⟨q, hq, ha, e⟩
          · exact .inl k1
          · exact .inr ⟨q, by simp [hq], ha, e⟩
        · rcases List.mem_cons.mp hq with e | hq
          · rw [e] at ha; rw [ha] at hf; cases hf
          · exact k3 q hq ha
theorem lc_none {w : δ → Nat} {lns : List (Line σ δ)} {T : Tab σ Cost} : lc w lns T = none ↔ ∀ l ∈ lns, allIn T l.ps = false := by
  unfold lc
  rw [(lc_fold lns none).1]
  simp
theorem lc_some {w : δ → Nat} {lns : List (Line σ δ)} {T : Tab σ Cost} {v : Cost × Nat} (h : lc w lns T = some v) : (∃ l ∈ lns, allIn T l.ps = true ∧ v = (costOf w T l, l.num)) ∧ ∀ l ∈ lns, allIn T l.ps = true → Cle v.1 (costOf w T l) := by
  obtain ⟨k1, _, k3⟩ := (lc_fold lns none).2 v h
  exact ⟨k1.resolve_left fun z => (nomatch z), k3⟩
theorem sum_le {T U : Tab σ Cost} : ∀ {ps : List σ}, (∀ p ∈ ps, ∀ v, val T p = some v → ∃ u, val U p = some u ∧ Cle u v) → allIn T ps = true → allIn U ps = true ∧ (wsum U ps < wsum T ps ∨ (wsum U ps = wsum T ps ∧ msum U ps ≤ msum T ps))
  | [], _, _ => ⟨rfl, .inr ⟨rfl, Nat.le_refl _⟩⟩
  | p :: ps, h, ha => by
    unfold allIn at ha ⊢
    rw [List.all_cons, Bool.and_eq_true] at ha
    obtain ⟨v, hv⟩ := has_val ha.1
    obtain ⟨u, hu, le⟩ := h p (by simp) v hv
    obtain ⟨i1, i2⟩ := sum_le (ps := ps) (fun q hq => h q (by simp [hq])) ha.2
    refine ⟨by rw [List.all_cons, has_of hu, Bool.true_and]; exact i1, ?_⟩
    have g1 : g T p = v := by unfold g; rw [hv]; rfl
    have g2 : g U p = u := by unfold g; rw [hu]; rfl
    unfold wsum msum at i2 ⊢
    rw [List.map_cons, List.sum_cons, List.map_cons, List.sum_cons, List.map_cons, List.sum_cons, List.map_cons, List.sum_cons, g1, g2]
    unfold Cle at le
    omega
/-- lower tables have lower least costs -/
theorem lc_anti {w : δ → Nat} {lns : List (Line σ δ)} {T U : Tab σ Cost} {v : Cost × Nat} (h : ∀ p v, val T p = some v → ∃ u, val U p = some u ∧ Cle u v) (k : lc w lns T = some v) : ∃ u, lc w lns U = some u ∧ Cle u.1 v.1 := by
  obtain ⟨⟨l, hl, ha, e⟩, _⟩ := lc_some k
  obtain ⟨i1, i2⟩ := sum_le (U := U) (fun p _ => h p) ha
  have ne : lc w lns U ≠ none := fun z => by
    have := lc_none.mp z l hl
    rw [i1] at this; cases this
  obtain ⟨u, hu⟩ := Option.ne_none_iff_exists'.mp ne
  refine ⟨u, hu, cle_trans ((lc_some hu).2 l hl i1) ?_⟩
  rw [e]
  show Cle (own w l + wsum U l.ps, 1 + msum U l.ps) (own w l + wsum T l.ps, 1 + msum T l.ps)
  unfold Cle
  show own w l + wsum U l.ps < own w l + wsum T l.ps ∨ own w l + wsum U l.ps = own w l + wsum T l.ps ∧ 1 + msum U l.ps ≤ 1 + msum T l.ps
  omega

/-! ### a book of stages, the rounds -/
structure Bk (σ δ : Type) where
  S : List σ
  isEnd : σ → Bool
  ln : σ → List (Line σ δ)
def T0 (B : Bk σ δ) : Tab σ Cost := (B.S.filter B.isEnd).map fun s => (s, (0, 0))
structure Go (w : δ → Nat) (B : Bk σ δ) (T : Tab σ Cost) : Prop where
  keys : ∀ s ∈ T.map (·.1), s ∈ B.S
  nd : (T.map (·.1)).Nodup
  endz : ∀ s ∈ B.S, B.isEnd s = true → val T s = some (0, 0)
  lrv : ∀ s v, val T s = some v → B.isEnd s = false → ∃ u, lc w (B.ln s) T = some u ∧ Cle u.1 v
theorem t0_keys (B : Bk σ δ) : (T0 B).map (·.1) = B.S.filter B.isEnd := by
  unfold T0
  rw [List.map_map]
  exact List.map_id' _
theorem go_t0 (w : δ → Nat) {B : Bk σ δ} (nd : B.S.Nodup) : Go w B (T0 B) := by
  refine ⟨fun s h => ?_, by rw [t0_keys]; exact nd.filter _, fun s hs he => ?_, fun s v h he => ?_⟩
  · rw [t0_keys] at h
    exact (List.mem_filter.mp h).1
  · unfold T0
    rw [val_keys (fun _ => ((0, 0) : Cost)), if_pos (List.mem_filter.mpr ⟨hs, he⟩)]
  · have : s ∈ (T0 B).map (·.1) := val_mem.mp (has_of h)
    rw [t0_keys] at this
    have := (List.mem_filter.mp this).2
    rw [he] at this; cases this
theorem nd_len : ∀ {l m : List σ}, l.Nodup → (∀ x ∈ l, x ∈ m) → l.length ≤ m.length
  | [], m, _, _ => Nat.zero_le _
  | x :: l, m, nd, h => by
    obtain ⟨n1, n2⟩ := List.nodup_cons.mp nd
    have hx := h x (by simp)
    have : l.length ≤ (m.erase x).length := nd_len n2 fun y hy => (List.mem_erase_of_ne (fun e => n1 (by rw [← e]; exact hy))).mpr (h y (by simp [hy]))
    rw [List.length_erase_of_mem hx] at this
    have := List.length_pos_of_mem hx
    rw [List.length_cons]; omega
theorem Go.few {w : δ → Nat} {B : Bk σ δ} {T : Tab σ Cost} (g : Go w B T) : T.length ≤ B.S.length := by
  have := nd_len g.nd g.keys
  rwa [List.length_map] at this
def turn (w : δ → Nat) (B : Bk σ δ) (st : Tab σ Cost × Bool) (s : σ) : Tab σ Cost × Bool :=
  match lc w (B.ln s) st.1 with
  | none => st
  | some v => if has st.1 s = false ∨ clt v.1 (g st.1 s) = true then (put st.1 s v.1, true) else st
theorem turn_put {w : δ → Nat} {B : Bk σ δ} {st : Tab σ Cost × Bool} {s : σ} {v : Cost × Nat} (h : lc w (B.ln s) st.1 = some v) (c : has st.1 s = false ∨ clt v.1 (g st.1 s) = true) : turn w B st s = (put st.1 s v.1, true) := by
  unfold turn
  rw [h]; exact if_pos c
theorem turn_none {w : δ → Nat} {B : Bk σ δ} {st : Tab σ Cost × Bool} {s : σ} (h : lc w (B.ln s) st.1 = none) : turn w B st s = st := by
  unfold turn
  rw [h]
theorem turn_keep {w : δ → Nat} {B : Bk σ δ} {st : Tab σ Cost × Bool} {s : σ} {v : Cost × Nat} (h : lc w (B.ln s) st.1 = some v) (h1 : has st.1 s = true) (h2 : clt v.1 (g st.1 s) = false) : turn w B st s = st := by
  unfold turn
  rw [h]
  refine if_neg fun z => ?_
  rcases z with z | z
  · rw [h1] at z; cases z
  · rw [h2] at z; cases z
theorem g_val {T : Tab σ Cost} {s : σ} {v : Cost} (h : val T s = some v) : g T s = v := by unfold g; rw [h]; rfl
theorem put_low {T : Tab σ Cost} {s : σ} {v : Cost} (c : has T s = false ∨ clt v (g T s) = true) : ∀ p x, val T p = some x → ∃ u, val (put T s v) p = some u ∧ Cle u x := fun p x hx => by
  rw [val_put]
  by_cases e : p = s
  · subst e
    rw [if_pos rfl]
    refine ⟨v, rfl, ?_⟩
    rcases c with c | c
    · rw [has_of hx] at c; cases c
    · rw [g_val hx] at c; exact cle_lt c
  · rw [if_neg e]; exact ⟨x, hx, cle_refl _⟩
theorem go_put {w : δ → Nat} {B : Bk σ δ} {T : Tab σ Cost} {s : σ} {v : Cost × Nat} (gg : Go w B T) (hs : s ∈ B.S) (h : lc w (B.ln s) T = some v) (c : has T s = false ∨ clt v.1 (g T s) = true) : Go w B (put T s v.1) := by
  have low := put_low c
  refine ⟨?_, put_nd gg.nd, ?_, ?_⟩
  · intro x hx
    rw [put_keys] at hx
    split at hx
    · exact gg.keys x hx
    · rcases List.mem_append.mp hx with hx | hx
      · exact gg.keys x hx
      · rw [List.mem_singleton.mp hx]; exact hs
  · intro x hx he
    have := gg.endz x hx he
    rw [val_put]
    by_cases e : x = s
    · subst e
      rcases c with c | c
      · rw [has_of this] at c; cases c
      · rw [g_val this] at c
        have := clt_of c
        simp at this
    · rw [if_neg e]; exact this
  · intro p x hx he
    rw [val_put] at hx
    by_cases e : p = s
    · subst e
      rw [if_pos rfl] at hx
      cases hx
      exact lc_anti low h
    · rw [if_neg e] at hx
      obtain ⟨u, h1, h2⟩ := gg.lrv p x hx he
      obtain ⟨u', h3, h4⟩ := lc_anti low h1
      exact ⟨u', h3, cle_trans h4 h2⟩
def s1 (T : Tab σ Cost) : Nat := (T.map (·.2.1)).sum
def s2 (T : Tab σ Cost) : Nat := (T.map (·.2.2)).sum
def lt3 (a b : Nat × Nat × Nat) : Prop := a.1 < b.1 ∨ (a.1 = b.1 ∧ (a.2.1 < b.2.1 ∨ (a.2.1 = b.2.1 ∧ a.2.2 < b.2.2)))
theorem lt3_trans {a b c : Nat × Nat × Nat} (h : lt3 a b) (k : lt3 b c) : lt3 a c := by unfold lt3 at *; omega
theorem ind3 (P : Nat × Nat × Nat → Prop) (h : ∀ x, (∀ y, lt3 y x → P y) → P x) : ∀ a b c, P (a, b, c) := by
  intro a
  induction a using Nat.strongRecOn with
  | _ a iha =>
    intro b
    induction b using Nat.strongRecOn with
    | _ b ihb =>
      intro c
      induction c using Nat.strongRecOn with
      | _ c ihc =>
        refine h _ fun ⟨a', b', c'⟩ hy => ?_
        have hy : a' < a ∨ (a' = a ∧ (b' < b ∨ (b' = b ∧ c' < c))) := hy
        rcases hy with q | ⟨e, q | ⟨e2, q⟩⟩
        · exact iha a' q b' c'
        · subst e; exact ihb b' q c'
        · subst e; subst e2; exact ihc c' q
def meas (B : Bk σ δ) (T : Tab σ Cost) : Nat × Nat × Nat := (B.S.length - T.length, s1 T, s2 T)
theorem sum_map_put (f : Cost → Nat) {s : σ} {v : Cost} : ∀ {T : Tab σ Cost} {u : Cost}, (T.map (·.1)).Nodup → val T s = some u → ((T.map fun p => if p.1 = s then (p.1, v) else p).map fun p => f p.2).sum + f u = (T.map fun p => f p.2).sum + f v
  | [], u, _, h => nomatch h
  | p :: T, u, nd, h => by
    rw [List.map_cons, List.nodup_cons] at nd
    rw [val_cons] at h
    by_cases e : p.1 = s
    · rw [if_pos e] at h
      cases h
      have same : (T.map fun p => if p.1 = s then (p.1, v) else p) = T := by
        refine (List.map_congr_left fun q hq => ?_).trans (List.map_id' T)
        exact if_neg fun z => nd.1 (by rw [e, ← z]; exact List.mem_map.mpr ⟨q, hq, rfl⟩)
      rw [List.map_cons, same, if_pos e, List.map_cons, List.sum_cons, List.map_cons, List.sum_cons]
      show f v + _ + f p.2 = f p.2 + _ + f v
      omega
    · rw [if_neg e] at h
      have ih := sum_map_put f (v := v) nd.2 h
      rw [List.map_cons, if_neg e, List.map_cons, List.sum_cons, List.map_cons, List.sum_cons]
      omega
theorem put_less {w : δ → Nat} {B : Bk σ δ} {T : Tab σ Cost} {s : σ} {v : Cost} (gg : Go w B T) (g2 : Go w B (put T s v)) (c : has T s = false ∨ clt v (g T s) = true) : lt3 (meas B (put T s v)) (meas B T) := by
  have few := g2.few
  have hl := put_len T s v
  show B.S.length - (put T s v).length < B.S.length - T.length ∨ (B.S.length - (put T s v).length = B.S.length - T.length ∧ (s1 (put T s v) < s1 T ∨ (s1 (put T s v) = s1 T ∧ s2 (put T s v) < s2 T)))
  by_cases q : has T s = true
  · rw [if_pos q] at hl
    obtain ⟨u, hu⟩ := has_val q
    rcases c with c | c
    · rw [q] at c; cases c
    · rw [g_val hu] at c
      have c := clt_of c
      have e1 := sum_map_put (·.1) (v := v) gg.nd hu
      have e2 := sum_map_put (·.2) (v := v) gg.nd hu
      have ep : put T s v = T.map (fun p => if p.1 = s then (p.1, v) else p) := by unfold put; rw [if_pos q]
      rw [hl, ep]
      unfold s1 s2
      refine .inr ⟨rfl, ?_⟩
      have e1 : ((T.map fun p => if p.1 = s then (p.1, v) else p).map (·.2.1)).sum + u.1 = (T.map (·.2.1)).sum + v.1 := e1
      have e2 : ((T.map fun p => if p.1 = s then (p.1, v) else p).map (·.2.2)).sum + u.2 = (T.map (·.2.2)).sum + v.2 := e2
      omega
  · rw [if_neg q] at hl
    omega
/-- a part of a round -/
structure Rd (w : δ → Nat) (B : Bk σ δ) (T : Tab σ Cost) (l : List σ) (st : Tab σ Cost × Bool) : Prop where
  eq : st = l.foldl (turn w B) (T, false)
  go : Go w B st.1
  less : st.2 = true → lt3 (meas B st.1) (meas B T)
  same : st.2 = false → st.1 = T ∧ ∀ s ∈ l, turn w B (T, false) s = (T, false)
theorem rd_nil {w : δ → Nat} {B : Bk σ δ} {T : Tab σ Cost} (h : Go w B T) : Rd w B T [] (T, false) := ⟨rfl, h, fun z => (nomatch z), fun _ => ⟨rfl, fun s hs => absurd hs (by simp)⟩⟩
theorem rd_turn {w : δ → Nat} {B : Bk σ δ} {T : Tab σ Cost} {l : List σ} {st : Tab σ Cost × Bool} (r : Rd w B T l st) {s : σ} (hs : s ∈ B.S) : Rd w B T (l ++ [s]) (turn w B st s) := by
  have keep : turn w B st s = st → Rd w B T (l ++ [s]) (turn w B st s) := fun e => by
    refine ⟨by rw [List.foldl_append, ← r.eq]; rfl, by rw [e]; exact r.go, by rw [e]; exact r.less, fun z => ?_⟩
    rw [e] at z
    obtain ⟨h1, h2⟩ := r.same z
    refine ⟨by rw [e]; exact h1, fun x hx => ?_⟩
    rcases List.mem_append.mp hx with hx | hx
    · exact h2 x hx
    · rw [List.mem_singleton.mp hx]
      have es : st = (T, false) := Prod.ext h1 z
      rw [es] at e; exact e
  cases hv : lc w (B.ln s) st.1 with
  | none => exact keep (turn_none hv)
  | some v =>
    by_cases c : has st.1 s = false ∨ clt v.1 (g st.1 s) = true
    · have e := turn_put hv c
      have g2 := go_put r.go hs hv c
      have ls := put_less r.go g2 c
      refine ⟨by rw [List.foldl_append, ← r.eq]; rfl, by rw [e]; exact g2, fun _ => ?_, fun z => by rw [e] at z; cases z⟩
      rw [e]
      cases q : st.2 with
      | true => exact lt3_trans ls (r.less q)
      | false => rw [(r.same q).1] at ls ⊢; exact ls
    · refine keep (turn_keep hv ?_ ?_)
      · cases q : has st.1 s with
        | true => rfl
        | false => exact absurd (.inl q) c
      · cases q : clt v.1 (g st.1 s) with
        | false => rfl
        | true => exact absurd (.inr q) c
def round (w : δ → Nat) (B : Bk σ δ) (T : Tab σ Cost) : Tab σ Cost × Bool := B.S.reverse.foldl (turn w B) (T, false)
theorem rd_list {w : δ → Nat} {B : Bk σ δ} {T : Tab σ Cost} : ∀ (l l' : List σ) (st : Tab σ Cost × Bool), (∀ s ∈ l, s ∈ B.S) → Rd w B T l' st → Rd w B T (l' ++ l) (l.foldl (turn w B) st)
  | [], l', st, _, r => by rw [List.append_nil]; exact r
  | s :: l, l', st, hs, r => by
    have := rd_list l (l' ++ [s]) (turn w B st s) (fun x hx => hs x (by simp [hx])) (rd_turn r (hs s (by simp)))
    rw [List.append_assoc] at this
    exact this
theorem rd_round {w : δ → Nat} {B : Bk σ δ} {T : Tab σ Cost} (h : Go w B T) : Rd w B T B.S.reverse (round w B T) := by
  have r := rd_list B.S.reverse [] (T, false) (fun s hs => List.mem_reverse.mp hs) (rd_nil h)
  rwa [List.nil_append] at r
def it (w : δ → Nat) (B : Bk σ δ) : Nat → Tab σ Cost
  | 0 => T0 B
  | n + 1 => (round w B (it w B n)).1
theorem go_it (w : δ → Nat) {B : Bk σ δ} (nd : B.S.Nodup) : ∀ n, Go w B (it w B n)
  | 0 => go_t0 w nd
  | n + 1 => (rd_round (go_it w nd n)).go
theorem ex_stop (w : δ → Nat) {B : Bk σ δ} (nd : B.S.Nodup) : ∃ N, (round w B (it w B N)).2 = false := by
  have h := ind3 (fun m => ∀ n, meas B (it w B n) = m → ∃ N, (round w B (it w B N)).2 = false) (fun m ih n hn => by
    cases q : (round w B (it w B n)).2 with
    | false => exact ⟨n, q⟩
    | true =>
      have ls := (rd_round (go_it w nd n)).less q
      rw [hn] at ls
      exact ih _ ls (n + 1) rfl)
  exact h _ _ _ 0 rfl
theorem ex_min {p : Nat → Bool} : ∀ n, p n = false → ∃ N, p N = false ∧ ∀ m, m < N → p m = true := by
  intro n
  induction n using Nat.strongRecOn with
  | _ n ih =>
    intro h
    by_cases q : ∃ m, m < n ∧ p m = false
    · obtain ⟨m, hm, hp⟩ := q
      exact ih m hm hp
    · refine ⟨n, h, fun m hm => ?_⟩
      cases z : p m with
      | true => rfl
      | false => exact absurd ⟨m, hm, z⟩ q
theorem ex_first (w : δ → Nat) {B : Bk σ δ} (nd : B.S.Nodup) : ∃ N, (round w B (it w B N)).2 = false ∧ ∀ m, m < N → (round w B (it w B m)).2 = true :=
  let ⟨n, h⟩ := ex_stop w nd
  ex_min (p := fun n => (round w B (it w B n)).2) n h
open Classical in
noncomputable def stop (w : δ → Nat) (B : Bk σ δ) : Nat := if h : ∃ N, (round w B (it w B N)).2 = false ∧ ∀ m, m < N → (round w B (it w B m)).2 = true then h.choose else 0
theorem stop_ok (w : δ → Nat) {B : Bk σ δ} (nd : B.S.Nodup) : (round w B (it w B (stop w B))).2 = false ∧ ∀ m, m < stop w B → (round w B (it w B m)).2 = true := by
  have h := ex_first w nd
  unfold stop
  rw [dif_pos h]
  exact h.choose_spec
/-- the table of costs -/
noncomputable def fin (w : δ → Nat) (B : Bk σ δ) : Tab σ Cost := it w B (stop w B)
def way (w : δ → Nat) (B : Bk σ δ) (T : Tab σ Cost) (s : σ) : Option Nat := if B.isEnd s = true then none else (lc w (B.ln s) T).map (·.2)
structure Right (w : δ → Nat) (B : Bk σ δ) (T : Tab σ Cost) (wy : σ → Option Nat) : Prop where
  keys : ∀ s, has T s = true → s ∈ B.S
  nd : (T.map (·.1)).Nodup
  endz : ∀ s ∈ B.S, B.isEnd s = true → val T s = some (0, 0)
  le : ∀ s ∈ B.S, ∀ l ∈ B.ln s, allIn T l.ps = true → has T s = true ∧ (g T s).1 ≤ own w l + wsum T l.ps
  is : ∀ s, has T s = true → (B.isEnd s = true ∧ wy s = none) ∨ (B.isEnd s = false ∧ ∃ l ∈ B.ln s, wy s = some l.num ∧ allIn T l.ps = true ∧ g T s = costOf w T l)
theorem right (w : δ → Nat) {B : Bk σ δ} (nd : B.S.Nodup) : Right w B (fin w B) (way w B (fin w B)) := by
  have gg : Go w B (fin w B) := go_it w nd _
  have rd := rd_round gg
  have st : ∀ s ∈ B.S, turn w B (fin w B, false) s = (fin w B, false) := fun s hs => (rd.same (stop_ok w nd).1).2 s (List.mem_reverse.mpr hs)
  have keep : ∀ s ∈ B.S, ∀ v, lc w (B.ln s) (fin w B) = some v → has (fin w B) s = true ∧ clt v.1 (g (fin w B) s) = false := fun s hs v hv => by
    have c : ¬ (has (fin w B) s = false ∨ clt v.1 (g (fin w B) s) = true) := fun c => by
      have := (turn_put (st := (fin w B, false)) hv c).symm.trans (st s hs)
      exact absurd (congrArg (·.2) this) (by simp)
    refine ⟨?_, ?_⟩
    · cases q : has (fin w B) s with
      | true => rfl
      | false => exact absurd (.inl q) c
    · cases q : clt v.1 (g (fin w B) s) with
      | false => rfl
      | true => exact absurd (.inr q) c
  refine ⟨fun s hs => gg.keys s (has_mem.mp hs), gg.nd, gg.endz, fun s hs l hl ha => ?_, fun s hs => ?_⟩
  · have ne : lc w (B.ln s) (fin w B) ≠ none := fun z => by
      have := lc_none.mp z l hl
      rw [ha] at this; cases this
    obtain ⟨v, hv⟩ := Option.ne_none_iff_exists'.mp ne
    obtain ⟨h1, h2⟩ := keep s hs v hv
    refine ⟨h1, ?_⟩
    have a := cle_of h2
    have b := (lc_some hv).2 l hl ha
    have c := cle_trans a b
    unfold Cle costOf at c
    simp only at c
    omega
  · cases he : B.isEnd s with
    | true => exact .inl ⟨rfl, by unfold way; rw [if_pos he]⟩
    | false =>
      refine .inr ⟨rfl, ?_⟩
      obtain ⟨v, hv⟩ := has_val hs
      obtain ⟨u, h1, h2⟩ := gg.lrv s v hv he
      obtain ⟨_, h4⟩ := keep s (gg.keys s (has_mem.mp hs)) u h1
      rw [g_val hv] at h4 ⊢
      obtain ⟨⟨l, hl, ha, e⟩, _⟩ := lc_some h1
      refine ⟨l, hl, ?_, ha, ?_⟩
      · unfold way
        rw [if_neg (by rw [he]; simp), h1, e]; rfl
      · have a := cle_of h4
        rw [e] at a h2
        unfold Cle at a h2
        refine Prod.ext ?_ ?_
        · simp only at a h2; omega
        · simp only at a h2; omega
theorem right_round (w : δ → Nat) {B : Bk σ δ} (nd : B.S.Nodup) : (round w B (fin w B)).2 = false := (stop_ok w nd).1
end CK
/-! Chosen ways: counts, turns, prices. -/
namespace CK
variable {σ : Type} [DecidableEq σ] {δ : Type} [DecidableEq δ]
/-! ### sums -/
theorem sum_add2 {ι : Type} (f h : ι → Nat) : ∀ l : List ι, (l.map fun x => f x + h x).sum = (l.map f).sum + (l.map h).sum
  | [] => rfl
  | x :: l => by
    have := sum_add2 f h l
    simp only [List.map_cons, List.sum_cons]
    omega
theorem sum_zero {ι : Type} : ∀ l : List ι, (l.map fun _ => 0).sum = 0
  | [] => rfl
  | x :: l => by
    have := sum_zero l
    simp only [List.map_cons, List.sum_cons]
    omega
theorem sum_swap {ι κ : Type} (f : ι → κ → Nat) : ∀ (a : List ι) (b : List κ), (a.map fun x => (b.map fun y => f x y).sum).sum = (b.map fun y => (a.map fun x => f x y).sum).sum
  | [], b => by
    simp only [List.map_nil, List.sum_nil]
    exact (sum_zero b).symm
  | x :: a, b => by
    have := sum_swap f a b
    simp only [List.map_cons, List.sum_cons]
    rw [this, sum_add2]
theorem sum_mul {ι : Type} (f : ι → Nat) (c : Nat) : ∀ l : List ι, (l.map f).sum * c = (l.map fun x => f x * c).sum
  | [] => Nat.zero_mul c
  | x :: l => by
    have := sum_mul f c l
    simp only [List.map_cons, List.sum_cons]
    rw [Nat.add_mul, this]
theorem sum_mono {ι : Type} {f h : ι → Nat} : ∀ {l : List ι}, (∀ x ∈ l, f x ≤ h x) → (l.map f).sum ≤ (l.map h).sum
  | [], _ => Nat.le_refl _
  | x :: l, q => by
    have := sum_mono (l := l) fun y hy => q y (by simp [hy])
    have := q x (by simp)
    simp only [List.map_cons, List.sum_cons]
    omega
theorem sum_congr {ι : Type} {f h : ι → Nat} {l : List ι} (q : ∀ x ∈ l, f x = h x) : (l.map f).sum = (l.map h).sum := by rw [List.map_congr_left q]
theorem mem_sum {ι : Type} {f : ι → Nat} : ∀ {l : List ι} {x : ι}, x ∈ l → f x ≤ (l.map f).sum
  | y :: l, x, h => by
    simp only [List.map_cons, List.sum_cons]
    rcases List.mem_cons.mp h with e | h
    · rw [e]; omega
    · have := mem_sum (f := f) h; omega
theorem sum_ind (w : δ → Nat) (d0 : δ) : ∀ {ds : List δ}, ds.Nodup → (ds.map fun d => (if d0 = d then 1 else 0) * w d).sum = if d0 ∈ ds then w d0 else 0
  | [], _ => rfl
  | d :: ds, nd => by
    obtain ⟨n1, n2⟩ := List.nodup_cons.mp nd
    have ih := sum_ind w d0 n2
    simp only [List.map_cons, List.sum_cons]
    rw [ih]
    by_cases e : d0 = d
    · subst e
      rw [if_pos rfl, if_neg n1, if_pos (by simp)]
      omega
    · rw [if_neg e]
      by_cases m : d0 ∈ ds
      · rw [if_pos m, if_pos (List.mem_cons_of_mem _ m)]; omega
      · rw [if_neg m, if_neg (by simp [e, m])]; omega

/-! ### counts and turns along ways -/
variable {ch : σ → Option (Line σ δ)}
def ind (o : Option δ) (d : δ) : Nat := if o = some d then 1 else 0
def cntN (ch : σ → Option (Line σ δ)) : Nat → σ → δ → Nat
  | 0, _, _ => 0
  | n + 1, s, d => match ch s with
    | none => 0
    | some l => ind l.deed d + (l.ps.map fun p => cntN ch n p d).sum
def szN (ch : σ → Option (Line σ δ)) : Nat → σ → Nat
  | 0, _ => 0
  | n + 1, s => match ch s with
    | none => 1
    | some l => 1 + (l.ps.map fun p => szN ch n p).sum
def Dag (ch : σ → Option (Line σ δ)) (K : σ → Prop) (mv : σ → Nat) : Prop := ∀ s, K s → ∀ l, ch s = some l → ∀ p ∈ l.ps, K p ∧ mv p < mv s
theorem cnt_stab {K : σ → Prop} {mv : σ → Nat} (h : Dag ch K mv) (d : δ) : ∀ (n m : Nat) (s : σ), K s → mv s < n → mv s < m → cntN ch n s d = cntN ch m s d
  | 0, m, s, _, a, _ => absurd a (Nat.not_lt_zero _)
  | n + 1, 0, s, _, _, b => absurd b (Nat.not_lt_zero _)
  | n + 1, m + 1, s, k, a, b => by
    unfold cntN
    cases q : ch s with
    | none => rfl
    | some l =>
      show ind l.deed d + _ = ind l.deed d + _
      refine congrArg (ind l.deed d + ·) (sum_congr fun p hp => ?_)
      obtain ⟨k2, lt⟩ := h s k l q p hp
      exact cnt_stab h d n m p k2 (by omega) (by omega)
theorem sz_stab {K : σ → Prop} {mv : σ → Nat} (h : Dag ch K mv) : ∀ (n m : Nat) (s : σ), K s → mv s < n → mv s < m → szN ch n s = szN ch m s
  | 0, m, s, _, a, _ => absurd a (Nat.not_lt_zero _)
  | n + 1, 0, s, _, _, b => absurd b (Nat.not_lt_zero _)
  | n + 1, m + 1, s, k, a, b => by
    unfold szN
    cases q : ch s with
    | none => rfl
    | some l =>
      show 1 + _ = 1 + _
      refine congrArg (1 + ·) (sum_congr fun p hp => ?_)
      obtain ⟨k2, lt⟩ := h s k l q p hp
      exact sz_stab h n m p k2 (by omega) (by omega)
def cnt (ch : σ → Option (Line σ δ)) (mv : σ → Nat) (s : σ) (d : δ) : Nat := cntN ch (mv s + 1) s d
def sz (ch : σ → Option (Line σ δ)) (mv : σ → Nat) (s : σ) : Nat := szN ch (mv s + 1) s
theorem cnt_end {mv : σ → Nat} {s : σ} (q : ch s = none) (d : δ) : cnt ch mv s d = 0 := by
  unfold cnt cntN
  rw [q]
theorem cnt_step {K : σ → Prop} {mv : σ → Nat} (h : Dag ch K mv) {s : σ} (k : K s) {l : Line σ δ} (q : ch s = some l) (d : δ) : cnt ch mv s d = ind l.deed d + (l.ps.map fun p => cnt ch mv p d).sum := by
  have e : cnt ch mv s d = ind l.deed d + (l.ps.map fun p => cntN ch (mv s) p d).sum := by
    show (match ch s with
      | none => 0
      | some l => ind l.deed d + (l.ps.map fun p => cntN ch (mv s) p d).sum) = _
    rw [q]
  rw [e]
  refine congrArg (ind l.deed d + ·) (sum_congr fun p hp => ?_)
  obtain ⟨k2, lt⟩ := h s k l q p hp
  exact cnt_stab h d _ _ p k2 lt (Nat.lt_succ_self _)
theorem sz_end {mv : σ → Nat} {s : σ} (q : ch s = none) : sz ch mv s = 1 := by
  unfold sz szN
  rw [q]
theorem sz_step {K : σ → Prop} {mv : σ → Nat} (h : Dag ch K mv) {s : σ} (k : K s) {l : Line σ δ} (q : ch s = some l) : sz ch mv s = 1 + (l.ps.map fun p => sz ch mv p).sum := by
  have e : sz ch mv s = 1 + (l.ps.map fun p => szN ch (mv s) p).sum := by
    show (match ch s with
      | none => 1
      | some l => 1 + (l.ps.map fun p => szN ch (mv s) p).sum) = _
    rw [q]
  rw [e]
  refine congrArg (1 + ·) (sum_congr fun p hp => ?_)
  obtain ⟨k2, lt⟩ := h s k l q p hp
  exact sz_stab h _ _ p k2 lt (Nat.lt_succ_self _)
theorem sz_pos {mv : σ → Nat} (s : σ) : 1 ≤ sz ch mv s := by
  unfold sz szN
  cases ch s with
  | none => exact Nat.le_refl _
  | some l => show 1 ≤ 1 + _; omega

/-! ### the ways of a right table -/
def chl (B : Bk σ δ) (wy : σ → Option Nat) (s : σ) : Option (Line σ δ) := (wy s).bind fun k => (B.ln s).find? fun l => decide (l.num = k)
structure Bk.Ok (B : Bk σ δ) : Prop where
  nd : B.S.Nodup
  nums : ∀ s ∈ B.S, ((B.ln s).map (·.num)).Nodup
theorem find_num {l : Line σ δ} : ∀ {ls : List (Line σ δ)}, (ls.map (·.num)).Nodup → l ∈ ls → (ls.find? fun x => decide (x.num = l.num)) = some l
  | x :: ls, nd, h => by
    rw [List.map_cons, List.nodup_cons] at nd
    rw [List.find?_cons]
    rcases List.mem_cons.mp h with e | h
    · rw [← e, decide_eq_true rfl]
    · rw [decide_eq_false fun z => nd.1 (by rw [z]; exact List.mem_map.mpr ⟨l, h, rfl⟩)]
      exact find_num nd.2 h
/-- what the way of a stage is -/
theorem Right.chl {w : δ → Nat} {B : Bk σ δ} {T : Tab σ Cost} {wy : σ → Option Nat} (r : Right w B T wy) (ok : B.Ok) {s : σ} (hs : has T s = true) :
    (B.isEnd s = true ∧ wy s = none ∧ CK.chl B wy s = none ∧ g T s = (0, 0)) ∨ (B.isEnd s = false ∧ ∃ l ∈ B.ln s, wy s = some l.num ∧ CK.chl B wy s = some l ∧ allIn T l.ps = true ∧ g T s = costOf w T l) := by
  have sS := r.keys s hs
  rcases r.is s hs with ⟨h1, h2⟩ | ⟨h1, l, hl, h2, h3, h4⟩
  · exact .inl ⟨h1, h2, by unfold CK.chl; rw [h2]; rfl, g_val (r.endz s sS h1)⟩
  · exact .inr ⟨h1, l, hl, h2, by unfold CK.chl; rw [h2]; exact find_num (ok.nums s sS) hl, h3, h4⟩
def mv (T : Tab σ Cost) (s : σ) : Nat := (g T s).2
theorem msum_mem {T : Tab σ Cost} {ps : List σ} {p : σ} (h : p ∈ ps) : (g T p).2 ≤ msum T ps := mem_sum (f := fun p => (g T p).2) h
theorem Right.dag {w : δ → Nat} {B : Bk σ δ} {T : Tab σ Cost} {wy : σ → Option Nat} (r : Right w B T wy) (ok : B.Ok) : Dag (CK.chl B wy) (fun s => has T s = true) (mv T) := fun s hs l hl p hp => by
  rcases r.chl ok hs with ⟨_, _, h, _⟩ | ⟨_, l', _, _, h, ha, hg⟩
  · rw [h] at hl; cases hl
  · rw [h] at hl
    cases hl
    refine ⟨List.all_eq_true.mp ha p hp, ?_⟩
    have := msum_mem (T := T) hp
    unfold mv
    rw [hg]
    show _ < 1 + msum T l.ps
    omega
/-- the same stages whatever the weights -/
theorem keys_le {w w' : δ → Nat} {B : Bk σ δ} {T T' : Tab σ Cost} {wy wy' : σ → Option Nat} (ok : B.Ok) (r : Right w B T wy) (r' : Right w' B T' wy') : ∀ (n : Nat) (s : σ), mv T s ≤ n → has T s = true → has T' s = true := by
  intro n
  induction n with
  | zero =>
    intro s hn hs
    rcases r.chl ok hs with ⟨h1, _, _, _⟩ | ⟨_, l, _, _, _, _, hg⟩
    · exact has_of (r'.endz s (r.keys s hs) h1)
    · unfold mv at hn
      rw [hg] at hn
      have : 1 + msum T l.ps ≤ 0 := hn
      omega
  | succ n ih =>
    intro s hn hs
    rcases r.chl ok hs with ⟨h1, _, _, _⟩ | ⟨_, l, hl, _, hc, ha, hg⟩
    · exact has_of (r'.endz s (r.keys s hs) h1)
    · refine (r'.le s (r.keys s hs) l hl (List.all_eq_true.mpr fun p hp => ?_)).1
      obtain ⟨k, lt⟩ := r.dag ok s hs l hc p hp
      exact ih p (by omega) k
theorem keys_eq {w w' : δ → Nat} {B : Bk σ δ} {T T' : Tab σ Cost} {wy wy' : σ → Option Nat} (ok : B.Ok) (r : Right w B T wy) (r' : Right w' B T' wy') (s : σ) : has T s = has T' s := by
  cases q : has T s with
  | true => exact (keys_le ok r r' _ s (Nat.le_refl _) q).symm
  | false =>
    cases q' : has T' s with
    | false => rfl
    | true => exact (q.symm.trans (keys_le ok r' r _ s (Nat.le_refl _) q')).symm ▸ rfl
def price (ds : List δ) (w : δ → Nat) (c : δ → Nat) : Nat := (ds.map fun d => c d * w d).sum
theorem price_step {ds : List δ} (nd : ds.Nodup) {B : Bk σ δ} {wy : σ → Option Nat} {T : Tab σ Cost} (h : Dag (chl B wy) (fun s => has T s = true) (mv T)) (w : δ → Nat) {s : σ} (hs : has T s = true) {l : Line σ δ} (hl : chl B wy s = some l) (hd : ∀ d, l.deed = some d → d ∈ ds) :
    price ds w (cnt (chl B wy) (mv T) s) = own w l + (l.ps.map fun p => price ds w (cnt (chl B wy) (mv T) p)).sum := by
  unfold price
  have e : (ds.map fun d => cnt (chl B wy) (mv T) s d * w d).sum = (ds.map fun d => ind l.deed d * w d + (l.ps.map fun p => cnt (chl B wy) (mv T) p d * w d).sum).sum := sum_congr fun d _ => by rw [cnt_step h hs hl d, Nat.add_mul, sum_mul]
  rw [e, sum_add2, sum_swap]
  congr 1
  unfold ind own
  cases q : l.deed with
  | none =>
    refine (sum_congr fun d _ => ?_).trans (sum_zero ds)
    rw [if_neg (by simp)]; omega
  | some d0 =>
    have := sum_ind w d0 nd
    rw [if_pos (hd d0 q)] at this
    refine (sum_congr fun d _ => ?_).trans this
    by_cases z : d0 = d
    · rw [if_pos z, if_pos (by rw [z])]
    · rw [if_neg z, if_neg fun y => z (Option.some.inj y)]
/-- the price of the counts along the ways is the least price -/
theorem price_eq {ds : List δ} (nd : ds.Nodup) {w : δ → Nat} {B : Bk σ δ} (ok : B.Ok) {T : Tab σ Cost} {wy : σ → Option Nat} (r : Right w B T wy) (hd : ∀ s ∈ B.S, ∀ l ∈ B.ln s, ∀ d, l.deed = some d → d ∈ ds) : ∀ (n : Nat) (s : σ), mv T s ≤ n → has T s = true → price ds w (cnt (chl B wy) (mv T) s) = (g T s).1 := by
  intro n
  induction n with
  | zero =>
    intro s hn hs
    rcases r.chl ok hs with ⟨_, _, hc, hg⟩ | ⟨_, l, _, _, _, _, hg⟩
    · rw [hg]
      refine (sum_congr fun d _ => ?_).trans (sum_zero ds)
      rw [cnt_end hc]; omega
    · unfold mv at hn
      rw [hg] at hn
      have : 1 + msum T l.ps ≤ 0 := hn
      omega
  | succ n ih =>
    intro s hn hs
    rcases r.chl ok hs with ⟨_, _, hc, hg⟩ | ⟨_, l, hl, _, hc, ha, hg⟩
    · rw [hg]
      refine (sum_congr fun d _ => ?_).trans (sum_zero ds)
      rw [cnt_end hc]; omega
    · rw [price_step nd (r.dag ok) w hs hc (hd s (r.keys s hs) l hl), hg]
      show own w l + _ = own w l + _
      refine congrArg (own w l + ·) (sum_congr fun p hp => ?_)
      obtain ⟨k, lt⟩ := r.dag ok s hs l hc p hp
      exact ih p (by omega) k
/-- by other prices it is no less than their least price -/
theorem price_ge {ds : List δ} (nd : ds.Nodup) {w w' : δ → Nat} {B : Bk σ δ} (ok : B.Ok) {T T' : Tab σ Cost} {wy wy' : σ → Option Nat} (r : Right w B T wy) (r' : Right w' B T' wy') (hd : ∀ s ∈ B.S, ∀ l ∈ B.ln s, ∀ d, l.deed = some d → d ∈ ds) : ∀ (n : Nat) (s : σ), mv T s ≤ n → has T s = true → (g T' s).1 ≤ price ds w' (cnt (chl B wy) (mv T) s) := by
  intro n
  induction n with
  | zero =>
    intro s hn hs
    rcases r.chl ok hs with ⟨h1, _, hc, hg⟩ | ⟨_, l, _, _, _, _, hg⟩
    · rw [g_val (r'.endz s (r.keys s hs) h1)]; exact Nat.zero_le _
    · unfold mv at hn
      rw [hg] at hn
      have : 1 + msum T l.ps ≤ 0 := hn
      omega
  | succ n ih =>
    intro s hn hs
    rcases r.chl ok hs with ⟨h1, _, hc, hg⟩ | ⟨_, l, hl, _, hc, ha, hg⟩
    · rw [g_val (r'.endz s (r.keys s hs) h1)]; exact Nat.zero_le _
    · rw [price_step nd (r.dag ok) w' hs hc (hd s (r.keys s hs) l hl)]
      have hle := (r'.le s (r.keys s hs) l hl (List.all_eq_true.mpr fun p hp => by rw [← keys_eq ok r r']; exact List.all_eq_true.mp ha p hp)).2
      have : wsum T' l.ps ≤ (l.ps.map fun p => price ds w' (cnt (chl B wy) (mv T) p)).sum := sum_mono fun p hp => by
        obtain ⟨k, lt⟩ := r.dag ok s hs l hc p hp
        exact ih p (by omega) k
      omega
theorem price_pile (ds : List δ) (w : δ → Nat) (c : σ → δ → Nat) (pile : List σ) : price ds w (fun d => (pile.map fun p => c p d).sum) = (pile.map fun p => price ds w (c p)).sum := by
  unfold price
  rw [sum_swap (fun p d => c p d * w d)]
  exact sum_congr fun d _ => sum_mul _ _ _

/-! ### how many turns a closing takes -/
def Hm : Nat → Nat
  | 0 => 0
  | k + 1 => 3 + 2 * Hm k
theorem Hm_mono {a b : Nat} (h : a ≤ b) : Hm a ≤ Hm b := by
  induction b with
  | zero => rw [Nat.le_zero.mp h]; exact Nat.le_refl _
  | succ b ih =>
    rcases Nat.lt_or_ge b a with q | q
    · rw [Nat.le_antisymm h q]; exact Nat.le_refl _
    · have := ih q
      show _ ≤ 3 + 2 * Hm b
      omega
theorem filt_lt {l : List σ} {p q : σ → Bool} (h : ∀ x ∈ l, p x = true → q x = true) {y : σ} (hy : y ∈ l) (hp : p y = false) (hq : q y = true) : (l.filter p).length + 1 ≤ (l.filter q).length := by
  induction l with
  | nil => cases hy
  | cons x l ih =>
    have hle : ∀ {m : List σ}, (∀ x ∈ m, p x = true → q x = true) → (m.filter p).length ≤ (m.filter q).length := by
      intro m
      induction m with
      | nil => intro _; exact Nat.le_refl _
      | cons z m im =>
        intro hm
        have := im fun u hu => hm u (by simp [hu])
        have hz := hm z (by simp)
        rw [List.filter_cons, List.filter_cons]
        cases a : p z with
        | true => rw [hz a]; simp; omega
        | false => cases q z <;> simp <;> omega
    rw [List.filter_cons, List.filter_cons]
    rcases List.mem_cons.mp hy with e | hy
    · subst e
      rw [hp, hq]
      have := hle (m := l) fun u hu => h u (by simp [hu])
      simp; omega
    · have ih := ih (fun u hu => h u (by simp [hu])) hy
      have hx := h x (by simp)
      cases a : p x with
      | true => rw [hx a]; simp; omega
      | false => cases q x <;> simp <;> omega
theorem filt_le {l : List σ} {p q : σ → Bool} (h : ∀ x ∈ l, p x = true → q x = true) : (l.filter p).length ≤ (l.filter q).length := by
  induction l with
  | nil => exact Nat.le_refl _
  | cons z m im =>
    have := im fun u hu => h u (by simp [hu])
    have hz := h z (by simp)
    rw [List.filter_cons, List.filter_cons]
    cases a : p z with
    | true => rw [hz a]; simp; omega
    | false => cases q z <;> simp <;> omega
/-- stages of courses of at most three stages -/
structure Spine (ch : σ → Option (Line σ δ)) (K : σ → Prop) (mv : σ → Nat) {κ : Type} [DecidableEq κ] (cr : σ → κ) (isSt : σ → Bool) (L : List σ) : Prop where
  mem : ∀ s, K s → s ∈ L
  two : ∀ s, K s → (L.filter fun x => decide (cr x = cr s) && decide (mv x < mv s)).length ≤ 2
  st : (L.filter isSt).length ≤ 3
  ln : ∀ s, K s → ∀ l, ch s = some l → (∃ b, l.ps = [b] ∧ cr b = cr s) ∨ ∃ t b, l.ps = [t, b] ∧ isSt t = true ∧ cr b = cr s
def jj {κ : Type} [DecidableEq κ] (cr : σ → κ) (mv : σ → Nat) (L : List σ) (s : σ) : Nat := (L.filter fun x => decide (cr x = cr s) && decide (mv x < mv s)).length
def kk (isSt : σ → Bool) (mv : σ → Nat) (L : List σ) (s : σ) : Nat := (L.filter fun x => isSt x && decide (mv x < mv s)).length
theorem sz_le {K : σ → Prop} {mv : σ → Nat} {κ : Type} [DecidableEq κ] {cr : σ → κ} {isSt : σ → Bool} {L : List σ} (sp : Spine ch K mv cr isSt L) (h : Dag ch K mv) : ∀ (n : Nat) (s : σ), mv s ≤ n → K s → sz ch mv s ≤ 1 + jj cr mv L s * (1 + Hm (kk isSt mv L s)) := by
  have jlt : ∀ {s b}, K b → cr b = cr s → mv b < mv s → jj cr mv L b + 1 ≤ jj cr mv L s := by
    intro s b kb e lt
    refine filt_lt (y := b) (fun x _ hx => ?_) (sp.mem b kb) (by simp) (by simp [e, lt])
    simp only [Bool.and_eq_true, decide_eq_true_eq] at hx ⊢
    exact ⟨hx.1.trans e, by omega⟩
  have kle : ∀ {s b}, mv b < mv s → kk isSt mv L b ≤ kk isSt mv L s := by
    intro s b lt
    refine filt_le fun x _ hx => ?_
    simp only [Bool.and_eq_true, decide_eq_true_eq] at hx ⊢
    exact ⟨hx.1, by omega⟩
  have klt : ∀ {s t}, K t → isSt t = true → mv t < mv s → kk isSt mv L t + 1 ≤ kk isSt mv L s := by
    intro s t kt e lt
    refine filt_lt (y := t) (fun x _ hx => ?_) (sp.mem t kt) (by simp) (by simp [e, lt])
    simp only [Bool.and_eq_true, decide_eq_true_eq] at hx ⊢
    exact ⟨hx.1, by omega⟩
  intro n
  induction n with
  | zero =>
    intro s hn ks
    cases q : ch s with
    | none => rw [sz_end q]; exact Nat.le_add_right _ _
    | some l =>
      rcases sp.ln s ks l q with ⟨b, e, _⟩ | ⟨t, b, e, _⟩
      · have := (h s ks l q b (by rw [e]; simp)).2; omega
      · have := (h s ks l q b (by rw [e]; simp)).2; omega
  | succ n ih =>
    intro s hn ks
    cases q : ch s with
    | none => rw [sz_end q]; exact Nat.le_add_right _ _
    | some l =>
      have own : ∀ {b}, K b → cr b = cr s → mv b < mv s → sz ch mv b + (1 + Hm (kk isSt mv L s)) ≤ 1 + jj cr mv L s * (1 + Hm (kk isSt mv L s)) := by
        intro b kb e lt
        have h1 := ih b (by omega) kb
        have h2 := jlt kb e lt
        have h3 := Hm_mono (kle (s := s) lt)
        have h4 : jj cr mv L b * (1 + Hm (kk isSt mv L b)) ≤ jj cr mv L b * (1 + Hm (kk isSt mv L s)) := Nat.mul_le_mul_left _ (by omega)
        have h5 : (jj cr mv L b + 1) * (1 + Hm (kk isSt mv L s)) ≤ jj cr mv L s * (1 + Hm (kk isSt mv L s)) := Nat.mul_le_mul_right _ h2
        rw [Nat.succ_mul] at h5
        omega
      rw [sz_step h ks q]
      rcases sp.ln s ks l q with ⟨b, e, eb⟩ | ⟨t, b, e, et, eb⟩
      · obtain ⟨kb, lt⟩ := h s ks l q b (by rw [e]; simp)
        have := own kb eb lt
        rw [e]
        simp only [List.map_cons, List.map_nil, List.sum_cons, List.sum_nil]
        omega
      · obtain ⟨kb, lt⟩ := h s ks l q b (by rw [e]; simp)
        obtain ⟨kt, lt'⟩ := h s ks l q t (by rw [e]; simp)
        have o := own kb eb lt
        have h1 := ih t (by omega) kt
        have h2 : jj cr mv L t ≤ 2 := sp.two t kt
        have h3 : jj cr mv L t * (1 + Hm (kk isSt mv L t)) ≤ 2 * (1 + Hm (kk isSt mv L t)) := Nat.mul_le_mul_right _ h2
        have h4 := Hm_mono (klt (s := s) kt et lt')
        have h5 : Hm (kk isSt mv L t + 1) = 3 + 2 * Hm (kk isSt mv L t) := rfl
        rw [e]
        simp only [List.map_cons, List.map_nil, List.sum_cons, List.sum_nil]
        omega
theorem sz_45 {K : σ → Prop} {mv : σ → Nat} {κ : Type} [DecidableEq κ] {cr : σ → κ} {isSt : σ → Bool} {L : List σ} (sp : Spine ch K mv cr isSt L) (h : Dag ch K mv) {s : σ} (ks : K s) : sz ch mv s ≤ 45 := by
  have h1 := sz_le sp h _ s (Nat.le_refl _) ks
  have h2 : jj cr mv L s ≤ 2 := sp.two s ks
  have h3 : kk isSt mv L s ≤ 3 := Nat.le_trans (filt_le fun x _ hx => by
    simp only [Bool.and_eq_true] at hx
    exact hx.1) sp.st
  have h4 : Hm (kk isSt mv L s) ≤ 21 := Hm_mono h3
  have h5 : jj cr mv L s * (1 + Hm (kk isSt mv L s)) ≤ 2 * (1 + Hm (kk isSt mv L s)) := Nat.mul_le_mul_right _ h2
  omega
end CK
/-! Ranks of stages: the plain law. -/
namespace RK
variable {σ : Type} [DecidableEq σ]
abbrev Tab (σ : Type) := List (σ × Int)
def val (T : Tab σ) (s : σ) : Option Int := (T.find? fun p => decide (p.1 = s)).map (·.2)
def has (T : Tab σ) (s : σ) : Bool := (val T s).isSome
def allIn (T : Tab σ) (ps : List σ) : Bool := ps.all (has T)
def sumV (T : Tab σ) (ps : List σ) : Int := (ps.map fun p => (val T p).getD 0).sum
def lrStep (T : Tab σ) (best : Option Int) (ps : List σ) : Option Int :=
  if allIn T ps = true then
    match best with
    | none => some (1 + sumV T ps)
    | some b => if 1 + sumV T ps < b then some (1 + sumV T ps) else some b
  else best
def lr (e : Bool) (lns : List (List σ)) (T : Tab σ) : Option Int := lns.foldl (lrStep T) (if e = true then some 1 else none)
def put (T : Tab σ) (s : σ) (v : Int) : Tab σ := if has T s = true then T.map (fun p => if p.1 = s then (p.1, v) else p) else T ++ [(s, v)]

theorem val_nil (s : σ) : val ([] : Tab σ) s = none := rfl
theorem val_cons (p : σ × Int) (T : Tab σ) (s : σ) : val (p :: T) s = if p.1 = s then some p.2 else val T s := by
  unfold val
  rw [List.find?_cons]
  by_cases h : p.1 = s
  · rw [if_pos h, decide_eq_true h]; rfl
  · rw [if_neg h, decide_eq_false h]
theorem val_mem {T : Tab σ} {s : σ} : (val T s).isSome = true ↔ s ∈ T.map (·.1) := by
  induction T with
  | nil => simp [val_nil]
  | cons p T ih =>
    rw [val_cons, List.map_cons, List.mem_cons]
    by_cases h : p.1 = s
    · simp [h]
    · rw [if_neg h, ih]
      exact ⟨.inr, fun z => z.resolve_left fun q => h q.symm⟩
theorem val_snoc (T : Tab σ) (s j : σ) (v : Int) (h : val T s = none) : val (T ++ [(s, v)]) j = if j = s then some v else val T j := by
  induction T with
  | nil =>
    rw [List.nil_append, val_cons]
    by_cases e : j = s
    · rw [if_pos e, if_pos e.symm]
    · rw [if_neg e, if_neg fun z => e z.symm]
  | cons p T ih =>
    rw [val_cons] at h
    have hp : ¬ p.1 = s := fun z => by rw [if_pos z] at h; cases h
    rw [if_neg hp] at h
    rw [List.cons_append, val_cons, val_cons, ih h]
    by_cases e : p.1 = j
    · rw [if_pos e, if_pos e, if_neg fun z => hp (e.trans z)]
    · rw [if_neg e, if_neg e]
theorem val_map (T : Tab σ) (s j : σ) (v : Int) : val (T.map fun p => if p.1 = s then (p.1, v) else p) j = (val T j).map fun x => if j = s then v else x := by
  induction T with
  | nil => rfl
  | cons p T ih =>
    rw [List.map_cons, val_cons, val_cons, ih]
    by_cases h : p.1 = s
    · rw [if_pos h]
      by_cases e : p.1 = j
      · rw [if_pos e, if_pos e, Option.map_some, if_pos (e.symm.trans h)]
      · rw [if_neg e, if_neg e]
    · rw [if_neg h]
      by_cases e : p.1 = j
      · rw [if_pos e, if_pos e, Option.map_some, if_neg fun z => h (e.trans z)]
      · rw [if_neg e, if_neg e]
theorem val_put (T : Tab σ) (s j : σ) (v : Int) : val (put T s v) j = if j = s then some v else val T j := by
  unfold put has
  by_cases h : (val T s).isSome = true
  · rw [if_pos h, val_map]
    by_cases e : j = s
    · subst e
      obtain ⟨x, hx⟩ := Option.isSome_iff_exists.mp h
      rw [hx]; simp
    · rw [if_neg e]
      cases val T j with
      | none => rfl
      | some x => simp [e]
  · rw [if_neg h]
    refine val_snoc T s j v ?_
    cases q : val T s with
    | none => rfl
    | some x => rw [q] at h; exact absurd rfl h
theorem put_keys (T : Tab σ) (s : σ) (v : Int) : (put T s v).map (·.1) = if has T s = true then T.map (·.1) else T.map (·.1) ++ [s] := by
  unfold put
  by_cases h : has T s = true
  · rw [if_pos h, if_pos h, List.map_map]
    refine List.map_congr_left fun p _ => ?_
    show (if p.1 = s then (p.1, v) else p).1 = p.1
    by_cases e : p.1 = s
    · rw [if_pos e]
    · rw [if_neg e]
  · rw [if_neg h, if_neg h, List.map_append]; rfl

/-! ### what the least rank is -/
theorem lr_mono_fold {T : Tab σ} : ∀ (lns : List (List σ)) (b : Option Int), (lns.foldl (lrStep T) b = none ↔ b = none ∧ ∀ ps ∈ lns, allIn T ps = false) ∧
    ∀ v, lns.foldl (lrStep T) b = some v → (b = some v ∨ ∃ ps ∈ lns, allIn T ps = true ∧ v = 1 + sumV T ps) ∧ (∀ x, b = some x → v ≤ x) ∧ ∀ ps ∈ lns, allIn T ps = true → v ≤ 1 + sumV T ps
  | [], b => ⟨by simp, fun v h => ⟨.inl h, fun x hx => by rw [List.foldl_nil, hx] at h; cases h; exact Int.le_refl _, fun ps hp => absurd hp (by simp)⟩⟩
  | ps :: lns, b => by
    rw [List.foldl_cons]
    obtain ⟨i1, i2⟩ := lr_mono_fold lns (lrStep T b ps)
    by_cases h : allIn T ps = true
    · have hs : ∃ x, lrStep T b ps = some x ∧ (b = some x ∨ x = 1 + sumV T ps) ∧ x ≤ 1 + sumV T ps ∧ ∀ y, b = some y → x ≤ y := by
        unfold lrStep
        rw [if_pos h]
        cases b with
        | none => exact ⟨_, rfl, .inr rfl, Int.le_refl _, fun y hy => by cases hy⟩
        | some z =>
          by_cases q : 1 + sumV T ps < z
          · exact ⟨_, if_pos q, .inr rfl, Int.le_refl _, fun y hy => by cases hy; omega⟩
          · exact ⟨z, if_neg q, .inl rfl, by omega, fun y hy => by cases hy; exact Int.le_refl _⟩
      obtain ⟨x, hx, hx1, hx2, hx3⟩ := hs
      rw [hx] at i1 i2 ⊢
      refine ⟨⟨fun z => absurd (i1.mp z).1 (by simp), fun ⟨_, z⟩ => ?_⟩, fun v hv => ?_⟩
      · rw [z ps (by simp)] at h; cases h
      · obtain ⟨k1, k2, k3⟩ := i2 v hv
        have hvx := k2 x rfl
        refine ⟨?_, fun y hy => Int.le_trans hvx (hx3 y hy), fun q hq ha => ?_⟩
        · rcases k1 with k1 | ⟨q, hq, ha, e⟩
          · cases k1
            rcases hx1 with hx1 | hx1
            · exact .inl hx1
            · exact .inr ⟨ps, by simp, h, hx1⟩
          · exact .inr ⟨q, by simp [hq], ha, e⟩
        · rcases List.mem_cons.mp hq with e | hq
          · rw [e]; exact Int.le_trans hvx hx2
          · exact k3 q hq ha
    · have hs : lrStep T b ps = b := by unfold lrStep; rw [if_neg h]
      have hf : allIn T ps = false := by simpa using h
      rw [hs] at i1 i2 ⊢
      refine ⟨i1.trans ⟨fun ⟨a, c⟩ => ⟨a, fun q hq => ?_⟩, fun ⟨a, c⟩ => ⟨a, fun q hq => c q (by simp [hq])⟩⟩, fun v hv => ?_⟩
      · rcases List.mem_cons.mp hq with e | hq
        · rw [e]; exact hf
        · exact c q hq
      · obtain ⟨k1, k2, k3⟩ := i2 v hv
        refine ⟨?_, k2, fun q hq ha => ?_⟩
        · rcases k1 with k1 | ⟨q, hq, ha, e⟩
          · exact .inl k1
          · exact .inr ⟨q, by simp [hq], ha, e⟩
        · rcases List.mem_cons.mp hq with e | hq
          · rw [e] at ha; rw [ha] at hf; cases hf
          · exact k3 q hq ha
theorem lr_none {e : Bool} {lns : List (List σ)} {T : Tab σ} : lr e lns T = none ↔ e = false ∧ ∀ ps ∈ lns, allIn T ps = false := by
  unfold lr
  rw [(lr_mono_fold lns _).1]
  cases e <;> simp
structure Least (e : Bool) (lns : List (List σ)) (T : Tab σ) (v : Int) : Prop where
  is : (e = true ∧ v = 1) ∨ ∃ ps ∈ lns, allIn T ps = true ∧ v = 1 + sumV T ps
  end_le : e = true → v ≤ 1
  le : ∀ ps ∈ lns, allIn T ps = true → v ≤ 1 + sumV T ps
theorem lr_some {e : Bool} {lns : List (List σ)} {T : Tab σ} {v : Int} (h : lr e lns T = some v) : Least e lns T v := by
  obtain ⟨k1, k2, k3⟩ := (lr_mono_fold lns _).2 v h
  refine ⟨?_, fun he => k2 1 (if_pos he), k3⟩
  rcases k1 with k1 | k1
  · cases e with
    | false => cases k1
    | true => exact .inl ⟨rfl, by cases k1; rfl⟩
  · exact .inr k1
theorem Least.lr {e : Bool} {lns : List (List σ)} {T : Tab σ} {v : Int} (h : Least e lns T v) : RK.lr e lns T = some v := by
  cases q : RK.lr e lns T with
  | none =>
    obtain ⟨h1, h2⟩ := lr_none.mp q
    rcases h.is with ⟨h3, _⟩ | ⟨ps, hp, ha, _⟩
    · rw [h3] at h1; cases h1
    · rw [h2 ps hp] at ha; cases ha
  | some u =>
    have k := lr_some q
    refine congrArg some (Int.le_antisymm ?_ ?_)
    · rcases h.is with ⟨h3, h4⟩ | ⟨ps, hp, ha, h4⟩
      · rw [h4]; exact k.end_le h3
      · rw [h4]; exact k.le ps hp ha
    · rcases k.is with ⟨h3, h4⟩ | ⟨ps, hp, ha, h4⟩
      · rw [h4]; exact h.end_le h3
      · rw [h4]; exact h.le ps hp ha

/-! ### a book of stages -/
structure Bk (σ : Type) where
  S : List σ
  isEnd : σ → Bool
  ln : σ → List (List σ)
def Bk.lr (B : Bk σ) (T : Tab σ) (s : σ) : Option Int := RK.lr (B.isEnd s) (B.ln s) T
structure Bk.Ok (B : Bk σ) : Prop where
  nd : B.S.Nodup
  parts : ∀ s ∈ B.S, ∀ ps ∈ B.ln s, ∀ p ∈ ps, p ∈ B.S
/-- a table that fits all lines -/
structure Fits (B : Bk σ) (T : Tab σ) : Prop where
  keys : ∀ s ∈ T.map (·.1), s ∈ B.S
  pos : ∀ s v, val T s = some v → 1 ≤ v
  val : ∀ s v, val T s = some v → B.lr T s = some v
  rest : ∀ s ∈ B.S, has T s = false → B.isEnd s = false ∧ ∀ ps ∈ B.ln s, allIn T ps = false
theorem has_of {T : Tab σ} {s : σ} {v : Int} (h : val T s = some v) : has T s = true := by unfold has; rw [h]; rfl
theorem has_val {T : Tab σ} {s : σ} (h : has T s = true) : ∃ v, val T s = some v := Option.isSome_iff_exists.mp h
theorem has_mem {T : Tab σ} {s : σ} : has T s = true ↔ s ∈ T.map (·.1) := val_mem
theorem has_false {T : Tab σ} {s : σ} : has T s = false ↔ val T s = none := by
  unfold has
  cases val T s <;> simp
theorem sum_nonneg {T : Tab σ} (pos : ∀ s v, val T s = some v → 1 ≤ v) : ∀ ps : List σ, 0 ≤ sumV T ps
  | [] => by simp [sumV]
  | p :: ps => by
    have ih := sum_nonneg pos ps
    unfold sumV at ih ⊢
    rw [List.map_cons, List.sum_cons]
    cases q : val T p with
    | none => rw [Option.getD_none]; omega
    | some v => rw [Option.getD_some]; have := pos p v q; omega
theorem part_le {T : Tab σ} (pos : ∀ s v, val T s = some v → 1 ≤ v) : ∀ {ps : List σ} {p : σ} {v : Int}, p ∈ ps → val T p = some v → v ≤ sumV T ps
  | q :: ps, p, v, h, hv => by
    have n := sum_nonneg pos ps
    unfold sumV at n ⊢
    rw [List.map_cons, List.sum_cons]
    rcases List.mem_cons.mp h with e | h
    · rw [← e, hv, Option.getD_some]; omega
    · have := part_le pos h hv
      unfold sumV at this
      have : 0 ≤ (val T q).getD 0 := by
        cases z : val T q with
        | none => exact Int.le_refl _
        | some u => rw [Option.getD_some]; have := pos q u z; omega
      omega
theorem sum_le {T U : Tab σ} : ∀ {ps : List σ}, (∀ p ∈ ps, ∀ v, val T p = some v → ∃ u, val U p = some u ∧ u ≤ v) → allIn T ps = true → allIn U ps = true ∧ sumV U ps ≤ sumV T ps
  | [], _, _ => ⟨rfl, Int.le_refl _⟩
  | p :: ps, h, ha => by
    unfold allIn at ha ⊢
    rw [List.all_cons, Bool.and_eq_true] at ha
    obtain ⟨v, hv⟩ := has_val ha.1
    obtain ⟨u, hu, le⟩ := h p (by simp) v hv
    obtain ⟨i1, i2⟩ := sum_le (ps := ps) (fun q hq => h q (by simp [hq])) ha.2
    refine ⟨by rw [List.all_cons, has_of hu, Bool.true_and]; exact i1, ?_⟩
    unfold sumV at i2 ⊢
    rw [List.map_cons, List.sum_cons, List.map_cons, List.sum_cons, hv, hu, Option.getD_some, Option.getD_some]
    omega
/-- lower tables have lower least ranks -/
theorem lr_anti {e : Bool} {lns : List (List σ)} {T U : Tab σ} {v : Int} (h : ∀ p v, val T p = some v → ∃ u, val U p = some u ∧ u ≤ v) (k : RK.lr e lns T = some v) : ∃ u, RK.lr e lns U = some u ∧ u ≤ v := by
  have l := lr_some k
  have ne : RK.lr e lns U ≠ none := fun z => by
    obtain ⟨z1, z2⟩ := lr_none.mp z
    rcases l.is with ⟨he, _⟩ | ⟨ps, hp, ha, _⟩
    · rw [he] at z1; cases z1
    · have := (sum_le (U := U) (fun p _ => h p) ha).1
      rw [z2 ps hp] at this; cases this
  obtain ⟨u, hu⟩ := Option.ne_none_iff_exists'.mp ne
  refine ⟨u, hu, ?_⟩
  have m := lr_some hu
  rcases l.is with ⟨he, e1⟩ | ⟨ps, hp, ha, e1⟩
  · rw [e1]; exact m.end_le he
  · obtain ⟨i1, i2⟩ := sum_le (U := U) (fun p _ => h p) ha
    have := m.le ps hp i1
    omega
theorem fits_le {B : Bk σ} {T U : Tab σ} (fT : Fits B T) (fU : Fits B U) : ∀ (n : Nat) (s : σ) (v : Int), v.toNat ≤ n → val T s = some v → ∃ u, val U s = some u ∧ u ≤ v
  | 0, s, v, hn, hv => by have := fT.pos s v hv; omega
  | n + 1, s, v, hn, hv => by
    have l := lr_some (fT.val s v hv)
    have sS := fT.keys s (val_mem.mp (has_of hv))
    have hU : has U s = true := by
      cases q : has U s with
      | true => rfl
      | false =>
        obtain ⟨q1, q2⟩ := fU.rest s sS q
        rcases l.is with ⟨he, _⟩ | ⟨ps, hp, ha, e1⟩
        · rw [he] at q1; cases q1
        · have := (sum_le (U := U) (fun p hp v' hv' => fits_le fT fU n p v' (by have := part_le fT.pos hp hv'; have := fT.pos p v' hv'; omega) hv') ha).1
          rw [q2 ps hp] at this; cases this
    obtain ⟨u, hu⟩ := has_val hU
    refine ⟨u, hu, ?_⟩
    have m := lr_some (fU.val s u hu)
    rcases l.is with ⟨he, e1⟩ | ⟨ps, hp, ha, e1⟩
    · rw [e1]; exact m.end_le he
    · obtain ⟨i1, i2⟩ := sum_le (U := U) (fun p hp v' hv' => fits_le fT fU n p v' (by have := part_le fT.pos hp hv'; have := fT.pos p v' hv'; omega) hv') ha
      have := m.le ps hp i1
      omega
/-- there is one such table -/
theorem fits_one {B : Bk σ} {T U : Tab σ} (fT : Fits B T) (fU : Fits B U) (s : σ) : val T s = val U s := by
  cases h : val T s with
  | none =>
    cases k : val U s with
    | none => rfl
    | some u =>
      obtain ⟨x, hx, _⟩ := fits_le fU fT _ s u (Nat.le_refl _) k
      rw [h] at hx; cases hx
  | some v =>
    obtain ⟨u, hu, l1⟩ := fits_le fT fU _ s v (Nat.le_refl _) h
    obtain ⟨x, hx, l2⟩ := fits_le fU fT _ s u (Nat.le_refl _) hu
    rw [h] at hx; cases hx
    rw [hu, Int.le_antisymm l2 l1]

/-! ### the rounds -/
structure Go (B : Bk σ) (T : Tab σ) : Prop where
  keys : ∀ s ∈ T.map (·.1), s ∈ B.S
  nd : (T.map (·.1)).Nodup
  pos : ∀ s v, val T s = some v → 1 ≤ v
  lrv : ∀ s v, val T s = some v → ∃ u, B.lr T s = some u ∧ u ≤ v
  max : ∀ s v, val T s = some v → v ≤ 3 ^ T.length
theorem go_nil (B : Bk σ) : Go B [] := ⟨fun s h => absurd h (by simp), List.Pairwise.nil, fun s v h => (nomatch h), fun s v h => (nomatch h), fun s v h => (nomatch h)⟩
/-- one stage's turn -/
def turn (B : Bk σ) (st : Tab σ × Bool) (s : σ) : Tab σ × Bool :=
  match B.lr st.1 s with
  | none => st
  | some v => if has st.1 s = false ∨ v < (val st.1 s).getD 0 then (put st.1 s v, true) else st
theorem turn_put {B : Bk σ} {st : Tab σ × Bool} {s : σ} {v : Int} (h : B.lr st.1 s = some v) (c : has st.1 s = false ∨ v < (val st.1 s).getD 0) : turn B st s = (put st.1 s v, true) := by
  unfold turn
  rw [h]; exact if_pos c
theorem turn_keep {B : Bk σ} {st : Tab σ × Bool} {s : σ} (h : B.lr st.1 s = none ∨ ∃ v, B.lr st.1 s = some v ∧ has st.1 s = true ∧ (val st.1 s).getD 0 ≤ v) : turn B st s = st := by
  unfold turn
  rcases h with h | ⟨v, h, h1, h2⟩
  · rw [h]
  · rw [h]
    refine if_neg fun z => ?_
    rcases z with z | z
    · rw [h1] at z; cases z
    · omega
def sumT (T : Tab σ) : Int := (T.map (·.2)).sum
def topM (B : Bk σ) : Nat := B.S.length * 3 ^ B.S.length + 1
def meas (B : Bk σ) (T : Tab σ) : Nat := (B.S.length - T.length) * topM B + (sumT T).toNat
theorem put_len (T : Tab σ) (s : σ) (v : Int) : (put T s v).length = if has T s = true then T.length else T.length + 1 := by
  unfold put
  split
  · rw [List.length_map]
  · rw [List.length_append]; rfl
theorem nd_len : ∀ {l m : List σ}, l.Nodup → (∀ x ∈ l, x ∈ m) → l.length ≤ m.length
  | [], m, _, _ => Nat.zero_le _
  | x :: l, m, nd, h => by
    obtain ⟨n1, n2⟩ := List.nodup_cons.mp nd
    have hx := h x (by simp)
    have : l.length ≤ (m.erase x).length := nd_len n2 fun y hy => (List.mem_erase_of_ne (fun e => n1 (by rw [← e]; exact hy))).mpr (h y (by simp [hy]))
    rw [List.length_erase_of_mem hx] at this
    have := List.length_pos_of_mem hx
    rw [List.length_cons]; omega
theorem Go.few {B : Bk σ} {T : Tab σ} (g : Go B T) : T.length ≤ B.S.length := by
  have := nd_len g.nd g.keys
  rwa [List.length_map] at this
theorem pow_mono {m n : Nat} (h : m ≤ n) : (3 : Int) ^ m ≤ 3 ^ n := by
  induction n with
  | zero => rw [Nat.le_zero.mp h]; exact Int.le_refl _
  | succ n ih =>
    rcases Nat.lt_or_ge n m with q | q
    · rw [Nat.le_antisymm h q]; exact Int.le_refl _
    · have := ih q
      rw [Int.pow_succ]
      have : (0 : Int) < 3 ^ n := Int.pow_pos (by decide)
      omega
theorem sum_bound {T : Tab σ} {M : Int} (h : ∀ s v, val T s = some v → v ≤ M) (h0 : 0 ≤ M) : ∀ ps : List σ, sumV T ps ≤ ps.length * M
  | [] => by simp [sumV]
  | p :: ps => by
    have ih := sum_bound h h0 ps
    unfold sumV at ih ⊢
    rw [List.map_cons, List.sum_cons, List.length_cons]
    have : (val T p).getD 0 ≤ M := by
      cases q : val T p with
      | none => exact h0
      | some v => exact h p v q
    have e : ((ps.length + 1 : Nat) : Int) * M = ps.length * M + M := by
      rw [Int.natCast_add, Int.add_mul]; simp
    omega
/-- what a stored rank does to what stands -/
theorem put_low {B : Bk σ} {T : Tab σ} {s : σ} {v : Int} (c : has T s = false ∨ v < (val T s).getD 0) : ∀ p x, val T p = some x → ∃ u, val (put T s v) p = some u ∧ u ≤ x := fun p x hx => by
  rw [val_put]
  by_cases e : p = s
  · subst e
    rw [if_pos rfl]
    refine ⟨v, rfl, ?_⟩
    rcases c with c | c
    · rw [has_of hx] at c; cases c
    · rw [hx, Option.getD_some] at c; omega
  · rw [if_neg e]; exact ⟨x, hx, Int.le_refl _⟩
theorem go_put {B : Bk σ} {T : Tab σ} {s : σ} {v : Int} (g : Go B T) (hs : s ∈ B.S) (two : ∀ ps ∈ B.ln s, ps.length ≤ 2) (h : B.lr T s = some v) (c : has T s = false ∨ v < (val T s).getD 0) : Go B (put T s v) := by
  have l := lr_some h
  have low := put_low (B := B) c
  have v1 : 1 ≤ v := by
    rcases l.is with ⟨_, e⟩ | ⟨ps, hp, _, e⟩
    · omega
    · have := sum_nonneg g.pos ps; omega
  have hl := put_len T s v
  have p0 : (0 : Int) < 3 ^ T.length := Int.pow_pos (by decide)
  refine ⟨?_, ?_, ?_, ?_, ?_⟩
  · intro x hx
    rw [put_keys] at hx
    split at hx
    · exact g.keys x hx
    · rcases List.mem_append.mp hx with hx | hx
      · exact g.keys x hx
      · rw [List.mem_singleton.mp hx]; exact hs
  · rw [put_keys]
    by_cases q : has T s = true
    · rw [if_pos q]; exact g.nd
    · rw [if_neg q]
      refine List.nodup_append.mpr ⟨g.nd, by simp, fun a ha b hb e => ?_⟩
      rw [List.mem_singleton.mp hb] at e
      exact q (has_mem.mpr (e ▸ ha))
  · intro p x hx
    rw [val_put] at hx
    split at hx
    · cases hx; exact v1
    · exact g.pos p x hx
  · intro p x hx
    rw [val_put] at hx
    by_cases e : p = s
    · subst e
      rw [if_pos rfl] at hx
      cases hx
      exact lr_anti low h
    · rw [if_neg e] at hx
      obtain ⟨u, h1, h2⟩ := g.lrv p x hx
      obtain ⟨u', h3, h4⟩ := lr_anti low h1
      exact ⟨u', h3, Int.le_trans h4 h2⟩
  · intro p x hx
    rw [val_put] at hx
    have up : (3 : Int) ^ T.length ≤ 3 ^ (put T s v).length := pow_mono (by rw [hl]; split <;> omega)
    by_cases e : p = s
    · rw [if_pos e] at hx
      cases hx
      by_cases q : has T s = true
      · obtain ⟨u, hu⟩ := has_val q
        rcases c with c | c
        · rw [q] at c; cases c
        · rw [hu, Option.getD_some] at c
          have := g.max s u hu
          omega
      · rw [hl, if_neg q, Int.pow_succ]
        rcases l.is with ⟨_, e⟩ | ⟨ps, hp, _, e⟩
        · omega
        · have b := sum_bound g.max (Int.le_of_lt p0) ps
          have t := two ps hp
          have : (ps.length : Int) * 3 ^ T.length ≤ 2 * 3 ^ T.length := Int.mul_le_mul_of_nonneg_right (by omega) (Int.le_of_lt p0)
          omega
    · rw [if_neg e] at hx
      exact Int.le_trans (g.max p x hx) up
theorem sumT_put : ∀ {T : Tab σ} {s : σ} {u v : Int}, (T.map (·.1)).Nodup → val T s = some u → sumT (T.map fun p => if p.1 = s then (p.1, v) else p) = sumT T - u + v
  | p :: T, s, u, v, nd, h => by
    rw [List.map_cons] at nd
    obtain ⟨n1, n2⟩ := List.nodup_cons.mp nd
    rw [val_cons] at h
    unfold sumT
    rw [List.map_cons, List.map_cons, List.sum_cons, List.map_cons, List.sum_cons]
    by_cases e : p.1 = s
    · rw [if_pos e] at h
      cases h
      rw [if_pos e]
      have : (T.map fun q => if q.1 = s then (q.1, v) else q) = T := by
        refine (List.map_congr_left fun q hq => ?_).trans (List.map_id _)
        refine if_neg fun z => n1 ?_
        rw [e, ← z]; exact List.mem_map_of_mem hq
      rw [this]
      show v + _ = _
      omega
    · rw [if_neg e] at h
      rw [if_neg e]
      have := sumT_put (v := v) n2 h
      unfold sumT at this
      rw [this]; omega
theorem sumT_snoc (T : Tab σ) (s : σ) (v : Int) : sumT (T ++ [(s, v)]) = sumT T + v := by
  unfold sumT
  rw [List.map_append, List.sum_append]; simp
theorem sumT_nonneg {T : Tab σ} (h : ∀ p ∈ T, 1 ≤ p.2) : 0 ≤ sumT T := by
  induction T with
  | nil => exact Int.le_refl _
  | cons p T ih =>
    have := ih fun q hq => h q (by simp [hq])
    have := h p (by simp)
    unfold sumT at *
    rw [List.map_cons, List.sum_cons]; omega
theorem val_of_mem : ∀ {T : Tab σ}, (T.map (·.1)).Nodup → ∀ p ∈ T, val T p.1 = some p.2
  | q :: T, nd, p, hp => by
    rw [List.map_cons] at nd
    obtain ⟨n1, n2⟩ := List.nodup_cons.mp nd
    rw [val_cons]
    rcases List.mem_cons.mp hp with e | hp
    · rw [e, if_pos rfl]
    · rw [if_neg fun z => n1 (by rw [z]; exact List.mem_map_of_mem hp)]
      exact val_of_mem n2 p hp
theorem sumT_le {T : Tab σ} {M : Int} (h : ∀ p ∈ T, p.2 ≤ M) : sumT T ≤ T.length * M := by
  induction T with
  | nil => simp [sumT]
  | cons p T ih =>
    have := ih fun q hq => h q (by simp [hq])
    have := h p (by simp)
    unfold sumT at *
    rw [List.map_cons, List.sum_cons, List.length_cons]
    have e : ((T.length + 1 : Nat) : Int) * M = T.length * M + M := by
      rw [Int.natCast_add, Int.add_mul]; simp
    omega
theorem Go.sum {B : Bk σ} {T : Tab σ} (g : Go B T) : 0 ≤ sumT T ∧ sumT T < topM B := by
  have few := g.few
  refine ⟨sumT_nonneg fun p hp => g.pos _ _ (val_of_mem g.nd p hp), ?_⟩
  have h1 := sumT_le (M := 3 ^ T.length) fun p hp => g.max _ _ (val_of_mem g.nd p hp)
  have h2 : (T.length : Int) * 3 ^ T.length ≤ B.S.length * 3 ^ B.S.length :=
    Int.le_trans (Int.mul_le_mul_of_nonneg_left (pow_mono few) (by omega)) (Int.mul_le_mul_of_nonneg_right (by omega) (Int.le_of_lt (Int.pow_pos (by decide))))
  have e : ((topM B : Nat) : Int) = B.S.length * 3 ^ B.S.length + 1 := by unfold topM; simp
  omega
theorem meas_put {B : Bk σ} {T : Tab σ} {s : σ} {v : Int} (g : Go B T) (g' : Go B (put T s v)) (c : has T s = false ∨ v < (val T s).getD 0) : meas B (put T s v) < meas B T := by
  have few := g'.few
  have s0 := g.sum
  have s1 := g'.sum
  unfold meas
  have hl := put_len T s v
  by_cases q : has T s = true
  · rw [if_pos q] at hl
    obtain ⟨u, hu⟩ := has_val q
    rcases c with c | c
    · rw [q] at c; cases c
    · rw [hu, Option.getD_some] at c
      have : sumT (put T s v) = sumT T - u + v := by
        unfold put
        rw [if_pos q]; exact sumT_put g.nd hu
      rw [hl]; omega
  · rw [if_neg q] at hl
    rw [hl] at few ⊢
    have : B.S.length - T.length = (B.S.length - (T.length + 1)) + 1 := by omega
    rw [this, Nat.add_mul]
    omega
/-- a round through some stages -/
def round (B : Bk σ) (T : Tab σ) (l : List σ) : Tab σ × Bool := l.foldl (turn B) (T, false)
structure Rd (B : Bk σ) (T : Tab σ) (l : List σ) (st : Tab σ × Bool) : Prop where
  go : Go B st.1
  less : st.2 = true → meas B st.1 < meas B T
  same : st.2 = false → st.1 = T ∧ ∀ s ∈ l, B.lr T s = none ∨ ∃ v, B.lr T s = some v ∧ has T s = true ∧ (val T s).getD 0 ≤ v
theorem rd_nil {B : Bk σ} {T : Tab σ} (g : Go B T) : Rd B T [] (T, false) := ⟨g, fun h => (nomatch h), fun _ => ⟨rfl, fun s h => absurd h (by simp)⟩⟩
theorem rd_turn {B : Bk σ} {T : Tab σ} {l : List σ} {st : Tab σ × Bool} {s : σ} (r : Rd B T l st) (hs : s ∈ B.S) (two : ∀ ps ∈ B.ln s, ps.length ≤ 2) : Rd B T (l ++ [s]) (turn B st s) := by
  have keep : (B.lr st.1 s = none ∨ ∃ v, B.lr st.1 s = some v ∧ has st.1 s = true ∧ (val st.1 s).getD 0 ≤ v) → Rd B T (l ++ [s]) (turn B st s) := fun h => by
    rw [turn_keep h]
    refine ⟨r.go, r.less, fun z => ?_⟩
    obtain ⟨z1, z2⟩ := r.same z
    refine ⟨z1, fun x hx => ?_⟩
    rcases List.mem_append.mp hx with hx | hx
    · exact z2 x hx
    · rw [List.mem_singleton.mp hx, ← z1]; exact h
  cases q : B.lr st.1 s with
  | none => exact keep (.inl q)
  | some v =>
    by_cases c : has st.1 s = false ∨ v < (val st.1 s).getD 0
    · rw [turn_put q c]
      have g' := go_put r.go hs two q c
      have m := meas_put r.go g' c
      refine ⟨g', fun _ => ?_, fun z => nomatch z⟩
      cases z : st.2 with
      | true => exact Nat.lt_trans m (r.less z)
      | false => rw [← (r.same z).1]; exact m
    · refine keep (.inr ⟨v, q, ?_, ?_⟩)
      · cases z : has st.1 s with
        | true => rfl
        | false => exact absurd (.inl z) c
      · exact Int.not_lt.mp fun z => c (.inr z)
/-- a round that changes nothing: the table fits -/
theorem go_fits {B : Bk σ} {T : Tab σ} (g : Go B T) (h : ∀ s ∈ B.S, B.lr T s = none ∨ ∃ v, B.lr T s = some v ∧ has T s = true ∧ (val T s).getD 0 ≤ v) : Fits B T where
  keys := g.keys
  pos := g.pos
  val := fun s v hv => by
    obtain ⟨u, h1, h2⟩ := g.lrv s v hv
    rcases h s (g.keys s (val_mem.mp (has_of hv))) with z | ⟨x, z1, z2, z3⟩
    · rw [h1] at z; cases z
    · rw [h1] at z1
      cases z1
      rw [hv, Option.getD_some] at z3
      rw [h1, Int.le_antisymm h2 z3]
  rest := fun s hs q => by
    rcases h s hs with z | ⟨x, z1, z2, z3⟩
    · exact lr_none.mp z
    · rw [q] at z2; cases z2
end RK
namespace FD
open PySem L2 Evl
theorem eqv_str (i j : Str) : PyData.eqv (.str i) (.str j) = (i == j) := by simp [PyData.eqv]
theorem eqv_key (a b : Key) : PyData.eqv (kyD a) (kyD b) = decide (a = b) := by
  cases a <;> cases b
  · rw [kyD, kyD, eqv_int, key_ll]
  · rw [key_lr]; simp [kyD, PyData.eqv]
  · rw [key_rl]; simp [kyD, PyData.eqv]
  · rw [kyD, kyD, eqv_str, key_rr]; rename_i x y
    by_cases e : x = y
    · subst e; simp
    · simp [e]
theorem eqv_keys : ∀ a b : List Key, PyData.eqvAll (a.map kyD) (b.map kyD) = decide (a = b)
  | [], [] => by simp [PyData.eqvAll]
  | [], _ :: _ => by simp [PyData.eqvAll]
  | _ :: _, [] => by simp [PyData.eqvAll]
  | x :: a, y :: b => by
    have ih := eqv_keys a b
    have h := eqv_key x y
    simp only [List.map_cons, PyData.eqvAll, h, ih]
    by_cases e : x = y
    · subst e; simp
    · simp [e]
theorem eqv_row (a b : List Key) : PyData.eqv (rowK a) (rowK b) = decide (a = b) := by
  have := eqv_keys a b
  simpa [rowK, PyData.eqv] using this
theorem eqv_rows : ∀ a b : List (List Key), PyData.eqvAll (a.map rowK) (b.map rowK) = decide (a = b)
  | [], [] => by simp [PyData.eqvAll]
  | [], _ :: _ => by simp [PyData.eqvAll]
  | _ :: _, [] => by simp [PyData.eqvAll]
  | x :: a, y :: b => by
    have ih := eqv_rows a b
    have h := eqv_row x y
    simp only [List.map_cons, PyData.eqvAll, h, ih]
    by_cases e : x = y
    · subst e; simp
    · simp [e]
def tok (x : Str) : Prop := PyData.canLay0 (.str x) = true
def tokK : Key → Prop
  | .inl _ => True
  | .inr x => tok x
theorem shp_str (n : Nat) {x : Str} (h : tok x) : Shp n (.str x) := ⟨h, by simp [PyData.depth]⟩
theorem sh_str {x : Str} (h : tok x) : SeqAt.shaped (.str x) = true := (shp_str 0 h).shaped (by decide)
theorem shp_row (n : Nat) {k : List Key} (h : ∀ x ∈ k, tokK x) : Shp (n + 1) (rowK k) := shp_tuple fun d hd => by
  obtain ⟨x, hx, rfl⟩ := List.mem_map.mp hd
  have := h x hx
  cases x with
  | inl i => exact shp_int n i
  | inr x => exact shp_str n this
theorem eqv_self : ∀ d : PyData, PyData.eqv d d = true → True := fun _ _ => trivial
end FD
namespace K09
open PySem L2 FD Evl
def top (i : Nat) : Stmt := PySem.Challenge.pw_stillowed_k43_whole_prices_at_all_moment.main.body.getD i (.Pass ⟨0, 0, 0, 0⟩)
abbrev sPo : Stmt := top 5
abbrev sEx : Stmt := top 6
abbrev sIi : Stmt := top 25
abbrev sIu : Stmt := top 26
abbrev sIl : Stmt := top 27
abbrev sIn : Stmt := top 28
abbrev sIs : Stmt := top 34
abbrev sIo : Stmt := top 35
abbrev sCc : Stmt := top 36
abbrev sCt : Stmt := top 37
abbrev sBi : Stmt := inClass (top 38) 0
abbrev sBs : Stmt := inClass (top 38) 6
abbrev sBe : Stmt := inClass (top 38) 8
abbrev sBf : Stmt := inClass (top 38) 9
abbrev sBg : Stmt := inClass (top 38) 10
abbrev sBx : Stmt := top 40
abbrev sTk : Stmt := top 41
abbrev sPk : Stmt := top 42
abbrev sMx : Stmt := top 43
abbrev sSt : Stmt := top 44
abbrev sCo : Stmt := top 45
abbrev sCs : Stmt := top 46
abbrev sLv : Stmt := top 47
abbrev sEn : Stmt := top 48
abbrev sAi : Stmt := top 49
abbrev sGo : Stmt := top 50
abbrev sOw : Stmt := top 8
abbrev sSc : Stmt := top 9
abbrev sLc : Stmt := top 10
abbrev sCb : Stmt := top 11
abbrev sWs : Stmt := top 12
abbrev sWp : Stmt := top 13
abbrev sSo : Stmt := top 14
abbrev sDc : Stmt := top 16
abbrev sAd : Stmt := top 17
abbrev sLp : Stmt := top 19
abbrev sPw : Stmt := top 20
abbrev sCa : Stmt := top 21
abbrev sBd : Stmt := inClass (top 38) 12
abbrev sMv : Stmt := top 51
abbrev sDe : Stmt := top 52
abbrev sSu : Stmt := top 53
abbrev sCl : Stmt := top 54
abbrev sMr : Stmt := top 55
abbrev sLw : Stmt := top 56
def letters : Str := "abcdefghijklmnopqrstuvwxyz"
structure Txt (K : PySem.W.Frag) (mg : Str → Option Value) (Cb : Addr) : Prop where
  abs : mg "abs" = none
  all : mg "all" = none
  any : mg "any" = none
  bool : mg "bool" = none
  dict : mg "dict" = none
  enumerate : mg "enumerate" = none
  int : mg "int" = none
  isinstance : mg "isinstance" = none
  len : mg "len" = none
  list : mg "list" = none
  max : mg "max" = none
  min : mg "min" = none
  range : mg "range" = none
  reversed : mg "reversed" = none
  set : mg "set" = none
  sorted : mg "sorted" = none
  str : mg "str" = none
  sum : mg "sum" = none
  tuple : mg "tuple" = none
  zip : mg "zip" = none
  ltr : ∃ t, mg "LETTERS" = some (.str "abcdefghijklmnopqrstuvwxyz" t)
  ln : ∃ t, mg "LONGEST_NAME" = some (.int 5 t)
  mc : ∃ t, mg "MOST_COURSES" = some (.int 8 t)
  ms : ∃ t, mg "MOST_STAGES" = some (.int 20 t)
  mt : ∃ t, mg "MOST_TOGETHER" = some (.int 60 t)
  md : ∃ t, mg "MOST_DEEDS" = some (.int 12 t)
  cl : Cls K Cb
  nC : NoAttr K Cb "courses"
  nB : NoAttr K Cb "by_name"
  nL : NoAttr K Cb "leaving"
  mgC : mg "Book" = some (.ref Cb)
structure Has (K : PySem.W.Frag) (mg : Str → Option Value) (x : Str) (st : Stmt) (ps : List Str) (f : Addr) (fd : FuncData) : Prop where
  F : Fun K x x st f fd
  b : Binds K fd ps []
  m : mg x = some (.ref f)
/-- a method of Book -/
structure HasM (K : PySem.W.Frag) (Cb : Addr) (x q : Str) (st : Stmt) (ps : List Str) (f : Addr) (fd : FuncData) : Prop where
  F : Fun K x q st f fd
  b : Binds K fd ps []
  m : Meth K Cb x f
/-! ### books as data -/
structure Step where
  b : Nat
  call : Bool
  nm : Str
  e : Nat
  deriving DecidableEq
def wh (c : Bool) : Str := if c = true then "call" else "do"
theorem wh_inj {c d : Bool} (h : wh c = wh d) : c = d := by
  cases c <;> cases d <;> first | rfl | exact absurd h (by decide)
def stepK (s : Step) : List Key := [.inl (s.b : Int), .inr (wh s.call), .inr s.nm, .inl (s.e : Int)]
def stepD (s : Step) : PyData := rowK (stepK s)
theorem stepD_eq (s : Step) : stepD s = .tuple [.int (s.b : Int), .str (wh s.call), .str s.nm, .int (s.e : Int)] := rfl
theorem stepK_inj {s t : Step} (h : stepK s = stepK t) : s = t := by
  unfold stepK at h
  injection h with h1 h; injection h with h2 h; injection h with h3 h; injection h with h4 h
  have h1 := Sum.inl.inj h1
  have h2 := wh_inj (Sum.inr.inj h2)
  have h3 := Sum.inr.inj h3
  have h4 := Sum.inl.inj h4
  have h1 : s.b = t.b := by omega
  have h4 : s.e = t.e := by omega
  cases s; cases t
  simp only [Step.mk.injEq]
  exact ⟨h1, h2, h3, h4⟩
structure Crs where
  nm : Str
  n : Nat
  ends : List Nat
  steps : List Step
def endsD (l : List Nat) : PyData := .tuple ((l.map fun i : Nat => (i : Int)).map .int)
def stepsD (l : List Step) : PyData := .tuple (l.map stepD)
def crsD (c : Crs) : PyData := .tuple [.str c.nm, .int (c.n : Int), endsD c.ends, stepsD c.steps]
def bokD (cs : List Crs) : PyData := .tuple (cs.map crsD)
abbrev Stg := Str × Nat
def stK (s : Stg) : List Key := [.inr s.1, .inl (s.2 : Int)]
def stD (s : Stg) : PyData := rowK (stK s)
theorem stD_eq (s : Stg) : stD s = .tuple [.str s.1, .int (s.2 : Int)] := rfl
theorem stK_inj {s t : Stg} (h : stK s = stK t) : s = t := by
  unfold stK at h
  injection h with h1 h; injection h with h2 h
  have h1 := Sum.inr.inj h1
  have h2 := Sum.inl.inj h2
  exact Prod.ext h1 (by omega)
/-- a name -/
structure Nm (x : Str) : Prop where
  pos : 1 ≤ x.length
  small : x.length ≤ 5
  ltr : ∀ c ∈ x.cps.toList, c ∈ letters.cps.toList
structure CrsOk (names : List Str) (c : Crs) : Prop where
  nm : Nm c.nm
  n1 : 1 ≤ c.n
  n2 : c.n ≤ 20
  asc : c.ends.Pairwise (· < ·)
  ends : ∀ e ∈ c.ends, e < c.n
  few : c.steps.length < 64
  nd : c.steps.Nodup
  b : ∀ s ∈ c.steps, s.b < c.n
  e : ∀ s ∈ c.steps, s.e < c.n
  snm : ∀ s ∈ c.steps, Nm s.nm
  calls : ∀ s ∈ c.steps, s.call = true → s.nm ∈ names
structure BokOk (cs : List Crs) : Prop where
  ne : cs ≠ []
  few : cs.length ≤ 8
  nd : (cs.map (·.nm)).Nodup
  ok : ∀ c ∈ cs, CrsOk (cs.map (·.nm)) c
  tot : (cs.map (·.n)).sum ≤ 60
  deeds : ∃ ds : List Str, ds.length ≤ 12 ∧ ∀ c ∈ cs, ∀ s ∈ c.steps, s.call = false → s.nm ∈ ds
theorem asc_few {l : List Nat} {n : Nat} (h : l.Pairwise (· < ·)) (hn : ∀ e ∈ l, e < n) : l.length ≤ n := by
  have := RK.nd_len (l := l) (m := List.range n) (h.imp fun q e => by omega) fun x hx => List.mem_range.mpr (hn x hx)
  rwa [List.length_range] at this
theorem let_small : ∀ c ∈ letters.cps.toList, c < 0x110000 := by decide +kernel
theorem tok_iff {x : Str} : tok x ↔ ∀ c ∈ x.cps.toList, c < 0x110000 := by
  unfold tok
  rw [show PyData.canLay0 (.str x) = x.cps.all (· < 0x110000) by simp [PyData.canLay0, PyData.strOk]]
  rw [← Array.all_toList, List.all_eq_true]
  exact ⟨fun h c hc => of_decide_eq_true (h c hc), fun h c hc => decide_eq_true (h c hc)⟩
theorem Nm.tok {x : Str} (h : Nm x) : tok x := tok_iff.mpr fun c hc => let_small c (h.ltr c hc)
theorem wh_tok (c : Bool) : FD.tok (wh c) := by cases c <;> (unfold FD.tok; decide +kernel)
theorem shp_step (n : Nat) {s : Step} (h : Nm s.nm) : Shp (n + 1) (stepD s) := shp_row n fun x hx => by
  unfold stepK at hx
  simp only [List.mem_cons, List.not_mem_nil, or_false] at hx
  rcases hx with rfl | rfl | rfl | rfl
  · trivial
  · exact wh_tok _
  · exact h.tok
  · trivial
theorem shp_stg (n : Nat) {s : Stg} (h : Nm s.1) : Shp (n + 1) (stD s) := shp_row n fun x hx => by
  unfold stK at hx
  simp only [List.mem_cons, List.not_mem_nil, or_false] at hx
  rcases hx with rfl | rfl
  · exact h.tok
  · trivial
end K09
namespace K09
open PySem L2 FD Evl
def Rii (ds : List PyData) (d : PyData) : Prop := ∃ i : Int, ds = [.int i] ∧ d = .bool true
def Riu (ds : List PyData) (d : PyData) : Prop := ∃ i : Int, ds = [.int i] ∧ d = .bool (decide (0 ≤ i))
def Ril (ds : List PyData) (d : PyData) : Prop := ∃ c : Nat, ds = [.str ⟨#[c]⟩] ∧ d = .bool (decide (c ∈ letters.cps.toList))
def Rin (ds : List PyData) (d : PyData) : Prop := ∃ x, ds = [.str x] ∧ Nm x ∧ d = .bool true
def Ris (ds : List PyData) (d : PyData) : Prop := ∃ (s : Step) (n : Nat), ds = [stepD s, .int (n : Int)] ∧ s.b < n ∧ s.e < n ∧ Nm s.nm ∧ d = .bool true
theorem len_codes (x : Str) : x.length = x.cps.toList.length := by rw [Array.length_toList]; rfl
theorem kit_ii : kitB (tyD (.int 0)) "int" = some true := by decide +kernel
section
variable {P : Program} {w : World} {K : PySem.W.Frag} {mg : Str → Option Value} {base : Heap} {Cb : Addr}
abbrev nIi : List Str := ["value"]
theorem scIi : FnScope nIi ["value"] (defScope sIi) := ⟨rfl, rfl, rfl, by decide +kernel, rfl, by decide +kernel, by decide +kernel⟩
theorem ok_ii {f : Addr} {fd : FuncData} (T : Txt K mg Cb) (F : Fun K "is_integer" "is_integer" sIi f fd) : FnOk P w K mg base CX0 1 f fd ["value"] (spR K 1 Rii) := by
  refine def_R F scIi (by decide) fun cdv A outer s H E hr => ?_
  have nd := scIi.nd
  refine ⟨_, (pss_one (ps_ret (pe_and (pe_callB call_isi (by rfl) T.isinstance (by decide +kernel) (pa_cons (pv 0) (pa_cons (pe_bltn (v := .ty "int") (u := .type "int") (by rfl) T.int (by decide +kernel) rfl) pa_nil))) (pe_one (pe_not (pe_callB call_isi (by rfl) T.isinstance (by decide +kernel) (pa_cons (pv 0) (pa_cons (pe_bltn (v := .ty "bool") (u := .type "bool") (by rfl) T.bool (by decide +kernel) rfl) pa_nil)))))))), ?_⟩
  rintro M G B ds d _ ⟨i, rfl, rfl⟩ D fin
  show Run _ _ D M [.d (.int i)] []
  exact r_retP (x_andT (x_isi (x_vd rfl) (by show kitB "int" "int" = some true; decide +kernel)) (x_is (x_notV (x_isi (b := false) (x_vd rfl) (by show kitB "int" "bool" = some false; decide +kernel))) rfl)) fin
abbrev nIu : List Str := ["value"]
theorem scIu : FnScope nIu ["value"] (defScope sIu) := ⟨rfl, rfl, rfl, by decide +kernel, rfl, by decide +kernel, by decide +kernel⟩
theorem ok_iu {f : Addr} {fd : FuncData} (T : Txt K mg Cb) (F : Fun K "is_number" "is_number" sIu f fd) {f1 : Addr} {fd1 : FuncData} (H1 : Has K mg "is_integer" sIi ["value"] f1 fd1) : FnOk P w K mg base CX0 2 f fd ["value"] (spR K 1 Riu) := by
  have G1 : FnOk P w K mg base CX0 1 f1 fd1 ["value"] (spR K 1 Rii) := ok_ii T H1.F
  refine def_R F scIu (by decide) fun cdv A outer s H E hr => ?_
  have nd := scIu.nd
  refine ⟨_, (pss_one (ps_ret (pe_and (pe_call G1 hr rfl H1.m H1.F.kp H1.b .nil pass0 (pa_cons (pv 0) pa_nil)) (pe_one (pe_cmpR op_ge (pv 0) pe_int (nomark _)))))), ?_⟩
  rintro M G B ds d _ ⟨i, rfl, rfl⟩ D fin
  show Run _ _ D M [.d (.int i)] []
  exact r_retP (x_andT (x_callR (ds := [.int i]) (a_cons (x_vd rfl) a_nil) ⟨i, rfl, rfl⟩) (x_op (x_vd rfl) x_int o_B0)) fin
abbrev nIl : List Str := ["sign"]
theorem scIl : FnScope nIl ["sign"] (defScope sIl) := ⟨rfl, rfl, rfl, by decide +kernel, rfl, by decide +kernel, by decide +kernel⟩
theorem ok_il {f : Addr} {fd : FuncData} (T : Txt K mg Cb) (F : Fun K "is_letter" "is_letter" sIl f fd) : FnOk P w K mg base CX0 1 f fd ["sign"] (spR K 1 Ril) := by
  obtain ⟨tl, hl⟩ := T.ltr
  refine def_R F scIl (by decide) fun cdv A outer s H E hr => ?_
  have nd := scIl.nd
  refine ⟨_, (pss_one (ps_ret (pe_and (pe_cmpR (op_eqD hr.units) (pe_callB call_len_str (by rfl) T.len PySem.boot_len (pa_cons (pv 0) pa_nil)) pe_int (nomark _)) (pe_one (pe_cmpR op_in_sign (pv 0) (pe_glob (v := .str letters) rfl hl ⟨_, rfl⟩) (by with_unfolding_all rfl)))))), ?_⟩
  rintro M G B ds d _ ⟨c, rfl, rfl⟩ D fin
  show Run _ _ D M [.d (.str ⟨#[c]⟩)] []
  refine r_retP (x_is (x_andV (x_op (x_cbP (a_cons (x_vd rfl) a_nil) (c_lenS (by show 1 ≤ 100000; decide))) x_int (o_eqD (.d _) (.d _) ((shp_int 0 _).shaped (by decide)) ((shp_int 0 _).shaped (by decide)))) (fun _ => x_op (x_vd rfl) x_str o_inSign) (fun _ => rfl)) ?_) fin
  rw [eqv_int]
  have e : (⟨#[c]⟩ : Str).length = 1 := rfl
  rw [e]; rfl
abbrev nIn : List Str := ["value", "sign"]
theorem scIn : FnScope nIn ["value"] (defScope sIn) := ⟨rfl, rfl, rfl, by decide +kernel, rfl, by decide +kernel, by decide +kernel⟩
theorem ok_in {f : Addr} {fd : FuncData} (T : Txt K mg Cb) (F : Fun K "is_name" "is_name" sIn f fd) {f1 : Addr} {fd1 : FuncData} (H1 : Has K mg "is_letter" sIl ["sign"] f1 fd1) : FnOk P w K mg base CX0 2 f fd ["value"] (spR K 1 Rin) := by
  have G1 : FnOk P w K mg base CX0 1 f1 fd1 ["sign"] (spR K 1 Ril) := ok_il T H1.F
  obtain ⟨tl, hl⟩ := T.ln
  refine def_R F scIn (by decide) fun cdv A outer s H E hr => ?_
  have nd := scIn.nd
  refine ⟨_, (pss_cons (ps_if (PW.pt (pw_or (pt_not (pt_val (pe_callB call_isi (by rfl) T.isinstance (by decide +kernel) (pa_cons (pv 0) (pa_cons (pe_bltn (v := .ty "str") (u := .type "str") (by rfl) T.str (by decide +kernel) rfl) pa_nil))))) (pw_or1 (pt_not (pt_chain op_le op_le pe_int (pe_callB call_len_str (by rfl) T.len PySem.boot_len (pa_cons (pv 0) pa_nil)) (pe_glob (v := .int 5) rfl hl ⟨_, rfl⟩)))))) (pss_one (ps_ret pe_bl)) pss_nil)
 (pss_one (ps_ret (pe_callB (cr_all rfl) (by rfl) T.all (by decide +kernel) (pa_cons (pe_lc (own := [("sign", 1)]) (g := (gName 1)) (tt := tYes) rfl nd (pi_str (pv 0)) (blkOk_by (N := nIn) (sc := defScope sIn) (by decide +kernel)) (fun _ _ _ _ _ => (pg_name (i := 1) nd rfl (Or.inl rfl))) (fun _ _ _ _ _ => pts_nil) (fun _ _ _ _ _ => (pe_call G1 hr rfl H1.m H1.F.kp H1.b .nil pass0 (pa_cons (pv 1) pa_nil)))) pa_nil))))), ?_⟩
  rintro M G B ds d _ ⟨z, rfl, hz, rfl⟩ D fin
  show Run _ _ D M [.d (.str z), .u] []
  have h1 := hz.pos
  have h2 := hz.small
  refine q_no (t_orF (t_notT (t_B (x_isi (x_vd rfl) (by show kitB "str" "str" = some true; decide +kernel)))) (t_notT (t_test (x_is (x_chainI (m := 1) (n := (z.length : Int)) (k := 5) (g := fun i j => decide (i ≤ j)) (g' := fun i j => decide (i ≤ j)) x_int (x_cbP (a_cons (x_vd rfl) a_nil) (c_lenS (by omega))) x_int) ?_)))) ?_
  · rw [decide_eq_true (by omega), decide_eq_true (by omega)]; rfl
  have sl : (signs z).length = z.cps.toList.length := by unfold signs; rw [List.length_map]
  have zl : z.length = z.cps.toList.length := len_codes z
  refine r_retP (x_is (x_cbP (a_cons (e := .d (.list ((z.cps.toList.map fun _ => true).map .bool))) (x_is (x_lcP (ts := [1]) (fun i => .bool true) (i_str (x_vd rfl)) (by omega) (fun i => [.d (.str z), .d (.str ⟨#[z.cps.toList.getD i 0]⟩)]) (fun i d hd => ?_) (fun k hk => hk) fun i d hd G' B' D' => ?_) ?_) a_nil) (c_all (.d _))) ?_) fin
  · have hil := (List.getElem?_eq_some_iff.mp hd).1
    have e2 : d = .str ⟨#[z.cps.toList.getD i 0]⟩ := by
      unfold signs at hd
      rw [List.getElem?_map, List.getElem?_eq_getElem (by omega)] at hd
      rw [List.getD_eq_getElem?_getD, List.getElem?_eq_getElem (by omega)]
      exact (Option.some.inj hd).symm
    rw [e2]
    exact tg_name
  · have hil := (List.getElem?_eq_some_iff.mp hd).1
    refine x_is (x_callR (ds := [.str ⟨#[z.cps.toList.getD i 0]⟩]) (a_cons (x_vd rfl) a_nil) ⟨_, rfl, rfl⟩) ?_
    rw [decide_eq_true (hz.ltr _ (by rw [List.getD_eq_getElem?_getD, List.getElem?_eq_getElem (by omega)]; exact List.getElem_mem _))]
  · rw [sl]
    congr 2
    rw [List.map_map]
    refine List.ext_getElem? fun j => ?_
    rw [List.getElem?_map, List.getElem?_map]
    by_cases hj : j < z.cps.toList.length
    · rw [List.getElem?_range hj, List.getElem?_eq_getElem hj]; rfl
    · rw [List.getElem?_eq_none (by rw [List.length_range]; omega), List.getElem?_eq_none (by omega)]; rfl
  · rw [show (z.cps.toList.map fun _ => true).all id = true from by rw [List.all_map, List.all_eq_true]; exact fun _ _ => rfl]
abbrev nIs : List Str := ["step", "stages", "begin", "what", "name", "end"]
theorem scIs : FnScope nIs ["step", "stages"] (defScope sIs) := ⟨rfl, rfl, rfl, by decide +kernel, rfl, by decide +kernel, by decide +kernel⟩
theorem ok_is {f : Addr} {fd : FuncData} (T : Txt K mg Cb) (F : Fun K "is_step" "is_step" sIs f fd) {f1 f2 f3 f4 : Addr} {fd1 fd2 fd3 fd4 : FuncData} (H1 : Has K mg "is_number" sIu ["value"] f1 fd1) (H2 : Has K mg "is_name" sIn ["value"] f2 fd2) (H3 : Has K mg "is_integer" sIi ["value"] f3 fd3) (H4 : Has K mg "is_letter" sIl ["sign"] f4 fd4) : FnOk P w K mg base CX0 3 f fd ["step", "stages"] (spR K 2 Ris) := by
  have G1 : FnOk P w K mg base CX0 2 f1 fd1 ["value"] (spR K 1 Riu) := ok_iu T H1.F H3
  have G2 : FnOk P w K mg base CX0 2 f2 fd2 ["value"] (spR K 1 Rin) := ok_in T H2.F H4
  refine def_R F scIs (by decide) fun cdv A outer s H E hr => ?_
  have nd := scIs.nd
  refine ⟨_, (pss_cons (ps_if (PW.pt (pw_or (pt_not (pt_val (pe_callB call_isi (by rfl) T.isinstance (by decide +kernel) (pa_cons (pv 0) (pa_cons (pe_bltn (v := .ty "tuple") (u := .type "tuple") (by rfl) T.tuple (by decide +kernel) rfl) pa_nil))))) (pw_or1 (pt_cmpR (op_neD hr.units) (pe_callB call_len_seq (by rfl) T.len PySem.boot_len (pa_cons (pv 0) pa_nil)) pe_int (nomark _))))) (pss_one (ps_ret pe_bl)) pss_nil)
 (pss_cons (ps_asg (pv 0) (pg_tup rfl (pgs_cons (pg_name (i := 2) nd rfl (Or.inl rfl)) (pgs_cons (pg_name (i := 3) nd rfl (Or.inl rfl)) (pgs_cons (pg_name (i := 4) nd rfl (Or.inl rfl)) (pgs_cons (pg_name (i := 5) nd rfl (Or.inl rfl)) pgs_nil))))))
 (pss_cons (ps_if (PW.pt (pw_or (pt_not (pt_val (pe_call G1 hr rfl H1.m H1.F.kp H1.b .nil pass0 (pa_cons (pv 2) pa_nil)))) (pw_or (pt_not (pt_val (pe_call G1 hr rfl H1.m H1.F.kp H1.b .nil pass0 (pa_cons (pv 5) pa_nil)))) (pw_or (pt_cmpR op_ge (pv 2) (pv 1) (nomark _)) (pw_or1 (pt_cmpR op_ge (pv 5) (pv 1) (nomark _))))))) (pss_one (ps_ret pe_bl)) pss_nil)
 (pss_one (ps_ret (pe_and (pe_callB call_isi (by rfl) T.isinstance (by decide +kernel) (pa_cons (pv 3) (pa_cons (pe_bltn (v := .ty "str") (u := .type "str") (by rfl) T.str (by decide +kernel) rfl) pa_nil))) (pe_and (pe_cmpR op_in_seq (pv 3) (pe_tup (pa_cons pe_str (pa_cons pe_str pa_nil))) (by with_unfolding_all rfl)) (pe_one (pe_call G2 hr rfl H2.m H2.F.kp H2.b .nil pass0 (pa_cons (pv 4) pa_nil)))))))))), ?_⟩
  rintro M G B ds d _ ⟨s, n, rfl, hb, he, hn, rfl⟩ D fin
  show Run _ _ D M [.d (stepD s), .d (.int (n : Int)), .u, .u, .u, .u] []
  rw [stepD_eq]
  refine q_no (t_orF (t_notT (t_B (x_isi (x_vd rfl) (by show kitB "tuple" "tuple" = some true; decide +kernel)))) (t_test (x_is (x_op (x_cbP (a_cons (x_vd rfl) a_nil) c_lenT) x_int (o_neD (.d _) (.d _) ((shp_int 0 _).shaped (by decide)) ((shp_int 0 _).shaped (by decide)))) (by rw [eqv_int]; rfl)))) ?_
  refine q_asgG (x_vd rfl) tg_tup4 ?_
  show Run _ _ D M [.d (.tuple [.int (s.b : Int), .str (wh s.call), .str s.nm, .int (s.e : Int)]), .d (.int (n : Int)), .d (.int (s.b : Int)), .d (.str (wh s.call)), .d (.str s.nm), .d (.int (s.e : Int))] []
  have num : ∀ i : Nat, Riu [.int (i : Int)] (.bool true) := fun i => ⟨i, rfl, by rw [decide_eq_true (by omega)]⟩
  refine q_no (t_orF (t_notT (t_B (x_callR (ds := [.int (s.b : Int)]) (a_cons (x_vd rfl) a_nil) (num _)))) (t_orF (t_notT (t_B (x_callR (ds := [.int (s.e : Int)]) (a_cons (x_vd rfl) a_nil) (num _)))) (t_orF (t_test (x_is (x_op (x_vd rfl) (x_vd rfl) o_B0) (by rw [decide_eq_false (by omega)]))) (t_test (x_is (x_op (x_vd rfl) (x_vd rfl) o_B0) (by rw [decide_eq_false (by omega)])))))) ?_
  refine r_retP (x_andT (x_isi (x_vd rfl) (by show kitB "str" "str" = some true; decide +kernel)) (x_andT (x_is (x_op (x_vd rfl) (x_tup (ds := ([wh false, wh true] : List Str).map PyData.str) (a_cons x_str (a_cons x_str a_nil)) (by simp)) o_inT) ?_) (x_callR (ds := [.str s.nm]) (a_cons (x_vd rfl) a_nil) ⟨_, rfl, hn, rfl⟩))) fin
  rw [decide_eq_true (by cases s.call <;> decide)]
end
end K09
namespace K09
open PySem L2 FD Evl
def Rio (ds : List PyData) (d : PyData) : Prop := ∃ (c : Crs) (names : List Str), ds = [crsD c] ∧ CrsOk names c ∧ d = .bool true
section
variable {P : Program} {w : World} {K : PySem.W.Frag} {mg : Str → Option Value} {base : Heap} {Cb : Addr}
abbrev nIo : List Str := ["course", "name", "stages", "ends", "steps", "end", "step"]
theorem scIo : FnScope nIo ["course"] (defScope sIo) := ⟨rfl, rfl, rfl, by decide +kernel, rfl, by decide +kernel, by decide +kernel⟩
theorem ok_io {f : Addr} {fd : FuncData} (T : Txt K mg Cb) (F : Fun K "is_course" "is_course" sIo f fd) {f1 f2 f3 f4 f5 : Addr} {fd1 fd2 fd3 fd4 fd5 : FuncData} (H1 : Has K mg "is_number" sIu ["value"] f1 fd1) (H2 : Has K mg "is_name" sIn ["value"] f2 fd2) (H3 : Has K mg "is_step" sIs ["step", "stages"] f3 fd3) (H4 : Has K mg "is_integer" sIi ["value"] f4 fd4) (H5 : Has K mg "is_letter" sIl ["sign"] f5 fd5) : FnOk P w K mg base CX0 4 f fd ["course"] (spR K 1 Rio) := by
  have G1 : FnOk P w K mg base CX0 2 f1 fd1 ["value"] (spR K 1 Riu) := ok_iu T H1.F H4
  have G2 : FnOk P w K mg base CX0 2 f2 fd2 ["value"] (spR K 1 Rin) := ok_in T H2.F H5
  have G3 : FnOk P w K mg base CX0 3 f3 fd3 ["step", "stages"] (spR K 2 Ris) := ok_is T H3.F H1 H2 H4 H5
  obtain ⟨tms, hms⟩ := T.ms
  refine def_R F scIo (by decide) fun cdv A outer s H E hr => ?_
  have nd := scIo.nd
  have hr2 : Room 2 _ := hr.mono (by decide)
  refine ⟨_, (pss_cons (ps_if (PW.pt (pw_or (pt_not (pt_val (pe_callB call_isi (by rfl) T.isinstance (by decide +kernel) (pa_cons (pv 0) (pa_cons (pe_bltn (v := .ty "tuple") (u := .type "tuple") (by rfl) T.tuple (by decide +kernel) rfl) pa_nil))))) (pw_or1 (pt_cmpR (op_neD hr.units) (pe_callB call_len_seq (by rfl) T.len PySem.boot_len (pa_cons (pv 0) pa_nil)) pe_int (nomark _))))) (pss_one (ps_ret pe_bl)) pss_nil)
 (pss_cons (ps_asg (pv 0) (pg_tup rfl (pgs_cons (pg_name (i := 1) nd rfl (Or.inl rfl)) (pgs_cons (pg_name (i := 2) nd rfl (Or.inr rfl)) (pgs_cons (pg_name (i := 3) nd rfl (Or.inl rfl)) (pgs_cons (pg_name (i := 4) nd rfl (Or.inl rfl)) pgs_nil))))))
 (pss_cons (ps_if (PW.pt (pw_or (pt_not (pt_val (pe_call G2 hr2 rfl H2.m H2.F.kp H2.b .nil pass0 (pa_cons (pv 1) pa_nil)))) (pw_or (pt_not (pt_val (pe_call G1 hr2 rfl H1.m H1.F.kp H1.b .nil pass0 (pa_cons (pv 2) pa_nil)))) (pw_or1 (pt_not (pt_chain op_le op_le pe_int (pv 2) (pe_glob (v := .int 20) rfl hms ⟨_, rfl⟩))))))) (pss_one (ps_ret pe_bl)) pss_nil)
 (pss_cons (ps_if (PW.pt (pw_or (pt_not (pt_val (pe_callB call_isi (by rfl) T.isinstance (by decide +kernel) (pa_cons (pv 3) (pa_cons (pe_bltn (v := .ty "tuple") (u := .type "tuple") (by rfl) T.tuple (by decide +kernel) rfl) pa_nil))))) (pw_or1 (pt_not (pt_val (pe_callB call_isi (by rfl) T.isinstance (by decide +kernel) (pa_cons (pv 4) (pa_cons (pe_bltn (v := .ty "tuple") (u := .type "tuple") (by rfl) T.tuple (by decide +kernel) rfl) pa_nil)))))))) (pss_one (ps_ret pe_bl)) pss_nil)
 (pss_cons (ps_if (pt_not (pt_val (pe_callB (cr_all rfl) (by rfl) T.all (by decide +kernel) (pa_cons (pe_lc (own := [("end", 5)]) (g := (gName 5)) (tt := tYes) rfl nd (pi_tup (pv 3)) (blkOk_by (N := nIo) (sc := defScope sIo) (by decide +kernel)) (fun _ _ _ _ _ => (pg_name (i := 5) nd rfl (Or.inl rfl))) (fun _ _ _ _ _ => pts_nil) (fun _ _ _ _ _ => (pe_and (pe_call G1 hr2 rfl H1.m H1.F.kp H1.b .nil pass0 (pa_cons (pv 5) pa_nil)) (pe_one (pe_cmpR op_lt (pv 5) (pv 2) (nomark _)))))) pa_nil)))) (pss_one (ps_ret pe_bl)) pss_nil)
 (pss_cons (ps_if (pt_not (pt_val (pe_callB (cr_all rfl) (by rfl) T.all (by decide +kernel) (pa_cons (pe_lc (own := [("step", 6)]) (g := (gName 6)) (tt := tYes) rfl nd (pi_tup (pv 4)) (blkOk_by (N := nIo) (sc := defScope sIo) (by decide +kernel)) (fun _ _ _ _ _ => (pg_name (i := 6) nd rfl (Or.inl rfl))) (fun _ _ _ _ _ => pts_nil) (fun _ _ _ _ _ => (pe_call G3 hr rfl H3.m H3.F.kp H3.b .nil pass0 (pa_cons (pv 6) (pa_cons (pv 2) pa_nil))))) pa_nil)))) (pss_one (ps_ret pe_bl)) pss_nil)
 (pss_one (ps_ret (pe_and (pe_cmpR (op_eqD hr.units) (pv 3) (pe_callTy call_tuple_of (by rfl) T.tuple (by decide +kernel) (pa_cons (pe_STi rfl (by rfl) T.sorted (by rfl) T.set (pv 3)) pa_nil)) (nomark _)) (pe_one (pe_cmpR (op_eqD hr.units) (pe_lenSK rfl hr.units (by rfl) T.len (by rfl) T.set (pv 4)) (pe_callB call_len_seq (by rfl) T.len PySem.boot_len (pa_cons (pv 4) pa_nil)) (nomark _)))))))))))), ?_⟩
  rintro M G B ds d _ ⟨c, names, rfl, ok, rfl⟩ D fin
  show FD.Run _ _ D M [.d (crsD c), .u, .u, .u, .u, .u, .u] []
  have sh1 := (shp_int 0 1).shaped (by decide)
  have num : ∀ i : Nat, Riu [.int (i : Int)] (.bool true) := fun i => ⟨i, rfl, by rw [decide_eq_true (by omega)]⟩
  have h1 := ok.n1
  have h2 := ok.n2
  unfold crsD
  refine q_no (t_orF (t_notT (t_B (x_isi (x_vd rfl) (by show kitB "tuple" "tuple" = some true; decide +kernel)))) (t_test (x_is (x_op (x_cbP (a_cons (x_vd rfl) a_nil) c_lenT) x_int (o_neD (.d _) (.d _) ((shp_int 0 _).shaped (by decide)) ((shp_int 0 _).shaped (by decide)))) (by rw [eqv_int]; rfl)))) ?_
  refine q_asgG (x_vd rfl) tg_tup4 ?_
  generalize PyData.tuple [.str c.nm, .int (c.n : Int), endsD c.ends, stepsD c.steps] = cD
  show FD.Run _ _ D M [.d cD, .d (.str c.nm), .d (.int (c.n : Int)), .d (endsD c.ends), .d (stepsD c.steps), .u, .u] []
  refine q_no (t_orF (t_notT (t_B (x_callR (ds := [.str c.nm]) (a_cons (x_vd rfl) a_nil) ⟨_, rfl, ok.nm, rfl⟩))) (t_orF (t_notT (t_B (x_callR (ds := [.int (c.n : Int)]) (a_cons (x_vd rfl) a_nil) (num _)))) (t_notT (t_test (x_is (x_chainI (m := 1) (n := (c.n : Int)) (k := 20) (g := fun i j => decide (i ≤ j)) (g' := fun i j => decide (i ≤ j)) x_int (x_vd rfl) x_int) (by rw [decide_eq_true (by omega), decide_eq_true (by omega)]; rfl)))))) ?_
  refine q_no (t_orF (t_notT (t_B (x_isi (x_vd rfl) (by show kitB "tuple" "tuple" = some true; decide +kernel)))) (t_notT (t_B (x_isi (x_vd rfl) (by show kitB "tuple" "tuple" = some true; decide +kernel))))) ?_
  have le := asc_few ok.asc ok.ends
  have ls := ok.few
  refine q_no (t_notT (t_B (x_is (x_cbP (a_cons (x_lcA (l := c.ends) (enc := fun i : Nat => PyData.int (i : Int)) (f := fun _ => PyData.bool true) (i_tup (x_is (x_vd rfl) (by unfold endsD; rw [List.map_map]; rfl))) (by omega) (ts := [5]) (fun i => [.d cD, .d (.str c.nm), .d (.int (c.n : Int)), .d (endsD c.ends), .d (stepsD c.steps), .d (.int (i : Int)), .u]) (fun i hi => tg_name) (fun k hk => hk) fun i hi G' B' D' => ?_) a_nil) (c_all (bs := c.ends.map fun _ => true) (by rw [List.map_map]; exact .d _))) (by rw [all_true])))) ?_
  · exact x_andT (x_callR (ds := [.int (i : Int)]) (a_cons (x_vd rfl) a_nil) (num _)) (x_is (x_op (x_vd rfl) (x_vd rfl) o_B0) (by rw [decide_eq_true (by have := ok.ends i hi; omega)]))
  refine q_no (t_notT (t_B (x_is (x_cbP (a_cons (x_lcA (l := c.steps) (enc := stepD) (f := fun _ => PyData.bool true) (i_tup (x_vd rfl)) (by omega) (ts := [6]) (fun st => [.d cD, .d (.str c.nm), .d (.int (c.n : Int)), .d (endsD c.ends), .d (stepsD c.steps), .u, .d (stepD st)]) (fun i hi => tg_name) (fun k hk => hk) fun st hs G' B' D' => ?_) a_nil) (c_all (bs := c.steps.map fun _ => true) (by rw [List.map_map]; exact .d _))) (by rw [all_true])))) ?_
  · exact x_callR (ds := [stepD st, .int (c.n : Int)]) (a_cons (x_vd rfl) (a_cons (x_vd rfl) a_nil)) ⟨st, c.n, rfl, ok.b st hs, ok.e st hs, ok.snm st hs, rfl⟩
  have sE : SeqAt.shaped (endsD c.ends) = true := (shp_tints 0 _).shaped (by decide)
  refine r_retP (x_andT (x_is (x_op (x_vd rfl) (x_cbP (a_cons (x_STi (ms := c.ends.map fun i : Nat => (i : Int)) (x_vd rfl) (by rw [List.length_map]; omega) (List.pairwise_map.mpr (ok.asc.imp fun q => by omega)) (fun k => Iff.rfl)) a_nil) (c_tupleL (.d _))) (o_eqD (.d _) (.d _) sE sE)) (by unfold endsD; simp only [PyData.eqv]; rw [eqv_ints]; simp)) (x_is (x_op (x_lenSK (l := c.steps.map stepK) (x_vd rfl) (.inr (by unfold stepsD; rw [List.map_map]; rfl)) (by rw [List.length_map]; exact ls) (List.Pairwise.map _ (fun a b ne e => ne (stepK_inj e)) ok.nd)) (x_cbP (a_cons (x_vd rfl) a_nil) c_lenT) (o_eqD (.d _) (.d _) ((shp_int 0 _).shaped (by decide)) ((shp_int 0 _).shaped (by decide)))) (by rw [eqv_int, List.length_map, List.length_map]; simp))) fin
end
end K09
namespace K09
open PySem L2 FD Evl
theorem crs_at (c : Crs) {i : Int} {d : PyData} (h : atI [PyData.str c.nm, .int (c.n : Int), endsD c.ends, stepsD c.steps] i = some d) : atI [PyData.str c.nm, .int (c.n : Int), endsD c.ends, stepsD c.steps] i = some d := h
def sumN (cs : List Crs) (i : Nat) : Nat := ((cs.take i).map (·.n)).sum
theorem sumN_le (cs : List Crs) : ∀ i, sumN cs i ≤ (cs.map (·.n)).sum := fun i => by
  unfold sumN
  conv => rhs; rw [← List.take_append_drop i cs]
  rw [List.map_append, List.sum_append]; omega
theorem sumN_succ {cs : List Crs} {i : Nat} {c : Crs} (h : cs[i]? = some c) : sumN cs (i + 1) = sumN cs i + c.n := by
  unfold sumN
  rw [List.take_add_one, h]
  simp
theorem zip_at {α : Type} {l : List α} {i : Nat} {q : α × Nat} (h : l.zipIdx[i]? = some q) : l[i]? = some q.1 ∧ q.2 = i := by
  rw [List.getElem?_zipIdx] at h
  cases e : l[i]? with
  | none => rw [e] at h; cases h
  | some a => rw [e] at h; cases h; exact ⟨rfl, by simp⟩
def Rct (es : List Ent) (μ : Mem) (d : PyData) (μ' : Mem) : Prop := ∃ (cs : List Crs) (a : Addr), es = [.d (bokD cs), .m a] ∧ μ = [(a, .lst ((cs.map (·.nm)).map .str))] ∧ μ' = μ ∧ BokOk cs ∧ d = .none
def Rcc (es : List Ent) (μ : Mem) (d : PyData) (μ' : Mem) : Prop := ∃ cs : List Crs, es = [.d (bokD cs)] ∧ μ = [] ∧ μ' = [] ∧ BokOk cs ∧ d = .none
theorem shp_wh (c : Bool) : SeqAt.shaped (.str (wh c)) = true := sh_str (wh_tok c)
section
variable {P : Program} {w : World} {K : PySem.W.Frag} {mg : Str → Option Value} {base : Heap} {Cb : Addr}
abbrev nCt : List Str := ["courses", "names", "stages", "deeds", "at", "course", "begin", "what", "name", "end"]
theorem scCt : FnScope nCt ["courses", "names"] (defScope sCt) := ⟨rfl, rfl, rfl, by decide +kernel, rfl, by decide +kernel, by decide +kernel⟩
theorem ok_ct {f : Addr} {fd : FuncData} (T : Txt K mg Cb) (F : Fun K "check_together" "check_together" sCt f fd) : FnOk P w K mg base CX0 1 f fd ["courses", "names"] (spE K 2 Rct) := by
  obtain ⟨tmt, hmt⟩ := T.mt
  obtain ⟨tmd, hmd⟩ := T.md
  refine def_En F scCt (by decide) rfl fun cdv A outer s H E hr => ?_
  have nd := scCt.nd
  refine ⟨_, (pss_cons (ps_par (i := 2) (j := 3) (by rfl) nd rfl rfl (by decide) rfl rfl (pa_cons pe_int (pa_cons pe_dnewK pa_nil)) (by rfl))
 (pss_one (ps_for PassesOwn.never rfl (pi_enumT (by rfl) T.enumerate (pa_cons (pv 0) pa_nil)) (pg_tup rfl (pgs_cons (pg_name (i := 4) nd rfl (Or.inl rfl)) (pgs_cons (pg_name (i := 5) nd rfl (Or.inl rfl)) pgs_nil))) (pss_cons (ps_aug (i := 2) nd rfl (.inl rfl) (pe_ix ix_tup (pv 5) pe_int (fun _ _ => rfl)) ip_add)
 (pss_cons (ps_for PassesOwn.never rfl (pi_tup (pe_ix ix_tup (pv 5) pe_int (fun _ _ => rfl))) (pg_tup rfl (pgs_cons (pg_name (i := 6) nd rfl (Or.inl rfl)) (pgs_cons (pg_name (i := 7) nd rfl (Or.inl rfl)) (pgs_cons (pg_name (i := 8) nd rfl (Or.inl rfl)) (pgs_cons (pg_name (i := 9) nd rfl (Or.inl rfl)) pgs_nil))))) (pss_one (ps_if (pt_cmpR (op_eqD hr.units) (pv 7) pe_str (nomark _)) (pss_one (ps_asg pe_bl (pg_sub (pv 3) (pv 8) (set_dict (hu_of hr))))) (pss_one (ps_if (pt_cmpR op_notIn_seq (pv 8) (pv 1) (by with_unfolding_all rfl)) (pss_one ps_no) pss_nil)))))
 (pss_one (ps_if (PW.pt (pw_or (pt_cmpR op_gt (pv 2) (pe_glob (v := .int 60) rfl hmt ⟨_, rfl⟩) (nomark _)) (pw_or1 (pt_cmpR op_gt (pe_callB call_lenD (by rfl) T.len PySem.boot_len (pa_cons (pv 3) pa_nil)) (pe_glob (v := .int 12) rfl hmd ⟨_, rfl⟩) (nomark _))))) (pss_one ps_no) pss_nil))))))), ?_⟩
  rintro M G B es μ d μ' ⟨cs, a, rfl, rfl, rfl, ok, rfl⟩ D hn fin
  show FD.Run _ _ D M [.d (bokD cs), .m a, .u, .u, .u, .u, .u, .u, .u, .u] [(a, .lst ((cs.map (·.nm)).map .str))]
  obtain ⟨ds, hds, hdd⟩ := ok.deeds
  refine q_parZD fun p pM => ?_
  show FD.Run _ _ D (p :: M) [.d (bokD cs), .m a, .d (.int 0), .m p, .u, .u, .u, .u, .u, .u] [(p, .dK (kd [])), (a, .lst ((cs.map (·.nm)).map .str))]
  have few := ok.few
  have tot := ok.tot
  refine r_forA (l := cs.zipIdx) (enc := fun q => PyData.tuple [.int (q.2 : Int), crsD q.1]) (by
      have h := i_enumT (C := ⟨K, M, G, B⟩) (xs := cs.map crsD) (a_cons (x_vd (M := p :: M) (μ := [(p, .dK (kd [])), (a, .lst ((cs.map (·.nm)).map .str))]) (δ := [.d (bokD cs), .m a, .d (.int 0), .m p, .u, .u, .u, .u, .u, .u]) (i := 0) rfl) a_nil)
      rw [enumD_map] at h
      exact h)
    (fun i δ μ => ∃ (dl : Dct) (e4 e5 e6 e7 e8 e9 : Ent), δ = [.d (bokD cs), .m a, .d (.int (sumN cs i : Nat)), .m p, e4, e5, e6, e7, e8, e9] ∧ μ = [(p, .dK (kd dl)), (a, .lst ((cs.map (·.nm)).map .str))] ∧ (dl.map (·.1)).Nodup ∧ ∀ x ∈ dl.map (·.1), x ∈ ds)
    ⟨[], _, _, _, _, _, _, rfl, rfl, List.Pairwise.nil, fun x hx => absurd hx (by simp)⟩ ?_ ?_
  · rintro B' xB i ⟨c, j⟩ δ1 μ1 hq ⟨dl, e4, e5, e6, e7, e8, e9, rfl, rfl, dn, dm⟩
    obtain ⟨hc, rfl⟩ := zip_at hq
    have hc : cs[j]? = some c := hc
    have cm := List.mem_of_getElem? hc
    have cok := ok.ok c cm
    refine ⟨_, _, tg_tup2, ?_⟩
    show FD.Run _ _ _ (p :: M) [.d (bokD cs), .m a, .d (.int (sumN cs j : Nat)), .m p, .d (.int (j : Int)), .d (crsD c), e6, e7, e8, e9] [(p, .dK (kd dl)), (a, .lst ((cs.map (·.nm)).map .str))]
    refine r_seq (r_aug (f := fun m n => m + n) rfl (x_op (x_vd rfl) x_int (o_ixT (d := .int (c.n : Int)) rfl)) ?_)
    have es : ((sumN cs j : Nat) : Int) + (c.n : Int) = ((sumN cs (j + 1) : Nat) : Int) := by rw [sumN_succ hc]; omega
    show FD.Run _ _ _ (p :: M) [.d (bokD cs), .m a, .d (.int ((sumN cs j : Nat) + (c.n : Int))), .m p, .d (.int (j : Int)), .d (crsD c), e6, e7, e8, e9] [(p, .dK (kd dl)), (a, .lst ((cs.map (·.nm)).map .str))]
    rw [es]
    refine q_forA (l := c.steps) (enc := stepD) (i_tup (x_op (x_vd rfl) x_int (o_ixT (d := stepsD c.steps) rfl)))
      (fun i δ μ => ∃ (dl : Dct) (e6 e7 e8 e9 : Ent), δ = [.d (bokD cs), .m a, .d (.int (sumN cs (j + 1) : Nat)), .m p, .d (.int (j : Int)), .d (crsD c), e6, e7, e8, e9] ∧ μ = [(p, .dK (kd dl)), (a, .lst ((cs.map (·.nm)).map .str))] ∧ (dl.map (·.1)).Nodup ∧ ∀ x ∈ dl.map (·.1), x ∈ ds)
      ⟨dl, _, _, _, _, rfl, rfl, dn, dm⟩ ?_ ?_
    · rintro B2 xB2 i st δ1 μ1 hst ⟨dl, e6, e7, e8, e9, rfl, rfl, dn, dm⟩
      have sm := List.mem_of_getElem? hst
      refine ⟨_, _, tg_tup4, ?_⟩
      show FD.Run _ _ _ (p :: M) [.d (bokD cs), .m a, .d (.int (sumN cs (j + 1) : Nat)), .m p, .d (.int (j : Int)), .d (crsD c), .d (.int (st.b : Int)), .d (.str (wh st.call)), .d (.str st.nm), .d (.int (st.e : Int))] [(p, .dK (kd dl)), (a, .lst ((cs.map (·.nm)).map .str))]
      have hl : dl.length ≤ 12 := by
        have := RK.nd_len dn dm
        rw [List.length_map] at this; omega
      refine r_if (b := !st.call) (t_is (t_test (x_op (x_vd rfl) x_str (o_eqD (.d _) (.d _) (shp_wh _) (shp_wh false)))) (by rw [eqv_str]; cases st.call <;> decide)) (fun hb => ?_) (fun hb => ?_)
      · have hcall : st.call = false := by simpa using hb
        refine r_dputA (j := 0) x_bl (x_vm rfl) (x_vd rfl) rfl (by omega) ?_
        exact fun σ H o => ⟨_, _, ⟨_, _, _, _, _, rfl, rfl, putDc_nd dn, fun x hx => (putDc_mem.mp hx).elim (fun e => e ▸ hdd c cm st sm hcall) (dm x)⟩, o⟩
      · have hcall : st.call = true := by simpa using hb
        refine r_no (t_test (x_is (x_op (x_vd rfl) (x_vm rfl) (o_notInL (.m (j := 1) rfl))) (by rw [decide_eq_true (cok.calls st sm hcall)]; rfl))) ?_
        exact fun σ H o => ⟨_, _, ⟨_, _, _, _, _, rfl, rfl, dn, dm⟩, o⟩
    · rintro δ1 μ1 ⟨dl, e6, e7, e8, e9, rfl, rfl, dn, dm⟩
      have hl : dl.length ≤ 12 := by
        have := RK.nd_len dn dm
        rw [List.length_map] at this; omega
      have hs := sumN_le cs (j + 1)
      refine r_no (t_orF (t_test (x_is (x_op (x_vd rfl) x_int o_B0) (by rw [decide_eq_false (by omega)]))) (t_test (x_is (x_op (x_cbP (a_cons (x_vm rfl) a_nil) (c_lenDc List.mem_cons_self)) x_int o_B0) (by rw [decide_eq_false (by omega)])))) ?_
      exact fun σ H o => ⟨_, _, ⟨_, _, _, _, _, _, _, rfl, rfl, dn, dm⟩, o⟩
  · rintro δ1 μ1 ⟨dl, e4, e5, e6, e7, e8, e9, rfl, rfl, dn, dm⟩
    exact nx_endE hn fin fun q hq => List.mem_cons_of_mem _ hq
abbrev nCc : List Str := ["courses", "names", "at", "course"]
theorem scCc : FnScope nCc ["courses"] (defScope sCc) := ⟨rfl, rfl, rfl, by decide +kernel, rfl, by decide +kernel, by decide +kernel⟩
end
end K09
namespace FD
open PySem L2 Evl
theorem putG_new {l : GTab} {k : List Key} {φ : GP} (h : k ∉ l.map (·.1)) : putG l k φ = l ++ [(k, φ)] := by
  unfold putG
  rw [if_neg fun z => h (valG_mem.mp z)]
theorem r_dropX {C : Cfg} {M : List Addr} {δ : List Ent} {μ μ1 : Mem} {te : TE} {D : Ends} {t2 : TS} {e : Ent} (h : EvX C te M δ μ μ1 e) (k : Run C t2 D M δ μ1) : Run C (tSeq (tDrop te) t2) D M δ μ := q_drop h k
end FD
namespace K09
open PySem L2 FD Evl
def pos (c : Crs) (i : Nat) : List Nat := (c.steps.zipIdx.filter fun q => decide (q.1.b = i)).map (·.2)
def posD (c : Crs) (i : Nat) : PyData := .tuple ((pos c i).map fun j : Nat => .int (j : Int))
def byN (cs : List Crs) : Dct := cs.map fun c => (c.nm, crsD c)
def leavC (c : Crs) (m : Nat) : GTab := (List.range m).map fun i => (stK (c.nm, i), gD (posD c i))
def leavT (cs : List Crs) : GTab := cs.flatMap fun c => leavC c c.n
def stages (cs : List Crs) : List Stg := cs.flatMap fun c => (List.range c.n).map fun i => (c.nm, i)
theorem leavC_keys (c : Crs) (m : Nat) : (leavC c m).map (·.1) = ((List.range m).map fun i => (c.nm, i)).map stK := by
  unfold leavC
  rw [List.map_map, List.map_map]; rfl
theorem leavT_keys : ∀ cs : List Crs, (leavT cs).map (·.1) = (stages cs).map stK
  | [] => rfl
  | c :: cs => by
    have ih := leavT_keys cs
    unfold leavT stages at ih ⊢
    rw [List.flatMap_cons, List.flatMap_cons, List.map_append, List.map_append, ih, leavC_keys]
theorem stages_mem {cs : List Crs} {s : Stg} : s ∈ stages cs ↔ ∃ c ∈ cs, c.nm = s.1 ∧ s.2 < c.n := by
  unfold stages
  rw [List.mem_flatMap]
  constructor
  · rintro ⟨c, hc, h⟩
    obtain ⟨i, hi, rfl⟩ := List.mem_map.mp h
    exact ⟨c, hc, rfl, List.mem_range.mp hi⟩
  · rintro ⟨c, hc, h1, h2⟩
    exact ⟨c, hc, List.mem_map.mpr ⟨s.2, List.mem_range.mpr h2, Prod.ext h1 rfl⟩⟩
theorem leavT_len (cs : List Crs) : (leavT cs).length = (cs.map (·.n)).sum := by
  unfold leavT leavC
  induction cs with
  | nil => rfl
  | cons c cs ih => rw [List.flatMap_cons, List.length_append, ih, List.length_map, List.length_range, List.map_cons, List.sum_cons]
theorem leavT_take {cs : List Crs} {i : Nat} {c : Crs} (h : cs[i]? = some c) : leavT (cs.take (i + 1)) = leavT (cs.take i) ++ leavC c c.n := by
  unfold leavT
  rw [List.take_add_one, h, List.flatMap_append]
  simp
theorem leavC_succ (c : Crs) (m : Nat) : leavC c (m + 1) = leavC c m ++ [(stK (c.nm, m), gD (posD c m))] := by
  unfold leavC
  rw [List.range_succ, List.map_append]; rfl
theorem key_new {cs : List Crs} (nd : (cs.map (·.nm)).Nodup) {i : Nat} {c : Crs} (h : cs[i]? = some c) (j : Nat) : stK (c.nm, j) ∉ (leavT (cs.take i) ++ leavC c j).map (·.1) := fun z => by
  rw [List.map_append, List.mem_append, leavT_keys, leavC_keys] at z
  rcases z with z | z
  · obtain ⟨s, hs, e⟩ := List.mem_map.mp z
    have e := stK_inj e
    subst e
    obtain ⟨d, hd, e1, _⟩ := stages_mem.mp hs
    have e1 : d.nm = c.nm := e1
    obtain ⟨m, hm⟩ := List.getElem?_of_mem hd
    have ml := (List.getElem?_eq_some_iff.mp hm).1
    rw [List.length_take] at ml
    rw [List.getElem?_take, if_pos (by omega)] at hm
    have a1 : (cs.map (·.nm))[m]? = some d.nm := by rw [List.getElem?_map, hm]; rfl
    have a2 : (cs.map (·.nm))[i]? = some c.nm := by rw [List.getElem?_map, h]; rfl
    obtain ⟨l1, g1⟩ := List.getElem?_eq_some_iff.mp a1
    obtain ⟨l2, g2⟩ := List.getElem?_eq_some_iff.mp a2
    exact List.pairwise_iff_getElem.mp nd m i l1 l2 (by omega) (g1.trans (e1.trans g2.symm))
  · obtain ⟨s, hs, e⟩ := List.mem_map.mp z
    have e := stK_inj e
    subst e
    obtain ⟨m, hm, e2⟩ := List.mem_map.mp hs
    have := List.mem_range.mp hm
    have e2 : m = j := congrArg Prod.snd e2
    omega
def fC : Str := "courses"
def fB : Str := "by_name"
def fL : Str := "leaving"
def gBook (Cb : Addr) (cs : List Crs) : GP := gIns Cb [("courses", gD (bokD cs)), ("by_name", gDK (byN cs)), ("leaving", gDT (leavT cs))]
theorem nCB : ¬ ("courses" : Str) = "by_name" := by decide +kernel
theorem nCL : ¬ ("courses" : Str) = "leaving" := by decide +kernel
theorem nBL : ¬ ("by_name" : Str) = "leaving" := by decide +kernel
theorem flds3 (a b c : GP) : putFG "leaving" c (putFG "by_name" b (putFG "courses" a [])) = ([("courses", a), ("by_name", b), ("leaving", c)] : Flds) := by
  show (if ("courses" : Str) = "leaving" then _ else (("courses" : Str), a) :: (if ("by_name" : Str) = "leaving" then _ else (("by_name" : Str), b) :: putFG "leaving" c [])) = _
  rw [if_neg nCL, if_neg nBL]; rfl
theorem flds2 (a b : GP) : putFG "by_name" b (putFG "courses" a []) = ([("courses", a), ("by_name", b)] : Flds) := by
  show (if ("courses" : Str) = "by_name" then _ else (("courses" : Str), a) :: putFG "by_name" b []) = _
  rw [if_neg nCB]; rfl
theorem lk (a b c : GP) : ([("courses", a), ("by_name", b), ("leaving", c)] : Flds).lookup ("courses" : Str) = some a ∧ ([("courses", a), ("by_name", b), ("leaving", c)] : Flds).lookup ("by_name" : Str) = some b ∧ ([("courses", a), ("by_name", b), ("leaving", c)] : Flds).lookup ("leaving" : Str) = some c := by
  refine ⟨?_, ?_, ?_⟩
  · rw [List.lookup_cons, show (("courses" : Str) == "courses") = true by decide +kernel]
  · rw [List.lookup_cons, show (("by_name" : Str) == "courses") = false by decide +kernel]
    show List.lookup _ _ = _
    rw [List.lookup_cons, show (("by_name" : Str) == "by_name") = true by decide +kernel]
  · rw [List.lookup_cons, show (("leaving" : Str) == "courses") = false by decide +kernel]
    show List.lookup _ _ = _
    rw [List.lookup_cons, show (("leaving" : Str) == "by_name") = false by decide +kernel]
    show List.lookup _ _ = _
    rw [List.lookup_cons, show (("leaving" : Str) == "leaving") = true by decide +kernel]
section
variable {P : Program} {w : World} {K : PySem.W.Frag} {mg : Str → Option Value} {base : Heap} {Cb : Addr}
theorem ok_cc {f : Addr} {fd : FuncData} (T : Txt K mg Cb) (F : Fun K "check_courses" "check_courses" sCc f fd) {f1 f2 : Addr} {fd1 fd2 : FuncData} (H1 : Has K mg "is_course" sIo ["course"] f1 fd1) (H2 : Has K mg "check_together" sCt ["courses", "names"] f2 fd2) (G1 : FnOk P w K mg base CX0 4 f1 fd1 ["course"] (spR K 1 Rio)) : FnOk P w K mg base CX0 5 f fd ["courses"] (spE K 1 Rcc) := by
  have G2 : FnOk P w K mg base CX0 1 f2 fd2 ["courses", "names"] (spE K 2 Rct) := ok_ct T H2.F
  obtain ⟨tmc, hmc⟩ := T.mc
  refine def_En F scCc (by decide) rfl fun cdv A outer s H E hr => ?_
  have nd := scCc.nd
  have hr1 : Room 1 _ := hr.mono (by decide)
  refine ⟨_, (pss_cons (ps_if (pt_not (pt_val (pe_callB call_isi (by rfl) T.isinstance (by decide +kernel) (pa_cons (pv 0) (pa_cons (pe_bltn (v := .ty "tuple") (u := .type "tuple") (by rfl) T.tuple (by decide +kernel) rfl) pa_nil))))) (pss_one ps_no) pss_nil)
 (pss_cons (ps_set (i := 1) nd rfl (Or.inl rfl) (pe_lst pa_nil))
 (pss_cons (ps_for PassesOwn.never rfl (pi_enumT (by rfl) T.enumerate (pa_cons (pv 0) pa_nil)) (pg_tup rfl (pgs_cons (pg_name (i := 2) nd rfl (Or.inl rfl)) (pgs_cons (pg_name (i := 3) nd rfl (Or.inl rfl)) pgs_nil))) (pss_cons (ps_if (PW.pt (pw_or (pt_cmpR (op_eqD hr.units) (pv 2) (pe_glob (v := .int 8) rfl hmc ⟨_, rfl⟩) (nomark _)) (pw_or (pt_not (pt_val (pe_call G1 hr rfl H1.m H1.F.kp H1.b .nil pass0 (pa_cons (pv 3) pa_nil)))) (pw_or1 (pt_cmpR op_in_seq (pe_ix ix_tup (pv 3) pe_int (fun _ _ => rfl)) (pv 1) (by with_unfolding_all rfl)))))) (pss_one ps_no) pss_nil)
 (pss_one (ps_expr (pe_bm PySem.F.plainAttrs_list PySem.F.slot_list_append PySem.F.type_list_append mt_append (pv 1) (pa_cons (pe_ix ix_tup (pv 3) pe_int (fun _ _ => rfl)) pa_nil))))))
 (pss_cons (ps_if (pt_cmpR (op_eqD hr.units) (pv 1) (pe_lst pa_nil) (nomark _)) (pss_one ps_no) pss_nil)
 (pss_one (ps_expr (pe_call G2 hr1 rfl H2.m H2.F.kp H2.b .nil pass0 (pa_cons (pv 0) (pa_cons (pv 1) pa_nil))))))))), ?_⟩
  rintro M G B es μ d μ' ⟨cs, rfl, rfl, rfl, ok, rfl⟩ D hn fin
  show FD.Run _ _ D M [.d (bokD cs), .u, .u, .u] []
  have few := ok.few
  refine q_no (t_notT (t_B (x_isi (x_vd rfl) (by show kitB "tuple" "tuple" = some true; decide +kernel)))) ?_
  refine q_new (ds := []) a_nil (by simp) fun a aM => ?_
  show FD.Run _ _ D (a :: M) [.d (bokD cs), .m a, .u, .u] [(a, .lst [])]
  refine q_forA (l := cs.zipIdx) (enc := fun q => PyData.tuple [.int (q.2 : Int), crsD q.1]) (by
      have h := i_enumT (C := ⟨K, M, G, B⟩) (xs := cs.map crsD) (a_cons (x_vd (M := a :: M) (μ := [(a, .lst [])]) (δ := [.d (bokD cs), .m a, .u, .u]) (i := 0) rfl) a_nil)
      rw [enumD_map] at h
      exact h)
    (fun i δ μ => ∃ e2 e3 : Ent, δ = [.d (bokD cs), .m a, e2, e3] ∧ μ = [(a, .lst (((cs.take i).map (·.nm)).map .str))]) ⟨_, _, rfl, rfl⟩ ?_ ?_
  · rintro B' xB i ⟨c, j⟩ δ1 μ1 hq ⟨e2, e3, rfl, rfl⟩
    obtain ⟨hc, rfl⟩ := zip_at hq
    have hc : cs[j]? = some c := hc
    have cm := List.mem_of_getElem? hc
    have hj := (List.getElem?_eq_some_iff.mp hc).1
    have cok := ok.ok c cm
    refine ⟨_, _, tg_tup2, ?_⟩
    show FD.Run _ _ _ (a :: M) [.d (bokD cs), .m a, .d (.int (j : Int)), .d (crsD c)] [(a, .lst (((cs.take j).map (·.nm)).map .str))]
    have hni : c.nm ∉ (cs.take j).map (·.nm) := fun z => by
      obtain ⟨m, hm⟩ := List.getElem?_of_mem z
      have ml := (List.getElem?_eq_some_iff.mp hm).1
      rw [List.length_map, List.length_take] at ml
      rw [List.map_take, List.getElem?_take, if_pos (by omega)] at hm
      have a2 : (cs.map (·.nm))[j]? = some c.nm := by rw [List.getElem?_map, hc]; rfl
      obtain ⟨l1, g1⟩ := List.getElem?_eq_some_iff.mp hm
      obtain ⟨l2, g2⟩ := List.getElem?_eq_some_iff.mp a2
      exact List.pairwise_iff_getElem.mp ok.nd m j l1 l2 (by omega) (g1.trans g2.symm)
    refine q_no (t_orF (t_test (x_is (x_op (x_vd rfl) x_int (o_eqD (.d _) (.d _) ((shp_int 0 _).shaped (by decide)) ((shp_int 0 _).shaped (by decide)))) (by rw [eqv_int, beq_eq_false_iff_ne.mpr (by omega)]))) (t_orF (t_notT (t_B (x_callR (ds := [crsD c]) (a_cons (x_vd rfl) a_nil) ⟨c, _, rfl, cok, rfl⟩))) (t_test (x_is (x_op (x_op (x_vd rfl) x_int (o_ixT (d := .str c.nm) rfl)) (x_vm rfl) (o_inL (.m (j := 0) rfl))) (by rw [decide_eq_false hni]))))) ?_
    refine r_app (j := 0) (x_vm rfl) (x_op (x_vd rfl) x_int (o_ixT (d := .str c.nm) rfl)) rfl rfl (by rw [List.length_map, List.length_map, List.length_take]; omega) ?_
    exact fun σ H o => ⟨_, _, ⟨_, _, rfl, by rw [List.take_add_one, hc, List.map_append, List.map_append]; rfl⟩, o⟩
  · rintro δ1 μ1 ⟨e2, e3, rfl, rfl⟩
    rw [List.length_zipIdx, List.take_length]
    have ne : ¬ (cs.map (·.nm)).map PyData.str = [] := fun z => ok.ne (List.map_eq_nil_iff.mp (List.map_eq_nil_iff.mp z))
    refine q_no (t_test (x_is (x_op (x_vm rfl) (x_lst (ds := []) a_nil (by simp)) (o_eqD (.m (j := 0) rfl) (.d _) ((shp_list (n := 0) fun d hd => by
      obtain ⟨x, hx, rfl⟩ := List.mem_map.mp hd
      obtain ⟨c, hc, rfl⟩ := List.mem_map.mp hx
      exact shp_str 0 (ok.ok c hc).nm.tok).shaped (by decide)) ((shp_nil 0).shaped (by decide)))) (by
        cases q : (cs.map (·.nm)).map PyData.str with
        | nil => exact absurd q ne
        | cons x y => simp [PyData.eqv, PyData.eqvAll]))) ?_
    refine r_drop (e := .d .none) (x_callE (a_cons (x_vd rfl) (a_cons (x_vm rfl) a_nil)) (swap_id (fun p hp => hp) (by simp)) (by simp) ⟨cs, a, rfl, rfl, rfl, ok, rfl⟩) ?_
    exact nx_endE hn fin fun q hq => absurd hq (by simp)
end
end K09
namespace K09
open PySem L2 FD Evl
theorem byN_keys (cs : List Crs) : (byN cs).map (·.1) = cs.map (·.nm) := by
  unfold byN
  rw [List.map_map]; rfl
def Rbi (Cb : Addr) (es : List Ent) (φ : GP) : Prop := ∃ cs : List Crs, es = [.d (bokD cs)] ∧ BokOk cs ∧ φ = gBook Cb cs
section
variable {P : Program} {w : World} {K : PySem.W.Frag} {mg : Str → Option Value} {base : Heap} {Cb : Addr}
abbrev nBi : List Str := ["self", "courses", "name", "stages", "ends", "steps", "number", "course", "left", "at", "step"]
theorem scBi : FnScope nBi ["self", "courses"] (defScope sBi) := ⟨rfl, rfl, rfl, by decide +kernel, rfl, by decide +kernel, by decide +kernel⟩
theorem ok_bi {f : Addr} {fd : FuncData} (T : Txt K mg Cb) (F : Fun K "__init__" "Book.__init__" sBi f fd) {f1 : Addr} {fd1 : FuncData} (H1 : Has K mg "check_courses" sCc ["courses"] f1 fd1) (G1 : FnOk P w K mg base CX0 5 f1 fd1 ["courses"] (spE K 1 Rcc)) : FnOk P w K mg base CX0 6 f fd ["self", "courses"] (spMk K Cb 1 (Rbi Cb)) := by
  refine def_Mk F scBi (by decide) rfl fun cdv A outer s H E hr => ?_
  have nd := scBi.nd
  refine ⟨_, (pss_cons (ps_expr (pe_call G1 hr rfl H1.m H1.F.kp H1.b .nil pass0 (pa_cons (pv 1) pa_nil)))
 (pss_cons (ps_fld (pv 0) (pv 1) rfl)
 (pss_cons (ps_fld (pv 0) (pe_dc (own := [("course", 7)]) (g := (gName 7)) (tt := tYes) rfl nd (pi_tup (pv 1)) (blkOk_by (N := nBi) (sc := defScope sBi) (by decide +kernel)) (fun _ _ _ _ _ => (pg_name (i := 7) nd rfl (Or.inl rfl))) (fun _ _ _ _ _ => pts_nil) (fun _ _ _ _ _ => (pe_ix (kix_tup (K := K) rfl) (pv 7) pe_int (fun _ _ => rfl))) (fun _ _ _ _ _ => (pv 7))) rfl)
 (pss_cons (ps_fld (pv 0) pe_dnewT rfl)
 (pss_one (ps_for PassesOwn.never rfl (pi_tup (pv 1)) (pg_tup rfl (pgs_cons (pg_name (i := 2) nd rfl (Or.inl rfl)) (pgs_cons (pg_name (i := 3) nd rfl (Or.inl rfl)) (pgs_cons (pg_name (i := 4) nd rfl (Or.inl rfl)) (pgs_cons (pg_name (i := 5) nd rfl (Or.inl rfl)) pgs_nil))))) (pss_one (ps_for PassesOwn.never rfl (pi_range1 (by rfl) T.range (pa_cons (pv 3) pa_nil)) (pg_name (i := 6) nd rfl (Or.inr rfl)) (pss_cons (ps_setLc (i := 8) (own := [("at", 9), ("step", 10)]) (g := (gTup K 2 (gCons (gName 9) (gCons (gName 10) gNil)))) rfl nd rfl rfl (sw_true rfl rfl rfl (by decide +kernel)) (pi_enumT (by rfl) T.enumerate (pa_cons (pv 5) pa_nil)) (blkOk_by (N := nBi) (sc := defScope sBi) (by decide +kernel)) (fun _ _ _ _ _ => (pg_tup rfl (pgs_cons (pg_name (i := 9) nd rfl (Or.inl rfl)) (pgs_cons (pg_name (i := 10) nd rfl (Or.inl rfl)) pgs_nil)))) (fun _ _ _ _ _ => (pts_one (pt_cmpR (kop_eqD (K := K) rfl hr.units) (pe_ix (kix_tup (K := K) rfl) (pv 10) pe_int (fun _ _ => rfl)) (pv 6) (nomark _)))) (fun _ _ _ _ _ => (pv 9)))
 (pss_one (ps_asg (pe_callTy call_tuple_of (by rfl) T.tuple (by decide +kernel) (pa_cons (pv 8) pa_nil)) (pg_sub (pe_fld (pv 0) rfl) (pe_tup (pa_cons (pv 2) (pa_cons (pv 6) pa_nil))) (set_dict (hu_of hr)))))))))))))), ?_⟩
  rintro M G B x es φ ⟨cs, rfl, ok, rfl⟩ xM D fin
  show FD.Run _ _ D (x :: M) [.m x, .d (bokD cs), .u, .u, .u, .u, .u, .u, .u, .u, .u] [(x, .ins Cb [])]
  have few := ok.few
  have tot := ok.tot
  refine q_drop (e := .d .none) (x_callE0 (a_cons (x_vd rfl) a_nil) ⟨cs, rfl, rfl, rfl, ok, rfl⟩) ?_
  refine q_fset (j := 0) (x_vd rfl) (x_vm rfl) (entG_d _) rfl T.cl T.nC (by simp) ?_
  show FD.Run _ _ D (x :: M) [.m x, .d (bokD cs), .u, .u, .u, .u, .u, .u, .u, .u, .u] [(x, .ins Cb (putFG "courses" (gD (bokD cs)) []))]
  refine q_fsetN (j := 0) (x_dc (l := byN cs) (i_tup (xs := cs.map crsD) (x_vd rfl)).toN (fun _ _ _ _ _ _ => trivial) (by unfold byN; rw [List.length_map, List.length_map]) (by rw [List.length_map]; omega) (by rw [byN_keys]; exact ok.nd) fun i d q h1 h2 B' p => ?_) (fun p pM => x_vm rfl) rfl T.cl T.nB (by show 1 < 1000; decide) fun b1 b1M => ?_
  · unfold byN at h2
    rw [List.getElem?_map] at h1 h2
    cases hc : cs[i]? with
    | none => rw [hc] at h1; cases h1
    | some c =>
      rw [hc] at h1 h2
      have h1 := Option.some.inj h1
      have h2 := Option.some.inj h2
      subst h1 h2
      refine ⟨[7], _, tg_name, fun k hk => hk, x_is (x_op (x_vd rfl) x_int (o_ixT (d := .str c.nm) rfl)) rfl, x_vd rfl⟩
  show FD.Run _ _ D (b1 :: x :: M) [.m x, .d (bokD cs), .u, .u, .u, .u, .u, .u, .u, .u, .u] [(b1, .dK (kd (byN cs))), (x, .ins Cb (putFG "by_name" (gRef b1) (putFG "courses" (gD (bokD cs)) [])))]
  refine q_fsetN (j := 1) n_newT (fun p pM => x_vm rfl) rfl T.cl T.nL (by rw [flds2]; show 2 < 1000; decide) fun b2 b2M => ?_
  show FD.Run _ _ D (b2 :: b1 :: x :: M) [.m x, .d (bokD cs), .u, .u, .u, .u, .u, .u, .u, .u, .u] [(b2, .dT []), (b1, .dK (kd (byN cs))), (x, .ins Cb (putFG "leaving" (gRef b2) (putFG "by_name" (gRef b1) (putFG "courses" (gD (bokD cs)) []))))]
  rw [flds3]
  generalize hfs : ([("courses", gD (bokD cs)), ("by_name", gRef b1), ("leaving", gRef b2)] : Flds) = fs
  have lk3 : fs.lookup ("leaving" : Str) = some (gRef b2) := by rw [← hfs]; exact (lk _ _ _).2.2
  refine r_forA (l := cs) (enc := crsD) (i_tup (x_vd rfl))
    (fun i δ μ => ∃ e2 e3 e4 e5 e6 e8 : Ent, δ = [.m x, .d (bokD cs), e2, e3, e4, e5, e6, .u, e8, .u, .u] ∧ μ = [(b2, .dT (leavT (cs.take i))), (b1, .dK (kd (byN cs))), (x, .ins Cb fs)]) ⟨_, _, _, _, _, _, rfl, rfl⟩ ?_ ?_
  · rintro B' xB i c δ1 μ1 hc ⟨e2, e3, e4, e5, e6, e8, rfl, rfl⟩
    have cm := List.mem_of_getElem? hc
    have cok := ok.ok c cm
    have h20 := cok.n2
    have ls := cok.few
    refine ⟨_, _, tg_tup4, ?_⟩
    show FD.Run _ _ _ (b2 :: b1 :: x :: M) [.m x, .d (bokD cs), .d (.str c.nm), .d (.int (c.n : Int)), .d (endsD c.ends), .d (stepsD c.steps), e6, .u, e8, .u, .u] [(b2, .dT (leavT (cs.take i))), (b1, .dK (kd (byN cs))), (x, .ins Cb fs)]
    refine r_for (i_rng1 (n := (c.n : Int)) (a_cons (x_vd rfl) a_nil) (by omega) (by omega))
      (fun j δ μ => ∃ e6 e8 : Ent, δ = [.m x, .d (bokD cs), .d (.str c.nm), .d (.int (c.n : Int)), .d (endsD c.ends), .d (stepsD c.steps), e6, .u, e8, .u, .u] ∧ μ = [(b2, .dT (leavT (cs.take i) ++ leavC c j)), (b1, .dK (kd (byN cs))), (x, .ins Cb fs)]) ⟨_, _, rfl, by rw [show leavC c 0 = [] from rfl, List.append_nil]⟩ ?_ ?_
    · rintro B2 xB2 j d δ1 μ1 hd ⟨e6, e8, rfl, rfl⟩
      have hj := (List.getElem?_eq_some_iff.mp hd).1
      rw [rngD_length] at hj
      rw [rngD_get hj, Int.zero_add] at hd
      have hd := (Option.some.inj hd).symm
      subst hd
      have hjn : j < c.n := by omega
      refine ⟨_, _, tg_name, ?_⟩
      show FD.Run _ _ _ (b2 :: b1 :: x :: M) [.m x, .d (bokD cs), .d (.str c.nm), .d (.int (c.n : Int)), .d (endsD c.ends), .d (stepsD c.steps), .d (.int (j : Int)), .u, e8, .u, .u] [(b2, .dT (leavT (cs.take i) ++ leavC c j)), (b1, .dK (kd (byN cs))), (x, .ins Cb fs)]
      refine q_asg (x_lcF (l := c.steps.zipIdx) (enc := fun q => PyData.tuple [.int (q.2 : Int), stepD q.1]) (p := fun q => decide (q.1.b = j)) (f := fun q => PyData.int (q.2 : Int)) (by
          have h := i_enumT (C := { ({ ({ K := K, M0 := M, G := G, B := B } : Cfg) with B := B' } : Cfg) with B := B2 }) (xs := c.steps.map stepD) (a_cons (x_vd (M := b2 :: b1 :: x :: M) (μ := [(b2, .dT (leavT (cs.take i) ++ leavC c j)), (b1, .dK (kd (byN cs))), (x, .ins Cb fs)]) (δ := [.m x, .d (bokD cs), .d (.str c.nm), .d (.int (c.n : Int)), .d (endsD c.ends), .d (stepsD c.steps), .d (.int (j : Int)), .u, e8, .u, .u]) (i := 5) rfl) a_nil)
          rw [enumD_map] at h
          exact h) (by rw [List.length_zipIdx]; omega) (ts := [9, 10]) (fun q => [.m x, .d (bokD cs), .d (.str c.nm), .d (.int (c.n : Int)), .d (endsD c.ends), .d (stepsD c.steps), .d (.int (j : Int)), .u, e8, .d (.int (q.2 : Int)), .d (stepD q.1)]) (fun q hq => tg_tup2) (fun k hk => hk) (fun q hq G' B3 D' => ?_) (fun q hq hp G' B3 D' => x_vd rfl)) ?_
      · refine t_test (x_is (x_op (x_op (x_vd rfl) x_int (o_ixT (d := .int (q.1.b : Int)) rfl)) (x_vd rfl) (o_eqD (.d _) (.d _) ((shp_int 0 _).shaped (by decide)) ((shp_int 0 _).shaped (by decide)))) ?_)
        rw [eqv_int]
        by_cases e : q.1.b = j
        · rw [decide_eq_true e, e]; simp
        · rw [decide_eq_false e, beq_eq_false_iff_ne.mpr (by omega)]
      refine r_tput (j := 0) (k := stK (c.nm, j)) (e := .d (posD c j)) (x_is (x_cbP (a_cons (x_vd rfl) a_nil) (c_tupleL (.d _))) (by unfold posD pos; rw [List.map_map]; rfl)) (x_gref (x_fld (x_vm rfl) (.m (by simp)) T.cl T.nL lk3)) (x_tup (ds := [.str c.nm, .int (j : Int)]) (a_cons (x_vd rfl) (a_cons (x_vd rfl) a_nil)) (by simp)) (entG_d _) rfl (by
        have h1 : leavT (cs.take i) ++ leavC c j = leavT (cs.take i) ++ leavC c j := rfl
        rw [List.length_append, leavT_len]
        have := sumN_le cs i
        unfold sumN at this
        unfold leavC
        rw [List.length_map, List.length_range]; omega) ?_
      exact fun σ H o => ⟨_, _, ⟨_, _, rfl, by rw [putG_new (key_new ok.nd hc j), List.append_assoc, leavC_succ]; rfl⟩, o⟩
    · rintro δ1 μ1 ⟨e6, e8, rfl, rfl⟩
      rw [rngD_length]
      exact fun σ H o => ⟨_, _, ⟨_, _, _, _, _, _, rfl, by rw [leavT_take hc, show ((c.n : Int)).toNat = c.n by omega]⟩, o⟩
  · rintro δ1 μ1 ⟨e2, e3, e4, e5, e6, e8, rfl, rfl⟩
    rw [List.take_length]
    intro σ H' o
    refine fin _ _ _ σ H' o ?_
    have hs : Ex (hide (b2 :: b1 :: x :: M) H') (hide M H') := hide_sub fun a ha => by simp [ha]
    obtain ⟨_, _, dx, ws, q1, q2⟩ := o.mem (x, .ins Cb fs) (by simp)
    obtain ⟨_, _, ws2, r1, r2⟩ := o.mem (b2, .dT (leavT cs)) (by simp)
    obtain ⟨_, _, ws1, s1, s2⟩ := o.mem (b1, .dK (kd (byN cs))) (by simp)
    have n1 : b1 ∉ M := fun z => b1M (by simp [z])
    have n2 : b2 ∉ M := fun z => b2M (by simp [z])
    refine ⟨x, dx, ws, rfl, by rw [hide_out xM]; exact q1, ?_⟩
    rw [← hfs] at q2
    rcases q2 with _ | ⟨u1, q2⟩
    rcases q2 with _ | ⟨u2, q2⟩
    rcases q2 with _ | ⟨u3, q2⟩
    cases q2
    refine .cons ⟨u1.1, dp_mono hs _ _ u1.2⟩ (.cons ⟨u2.1, b1, ws1, u2.2, by rw [hide_out n1]; exact s1, Paired.mapP s2 fun _ _ z => ⟨z.1, z.2.mono hs⟩⟩ (.cons ⟨u3.1, b2, ws2, u3.2, by rw [hide_out n2]; exact r1, gt_mono hs r2⟩ .nil))
end
end K09
namespace K09
open PySem L2 FD Evl
def noC : Crs := ⟨"", 0, [], []⟩
/-- the course of a name -/
def crs (cs : List Crs) (x : Str) : Crs := (cs.find? fun c => decide (c.nm = x)).getD noC
theorem crs_of {cs : List Crs} (nd : (cs.map (·.nm)).Nodup) {c : Crs} (h : c ∈ cs) : crs cs c.nm = c := by
  unfold crs
  induction cs with
  | nil => cases h
  | cons a cs ih =>
    rw [List.map_cons] at nd
    obtain ⟨n1, n2⟩ := List.nodup_cons.mp nd
    rw [List.find?_cons]
    by_cases e : a.nm = c.nm
    · rw [decide_eq_true e]
      rcases List.mem_cons.mp h with h | h
      · exact h.symm
      · exact absurd (by rw [e]; exact List.mem_map_of_mem h) n1
    · rw [decide_eq_false e]
      rcases List.mem_cons.mp h with h | h
      · exact absurd (by rw [h]) e
      · exact ih n2 h
theorem crs_mem {cs : List Crs} {x : Str} (h : x ∈ cs.map (·.nm)) : crs cs x ∈ cs ∧ (crs cs x).nm = x := by
  unfold crs
  cases q : cs.find? fun c => decide (c.nm = x) with
  | none =>
    obtain ⟨c, hc, e⟩ := List.mem_map.mp h
    have := List.find?_eq_none.mp q c hc
    exact absurd (decide_eq_true e) this
  | some c =>
    have h2 := List.find?_some q
    exact ⟨List.mem_of_find?_eq_some q, of_decide_eq_true h2⟩
theorem stg_crs {cs : List Crs} {s : Stg} (h : s ∈ stages cs) : s.1 ∈ cs.map (·.nm) := by
  obtain ⟨c, hc, e, _⟩ := stages_mem.mp h
  exact List.mem_map.mpr ⟨c, hc, e⟩
theorem stg_lt {cs : List Crs} (nd : (cs.map (·.nm)).Nodup) {s : Stg} (h : s ∈ stages cs) : s.2 < (crs cs s.1).n := by
  obtain ⟨c, hc, e, l⟩ := stages_mem.mp h
  rw [← e, crs_of nd hc]; exact l
theorem valD_crs {cs : List Crs} (nd : (cs.map (·.nm)).Nodup) {x : Str} (h : x ∈ cs.map (·.nm)) : valD (byN cs) x = some (crsD (crs cs x)) := by
  obtain ⟨h1, h2⟩ := crs_mem h
  have := valD_at (l := byN cs) (p := ((crs cs x).nm, crsD (crs cs x))) (by rw [byN_keys]; exact nd) (List.mem_map.mpr ⟨_, h1, rfl⟩)
  rwa [h2] at this
theorem valG_at {l : GTab} {k : List Key} {φ : GP} (nd : (l.map (·.1)).Nodup) (h : (k, φ) ∈ l) : valG l k = some φ := by
  induction l with
  | nil => cases h
  | cons p l ih =>
    rw [List.map_cons] at nd
    obtain ⟨n1, n2⟩ := List.nodup_cons.mp nd
    rw [valG_cons]
    rcases List.mem_cons.mp h with e | h
    · rw [← e, if_pos rfl]
    · rw [if_neg fun z => n1 (by rw [z]; exact List.mem_map_of_mem (f := (·.1)) h)]
      exact ih n2 h
theorem stages_nd {cs : List Crs} (nd : (cs.map (·.nm)).Nodup) : (stages cs).Nodup := by
  unfold stages
  induction cs with
  | nil => exact List.Pairwise.nil
  | cons c cs ih =>
    rw [List.map_cons] at nd
    obtain ⟨n1, n2⟩ := List.nodup_cons.mp nd
    rw [List.flatMap_cons]
    refine List.nodup_append.mpr ⟨List.Pairwise.map _ (fun a b ne e => ne (congrArg Prod.snd e)) List.nodup_range, ih n2, fun a ha b hb e => ?_⟩
    obtain ⟨i, _, rfl⟩ := List.mem_map.mp ha
    obtain ⟨d, hd, hb⟩ := List.mem_flatMap.mp hb
    obtain ⟨j, _, rfl⟩ := List.mem_map.mp hb
    have e : c.nm = d.nm := congrArg Prod.fst e
    exact n1 (by rw [e]; exact List.mem_map_of_mem hd)
theorem keys_nd {l : List Stg} (nd : l.Nodup) : (l.map stK).Nodup := List.Pairwise.map _ (fun a b ne e => ne (stK_inj e)) nd
theorem valG_leav {cs : List Crs} (nd : (cs.map (·.nm)).Nodup) {s : Stg} (h : s ∈ stages cs) : valG (leavT cs) (stK s) = some (gD (posD (crs cs s.1) s.2)) := by
  refine valG_at (by rw [leavT_keys]; exact keys_nd (stages_nd nd)) ?_
  obtain ⟨c, hc, e, l⟩ := stages_mem.mp h
  unfold leavT leavC
  refine List.mem_flatMap.mpr ⟨c, hc, List.mem_map.mpr ⟨s.2, List.mem_range.mpr l, ?_⟩⟩
  rw [← e, crs_of nd hc]
  refine Prod.ext ?_ rfl
  show stK (c.nm, s.2) = stK s
  rw [e]
/-- the order of stages -/
def leS (a b : Stg) : Bool := leK (stK a) (stK b)
def srt (l : List Stg) : List Stg := l.mergeSort leS
theorem srt_perm (l : List Stg) : (srt l).Perm l := List.mergeSort_perm l leS
/-- the stages in order -/
def S (cs : List Crs) : List Stg := srt (stages cs)
theorem S_mem {cs : List Crs} {s : Stg} : s ∈ S cs ↔ s ∈ stages cs := (srt_perm _).mem_iff
theorem S_nd {cs : List Crs} (nd : (cs.map (·.nm)).Nodup) : (S cs).Nodup := (srt_perm _).nodup_iff.mpr (stages_nd nd)
theorem S_len (cs : List Crs) : (S cs).length = (cs.map (·.n)).sum := by
  rw [show (S cs).length = (stages cs).length from (srt_perm _).length_eq, ← leavT_len]
  have := congrArg List.length (leavT_keys cs)
  rw [List.length_map, List.length_map] at this
  exact this.symm
theorem stg_nm {cs : List Crs} (ok : BokOk cs) {s : Stg} (h : s ∈ stages cs) : Nm s.1 := by
  obtain ⟨c, hc, e, _⟩ := stages_mem.mp h
  rw [← e]; exact (ok.ok c hc).nm
def Rbs (Cb : Addr) (es : List Ent) (μ : Mem) (d : PyData) (μ' : Mem) : Prop := ∃ (cs : List Crs) (x : Str), es = [.g (gBook Cb cs), .d (.str x)] ∧ μ = [] ∧ μ' = [] ∧ BokOk cs ∧ x ∈ cs.map (·.nm) ∧ d = stepsD (crs cs x).steps
def Rbe (Cb : Addr) (es : List Ent) (μ : Mem) (d : PyData) (μ' : Mem) : Prop := ∃ (cs : List Crs) (s : Stg), es = [.g (gBook Cb cs), .d (stD s)] ∧ μ = [] ∧ μ' = [] ∧ BokOk cs ∧ s ∈ stages cs ∧ d = .bool (decide (s.2 ∈ (crs cs s.1).ends))
def Rbf (Cb : Addr) (es : List Ent) (μ : Mem) (d : PyData) (μ' : Mem) : Prop := ∃ (cs : List Crs) (s : Stg), es = [.g (gBook Cb cs), .d (stD s)] ∧ μ = [] ∧ μ' = [] ∧ BokOk cs ∧ s ∈ stages cs ∧ d = posD (crs cs s.1) s.2
def Rbg (Cb : Addr) (es : List Ent) (μ : Mem) (d : PyData) (μ' : Mem) : Prop := ∃ cs : List Crs, es = [.g (gBook Cb cs)] ∧ μ = [] ∧ μ' = [] ∧ BokOk cs ∧ d = .tuple ((S cs).map stD)
section
variable {C : Cfg} {M : List Addr} {δ : List Ent} {μ μ1 : Mem} {te : TE} {K : PySem.W.Frag} {mg : Str → Option Value} {Cb : Addr} {cs : List Crs}
theorem x_fC (T : Txt C.K mg Cb) (h : EvX C te M δ μ μ1 (.g (gBook Cb cs))) : EvX C (tFld C.K te "courses") M δ μ μ1 (.d (bokD cs)) := x_fldD h (.g _ _) T.cl T.nC (lk _ _ _).1
theorem x_fB (T : Txt C.K mg Cb) (h : EvX C te M δ μ μ1 (.g (gBook Cb cs))) : EvX C (tFld C.K te "by_name") M δ μ μ1 (.g (gDK (byN cs))) := x_fld h (.g _ _) T.cl T.nB (lk _ _ _).2.1
theorem x_fL (T : Txt C.K mg Cb) (h : EvX C te M δ μ μ1 (.g (gBook Cb cs))) : EvX C (tFld C.K te "leaving") M δ μ μ1 (.g (gDT (leavT cs))) := x_fld h (.g _ _) T.cl T.nL (lk _ _ _).2.2
end
section
variable {P : Program} {w : World} {K : PySem.W.Frag} {mg : Str → Option Value} {base : Heap} {Cb : Addr}
abbrev nBs : List Str := ["self", "course"]
theorem scBs : FnScope nBs ["self", "course"] (defScope sBs) := ⟨rfl, rfl, rfl, by decide +kernel, rfl, by decide +kernel, by decide +kernel⟩
theorem ok_bs {f : Addr} {fd : FuncData} (T : Txt K mg Cb) (F : Fun K "steps" "Book.steps" sBs f fd) : FnOk P w K mg base CX0 1 f fd ["self", "course"] (spE K 2 (Rbs Cb)) := by
  refine def_E F scBs (by decide) rfl fun cdv A outer s H E hr => ?_
  have nd := scBs.nd
  refine ⟨_, (pss_one (ps_ret (pe_ix ix_tup (pe_dget (hu_of hr) (pe_fld (pv 0) rfl) (pv 1) (fun _ _ => rfl)) pe_int (fun _ _ => rfl)))), ?_⟩
  rintro M G B es μ d μ' ⟨cs, x, rfl, rfl, rfl, ok, hx, rfl⟩ D fin
  show FD.Run _ _ D M [.g (gBook Cb cs), .d (.str x)] []
  exact r_retE (x_op (x_kget (x_fB (C := ⟨K, M, G, B⟩) T (x_vg rfl)) (x_vd rfl) (valD_crs ok.nd hx)) x_int (o_ixT rfl)) (fun p hp => hp) fin
abbrev nBe : List Str := ["self", "stage"]
theorem scBe : FnScope nBe ["self", "stage"] (defScope sBe) := ⟨rfl, rfl, rfl, by decide +kernel, rfl, by decide +kernel, by decide +kernel⟩
theorem ok_be {f : Addr} {fd : FuncData} (T : Txt K mg Cb) (F : Fun K "is_end" "Book.is_end" sBe f fd) : FnOk P w K mg base CX0 1 f fd ["self", "stage"] (spE K 2 (Rbe Cb)) := by
  refine def_E F scBe (by decide) rfl fun cdv A outer s H E hr => ?_
  have nd := scBe.nd
  refine ⟨_, (pss_one (ps_ret (pe_cmpR op_in_seq (pe_ix ix_tup (pv 1) pe_int (fun _ _ => rfl)) (pe_ix ix_tup (pe_dget (hu_of hr) (pe_fld (pv 0) rfl) (pe_ix ix_tup (pv 1) pe_int (fun _ _ => rfl)) (fun _ _ => rfl)) pe_int (fun _ _ => rfl)) (by with_unfolding_all rfl)))), ?_⟩
  rintro M G B es μ d μ' ⟨cs, s, rfl, rfl, rfl, ok, hs, rfl⟩ D fin
  show FD.Run _ _ D M [.g (gBook Cb cs), .d (stD s)] []
  rw [stD_eq]
  refine r_retE (x_is (x_op (x_op (x_vd rfl) x_int (o_ixT (d := .int (s.2 : Int)) rfl)) (x_op (x_kget (x_fB (C := ⟨K, M, G, B⟩) T (x_vg rfl)) (x_op (x_vd rfl) x_int (o_ixT (d := .str s.1) rfl)) (valD_crs ok.nd (stg_crs hs))) x_int (o_ixT (d := endsD (crs cs s.1).ends) rfl)) o_inTi) ?_) (fun p hp => hp) fin
  congr 2
  by_cases e : s.2 ∈ (crs cs s.1).ends
  · rw [decide_eq_true e, decide_eq_true (List.mem_map.mpr ⟨_, e, rfl⟩)]
  · rw [decide_eq_false e, decide_eq_false fun z => ?_]
    obtain ⟨i, hi, q⟩ := List.mem_map.mp z
    have q : i = s.2 := by omega
    exact e (q ▸ hi)
abbrev nBf : List Str := ["self", "stage"]
theorem scBf : FnScope nBf ["self", "stage"] (defScope sBf) := ⟨rfl, rfl, rfl, by decide +kernel, rfl, by decide +kernel, by decide +kernel⟩
theorem ok_bf {f : Addr} {fd : FuncData} (T : Txt K mg Cb) (F : Fun K "steps_from" "Book.steps_from" sBf f fd) : FnOk P w K mg base CX0 1 f fd ["self", "stage"] (spE K 2 (Rbf Cb)) := by
  refine def_E F scBf (by decide) rfl fun cdv A outer s H E hr => ?_
  have nd := scBf.nd
  refine ⟨_, (pss_one (ps_ret (pe_dget (hu_of hr) (pe_fld (pv 0) rfl) (pv 1) (fun _ _ => rfl)))), ?_⟩
  rintro M G B es μ d μ' ⟨cs, s, rfl, rfl, rfl, ok, hs, rfl⟩ D fin
  show FD.Run _ _ D M [.g (gBook Cb cs), .d (stD s)] []
  exact r_retE (x_tgetD (x_fL (C := ⟨K, M, G, B⟩) T (x_vg rfl)) (x_vd rfl) (.g _) (valG_leav ok.nd hs)) (fun p hp => hp) fin
abbrev nBg : List Str := ["self"]
theorem scBg : FnScope nBg ["self"] (defScope sBg) := ⟨rfl, rfl, rfl, by decide +kernel, rfl, by decide +kernel, by decide +kernel⟩
theorem one_shape (l : List Stg) : OneShape (l.map stK) := ⟨[false, true], by simp, fun k hk => by obtain ⟨s, _, rfl⟩ := List.mem_map.mp hk; rfl⟩
theorem ok_bg {f : Addr} {fd : FuncData} (T : Txt K mg Cb) (F : Fun K "stages" "Book.stages" sBg f fd) : FnOk P w K mg base CX0 1 f fd ["self"] (spE K 1 (Rbg Cb)) := by
  refine def_E F scBg (by decide) rfl fun cdv A outer s H E hr => ?_
  have nd := scBg.nd
  refine ⟨_, (pss_one (ps_ret (pe_callTy call_tuple_of (by rfl) T.tuple (by decide +kernel) (pa_cons (pe_callB (cr_sortedDat hr.units) (by rfl) T.sorted (by decide +kernel) (pa_cons (pe_callTy (call_list_dT rfl) (by rfl) T.list (by decide +kernel) (pa_cons (pe_fld (pv 0) rfl) pa_nil)) pa_nil)) pa_nil)))), ?_⟩
  rintro M G B es μ d μ' ⟨cs, rfl, rfl, rfl, ok, rfl⟩ D fin
  show FD.Run _ _ D M [.g (gBook Cb cs)] []
  refine r_retE (x_is (x_cbP (a_cons (x_cbP (a_cons (x_cbP (a_cons (x_fL (C := ⟨K, M, G, B⟩) T (x_vg rfl)) a_nil) (c_listT (.g _))) a_nil) (c_sortedDat (.d _) ?_ ?_ ?_)) a_nil) (c_tupleL (.d _))) ?_) (fun p hp => hp) fin
  · rw [leavT_keys]
    intro d hd d' hd'
    obtain ⟨k, hk, rfl⟩ := List.mem_map.mp hd
    obtain ⟨k', hk', rfl⟩ := List.mem_map.mp hd'
    obtain ⟨sh, _, h⟩ := one_shape (stages cs)
    exact alike_rows ((h k hk).trans (h k' hk').symm)
  · refine .inl fun d hd => ?_
    rw [leavT_keys] at hd
    obtain ⟨k, hk, rfl⟩ := List.mem_map.mp hd
    obtain ⟨s, _, rfl⟩ := List.mem_map.mp hk
    exact ⟨_, _, rfl⟩
  · intro d hd
    obtain ⟨k, hk, rfl⟩ := List.mem_map.mp hd
    rw [depth_row]; decide
  · rw [leavT_keys, List.map_map]
    unfold S srt
    congr 2
    rw [List.map_mergeSort (s := PySem.W.dataLe false id)]
    · rfl
    · intro a _ b _; rfl
end
end K09
namespace K09
open PySem L2 FD Evl
theorem noM (a b c : GP) {m : Str} (h1 : ¬ m = ("courses" : Str)) (h2 : ¬ m = ("by_name" : Str)) (h3 : ¬ m = ("leaving" : Str)) : ([("courses", a), ("by_name", b), ("leaving", c)] : Flds).lookup m = none := by
  rw [List.lookup_cons, show (m == ("courses" : Str)) = false from beq_eq_false_iff_ne.mpr h1]
  show List.lookup _ _ = _
  rw [List.lookup_cons, show (m == ("by_name" : Str)) = false from beq_eq_false_iff_ne.mpr h2]
  show List.lookup _ _ = _
  rw [List.lookup_cons, show (m == ("leaving" : Str)) = false from beq_eq_false_iff_ne.mpr h3]
  rfl
def partsOf (x : Str) (st : Step) : List Stg := if st.call = true then [(st.nm, 0), (x, st.e)] else [(x, st.e)]
def exL (c : Crs) (i : Nat) : List (Step × Nat) := c.steps.zipIdx.filter fun q => decide (q.1.b = i)
def lineD (x : Str) (q : Step × Nat) : PyData := .tuple [.int (q.2 : Int), stepD q.1, .tuple ((partsOf x q.1).map stD)]
def exitD (cs : List Crs) (s : Stg) : PyData := .list ((exL (crs cs s.1) s.2).map (lineD s.1))
def exT (cs : List Crs) (l : List Stg) : GTab := l.map fun s => (stK s, gD (exitD cs s))
theorem exT_keys (cs : List Crs) (l : List Stg) : (exT cs l).map (·.1) = l.map stK := by
  unfold exT
  rw [List.map_map]; rfl
theorem exL_mem {c : Crs} {i : Nat} {q : Step × Nat} (h : q ∈ exL c i) : c.steps[q.2]? = some q.1 ∧ q.1.b = i := by
  unfold exL at h
  obtain ⟨h1, h2⟩ := List.mem_filter.mp h
  obtain ⟨j, hj⟩ := List.getElem?_of_mem h1
  obtain ⟨e1, e2⟩ := zip_at hj
  exact ⟨by rw [e2]; exact e1, of_decide_eq_true h2⟩
theorem exL_len {c : Crs} {i : Nat} (h : c.steps.length < 64) : (exL c i).length < 64 := by
  unfold exL
  have := List.length_filter_le (fun q : Step × Nat => decide (q.1.b = i)) c.steps.zipIdx
  rw [List.length_zipIdx] at this
  omega
def Rpo (ds : List PyData) (d : PyData) : Prop := ∃ (s : Stg) (st : Step), ds = [stD s, stepD st] ∧ d = .tuple ((partsOf s.1 st).map stD)
def Rex (Cb : Addr) (es : List Ent) (μ : Mem) (mo : MO) (μ' : Mem) : Prop := ∃ cs : List Crs, es = [.g (gBook Cb cs)] ∧ μ = [] ∧ μ' = [] ∧ BokOk cs ∧ mo = .dT (exT cs (S cs))
section
variable {P : Program} {w : World} {K : PySem.W.Frag} {mg : Str → Option Value} {base : Heap} {Cb : Addr}
abbrev nPo : List Str := ["stage", "step", "behind"]
theorem scPo : FnScope nPo ["stage", "step"] (defScope sPo) := ⟨rfl, rfl, rfl, by decide +kernel, rfl, by decide +kernel, by decide +kernel⟩
theorem ok_po {f : Addr} {fd : FuncData} (T : Txt K mg Cb) (F : Fun K "parts_of" "parts_of" sPo f fd) : FnOk P w K mg base CX0 1 f fd ["stage", "step"] (spR K 2 Rpo) := by
  refine def_R F scPo (by decide) fun cdv A outer s H E hr => ?_
  have nd := scPo.nd
  refine ⟨_, (pss_cons (ps_set (i := 2) nd rfl (Or.inl rfl) (pe_tup (pa_cons (pe_ix ix_tup (pv 0) pe_int (fun _ _ => rfl)) (pa_cons (pe_ix ix_tup (pv 1) pe_int (fun _ _ => rfl)) pa_nil))))
 (pss_cons (ps_if (pt_cmpR (op_eqD hr.units) (pe_ix ix_tup (pv 1) pe_int (fun _ _ => rfl)) pe_str (nomark _)) (pss_one (ps_ret (pe_tup (pa_cons (pv 2) pa_nil)))) pss_nil)
 (pss_one (ps_ret (pe_tup (pa_cons (pe_tup (pa_cons (pe_ix ix_tup (pv 1) pe_int (fun _ _ => rfl)) (pa_cons pe_int pa_nil))) (pa_cons (pv 2) pa_nil))))))), ?_⟩
  rintro M G B ds d _ ⟨s, st, rfl, rfl⟩ D fin
  show FD.Run _ _ D M [.d (stD s), .d (stepD st), .u] []
  rw [stepD_eq]
  refine q_asg (e := .d (stD (s.1, st.e))) (x_tup (ds := [.str s.1, .int (st.e : Int)]) (a_cons (x_op (x_vd rfl) x_int (o_ixT (d := .str s.1) rfl)) (a_cons (x_op (x_vd rfl) x_int (o_ixT (d := .int (st.e : Int)) rfl)) a_nil)) (by simp)) ?_
  show FD.Run _ _ D M [.d (stD s), .d (.tuple [.int (st.b : Int), .str (wh st.call), .str st.nm, .int (st.e : Int)]), .d (stD (s.1, st.e))] []
  refine q_when (b := !st.call) (t_is (t_test (x_op (x_op (x_vd rfl) x_int (o_ixT (d := .str (wh st.call)) rfl)) x_str (o_eqD (.d _) (.d _) (shp_wh _) (shp_wh false)))) (by rw [eqv_str]; cases st.call <;> decide)) (fun hb => ?_) fun hb => ?_
  · have hc : st.call = false := by simpa using hb
    refine r_retP (x_is (x_tup (ds := [stD (s.1, st.e)]) (a_cons (x_vd rfl) a_nil) (by simp)) ?_) fin
    unfold partsOf
    rw [hc]; rfl
  · have hc : st.call = true := by simpa using hb
    refine r_retP (x_is (x_tup (ds := [stD (st.nm, 0), stD (s.1, st.e)]) (a_cons (x_tup (ds := [.str st.nm, .int 0]) (a_cons (x_op (x_vd rfl) x_int (o_ixT (d := .str st.nm) rfl)) (a_cons x_int a_nil)) (by simp)) (a_cons (x_vd rfl) a_nil)) (by simp)) ?_) fin
    unfold partsOf
    rw [hc]; rfl
abbrev nEx : List Str := ["book", "leaving", "stage", "steps", "k"]
theorem scEx : FnScope nEx ["book"] (defScope sEx) := ⟨rfl, rfl, rfl, by decide +kernel, rfl, by decide +kernel, by decide +kernel⟩
theorem ok_ex {f : Addr} {fd : FuncData} (T : Txt K mg Cb) (F : Fun K "exits" "exits" sEx f fd) {f1 f2 f3 f4 : Addr} {fd1 fd2 fd3 fd4 : FuncData} (H1 : Has K mg "parts_of" sPo ["stage", "step"] f1 fd1) (M2 : HasM K Cb "stages" "Book.stages" sBg ["self"] f2 fd2) (M3 : HasM K Cb "steps" "Book.steps" sBs ["self", "course"] f3 fd3) (M4 : HasM K Cb "steps_from" "Book.steps_from" sBf ["self", "stage"] f4 fd4) : FnOk P w K mg base CX0 2 f fd ["book"] (spEN K 1 (Rex Cb)) := by
  have G1 : FnOk P w K mg base CX0 1 f1 fd1 ["stage", "step"] (spR K 2 Rpo) := ok_po T H1.F
  have G2 : FnOk P w K mg base CX0 1 f2 fd2 ["self"] (spE K 1 (Rbg Cb)) := ok_bg T M2.F
  have G3 : FnOk P w K mg base CX0 1 f3 fd3 ["self", "course"] (spE K 2 (Rbs Cb)) := ok_bs T M3.F
  have G4 : FnOk P w K mg base CX0 1 f4 fd4 ["self", "stage"] (spE K 2 (Rbf Cb)) := ok_bf T M4.F
  refine def_EN F scEx (by decide) rfl fun cdv A outer s H E hr => ?_
  have nd := scEx.nd
  refine ⟨_, (pss_cons (ps_set (i := 1) nd rfl (Or.inl rfl) pe_dnewT)
 (pss_cons (ps_for PassesOwn.never rfl (pi_tup (pe_meth0 (pv 0) T.cl M2.m G2 hr M2.b .nil pass0)) (pg_name (i := 2) nd rfl (Or.inr rfl)) (pss_cons (ps_set (i := 3) nd rfl (Or.inr rfl) (pe_meth (pv 0) T.cl M3.m G3 hr M3.b .nil pass0 (pa_cons (pe_ix ix_tup (pv 2) pe_int (fun _ _ => rfl)) pa_nil)))
 (pss_one (ps_asg (pe_lc (own := [("k", 4)]) (g := (gName 4)) (tt := tYes) rfl nd (pi_tup (pe_meth (pv 0) T.cl M4.m G4 hr M4.b .nil pass0 (pa_cons (pv 2) pa_nil))) (blkOk_by (N := nEx) (sc := defScope sEx) (by decide +kernel)) (fun _ _ _ _ _ => (pg_name (i := 4) nd rfl (Or.inl rfl))) (fun _ _ _ _ _ => pts_nil) (fun _ _ _ _ _ => (pe_tup (pa_cons (pv 4) (pa_cons (pe_ix (kix_tup (K := K) rfl) (pv 3) (pv 4) (fun _ _ => rfl)) (pa_cons (pe_call G1 hr rfl H1.m H1.F.kp H1.b .nil pass0 (pa_cons (pv 2) (pa_cons (pe_ix (kix_tup (K := K) rfl) (pv 3) (pv 4) (fun _ _ => rfl)) pa_nil))) pa_nil)))))) (pg_sub (pv 1) (pv 2) (set_dict (hu_of hr)))))))
 (pss_one (ps_ret (pv 1))))), ?_⟩
  rintro M G B es μ mo μ' ⟨cs, rfl, rfl, rfl, ok, rfl⟩ D fin
  show FD.Run _ _ D M [.g (gBook Cb cs), .u, .u, .u, .u] []
  refine q_newT fun p pM => ?_
  show FD.Run _ _ D (p :: M) [.g (gBook Cb cs), .m p, .u, .u, .u] [(p, .dT [])]
  have tot := ok.tot
  have lS := S_len cs
  refine q_forA (l := S cs) (enc := stD) (i_tup (x_meth (x_vg rfl) (.g _ _) (noM _ _ _ (by decide +kernel) (by decide +kernel) (by decide +kernel)) a_nil (cX_E0 ⟨cs, rfl, rfl, rfl, ok, rfl⟩)))
    (fun i δ μ => ∃ e2 e3 : Ent, δ = [.g (gBook Cb cs), .m p, e2, e3, .u] ∧ μ = [(p, .dT (exT cs ((S cs).take i)))]) ⟨_, _, rfl, rfl⟩ ?_ ?_
  · rintro B' xB i st δ1 μ1 hst ⟨e2, e3, rfl, rfl⟩
    have sm := S_mem.mp (List.mem_of_getElem? hst)
    have ilt := (List.getElem?_eq_some_iff.mp hst).1
    obtain ⟨cm, cn⟩ := crs_mem (stg_crs sm)
    have cok := ok.ok _ cm
    have ls := exL_len (i := st.2) cok.few
    refine ⟨_, _, tg_name, ?_⟩
    show FD.Run _ _ _ (p :: M) [.g (gBook Cb cs), .m p, .d (stD st), e3, .u] [(p, .dT (exT cs ((S cs).take i)))]
    refine q_asg (x_meth (x_vg rfl) (.g _ _) (noM _ _ _ (by decide +kernel) (by decide +kernel) (by decide +kernel)) (a_cons (x_op (x_vd rfl) x_int (o_ixT (d := .str st.1) rfl)) a_nil) (cX_E0 ⟨cs, st.1, rfl, rfl, rfl, ok, stg_crs sm, rfl⟩)) ?_
    show FD.Run _ _ _ (p :: M) [.g (gBook Cb cs), .m p, .d (stD st), .d (stepsD (crs cs st.1).steps), .u] [(p, .dT (exT cs ((S cs).take i)))]
    refine r_tput (j := 0) (k := stK st) (φ := gD (exitD cs st)) (e := .d (exitD cs st)) (x_lcA (l := exL (crs cs st.1) st.2) (enc := fun q => PyData.int (q.2 : Int)) (f := lineD st.1) (i_tup (x_is (x_meth (x_vg rfl) (.g _ _) (noM _ _ _ (by decide +kernel) (by decide +kernel) (by decide +kernel)) (a_cons (x_vd rfl) a_nil) (cX_E0 ⟨cs, st, rfl, rfl, rfl, ok, sm, rfl⟩)) (by unfold posD pos exL; rw [List.map_map]; rfl))) (by omega) (ts := [4]) (fun q => [.g (gBook Cb cs), .m p, .d (stD st), .d (stepsD (crs cs st.1).steps), .d (.int (q.2 : Int))]) (fun q hq => tg_name) (fun k hk => hk) (fun q hq G' B3 D' => ?_)) (x_vm rfl) (x_vd rfl) (entG_d _) rfl (by unfold exT; rw [List.length_map, List.length_take]; omega) ?_
    · obtain ⟨q1, q2⟩ := exL_mem hq
      have at_ : atI ((crs cs st.1).steps.map stepD) (q.2 : Int) = some (stepD q.1) := atI_nat (by rw [List.getElem?_map, q1]; rfl)
      exact x_tup (ds := [.int (q.2 : Int), stepD q.1, .tuple ((partsOf st.1 q.1).map stD)]) (a_cons (x_vd rfl) (a_cons (x_op (x_vd rfl) (x_vd rfl) (o_ixT at_)) (a_cons (x_callR (ds := [stD st, stepD q.1]) (a_cons (x_vd rfl) (a_cons (x_op (x_vd rfl) (x_vd rfl) (o_ixT at_)) a_nil)) ⟨st, q.1, rfl, rfl⟩) a_nil))) (by simp)
    · refine fun σ H o => ⟨_, _, ⟨_, _, rfl, ?_⟩, o⟩
      have new : stK st ∉ (exT cs ((S cs).take i)).map (·.1) := fun z => by
        rw [exT_keys] at z
        obtain ⟨s', hs', e⟩ := List.mem_map.mp z
        have e := stK_inj e
        subst e
        obtain ⟨m, hm⟩ := List.getElem?_of_mem hs'
        have ml := (List.getElem?_eq_some_iff.mp hm).1
        rw [List.length_take] at ml
        rw [List.getElem?_take, if_pos (by omega)] at hm
        obtain ⟨l1, g1⟩ := List.getElem?_eq_some_iff.mp hm
        obtain ⟨l2, g2⟩ := List.getElem?_eq_some_iff.mp hst
        exact List.pairwise_iff_getElem.mp (S_nd ok.nd) m i l1 l2 (by omega) (g1.trans g2.symm)
      rw [putG_new new, List.take_add_one, hst]
      unfold exT
      rw [List.map_append]; rfl
  · rintro δ1 μ1 ⟨e2, e3, rfl, rfl⟩
    rw [List.take_length]
    refine r_retEN (x_vm rfl) List.mem_cons_self pM (fun q hq => absurd hq (by simp)) fin
end
end K09
namespace FD
open PySem PySem.Spec PyProof.Rows L2 Evl
/-! ### a frozen row of texts, and its count -/
def plO (o : Obj) : Prop := o.cls = .type "tuple" ∧ o.dict = none
def rTCount (K : PySem.W.Frag) : V → List V → Hp → VK → Prop := fun x xs H Q => ∃ p, ∃ ys : List Str, ∃ z, x = .ref p ∧ xs = [.str z] ∧ SqT K H p (ys.map V.str) ∧ Q (.int (ys.countP (· == z) : Nat)) H
def tTupF (t : TA) : TE := fun σ H Q => t σ H fun xs H1 => xs.length ≤ sizeLine ∧ ∀ p o, plO o → H1 p = none → Q (.ref p) (upd H1 p (.frz o (.tup xs)))
def tBMt (K : PySem.W.Frag) (r : V → List V → Hp → VK → Prop) (to : TE) (t : TA) : TE := fun σ H Q => to σ H fun x H1 => (∃ p o ys, x = .ref p ∧ H1 p = some (.frz o (.tup ys)) ∧ plO o) ∧ t σ H1 fun xs H2 => r x xs H2 Q
section
variable {X : Cx}
theorem flat_strs' (ys : List Str) : (ys.map V.str).all flatV = true := by
  rw [List.all_map, List.all_eq_true]; exact fun _ _ => rfl
theorem countU {z : Str} : ∀ {ys : List Str} {its : List Value}, Vals (ys.map V.str) its → its.countP (eqU (.str z)) = ys.countP (· == z)
  | [], _, .nil => rfl
  | y :: ys, _, .cons (b := u) (l₂ := us) h t => by
    obtain ⟨t', e⟩ := (show ∃ t', u = Value.str y t' from h)
    have e1 : eqU (.str z) u = (y == z) := by rw [e]; rfl
    rw [List.countP_cons, List.countP_cons, e1, countU t]
theorem mt_tcount : MtR X "tuple.count" (rTCount X.K) := by
  intro pins s σ H x xs v us Q I rx rs h
  obtain ⟨p, ys, z, rfl, rfl, hq, q⟩ := h
  cases rx
  obtain ⟨u, rfl, t, rfl⟩ := vals1 rs
  obtain ⟨its, r, pl, hz⟩ := I.tuple hq
  obtain ⟨⟨cls, dd, dt, sl⟩, ho, hc, n, hd⟩ := pl
  simp only at hc hd
  subst hc
  subst hd
  refine call_meets PySem.F.slot_tuple_count ⟨_, ho, rfl⟩ PySem.F.entry_tuple_count (PySem.F.args_tuple_count_2 _ _) (PySem.SeqAt.tuple_countAt p its.toArray n dd sl (.str z t) (eqU (.str z)))
    ⟨ho, fun w hw => mem_eqAt (x := .str z) ⟨t, rfl⟩ rfl r (flat_strs' ys) w (by simpa using hw), ⟨.int (ys.countP (· == z) : Nat), H, I.tok _, ⟨s.toks, ?_⟩, q⟩⟩
  rw [← countU r]
theorem pe_tupF {es : List Expr} {t : TA} {pos : Pos} {x1} (h : PA X es t) : PE X (.Tuple es x1 pos) (tTupF t) := by
  refine ⟨fun pins s σ H Q I hq => ?_⟩
  refine wpAny_Tuple_spliced (thn (h.run pos pins s σ H _ I hq) fun us s1 ⟨xs, H1, I1, r, z, q⟩ => ⟨by rw [← r.length]; exact z, ?_⟩)
  have hf : H1 s1.heap.objs.size = none := I1.hok.fresh (Nat.le_refl _)
  refine ⟨.ref s1.heap.objs.size, _, I1.laid (t' := s1.toks) (o := .frz { cls := .type "tuple", data := .seq us.toArray } (.tup xs)) (fun b u e => Heap.get?_push_of_some _ e) (Nat.le_refl _) ?_, rfl, q _ _ ⟨rfl, rfl⟩ hf⟩
  exact ⟨Heap.get?_push_size _ rfl, z, us, r, IsTup.new _ _⟩
section
variable {name : Str} {id : String} {r : V → List V → Hp → VK → Prop} {o e : Expr} {es : List Expr} {to : TE} {t : TA} {apos cpos : Pos}
theorem pe_bmt (pa : PlainAttrs "tuple") (slot : Slot "tuple" name id) (hty : typeOf (.builtin id) = pure (.type "method_descriptor")) (hm : MtR X id r) (ho : PE X o to) (ha : PA X (e :: es) t)
    (hbase : attributeBase o name X.env (eval o X.env) = eval o X.env := by rfl)
    (hfew : ((backTo cpos (starEach (e :: es) X.env)).all (fun x => !x.1) && (backToKw cpos (keywordEach [] X.env)).all (fun x => x.1.isSome)
      && decide ((e :: es).length + ([] : List Keyword).length + (if ([] : List Keyword).isEmpty then 0 else 1) < 30)) = true := by rfl)
    (hline : (apos.endLine == cpos.line) = true := by rfl) (hs : starEach (e :: es) X.env = (false, eval e X.env) :: starEach es X.env := by rfl) (hpl : (backTo cpos (starEach es X.env)).any (·.1) = false := by rfl) :
    PE X (.Call (.Attribute o name apos) (e :: es) [] cpos) (tBMt X.K r to t) := by
  refine ⟨fun pins s σ H Q I h => ?_⟩
  refine wpAny_Call_method_late hbase hfew hline rfl (thn (ho.run pins s σ H _ I h) fun v s1 ⟨x, H1, I1, r1, ⟨p, ob, ys, ex, hp, hc, hd⟩, q1⟩ => ?_)
  have hob : s1.heap.get? p = some ob := (show ObjOk X.prog X.w H1 s1.heap p (.frz ob (.tup ys)) from I1.hok p _ hp).1
  have rv : v = .ref p := by rw [ex] at r1; exact r1
  refine ⟨"tuple", id, pa, slot, hty, by rw [rv]; exact ⟨ob, hob, hc⟩, fun a z => ?_, ?_⟩
  · rw [rv] at z
    cases z
    exact ⟨ob, hob, hd⟩
  · have hA := ha.run cpos pins s1 σ H1 _ I1 q1
    rw [hs] at hA ⊢
    refine Calls.callWith_builtin (by show (false || (backTo cpos (starEach es X.env)).any (·.1)) = false; rw [hpl] <;> rfl) (Calls.evalArgs_plain ?_)
    exact thn hA fun us s2 ⟨vs, H2, I2, r2, q2⟩ => hm pins s2 σ H2 x vs v us Q I2 r1 r2 q2
end
end
/-- such a row -/
def gFT (ys : List Str) : GP := ⟨fun _ H v => ∃ p o, v = .ref p ∧ H p = some (.frz o (.tup (ys.map V.str))) ∧ plO o, fun _ _ _ _ x h => let ⟨p, o, e1, e2, e3⟩ := h; ⟨p, o, e1, x p _ e2, e3⟩⟩
/-- a tuple of any values -/
def gTp (φs : List GP) : GP := ⟨fun K H v => ∃ a vs, v = .ref a ∧ H a = some (.tup vs) ∧ Paired (fun (w : V) (φ : GP) => φ.p K H w) vs φs, fun K _ _ _ x h => let ⟨a, vs, e1, e2, e3⟩ := h; ⟨a, vs, e1, x a _ e2, Paired.mapP e3 fun _ φ z => φ.mono _ _ _ _ x z⟩⟩
/-- what an entry is of a predicate -/
def GE (φ : GP) (e : Ent) : Prop := ∀ (K : PySem.W.Frag) (Hh : Hp) (v : V), φ.p K Hh v → EntOk K Hh e v
theorem ge_g (φ : GP) : GE φ (.g φ) := fun _ _ _ h => h
theorem ge_d (d : PyData) : GE (gD d) (.d d) := fun _ _ _ h => h
theorem ge_m (a : Addr) : GE (gRef a) (.m a) := fun _ _ _ h => h
section
variable {C : Cfg} {M : List Addr} {δ δ' : List Ent} {μ μ1 μ2 μ3 : Mem} {ta tb te td ty : TE} {a b p : Addr} {d : PyData} {e e1 e2 e3 e4 : Ent} {tr : TA} {D : Ends} {t2 ts : TS} {i j m n : Nat} {φ φ1 φ2 φ3 φ4 : GP} {φs : List GP} {es : List Ent} {mo : MO} {ds : List PyData} {ys zs : List Str} {l : Dct} {k k1 k2 : Str}
theorem ok_frzT' {σ : L2.St} {H : Hp} (o : Ok C M δ μ σ H) {p : Addr} {ob : Obj} {h1 : HO} (hp : H p = none) :
    Ok C M δ μ σ (upd H p (.frz ob h1)) ∧ Ex (hide M H) (hide M (upd H p (.frz ob h1))) := by
  have e : Ex H (upd H p (.frz ob h1)) := Ex.new hp
  exact ⟨o.grow e, hide_ex e⟩
theorem x_tupF (h : EvA C tr M δ μ μ1 (ys.map fun x => Ent.d (.str x))) (hl : ys.length ≤ 100000) : EvX C (tTupF tr) M δ μ μ1 (.g (gFT ys)) := fun σ H o Q kk => h σ H o _ fun vs H1 o1 x1 r1 => by
  have e : vs = ys.map V.str := by
    have : (ys.map fun x => Ent.d (.str x)) = (ys.map PyData.str).map Ent.d := by rw [List.map_map]; rfl
    rw [this] at r1
    exact DpAll.strs (dpAll_of r1)
  subst e
  refine ⟨by rw [List.length_map]; exact sz_of hl, fun p ob po hp => ?_⟩
  obtain ⟨o', x'⟩ := ok_frzT' (ob := ob) (h1 := .tup (ys.map V.str)) o1 hp
  exact kk _ _ o' (x1.trans x') ⟨p, ob, rfl, by rw [hide_out (o1.fresh hp)]; exact upd_same, po⟩
theorem x_tcount (hx : EvX C ta M δ μ μ1 (.g (gFT ys))) (h : EvX C te M δ μ1 μ2 (.d (.str k))) : EvX C (tBMt C.K (rTCount C.K) ta (tCons te tNil)) M δ μ μ2 (.d (.int ((ys.countP (· == k) : Nat) : Int))) := fun σ H o Q kk => hx σ H o _ fun v H1 o1 x1 r1 => by
  obtain ⟨p, ob, e1, e2, po⟩ := r1
  refine ⟨⟨p, ob, _, e1, (hide_some e2).2, po⟩, ?_⟩
  refine h σ H1 o1 _ fun u H2 o2 x2 r2 => ?_
  exact ⟨p, ys, k, e1, by rw [Dp.str_of r2], .inl (.inr ⟨ob, (hide_some (x2 _ _ e2)).2⟩), kk _ H2 o2 (x1.trans x2) (.int _)⟩
/-! ### new objects that nobody changes any more -/
theorem x_newG (h : EvN C te M δ μ μ1 mo) (hφ : ∀ (H : Hp) (p : Addr), p ∉ M → MOok C.K (hide (p :: M) H) H p mo → φ.p C.K (hide M H) (.ref p)) : EvX C te M δ μ μ1 (.g φ) := fun σ H o Q kk => h σ H o _ fun p H1 pM o1 x1 => by
  have s1 : ∀ a ∈ M, a ∈ p :: M := fun a ha => List.mem_cons_of_mem _ ha
  have nd := List.nodup_cons.mp o1.nd
  have o2 : Ok C (p :: M) δ μ1 σ H1 := o1.mems (fun q hq => List.mem_cons_of_mem _ hq) nd.2
  have o3 : Ok C M δ μ1 σ H1 := o2.drop s1 (fun q hq => (List.mem_cons.mp (o2.mem q hq).1).elim (fun z => absurd (List.mem_map.mpr ⟨q, hq, z⟩) nd.1) id) o.sub
  obtain ⟨_, _, q⟩ := o1.mem _ List.mem_cons_self
  exact kk _ H1 o3 (x1.trans (hide_sub s1)) (hφ H1 p pM q)
theorem x_newT {l : GTab} (h : EvN C te M δ μ μ1 (.dT l)) : EvX C te M δ μ μ1 (.g (gDT l)) := x_newG h fun H p pM ⟨ws, q1, q2⟩ => ⟨p, ws, rfl, by rw [hide_out pM]; exact q1, gt_mono (hide_sub fun a ha => List.mem_cons_of_mem _ ha) q2⟩
theorem Ok.settleG {σ : L2.St} {H : Hp} (o : Ok C (p :: M) δ ((p, mo) :: μ) σ H) (pM : p ∉ M) (h0 : ∀ a ∈ C.M0, a ∈ M) (hi : δ[i]? = some (.m p)) (hφ : MOok C.K (hide (p :: M) H) H p mo → φ.p C.K (hide M H) (.ref p)) : Ok C M (δ.set i (.g φ)) μ σ H := by
  have nd : p ∉ μ.map (·.1) ∧ (μ.map (·.1)).Nodup := List.nodup_cons.mp o.nd
  have o1 : Ok C (p :: M) δ μ σ H := o.mems (fun q hq => List.mem_cons_of_mem _ hq) nd.2
  have o2 : Ok C M δ μ σ H := o1.drop (fun a ha => List.mem_cons_of_mem _ ha) (fun q hq => (List.mem_cons.mp (o.mem q (List.mem_cons_of_mem _ hq)).1).elim (fun z => absurd (List.mem_map.mpr ⟨q, hq, z⟩) nd.1) id) h0
  obtain ⟨_, _, q⟩ := o.mem _ List.mem_cons_self
  obtain ⟨v, hv, ev⟩ := o.slot i _ hi (fun z => nomatch z)
  have ev : v = .ref p := ev
  subst ev
  have dp : EntOk C.K (hide M H) (.g φ) (.ref p) := hφ q
  have o3 := o2.set i dp
  have e : σ.set i (some (.ref p)) = σ := by
    refine List.ext_getElem? fun j => ?_
    by_cases ej : i = j
    · subst ej
      rw [List.getElem?_set_self (List.getElem?_eq_some_iff.mp hv).1, hv]
    · rw [List.getElem?_set_ne ej]
  rwa [e] at o3
theorem run_settleK (pM : p ∉ M) (h0 : ∀ a ∈ C.M0, a ∈ M) (hi : δ[i]? = some (.m p)) (h : FD.Run C ts D M (δ.set i (.g (gDK l))) μ) : FD.Run C ts D (p :: M) δ ((p, .dK (kd l)) :: μ) := fun σ H o => h σ H (o.settleG pM h0 hi fun ⟨ws, q1, q2⟩ => ⟨p, ws, rfl, by rw [hide_out pM]; exact q1, Paired.mapP q2 fun _ _ z => ⟨z.1, z.2.mono (hide_sub fun a ha => List.mem_cons_of_mem _ ha)⟩⟩)
/-! ### tuples of any values -/
theorem paired_G {K : PySem.W.Frag} {H H' : Hp} (x : Ex H H') {es : List Ent} {φs : List GP} (hg : Paired EntG es φs) : ∀ {vs : List V}, Paired (EntOk K H) es vs → Paired (fun (w : V) (φ : GP) => φ.p K H' w) vs φs := by
  induction hg with
  | nil => intro vs h; cases h; exact .nil
  | cons h _ ih =>
    intro vs r
    cases r with
    | cons r1 r2 => exact .cons (GP.mono _ _ _ _ _ x (h _ _ _ r1)) (ih r2)
theorem x_tupG (h : EvA C tr M δ μ μ1 es) (hg : Paired EntG es φs) (hl : es.length ≤ 100000) : EvX C (tTup tr) M δ μ μ1 (.g (gTp φs)) := fun σ H o Q kk =>
  h σ H o _ fun vs H1 o1 x1 r1 => ⟨by rw [← paired_len r1]; exact sz_of hl, fun p hp => by
    have e : Ex H1 (upd H1 p (.tup vs)) := Ex.new hp
    exact kk _ _ (o1.grow e) (x1.trans (hide_ex e)) ⟨p, vs, rfl, by rw [hide_out (o1.fresh hp)]; exact upd_same, paired_G (hide_ex e) hg r1⟩⟩
theorem pair_get {α β : Type} {F : α → β → Prop} {as : List α} {bs : List β} (h : Paired F as bs) : ∀ {j : Nat} {y : β}, bs[j]? = some y → ∃ x, as[j]? = some x ∧ F x y := by
  induction h with
  | nil => intro j y e; cases e
  | cons r _ ih =>
    intro j y e
    cases j with
    | zero => exact ⟨_, rfl, by have e := Option.some.inj e; rw [← e]; exact r⟩
    | succ j => exact ih (j := j) e
theorem atI_pair {α β : Type} {F : α → β → Prop} {as : List α} {bs : List β} (h : Paired F as bs) {i : Int} {y : β} (ha : atI bs i = some y) : ∃ x, atI as i = some x ∧ F x y := by
  unfold atI at ha ⊢
  rw [paired_len h]
  cases q : ixN bs.length i with
  | none => rw [q] at ha; cases ha
  | some j =>
    rw [q] at ha
    exact pair_get h ha
theorem o_ixG {z : Int} (ha : atI φs z = some φ) : OpX C (rIxT C.K) M δ μ μ (.g (gTp φs)) (.d (.int z)) (.g φ) := fun σ H x y o h1 h2 Q kk => by
  obtain ⟨a, vs, q1, q2, q3⟩ := h1
  obtain ⟨v, hv, hp⟩ := atI_pair q3 ha
  exact ⟨a, vs, z, v, q1, Dp.int_of h2, .inl (.inl ((hide_some q2).2)), hv, kk _ H o (Ex.refl _) hp⟩
theorem q_asgG4 {i j m n : Nat} (h : EvX C te M δ μ μ1 (.g (gTp [φ1, φ2, φ3, φ4]))) (g1 : GE φ1 e1) (g2 : GE φ2 e2) (g3 : GE φ3 e3) (g4 : GE φ4 e4) (kk : Run C t2 D M ((((δ.set i e1).set j e2).set m e3).set n e4) μ1) :
    Run C (tSeq (tAsg te (gTup C.K 4 (gCons (gName i) (gCons (gName j) (gCons (gName m) (gCons (gName n) gNil)))))) t2) D M δ μ := fun σ H o => h σ H o _ fun v H1 o1 x1 r1 => by
  obtain ⟨a, vs, q1, q2, q3⟩ := r1
  rcases q3 with _ | ⟨h1, q3⟩
  rcases q3 with _ | ⟨h2, q3⟩
  rcases q3 with _ | ⟨h3, q3⟩
  rcases q3 with _ | ⟨h4, q3⟩
  cases q3
  exact ⟨a, _, q1, .inl (.inl ((hide_some q2).2)), rfl, _, _, rfl, _, _, rfl, _, _, rfl, _, _, rfl, rfl, kk _ _ ((((o1.set i (e := e1) (g1 _ _ _ h1)).set j (e := e2) (g2 _ _ _ h2)).set m (e := e3) (g3 _ _ _ h3)).set n (e := e4) (g4 _ _ _ h4))⟩
/-- x, y = {}, {} -/
theorem q_twoD (kk : ∀ p q, p ∉ M → q ∉ p :: M → Run C t2 D (q :: p :: M) ((δ.set i (.m p)).set j (.m q)) ((q, .dK (kd [])) :: (p, .dK (kd [])) :: μ)) :
    Run C (tSeq (tAsg (tTup (tCons tDNewK (tCons tDNewK tNil))) (gTup C.K 2 (gCons (gName i) (gCons (gName j) gNil)))) t2) D M δ μ := fun σ H o => fun p hp => by
  have o1 := o.new hp (mo := .dK (kd [])) (ho := .dK []) ⟨[], upd_same, .nil⟩
  intro q hq
  have o2 := o1.new hq (mo := .dK (kd [])) (ho := .dK []) ⟨[], upd_same, .nil⟩
  refine ⟨by show 2 ≤ sizeLine; rw [sizeLine_eq]; omega, fun r hr => ?_⟩
  have e : Ex (upd (upd H p (.dK [])) q (.dK [])) (upd (upd (upd H p (.dK [])) q (.dK [])) r (.tup [.ref p, .ref q])) := Ex.new hr
  exact ⟨r, _, rfl, .inl (.inl upd_same), rfl, _, _, rfl, _, _, rfl, rfl, kk p q (o.fresh hp) (o1.fresh hq) _ _ (((o2.grow e).set i (e := .m p) rfl).set j (e := .m q) rfl)⟩
/-- d[k], e[k] = a pair of values -/
theorem r_twoPut {d1 d2 : PyData} {l1 l2 : Dct} {a b : Addr} (h : EvX C te M δ μ μ1 (.d (.tuple [d1, d2]))) (ha : δ[i]? = some (.m a)) (hb : δ[j]? = some (.m b)) (hk : δ[n]? = some (.d (.str k))) (h1 : μ1[m]? = some (a, .dK (kd l1))) (z1 : l1.length < 1000) {m2 : Nat} (h2 : μ1[m2]? = some (b, .dK (kd l2))) (z2 : l2.length < 1000) (ne : m ≠ m2)
    (kk : Nx C D M δ ((μ1.set m (a, .dK (kd (putDc l1 k d1)))).set m2 (b, .dK (kd (putDc l2 k d2))))) : Run C (tAsg te (gTup C.K 2 (gCons (gSub (tVar i) (tVar n) rSetD) (gCons (gSub (tVar j) (tVar n) rSetD) gNil)))) D M δ μ := fun σ H o => h σ H o _ fun v H1 o1 x1 r1 => by
  obtain ⟨t, vs, q1, q2, q3⟩ := Dp.tupH_of r1
  rcases q3 with _ | ⟨r1, q3⟩
  rcases q3 with _ | ⟨r2, q3⟩
  cases q3
  rename_i v1 v2
  refine ⟨t, _, q1, .inl (.inl ((hide_some q2).2)), rfl, _, _, rfl, ?_⟩
  obtain ⟨x, hx, ex⟩ := o1.slot i _ ha (fun z => nomatch z)
  obtain ⟨y, hy, ey⟩ := o1.slot n _ hk (fun z => nomatch z)
  obtain ⟨z, hz, ez⟩ := o1.slot j _ hb (fun z => nomatch z)
  have ex : x = .ref a := ex
  have ez : z = .ref b := ez
  have ey : y = .str k := Dp.str_of ey
  subst ex; subst ez; subst ey
  obtain ⟨_, _, ws, w1, w2⟩ := o1.mem _ (List.mem_of_getElem? h1)
  have o2 := o1.write h1 (mo' := .dK (kd (putDc l1 k d1))) (ho := .dK (putK ws (.inr k) v1)) ⟨_, upd_same, dc_put w2 r1⟩
  have hj2 : (μ1.set m (a, .dK (kd (putDc l1 k d1))))[m2]? = some (b, .dK (kd l2)) := by rw [List.getElem?_set_ne ne]; exact h2
  obtain ⟨_, _, ws2, w3, w4⟩ := o2.mem _ (List.mem_of_getElem? hj2)
  have aM := (o1.mem _ (List.mem_of_getElem? h1)).1
  have back : Ex (hide M H1) (hide M (upd H1 a (.dK (putK ws (.inr k) v1)))) := by rw [hide_upd aM (by rw [w1]; rfl) rfl]; exact Ex.refl _
  refine ⟨_, hx, _, hy, a, _, rfl, .inl ⟨ws, .inr k, w1, rfl, sz_lt (by rw [dc_len w2]; omega), rfl⟩, _, _, rfl, _, hz, _, hy, b, _, rfl, .inl ⟨ws2, .inr k, w3, rfl, sz_lt (by rw [dc_len w4]; omega), rfl⟩, rfl, ?_⟩
  exact kk _ _ (o2.write hj2 ⟨_, upd_same, dc_put w4 (EntOk.mono (e := .d d2) back r2)⟩)
/-! ### t < u of pairs, len of a dict with tuple keys, x.index(k) -/
theorem o_ltI {ns ms : List Int} : OpX C (rLtT C.K) M δ μ μ (.d (.tuple (ns.map .int))) (.d (.tuple (ms.map .int))) (.d (.bool (HT.lexLt ns ms))) := fun σ H x y o h1 h2 Q kk => by
  obtain ⟨a, vs, q1, q2, q3⟩ := Dp.tup_of h1
  obtain ⟨b, ws, r1, r2, r3⟩ := Dp.tup_of h2
  rw [DpAll.ints q3] at q2
  rw [DpAll.ints r3] at r2
  exact ⟨a, b, ns, ms, q1, r1, ex_t hide_le q2, ex_t hide_le r2, kk _ H o (Ex.refl _) (.bl _)⟩
theorem lex_pair (a b c d : Nat) : HT.lexLt [(a : Int), (b : Int)] [(c : Int), (d : Int)] = CK.clt (a, b) (c, d) := by
  unfold HT.lexLt HT.lexLt HT.lexLt CK.clt
  by_cases e : (a : Int) = c
  · rw [if_pos e]
    by_cases f : (b : Int) = d
    · rw [if_pos f]
      exact (decide_eq_false (by omega)).symm
    · rw [if_neg f]
      exact decide_eq_decide.mpr (by show (b : Int) < d ↔ a < c ∨ a = c ∧ b < d; omega)
  · rw [if_neg e]
    exact decide_eq_decide.mpr (by show (a : Int) < c ↔ a < c ∨ a = c ∧ b < d; omega)
theorem c_lenDT {l : GTab} (hm : (a, .dT l) ∈ μ) : CallX C rLenT M δ μ μ [.m a] (.d (.int (l.length : Int))) := fun σ H vs o h Q kk => by
  obtain ⟨v, rfl, q⟩ := p1 h
  obtain ⟨_, _, ws, q3, q4⟩ := o.mem _ hm
  refine ⟨a, ws, by rw [show v = .ref a from q], q3, ?_⟩
  rw [gt_len q4]
  exact kk _ H o (Ex.refl _) (.int _)
theorem x_lindex (hx : EvX C ta M δ μ μ1 (.d (.list (zs.map .str)))) (h : EvX C te M δ μ1 μ2 (.d (.str k))) {j : Nat} (hj : zs[j]? = some k) (no : ∀ m, m < j → zs[m]? ≠ some k) : EvX C (tBM C.K "list" (rIndex C.K) ta (tCons te tNil)) M δ μ μ2 (.d (.int (j : Int))) := fun σ H o Q kk => hx σ H o _ fun v H1 o1 x1 r1 => by
  obtain ⟨a, vs, q1, q2, q3⟩ := Dp.lst_of r1
  rw [DpAll.strs q3] at q2
  subst q1
  refine ⟨.inl ⟨rfl, _, ex_l hide_le q2⟩, ?_⟩
  refine h σ H1 o1 _ fun u H2 o2 x2 r2 => ?_
  refine ⟨a, zs.map V.str, .str k, j, .str k, rfl, by rw [Dp.str_of r2], ex_l hide_le (ex_l x2 q2), rfl, flat_strs' zs, by rw [List.getElem?_map, hj]; rfl, (beq_self_eq_true k : (k == k) = true), fun m z' hm hz => ?_, kk _ H2 o2 (x1.trans x2) (.int _)⟩
  rw [List.getElem?_map] at hz
  cases hq : zs[m]? with
  | none => rw [hq] at hz; cases hz
  | some y =>
    rw [hq] at hz
    have hz := Option.some.inj hz
    subst hz
    exact beq_eq_false_iff_ne.mpr fun e => no m hm (by rw [hq]; exact congrArg some e)
end
end FD
namespace FD
open PySem L2 Evl
theorem c_allb {C : Cfg} {M : List Addr} {δ : List Ent} {μ : Mem} {bs : List Bool} {ds : List PyData} (h : ds = bs.map .bool) : CallX C (rAll C.K) M δ μ μ [.d (.list ds)] (.d (.bool (bs.all id))) := by
  subst h; exact c_all (.d _)
theorem c_anyb {C : Cfg} {M : List Addr} {δ : List Ent} {μ : Mem} {bs : List Bool} {ds : List PyData} (h : ds = bs.map .bool) : CallX C (rAny C.K) M δ μ μ [.d (.list ds)] (.d (.bool (bs.any id))) := by
  subst h; exact c_any (.d _)
end FD
namespace K09
open PySem L2 FD Evl
theorem parts_len (x : Str) (st : Step) : (partsOf x st).length ≤ 2 := by
  unfold partsOf
  split <;> simp
theorem parts_mem {cs : List Crs} (ok : BokOk cs) {s : Stg} (hs : s ∈ stages cs) {q : Step × Nat} (hq : q ∈ exL (crs cs s.1) s.2) {p : Stg} (hp : p ∈ partsOf s.1 q.1) : p ∈ stages cs := by
  obtain ⟨cm, cn⟩ := crs_mem (stg_crs hs)
  have cok := ok.ok _ cm
  obtain ⟨h1, h2⟩ := exL_mem hq
  have sm := List.mem_of_getElem? h1
  have hb : (s.1, q.1.e) ∈ stages cs := stages_mem.mpr ⟨_, cm, cn, cok.e _ sm⟩
  unfold partsOf at hp
  by_cases hc : q.1.call = true
  · rw [if_pos hc] at hp
    simp only [List.mem_cons, List.not_mem_nil, or_false] at hp
    rcases hp with rfl | rfl
    · obtain ⟨d, hd, e⟩ := List.mem_map.mp (cok.calls _ sm hc)
      exact stages_mem.mpr ⟨d, hd, e, (ok.ok d hd).n1⟩
    · exact hb
  · rw [if_neg hc] at hp
    rw [List.mem_singleton.mp hp]; exact hb
theorem valG_ex {cs : List Crs} {l : List Stg} (nd : l.Nodup) {s : Stg} (h : s ∈ l) : valG (exT cs l) (stK s) = some (gD (exitD cs s)) :=
  valG_at (by rw [exT_keys]; exact keys_nd nd) (List.mem_map.mpr ⟨s, h, rfl⟩)
theorem S_asc (cs : List Crs) : ((S cs).map stK).Pairwise fun a b => leK a b = true := by
  have h : (S cs).map stK = ((stages cs).map stK).mergeSort leK := by
    unfold S srt
    rw [List.map_mergeSort (s := leK)]
    intro a _ b _; rfl
  rw [h]; exact leK_asc _
/-- some of the stages, sorted -/
theorem asc_sub {cs : List Crs} (p : Stg → Bool) {L : List (List Key)} (hL : L.Pairwise fun a b => leK a b = true) (h : L.Perm (((S cs).filter p).map stK)) : L = ((S cs).filter p).map stK :=
  asc_one (fun a b => leK_anti) hL (List.Pairwise.sublist ((List.filter_sublist (p := p)).map stK) (S_asc cs)) h
/-! ### tables with stages as keys -/
def encT {α : Type} (f : α → PyData) (T : CK.Tab Stg α) : GTab := T.map fun p => (stK p.1, gD (f p.2))
theorem encT_keys {α : Type} (f : α → PyData) (T : CK.Tab Stg α) : (encT f T).map (·.1) = (T.map (·.1)).map stK := by
  unfold encT
  rw [List.map_map, List.map_map]; rfl
theorem encT_len {α : Type} (f : α → PyData) (T : CK.Tab Stg α) : (encT f T).length = T.length := List.length_map _
theorem valG_enc {α : Type} (f : α → PyData) (T : CK.Tab Stg α) (s : Stg) : valG (encT f T) (stK s) = (CK.val T s).map fun v => gD (f v) := by
  induction T with
  | nil => rfl
  | cons p T ih =>
    show valG ((stK p.1, gD (f p.2)) :: encT f T) (stK s) = _
    rw [valG_cons, CK.val_cons]
    by_cases e : p.1 = s
    · rw [if_pos (congrArg stK e), if_pos e]; rfl
    · rw [if_neg fun z => e (stK_inj z), if_neg e]; exact ih
theorem isSome_enc {α : Type} (f : α → PyData) (T : CK.Tab Stg α) (s : Stg) : (valG (encT f T) (stK s)).isSome = CK.has T s := by
  rw [valG_enc, Option.isSome_map]; rfl
theorem enc_put {α : Type} (f : α → PyData) (T : CK.Tab Stg α) (s : Stg) (v : α) : putG (encT f T) (stK s) (gD (f v)) = encT f (CK.put T s v) := by
  unfold putG CK.put
  rw [isSome_enc]
  by_cases h : CK.has T s = true
  · rw [if_pos h, if_pos h]
    unfold encT
    rw [List.map_map, List.map_map]
    refine List.map_congr_left fun p _ => ?_
    show (if stK p.1 = stK s then (stK p.1, gD (f v)) else (stK p.1, gD (f p.2))) = (stK (if p.1 = s then (p.1, v) else p).1, gD (f (if p.1 = s then (p.1, v) else p).2))
    by_cases e : p.1 = s
    · rw [if_pos (congrArg stK e), if_pos e]
    · rw [if_neg fun z => e (stK_inj z), if_neg e]
  · rw [if_neg h, if_neg h]
    unfold encT
    rw [List.map_append]; rfl
/-- such a dict that nothing changes for now -/
def IsTab {α : Type} (f : α → PyData) (mo : MO) (T : CK.Tab Stg α) : Prop := mo = .dT (encT f T) ∨ ∃ od ws, mo = .fT od ws (encT f T)
theorem IsTab.td {α : Type} {f : α → PyData} {mo : MO} {T : CK.Tab Stg α} (h : IsTab f mo T) {a : Addr} {μ : Mem} (hm : (a, mo) ∈ μ) : TD μ (.m a) (encT f T) := by
  rcases h with h | ⟨od, ws, h⟩
  · subst h; exact .m hm
  · subst h; exact .f hm
/-! ### the book as lines -/
def deedOf (s : Step) : Option Str := if s.call = true then none else some s.nm
def lineOf (x : Str) (q : Step × Nat) : CK.Line Stg Str := ⟨q.2, deedOf q.1, partsOf x q.1⟩
def bk (cs : List Crs) : CK.Bk Stg Str := ⟨S cs, fun s => decide (s.2 ∈ (crs cs s.1).ends), fun s => (exL (crs cs s.1) s.2).map (lineOf s.1)⟩
def costD (c : CK.Cost) : PyData := .tuple [.int (c.1 : Int), .int (c.2 : Int)]
theorem costD_eq (c : CK.Cost) : costD c = .tuple ([(c.1 : Int), (c.2 : Int)].map .int) := rfl
def wayD : Option Nat → PyData
  | none => .tuple [.str "end"]
  | some k => .tuple [.str "step", .int (k : Int)]
end K09
/-! sorted(set(xs)), xs a list of texts -/
namespace FD
open PySem PySem.Spec L2 PyProof.Rows PySem.W PySem.Froz
section
variable {P : Program} {w : World} {A : Around} {E : Value → Shared → Prop} {s : Shared}
set_option maxHeartbeats 12000000 in
/-- set(xs), xs a list of texts -/
theorem call_setL {l : Addr} {items : Array Value} (zs : List Str) {Q : Value → Shared → Prop} (hh : A.handled = none) (hl : s.heap.IsList l items) (hit : StrsAre items.toList zs) (hb : zs.length + 1 < scanBound)
    (h : ∀ (h' : Heap) (tk : Nat) (ks : List Str), TxS P w h' s.heap.objs.size ks → (∀ y, y ∈ ks ↔ y ∈ zs) → ks.length ≤ zs.length → (∀ b o, s.heap.get? b = some o → h'.get? b = some o) → Q (.ref s.heap.objs.size) { s with heap := h', toks := tk }) :
    wpAny (model P w) A (call (.type "set") [.ref l]) Q E s := by
  have eN : items.size = zs.length := by rw [← StrsAre.length hit, Array.length_toList]
  obtain ⟨c, tl, hmro⟩ := F.called_set.mro
  have hmade := F.called_set.made
  have hsub := F.called_set.sub
  refine wpAny_call (codeAny_of_tree ?_)
  show wpAny _ _ (callAny (.type "set") _) _ _ _
  refine wpAny_pure ⟨Code.quiet_builtin _ (by decide +kernel), codeAny_builtin F.entry_type_call ?_⟩
  rw [Around.under_plain (weight_type_call_type "set" [.ref l] []) rfl]
  have h1 := F.called_set.notType
  have h2 := F.called_set.canCreate
  have hct := F.typeCall_set_1 (.ref l)
  repeat (any_goals (first | assumption | wp_step))
  generalize eS : ({ cls := .type "set", dict := none, data := .set #[] 0 (.fresh 0 0 (!w.params.followText "set-order")) } : Obj) = o0
  refine codeAny_mono (code_set_led1 (.ref l) (E := E) (Q₁ := fun obj t => obj = .ref s.heap.objs.size ∧ t = { s with heap := s.heap.push o0 }) ⟨rfl, by rw [eS]⟩) fun r t hr => ?_
  cases r with
  | error e => exact hr
  | ok fl =>
    cases fl with
    | ret obj =>
      obtain ⟨rfl, rfl⟩ := hr
      have hS : (s.heap.push o0).get? s.heap.objs.size = some o0 := Heap.get?_push_size _ (by rw [← eS]; rfl)
      have hT : Shared.TypeIs { s with heap := s.heap.push o0 } (.ref s.heap.objs.size) "set" := ⟨_, hS, by rw [← eS]⟩
      have hli := F.called_set.init.lookup
      have hbi := F.called_set.init.bind (.ref s.heap.objs.size)
      repeat (any_goals (first | assumption | wp_step))
      refine codeAny_mono (codeAny_call_builtin (R := wants (fun r s₂ => r = .none ∧ ∃ h' tk ks, s₂ = { s with heap := h', toks := tk } ∧ TxS P w h' s.heap.objs.size ks ∧ (∀ y, y ∈ ks ↔ y ∈ zs) ∧ ks.length ≤ zs.length ∧
          (∀ b o, s.heap.get? b = some o → h'.get? b = some o)) E) F.called_set.init.plain F.entry_set_init (check_set_init_1 hT ?_)) fun r₂ s₂ hr₂ => ?_
      · obtain ⟨ol, hol, hcl, nl, hdl⟩ := hl
        obtain ⟨ocls, odict, odata, oslots⟩ := ol
        simp only at hcl hdl
        subst hcl; subst hdl
        have hol' : (s.heap.push o0).get? l = some { cls := .type "list", dict := odict, data := .seq items nl, slots := oslots } := Heap.get?_push_of_some _ hol
        have hsls := F.sub_list_set
        have hslf := F.sub_list_frozenset
        have hne : (Value.type "list" == Value.type "dict") = false := by decide
        have tl1 : (s.heap.push o0).IsList l items := ⟨_, hol', rfl, nl, rfl⟩
        subst eS
        unfold Builtin.«set.__init__» noKeywords Builtin.Frozenset.updateFrom
        generalize hPI : pyIter = PI
        wp_walk
        subst hPI
        refine wpAny_pyIter_list tl1 ?_
        refine wpAny_bind (wpAny_runValue ?_)
        have ltl : l < s.heap.objs.size := Heap.lt_size hol
        have hh3 : A.in1.in1.in1.handled = none := by simp [hh]
        have eP : ∀ o : Obj, (s.heap.push o).objs.size = s.heap.objs.size + 1 := fun o => Heap.size_push ..
        have neI : l ≠ (s.heap.push { cls := .type "set", dict := none, data := .set #[] 0 (.fresh 0 0 (!w.params.followText "set-order")) }).objs.size := by rw [eP]; exact Nat.ne_of_lt (Nat.lt_succ_of_lt ltl)
        have outS : s.heap.objs.size ∉ [(s.heap.push { cls := .type "set", dict := none, data := .set #[] 0 (.fresh 0 0 (!w.params.followText "set-order")) }).objs.size, l] := by
          rw [eP]; simp only [List.mem_cons, List.not_mem_nil, or_false, not_or]
          exact ⟨Nat.ne_of_lt (Nat.lt_succ_self _), Nat.ne_of_gt ltl⟩
        have hval : ∀ (i : Nat) (v : Value), items[i]? = some v → ∃ k t, zs[i]? = some k ∧ v = .str k t := fun i v hv => by
          have hi : i < zs.length := by rw [← eN]; exact (Array.getElem?_eq_some_iff.mp hv).1
          obtain ⟨t, e⟩ := SS.strs_at hit i v (by rw [Array.getElem?_toList]; exact hv)
          refine ⟨zs[i], t, List.getElem?_eq_getElem hi, ?_⟩
          rw [e, List.getD_eq_getElem?_getD, List.getElem?_eq_getElem hi] <;> rfl
        refine ts_fill ((Walks.list hh3 _ l neI items).toS) s.heap.objs.size outS zs eN hb hval (items.size - 0) 0 _ (by omega) (Nat.zero_le _)
          ⟨⟨_, Heap.get?_push_size _ rfl, rfl, rfl⟩, (tl1.push _)⟩ ?_ ?_
        · refine ⟨[], Nat.le_refl 0, ⟨(#[], 0, .fresh 0 0 (!w.params.followText "set-order")), ?_, TxOk.nil (by rfl), List.nodup_nil, List.Pairwise.nil, ?_⟩, fun y => by simp⟩
          · refine (Heap.get?_push_of_some _ hS).trans ?_
            rfl
          · show _ ∨ (!w.params.followText "set-order") = true
            cases w.params.followText "set-order"
            · exact .inr rfl
            · exact .inl rfl
        · intro s' ks mv hl' hT' hm'
          obtain ⟨h', gg, d', tk', os'⟩ := s'
          have eg : gg = s.gens := mv.gens
          have ed : d' = s.drawn := mv.drawn
          have eo : os' = s.os := mv.os
          subst eg; subst ed; subst eo
          show wpAny _ _ _ _ _ _
          refine wpAny_pure ?_
          show wpAny _ _ (ret Value.none) _ _ _
          refine wpAny_pure ⟨rfl, h', tk', ks, rfl, hT', hm', by omega, fun b o e => ?_⟩
          have b0 : b < s.heap.objs.size := Heap.lt_size e
          have b1 : b ≠ s.heap.objs.size := Nat.ne_of_lt b0
          have b2 : b ≠ (s.heap.push { cls := .type "set", dict := none, data := .set #[] 0 (.fresh 0 0 (!w.params.followText "set-order")) }).objs.size := by rw [eP]; exact Nat.ne_of_lt (Nat.lt_succ_of_lt b0)
          exact mv.heap b o (by simp only [List.mem_cons, List.not_mem_nil, or_false, not_or]; exact ⟨b1, b2⟩) (Heap.get?_push_of_some _ (Heap.get?_push_of_some _ e))
      · cases r₂ with
        | error e => exact hr₂
        | ok fl₂ =>
          cases fl₂ with
          | ret r =>
            obtain ⟨rfl, h', tk, ks, rfl, a1, a2, a3, a4⟩ := hr₂
            repeat (any_goals (first | assumption | wp_step))
            exact h _ _ _ a1 a2 a3 a4
          | _ => exact hr₂.elim
    | _ => exact hr.elim
end
/-- sorted(set(xs)) -/
def tSSetL (K : PySem.W.Frag) (ta : TE) : TE := fun σ H Q => ta σ H fun x H1 => ∃ (l : Addr) (xs : List Str), x = .ref l ∧ SqL K H1 l (xs.map V.str) ∧ xs.length ≤ 4000 ∧ ∀ p, H1 p = none → Q (.ref p) (upd H1 p (.lst ((setT xs).map V.str)))
section
variable {X : Cx}
theorem pe_ssetL {a : Expr} {ta : TE} {p p2 q pos : Pos} (hc : X.calm = true) (hg : Gl X "sorted") (hm : X.mg "sorted" = none) (hg2 : Gl X "set") (hm2 : X.mg "set" = none) (ha : PE X a ta)
    (na : starEach [a] X.env = (false, eval a X.env) :: starEach [] X.env := by rfl) : PE X (.Call (.Name "sorted" p) [.Call (.Name "set" p2) [a] [] q] [] pos) (tSSetL X.K ta) := by
  refine ⟨fun pins s σ H Q I h => ?_⟩
  refine Call_ (ld_blt I hg hm (show _ = some (.builtin "sorted") by decide +kernel) ?_)
  refine PyProof.Rows.callWith_builtin1 (PyProof.Rows.args_cons ?_ rfl) rfl rfl
  refine Call_ (ld_blt I hg2 hm2 boot_set ?_)
  refine PyProof.Rows.callWith_type1 (PyProof.Rows.args_cons (thn (ha.run pins s σ H _ I h) fun v s1 ⟨x, H1, I1, r1, q1⟩ => PyProof.Rows.args_nil ?_) na) na rfl
  obtain ⟨l, xs, rfl, hq, h1, q1⟩ := q1
  cases r1
  obtain ⟨its, r, pl, hz⟩ := I1.list hq
  have hb : scanBound = 4096 := rfl
  refine call_setL xs (I1.ok.hd hc) pl.isList (by simpa using strsAre_of r) (by omega) fun h' tk ks hT hm' hl hk => ?_
  refine PyProof.Rows.args_nil ?_
  have I2 : Inv X pins σ H1 { s1 with heap := h', toks := tk } := I1.kept fun b o e => hk b o e
  have nk : ks.Nodup := let ⟨_, _, _, n, _⟩ := hT; n
  have ek : sortT ks = setT xs := sortT_congr (perm_of_nodup nk (onceT_nodup xs) fun y => (hm' y).trans onceT_mem.symm)
  refine sorted_setT hT (I2.ok.hd hc) (by omega) fun s2 p2 out c k2 g2 o2 hp hob hS => ?_
  rw [ek] at hS
  have hlen : ((setT xs).map V.str).length ≤ sizeLine := by rw [List.length_map, sizeLine_eq]; have := setT_len xs; omega
  have hn : H1 p2 = none := I2.hok.fresh hp
  have J : Inv X pins σ (upd H1 p2 (.lst ((setT xs).map V.str))) { ({ s1 with heap := h', toks := tk } : Shared) with heap := s2.heap, gens := s2.gens, drawn := s2.drawn, toks := s2.toks } :=
    I2.call (ch := []) (Un.laid k2 hp hn) (I2.hok.laid k2 hp ⟨hlen, out.toList, c, vals_of_strs hS, hob⟩) (by rw [g2]; exact I2.bare) (fun _ z => nomatch z)
  have e : s2 = { s1 with heap := s2.heap, gens := s2.gens, drawn := s2.drawn, toks := s2.toks } := by
    obtain ⟨x1, x2, x3, x4, x5⟩ := s2
    have o2 : x5 = s1.os := o2
    subst o2
    rfl
  rw [e]
  exact ⟨.ref p2, _, J, rfl, q1 p2 hn⟩
end
section
open Evl
variable {C : Cfg} {M : List Addr} {δ : List Ent} {μ μ1 : Mem} {ta : TE} {e : Ent}
theorem x_ssetL {zs : List Str} (h : EvX C ta M δ μ μ1 e) (r : Rdd μ1 e (.list (zs.map .str))) (hl : zs.length ≤ 4000) : EvX C (tSSetL C.K ta) M δ μ μ1 (.d (.list ((setT zs).map .str))) := fun σ H o Q kk =>
  h σ H o _ fun v H1 o1 x1 r1 => by
    obtain ⟨p, vs, e1, e2, e3⟩ := r.lst o1 r1
    refine ⟨p, zs, e1, (DpAll.strs e3) ▸ e2, hl, fun q hn => ?_⟩
    obtain ⟨o', x', d'⟩ := o1.lst hn (dp_strs (K := C.K) (H := hide M H1) (setT zs))
    exact kk _ _ o' (x1.trans x') d'
end
end FD
/-! a comprehension of two fors -/
namespace FD
open PySem L2 Evl
section
variable {C : Cfg} {M : List Addr} {δ : List Ent} {μ μ' : Mem}
theorem x_lc2F {N : Hp → Prop} {wi wi1 : TI} {g g1 : TG} {tt tt1 : TT} {te : TE} {vs vs1 : List Nat} {xs : List PyData} (b : Nat → Bool) (ys : Nat → List PyData) (b1 : Nat → Nat → Bool) (f : Nat → Nat → PyData) (hi : EvIN C wi M δ μ μ' N xs) (hN : ∀ (B : Hp) (D : Addr) (σ : L2.St) (H : Hp), Ok { C with B := B } (D :: M) δ μ' σ H → N H)
    (hz : ((List.range xs.length).map fun i => (ys i).length).sum ≤ 90000)
    (hs : ∀ (i : Nat) (d : PyData), xs[i]? = some d → ∀ (G B : Hp) (D : Addr), ∃ ts δ1, TgX C.K g ts d (wipeE δ vs) δ1 ∧ (∀ k ∈ ts, k ∈ vs) ∧ EvT { C with G := G, B := B } tt (D :: M) δ1 μ' μ' (b i) ∧
      (b i = true → EvI { C with G := G, B := B } wi1 (D :: M) δ1 μ' μ' (ys i) ∧ ∀ (j : Nat) (e : PyData), (ys i)[j]? = some e → ∃ ts1 δ2, TgX C.K g1 ts1 e (wipeE δ1 vs1) δ2 ∧ (∀ k ∈ ts1, k ∈ vs1) ∧ (∀ G B : Hp, EvT { C with G := G, B := B } tt1 (D :: M) δ2 μ' μ' (b1 i j)) ∧ (b1 i j = true → ∀ G B : Hp, EvX { C with G := G, B := B } te (D :: M) δ2 μ' μ' (.d (f i j))))) :
    EvX C (tLc2 wi g tt wi1 g1 tt1 te vs vs1) M δ μ μ' (.d (.list ((List.range xs.length).flatMap fun i => if b i = true then ((List.range (ys i).length).filter (b1 i)).map (f i) else []))) := fun σ H o Q k => by
  refine hi σ H o _ fun J H1 o1 x1 W D hD => ?_
  have oB := o1.toB
  have hDM : D ∉ M := o1.fresh hD
  have o2 : Ok { C with B := hide M H1 } (D :: M) δ μ' σ (upd H1 D (.lst [])) :=
    (oB.new hD (mo := .lst []) ⟨[], upd_same, .nil⟩).mems (fun p hp => List.mem_cons_of_mem _ hp) o1.nd
  have hSM : ∀ p ∈ μ', p.1 ∈ M := fun p hp => (o1.mem p hp).1
  have nD : ∀ p ∈ μ', p.1 ≠ D := fun p hp z => hDM (z ▸ hSM p hp)
  have gD : C.G D = none := by
    cases z : C.G D with
    | none => rfl
    | some u => have := o1.gr D u z; rw [hD] at this; cases this
  generalize hg : (fun i => if b i = true then ((List.range (ys i).length).filter (b1 i)).map (f i) else []) = gg
  have hgl : ∀ n, n ≤ xs.length → ((List.range n).flatMap gg).length ≤ ((List.range n).map fun i => (ys i).length).sum := by
    intro n
    induction n with
    | zero => intro _; simp
    | succ n ih =>
      intro hn
      rw [List.range_succ, List.flatMap_append, List.map_append, List.sum_append, List.length_append]
      have := ih (by omega)
      have e2 : ([n].flatMap gg).length ≤ (ys n).length := by
        rw [List.flatMap_singleton, ← hg]
        dsimp only
        split
        · rw [List.length_map]
          have := List.length_filter_le (b1 n) (List.range (ys n).length)
          rwa [List.length_range] at this
        · simp
      simp only [List.map_cons, List.map_nil, List.sum_cons, List.sum_nil]
      omega
  have hmono : ∀ n, n < xs.length → ((List.range n).map fun i => (ys i).length).sum + (ys n).length ≤ 90000 := by
    intro n hn
    have : ∀ m, n + 1 ≤ m → ((List.range (n + 1)).map fun i => (ys i).length).sum ≤ ((List.range m).map fun i => (ys i).length).sum := by
      intro m hm
      induction m with
      | zero => omega
      | succ m ih =>
        by_cases e : n + 1 = m + 1
        · rw [e]; exact Nat.le_refl _
        · have := ih (by omega)
          rw [List.range_succ (n := m), List.map_append, List.sum_append]
          omega
    have h1 := this xs.length (by omega)
    rw [List.range_succ, List.map_append, List.sum_append] at h1
    simp only [List.map_cons, List.map_nil, List.sum_cons, List.sum_nil] at h1
    omega
  refine ⟨fun i m H' => m = xs.length - i ∧ i ≤ xs.length ∧ Ok { C with B := hide M H1 } (D :: M) δ μ' σ H' ∧ ∃ acc, H' D = some (.lst acc) ∧ DpAll C.K (hide (D :: M) H') acc ((List.range i).flatMap gg),
    ⟨xs.length, by simp, Nat.zero_le _, o2, [], upd_same, .nil⟩, ?_⟩
  rintro i m H' ⟨rfl, hi', oi, acc, hacc, dacc⟩
  by_cases hlt : i < xs.length
  · refine .inr ⟨W.go (D :: M) i H' hlt oi.alloc oi.base (hN _ _ _ _ oi), fun H'' => Ok { C with B := hide M H1 } (D :: M) δ μ' σ H'' ∧ ∃ acc, H'' D = some (.lst acc) ∧ DpAll C.K (hide (D :: M) H'') acc ((List.range (i + 1)).flatMap gg),
      fun H'' q => ⟨xs.length - (i + 1), by omega, rfl, hlt, q⟩, fun x H2 y => ?_⟩
    obtain ⟨e2, d, hd, dx⟩ := W.yld (D :: M) i H' x H2 hlt oi.alloc oi.base (hN _ _ _ _ oi) y
    have o3 := oi.grow e2
    have o4 := o3.toG
    obtain ⟨ts, δ1, tg, hts, ht, hin⟩ := hs i d hd (hide (μ'.map (·.1)) H2) (hide M H1) D
    have hD2 : H2 D = some (.lst acc) := e2 D _ hacc
    have outD : D ∉ μ'.map (·.1) := fun z => by
      obtain ⟨r, hr, er⟩ := List.mem_map.mp z
      exact nD r hr er
    have gD2 : hide (μ'.map (·.1)) H2 D = some (.lst acc) := by rw [hide_out outD]; exact hD2
    refine tg { C with G := hide (μ'.map (·.1)) H2, B := hide M H1 } _ _ _ _ _ rfl (o4.wiped vs) dx _ fun σ2 o5 hl2 hσ2 => ⟨wipe_eq (by rw [hl2, wipe_length]) hσ2 hts, ?_⟩
    refine ht σ2 H2 o5 _ fun H3 o6 x6 => ?_
    have hlen : acc.length ≤ ((List.range i).map fun i => (ys i).length).sum := by rw [dacc.length]; exact hgl i (by omega)
    have d3 : DpAll C.K (hide (D :: M) H3) acc ((List.range i).flatMap gg) := dpAll_mono ((hide_ex e2).trans x6) _ _ dacc
    have hD3 : H3 D = some (.lst acc) := o6.gr D _ gD2
    have esucc : (List.range (i + 1)).flatMap gg = (List.range i).flatMap gg ++ gg i := by rw [List.range_succ, List.flatMap_append, List.flatMap_singleton]
    cases hb : b i with
    | false =>
      rw [if_neg Bool.false_ne_true]
      refine ⟨o3.swap (o3.ofG o6) x6, acc, hD3, ?_⟩
      rw [esucc, show gg i = [] by rw [← hg]; simp [hb], List.append_nil]
      exact d3
    | true =>
      rw [if_pos rfl]
      obtain ⟨hi1, hin1⟩ := hin hb
      refine hi1 σ2 H3 o6 _ fun J1 H4 o7 x7 W1 => ?_
      have hD4 : H4 D = some (.lst acc) := o7.gr D _ gD2
      have o7' : Ok { C with B := hide (D :: M) H4 } (D :: M) δ1 μ' σ2 H4 := (o3.ofG o7).toB
      have o8 : Ok { C with B := hide M H1 } (D :: M) δ μ' σ H4 := o3.swap (o3.ofG o7) (x6.trans x7)
      have egg : gg i = ((List.range (ys i).length).filter (b1 i)).map (f i) := by rw [← hg]; simp [hb]
      refine ⟨fun j m H' => m = (ys i).length - j ∧ j ≤ (ys i).length ∧ Ok { C with B := hide (D :: M) H4 } (D :: M) δ1 μ' σ2 H' ∧ Ok { C with B := hide M H1 } (D :: M) δ μ' σ H' ∧ ∃ acc, H' D = some (.lst acc) ∧ DpAll C.K (hide (D :: M) H') acc ((List.range i).flatMap gg ++ ((List.range j).filter (b1 i)).map (f i)),
        ⟨(ys i).length, by simp, Nat.zero_le _, o7', o8, acc, hD4, by rw [List.range_zero, List.filter_nil, List.map_nil, List.append_nil]; exact dpAll_mono x7 _ _ d3⟩, ?_⟩
      rintro j m H5 ⟨rfl, hj', oj, oj2, acc1, hacc1, dacc1⟩
      by_cases hlt1 : j < (ys i).length
      · refine .inr ⟨W1.go (D :: M) j H5 hlt1 oj.alloc oj.base, fun H'' => Ok { C with B := hide (D :: M) H4 } (D :: M) δ1 μ' σ2 H'' ∧ Ok { C with B := hide M H1 } (D :: M) δ μ' σ H'' ∧ ∃ acc, H'' D = some (.lst acc) ∧ DpAll C.K (hide (D :: M) H'') acc ((List.range i).flatMap gg ++ ((List.range (j + 1)).filter (b1 i)).map (f i)),
          fun H'' q => ⟨(ys i).length - (j + 1), by omega, rfl, hlt1, q⟩, fun x1 H6 y1 => ?_⟩
        obtain ⟨e6, e, he, dx1⟩ := W1.yld (D :: M) j H5 x1 H6 hlt1 oj.alloc oj.base y1
        have p3 := oj.grow e6
        have p4 := p3.toG
        obtain ⟨ts1, δ2, tg1, hts1, htt1, hel⟩ := hin1 j e he
        have hD6 : H6 D = some (.lst acc1) := e6 D _ hacc1
        have gD6 : hide (μ'.map (·.1)) H6 D = some (.lst acc1) := by rw [hide_out outD]; exact hD6
        refine tg1 { C with G := hide (μ'.map (·.1)) H6, B := hide (D :: M) H4 } _ _ _ _ _ rfl (p4.wiped vs1) dx1 _ fun σ3 p5 hl3 hσ3 => ⟨wipe_eq (by rw [hl3, wipe_length]) hσ3 hts1, ?_⟩
        refine htt1 _ _ σ3 H6 p5 _ fun H6' p6 x6' => ?_
        have hD6' : H6' D = some (.lst acc1) := p6.gr D _ gD6
        have pg := (oj2.grow e6)
        cases hb1 : b1 i j with
        | false =>
          rw [if_neg Bool.false_ne_true]
          have q8 : Ok { C with B := hide (D :: M) H4 } (D :: M) δ1 μ' σ2 H6' := p3.swap (p3.ofG p6) x6'
          have q9 : Ok { C with B := hide M H1 } (D :: M) δ μ' σ H6' :=
            ⟨pg.len, fun i y h1 h2 => let ⟨v, a, c⟩ := pg.slot i y h1 h2; ⟨v, a, c.mono x6'⟩, q8.mem, q8.nd, q8.alloc, q8.sub, q8.gr, pg.base.trans x6'⟩
          refine ⟨q8, q9, acc1, hD6', ?_⟩
          rw [List.range_succ, List.filter_append, show [j].filter (b1 i) = [] by rw [List.filter_cons, hb1]; rfl, List.append_nil]
          exact dpAll_mono ((hide_ex e6).trans x6') _ _ dacc1
        | true =>
          rw [if_pos rfl]
          refine hel hb1 _ _ σ3 H6' p6 _ fun v H7 p7 x7 r7 => ?_
          have x7 : Ex _ _ := x6'.trans x7
          have hD7 : H7 D = some (.lst acc1) := p7.gr D _ gD6
          have q8 : Ok { C with B := hide (D :: M) H4 } (D :: M) δ1 μ' σ2 H7 := p3.swap (p3.ofG p7) x7
          have q9 : Ok { C with B := hide M H1 } (D :: M) δ μ' σ H7 :=
            ⟨pg.len, fun i y h1 h2 => let ⟨v, a, c⟩ := pg.slot i y h1 h2; ⟨v, a, c.mono x7⟩, q8.mem, q8.nd, q8.alloc, q8.sub, q8.gr, pg.base.trans x7⟩
          have l1 : acc1.length ≤ 90000 := by
            rw [dacc1.length, List.length_append, List.length_map]
            have := hmono i hlt
            have := hgl i (by omega)
            have := List.length_filter_le (b1 i) (List.range j)
            rw [List.length_range] at this
            omega
          refine ⟨acc1, hD7, sz_lt (by omega), q8.writeH List.mem_cons_self nD gD (by rw [hD7]; rfl), q9.writeH List.mem_cons_self nD gD (by rw [hD7]; rfl), _, upd_same, ?_⟩
          rw [hide_upd List.mem_cons_self (by rw [hD7]; rfl) rfl, List.range_succ, List.filter_append, show [j].filter (b1 i) = [j] by rw [List.filter_cons, hb1]; rfl, List.map_append, ← List.append_assoc]
          exact (dpAll_mono ((hide_ex e6).trans x7) _ _ dacc1).append (.cons r7 .nil)
      · have ej : j = (ys i).length := by omega
        subst ej
        refine .inl ⟨W1.stop (D :: M) H5 oj.alloc oj.base, oj2, acc1, hacc1, ?_⟩
        rw [esucc, egg]
        exact dacc1
  · have ei : i = xs.length := by omega
    subst ei
    refine .inl ⟨W.stop (D :: M) H' oi.alloc oi.base (hN _ _ _ _ oi), ?_⟩
    have s1 : ∀ a ∈ M, a ∈ D :: M := fun a ha => List.mem_cons_of_mem _ ha
    have oE : Ok C M δ μ' σ H' := (oi.drop (M := M) s1 hSM o1.sub).reB o1.base
    have xE : Ex (hide M H) (hide M H') := x1.trans (oi.base.trans (hide_sub s1))
    subst hg
    refine k _ H' oE xE (.lst (sq_of ?_) (dpAll_mono (hide_sub s1) _ _ dacc))
    rw [hide_out hDM]; exact hacc
end
end FD
namespace FD
open PySem L2 Evl
section
variable {X : Cx} {K : PySem.W.Frag}
theorem kpi_tup {tg : Expr} {l : Expr} {tl : TE} (h : X.K = K) (hl : PE X l tl) : PI X tg l (iTup K tl) := h ▸ pi_tup hl
theorem ktcount (h : X.K = K) : MtR X "tuple.count" (rTCount K) := h ▸ mt_tcount
end
section
variable {C : Cfg} {M : List Addr} {δ : List Ent} {μ : Mem}
theorem o_notInTi {z : Int} {zs : List Int} : OpX C (rIn C.K true) M δ μ μ (.d (.int z)) (.d (.tuple (zs.map .int))) (.d (.bool (!decide (z ∈ zs)))) := fun σ H u v o h1 h2 Q k => by
  obtain ⟨p, vs, e1, e2, e3⟩ := Dp.tup_of h2
  have e := DpAll.ints e3
  subst e
  refine ⟨p, zs.map V.int, e1, .inr (ex_t hide_le e2), by rw [Dp.int_of h1]; rfl, flat_ints zs, ?_⟩
  rw [Dp.int_of h1, inV_ints]
  exact k _ H o (Ex.refl _) (.bl _)
end
theorem flat_range {α β : Type} (l : List α) (a0 : α) (G : α → List β) : (List.range l.length).flatMap (fun i => G (l.getD i a0)) = l.flatMap G := by
  have e : l = (List.range l.length).map fun i => l.getD i a0 := by
    refine List.ext_getElem? fun j => ?_
    rw [List.getElem?_map]
    by_cases hj : j < l.length
    · rw [List.getElem?_range hj, List.getElem?_eq_getElem hj]
      simp [List.getD_eq_getElem?_getD, List.getElem?_eq_getElem hj]
    · rw [List.getElem?_eq_none (by omega), List.getElem?_eq_none (by rw [List.length_range]; omega)]; rfl
  conv => rhs; rw [e]
  rw [List.flatMap_map]
theorem getD_of {α : Type} {l : List α} {i : Nat} {x a0 : α} (h : l[i]? = some x) : l.getD i a0 = x := by
  rw [List.getD_eq_getElem?_getD, h]; rfl
theorem sum_le_c {α : Type} {f : α → Nat} {c : Nat} : ∀ {l : List α}, (∀ x ∈ l, f x ≤ c) → (l.map f).sum ≤ l.length * c
  | [], _ => by simp
  | x :: l, h => by
    have h1 := h x List.mem_cons_self
    have h2 := sum_le_c (l := l) fun y hy => h y (List.mem_cons_of_mem _ hy)
    rw [List.map_cons, List.sum_cons, List.length_cons, Nat.succ_mul]; omega
theorem zip_maps {α : Type} (F G : α → PyData) (l : List α) : pairD (l.map F) (l.map G) = l.map fun x => PyData.tuple [F x, G x] := by
  unfold pairD
  induction l with
  | nil => rfl
  | cons x l ih =>
    simp only [List.map_cons, List.zip_cons_cons]
    rw [ih]
end FD
namespace K09
open PySem L2 FD Evl
/-! ### deeds -/
def deedsOf (cs : List Crs) : List Str := cs.flatMap fun c => (c.steps.filter fun s => !s.call).map (·.nm)
def deeds (cs : List Crs) : List Str := setT (deedsOf cs)
theorem deeds_nd (cs : List Crs) : (deeds cs).Nodup := setT_nodup _
theorem deeds_mem {cs : List Crs} {c : Crs} (hc : c ∈ cs) {s : Step} (hs : s ∈ c.steps) (h : s.call = false) : s.nm ∈ deeds cs :=
  setT_mem.mpr (List.mem_flatMap.mpr ⟨c, hc, List.mem_map.mpr ⟨s, List.mem_filter.mpr ⟨hs, by rw [h]; rfl⟩, rfl⟩⟩)
theorem deedsOf_len {cs : List Crs} (ok : BokOk cs) : (deedsOf cs).length ≤ 512 := by
  have h8 := ok.few
  unfold deedsOf
  rw [List.length_flatMap]
  have := sum_le_c (l := cs) (f := fun c => ((c.steps.filter fun s => !s.call).map (·.nm)).length) (c := 64) fun c hc => by
    have := (ok.ok c hc).few
    have := List.length_filter_le (fun s : Step => !s.call) c.steps
    rw [List.length_map]; omega
  have : cs.length * 64 ≤ 8 * 64 := Nat.mul_le_mul_right _ (by omega)
  omega
def strsD (l : List Str) : PyData := .tuple (l.map .str)
def wK (w : Str → Nat) (ds : List Str) : Dct := ds.map fun d => (d, .int (w d : Int))
theorem valD_wK (w : Str → Nat) {ds : List Str} {x : Str} (h : x ∈ ds) : valD (wK w ds) x = some (.int (w x : Int)) := by
  unfold wK
  induction ds with
  | nil => cases h
  | cons d ds ih =>
    rw [List.map_cons, valD_cons]
    by_cases e : d = x
    · subst e; rw [if_pos rfl]
    · rw [if_neg e]
      exact ih ((List.mem_cons.mp h).resolve_left fun z => e z.symm)
def ownS (w : Str → Nat) (st : Step) : Nat := if st.call = true then 0 else w st.nm
theorem own_line (w : Str → Nat) (x : Str) (q : Step × Nat) : CK.own w (lineOf x q) = ownS w q.1 := by
  unfold CK.own lineOf deedOf ownS
  cases q.1.call <;> rfl
def cntD (ds : List Str) (f : Str → Nat) : PyData := .tuple (ds.map fun x => .int (f x : Int))
def bestD : Option (CK.Cost × Nat) → PyData
  | none => .none
  | some v => .tuple [costD v.1, .int (v.2 : Int)]
def Rbd (Cb : Addr) (es : List Ent) (μ : Mem) (d : PyData) (μ' : Mem) : Prop := ∃ cs : List Crs, es = [.g (gBook Cb cs)] ∧ μ = [] ∧ μ' = [] ∧ BokOk cs ∧ d = strsD (deeds cs)
def Row (es : List Ent) (μ : Mem) (d : PyData) (μ' : Mem) : Prop := ∃ (w : Str → Nat) (ds : List Str) (st : Step), es = [.g (gDK (wK w ds)), .d (stepD st)] ∧ μ = [] ∧ μ' = [] ∧ (st.call = false → st.nm ∈ ds) ∧ d = .int (ownS w st : Int)
def Rsc (es : List Ent) (μ : Mem) (d : PyData) (μ' : Mem) : Prop := ∃ (w : Str → Nat) (ds : List Str) (st : Step) (ps : List Stg) (a : Addr) (mo : MO) (Tb : CK.Tab Stg CK.Cost), es = [.g (gDK (wK w ds)), .d (stepD st), .d (.tuple (ps.map stD)), .m a] ∧ μ = [(a, mo)] ∧ μ' = μ ∧
  IsTab costD mo Tb ∧ (st.call = false → st.nm ∈ ds) ∧ ps.length ≤ 2 ∧ CK.allIn Tb ps = true ∧ d = costD (ownS w st + CK.wsum Tb ps, 1 + CK.msum Tb ps)
def Rlc (es : List Ent) (μ : Mem) (d : PyData) (μ' : Mem) : Prop := ∃ (w : Str → Nat) (ds : List Str) (x : Str) (l : List (Step × Nat)) (a : Addr) (mo : MO) (Tb : CK.Tab Stg CK.Cost), es = [.g (gDK (wK w ds)), .d (.list (l.map (lineD x))), .m a] ∧ μ = [(a, mo)] ∧ μ' = μ ∧
  IsTab costD mo Tb ∧ (∀ q ∈ l, q.1.call = false → q.1.nm ∈ ds) ∧ l.length < 64 ∧ d = bestD (CK.lc w (l.map (lineOf x)) Tb)
def Rws (Cb : Addr) (es : List Ent) (μ : Mem) (d : PyData) (μ' : Mem) : Prop := ∃ (cs : List Crs) (s : Stg) (k : Nat) (st : Step), es = [.g (gBook Cb cs), .d (stD s), .d (wayD (some k))] ∧ μ = [] ∧ μ' = [] ∧ BokOk cs ∧ s ∈ stages cs ∧ (crs cs s.1).steps[k]? = some st ∧ d = stepD st
def Rwp (Cb : Addr) (es : List Ent) (μ : Mem) (d : PyData) (μ' : Mem) : Prop := ∃ (cs : List Crs) (s : Stg) (o : Option Nat) (ps : List Stg), es = [.g (gBook Cb cs), .d (stD s), .d (wayD o)] ∧ μ = [] ∧ μ' = [] ∧ BokOk cs ∧ s ∈ stages cs ∧
  ((o = none ∧ s.2 ∈ (crs cs s.1).ends ∧ ps = []) ∨ ∃ k st, o = some k ∧ (st, k) ∈ exL (crs cs s.1) s.2 ∧ ps = partsOf s.1 st) ∧ d = .tuple (ps.map stD)
def Rdc (Cb : Addr) (es : List Ent) (μ : Mem) (d : PyData) (μ' : Mem) : Prop := ∃ (cs : List Crs) (ys : List Str), es = [.g (gBook Cb cs), .g (gFT ys)] ∧ μ = [] ∧ μ' = [] ∧ BokOk cs ∧ d = cntD (deeds cs) fun x => ys.countP (· == x)
def Rad (ds : List PyData) (d : PyData) : Prop := ∃ (zs : List Str) (f g : Str → Nat), ds = [cntD zs f, cntD zs g] ∧ zs.length ≤ 600 ∧ d = cntD zs fun x => f x + g x
theorem wsum_take (Tb : CK.Tab Stg CK.Cost) {ps : List Stg} {i : Nat} {s : Stg} (h : ps[i]? = some s) : CK.wsum Tb (ps.take (i + 1)) = CK.wsum Tb (ps.take i) + (CK.g Tb s).1 := by
  unfold CK.wsum
  rw [List.take_add_one, h, List.map_append, List.sum_append]
  simp
theorem msum_take (Tb : CK.Tab Stg CK.Cost) {ps : List Stg} {i : Nat} {s : Stg} (h : ps[i]? = some s) : CK.msum Tb (ps.take (i + 1)) = CK.msum Tb (ps.take i) + (CK.g Tb s).2 := by
  unfold CK.msum
  rw [List.take_add_one, h, List.map_append, List.sum_append]
  simp
section
variable {P : Program} {w : World} {K : PySem.W.Frag} {mg : Str → Option Value} {base : Heap} {Cb : Addr}
abbrev nBd : List Str := ["self", "found", "course", "step"]
theorem scBd : FnScope nBd ["self"] (defScope sBd) := ⟨rfl, rfl, rfl, by decide +kernel, rfl, by decide +kernel, by decide +kernel⟩
theorem ok_bd {f : Addr} {fd : FuncData} (T : Txt K mg Cb) (F : Fun K "deeds" "Book.deeds" sBd f fd) : FnOk P w K mg base CX0 1 f fd ["self"] (spE K 1 (Rbd Cb)) := by
  refine def_E F scBd (by decide) rfl fun cdv A outer s H E hr => ?_
  have nd := scBd.nd
  refine ⟨_, (pss_cons (ps_setLc2 (i := 1) (own := [("course", 2), ("step", 3)]) (vs1 := [3]) (g := (gName 2)) (g1 := (gName 3)) (tt := tYes) rfl nd rfl rfl (sw_true rfl rfl rfl (by decide +kernel)) (pi_tup (pe_fld (pv 0) rfl)) (blkOk_by (N := nBd) (sc := defScope sBd) (by decide +kernel)) (by decide) (fun _ _ _ _ _ => (pg_name (i := 2) nd rfl (Or.inl rfl))) (fun _ _ _ _ _ => pts_nil) (fun _ _ _ _ _ => (kpi_tup (K := K) rfl (pe_ix (kix_tup (K := K) rfl) (pv 2) pe_int (fun _ _ => rfl)))) (fun _ _ _ _ _ => (pg_name (i := 3) nd rfl (Or.inl rfl))) (fun _ _ _ _ _ => (pts_one (pt_cmpR (kop_eqD (K := K) rfl hr.units) (pe_ix (kix_tup (K := K) rfl) (pv 3) pe_int (fun _ _ => rfl)) pe_str (nomark _)))) (fun _ _ _ _ _ => (pe_ix (kix_tup (K := K) rfl) (pv 3) pe_int (fun _ _ => rfl))))
 (pss_one (ps_ret (pe_callTy call_tuple_of (by rfl) T.tuple (by decide +kernel) (pa_cons (pe_ssetL rfl (by rfl) T.sorted (by rfl) T.set (pv 1)) pa_nil))))), ?_⟩
  rintro M G B es μ d μ' ⟨cs, rfl, rfl, rfl, ok, rfl⟩ D fin
  show FD.Run _ _ D M [.g (gBook Cb cs), .u, .u, .u] []
  have few := ok.few
  have hx : ∀ {i : Nat} {d : PyData}, (cs.map crsD)[i]? = some d → d = crsD (cs.getD i noC) ∧ cs.getD i noC ∈ cs := fun {i d} h => by
    rw [List.getElem?_map] at h
    cases q : cs[i]? with
    | none => rw [q] at h; cases h
    | some c =>
      rw [q] at h
      rw [getD_of q]
      exact ⟨(Option.some.inj h).symm, List.mem_of_getElem? q⟩
  refine q_asg (e := .d (.list ((deedsOf cs).map .str))) (x_is (x_lc2F (fun _ => true) (fun i => (cs.getD i noC).steps.map stepD) (fun i j => !((cs.getD i noC).steps.getD j ⟨0, false, "", 0⟩).call) (fun i j => .str ((cs.getD i noC).steps.getD j ⟨0, false, "", 0⟩).nm) (i_tup (x_fC (C := ⟨K, M, G, B⟩) T (x_vg rfl))).toN (fun _ _ _ _ _ => trivial) ?_ (fun i d hd G' B' D' => ?_)) ?_) ?_
  · have := sum_le_c (l := List.range (cs.map crsD).length) (f := fun i => ((cs.getD i noC).steps.map stepD).length) (c := 64) fun i hi => by
      have hi := List.mem_range.mp hi
      rw [List.length_map] at hi
      have cm : cs.getD i noC ∈ cs := by rw [getD_of (List.getElem?_eq_getElem hi)]; exact List.getElem_mem _
      have := (ok.ok _ cm).few
      rw [List.length_map]; omega
    rw [List.length_range, List.length_map] at this
    have : cs.length * 64 ≤ 8 * 64 := Nat.mul_le_mul_right _ (by omega)
    rw [List.length_map]
    omega
  · obtain ⟨e1, cm⟩ := hx hd
    refine ⟨[2], [.g (gBook Cb cs), .u, .d d, .u], tg_name, fun k hk => by simp at hk; simp [hk], t_yes, fun _ => ⟨?_, fun j e he => ?_⟩⟩
    · rw [e1]
      exact i_tup (x_op (x_vd rfl) x_int (o_ixT rfl))
    · rw [List.getElem?_map] at he
      cases q : (cs.getD i noC).steps[j]? with
      | none => rw [q] at he; cases he
      | some st =>
        rw [q] at he
        have he := (Option.some.inj he).symm
        rw [getD_of q, he]
        refine ⟨[3], [.g (gBook Cb cs), .u, .d d, .d (stepD st)], tg_name, fun k hk => hk, fun G2 B2 => ?_, fun hc G2 B2 => ?_⟩
        · rw [stepD_eq]
          exact t_is (t_test (x_op (x_op (x_vd rfl) x_int (o_ixT (d := .str (wh st.call)) rfl)) x_str (o_eqD (.d _) (.d _) (shp_wh _) (shp_wh false)))) (by rw [eqv_str]; cases st.call <;> decide)
        · rw [stepD_eq]
          exact x_op (x_vd rfl) x_int (o_ixT (d := .str st.nm) rfl)
  · have := flat_range (cs) noC fun c : Crs => (lcD (fun j => !(c.steps.getD j ⟨0, false, "", 0⟩).call) (fun j => PyData.str (c.steps.getD j ⟨0, false, "", 0⟩).nm) c.steps.length)
    unfold deedsOf
    rw [List.map_flatMap]
    rw [show (fun c : Crs => ((c.steps.filter fun s => !s.call).map (·.nm)).map PyData.str) = fun c : Crs => lcD (fun j => !(c.steps.getD j ⟨0, false, "", 0⟩).call) (fun j => PyData.str (c.steps.getD j ⟨0, false, "", 0⟩).nm) c.steps.length from funext fun c => by
      rw [lcD_list (fun s : Step => !s.call) (fun s => PyData.str s.nm) ⟨0, false, "", 0⟩ c.steps, List.map_map]; rfl]
    rw [← this, List.length_map]
    congr 3
    refine funext fun i => ?_
    rw [if_pos rfl, List.length_map]; rfl
  show FD.Run _ _ D M [.g (gBook Cb cs), .d (.list ((deedsOf cs).map .str)), .u, .u] []
  have dl := deedsOf_len ok
  exact r_retE (x_cbP (a_cons (x_ssetL (x_vd rfl) (.d _) (by omega)) a_nil) (c_tupleL (.d _))) (fun p hp => hp) fin
abbrev nOw : List Str := ["weights", "step"]
theorem scOw : FnScope nOw ["weights", "step"] (defScope sOw) := ⟨rfl, rfl, rfl, by decide +kernel, rfl, by decide +kernel, by decide +kernel⟩
theorem ok_ow {f : Addr} {fd : FuncData} (T : Txt K mg Cb) (F : Fun K "own_weight" "own_weight" sOw f fd) : FnOk P w K mg base CX0 1 f fd ["weights", "step"] (spE K 2 Row) := by
  refine def_E F scOw (by decide) rfl fun cdv A outer s H E hr => ?_
  have nd := scOw.nd
  refine ⟨_, (pss_one (ps_ret (pe_ifExp (pt_cmpR (op_eqD hr.units) (pe_ix ix_tup (pv 1) pe_int (fun _ _ => rfl)) pe_str (nomark _)) (pe_dget (hu_of hr) (pv 0) (pe_ix ix_tup (pv 1) pe_int (fun _ _ => rfl)) (fun _ _ => rfl)) pe_int))), ?_⟩
  rintro M G B es μ d μ' ⟨wt, ds, st, rfl, rfl, rfl, hd, rfl⟩ D fin
  show FD.Run _ _ D M [.g (gDK (wK wt ds)), .d (stepD st)] []
  rw [stepD_eq]
  refine r_retE (x_if (b := !st.call) (t_is (t_test (x_op (x_op (x_vd rfl) x_int (o_ixT (d := .str (wh st.call)) rfl)) x_str (o_eqD (.d _) (.d _) (shp_wh _) (shp_wh false)))) (by rw [eqv_str]; cases st.call <;> decide)) (fun hb => ?_) fun hb => ?_) (fun p hp => hp) fin
  · have hc : st.call = false := by simpa using hb
    have e1 : ownS wt st = wt st.nm := by unfold ownS; rw [hc]; rfl
    rw [e1]
    exact x_kget (x_vg rfl) (x_op (x_vd rfl) x_int (o_ixT (d := .str st.nm) rfl)) (valD_wK wt (hd hc))
  · have hc : st.call = true := by simpa using hb
    have e1 : ownS wt st = 0 := by unfold ownS; rw [hc]; rfl
    rw [e1]
    exact x_int
abbrev nSc : List Str := ["weights", "step", "parts", "found", "weight", "moves", "part"]
theorem scSc : FnScope nSc ["weights", "step", "parts", "found"] (defScope sSc) := ⟨rfl, rfl, rfl, by decide +kernel, rfl, by decide +kernel, by decide +kernel⟩
theorem ok_sc {f : Addr} {fd : FuncData} (T : Txt K mg Cb) (F : Fun K "step_cost" "step_cost" sSc f fd) {f1 : Addr} {fd1 : FuncData} (H1 : Has K mg "own_weight" sOw ["weights", "step"] f1 fd1) : FnOk P w K mg base CX0 2 f fd ["weights", "step", "parts", "found"] (spE K 4 Rsc) := by
  have G1 : FnOk P w K mg base CX0 1 f1 fd1 ["weights", "step"] (spE K 2 Row) := ok_ow T H1.F
  refine def_E F scSc (by decide) rfl fun cdv A outer s H E hr => ?_
  have nd := scSc.nd
  refine ⟨_, (pss_cons (ps_set (i := 4) nd rfl (Or.inl rfl) (pe_call G1 hr rfl H1.m H1.F.kp H1.b .nil pass0 (pa_cons (pv 0) (pa_cons (pv 1) pa_nil))))
 (pss_cons (ps_set (i := 5) nd rfl (Or.inl rfl) pe_int)
 (pss_cons (ps_for PassesOwn.never rfl (pi_tup (pv 2)) (pg_name (i := 6) nd rfl (Or.inl rfl)) (pss_cons (ps_aug (i := 4) nd rfl (.inl rfl) (pe_ix ix_tup (pe_dget (hu_of hr) (pv 3) (pv 6) (fun _ _ => rfl)) pe_int (fun _ _ => rfl)) ip_add)
 (pss_one (ps_aug (i := 5) nd rfl (.inl rfl) (pe_ix ix_tup (pe_dget (hu_of hr) (pv 3) (pv 6) (fun _ _ => rfl)) pe_int (fun _ _ => rfl)) ip_add))))
 (pss_one (ps_ret (pe_tup (pa_cons (pv 4) (pa_cons (pv 5) pa_nil)))))))), ?_⟩
  rintro M G B es μ d μ' ⟨wt, ds, st, ps, a, mo, Tb, rfl, rfl, rfl, ht, hd, pl, ha, rfl⟩ D fin
  show FD.Run _ _ D M [.g (gDK (wK wt ds)), .d (stepD st), .d (.tuple (ps.map stD)), .m a, .u, .u, .u] [(a, mo)]
  refine q_asg (x_callE0 (a_cons (x_vg rfl) (a_cons (x_vd rfl) a_nil)) ⟨wt, ds, st, rfl, rfl, rfl, hd, rfl⟩) ?_
  refine q_asg x_int ?_
  show FD.Run _ _ D M [.g (gDK (wK wt ds)), .d (stepD st), .d (.tuple (ps.map stD)), .m a, .d (.int (ownS wt st : Int)), .d (.int 1), .u] [(a, mo)]
  refine q_forA (l := ps) (enc := stD) (i_tup (x_vd rfl))
    (fun i δ μ => ∃ (x y : Int) (e6 : Ent), δ = [.g (gDK (wK wt ds)), .d (stepD st), .d (.tuple (ps.map stD)), .m a, .d (.int x), .d (.int y), e6] ∧ μ = [(a, mo)] ∧ x = ((ownS wt st + CK.wsum Tb (ps.take i) : Nat) : Int) ∧ y = ((1 + CK.msum Tb (ps.take i) : Nat) : Int)) ⟨_, _, _, rfl, rfl, by simp [CK.wsum], by simp [CK.msum]⟩ ?_ ?_
  · rintro B' xB i q δ1 μ1 hq ⟨x, y, e6, rfl, rfl, hx, hy⟩
    refine ⟨_, _, tg_name, ?_⟩
    show FD.Run _ _ _ M [.g (gDK (wK wt ds)), .d (stepD st), .d (.tuple (ps.map stD)), .m a, .d (.int x), .d (.int y), .d (stD q)] [(a, mo)]
    obtain ⟨v, hv⟩ := CK.has_val (List.all_eq_true.mp ha q (List.mem_of_getElem? hq))
    have gv : CK.g Tb q = v := CK.g_val hv
    have hg : valG (encT costD Tb) (stK q) = some (gD (costD v)) := by rw [valG_enc, hv]; rfl
    refine r_seq (r_aug (m := x) (n := (v.1 : Int)) rfl (x_op (x_tgetD (k := stK q) (x_vm rfl) (x_vd rfl) (ht.td List.mem_cons_self) hg) x_int (o_ixT rfl)) ?_)
    show FD.Run _ _ _ M [.g (gDK (wK wt ds)), .d (stepD st), .d (.tuple (ps.map stD)), .m a, .d (.int (x + v.1)), .d (.int y), .d (stD q)] [(a, mo)]
    refine r_aug (m := y) (n := (v.2 : Int)) rfl (x_op (x_tgetD (k := stK q) (x_vm rfl) (x_vd rfl) (ht.td List.mem_cons_self) hg) x_int (o_ixT rfl)) ?_
    have e1 := wsum_take Tb hq
    have e2 := msum_take Tb hq
    rw [gv] at e1 e2
    exact fun σ H o => ⟨_, _, ⟨_, _, _, rfl, rfl, by rw [e1, hx]; push_cast; omega, by rw [e2, hy]; push_cast; omega⟩, o⟩
  · rintro δ1 μ1 ⟨x, y, e6, rfl, rfl, hx, hy⟩
    rw [List.take_length] at hx hy
    exact r_retE (x_is (x_tup (ds := [.int x, .int y]) (a_cons (x_vd rfl) (a_cons (x_vd rfl) a_nil)) (by simp)) (by rw [hx, hy]; rfl)) (fun p hp => hp) fin
abbrev nLc : List Str := ["weights", "leaving", "found", "best", "number", "step", "parts", "cost", "part"]
theorem scLc : FnScope nLc ["weights", "leaving", "found"] (defScope sLc) := ⟨rfl, rfl, rfl, by decide +kernel, rfl, by decide +kernel, by decide +kernel⟩
theorem ok_lc {f : Addr} {fd : FuncData} (T : Txt K mg Cb) (F : Fun K "least_cost" "least_cost" sLc f fd) {f1 f2 : Addr} {fd1 fd2 : FuncData} (H1 : Has K mg "step_cost" sSc ["weights", "step", "parts", "found"] f1 fd1) (H2 : Has K mg "own_weight" sOw ["weights", "step"] f2 fd2) : FnOk P w K mg base CX0 3 f fd ["weights", "leaving", "found"] (spE K 3 Rlc) := by
  have G1 : FnOk P w K mg base CX0 2 f1 fd1 ["weights", "step", "parts", "found"] (spE K 4 Rsc) := ok_sc T H1.F H2
  refine def_E F scLc (by decide) rfl fun cdv A outer s H E hr => ?_
  have nd := scLc.nd
  refine ⟨_, (pss_cons (ps_set (i := 3) nd rfl (Or.inl rfl) pe_non)
 (pss_cons (ps_for PassesOwn.never rfl (pi_list (pv 1)) (pg_tup rfl (pgs_cons (pg_name (i := 4) nd rfl (Or.inl rfl)) (pgs_cons (pg_name (i := 5) nd rfl (Or.inl rfl)) (pgs_cons (pg_name (i := 6) nd rfl (Or.inl rfl)) pgs_nil)))) (pss_one (ps_if (pt_val (pe_callB (cr_all rfl) (by rfl) T.all (by decide +kernel) (pa_cons (pe_lc (own := [("part", 8)]) (g := (gName 8)) (tt := tYes) rfl nd (pi_tup (pv 6)) (blkOk_by (N := nLc) (sc := defScope sLc) (by decide +kernel)) (fun _ _ _ _ _ => (pg_name (i := 8) nd rfl (Or.inl rfl))) (fun _ _ _ _ _ => pts_nil) (fun _ _ _ _ _ => (pe_cmp (pc_din (hu_of hr) (pv 8) (pv 2)) rfl))) pa_nil))) (pss_cons (ps_set (i := 7) nd rfl (Or.inl rfl) (pe_call G1 hr rfl H1.m H1.F.kp H1.b .nil pass0 (pa_cons (pv 0) (pa_cons (pv 5) (pa_cons (pv 6) (pa_cons (pv 2) pa_nil))))))
 (pss_one (ps_if (PW.pt (pw_or (pt_cmpR op_isN (pv 3) pe_non (nomark _)) (pw_or1 (pt_cmpR (op_ltT (Nat.lt_of_succ_lt (hu_of hr))) (pv 7) (pe_ix ix_tup (pv 3) pe_int (fun _ _ => rfl)) (nomark _))))) (pss_one (ps_set (i := 3) nd rfl (Or.inl rfl) (pe_tup (pa_cons (pv 7) (pa_cons (pv 4) pa_nil))))) pss_nil))) pss_nil)))
 (pss_one (ps_ret (pv 3))))), ?_⟩
  rintro M G B es μ d μ' ⟨wt, ds, x, l, a, mo, Tb, rfl, rfl, rfl, ht, hd, hl, rfl⟩ D fin
  show FD.Run _ _ D M [.g (gDK (wK wt ds)), .d (.list (l.map (lineD x))), .m a, .u, .u, .u, .u, .u, .u] [(a, mo)]
  refine q_asg x_non ?_
  show FD.Run _ _ D M [.g (gDK (wK wt ds)), .d (.list (l.map (lineD x))), .m a, .d .none, .u, .u, .u, .u, .u] [(a, mo)]
  refine q_forA (l := l) (enc := lineD x) (i_list (x_vd rfl))
    (fun i δ μ => ∃ e4 e5 e6 e7 : Ent, δ = [.g (gDK (wK wt ds)), .d (.list (l.map (lineD x))), .m a, .d (bestD (((l.take i).map (lineOf x)).foldl (CK.lcStep wt Tb) none)), e4, e5, e6, e7, .u] ∧ μ = [(a, mo)]) ⟨_, _, _, _, rfl, rfl⟩ ?_ ?_
  · rintro B' xB i q δ1 μ1 hq ⟨e4, e5, e6, e7, rfl, rfl⟩
    refine ⟨_, _, tg_tup3, ?_⟩
    have step : ((l.take (i + 1)).map (lineOf x)).foldl (CK.lcStep wt Tb) none = CK.lcStep wt Tb (((l.take i).map (lineOf x)).foldl (CK.lcStep wt Tb) none) (lineOf x q) := by
      rw [List.take_add_one, hq, List.map_append, List.foldl_append]; rfl
    rw [step]
    generalize ((l.take i).map (lineOf x)).foldl (CK.lcStep wt Tb) none = best
    have qm := List.mem_of_getElem? hq
    have pl := parts_len x q.1
    have eps : (lineOf x q).ps = partsOf x q.1 := rfl
    have enum : (lineOf x q).num = q.2 := rfl
    have eco : CK.costOf wt Tb (lineOf x q) = (ownS wt q.1 + CK.wsum Tb (partsOf x q.1), 1 + CK.msum Tb (partsOf x q.1)) := by
      unfold CK.costOf
      rw [own_line]; rfl
    obtain ⟨ps, hps⟩ : ∃ ps, ps = partsOf x q.1 := ⟨_, rfl⟩
    rw [← hps] at pl eps eco
    show FD.Run _ _ _ M [.g (gDK (wK wt ds)), .d (.list (l.map (lineD x))), .m a, .d (bestD best), .d (.int (q.2 : Int)), .d (stepD q.1), .d (.tuple ((partsOf x q.1).map stD)), e7, .u] [(a, mo)]
    rw [← hps]
    refine r_if (b := CK.allIn Tb ps) (t_is (t_test (x_cbP (a_cons (x_lcA (l := ps) (enc := stD) (f := fun s => PyData.bool (CK.has Tb s)) (i_tup (x_vd rfl)) (by omega) (ts := [8]) (fun st => [.g (gDK (wK wt ds)), .d (.list (l.map (lineD x))), .m a, .d (bestD best), .d (.int (q.2 : Int)), .d (stepD q.1), .d (.tuple (ps.map stD)), e7, .d (stD st)]) (fun st hst => tg_name) (fun k hk => hk) (fun st hst G' B3 D' => ?_)) a_nil) (c_allb (bs := ps.map (CK.has Tb)) ?_))) (by unfold CK.allIn; rw [List.all_map]; rfl)) (fun hb => ?_) fun hb => ?_
    · exact x_is (x_tin (k := stK st) (x_vd rfl) (x_vm rfl) (ht.td List.mem_cons_self)) (by rw [isSome_enc])
    · rw [List.map_map]; rfl
    · have hall : CK.allIn Tb ps = true := hb
      refine q_asg (x_callE1 (a := a) (mo := mo) (a_cons (x_vg rfl) (a_cons (x_vd rfl) (a_cons (x_vd rfl) (a_cons (x_vm rfl) a_nil)))) (by simp) ⟨wt, ds, q.1, ps, a, mo, Tb, rfl, rfl, rfl, ht, hd q qm, pl, hall, rfl⟩) ?_
      rw [← eco]
      show FD.Run _ _ _ M [.g (gDK (wK wt ds)), .d (.list (l.map (lineD x))), .m a, .d (bestD best), .d (.int (q.2 : Int)), .d (stepD q.1), .d (.tuple (ps.map stD)), .d (costD (CK.costOf wt Tb (lineOf x q))), .u] [(a, mo)]
      cases best with
      | none =>
        have es : CK.lcStep wt Tb none (lineOf x q) = some (CK.costOf wt Tb (lineOf x q), q.2) := by
          unfold CK.lcStep
          rw [eps, if_pos hall]; rfl
        rw [es]
        refine r_if (b := true) (t_or (b := true) (c := true) (t_test (x_is (x_op (x_vd rfl) x_non o_isN) rfl)) (fun z => nomatch z) fun _ => rfl) (fun _ => ?_) fun z => nomatch z
        refine r_asg (e := .d (bestD (some (CK.costOf wt Tb (lineOf x q), q.2)))) (x_tup (ds := [costD (CK.costOf wt Tb (lineOf x q)), .int (q.2 : Int)]) (a_cons (x_vd rfl) (a_cons (x_vd rfl) a_nil)) (by simp)) ?_
        exact fun σ H o => ⟨_, _, ⟨_, _, _, _, rfl, rfl⟩, o⟩
      | some b =>
        refine r_if (b := CK.clt (CK.costOf wt Tb (lineOf x q)) b.1) (t_or (b := false) (t_test (x_is (x_op (x_vd rfl) x_non o_isN) rfl)) (fun _ => t_is (t_test (x_op (x_vd rfl) (x_op (x_vd rfl) x_int (o_ixT (d := costD b.1) rfl)) (o_ltI (ns := [((CK.costOf wt Tb (lineOf x q)).1 : Int), ((CK.costOf wt Tb (lineOf x q)).2 : Int)]) (ms := [(b.1.1 : Int), (b.1.2 : Int)])))) (lex_pair _ _ _ _)) fun z => nomatch z) (fun hb => ?_) fun hb => ?_
        · have es : CK.lcStep wt Tb (some b) (lineOf x q) = some (CK.costOf wt Tb (lineOf x q), q.2) := by
            unfold CK.lcStep
            rw [eps, if_pos hall]; exact if_pos hb
          rw [es]
          refine r_asg (e := .d (bestD (some (CK.costOf wt Tb (lineOf x q), q.2)))) (x_tup (ds := [costD (CK.costOf wt Tb (lineOf x q)), .int (q.2 : Int)]) (a_cons (x_vd rfl) (a_cons (x_vd rfl) a_nil)) (by simp)) ?_
          exact fun σ H o => ⟨_, _, ⟨_, _, _, _, rfl, rfl⟩, o⟩
        · have es : CK.lcStep wt Tb (some b) (lineOf x q) = some b := by
            unfold CK.lcStep
            rw [eps, if_pos hall]; exact if_neg (by rw [hb]; simp)
          rw [es]
          exact r_next fun σ H o => ⟨_, _, ⟨_, _, _, _, rfl, rfl⟩, o⟩
    · have hf : CK.lcStep wt Tb best (lineOf x q) = best := by
        unfold CK.lcStep
        rw [eps, hb]; rfl
      rw [hf]
      exact r_next fun σ H o => ⟨_, _, ⟨_, _, _, _, rfl, rfl⟩, o⟩
  · rintro δ1 μ1 ⟨e4, e5, e6, e7, rfl, rfl⟩
    rw [List.take_length]
    exact r_retE (x_vd rfl) (fun p hp => hp) fin
abbrev nWs : List Str := ["book", "stage", "way"]
theorem scWs : FnScope nWs ["book", "stage", "way"] (defScope sWs) := ⟨rfl, rfl, rfl, by decide +kernel, rfl, by decide +kernel, by decide +kernel⟩
theorem ok_ws {f : Addr} {fd : FuncData} (T : Txt K mg Cb) (F : Fun K "way_step" "way_step" sWs f fd) {f1 : Addr} {fd1 : FuncData} (M1 : HasM K Cb "steps" "Book.steps" sBs ["self", "course"] f1 fd1) : FnOk P w K mg base CX0 2 f fd ["book", "stage", "way"] (spE K 3 (Rws Cb)) := by
  have G1 : FnOk P w K mg base CX0 1 f1 fd1 ["self", "course"] (spE K 2 (Rbs Cb)) := ok_bs T M1.F
  refine def_E F scWs (by decide) rfl fun cdv A outer s H E hr => ?_
  have nd := scWs.nd
  refine ⟨_, (pss_one (ps_ret (pe_ix ix_tup (pe_meth (pv 0) T.cl M1.m G1 hr M1.b .nil pass0 (pa_cons (pe_ix ix_tup (pv 1) pe_int (fun _ _ => rfl)) pa_nil)) (pe_ix ix_tup (pv 2) pe_int (fun _ _ => rfl)) (fun _ _ => rfl)))), ?_⟩
  rintro M G B es μ d μ' ⟨cs, s, k, st, rfl, rfl, rfl, ok, hs, hk, rfl⟩ D fin
  show FD.Run _ _ D M [.g (gBook Cb cs), .d (stD s), .d (wayD (some k))] []
  refine r_retE (x_op (x_meth (x_vg rfl) (.g _ _) (noM _ _ _ (by decide +kernel) (by decide +kernel) (by decide +kernel)) (a_cons (x_op (x_vd rfl) x_int (o_ixT (d := .str s.1) rfl)) a_nil) (cX_E0 ⟨cs, s.1, rfl, rfl, rfl, ok, stg_crs hs, rfl⟩)) (x_op (x_vd rfl) x_int (o_ixT (d := .int (k : Int)) rfl)) (o_ixT (atI_nat ?_))) (fun p hp => hp) fin
  rw [List.getElem?_map, hk]; rfl
abbrev nWp : List Str := ["book", "stage", "way"]
theorem scWp : FnScope nWp ["book", "stage", "way"] (defScope sWp) := ⟨rfl, rfl, rfl, by decide +kernel, rfl, by decide +kernel, by decide +kernel⟩
theorem shp_way (o : Option Nat) : SeqAt.shaped (wayD o) = true := by
  cases o with
  | none => exact (shp_tuple (n := 0) fun d hd => by rw [List.mem_singleton.mp hd]; exact ⟨by decide +kernel, by simp [PyData.depth]⟩).shaped (by decide)
  | some k => exact (shp_tuple (n := 0) fun d hd => by
      simp only [List.mem_cons, List.not_mem_nil, or_false] at hd
      rcases hd with rfl | rfl
      · exact ⟨by decide +kernel, by simp [PyData.depth]⟩
      · exact shp_int 0 _).shaped (by decide)
theorem eqv_way (o o' : Option Nat) : PyData.eqv (wayD o) (wayD o') = decide (o = o') := by
  cases o with
  | none =>
    cases o' with
    | none => exact (by decide +kernel : PyData.eqv (wayD none) (wayD none) = true)
    | some j =>
      show PyData.eqv (.tuple [.str "end"]) (.tuple [.str "step", .int (j : Int)]) = false
      simp [PyData.eqv, PyData.eqvAll]
  | some k =>
    cases o' with
    | none =>
      show PyData.eqv (.tuple [.str "step", .int (k : Int)]) (.tuple [.str "end"]) = false
      simp [PyData.eqv, PyData.eqvAll]
    | some j =>
      show PyData.eqv (rowK [.inr "step", .inl (k : Int)]) (rowK [.inr "step", .inl (j : Int)]) = _
      rw [eqv_row]
      refine decide_eq_decide.mpr ⟨fun e => ?_, fun e => by rw [Option.some.inj e]⟩
      injection e with _ e
      injection e with e _
      have e := Sum.inl.inj e
      exact congrArg some (by omega)
theorem pos_mem {c : Crs} {i : Nat} {st : Step} {k : Nat} (h : (st, k) ∈ exL c i) : k ∈ pos c i := by
  unfold exL at h
  unfold pos
  exact List.mem_map.mpr ⟨_, h, rfl⟩
theorem posD_eq (c : Crs) (i : Nat) : posD c i = .tuple (((pos c i).map fun j : Nat => (j : Int)).map .int) := by
  unfold posD
  rw [List.map_map]; rfl
theorem ok_wp {f : Addr} {fd : FuncData} (T : Txt K mg Cb) (F : Fun K "way_parts" "way_parts" sWp f fd) {f1 f2 f3 f4 f5 : Addr} {fd1 fd2 fd3 fd4 fd5 : FuncData} (H1 : Has K mg "parts_of" sPo ["stage", "step"] f1 fd1) (H2 : Has K mg "way_step" sWs ["book", "stage", "way"] f2 fd2) (M3 : HasM K Cb "is_end" "Book.is_end" sBe ["self", "stage"] f3 fd3) (M4 : HasM K Cb "steps_from" "Book.steps_from" sBf ["self", "stage"] f4 fd4) (M5 : HasM K Cb "steps" "Book.steps" sBs ["self", "course"] f5 fd5) : FnOk P w K mg base CX0 3 f fd ["book", "stage", "way"] (spE K 3 (Rwp Cb)) := by
  have G1 : FnOk P w K mg base CX0 1 f1 fd1 ["stage", "step"] (spR K 2 Rpo) := ok_po T H1.F
  have G2 : FnOk P w K mg base CX0 2 f2 fd2 ["book", "stage", "way"] (spE K 3 (Rws Cb)) := ok_ws T H2.F M5
  have G3 : FnOk P w K mg base CX0 1 f3 fd3 ["self", "stage"] (spE K 2 (Rbe Cb)) := ok_be T M3.F
  have G4 : FnOk P w K mg base CX0 1 f4 fd4 ["self", "stage"] (spE K 2 (Rbf Cb)) := ok_bf T M4.F
  refine def_E F scWp (by decide) rfl fun cdv A outer s H E hr => ?_
  have nd := scWp.nd
  have hr1 : Room 1 _ := hr.mono (by decide)
  refine ⟨_, (pss_cons (ps_if (pt_cmpR (op_eqD hr.units) (pv 2) (pe_tup (pa_cons pe_str pa_nil)) (nomark _)) (pss_one (ps_ret (pe_ifExp (pt_val (pe_meth (pv 0) T.cl M3.m G3 hr1 M3.b .nil pass0 (pa_cons (pv 1) pa_nil))) (pe_tup pa_nil) pe_non))) pss_nil)
 (pss_cons (ps_if (pt_cmpR op_notIn_seq (pe_ix ix_tup (pv 2) pe_int (fun _ _ => rfl)) (pe_meth (pv 0) T.cl M4.m G4 hr1 M4.b .nil pass0 (pa_cons (pv 1) pa_nil)) (by with_unfolding_all rfl)) (pss_one (ps_ret pe_non)) pss_nil)
 (pss_one (ps_ret (pe_call G1 hr1 rfl H1.m H1.F.kp H1.b .nil pass0 (pa_cons (pv 1) (pa_cons (pe_call G2 hr rfl H2.m H2.F.kp H2.b .nil pass0 (pa_cons (pv 0) (pa_cons (pv 1) (pa_cons (pv 2) pa_nil)))) pa_nil))))))), ?_⟩
  rintro M G B es μ d μ' ⟨cs, s, o, ps, rfl, rfl, rfl, ok, hs, hh, rfl⟩ D fin
  show FD.Run _ _ D M [.g (gBook Cb cs), .d (stD s), .d (wayD o)] []
  have hM : ∀ {m : Str}, _ := fun {m} => noM (gD (bokD cs)) (gDK (byN cs)) (gDT (leavT cs)) (m := m)
  refine q_when (b := decide (o = none)) (t_is (t_test (x_op (x_vd rfl) (x_tup (ds := [.str "end"]) (a_cons x_str a_nil) (by simp)) (o_eqD (.d _) (.d _) (shp_way o) (shp_way none)))) (eqv_way o none)) (fun hb => ?_) fun hb => ?_
  · have hb := of_decide_eq_true hb
    rcases hh with ⟨_, he, rfl⟩ | ⟨k, st, e, _⟩
    · refine r_retE (x_if (b := true) (t_is (t_test (x_meth (x_vg rfl) (.g _ _) (noM _ _ _ (by decide +kernel) (by decide +kernel) (by decide +kernel)) (a_cons (x_vd rfl) a_nil) (cX_E0 ⟨cs, s, rfl, rfl, rfl, ok, hs, rfl⟩))) (decide_eq_true he)) (fun _ => x_tup (ds := []) a_nil (by simp)) fun z => nomatch z) (fun p hp => hp) fin
    · rw [hb] at e; cases e
  · have hb := of_decide_eq_false hb
    rcases hh with ⟨e, _⟩ | ⟨k, st, rfl, hk, rfl⟩
    · exact absurd e hb
    · have hp := pos_mem hk
      refine q_no (t_is (t_test (x_op (x_op (x_vd rfl) x_int (o_ixT (d := .int (k : Int)) rfl)) (x_is (x_meth (x_vg rfl) (.g _ _) (noM _ _ _ (by decide +kernel) (by decide +kernel) (by decide +kernel)) (a_cons (x_vd rfl) a_nil) (cX_E0 ⟨cs, s, rfl, rfl, rfl, ok, hs, rfl⟩)) (congrArg Ent.d (posD_eq _ _))) o_notInTi)) ?_) ?_
      · rw [decide_eq_true (List.mem_map.mpr ⟨k, hp, rfl⟩)]; rfl
      · refine r_retE (x_callR (ds := [stD s, stepD st]) (a_cons (x_vd rfl) (a_cons (x_callE0 (a_cons (x_vg rfl) (a_cons (x_vd rfl) (a_cons (x_vd rfl) a_nil))) ⟨cs, s, k, st, rfl, rfl, rfl, ok, hs, (exL_mem hk).1, rfl⟩) a_nil)) ⟨s, st, rfl, rfl⟩) (fun p hp => hp) fin
abbrev nDc : List Str := ["book", "row", "deed"]
theorem scDc : FnScope nDc ["book", "row"] (defScope sDc) := ⟨rfl, rfl, rfl, by decide +kernel, rfl, by decide +kernel, by decide +kernel⟩
theorem deeds_len {cs : List Crs} (ok : BokOk cs) : (deeds cs).length ≤ 512 := by
  have h1 := deedsOf_len ok
  have h2 := setT_len (deedsOf cs)
  unfold deeds
  omega
theorem ok_dc {f : Addr} {fd : FuncData} (T : Txt K mg Cb) (F : Fun K "deed_counts" "deed_counts" sDc f fd) {f1 : Addr} {fd1 : FuncData} (M1 : HasM K Cb "deeds" "Book.deeds" sBd ["self"] f1 fd1) : FnOk P w K mg base CX0 2 f fd ["book", "row"] (spE K 2 (Rdc Cb)) := by
  have G1 : FnOk P w K mg base CX0 1 f1 fd1 ["self"] (spE K 1 (Rbd Cb)) := ok_bd T M1.F
  refine def_E F scDc (by decide) rfl fun cdv A outer s H E hr => ?_
  have nd := scDc.nd
  refine ⟨_, (pss_one (ps_ret (pe_callTy call_tuple_of (by rfl) T.tuple (by decide +kernel) (pa_cons (pe_lc (own := [("deed", 2)]) (g := (gName 2)) (tt := tYes) rfl nd (pi_tup (pe_meth0 (pv 0) T.cl M1.m G1 hr M1.b .nil pass0)) (blkOk_by (N := nDc) (sc := defScope sDc) (by decide +kernel)) (fun _ _ _ _ _ => (pg_name (i := 2) nd rfl (Or.inl rfl))) (fun _ _ _ _ _ => pts_nil) (fun _ _ _ _ _ => (pe_bmt PySem.F.plainAttrs_tuple PySem.F.slot_tuple_count PySem.F.type_tuple_count (ktcount (K := K) rfl) (pv 1) (pa_cons (pv 2) pa_nil)))) pa_nil)))), ?_⟩
  rintro M G B es μ d μ' ⟨cs, ys, rfl, rfl, rfl, ok, rfl⟩ D fin
  show FD.Run _ _ D M [.g (gBook Cb cs), .g (gFT ys), .u] []
  have dl := deeds_len ok
  exact r_retE (x_cbP (a_cons (x_lcA (l := deeds cs) (enc := .str) (f := fun x => PyData.int ((ys.countP (· == x) : Nat) : Int)) (i_tup (x_meth (x_vg rfl) (.g _ _) (noM _ _ _ (by decide +kernel) (by decide +kernel) (by decide +kernel)) a_nil (cX_E0 ⟨cs, rfl, rfl, rfl, ok, rfl⟩))) (by omega) (ts := [2]) (fun x => [.g (gBook Cb cs), .g (gFT ys), .d (.str x)]) (fun x hx => tg_name) (fun k hk => hk) (fun x hx G' B3 D' => x_tcount (x_vg rfl) (x_vd rfl))) a_nil) (c_tupleL (.d _))) (fun p hp => hp) fin
abbrev nAd : List Str := ["one", "other", "here", "there"]
theorem scAd : FnScope nAd ["one", "other"] (defScope sAd) := ⟨rfl, rfl, rfl, by decide +kernel, rfl, by decide +kernel, by decide +kernel⟩
theorem ok_ad {f : Addr} {fd : FuncData} (T : Txt K mg Cb) (F : Fun K "added" "added" sAd f fd) : FnOk P w K mg base CX0 1 f fd ["one", "other"] (spR K 2 Rad) := by
  refine def_R F scAd (by decide) fun cdv A outer s H E hr => ?_
  have nd := scAd.nd
  refine ⟨_, (pss_one (ps_ret (pe_callTy call_tuple_of (by rfl) T.tuple (by decide +kernel) (pa_cons (pe_lc (own := [("here", 2), ("there", 3)]) (g := (gTup K 2 (gCons (gName 2) (gCons (gName 3) gNil)))) (tt := tYes) rfl nd (RZ.pi_zipA (by rfl) T.zip (pa_cons (pv 0) (pa_cons (pv 1) pa_nil))) (blkOk_by (N := nAd) (sc := defScope sAd) (by decide +kernel)) (fun _ _ _ _ _ => (pg_tup rfl (pgs_cons (pg_name (i := 2) nd rfl (Or.inl rfl)) (pgs_cons (pg_name (i := 3) nd rfl (Or.inl rfl)) pgs_nil)))) (fun _ _ _ _ _ => pts_nil) (fun _ _ _ _ _ => (pe_op op_add (pv 2) (pv 3)))) pa_nil)))), ?_⟩
  rintro M G B ds d _ ⟨zs, f1, f2, rfl, hl, rfl⟩ D fin
  show FD.Run _ _ D M [.d (cntD zs f1), .d (cntD zs f2), .u, .u] []
  refine r_retP (x_cbP (a_cons (x_lcA (l := zs) (enc := fun x => PyData.tuple [.int (f1 x : Int), .int (f2 x : Int)]) (f := fun x => PyData.int ((f1 x + f2 x : Nat) : Int)) ?_ (by omega) (ts := [2, 3]) (fun x => [.d (cntD zs f1), .d (cntD zs f2), .d (.int (f1 x : Int)), .d (.int (f2 x : Int))]) (fun x hx => tg_tup2) (fun k hk => hk) (fun x hx G' B3 D' => x_is (x_op (x_vd rfl) (x_vd rfl) o_I0) (by push_cast; rfl))) a_nil) (c_tupleL (.d _))) fin
  have h := i_zipT (C := ⟨K, M, G, B⟩) (M := M) (δ := [.d (cntD zs f1), .d (cntD zs f2), .u, .u]) (μ := []) (xs := zs.map fun x => PyData.int (f1 x : Int)) (ys := zs.map fun x => PyData.int (f2 x : Int)) (a_cons (x_vd (i := 0) rfl) (a_cons (x_vd (i := 1) rfl) a_nil))
  rw [zip_maps] at h
  exact h
end
end K09
namespace FD
open PySem L2 Evl
section
variable {C : Cfg} {M : List Addr} {δ : List Ent} {μ μ' : Mem} {te : TE} {mo : MO} {j : Nat} {a : Addr} {l : GTab}
theorem n_lockT (hj : μ[j]? = some (a, .dT l)) (h : ∀ od ws, EvN C te M δ (μ.set j (a, .fT od ws l)) (μ.set j (a, .fT od ws l)) mo) : EvN C (tLockE te) M δ μ μ mo := fun σ H o Q k => by
  obtain ⟨ws, e0, kk⟩ := ok_lockT o hj
  refine ⟨a, .dT ws, e0, trivial, fun od => h od ws _ _ (kk od) _ fun p H1 pM o1 x1 => ?_⟩
  have hj' : ((p, mo) :: μ)[j + 1]? = some (a, .dT l) := hj
  obtain ⟨e1, aM, o'⟩ := ok_unlockT (ws := ws) (od := od) hj' o1
  have aM0 : a ∈ M := (o.mem _ (List.mem_of_getElem? hj)).1
  rw [hide_upd aM0 (by rw [e0]; rfl) rfl] at x1
  exact ⟨e1, k p _ pM o' (by rw [hide_upd aM (by rw [e1]; rfl) rfl]; exact x1)⟩
end
end FD
namespace K09
open PySem L2 FD Evl
section
variable {C : Cfg} {M : List Addr} {δ : List Ent} {μ μ' : Mem} {wi : TI} {g : TG} {tt : TT} {tk tv : TE} {vs : List Nat}
/-- {s: v(s) for s in L if p(s)} -/
theorem n_dcE {α : Type} {N : Hp → Prop} (f : α → PyData) (L : List Stg) (nd : L.Nodup) (p : Stg → Bool) (v : Stg → α) (hi : EvIN C wi M δ μ μ' N (L.map stD)) (hN : ∀ (B : Hp) (p : Addr) (q : MO) (σ : L2.St) (H : Hp), Ok { C with B := B } (p :: M) δ ((p, q) :: μ') σ H → N H) (hl : L.length < 1000)
    (hs : ∀ s ∈ L, ∀ (B : Hp) (q : Addr) (mo : MO), ∃ ts δ', TgX C.K g ts (stD s) (wipeE δ vs) δ' ∧ (∀ k ∈ ts, k ∈ vs) ∧ EvT { C with B := B } tt (q :: M) δ' ((q, mo) :: μ') ((q, mo) :: μ') (p s) ∧
      (p s = true → EvX { C with B := B } tk (q :: M) δ' ((q, mo) :: μ') ((q, mo) :: μ') (.d (stD s)) ∧ EvX { C with B := B } tv (q :: M) δ' ((q, mo) :: μ') ((q, mo) :: μ') (.d (f (v s))))) :
    EvN C (tDcT wi g tt tk tv vs) M δ μ μ' (.dT (encT f ((L.filter p).map fun s => (s, v s)))) := by
  have h := x_dcT (C := C) (M := M) (δ := δ) (μ := μ) (μ' := μ') (g := g) (tt := tt) (tk := tk) (tv := tv) (vs := vs) (xs := L.map stD) hi hN (fun i => encT f (((L.take i).filter p).map fun s => (s, v s))) rfl (fun i hi => by
      rw [encT_len, List.length_map]
      have := List.length_filter_le p (L.take i)
      rw [List.length_take] at this
      rw [List.length_map] at hi
      omega) (fun i d hd B q => ?_)
  · rw [List.length_map, List.take_length] at h
    exact h
  · rw [List.getElem?_map] at hd
    cases hq : L[i]? with
    | none => rw [hq] at hd; cases hd
    | some s =>
      rw [hq] at hd
      have hd := Option.some.inj hd
      subst hd
      obtain ⟨ts, δ', h1, h2, h3, h4⟩ := hs s (List.mem_of_getElem? hq) B q (.dT (encT f (((L.take i).filter p).map fun s => (s, v s))))
      have tk1 : L.take (i + 1) = L.take i ++ [s] := by rw [List.take_add_one, hq]; rfl
      refine ⟨ts, δ', p s, h1, h2, h3, fun hb => ?_, fun hb => ?_⟩
      · rw [tk1, List.filter_append, show [s].filter p = [] by rw [List.filter_cons, hb]; rfl, List.append_nil]
      · obtain ⟨h5, h6⟩ := h4 hb
        refine ⟨stK s, _, gD (f (v s)), h5, h6, entG_d _, ?_⟩
        have new : stK s ∉ (encT f (((L.take i).filter p).map fun s => (s, v s))).map (·.1) := fun z => by
          rw [encT_keys, List.map_map, List.map_map] at z
          obtain ⟨s', hs', e⟩ := List.mem_map.mp z
          have e : s' = s := stK_inj e
          subst e
          have hs' := (List.mem_filter.mp hs').1
          obtain ⟨m, hm⟩ := List.getElem?_of_mem hs'
          have ml := (List.getElem?_eq_some_iff.mp hm).1
          rw [List.length_take] at ml
          rw [List.getElem?_take, if_pos (by omega)] at hm
          obtain ⟨l1, g1⟩ := List.getElem?_eq_some_iff.mp hm
          obtain ⟨l2, g2⟩ := List.getElem?_eq_some_iff.mp hq
          exact List.pairwise_iff_getElem.mp nd m i l1 l2 (by omega) (g1.trans g2.symm)
        rw [putG_new new, tk1, List.filter_append, show [s].filter p = [s] by rw [List.filter_cons, hb]; rfl, List.map_append]
        unfold encT
        rw [List.map_append]; rfl
end
/-! ### the table of costs -/
noncomputable def TT (w : Str → Nat) (cs : List Crs) : CK.Tab Stg CK.Cost := CK.fin w (bk cs)
noncomputable def wy (w : Str → Nat) (cs : List Crs) : Stg → Option Nat := CK.way w (bk cs) (TT w cs)
noncomputable def keysL (w : Str → Nat) (cs : List Crs) : List Stg := (S cs).filter (CK.has (TT w cs))
noncomputable def tabL {α : Type} (w : Str → Nat) (cs : List Crs) (v : Stg → α) : CK.Tab Stg α := (keysL w cs).map fun s => (s, v s)
def cwD (x : CK.Cost × Option Nat) : PyData := .tuple [costD x.1, wayD x.2]
noncomputable def cbT (w : Str → Nat) (cs : List Crs) : GTab := encT cwD (tabL w cs fun s => (CK.g (TT w cs) s, wy w cs s))
noncomputable def lpT (w : Str → Nat) (cs : List Crs) : GTab := encT (fun n : Nat => .int (n : Int)) (tabL w cs fun s => (CK.g (TT w cs) s).1)
noncomputable def pwT (w : Str → Nat) (cs : List Crs) : GTab := encT wayD (tabL w cs (wy w cs))
theorem bk_nd {cs : List Crs} (ok : BokOk cs) : (bk cs).S.Nodup := S_nd ok.nd
theorem tt_right (w : Str → Nat) {cs : List Crs} (ok : BokOk cs) : CK.Right w (bk cs) (TT w cs) (wy w cs) := CK.right w (bk_nd ok)
theorem keysL_nd (w : Str → Nat) {cs : List Crs} (ok : BokOk cs) : (keysL w cs).Nodup := (bk_nd ok).filter _
theorem keysL_mem {w : Str → Nat} {cs : List Crs} (ok : BokOk cs) {s : Stg} : s ∈ keysL w cs ↔ CK.has (TT w cs) s = true := by
  unfold keysL
  rw [List.mem_filter]
  exact ⟨fun h => h.2, fun h => ⟨(tt_right w ok).keys s h, h⟩⟩
theorem keysL_st {w : Str → Nat} {cs : List Crs} {s : Stg} (h : s ∈ keysL w cs) : s ∈ stages cs := S_mem.mp (List.mem_filter.mp h).1
theorem keysL_len (w : Str → Nat) {cs : List Crs} (ok : BokOk cs) : (keysL w cs).length ≤ 60 := by
  have h1 := List.length_filter_le (CK.has (TT w cs)) (S cs)
  have h2 := S_len cs
  have h3 := ok.tot
  unfold keysL
  omega
theorem val_tab {α : Type} {w : Str → Nat} {cs : List Crs} (v : Stg → α) {s : Stg} (h : s ∈ keysL w cs) : CK.val (tabL w cs v) s = some (v s) := (CK.val_keys v _ s).trans (if_pos h)
theorem val_tabN {α : Type} {w : Str → Nat} {cs : List Crs} (v : Stg → α) {s : Stg} (h : s ∉ keysL w cs) : CK.val (tabL w cs v) s = none := (CK.val_keys v _ s).trans (if_neg h)
theorem tab_keys {α : Type} (f : α → PyData) (w : Str → Nat) (cs : List Crs) (v : Stg → α) : ((encT f (tabL w cs v)).map (·.1)).map rowK = (keysL w cs).map stD := by
  rw [encT_keys]
  unfold tabL
  rw [List.map_map, List.map_map, List.map_map]; rfl
theorem valG_tab {α : Type} (f : α → PyData) {w : Str → Nat} {cs : List Crs} (v : Stg → α) {s : Stg} (h : s ∈ keysL w cs) : valG (encT f (tabL w cs v)) (stK s) = some (gD (f (v s))) := by
  rw [valG_enc, val_tab v h]; rfl
theorem tab_len {α : Type} (f : α → PyData) (w : Str → Nat) {cs : List Crs} (ok : BokOk cs) (v : Stg → α) : (encT f (tabL w cs v)).length ≤ 60 := by
  rw [encT_len]
  unfold tabL
  rw [List.length_map]
  exact keysL_len w ok
def DsOk (cs : List Crs) (ds : List Str) : Prop := ∀ c ∈ cs, ∀ st ∈ c.steps, st.call = false → st.nm ∈ ds
theorem dsOk_deeds (cs : List Crs) : DsOk cs (deeds cs) := fun c hc st hs h => deeds_mem hc hs h
def Rcb (Cb : Addr) (es : List Ent) (μ : Mem) (mo : MO) (μ' : Mem) : Prop := ∃ (cs : List Crs) (w : Str → Nat) (ds : List Str), es = [.g (gBook Cb cs), .g (gDK (wK w ds))] ∧ μ = [] ∧ μ' = [] ∧ BokOk cs ∧ DsOk cs ds ∧ mo = .dT (cbT w cs)
def Rlp (Cb : Addr) (es : List Ent) (μ : Mem) (mo : MO) (μ' : Mem) : Prop := ∃ (cs : List Crs) (w : Str → Nat) (ds : List Str), es = [.g (gBook Cb cs), .g (gDK (wK w ds))] ∧ μ = [] ∧ μ' = [] ∧ BokOk cs ∧ DsOk cs ds ∧ mo = .dT (lpT w cs)
def Rpw (Cb : Addr) (es : List Ent) (μ : Mem) (mo : MO) (μ' : Mem) : Prop := ∃ (cs : List Crs) (w : Str → Nat) (ds : List Str), es = [.g (gBook Cb cs), .g (gDK (wK w ds))] ∧ μ = [] ∧ μ' = [] ∧ BokOk cs ∧ DsOk cs ds ∧ mo = .dT (pwT w cs)
section
variable {P : Program} {w : World} {K : PySem.W.Frag} {mg : Str → Option Value} {base : Heap} {Cb : Addr}
abbrev nCb : List Str := ["book", "weights", "leaving", "found", "chosen", "changed", "stage", "best"]
theorem scCb : FnScope nCb ["book", "weights"] (defScope sCb) := ⟨rfl, rfl, rfl, by decide +kernel, rfl, by decide +kernel, by decide +kernel⟩
/-- the ways of the first n stages, the ends ahead -/
noncomputable def chT (wt : Str → Nat) (cs : List Crs) (n : Nat) : CK.Tab Stg (Option Nat) := ((S cs).filter (bk cs).isEnd).map (fun s => (s, none)) ++ ((((TT wt cs).map (·.1)).take n).filter fun s => !(bk cs).isEnd s).map fun s => (s, wy wt cs s)
theorem val_app {α : Type} (s : Stg) (B : CK.Tab Stg α) : ∀ A : CK.Tab Stg α, (∀ v, CK.val A s = some v → CK.val (A ++ B) s = some v) ∧ (CK.val A s = none → CK.val (A ++ B) s = CK.val B s)
  | [] => ⟨fun v h => (nomatch h), fun _ => rfl⟩
  | p :: A => by
    obtain ⟨h1, h2⟩ := val_app s B A
    rw [List.cons_append, CK.val_cons, CK.val_cons]
    by_cases e : p.1 = s
    · rw [if_pos e, if_pos e]; exact ⟨fun v h => h, fun h => (nomatch h)⟩
    · rw [if_neg e, if_neg e]; exact ⟨h1, h2⟩
theorem chT_end {wt : Str → Nat} {cs : List Crs} {n : Nat} {s : Stg} (h : s ∈ (S cs).filter (bk cs).isEnd) : CK.val (chT wt cs n) s = some none :=
  (val_app s _ _).1 _ ((CK.val_keys (fun _ => (none : Option Nat)) _ s).trans (if_pos h))
theorem chT_new {wt : Str → Nat} {cs : List Crs} {n : Nat} {s : Stg} (h : s ∉ (S cs).filter (bk cs).isEnd) (h2 : s ∈ (((TT wt cs).map (·.1)).take n).filter fun s => !(bk cs).isEnd s) : CK.val (chT wt cs n) s = some (wy wt cs s) :=
  ((val_app s _ _).2 ((CK.val_keys (fun _ => (none : Option Nat)) _ s).trans (if_neg h))).trans ((CK.val_keys (wy wt cs) _ s).trans (if_pos h2))
theorem chT_no {wt : Str → Nat} {cs : List Crs} {n : Nat} {s : Stg} (h : s ∉ (S cs).filter (bk cs).isEnd) (h2 : s ∉ (((TT wt cs).map (·.1)).take n).filter fun s => !(bk cs).isEnd s) : CK.val (chT wt cs n) s = none :=
  ((val_app s _ _).2 ((CK.val_keys (fun _ => (none : Option Nat)) _ s).trans (if_neg h))).trans ((CK.val_keys (wy wt cs) _ s).trans (if_neg h2))
theorem ok_cb {f : Addr} {fd : FuncData} (T : Txt K mg Cb) (F : Fun K "costs_by" "costs_by" sCb f fd) {f1 f2 f3 f4 f5 : Addr} {fd1 fd2 fd3 fd4 fd5 : FuncData} (H1 : Has K mg "exits" sEx ["book"] f1 fd1) (H2 : Has K mg "least_cost" sLc ["weights", "leaving", "found"] f2 fd2) (M3 : HasM K Cb "is_end" "Book.is_end" sBe ["self", "stage"] f3 fd3)
    (H4 : Has K mg "step_cost" sSc ["weights", "step", "parts", "found"] f4 fd4) (H5 : Has K mg "own_weight" sOw ["weights", "step"] f5 fd5) (G1 : FnOk P w K mg base CX0 2 f1 fd1 ["book"] (spEN K 1 (Rex Cb))) : FnOk P w K mg base CX0 4 f fd ["book", "weights"] (spEN K 2 (Rcb Cb)) := by
  have G2 : FnOk P w K mg base CX0 3 f2 fd2 ["weights", "leaving", "found"] (spE K 3 Rlc) := ok_lc T H2.F H4 H5
  have G3 : FnOk P w K mg base CX0 1 f3 fd3 ["self", "stage"] (spE K 2 (Rbe Cb)) := ok_be T M3.F
  refine def_EN F scCb (by decide) rfl fun cdv A outer s H E hr => ?_
  have nd := scCb.nd
  have hr1 : Room 1 _ := hr.mono (by decide)
  have hr2 : Room 2 _ := hr.mono (by decide)
  refine ⟨_, (pss_cons (ps_set (i := 2) nd rfl (Or.inl rfl) (pe_call G1 hr2 rfl H1.m H1.F.kp H1.b .nil pass0 (pa_cons (pv 0) pa_nil)))
 (pss_cons (ps_set (i := 3) nd rfl (Or.inr rfl) (pe_lock (pe_dcT hr.units0 (own := [("stage", 6)]) (g := (gName 6)) rfl nd (pi_keys (pv 2)) (blkOk_by (N := nCb) (sc := defScope sCb) (by decide +kernel)) (fun _ _ _ _ _ => (pg_name (i := 6) nd rfl (Or.inl rfl))) (fun _ _ _ _ _ => (pts_one (pt_val (pe_meth (pv 0) T.cl M3.m G3 hr1 M3.b .nil pass0 (pa_cons (pv 6) pa_nil))))) (fun _ _ _ _ _ => (pv 6)) (fun _ _ _ _ _ => (pe_tup (pa_cons pe_int (pa_cons pe_int pa_nil)))))))
 (pss_cons (ps_set (i := 4) nd rfl (Or.inr rfl) (pe_lock (pe_dcT hr.units0 (own := [("stage", 6)]) (g := (gName 6)) (tt := tYes) rfl nd (pi_keys (pv 3)) (blkOk_by (N := nCb) (sc := defScope sCb) (by decide +kernel)) (fun _ _ _ _ _ => (pg_name (i := 6) nd rfl (Or.inl rfl))) (fun _ _ _ _ _ => pts_nil) (fun _ _ _ _ _ => (pv 6)) (fun _ _ _ _ _ => (pe_tup (pa_cons pe_str pa_nil))))))
 (pss_cons (ps_set (i := 5) nd rfl (Or.inl rfl) pe_bl)
 (pss_cons (ps_while PassesOwn.never (pt_val (pv 5)) (pss_cons (ps_set (i := 5) nd rfl (Or.inl rfl) pe_bl)
 (pss_one (ps_for PassesOwn.never rfl (pi_reversed (by rfl) T.reversed (pa_cons (pe_callTy (call_list_dT rfl) (by rfl) T.list (by decide +kernel) (pa_cons (pv 2) pa_nil)) pa_nil)) (pg_name (i := 6) nd rfl (Or.inl rfl)) (pss_cons (ps_set (i := 7) nd rfl (Or.inl rfl) (pe_call G2 hr rfl H2.m H2.F.kp H2.b .nil pass0 (pa_cons (pv 1) (pa_cons (pe_dget (hu_of hr) (pv 2) (pv 6) (fun _ _ => rfl)) (pa_cons (pv 3) pa_nil)))))
 (pss_one (ps_if (PW.pt (pw_and (pt_cmpR op_notN (pv 7) pe_non (nomark _)) (pw_and1 (PW.pt (pw_or (pt_cmp (pc_dnotin (hu_of hr) (pv 6) (pv 3))) (pw_or1 (pt_cmpR (op_ltT (Nat.lt_of_succ_lt (hu_of hr))) (pe_ix ix_tup (pv 7) pe_int (fun _ _ => rfl)) (pe_dget (hu_of hr) (pv 3) (pv 6) (fun _ _ => rfl)) (nomark _)))))))) (pss_cons (ps_asg (pe_ix ix_tup (pv 7) pe_int (fun _ _ => rfl)) (pg_sub (pv 3) (pv 6) (set_dict (hu_of hr))))
 (pss_one (ps_set (i := 5) nd rfl (Or.inl rfl) pe_bl))) pss_nil)))))))
 (pss_cons (ps_lock (ps_for PassesOwn.never rfl (pi_keys (pv 3)) (pg_name (i := 6) nd rfl (Or.inl rfl)) (pss_one (ps_if (pt_cmp (pc_dnotin (hu_of hr) (pv 6) (pv 4))) (pss_cons (ps_set (i := 7) nd rfl (Or.inl rfl) (pe_call G2 hr rfl H2.m H2.F.kp H2.b .nil pass0 (pa_cons (pv 1) (pa_cons (pe_dget (hu_of hr) (pv 2) (pv 6) (fun _ _ => rfl)) (pa_cons (pv 3) pa_nil)))))
 (pss_one (ps_asg (pe_tup (pa_cons pe_str (pa_cons (pe_ix ix_tup (pv 7) pe_int (fun _ _ => rfl)) pa_nil))) (pg_sub (pv 4) (pv 6) (set_dict (hu_of hr)))))) pss_nil))))
 (pss_one (ps_ret (pe_dcT hr.units0 (own := [("stage", 6)]) (g := (gName 6)) (tt := tYes) rfl nd (pi_list (pe_callB (cr_sortedT rfl hr.units) (by rfl) T.sorted (by decide +kernel) (pa_cons (pv 3) pa_nil))) (blkOk_by (N := nCb) (sc := defScope sCb) (by decide +kernel)) (fun _ _ _ _ _ => (pg_name (i := 6) nd rfl (Or.inl rfl))) (fun _ _ _ _ _ => pts_nil) (fun _ _ _ _ _ => (pv 6)) (fun _ _ _ _ _ => (pe_tup (pa_cons (pe_dget (hu_of hr) (pv 3) (pv 6) (fun _ _ => rfl)) (pa_cons (pe_dget (hu_of hr) (pv 4) (pv 6) (fun _ _ => rfl)) pa_nil))))))))))))), ?_⟩
  rintro M G B es μ mo μ' ⟨cs, wt, ds, rfl, rfl, rfl, ok, hds, rfl⟩ D fin
  show FD.Run _ _ D M [.g (gBook Cb cs), .g (gDK (wK wt ds)), .u, .u, .u, .u, .u, .u] []
  have tot := ok.tot
  have lS := S_len cs
  have nS := bk_nd ok
  have lbk : (bk cs).S = S cs := rfl
  rw [lbk] at nS
  refine q_asgEN (a_cons (x_vg rfl) a_nil) (swap_nil _) (by simp) ⟨cs, rfl, rfl, rfl, ok, rfl⟩ fun p1 p1M => ?_
  show FD.Run _ _ D (p1 :: M) [.g (gBook Cb cs), .g (gDK (wK wt ds)), .m p1, .u, .u, .u, .u, .u] [(p1, .dT (exT cs (S cs)))]
  have kex : ((exT cs (S cs)).map (·.1)).map rowK = (S cs).map stD := by rw [exT_keys, List.map_map]; rfl
  refine q_asgNw (n_lockT (j := 0) rfl fun od ws => n_dcE (C := ⟨K, M, G, B⟩) (M := p1 :: M) (g := gName 6) (vs := [6]) costD (S cs) nS (bk cs).isEnd (fun _ => ((0, 0) : CK.Cost)) (by
      have h := i_keysT (C := ⟨K, M, G, B⟩) (M := p1 :: M) (δ := [.g (gBook Cb cs), .g (gDK (wK wt ds)), .m p1, .u, .u, .u, .u, .u]) (μ := [(p1, .fT od ws (exT cs (S cs)))]) (x_vm (i := 2) rfl) (od := od) (ws := ws) (l := exT cs (S cs)) (by simp)
      rw [kex] at h
      exact h) (fun B' q mo' σ H o => ok_frzT (l := exT cs (S cs)) (by simp) o) (by omega) (fun st hst B' q mo' => ⟨[6], _, tg_name, fun k hk => hk, t_test (x_meth (x_vg rfl) (.g _ _) (noM _ _ _ (by decide +kernel) (by decide +kernel) (by decide +kernel)) (a_cons (x_vd rfl) a_nil) (cX_E0 ⟨cs, st, rfl, rfl, rfl, ok, S_mem.mp hst, rfl⟩)), fun _ => ⟨x_vd rfl, x_tup (ds := [.int 0, .int 0]) (a_cons x_int (a_cons x_int a_nil)) (by simp)⟩⟩)) fun p2 p2M => ?_
  show FD.Run _ _ D (p2 :: p1 :: M) [.g (gBook Cb cs), .g (gDK (wK wt ds)), .m p1, .m p2, .u, .u, .u, .u] [(p2, .dT (encT costD (CK.T0 (bk cs)))), (p1, .dT (exT cs (S cs)))]
  have k0 : ((encT costD (CK.T0 (bk cs))).map (·.1)).map rowK = ((S cs).filter (bk cs).isEnd).map stD := by
    rw [encT_keys, CK.t0_keys, List.map_map]; rfl
  have l0 : ((S cs).filter (bk cs).isEnd).length ≤ (S cs).length := List.length_filter_le _ _
  refine q_asgNw (n_lockT (j := 0) rfl fun od ws => n_dcE (C := ⟨K, M, G, B⟩) (M := p2 :: p1 :: M) (g := gName 6) (vs := [6]) (tt := tYes) wayD ((S cs).filter (bk cs).isEnd) (nS.filter _) (fun _ => true) (fun _ => (none : Option Nat)) (by
      have h := i_keysT (C := ⟨K, M, G, B⟩) (M := p2 :: p1 :: M) (δ := [.g (gBook Cb cs), .g (gDK (wK wt ds)), .m p1, .m p2, .u, .u, .u, .u]) (μ := [(p2, .fT od ws (encT costD (CK.T0 (bk cs)))), (p1, .dT (exT cs (S cs)))]) (x_vm (i := 3) rfl) (od := od) (ws := ws) (l := encT costD (CK.T0 (bk cs))) (by simp)
      rw [k0] at h
      exact h) (fun B' q mo' σ H o => ok_frzT (l := encT costD (CK.T0 (bk cs))) (by simp) o) (by omega) (fun st hst B' q mo' => ⟨[6], _, tg_name, fun k hk => hk, t_yes, fun _ => ⟨x_vd rfl, x_tup (ds := [.str "end"]) (a_cons x_str a_nil) (by simp)⟩⟩)) fun p3 p3M => ?_
  have c0 : (((S cs).filter (bk cs).isEnd).filter (fun _ => true)).map (fun s => ((s, none) : Stg × Option Nat)) = chT wt cs 0 := by
    unfold chT
    rw [List.filter_eq_self.mpr fun _ _ => rfl]
    simp
  rw [c0]
  refine q_asg (e := .d (.bool true)) x_bl ?_
  show FD.Run _ _ D (p3 :: p2 :: p1 :: M) [.g (gBook Cb cs), .g (gDK (wK wt ds)), .m p1, .m p2, .m p3, .d (.bool true), .u, .u] [(p3, .dT (encT wayD (chT wt cs 0))), (p2, .dT (encT costD (CK.T0 (bk cs)))), (p1, .dT (exT cs (S cs)))]
  have hdl : ∀ {s : Stg}, s ∈ stages cs → ∀ q ∈ exL (crs cs s.1) s.2, q.1.call = false → q.1.nm ∈ ds := fun {s} sm q hq hc =>
    hds _ (crs_mem (stg_crs sm)).1 q.1 (List.mem_of_getElem? (exL_mem hq).1) hc
  have lnb : ∀ (s : Stg), (bk cs).ln s = (exL (crs cs s.1) s.2).map (lineOf s.1) := fun s => rfl
  obtain ⟨sf, sb⟩ := CK.stop_ok wt (B := bk cs) nS
  generalize hNs : CK.stop wt (bk cs) = Ns at sf sb
  refine FD.q_while (fun m δ μ => ∃ (i : Nat) (ch : Bool) (e6 e7 : Ent), δ = [.g (gBook Cb cs), .g (gDK (wK wt ds)), .m p1, .m p2, .m p3, .d (.bool ch), e6, e7] ∧ μ = [(p3, .dT (encT wayD (chT wt cs 0))), (p2, .dT (encT costD (CK.it wt (bk cs) i))), (p1, .dT (exT cs (S cs)))] ∧
      ((ch = true ∧ i ≤ Ns ∧ m = Ns + 1 - i) ∨ (ch = false ∧ i = Ns))) (Ns + 1) ⟨0, true, _, _, rfl, rfl, .inl ⟨rfl, Nat.zero_le _, rfl⟩⟩ ?_
  rintro m δ1 μ1 ⟨it, ch, e6, e7, rfl, rfl, hm⟩
  refine ⟨ch, _, t_test (x_vd rfl), fun hch => ?_, fun hch => ?_⟩
  · subst hch
    obtain ⟨hi, hm⟩ : it ≤ Ns ∧ m = Ns + 1 - it := by
      rcases hm with ⟨_, h1, h2⟩ | ⟨h, _⟩
      · exact ⟨h1, h2⟩
      · cases h
    have g0 : CK.Go wt (bk cs) (CK.it wt (bk cs) it) := CK.go_it wt nS it
    have eit : CK.it wt (bk cs) (it + 1) = (CK.round wt (bk cs) (CK.it wt (bk cs) it)).1 := rfl
    have sbi : it < Ns → (CK.round wt (bk cs) (CK.it wt (bk cs) it)).2 = true := sb it
    obtain ⟨Tb, hTb⟩ : ∃ Tb, Tb = CK.it wt (bk cs) it := ⟨_, rfl⟩
    rw [← hTb] at g0 eit sbi
    rw [← hTb]
    refine q_asg (e := .d (.bool false)) x_bl ?_
    show FD.Run _ _ _ (p3 :: p2 :: p1 :: M) [.g (gBook Cb cs), .g (gDK (wK wt ds)), .m p1, .m p2, .m p3, .d (.bool false), e6, e7] [(p3, .dT (encT wayD (chT wt cs 0))), (p2, .dT (encT costD Tb)), (p1, .dT (exT cs (S cs)))]
    refine r_forA (l := (S cs).reverse) (enc := stD) (by
        have h := i_rev (C := ⟨K, M, G, B⟩) (a_cons (x_cbP (a_cons (x_vm (M := p3 :: p2 :: p1 :: M) (μ := [(p3, .dT (encT wayD (chT wt cs 0))), (p2, .dT (encT costD Tb)), (p1, .dT (exT cs (S cs)))]) (δ := [.g (gBook Cb cs), .g (gDK (wK wt ds)), .m p1, .m p2, .m p3, .d (.bool false), e6, e7]) (i := 2) rfl) a_nil) (c_listT (l := exT cs (S cs)) (.m (by simp)))) a_nil)
        rw [exT_keys, List.map_map, ← List.map_reverse] at h
        exact h)
      (fun i δ μ => ∃ (st : CK.Tab Stg CK.Cost × Bool) (e6 e7 : Ent), δ = [.g (gBook Cb cs), .g (gDK (wK wt ds)), .m p1, .m p2, .m p3, .d (.bool st.2), e6, e7] ∧ μ = [(p3, .dT (encT wayD (chT wt cs 0))), (p2, .dT (encT costD st.1)), (p1, .dT (exT cs (S cs)))] ∧ CK.Rd wt (bk cs) Tb ((S cs).reverse.take i) st) ⟨(Tb, false), _, _, rfl, rfl, CK.rd_nil g0⟩ ?_ ?_
    · rintro B' xB i s δ1 μ1 hs ⟨⟨Tc, c⟩, e6, e7, rfl, rfl, r⟩
      have sS : s ∈ S cs := List.mem_reverse.mp (List.mem_of_getElem? hs)
      have sm := S_mem.mp sS
      obtain ⟨cm, cn⟩ := crs_mem (stg_crs sm)
      have ls := exL_len (i := s.2) (ok.ok _ cm).few
      refine ⟨_, _, tg_name, ?_⟩
      show FD.Run _ _ _ (p3 :: p2 :: p1 :: M) [.g (gBook Cb cs), .g (gDK (wK wt ds)), .m p1, .m p2, .m p3, .d (.bool c), .d (stD s), e7] [(p3, .dT (encT wayD (chT wt cs 0))), (p2, .dT (encT costD Tc)), (p1, .dT (exT cs (S cs)))]
      have r' := CK.rd_turn r (s := s) sS
      have tk : (S cs).reverse.take (i + 1) = (S cs).reverse.take i ++ [s] := by rw [List.take_add_one, hs]; rfl
      rw [← tk] at r'
      refine q_asg (e := .d (bestD (CK.lc wt ((bk cs).ln s) Tc))) (x_callE1 (a := p2) (mo := .dT (encT costD Tc)) (a_cons (x_vg rfl) (a_cons (x_tgetD (k := stK s) (x_vm rfl) (x_vd rfl) (.m (by simp)) (valG_ex nS sS)) (a_cons (x_vm rfl) a_nil))) (by simp) ⟨wt, ds, s.1, exL (crs cs s.1) s.2, p2, _, Tc, rfl, rfl, rfl, .inl rfl, hdl sm, ls, rfl⟩) ?_
      show FD.Run _ _ _ (p3 :: p2 :: p1 :: M) [.g (gBook Cb cs), .g (gDK (wK wt ds)), .m p1, .m p2, .m p3, .d (.bool c), .d (stD s), .d (bestD (CK.lc wt ((bk cs).ln s) Tc))] [(p3, .dT (encT wayD (chT wt cs 0))), (p2, .dT (encT costD Tc)), (p1, .dT (exT cs (S cs)))]
      have few : Tc.length ≤ (S cs).length := r.go.few
      have TDc : TD [(p3, .dT (encT wayD (chT wt cs 0))), (p2, .dT (encT costD Tc)), (p1, .dT (exT cs (S cs)))] (.m p2) (encT costD Tc) := .m (by simp)
      cases hv : CK.lc wt ((bk cs).ln s) Tc with
      | none =>
        have et : CK.turn wt (bk cs) (Tc, c) s = (Tc, c) := CK.turn_none hv
        rw [et] at r'
        refine r_no (t_and (b := false) (c := false) (t_test (x_is (x_op (x_vd rfl) x_non o_notN) rfl)) (fun z => nomatch z) fun _ => rfl) ?_
        exact fun σ H o => ⟨_, _, ⟨(Tc, c), _, _, rfl, rfl, r'⟩, o⟩
      | some v =>
        cases hval : CK.val Tc s with
        | none =>
          have hn : CK.has Tc s = false := CK.has_false.mpr hval
          have et : CK.turn wt (bk cs) (Tc, c) s = (CK.put Tc s v.1, true) := CK.turn_put hv (.inl hn)
          rw [et] at r'
          refine r_if (b := true) (t_and (b := true) (c := true) (t_test (x_is (x_op (x_vd rfl) x_non o_notN) rfl)) (fun _ => t_or (b := true) (c := true) (t_test (x_is (x_tnotin (k := stK s) (x_vd rfl) (x_vm rfl) TDc) (by rw [isSome_enc, hn]; rfl))) (fun z => nomatch z) fun _ => rfl) fun z => nomatch z) (fun _ => ?_) fun z => nomatch z
          refine q_tput (j := 1) (k := stK s) (φ := gD (costD v.1)) (x_op (x_vd rfl) x_int (o_ixT (d := costD v.1) rfl)) (x_vm rfl) (x_vd rfl) (entG_d _) rfl (by rw [encT_len]; omega) ?_
          show FD.Run _ _ _ _ _ [(p3, .dT (encT wayD (chT wt cs 0))), (p2, .dT (putG (encT costD Tc) (stK s) (gD (costD v.1)))), (p1, .dT (exT cs (S cs)))]
          rw [enc_put]
          refine r_asg (e := .d (.bool true)) x_bl ?_
          exact fun σ H o => ⟨_, _, ⟨(CK.put Tc s v.1, true), _, _, rfl, rfl, r'⟩, o⟩
        | some u =>
          have hn : CK.has Tc s = true := CK.has_of hval
          have gu : CK.g Tc s = u := CK.g_val hval
          refine r_if (b := CK.clt v.1 u) (t_is (t_and (b := true) (c := CK.clt v.1 u) (t_test (x_is (x_op (x_vd rfl) x_non o_notN) rfl)) (fun _ => t_is (t_or (b := false) (c := CK.clt v.1 u) (t_test (x_is (x_tnotin (k := stK s) (x_vd rfl) (x_vm rfl) TDc) (by rw [isSome_enc, hn]; rfl))) (fun _ => t_is (t_test (x_op (x_op (x_vd rfl) x_int (o_ixT (d := costD v.1) rfl)) (x_tgetD (k := stK s) (d := costD u) (x_vm rfl) (x_vd rfl) TDc (by rw [valG_enc, hval]; rfl)) (o_ltI (ns := [(v.1.1 : Int), (v.1.2 : Int)]) (ms := [(u.1 : Int), (u.2 : Int)])))) (lex_pair _ _ _ _)) fun z => nomatch z) rfl) fun z => nomatch z) rfl) (fun hb => ?_) fun hb => ?_
          · have et : CK.turn wt (bk cs) (Tc, c) s = (CK.put Tc s v.1, true) := CK.turn_put hv (.inr (by show CK.clt v.1 (CK.g Tc s) = true; rw [gu]; exact hb))
            rw [et] at r'
            refine q_tput (j := 1) (k := stK s) (φ := gD (costD v.1)) (x_op (x_vd rfl) x_int (o_ixT (d := costD v.1) rfl)) (x_vm rfl) (x_vd rfl) (entG_d _) rfl (by rw [encT_len]; omega) ?_
            show FD.Run _ _ _ _ _ [(p3, .dT (encT wayD (chT wt cs 0))), (p2, .dT (putG (encT costD Tc) (stK s) (gD (costD v.1)))), (p1, .dT (exT cs (S cs)))]
            rw [enc_put]
            refine r_asg (e := .d (.bool true)) x_bl ?_
            exact fun σ H o => ⟨_, _, ⟨(CK.put Tc s v.1, true), _, _, rfl, rfl, r'⟩, o⟩
          · have et : CK.turn wt (bk cs) (Tc, c) s = (Tc, c) := CK.turn_keep hv hn (by show CK.clt v.1 (CK.g Tc s) = false; rw [gu]; exact hb)
            rw [et] at r'
            exact r_next fun σ H o => ⟨_, _, ⟨(Tc, c), _, _, rfl, rfl, r'⟩, o⟩
    · rintro δ1 μ1 ⟨⟨Tc, c⟩, e6, e7, rfl, rfl, r⟩
      rw [List.length_reverse, ← List.length_reverse, List.take_length] at r
      have er : (Tc, c) = CK.round wt (bk cs) Tb := r.eq
      have e1 : Tc = CK.it wt (bk cs) (it + 1) := by rw [eit, ← er]
      refine fun σ H o => ⟨_, _, ?_, o⟩
      cases c with
      | true =>
        have lt : it < Ns := by
          rcases Nat.lt_or_ge it Ns with h | h
          · exact h
          · exfalso
            have : it = Ns := Nat.le_antisymm hi h
            have h2 : (CK.round wt (bk cs) Tb).2 = false := by rw [hTb, this]; exact sf
            rw [← er] at h2
            cases h2
        exact ⟨Ns + 1 - (it + 1), (by omega), it + 1, true, _, _, rfl, (by rw [e1]), .inl ⟨rfl, lt, rfl⟩⟩
      | false =>
        have ei : it = Ns := by
          rcases Nat.lt_or_ge it Ns with h | h
          · have := sbi h
            rw [← er] at this
            cases this
          · exact Nat.le_antisymm hi h
        have e2 : Tc = Tb := (r.same rfl).1
        exact ⟨0, (by omega), Ns, false, _, _, rfl, (by rw [e2, hTb, ei]), .inr ⟨rfl, rfl⟩⟩
  · have hit : it = Ns := by
      rcases hm with ⟨h, _⟩ | ⟨_, h⟩
      · rw [hch] at h; cases h
      · exact h
    subst hit
    have eT : CK.it wt (bk cs) it = TT wt cs := by unfold TT CK.fin; rw [hNs]
    rw [eT]
    have rt := tt_right wt ok
    have few : (TT wt cs).length ≤ (S cs).length := by
      have := CK.nd_len rt.nd (fun s hs => rt.keys s (CK.has_mem.mpr hs))
      rwa [List.length_map] at this
    have ktt : ((encT costD (TT wt cs)).map (·.1)).map rowK = ((TT wt cs).map (·.1)).map stD := by
      rw [encT_keys, List.map_map]; rfl
    show FD.Run _ _ D (p3 :: p2 :: p1 :: M) [.g (gBook Cb cs), .g (gDK (wK wt ds)), .m p1, .m p2, .m p3, .d (.bool ch), e6, e7] [(p3, .dT (encT wayD (chT wt cs 0))), (p2, .dT (encT costD (TT wt cs))), (p1, .dT (exT cs (S cs)))]
    have chl : ∀ n, (chT wt cs n).length ≤ 120 := fun n => by
      have h1 := List.length_filter_le (bk cs).isEnd (S cs)
      have h2 := List.length_filter_le (fun s => !(bk cs).isEnd s) (((TT wt cs).map (·.1)).take n)
      rw [List.length_take, List.length_map] at h2
      unfold chT
      rw [List.length_append, List.length_map, List.length_map]
      omega
    refine q_lockT (j := 1) rfl fun od ws => ?_
    show FD.Run _ _ _ (p3 :: p2 :: p1 :: M) _ [(p3, .dT (encT wayD (chT wt cs 0))), (p2, .fT od ws (encT costD (TT wt cs))), (p1, .dT (exT cs (S cs)))]
    have hin : ∀ n, (p2, MO.fT od ws (encT costD (TT wt cs))) ∈ [(p3, MO.dT (encT wayD (chT wt cs n))), (p2, MO.fT od ws (encT costD (TT wt cs))), (p1, MO.dT (exT cs (S cs)))] := fun n => by simp
    refine r_forN (i_keysT (x_vm rfl) (hin 0)) (fun i δ μ => (∃ e6 e7, δ = [.g (gBook Cb cs), .g (gDK (wK wt ds)), .m p1, .m p2, .m p3, .d (.bool ch), e6, e7]) ∧ μ = [(p3, .dT (encT wayD (chT wt cs i))), (p2, .fT od ws (encT costD (TT wt cs))), (p1, .dT (exT cs (S cs)))]) (fun i B δ1 μ1 σ H _ hP o => by
      obtain ⟨_, rfl⟩ := hP
      exact ok_frzT (hin _) o) ⟨⟨_, _, rfl⟩, rfl⟩ ?_ ?_
    · rintro B' hB i d1 δ1 μ1 hi ⟨⟨e6, e7, rfl⟩, rfl⟩
      rw [ktt, List.getElem?_map] at hi
      cases hs : ((TT wt cs).map (·.1))[i]? with
      | none => rw [hs] at hi; cases hi
      | some s =>
        rw [hs] at hi
        have hi := Option.some.inj hi
        subst hi
        have hk : CK.has (TT wt cs) s = true := CK.has_mem.mpr (List.mem_of_getElem? hs)
        have sS : s ∈ S cs := rt.keys s hk
        have sm := S_mem.mp sS
        obtain ⟨cm, cn⟩ := crs_mem (stg_crs sm)
        have ls := exL_len (i := s.2) (ok.ok _ cm).few
        have tk1 : ((TT wt cs).map (·.1)).take (i + 1) = ((TT wt cs).map (·.1)).take i ++ [s] := by rw [List.take_add_one, hs]; rfl
        have nin : s ∉ ((TT wt cs).map (·.1)).take i := fun z => by
          obtain ⟨m, hm⟩ := List.getElem?_of_mem z
          have ml := (List.getElem?_eq_some_iff.mp hm).1
          rw [List.length_take] at ml
          rw [List.getElem?_take, if_pos (by omega)] at hm
          obtain ⟨l1, g1⟩ := List.getElem?_eq_some_iff.mp hm
          obtain ⟨l2, g2⟩ := List.getElem?_eq_some_iff.mp hs
          exact List.pairwise_iff_getElem.mp rt.nd m i l1 l2 (by omega) (g1.trans g2.symm)
        refine ⟨[6], _, tg_name, ?_⟩
        show FD.Run _ _ _ (p3 :: p2 :: p1 :: M) [.g (gBook Cb cs), .g (gDK (wK wt ds)), .m p1, .m p2, .m p3, .d (.bool ch), .d (stD s), e7] [(p3, .dT (encT wayD (chT wt cs i))), (p2, .fT od ws (encT costD (TT wt cs))), (p1, .dT (exT cs (S cs)))]
        cases he : (bk cs).isEnd s with
        | true =>
          have hv : CK.has (chT wt cs i) s = true := by
            unfold CK.has
            rw [chT_end (List.mem_filter.mpr ⟨sS, he⟩)]; rfl
          refine r_no (t_is (t_test (x_tnotin (k := stK s) (x_vd rfl) (x_vm rfl) (.m (l := encT wayD (chT wt cs i)) (by simp)))) (by rw [isSome_enc, hv]; rfl)) ?_
          refine fun σ H o => ⟨_, _, ⟨⟨_, _, rfl⟩, ?_⟩, o⟩
          unfold chT
          rw [tk1, List.filter_append, show [s].filter (fun s => !(bk cs).isEnd s) = [] by rw [List.filter_cons, he]; rfl, List.append_nil]
        | false =>
          have hv : CK.has (chT wt cs i) s = false := by
            unfold CK.has
            rw [chT_no (fun z => by have := (List.mem_filter.mp z).2; rw [he] at this; cases this) (fun z => nin (List.mem_filter.mp z).1)]; rfl
          refine r_if (b := true) (t_is (t_test (x_tnotin (k := stK s) (x_vd rfl) (x_vm rfl) (.m (l := encT wayD (chT wt cs i)) (by simp)))) (by rw [isSome_enc, hv]; rfl)) (fun _ => ?_) fun z => nomatch z
          refine q_asg (e := .d (bestD (CK.lc wt ((bk cs).ln s) (TT wt cs)))) (x_callE1 (a := p2) (mo := .fT od ws (encT costD (TT wt cs))) (a_cons (x_vg rfl) (a_cons (x_tgetD (k := stK s) (x_vm rfl) (x_vd rfl) (.m (by simp)) (valG_ex nS sS)) (a_cons (x_vm rfl) a_nil))) (by simp) ⟨wt, ds, s.1, exL (crs cs s.1) s.2, p2, _, TT wt cs, rfl, rfl, rfl, .inr ⟨_, _, rfl⟩, hdl sm, ls, rfl⟩) ?_
          show FD.Run _ _ _ (p3 :: p2 :: p1 :: M) [.g (gBook Cb cs), .g (gDK (wK wt ds)), .m p1, .m p2, .m p3, .d (.bool ch), .d (stD s), .d (bestD (CK.lc wt ((bk cs).ln s) (TT wt cs)))] [(p3, .dT (encT wayD (chT wt cs i))), (p2, .fT od ws (encT costD (TT wt cs))), (p1, .dT (exT cs (S cs)))]
          obtain ⟨v, hlc⟩ : ∃ v, CK.lc wt ((bk cs).ln s) (TT wt cs) = some v := by
            rcases rt.is s hk with ⟨h, _⟩ | ⟨_, l, hl, _, ha, _⟩
            · rw [he] at h; cases h
            · refine Option.ne_none_iff_exists'.mp fun z => ?_
              rw [CK.lc_none.mp z l hl] at ha; cases ha
          have hw : wy wt cs s = some v.2 := by
            unfold wy CK.way
            rw [if_neg (by rw [he]; simp), hlc]; rfl
          rw [hlc]
          refine r_tput (j := 0) (k := stK s) (φ := gD (wayD (some v.2))) (x_tup (ds := [.str "step", .int (v.2 : Int)]) (a_cons x_str (a_cons (x_op (x_vd rfl) x_int (o_ixT (d := .int (v.2 : Int)) rfl)) a_nil)) (by simp)) (x_vm rfl) (x_vd rfl) (entG_d _) rfl (by rw [encT_len]; have := chl i; omega) ?_
          refine fun σ H o => ⟨_, _, ⟨⟨_, _, rfl⟩, ?_⟩, o⟩
          show [(p3, MO.dT (putG (encT wayD (chT wt cs i)) (stK s) (gD (wayD (some v.2))))), _, _] = [(p3, MO.dT (encT wayD (chT wt cs (i + 1)))), _, _]
          rw [enc_put]
          unfold CK.put
          rw [if_neg (by rw [hv]; simp)]
          unfold chT
          rw [tk1, List.filter_append, show [s].filter (fun s => !(bk cs).isEnd s) = [s] by rw [List.filter_cons, he]; rfl, List.map_append, ← hw, ← List.append_assoc]; rfl
    · rintro δ1 μ1 ⟨⟨e6, e7, rfl⟩, rfl⟩
      rw [ktt, List.length_map]
      refine lk_nxT (μ := [(p3, .dT (encT wayD (chT wt cs ((TT wt cs).map (·.1)).length))), (p2, .dT (encT costD (TT wt cs))), (p1, .dT (exT cs (S cs)))]) (j := 1) rfl ?_
      have hch : ∀ s ∈ keysL wt cs, CK.val (chT wt cs ((TT wt cs).map (·.1)).length) s = some (wy wt cs s) := fun s hs => by
        have hk := (keysL_mem ok).mp hs
        cases he : (bk cs).isEnd s with
        | true =>
          rw [chT_end (List.mem_filter.mpr ⟨rt.keys s hk, he⟩)]
          unfold wy CK.way
          rw [if_pos he]
        | false => rw [chT_new (fun z => by have := (List.mem_filter.mp z).2; rw [he] at this; cases this) (List.mem_filter.mpr ⟨by rw [List.take_length]; exact CK.has_mem.mp hk, by rw [he]; rfl⟩)]
      generalize chT wt cs ((TT wt cs).map (·.1)).length = cht at hch
      have perm : ((TT wt cs).map (·.1)).Perm (keysL wt cs) := (List.perm_ext_iff_of_nodup rt.nd (keysL_nd wt ok)).mpr fun s => by
        rw [keysL_mem ok, CK.has_mem]
      have lk := keysL_len wt ok
      suffices key : FD.Run ⟨K, M, G, B⟩ (tRet (tDcT (iList K (tCB FD.rSortedT (tCons (tVar 3) tNil))) (gName 6) tYes (tVar 6) (tTup (tCons (tDGet (tVar 3) (tVar 6)) (tCons (tDGet (tVar 4) (tVar 6)) tNil))) [6])) D (p3 :: p2 :: p1 :: M) [.g (gBook Cb cs), .g (gDK (wK wt ds)), .m p1, .m p2, .m p3, .d (.bool ch), e6, e7] [(p3, .dT (encT wayD cht)), (p2, .dT (encT costD (TT wt cs))), (p1, .dT (exT cs (S cs)))] from key
      refine r_retNn (mo := .dT (cbT wt cs)) (μ' := []) (μ1 := [(p3, .dT (encT wayD cht)), (p2, .dT (encT costD (TT wt cs))), (p1, .dT (exT cs (S cs)))]) ?_ (fun q hq => absurd hq (by simp)) fin
      have h := n_dcE (C := ⟨K, M, G, B⟩) (M := p3 :: p2 :: p1 :: M) (δ := [.g (gBook Cb cs), .g (gDK (wK wt ds)), .m p1, .m p2, .m p3, .d (.bool ch), e6, e7]) (μ := [(p3, .dT (encT wayD cht)), (p2, .dT (encT costD (TT wt cs))), (p1, .dT (exT cs (S cs)))]) (μ' := [(p3, .dT (encT wayD cht)), (p2, .dT (encT costD (TT wt cs))), (p1, .dT (exT cs (S cs)))]) (g := gName 6) (tt := tYes) (tk := tVar 6) (tv := tTup (tCons (tDGet (tVar 3) (tVar 6)) (tCons (tDGet (tVar 4) (tVar 6)) tNil))) (vs := [6]) cwD (keysL wt cs) (keysL_nd wt ok) (fun _ => true) (fun s => (CK.g (TT wt cs) s, wy wt cs s))
        (i_list (te := tCB rSortedT (tCons (tVar 3) tNil)) (x_is (x_cbP (a_cons (x_vm rfl) a_nil) (c_sortedT (l := encT costD (TT wt cs)) (m := (keysL wt cs).map stK) (.m (by simp)) (by rw [encT_keys]; exact one_shape _) (by rw [encT_len]; omega) (fun L pL aL => by
          rw [encT_keys] at pL
          exact asc_sub _ aL (pL.trans (perm.map _))))) (by rw [List.map_map]; rfl))).toN (fun _ _ _ _ _ _ => trivial) (by omega) (fun s hs B' q mo' => ⟨[6], _, tg_name, fun k hk => hk, t_yes, fun _ => ⟨x_vd rfl, ?_⟩⟩)
      · rw [List.filter_eq_self.mpr fun _ _ => rfl] at h
        exact h
      · have hk := (keysL_mem ok).mp hs
        obtain ⟨v, hv⟩ := CK.has_val hk
        refine x_tup (ds := [costD (CK.g (TT wt cs) s), wayD (wy wt cs s)]) (a_cons (x_tgetD (k := stK s) (l := encT costD (TT wt cs)) (x_vm rfl) (x_vd rfl) (.m (by simp)) ?_) (a_cons (x_tgetD (k := stK s) (l := encT wayD cht) (x_vm rfl) (x_vd rfl) (.m (by simp)) ?_) a_nil)) (by simp)
        · rw [valG_enc, hv, CK.g_val hv]; rfl
        · rw [valG_enc, hch s hs]; rfl
abbrev nLp : List Str := ["book", "prices", "table", "stage"]
theorem scLp : FnScope nLp ["book", "prices"] (defScope sLp) := ⟨rfl, rfl, rfl, by decide +kernel, rfl, by decide +kernel, by decide +kernel⟩
theorem ok_lp {f : Addr} {fd : FuncData} (T : Txt K mg Cb) (F : Fun K "least_prices" "least_prices" sLp f fd) {f1 : Addr} {fd1 : FuncData} (H1 : Has K mg "costs_by" sCb ["book", "weights"] f1 fd1) (G1 : FnOk P w K mg base CX0 4 f1 fd1 ["book", "weights"] (spEN K 2 (Rcb Cb))) : FnOk P w K mg base CX0 5 f fd ["book", "prices"] (spEN K 2 (Rlp Cb)) := by
  refine def_EN F scLp (by decide) rfl fun cdv A outer s H E hr => ?_
  have nd := scLp.nd
  refine ⟨_, (pss_cons (ps_set (i := 2) nd rfl (Or.inr rfl) (pe_call G1 hr rfl H1.m H1.F.kp H1.b .nil pass0 (pa_cons (pv 0) (pa_cons (pv 1) pa_nil))))
 (pss_one (ps_ret (pe_lock (pe_dcT hr.units0 (own := [("stage", 3)]) (g := (gName 3)) (tt := tYes) rfl nd (pi_keys (pv 2)) (blkOk_by (N := nLp) (sc := defScope sLp) (by decide +kernel)) (fun _ _ _ _ _ => (pg_name (i := 3) nd rfl (Or.inl rfl))) (fun _ _ _ _ _ => pts_nil) (fun _ _ _ _ _ => (pv 3)) (fun _ _ _ _ _ => (pe_ix (kix_tup (K := K) rfl) (pe_ix (kix_tup (K := K) rfl) (pe_dget (hu_of hr) (pv 2) (pv 3) (fun _ _ => rfl)) pe_int (fun _ _ => rfl)) pe_int (fun _ _ => rfl)))))))), ?_⟩
  rintro M G B es μ mo μ' ⟨cs, wt, ds, rfl, rfl, rfl, ok, hds, rfl⟩ D fin
  show FD.Run _ _ D M [.g (gBook Cb cs), .g (gDK (wK wt ds)), .u, .u] []
  refine q_asgEN (a_cons (x_vg rfl) (a_cons (x_vg rfl) a_nil)) (swap_nil _) (by simp) ⟨cs, wt, ds, rfl, rfl, rfl, ok, hds, rfl⟩ fun p pM => ?_
  show FD.Run _ _ D (p :: M) [.g (gBook Cb cs), .g (gDK (wK wt ds)), .m p, .u] [(p, .dT (cbT wt cs))]
  have lk := keysL_len wt ok
  refine r_retNn (mo := .dT (lpT wt cs)) (μ' := []) (μ1 := [(p, .dT (cbT wt cs))]) (n_lockT (j := 0) rfl fun od ws => ?_) (fun q hq => absurd hq (by simp)) fin
  have h := n_dcE (C := ⟨K, M, G, B⟩) (M := p :: M) (δ := [.g (gBook Cb cs), .g (gDK (wK wt ds)), .m p, .u]) (μ := [(p, .fT od ws (cbT wt cs))]) (μ' := [(p, .fT od ws (cbT wt cs))]) (wi := iKeys (tVar 2)) (g := gName 3) (tt := tYes) (tk := tVar 3) (tv := tOp (rIxT K) (tOp (rIxT K) (tDGet (tVar 2) (tVar 3)) (tC (.int 0))) (tC (.int 0))) (vs := [3]) (fun n : Nat => PyData.int (n : Int)) (keysL wt cs) (keysL_nd wt ok) (fun _ => true) (fun s => (CK.g (TT wt cs) s).1)
    (by
      have h := i_keysT (C := ⟨K, M, G, B⟩) (M := p :: M) (δ := [.g (gBook Cb cs), .g (gDK (wK wt ds)), .m p, .u]) (μ := [(p, .fT od ws (cbT wt cs))]) (x_vm (i := 2) rfl) (od := od) (ws := ws) (l := cbT wt cs) (by simp)
      rw [show ((cbT wt cs).map (·.1)).map rowK = (keysL wt cs).map stD from tab_keys _ _ _ _] at h
      exact h) (fun B' q mo' σ H o => ok_frzT (l := cbT wt cs) (by simp) o) (by omega) (fun s hs B' q mo' => ⟨[3], _, tg_name, fun k hk => hk, t_yes, fun _ => ⟨x_vd rfl, x_op (x_op (x_tgetD (k := stK s) (l := cbT wt cs) (x_vm rfl) (x_vd rfl) (.f (od := od) (ws := ws) (by simp)) (valG_tab cwD _ hs)) x_int (o_ixT (d := costD (CK.g (TT wt cs) s)) rfl)) x_int (o_ixT (d := .int ((CK.g (TT wt cs) s).1 : Int)) rfl)⟩⟩)
  rw [List.filter_eq_self.mpr fun _ _ => rfl] at h
  exact h
abbrev nPw : List Str := ["book", "prices", "table", "stage"]
theorem scPw : FnScope nPw ["book", "prices"] (defScope sPw) := ⟨rfl, rfl, rfl, by decide +kernel, rfl, by decide +kernel, by decide +kernel⟩
theorem ok_pw {f : Addr} {fd : FuncData} (T : Txt K mg Cb) (F : Fun K "price_ways" "price_ways" sPw f fd) {f1 : Addr} {fd1 : FuncData} (H1 : Has K mg "costs_by" sCb ["book", "weights"] f1 fd1) (G1 : FnOk P w K mg base CX0 4 f1 fd1 ["book", "weights"] (spEN K 2 (Rcb Cb))) : FnOk P w K mg base CX0 5 f fd ["book", "prices"] (spEN K 2 (Rpw Cb)) := by
  refine def_EN F scPw (by decide) rfl fun cdv A outer s H E hr => ?_
  have nd := scPw.nd
  refine ⟨_, (pss_cons (ps_set (i := 2) nd rfl (Or.inr rfl) (pe_call G1 hr rfl H1.m H1.F.kp H1.b .nil pass0 (pa_cons (pv 0) (pa_cons (pv 1) pa_nil))))
 (pss_one (ps_ret (pe_lock (pe_dcT hr.units0 (own := [("stage", 3)]) (g := (gName 3)) (tt := tYes) rfl nd (pi_keys (pv 2)) (blkOk_by (N := nPw) (sc := defScope sPw) (by decide +kernel)) (fun _ _ _ _ _ => (pg_name (i := 3) nd rfl (Or.inl rfl))) (fun _ _ _ _ _ => pts_nil) (fun _ _ _ _ _ => (pv 3)) (fun _ _ _ _ _ => (pe_ix (kix_tup (K := K) rfl) (pe_dget (hu_of hr) (pv 2) (pv 3) (fun _ _ => rfl)) pe_int (fun _ _ => rfl)))))))), ?_⟩
  rintro M G B es μ mo μ' ⟨cs, wt, ds, rfl, rfl, rfl, ok, hds, rfl⟩ D fin
  show FD.Run _ _ D M [.g (gBook Cb cs), .g (gDK (wK wt ds)), .u, .u] []
  refine q_asgEN (a_cons (x_vg rfl) (a_cons (x_vg rfl) a_nil)) (swap_nil _) (by simp) ⟨cs, wt, ds, rfl, rfl, rfl, ok, hds, rfl⟩ fun p pM => ?_
  show FD.Run _ _ D (p :: M) [.g (gBook Cb cs), .g (gDK (wK wt ds)), .m p, .u] [(p, .dT (cbT wt cs))]
  have lk := keysL_len wt ok
  refine r_retNn (mo := .dT (pwT wt cs)) (μ' := []) (μ1 := [(p, .dT (cbT wt cs))]) (n_lockT (j := 0) rfl fun od ws => ?_) (fun q hq => absurd hq (by simp)) fin
  have h := n_dcE (C := ⟨K, M, G, B⟩) (M := p :: M) (δ := [.g (gBook Cb cs), .g (gDK (wK wt ds)), .m p, .u]) (μ := [(p, .fT od ws (cbT wt cs))]) (μ' := [(p, .fT od ws (cbT wt cs))]) (wi := iKeys (tVar 2)) (g := gName 3) (tt := tYes) (tk := tVar 3) (tv := tOp (rIxT K) (tDGet (tVar 2) (tVar 3)) (tC (.int 1))) (vs := [3]) wayD (keysL wt cs) (keysL_nd wt ok) (fun _ => true) (wy wt cs)
    (by
      have h := i_keysT (C := ⟨K, M, G, B⟩) (M := p :: M) (δ := [.g (gBook Cb cs), .g (gDK (wK wt ds)), .m p, .u]) (μ := [(p, .fT od ws (cbT wt cs))]) (x_vm (i := 2) rfl) (od := od) (ws := ws) (l := cbT wt cs) (by simp)
      rw [show ((cbT wt cs).map (·.1)).map rowK = (keysL wt cs).map stD from tab_keys _ _ _ _] at h
      exact h) (fun B' q mo' σ H o => ok_frzT (l := cbT wt cs) (by simp) o) (by omega) (fun s hs B' q mo' => ⟨[3], _, tg_name, fun k hk => hk, t_yes, fun _ => ⟨x_vd rfl, x_op (x_tgetD (k := stK s) (l := cbT wt cs) (x_vm rfl) (x_vd rfl) (.f (od := od) (ws := ws) (by simp)) (valG_tab cwD _ hs)) x_int (o_ixT (d := wayD (wy wt cs s)) rfl)⟩⟩)
  rw [List.filter_eq_self.mpr fun _ _ => rfl] at h
  exact h
end
end K09
/-! the order in which the parts of each stage come before it -/
namespace CK
section
variable {σ : Type} [DecidableEq σ]
def ordS (parts : σ → List σ) (o : List σ) (s : σ) : List σ := if s ∉ o ∧ (∀ p ∈ parts s, p ∈ o) then o ++ [s] else o
def ordR (K : List σ) (parts : σ → List σ) (o : List σ) : List σ := K.foldl (ordS parts) o
def ordN (K : List σ) (parts : σ → List σ) : Nat → List σ
  | 0 => []
  | n + 1 => ordR K parts (ordN K parts n)
structure OrdOk (K : List σ) (parts : σ → List σ) (o : List σ) : Prop where
  sub : ∀ s ∈ o, s ∈ K
  nd : o.Nodup
  pre : ∀ (i : Nat) (s : σ), o[i]? = some s → ∀ p ∈ parts s, p ∈ o.take i
variable {K : List σ} {parts : σ → List σ} {o : List σ} {s : σ}
theorem ordS_yes (h1 : s ∉ o) (h2 : (∀ p ∈ parts s, p ∈ o)) : ordS parts o s = o ++ [s] := if_pos ⟨h1, h2⟩
theorem ordS_no (h : ¬ (s ∉ o ∧ (∀ p ∈ parts s, p ∈ o))) : ordS parts o s = o := if_neg h
theorem ordS_ok (h : OrdOk K parts o) (hs : s ∈ K) : OrdOk K parts (ordS parts o s) := by
  by_cases c : s ∉ o ∧ (∀ p ∈ parts s, p ∈ o)
  · rw [ordS_yes c.1 c.2]
    refine ⟨fun x hx => ?_, ?_, fun i x hx p hp => ?_⟩
    · rcases List.mem_append.mp hx with hx | hx
      · exact h.sub x hx
      · rw [List.mem_singleton.mp hx]; exact hs
    · refine List.nodup_append.mpr ⟨h.nd, by simp, fun a ha b hb e => ?_⟩
      rw [List.mem_singleton.mp hb] at e
      exact c.1 (e ▸ ha)
    · rcases Nat.lt_or_ge i o.length with q | q
      · rw [List.getElem?_append_left q] at hx
        rw [List.take_append_of_le_length (Nat.le_of_lt q)]
        exact h.pre i x hx p hp
      · rw [List.getElem?_append_right q] at hx
        have e0 : i - o.length = 0 := by
          have := (List.getElem?_eq_some_iff.mp hx).1
          simp at this; omega
        rw [e0] at hx
        have hx : s = x := by simpa using hx
        subst hx
        have : i = o.length := by omega
        rw [this, List.take_left]
        exact c.2 p hp
  · rw [ordS_no c]; exact h
theorem ordF_ok : ∀ (l : List σ) {o : List σ}, (∀ s ∈ l, s ∈ K) → OrdOk K parts o → OrdOk K parts (l.foldl (ordS parts) o)
  | [], o, _, h => h
  | s :: l, o, hl, h => ordF_ok l (fun x hx => hl x (by simp [hx])) (ordS_ok h (hl s (by simp)))
theorem ordN_ok : ∀ n, OrdOk K parts (ordN K parts n)
  | 0 => ⟨fun s h => absurd h (by simp [ordN]), List.Pairwise.nil, fun i s h => by simp [ordN] at h⟩
  | n + 1 => ordF_ok K (fun _ h => h) (ordN_ok n)
theorem ordS_len : o.length ≤ (ordS parts o s).length := by
  by_cases c : s ∉ o ∧ (∀ p ∈ parts s, p ∈ o)
  · rw [ordS_yes c.1 c.2, List.length_append]; omega
  · rw [ordS_no c]; exact Nat.le_refl _
theorem ordF_len : ∀ (l : List σ) {o : List σ}, o.length ≤ (l.foldl (ordS parts) o).length
  | [], o => Nat.le_refl _
  | s :: l, o => Nat.le_trans ordS_len (ordF_len l)
theorem ordF_same : ∀ (l : List σ) {o : List σ}, (l.foldl (ordS parts) o).length = o.length → l.foldl (ordS parts) o = o ∧ ∀ s ∈ l, ordS parts o s = o
  | [], o, _ => ⟨rfl, fun s h => absurd h (by simp)⟩
  | s :: l, o, h => by
    have h1 := ordF_len (parts := parts) l (o := ordS parts o s)
    rw [List.foldl_cons] at h ⊢
    have e : ordS parts o s = o := by
      by_cases c : s ∉ o ∧ (∀ p ∈ parts s, p ∈ o)
      · have e := ordS_yes (parts := parts) c.1 c.2
        rw [e, List.length_append] at h1
        rw [e] at h
        simp at h1; omega
      · exact ordS_no c
    rw [e] at h ⊢
    obtain ⟨h2, h3⟩ := ordF_same l h
    refine ⟨h2, fun x hx => ?_⟩
    rcases List.mem_cons.mp hx with q | hx
    · rw [q]; exact e
    · exact h3 x hx
theorem OrdOk.len (h : OrdOk K parts o) : o.length ≤ K.length := nd_len h.nd h.sub
theorem ordN_stop {i : Nat} (h : ordR K parts (ordN K parts i) = ordN K parts i) : ∀ j, ordN K parts (i + j) = ordN K parts i
  | 0 => rfl
  | j + 1 => by
    show ordR K parts (ordN K parts (i + j)) = _
    rw [ordN_stop h j]; exact h
/-- each round but the last one adds a stage -/
theorem ord_all {mv : σ → Nat} (hd : ∀ s ∈ K, ∀ p ∈ parts s, p ∈ K ∧ mv p < mv s) (h : ∀ s ∈ K, ordS parts o s = o) : ∀ (n : Nat) (s : σ), mv s ≤ n → s ∈ K → s ∈ o := by
  have key : ∀ s ∈ K, (∀ p ∈ parts s, p ∈ o) → s ∈ o := fun s hs hp => by
    by_cases m : s ∈ o
    · exact m
    · have e := ordS_yes (parts := parts) m (fun p q => hp p q)
      rw [h s hs] at e
      have := congrArg List.length e
      simp at this
  intro n
  induction n with
  | zero => exact fun s hn hs => key s hs fun p hp => by have := (hd s hs p hp).2; omega
  | succ n ih =>
    exact fun s hn hs => key s hs fun p hp => by
      obtain ⟨h1, h2⟩ := hd s hs p hp
      exact ih p (by omega) h1
end
end CK
namespace K09
open PySem L2 FD Evl
/-! ### ways, their lines and parts -/
theorem bk_ok {cs : List Crs} (ok : BokOk cs) : (bk cs).Ok := ⟨bk_nd ok, fun s _ => by
  show (((exL (crs cs s.1) s.2).map (lineOf s.1)).map (·.num)).Nodup
  rw [List.map_map]
  have h : ((crs cs s.1).steps.zipIdx.map (·.2)).Nodup := by
    rw [List.zipIdx_map_snd]
    exact List.nodup_range'
  exact List.Pairwise.sublist ((List.filter_sublist).map _) h⟩
noncomputable def cl (w : Str → Nat) (cs : List Crs) (s : Stg) : Option (CK.Line Stg Str) := CK.chl (bk cs) (wy w cs) s
noncomputable def mvs (w : Str → Nat) (cs : List Crs) (s : Stg) : Nat := CK.mv (TT w cs) s
noncomputable def prt (w : Str → Nat) (cs : List Crs) (s : Stg) : List Stg := match cl w cs s with
  | none => []
  | some l => l.ps
noncomputable def cnt (w : Str → Nat) (cs : List Crs) (s : Stg) (x : Str) : Nat := CK.cnt (cl w cs) (mvs w cs) s x
theorem cl_dag (w : Str → Nat) {cs : List Crs} (ok : BokOk cs) : CK.Dag (cl w cs) (fun s => CK.has (TT w cs) s = true) (mvs w cs) := (tt_right w ok).dag (bk_ok ok)
inductive WayOf (w : Str → Nat) (cs : List Crs) (s : Stg) : Prop
  | e (h1 : s.2 ∈ (crs cs s.1).ends) (h2 : wy w cs s = none) (h3 : cl w cs s = none)
  | l (h1 : s.2 ∉ (crs cs s.1).ends) (q : Step × Nat) (hq : q ∈ exL (crs cs s.1) s.2) (h2 : wy w cs s = some q.2) (h3 : cl w cs s = some (lineOf s.1 q))
theorem way_of (w : Str → Nat) {cs : List Crs} (ok : BokOk cs) {s : Stg} (hs : s ∈ keysL w cs) : WayOf w cs s := by
  rcases (tt_right w ok).chl (bk_ok ok) ((keysL_mem ok).mp hs) with ⟨h1, h2, h3, _⟩ | ⟨h1, l, hl, h2, h3, _⟩
  · exact .e (of_decide_eq_true h1) h2 h3
  · obtain ⟨q, hq, rfl⟩ := List.mem_map.mp hl
    exact .l (of_decide_eq_false h1) q hq h2 h3
theorem prt_ok (w : Str → Nat) {cs : List Crs} (ok : BokOk cs) : ∀ s ∈ keysL w cs, ∀ p ∈ prt w cs s, p ∈ keysL w cs ∧ mvs w cs p < mvs w cs s := fun s hs p hp => by
  unfold prt at hp
  cases q : cl w cs s with
  | none => rw [q] at hp; cases hp
  | some l =>
    rw [q] at hp
    obtain ⟨h1, h2⟩ := cl_dag w ok s ((keysL_mem ok).mp hs) l q p hp
    exact ⟨(keysL_mem ok).mpr h1, h2⟩
theorem prt_len (w : Str → Nat) {cs : List Crs} (ok : BokOk cs) {s : Stg} (hs : s ∈ keysL w cs) : (prt w cs s).length ≤ 2 := by
  unfold prt
  rcases way_of w ok hs with ⟨_, _, h⟩ | ⟨_, q, _, _, h⟩
  · rw [h]; exact Nat.zero_le _
  · rw [h]; exact parts_len _ _
noncomputable def ordL (w : Str → Nat) (cs : List Crs) : List Stg := CK.ordN (keysL w cs) (prt w cs) (keysL w cs).length
theorem ordL_ok (w : Str → Nat) (cs : List Crs) : CK.OrdOk (keysL w cs) (prt w cs) (ordL w cs) := CK.ordN_ok _
/-- a way's parts as way_parts tells them -/
theorem wp_of (w : Str → Nat) {cs : List Crs} (ok : BokOk cs) {s : Stg} (hs : s ∈ keysL w cs) : (wy w cs s = none ∧ s.2 ∈ (crs cs s.1).ends ∧ prt w cs s = []) ∨ ∃ k st, wy w cs s = some k ∧ (st, k) ∈ exL (crs cs s.1) s.2 ∧ prt w cs s = partsOf s.1 st := by
  unfold prt
  rcases way_of w ok hs with ⟨h1, h2, h⟩ | ⟨_, q, hq, h2, h⟩
  · exact .inl ⟨h2, h1, by rw [h]⟩
  · exact .inr ⟨q.2, q.1, h2, hq, by rw [h]; rfl⟩
def tupD (ps : List Stg) : PyData := .tuple (ps.map stD)
noncomputable def ctT (w : Str → Nat) (cs : List Crs) : GTab := encT (cntD (deeds cs)) (tabL w cs (cnt w cs))
end K09
namespace K09
open PySem L2 FD Evl
def Rso (Cb : Addr) (es : List Ent) (μ : Mem) (d : PyData) (μ' : Mem) : Prop := ∃ (cs : List Crs) (w : Str → Nat), es = [.g (gBook Cb cs), .g (gDT (pwT w cs))] ∧ μ = [] ∧ μ' = [] ∧ BokOk cs ∧ d = .list ((ordL w cs).map stD)
def Rca (Cb : Addr) (es : List Ent) (μ : Mem) (mo : MO) (μ' : Mem) : Prop := ∃ (cs : List Crs) (w : Str → Nat), es = [.g (gBook Cb cs), .g (gDT (pwT w cs))] ∧ μ = [] ∧ μ' = [] ∧ BokOk cs ∧ mo = .dT (ctT w cs)
def doneT (o : List Stg) : GTab := encT (fun _ : Unit => .bool true) (o.map fun s => (s, ()))
theorem doneT_has (o : List Stg) (s : Stg) : (valG (doneT o) (stK s)).isSome = decide (s ∈ o) := by
  unfold doneT
  rw [isSome_enc]
  by_cases h : s ∈ o
  · rw [decide_eq_true h]
    exact CK.has_mem.mpr (by rw [List.map_map]; exact List.mem_map.mpr ⟨s, h, rfl⟩)
  · rw [decide_eq_false h]
    cases q : CK.has (o.map fun s => (s, ())) s with
    | false => rfl
    | true =>
      have := CK.has_mem.mp q
      rw [List.map_map] at this
      obtain ⟨x, hx, e⟩ := List.mem_map.mp this
      have e : x = s := e
      exact absurd (e ▸ hx) h
theorem doneT_put {o : List Stg} {s : Stg} (h : s ∉ o) : putG (doneT o) (stK s) (gD (.bool true)) = doneT (o ++ [s]) := by
  rw [putG_new (fun z => by
    unfold doneT at z
    rw [encT_keys, List.map_map] at z
    obtain ⟨x, hx, e⟩ := List.mem_map.mp z
    obtain ⟨y, hy, rfl⟩ := List.mem_map.mp hx
    have e : y = s := stK_inj e
    exact h (e ▸ hy))]
  unfold doneT encT
  rw [List.map_append, List.map_append]; rfl
theorem doneT_len (o : List Stg) : (doneT o).length = o.length := by
  unfold doneT
  rw [encT_len, List.length_map]
/-- the first n entries of a table in the order of the keys, and the next one -/
theorem pre_put {α : Type} (f : α → PyData) {L : List Stg} (nd : L.Nodup) (v : Stg → α) {i : Nat} {s : Stg} (h : L[i]? = some s) : putG (encT f ((L.take i).map fun s => (s, v s))) (stK s) (gD (f (v s))) = encT f ((L.take (i + 1)).map fun s => (s, v s)) := by
  rw [putG_new (fun z => by
    rw [encT_keys, List.map_map] at z
    obtain ⟨x, hx, e⟩ := List.mem_map.mp z
    obtain ⟨y, hy, rfl⟩ := List.mem_map.mp hx
    have e : y = s := stK_inj e
    subst e
    obtain ⟨m, hm⟩ := List.getElem?_of_mem hy
    have ml := (List.getElem?_eq_some_iff.mp hm).1
    rw [List.length_take] at ml
    rw [List.getElem?_take, if_pos (by omega)] at hm
    obtain ⟨l1, g1⟩ := List.getElem?_eq_some_iff.mp hm
    obtain ⟨l2, g2⟩ := List.getElem?_eq_some_iff.mp h
    exact List.pairwise_iff_getElem.mp nd m i l1 l2 (by omega) (g1.trans g2.symm))]
  rw [List.take_add_one, h, List.map_append]
  unfold encT
  rw [List.map_append]; rfl
theorem sh_end : SeqAt.shaped (.str "end") = true := (show FD.Shp 0 (.str "end") from ⟨by decide +kernel, by simp [PyData.depth]⟩).shaped (by decide)
theorem sh_stp : SeqAt.shaped (.str "step") = true := (show FD.Shp 0 (.str "step") from ⟨by decide +kernel, by simp [PyData.depth]⟩).shaped (by decide)
theorem sh_int (i : Int) : SeqAt.shaped (.int i) = true := (shp_int 0 i).shaped (by decide)
/-- every stage of the keys comes into the order -/
theorem ord_mem (w : Str → Nat) {cs : List Crs} (ok : BokOk cs) {s : Stg} (h : s ∈ keysL w cs) : s ∈ ordL w cs := by
  have key : ∀ n, n ≤ (CK.ordN (keysL w cs) (prt w cs) n).length ∨ CK.ordR (keysL w cs) (prt w cs) (CK.ordN (keysL w cs) (prt w cs) n) = CK.ordN (keysL w cs) (prt w cs) n := by
    intro n
    induction n with
    | zero => exact .inl (Nat.zero_le _)
    | succ n ih =>
      rcases ih with h | h
      · have hl : (CK.ordN (keysL w cs) (prt w cs) n).length ≤ (CK.ordN (keysL w cs) (prt w cs) (n + 1)).length := CK.ordF_len _
        rcases Nat.lt_or_ge (CK.ordN (keysL w cs) (prt w cs) n).length (CK.ordN (keysL w cs) (prt w cs) (n + 1)).length with q | q
        · exact .inl (by omega)
        · have e := (CK.ordF_same (parts := prt w cs) (keysL w cs) (Nat.le_antisymm q hl)).1
          have e : CK.ordN (keysL w cs) (prt w cs) (n + 1) = CK.ordN (keysL w cs) (prt w cs) n := e
          exact .inr (by rw [e]; exact e)
      · have e : CK.ordN (keysL w cs) (prt w cs) (n + 1) = CK.ordN (keysL w cs) (prt w cs) n := h
        exact .inr (by rw [e]; exact h)
  have ndk := keysL_nd w ok
  have oo := ordL_ok w cs
  rcases key (keysL w cs).length with q | q
  · have el : (ordL w cs).length = (keysL w cs).length := Nat.le_antisymm oo.len q
    by_cases m : s ∈ ordL w cs
    · exact m
    · have := CK.nd_len (l := s :: ordL w cs) (m := keysL w cs) (List.nodup_cons.mpr ⟨m, oo.nd⟩) (fun x hx => by
        rcases List.mem_cons.mp hx with e | hx
        · rw [e]; exact h
        · exact oo.sub x hx)
      rw [List.length_cons] at this; omega
  · have hst2 := (CK.ordF_same (parts := prt w cs) (o := ordL w cs) (keysL w cs) (by show (CK.ordR (keysL w cs) (prt w cs) (ordL w cs)).length = _; exact congrArg List.length q)).2
    exact CK.ord_all (mv := mvs w cs) (prt_ok w ok) hst2 _ s (Nat.le_refl _) h
section
variable {P : Program} {w : World} {K : PySem.W.Frag} {mg : Str → Option Value} {base : Heap} {Cb : Addr}
abbrev nSo : List Str := ["book", "chosen", "waiting", "stage", "done", "order", "changed", "part"]
theorem scSo : FnScope nSo ["book", "chosen"] (defScope sSo) := ⟨rfl, rfl, rfl, by decide +kernel, rfl, by decide +kernel, by decide +kernel⟩
theorem ok_so {f : Addr} {fd : FuncData} (T : Txt K mg Cb) (F : Fun K "sound_order" "sound_order" sSo f fd) {f1 : Addr} {fd1 : FuncData} (H1 : Has K mg "way_parts" sWp ["book", "stage", "way"] f1 fd1) (G1 : FnOk P w K mg base CX0 3 f1 fd1 ["book", "stage", "way"] (spE K 3 (Rwp Cb))) : FnOk P w K mg base CX0 4 f fd ["book", "chosen"] (spE K 2 (Rso Cb)) := by
  refine def_E F scSo (by decide) rfl fun cdv A outer s H E hr => ?_
  have nd := scSo.nd
  refine ⟨_, (pss_cons (ps_set (i := 2) nd rfl (Or.inl rfl) pe_dnewT)
 (pss_cons (ps_for PassesOwn.never rfl (pi_list (pe_callB (cr_sortedT rfl hr.units) (by rfl) T.sorted (by decide +kernel) (pa_cons (pv 1) pa_nil))) (pg_name (i := 3) nd rfl (Or.inl rfl)) (pss_cons (ps_asg (pe_call G1 hr rfl H1.m H1.F.kp H1.b .nil pass0 (pa_cons (pv 0) (pa_cons (pv 3) (pa_cons (pe_dget (hu_of hr) (pv 1) (pv 3) (fun _ _ => rfl)) pa_nil)))) (pg_sub (pv 2) (pv 3) (set_dict (hu_of hr))))
 (pss_one (ps_if (pt_cmpR op_isN (pe_dget (hu_of hr) (pv 2) (pv 3) (fun _ _ => rfl)) pe_non (nomark _)) (pss_one (ps_ret pe_non)) pss_nil))))
 (pss_cons (ps_set (i := 4) nd rfl (Or.inr rfl) pe_dnewT)
 (pss_cons (ps_set (i := 5) nd rfl (Or.inl rfl) (pe_lst pa_nil))
 (pss_cons (ps_set (i := 6) nd rfl (Or.inl rfl) pe_bl)
 (pss_cons (ps_while PassesOwn.never (pt_val (pv 6)) (pss_cons (ps_set (i := 6) nd rfl (Or.inl rfl) pe_bl)
 (pss_one (ps_lock (ps_for PassesOwn.never rfl (pi_keys (pv 2)) (pg_name (i := 3) nd rfl (Or.inl rfl)) (pss_one (ps_if (PW.pt (pw_and (pt_cmp (pc_dnotin (hu_of hr) (pv 3) (pv 4))) (pw_and1 (pt_val (pe_callB (cr_all rfl) (by rfl) T.all (by decide +kernel) (pa_cons (pe_lc (own := [("part", 7)]) (g := (gName 7)) (tt := tYes) rfl nd (pi_tup (pe_dget (hu_of hr) (pv 2) (pv 3) (fun _ _ => rfl))) (blkOk_by (N := nSo) (sc := defScope sSo) (by decide +kernel)) (fun _ _ _ _ _ => (pg_name (i := 7) nd rfl (Or.inl rfl))) (fun _ _ _ _ _ => pts_nil) (fun _ _ _ _ _ => (pe_cmp (pc_din (hu_of hr) (pv 7) (pv 4)) rfl))) pa_nil)))))) (pss_cons (ps_asg pe_bl (pg_sub (pv 4) (pv 3) (set_dict (hu_of hr))))
 (pss_cons (ps_expr (pe_bm PySem.F.plainAttrs_list PySem.F.slot_list_append PySem.F.type_list_append mt_append (pv 5) (pa_cons (pv 3) pa_nil)))
 (pss_one (ps_set (i := 6) nd rfl (Or.inl rfl) pe_bl)))) pss_nil)))))))
 (pss_one (ps_ret (pe_ifExp (pt_cmpR (op_eqD hr.units) (pe_callB call_len_seq (by rfl) T.len PySem.boot_len (pa_cons (pv 5) pa_nil)) (pe_callB call_len_dT (by rfl) T.len PySem.boot_len (pa_cons (pv 2) pa_nil)) (nomark _)) (pv 5) pe_non))))))))), ?_⟩
  rintro M G B es μ d μ' ⟨cs, wt, rfl, rfl, rfl, ok, rfl⟩ D fin
  show FD.Run _ _ D M [.g (gBook Cb cs), .g (gDT (pwT wt cs)), .u, .u, .u, .u, .u, .u] []
  have lk := keysL_len wt ok
  have ndk := keysL_nd wt ok
  have wl : (encT tupD (tabL wt cs (prt wt cs))).length = (keysL wt cs).length := by
    rw [encT_len]; unfold tabL; rw [List.length_map]
  refine q_newT fun pw pwM => ?_
  show FD.Run _ _ D (pw :: M) [.g (gBook Cb cs), .g (gDT (pwT wt cs)), .m pw, .u, .u, .u, .u, .u] [(pw, .dT [])]
  have hsrt : ∀ {C : Cfg}, EvI C (iList C.K (tCB FD.rSortedT (tCons (tVar 1) tNil))) (pw :: M) [.g (gBook Cb cs), .g (gDT (pwT wt cs)), .m pw, .u, .u, .u, .u, .u] [(pw, .dT [])] [(pw, .dT [])] ((keysL wt cs).map stD) := fun {C} => by
    refine i_list (x_is (x_cbP (a_cons (x_vg rfl) a_nil) (c_sortedT (l := pwT wt cs) (m := (keysL wt cs).map stK) (.g _) ?_ ?_ (fun L pL aL => ?_))) (by rw [List.map_map]; rfl))
    · unfold pwT; rw [encT_keys]; exact one_shape _
    · have := tab_len wayD wt ok (wy wt cs)
      unfold pwT; omega
    · unfold pwT at pL
      rw [encT_keys] at pL
      refine asc_sub _ aL (pL.trans (List.Perm.of_eq ?_))
      unfold tabL
      rw [List.map_map, List.map_map]; rfl
  refine q_forA (l := keysL wt cs) (enc := stD) hsrt
    (fun i δ μ => ∃ e3 : Ent, δ = [.g (gBook Cb cs), .g (gDT (pwT wt cs)), .m pw, e3, .u, .u, .u, .u] ∧ μ = [(pw, .dT (encT tupD (((keysL wt cs).take i).map fun s => (s, prt wt cs s))))]) ⟨_, rfl, rfl⟩ ?_ ?_
  · rintro B' xB i s δ1 μ1 hs ⟨e3, rfl, rfl⟩
    have sk := List.mem_of_getElem? hs
    have sm := keysL_st sk
    refine ⟨_, _, tg_name, ?_⟩
    show FD.Run _ _ _ (pw :: M) [.g (gBook Cb cs), .g (gDT (pwT wt cs)), .m pw, .d (stD s), .u, .u, .u, .u] [(pw, .dT (encT tupD (((keysL wt cs).take i).map fun s => (s, prt wt cs s))))]
    refine q_tput (j := 0) (k := stK s) (φ := gD (tupD (prt wt cs s))) (x_callE0 (a_cons (x_vg rfl) (a_cons (x_vd rfl) (a_cons (x_tgetD (k := stK s) (l := pwT wt cs) (x_vg rfl) (x_vd rfl) (.g _) (valG_tab wayD _ sk)) a_nil))) ⟨cs, s, wy wt cs s, prt wt cs s, rfl, rfl, rfl, ok, sm, wp_of wt ok sk, rfl⟩) (x_vm rfl) (x_vd rfl) (entG_d _) rfl (by rw [encT_len, List.length_map, List.length_take]; omega) ?_
    show FD.Run _ _ _ _ _ [(pw, .dT (putG (encT tupD (((keysL wt cs).take i).map fun s => (s, prt wt cs s))) (stK s) (gD (tupD (prt wt cs s)))))]
    rw [pre_put tupD ndk (prt wt cs) hs]
    have hv : valG (encT tupD (((keysL wt cs).take (i + 1)).map fun s => (s, prt wt cs s))) (stK s) = some (gD (tupD (prt wt cs s))) := by
      rw [valG_enc, CK.val_keys, if_pos (by rw [List.take_add_one, hs]; simp)]; rfl
    refine r_no (t_is (t_test (x_op (x_tgetD (k := stK s) (x_vm rfl) (x_vd rfl) (.m (l := encT tupD (((keysL wt cs).take (i + 1)).map fun s => (s, prt wt cs s))) (by simp)) hv) x_non o_isN)) rfl) ?_
    exact fun σ H o => ⟨_, _, ⟨_, rfl, rfl⟩, o⟩
  rintro δ1 μ1 ⟨e3, rfl, rfl⟩
  rw [List.take_length]
  show FD.Run _ _ D (pw :: M) [.g (gBook Cb cs), .g (gDT (pwT wt cs)), .m pw, e3, .u, .u, .u, .u] [(pw, .dT (encT tupD (tabL wt cs (prt wt cs))))]
  refine q_newT fun pd pdM => ?_
  refine q_new (ds := []) a_nil (by simp) fun po poM => ?_
  refine q_asg (e := .d (.bool true)) x_bl ?_
  show FD.Run _ _ D (po :: pd :: pw :: M) [.g (gBook Cb cs), .g (gDT (pwT wt cs)), .m pw, e3, .m pd, .m po, .d (.bool true), .u] [(po, .lst []), (pd, .dT []), (pw, .dT (encT tupD (tabL wt cs (prt wt cs))))]
  have ktw : ((encT tupD (tabL wt cs (prt wt cs))).map (·.1)).map rowK = (keysL wt cs).map stD := tab_keys _ _ _ _
  refine FD.q_while (fun m δ μ => ∃ (n : Nat) (o : List Stg) (ch : Bool) (e3 e7 : Ent), δ = [.g (gBook Cb cs), .g (gDT (pwT wt cs)), .m pw, e3, .m pd, .m po, .d (.bool ch), e7] ∧ μ = [(po, .lst (o.map stD)), (pd, .dT (doneT o)), (pw, .dT (encT tupD (tabL wt cs (prt wt cs))))] ∧ o = CK.ordN (keysL wt cs) (prt wt cs) n ∧
      ((ch = true ∧ n ≤ o.length ∧ m = (keysL wt cs).length + 1 - n) ∨ (ch = false ∧ n ≤ (keysL wt cs).length ∧ CK.ordR (keysL wt cs) (prt wt cs) o = o))) ((keysL wt cs).length + 1) ⟨0, [], true, _, _, rfl, rfl, rfl, .inl ⟨rfl, Nat.zero_le _, rfl⟩⟩ ?_
  rintro m δ1 μ1 ⟨n, o, ch, e3, e7, rfl, rfl, ho, hm⟩
  have oko : CK.OrdOk (keysL wt cs) (prt wt cs) o := by rw [ho]; exact CK.ordN_ok n
  have ol := oko.len
  refine ⟨ch, _, t_test (x_vd rfl), fun hch => ?_, fun hch => ?_⟩
  · subst hch
    obtain ⟨hn, hm⟩ : n ≤ o.length ∧ m = (keysL wt cs).length + 1 - n := by
      rcases hm with ⟨_, h1, h2⟩ | ⟨h, _⟩
      · exact ⟨h1, h2⟩
      · cases h
    refine q_asg (e := .d (.bool false)) x_bl ?_
    show FD.Run _ _ _ (po :: pd :: pw :: M) [.g (gBook Cb cs), .g (gDT (pwT wt cs)), .m pw, e3, .m pd, .m po, .d (.bool false), e7] [(po, .lst (o.map stD)), (pd, .dT (doneT o)), (pw, .dT (encT tupD (tabL wt cs (prt wt cs))))]
    refine r_lockT (j := 2) rfl fun od ws => ?_
    show FD.Run _ _ _ (po :: pd :: pw :: M) _ [(po, .lst (o.map stD)), (pd, .dT (doneT o)), (pw, .fT od ws (encT tupD (tabL wt cs (prt wt cs))))]
    have hin : ∀ o', (pw, MO.fT od ws (encT tupD (tabL wt cs (prt wt cs)))) ∈ [(po, MO.lst (o'.map stD)), (pd, MO.dT (doneT o')), (pw, MO.fT od ws (encT tupD (tabL wt cs (prt wt cs))))] := fun o' => by simp
    refine r_forN (i_keysT (x_vm rfl) (hin o)) (fun i δ μ => ∃ (o' : List Stg) (e3 e7 : Ent), δ = [.g (gBook Cb cs), .g (gDT (pwT wt cs)), .m pw, e3, .m pd, .m po, .d (.bool (decide (o.length < o'.length))), e7] ∧ μ = [(po, .lst (o'.map stD)), (pd, .dT (doneT o')), (pw, .fT od ws (encT tupD (tabL wt cs (prt wt cs))))] ∧ o' = ((keysL wt cs).take i).foldl (CK.ordS (prt wt cs)) o) (fun i B δ1 μ1 σ H _ hP o => by
      obtain ⟨_, _, _, _, rfl, _⟩ := hP
      exact ok_frzT (hin _) o) ⟨o, _, _, by rw [decide_eq_false (Nat.lt_irrefl _)], rfl, rfl⟩ ?_ ?_
    · rintro B' hB i d1 δ1 μ1 hi ⟨o', e3, e7, rfl, rfl, ho'⟩
      rw [ktw, List.getElem?_map] at hi
      cases hs : (keysL wt cs)[i]? with
      | none => rw [hs] at hi; cases hi
      | some s =>
        rw [hs] at hi
        have hi := Option.some.inj hi
        subst hi
        have sk := List.mem_of_getElem? hs
        have pl := prt_len wt ok sk
        have ok' : CK.OrdOk (keysL wt cs) (prt wt cs) o' := by rw [ho']; exact CK.ordF_ok _ (fun x hx => List.mem_of_mem_take hx) oko
        have ol' := ok'.len
        have mono : o.length ≤ o'.length := by rw [ho']; exact CK.ordF_len _
        have nxt : ((keysL wt cs).take (i + 1)).foldl (CK.ordS (prt wt cs)) o = CK.ordS (prt wt cs) o' s := by
          rw [List.take_add_one, hs, List.foldl_append, ho']; rfl
        refine ⟨[3], _, tg_name, ?_⟩
        show FD.Run _ _ _ (po :: pd :: pw :: M) [.g (gBook Cb cs), .g (gDT (pwT wt cs)), .m pw, .d (stD s), .m pd, .m po, .d (.bool (decide (o.length < o'.length))), e7] [(po, .lst (o'.map stD)), (pd, .dT (doneT o')), (pw, .fT od ws (encT tupD (tabL wt cs (prt wt cs))))]
        have TDd : ∀ {μ : Mem}, (pd, MO.dT (doneT o')) ∈ μ → TD μ (.m pd) (doneT o') := fun h => .m h
        refine r_if (b := !decide (s ∈ o') && (prt wt cs s).all fun p => decide (p ∈ o')) (t_and (t_is (t_test (x_tnotin (k := stK s) (x_vd rfl) (x_vm rfl) (TDd (by simp)))) (by rw [doneT_has])) (fun _ => t_is (t_test (x_cbP (a_cons (x_lcA (l := prt wt cs s) (enc := stD) (f := fun s => PyData.bool (decide (s ∈ o'))) (i_tup (x_tgetD (k := stK s) (l := encT tupD (tabL wt cs (prt wt cs))) (x_vm rfl) (x_vd rfl) (.f (hin o')) (valG_tab tupD _ sk))) (by omega) (ts := [7]) (fun st => [.g (gBook Cb cs), .g (gDT (pwT wt cs)), .m pw, .d (stD s), .m pd, .m po, .d (.bool (decide (o.length < o'.length))), .d (stD st)]) (fun st hst => tg_name) (fun k hk => hk) (fun st hst G' B3 D' => x_is (x_tin (k := stK st) (x_vd rfl) (x_vm rfl) (TDd (by simp))) (by rw [doneT_has]))) a_nil) (c_allb (bs := (prt wt cs s).map fun p => decide (p ∈ o')) (by rw [List.map_map]; rfl)))) (by rw [List.all_map]; rfl)) fun _ => rfl) (fun hb => ?_) fun hb => ?_
        · rw [Bool.and_eq_true, Bool.not_eq_true', decide_eq_false_iff_not] at hb
          have es := CK.ordS_yes (parts := prt wt cs) hb.1 (fun p hp => of_decide_eq_true (List.all_eq_true.mp hb.2 p hp))
          refine q_tput (j := 1) (k := stK s) (φ := gD (.bool true)) x_bl (x_vm rfl) (x_vd rfl) (entG_d _) rfl (by rw [doneT_len]; omega) ?_
          show FD.Run _ _ _ _ _ [(po, .lst (o'.map stD)), (pd, .dT (putG (doneT o') (stK s) (gD (.bool true)))), (pw, .fT od ws (encT tupD (tabL wt cs (prt wt cs))))]
          rw [doneT_put hb.1]
          refine q_app (j := 0) (x_vm rfl) (x_vd rfl) rfl rfl (by rw [List.length_map]; omega) ?_
          refine r_asg (e := .d (.bool true)) x_bl ?_
          refine fun σ H o2 => ⟨_, _, ⟨o' ++ [s], .d (stD s), e7, ?_, ?_, by rw [nxt, es]⟩, o2⟩
          · rw [decide_eq_true (show o.length < (o' ++ [s]).length by rw [List.length_append]; simp; omega)]; rfl
          · rw [List.map_append]; rfl
        · have es := CK.ordS_no (parts := prt wt cs) (o := o') (s := s) (fun z => by
            have z2 : ((prt wt cs s).all fun p => decide (p ∈ o')) = true := List.all_eq_true.mpr fun p hp => decide_eq_true (z.2 p hp)
            rw [decide_eq_false z.1, z2] at hb; cases hb)
          exact r_next fun σ H o2 => ⟨_, _, ⟨o', _, _, rfl, rfl, by rw [nxt, es]⟩, o2⟩
    · rintro δ1 μ1 ⟨o', e3, e7, rfl, rfl, ho'⟩
      rw [ktw, List.length_map, List.take_length] at ho'
      refine lk_nxT (μ := [(po, .lst (o'.map stD)), (pd, .dT (doneT o')), (pw, .dT (encT tupD (tabL wt cs (prt wt cs))))]) (j := 2) rfl ?_
      have e1 : o' = CK.ordN (keysL wt cs) (prt wt cs) (n + 1) := by rw [ho', ho]; rfl
      have ok' : CK.OrdOk (keysL wt cs) (prt wt cs) o' := by rw [e1]; exact CK.ordN_ok _
      have ol' := ok'.len
      have mono : o.length ≤ o'.length := by rw [ho']; exact CK.ordF_len _
      refine fun σ H o2 => ⟨_, _, ?_, o2⟩
      by_cases lt : o.length < o'.length
      · exact ⟨(keysL wt cs).length + 1 - (n + 1), (by omega), n + 1, o', true, _, _, (by rw [decide_eq_true lt]), rfl, e1, .inl ⟨rfl, by omega, rfl⟩⟩
      · have hsame : (CK.ordR (keysL wt cs) (prt wt cs) o).length = o.length := by
          show ((keysL wt cs).foldl (CK.ordS (prt wt cs)) o).length = _
          rw [← ho']; omega
        have es := (CK.ordF_same (keysL wt cs) hsame).1
        have e2 : o' = o := by rw [ho']; exact es
        subst e2
        exact ⟨0, (by omega), n, o', false, _, _, (by rw [decide_eq_false lt]), rfl, ho, .inr ⟨rfl, by omega, es⟩⟩
  · obtain ⟨hn, hst⟩ : n ≤ (keysL wt cs).length ∧ CK.ordR (keysL wt cs) (prt wt cs) o = o := by
      rcases hm with ⟨h, _⟩ | ⟨_, h1, h2⟩
      · rw [hch] at h; cases h
      · exact ⟨h1, h2⟩
    have eo : ordL wt cs = o := by
      have := CK.ordN_stop (i := n) (by rw [← ho]; exact hst) ((keysL wt cs).length - n)
      rw [show n + ((keysL wt cs).length - n) = (keysL wt cs).length by omega] at this
      unfold ordL
      rw [this, ho]
    rw [eo] at fin
    have hst2 := (CK.ordF_same (parts := prt wt cs) (o := o) (keysL wt cs) (by show (CK.ordR (keysL wt cs) (prt wt cs) o).length = _; rw [hst])).2
    have all : ∀ s ∈ keysL wt cs, s ∈ o := fun s hs => CK.ord_all (mv := mvs wt cs) (prt_ok wt ok) hst2 _ s (Nat.le_refl _) hs
    have el : o.length = (keysL wt cs).length := Nat.le_antisymm ol (CK.nd_len ndk all)
    refine r_retEL (a := po) (ds := o.map stD) (μ1 := [(po, .lst (o.map stD)), (pd, .dT (doneT o)), (pw, .dT (encT tupD (tabL wt cs (prt wt cs))))]) (x_if (b := true) (t_is (t_test (x_op (x_cbP (a_cons (x_vm rfl) a_nil) (c_lenL (.m (j := 0) rfl))) (x_cbP (a_cons (x_vm rfl) a_nil) (c_lenDT (l := encT tupD (tabL wt cs (prt wt cs))) (by simp))) (o_eqD (.d _) (.d _) (sh_int _) (sh_int _)))) ?_) (fun _ => x_vm rfl) fun z => nomatch z) (by simp) (fun z => poM (List.mem_cons_of_mem _ (List.mem_cons_of_mem _ z))) (fun r hr => absurd hr (by simp)) fin
    rw [wl, List.length_map, el, eqv_int]
    exact decide_eq_true rfl
abbrev nCa : List Str := ["book", "chosen", "found", "stage", "count", "part", "step"]
theorem scCa : FnScope nCa ["book", "chosen"] (defScope sCa) := ⟨rfl, rfl, rfl, by decide +kernel, rfl, by decide +kernel, by decide +kernel⟩
theorem cnt_zero (ds : List Str) : cntD ds (fun x => ([] : List Str).countP (· == x)) = cntD ds fun _ => 0 := rfl
theorem countP_one (nm : Str) (ds : List Str) : cntD ds (fun x => [nm].countP (· == x)) = cntD ds fun x => CK.ind (some nm) x := by
  unfold cntD
  congr 1
  refine List.map_congr_left fun x _ => ?_
  congr 1
  unfold CK.ind
  by_cases e : nm = x
  · subst e; simp
  · simp [e]
theorem ok_ca {f : Addr} {fd : FuncData} (T : Txt K mg Cb) (F : Fun K "counts_along" "counts_along" sCa f fd) {f1 f2 f3 f4 f5 : Addr} {fd1 fd2 fd3 fd4 fd5 : FuncData} (H1 : Has K mg "sound_order" sSo ["book", "chosen"] f1 fd1) (H2 : Has K mg "deed_counts" sDc ["book", "row"] f2 fd2) (H3 : Has K mg "way_step" sWs ["book", "stage", "way"] f3 fd3) (H4 : Has K mg "way_parts" sWp ["book", "stage", "way"] f4 fd4) (H5 : Has K mg "added" sAd ["one", "other"] f5 fd5)
    (G1 : FnOk P w K mg base CX0 4 f1 fd1 ["book", "chosen"] (spE K 2 (Rso Cb))) (G2 : FnOk P w K mg base CX0 2 f2 fd2 ["book", "row"] (spE K 2 (Rdc Cb))) (G3 : FnOk P w K mg base CX0 2 f3 fd3 ["book", "stage", "way"] (spE K 3 (Rws Cb))) (G4 : FnOk P w K mg base CX0 3 f4 fd4 ["book", "stage", "way"] (spE K 3 (Rwp Cb))) :
    FnOk P w K mg base CX0 5 f fd ["book", "chosen"] (spEN K 2 (Rca Cb)) := by
  have G5 : FnOk P w K mg base CX0 1 f5 fd5 ["one", "other"] (spR K 2 Rad) := ok_ad T H5.F
  refine def_EN F scCa (by decide) rfl fun cdv A outer s H E hr => ?_
  have nd := scCa.nd
  have hr1 : Room 1 _ := hr.mono (by decide)
  have hr2 : Room 2 _ := hr.mono (by decide)
  have hr3 : Room 3 _ := hr.mono (by decide)
  refine ⟨_, (pss_cons (ps_set (i := 2) nd rfl (Or.inr rfl) pe_dnewT)
 (pss_cons (ps_for PassesOwn.never rfl (pi_list (pe_call G1 hr rfl H1.m H1.F.kp H1.b .nil pass0 (pa_cons (pv 0) (pa_cons (pv 1) pa_nil)))) (pg_name (i := 3) nd rfl (Or.inl rfl)) (pss_cons (ps_set (i := 4) nd rfl (Or.inl rfl) (pe_call G2 hr2 rfl H2.m H2.F.kp H2.b .nil pass0 (pa_cons (pv 0) (pa_cons (pe_tupF pa_nil) pa_nil))))
 (pss_cons (ps_if (pt_cmpR (op_eqD hr.units) (pe_ix ix_tup (pe_dget (hu_of hr) (pv 1) (pv 3) (fun _ _ => rfl)) pe_int (fun _ _ => rfl)) pe_str (nomark _)) (pss_cons (ps_set (i := 6) nd rfl (Or.inl rfl) (pe_call G3 hr2 rfl H3.m H3.F.kp H3.b .nil pass0 (pa_cons (pv 0) (pa_cons (pv 3) (pa_cons (pe_dget (hu_of hr) (pv 1) (pv 3) (fun _ _ => rfl)) pa_nil)))))
 (pss_one (ps_if (pt_cmpR (op_eqD hr.units) (pe_ix ix_tup (pv 6) pe_int (fun _ _ => rfl)) pe_str (nomark _)) (pss_one (ps_set (i := 4) nd rfl (Or.inl rfl) (pe_call G2 hr2 rfl H2.m H2.F.kp H2.b .nil pass0 (pa_cons (pv 0) (pa_cons (pe_tupF (pa_cons (pe_ix ix_tup (pv 6) pe_int (fun _ _ => rfl)) pa_nil)) pa_nil))))) pss_nil))) pss_nil)
 (pss_cons (ps_for PassesOwn.never rfl (pi_tup (pe_call G4 hr3 rfl H4.m H4.F.kp H4.b .nil pass0 (pa_cons (pv 0) (pa_cons (pv 3) (pa_cons (pe_dget (hu_of hr) (pv 1) (pv 3) (fun _ _ => rfl)) pa_nil))))) (pg_name (i := 5) nd rfl (Or.inl rfl)) (pss_one (ps_set (i := 4) nd rfl (Or.inl rfl) (pe_call G5 hr1 rfl H5.m H5.F.kp H5.b .nil pass0 (pa_cons (pv 4) (pa_cons (pe_dget (hu_of hr) (pv 2) (pv 5) (fun _ _ => rfl)) pa_nil))))))
 (pss_one (ps_asg (pv 4) (pg_sub (pv 2) (pv 3) (set_dict (hu_of hr)))))))))
 (pss_one (ps_ret (pe_dcT hr.units0 (own := [("stage", 3)]) (g := (gName 3)) (tt := tYes) rfl nd (pi_list (pe_callB (cr_sortedT rfl hr.units) (by rfl) T.sorted (by decide +kernel) (pa_cons (pv 2) pa_nil))) (blkOk_by (N := nCa) (sc := defScope sCa) (by decide +kernel)) (fun _ _ _ _ _ => (pg_name (i := 3) nd rfl (Or.inl rfl))) (fun _ _ _ _ _ => pts_nil) (fun _ _ _ _ _ => (pv 3)) (fun _ _ _ _ _ => (pe_dget (hu_of hr) (pv 2) (pv 3) (fun _ _ => rfl)))))))), ?_⟩
  rintro M G B es μ mo μ' ⟨cs, wt, rfl, rfl, rfl, ok, rfl⟩ D fin
  show FD.Run _ _ D M [.g (gBook Cb cs), .g (gDT (pwT wt cs)), .u, .u, .u, .u, .u] []
  have lk := keysL_len wt ok
  have oo := ordL_ok wt cs
  have ol := oo.len
  have dl := deeds_len ok
  refine q_newT fun p pM => ?_
  show FD.Run _ _ D (p :: M) [.g (gBook Cb cs), .g (gDT (pwT wt cs)), .m p, .u, .u, .u, .u] [(p, .dT [])]
  refine q_forA (l := ordL wt cs) (enc := stD) (i_list (x_callE0 (a_cons (x_vg rfl) (a_cons (x_vg rfl) a_nil)) ⟨cs, wt, rfl, rfl, rfl, ok, rfl⟩))
    (fun i δ μ => ∃ e3 e4 e5 e6 : Ent, δ = [.g (gBook Cb cs), .g (gDT (pwT wt cs)), .m p, e3, e4, e5, e6] ∧ μ = [(p, .dT (encT (cntD (deeds cs)) (((ordL wt cs).take i).map fun s => (s, cnt wt cs s))))]) ⟨_, _, _, _, rfl, rfl⟩ ?_ ?_
  · rintro B' xB i s δ1 μ1 hs ⟨e3, e4, e5, e6, rfl, rfl⟩
    have sk := oo.sub s (List.mem_of_getElem? hs)
    have sm := keysL_st sk
    have hk := (keysL_mem ok).mp sk
    have pl := prt_len wt ok sk
    have dag := cl_dag wt ok
    refine ⟨_, _, tg_name, ?_⟩
    generalize hμ : (encT (cntD (deeds cs)) (((ordL wt cs).take i).map fun s => (s, cnt wt cs s))) = ft
    have ftl : ft.length ≤ 60 := by
      rw [← hμ, encT_len, List.length_map, List.length_take]; omega
    have ftv : ∀ q ∈ prt wt cs s, valG ft (stK q) = some (gD (cntD (deeds cs) (cnt wt cs q))) := fun q hq => by
      rw [← hμ, valG_enc, CK.val_keys, if_pos (oo.pre i s hs q hq)]; rfl
    show FD.Run _ _ _ (p :: M) [.g (gBook Cb cs), .g (gDT (pwT wt cs)), .m p, .d (stD s), e4, e5, e6] [(p, .dT ft)]
    refine q_asg (x_callE0 (a_cons (x_vg rfl) (a_cons (x_tupF (ys := []) a_nil (by simp)) a_nil)) ⟨cs, [], rfl, rfl, rfl, ok, rfl⟩) ?_
    rw [cnt_zero]
    show FD.Run _ _ _ (p :: M) [.g (gBook Cb cs), .g (gDT (pwT wt cs)), .m p, .d (stD s), .d (cntD (deeds cs) fun _ => 0), e5, e6] [(p, .dT ft)]
    have hget : ∀ {C : Cfg} {M : List Addr} {e4 e5 e6 : Ent} {μ : Mem}, EvX C (tDGet (tVar 1) (tVar 3)) M [.g (gBook Cb cs), .g (gDT (pwT wt cs)), .m p, .d (stD s), e4, e5, e6] μ μ (.d (wayD (wy wt cs s))) := fun {C M e4 e5 e6 μ} =>
      x_tgetD (k := stK s) (l := pwT wt cs) (x_vg rfl) (x_vd rfl) (.g _) (valG_tab wayD _ sk)
    obtain ⟨odd, hodd⟩ : ∃ odd : Option Str, odd = (cl wt cs s).bind (·.deed) := ⟨_, rfl⟩
    have hcnt : ∀ x, cnt wt cs s x = CK.ind odd x + ((prt wt cs s).map fun q => cnt wt cs q x).sum := fun x => by
      unfold cnt prt
      cases q : cl wt cs s with
      | none =>
        rw [hodd, q, CK.cnt_end q]; rfl
      | some l =>
        rw [hodd, q, CK.cnt_step dag hk q]; rfl
    refine q_whenJ (fun δ μ => ∃ e6 : Ent, δ = [.g (gBook Cb cs), .g (gDT (pwT wt cs)), .m p, .d (stD s), .d (cntD (deeds cs) fun x => CK.ind odd x), e5, e6] ∧ μ = [(p, .dT ft)]) (b := decide (wy wt cs s ≠ none)) (μ' := [(p, .dT ft)]) ?tst (fun hb D' kk => ?_) (fun hb => ?_) ?_
    case tst =>
      cases hw : wy wt cs s with
      | none => exact t_is (t_test (x_op (x_op (x_is hget (show Ent.d (wayD (wy wt cs s)) = .d (wayD none) by rw [hw])) x_int (o_ixT (d := .str "end") rfl)) x_str (o_eqD (.d _) (.d _) sh_end sh_stp))) (by rw [eqv_str]; decide +kernel)
      | some k => exact t_is (t_test (x_op (x_op (x_is hget (show Ent.d (wayD (wy wt cs s)) = .d (wayD (some k)) by rw [hw])) x_int (o_ixT (d := .str "step") rfl)) x_str (o_eqD (.d _) (.d _) sh_stp sh_stp))) (by rw [eqv_str]; simp)
    · have hb := of_decide_eq_true hb
      rcases way_of wt ok sk with ⟨_, h2, _⟩ | ⟨_, q, hq, h2, h3⟩
      · exact absurd h2 hb
      · refine q_asg (e := .d (stepD q.1)) (x_callE0 (a_cons (x_vg rfl) (a_cons (x_vd rfl) (a_cons hget a_nil))) ⟨cs, s, q.2, q.1, by rw [h2], rfl, rfl, ok, sm, (exL_mem hq).1, rfl⟩) ?_
        show FD.Run _ _ _ (p :: M) [.g (gBook Cb cs), .g (gDT (pwT wt cs)), .m p, .d (stD s), .d (cntD (deeds cs) fun _ => 0), e5, .d (stepD q.1)] [(p, .dT ft)]
        have ed : odd = deedOf q.1 := by rw [hodd, h3]; rfl
        refine r_if (b := !q.1.call) (t_is (t_test (x_op (x_op (x_vd rfl) x_int (o_ixT (d := .str (wh q.1.call)) rfl)) x_str (o_eqD (.d _) (.d _) (shp_wh _) (shp_wh false)))) (by rw [eqv_str]; cases q.1.call <;> decide)) (fun hb => ?_) fun hb => ?_
        · have hc : q.1.call = false := by simpa using hb
          have e2 : odd = some q.1.nm := by rw [ed]; unfold deedOf; rw [hc]; rfl
          refine r_asg (e := .d (cntD (deeds cs) fun x => CK.ind odd x)) (x_is (x_callE0 (a_cons (x_vg rfl) (a_cons (x_tupF (ys := [q.1.nm]) (a_cons (x_op (x_vd rfl) x_int (o_ixT (d := .str q.1.nm) rfl)) a_nil) (by simp)) a_nil)) ⟨cs, [q.1.nm], rfl, rfl, rfl, ok, rfl⟩) (by rw [countP_one, e2])) ?_
          exact kk _ _ ⟨_, rfl, rfl⟩
        · have hc : q.1.call = true := by simpa using hb
          have e2 : odd = none := by rw [ed]; unfold deedOf; rw [hc]; rfl
          refine r_next (kk _ _ ⟨.d (stepD q.1), ?_, rfl⟩)
          rw [e2]; rfl
    · have hb := of_decide_eq_false hb
      have hw : wy wt cs s = none := Classical.not_not.mp hb
      rcases way_of wt ok sk with ⟨_, _, h3⟩ | ⟨_, q, _, h2, _⟩
      · have e2 : odd = none := by rw [hodd, h3]; rfl
        exact ⟨_, by rw [e2]; rfl, rfl⟩
      · rw [hw] at h2; cases h2
    · rintro δ2 μ2 ⟨e6, rfl, rfl⟩
      refine q_forA (l := prt wt cs s) (enc := stD) (i_tup (x_callE0 (a_cons (x_vg rfl) (a_cons (x_vd rfl) (a_cons hget a_nil))) ⟨cs, s, wy wt cs s, prt wt cs s, rfl, rfl, rfl, ok, sm, wp_of wt ok sk, rfl⟩))
        (fun j δ μ => ∃ e5 : Ent, δ = [.g (gBook Cb cs), .g (gDT (pwT wt cs)), .m p, .d (stD s), .d (cntD (deeds cs) fun x => CK.ind odd x + (((prt wt cs s).take j).map fun q => cnt wt cs q x).sum), e5, e6] ∧ μ = [(p, .dT ft)]) ⟨_, rfl, rfl⟩ ?_ ?_
      · rintro B2 xB2 j q δ3 μ3 hq ⟨e5, rfl, rfl⟩
        refine ⟨_, _, tg_name, ?_⟩
        show FD.Run _ _ _ (p :: M) [.g (gBook Cb cs), .g (gDT (pwT wt cs)), .m p, .d (stD s), .d (cntD (deeds cs) fun x => CK.ind odd x + (((prt wt cs s).take j).map fun q => cnt wt cs q x).sum), .d (stD q), e6] [(p, .dT ft)]
        refine r_asg (x_callR (ds := [cntD (deeds cs) fun x => CK.ind odd x + (((prt wt cs s).take j).map fun q => cnt wt cs q x).sum, cntD (deeds cs) (cnt wt cs q)]) (a_cons (x_vd rfl) (a_cons (x_tgetD (k := stK q) (x_vm rfl) (x_vd rfl) (.m (by simp)) (ftv q (List.mem_of_getElem? hq))) a_nil)) ⟨deeds cs, _, _, rfl, by omega, rfl⟩) ?_
        refine fun σ H o => ⟨_, _, ⟨.d (stD q), ?_, rfl⟩, o⟩
        have : (fun x => CK.ind odd x + (((prt wt cs s).take j).map fun q => cnt wt cs q x).sum + cnt wt cs q x) = fun x => CK.ind odd x + (((prt wt cs s).take (j + 1)).map fun q => cnt wt cs q x).sum := funext fun x => by
          rw [List.take_add_one, hq, List.map_append, List.sum_append]
          simp; omega
        rw [this]; rfl
      · rintro δ3 μ3 ⟨e5, rfl, rfl⟩
        rw [List.take_length, ← (funext hcnt : cnt wt cs s = _)]
        refine r_tput (j := 0) (k := stK s) (φ := gD (cntD (deeds cs) (cnt wt cs s))) (x_vd rfl) (x_vm rfl) (x_vd rfl) (entG_d _) rfl (by omega) ?_
        refine fun σ H o => ⟨_, _, ⟨_, _, _, _, rfl, ?_⟩, o⟩
        show [(p, MO.dT (putG ft (stK s) (gD (cntD (deeds cs) (cnt wt cs s)))))] = _
        rw [← hμ, pre_put (cntD (deeds cs)) oo.nd (cnt wt cs) hs]
  · rintro δ1 μ1 ⟨e3, e4, e5, e6, rfl, rfl⟩
    rw [List.take_length]
    have perm : (ordL wt cs).Perm (keysL wt cs) := (List.perm_ext_iff_of_nodup oo.nd (keysL_nd wt ok)).mpr fun s => ⟨fun h => oo.sub s h, fun h => ord_mem wt ok h⟩
    refine r_retNn (mo := .dT (ctT wt cs)) (μ' := []) (μ1 := [(p, .dT (encT (cntD (deeds cs)) ((ordL wt cs).map fun s => (s, cnt wt cs s))))]) ?_ (fun q hq => absurd hq (by simp)) fin
    have h := n_dcE (C := ⟨K, M, G, B⟩) (M := p :: M) (δ := [.g (gBook Cb cs), .g (gDT (pwT wt cs)), .m p, e3, e4, e5, e6]) (μ := [(p, .dT (encT (cntD (deeds cs)) ((ordL wt cs).map fun s => (s, cnt wt cs s))))]) (μ' := [(p, .dT (encT (cntD (deeds cs)) ((ordL wt cs).map fun s => (s, cnt wt cs s))))]) (g := gName 3) (tt := tYes) (tk := tVar 3) (tv := tDGet (tVar 2) (tVar 3)) (vs := [3]) (cntD (deeds cs)) (keysL wt cs) (keysL_nd wt ok) (fun _ => true) (cnt wt cs)
      (i_list (te := tCB rSortedT (tCons (tVar 2) tNil)) (x_is (x_cbP (a_cons (x_vm rfl) a_nil) (c_sortedT (l := encT (cntD (deeds cs)) ((ordL wt cs).map fun s => (s, cnt wt cs s))) (m := (keysL wt cs).map stK) (.m (by simp)) (by rw [encT_keys]; exact one_shape _) (by rw [encT_len, List.length_map]; omega) (fun L pL aL => by
        rw [encT_keys, List.map_map, List.map_map] at pL
        exact asc_sub _ aL (pL.trans ((List.Perm.of_eq (by rfl)).trans ((perm.map _)))))) ) (by rw [List.map_map]; rfl))).toN (fun _ _ _ _ _ _ => trivial) (by omega) (fun s hs B' q mo' => ⟨[3], _, tg_name, fun k hk => hk, t_yes, fun _ => ⟨x_vd rfl, x_tgetD (k := stK s) (l := encT (cntD (deeds cs)) ((ordL wt cs).map fun s => (s, cnt wt cs s))) (x_vm rfl) (x_vd rfl) (.m (by simp)) ?_⟩⟩)
    · rw [List.filter_eq_self.mpr fun _ _ => rfl] at h
      exact h
    · rw [valG_enc, CK.val_keys, if_pos (ord_mem wt ok hs)]; rfl
end
end K09
namespace FD
open PySem L2 Evl
section
variable {C : Cfg} {M : List Addr} {δ : List Ent} {μ μ1 : Mem} {te ten : TE} {tr : TA} {e : Ent} {ds : List PyData} {mo1 mo2 : MO} {i j : Nat} {D : Ends} {t2 : TS}
theorem n_listL (h : EvA C tr M δ μ μ1 [e]) (r : Rdd μ1 e (.list ds)) : EvN C (tCB (rListOf C.K) tr) M δ μ μ1 (.lst ds) := fun σ H o Q kk => h σ H o _ fun vs H1 o1 x1 r1 => by
  obtain ⟨v, rfl, q⟩ := p1 r1
  obtain ⟨a, ws, q1, q2, q3⟩ := r.lst o1 q
  refine ⟨a, ws, by rw [q1], .inl q2, fun l hl => ?_⟩
  exact kk l _ (o1.fresh hl) (o1.new hl (mo := .lst ds) (ho := .lst ws) ⟨ws, upd_same, dpAll_mono (hide_new hl) _ _ q3⟩) (x1.trans (hide_new hl))
theorem q_parNN (h1 : EvN C te M δ μ μ1 mo1) (h2 : ∀ p, p ∉ M → EvN C ten (p :: M) δ ((p, mo1) :: μ1) ((p, mo1) :: μ1) mo2) (k : ∀ p q, p ∉ M → q ∉ p :: M → Run C t2 D (q :: p :: M) ((δ.set i (.m p)).set j (.m q)) ((q, mo2) :: (p, mo1) :: μ1)) : Run C (tSeq (tPar i j (tCons te (tCons ten tNil))) t2) D M δ μ := fun σ H o =>
  h1 σ H o _ fun p H1 pM o1 x1 => h2 p pM σ H1 o1 _ fun q H2 qM o2 x2 => ⟨.ref p, .ref q, rfl, k p q pM qM _ _ ((o2.set i (e := .m p) rfl).set j (e := .m q) rfl)⟩
theorem eqv_nil (ds : List PyData) : PyData.eqv (.list ds) (.list []) = ds.isEmpty := by
  cases ds <;> simp [PyData.eqv, PyData.eqvAll]
end
end FD
namespace K09
open PySem L2 FD Evl
/-! ### the law's draws -/
abbrev Box := Int × Int × Int
def Box.ds (b : Box) : List PyData := [.int b.1, .int b.2.1, .int b.2.2]
def rawOf (y z : Int) : Int := ((y + 99991 * z) * 69621 + 53) % 2147483563
def nextOf (r : Int) : Int := (r * 40692 + 27011) % 2147483629 + 1
def tkB (b : Box) (n : Int) : Box := if 0 < b.1 then (b.1 / n, b.2.1, b.2.2) else (b.1, nextOf (rawOf b.2.1 (b.2.2 + 1)), b.2.2 + 1)
def tkV (b : Box) (n : Int) : Int := if 0 < b.1 then b.1 % n else (rawOf b.2.1 (b.2.2 + 1) * 2147483647 + nextOf (rawOf b.2.1 (b.2.2 + 1))) / 8191 % n
theorem tkV_lt {b : Box} {n : Int} (h : 0 < n) : 0 ≤ tkV b n ∧ tkV b n < n := by
  unfold tkV
  split
  · exact ⟨Int.emod_nonneg _ (by omega), Int.emod_lt_of_pos _ h⟩
  · exact ⟨Int.emod_nonneg _ (by omega), Int.emod_lt_of_pos _ h⟩
def Rtk (bs ds : List PyData) (d : PyData) (bs' : List PyData) : Prop := ∃ (b : Box) (n : Int), bs = b.ds ∧ ds = [.int n] ∧ 0 < n ∧ n < 2 ^ 64 ∧ d = .int (tkV b n) ∧ bs' = (tkB b n).ds
section
variable {P : Program} {w : World} {K : PySem.W.Frag} {mg : Str → Option Value} {base : Heap} {Cb : Addr}
abbrev nTk : List Str := ["_law_box_here", "_law_many", "_law_raw", "_law_digit"]
theorem scTk : FnScope nTk ["_law_box_here", "_law_many"] (defScope sTk) := ⟨rfl, rfl, rfl, by decide +kernel, rfl, by decide +kernel, by decide +kernel⟩
theorem ok_tk {f : Addr} {fd : FuncData} (T : Txt K mg Cb) (F : Fun K "_law_take" "_law_take" sTk f fd) : FnOk P w K mg base CX0 1 f fd ["_law_box_here", "_law_many"] (spW K 2 Rtk) := by
  refine def_W F scTk (by decide) rfl fun cdv A outer s H E hr => ?_
  have nd := scTk.nd
  refine ⟨_, (pss_cons (ps_if (pt_cmpR op_gt (pe_ix ix_list (pv 0) pe_int (fun _ _ => rfl)) pe_int (nomark _)) (pss_cons (ps_set (i := 3) nd rfl (Or.inl rfl) (pe_op op_mod (pe_callTy call_int1 (by rfl) T.int (by decide +kernel) (pa_cons (pe_ix ix_list (pv 0) pe_int (fun _ _ => rfl)) pa_nil)) (pv 1)))
 (pss_cons (ps_asg (pe_op op_fdivW (pe_ix ix_list (pv 0) pe_int (fun _ _ => rfl)) (pv 1)) (pg_sub (pv 0) pe_int set_list))
 (pss_one (ps_ret (pv 3))))) pss_nil)
 (pss_cons (ps_asg (pe_op op_add (pe_ix ix_list (pv 0) pe_int (fun _ _ => rfl)) pe_int) (pg_sub (pv 0) pe_int set_list))
 (pss_cons (ps_set (i := 2) nd rfl (Or.inl rfl) (pe_op op_mod (pe_callTy call_int1 (by rfl) T.int (by decide +kernel) (pa_cons (pe_op op_add (pe_op op_mul (pe_op op_add (pe_ix ix_list (pv 0) pe_int (fun _ _ => rfl)) (pe_op op_mul pe_int (pe_ix ix_list (pv 0) pe_int (fun _ _ => rfl)))) pe_int) pe_int) pa_nil)) pe_int))
 (pss_cons (ps_asg (pe_op op_add (pe_op op_mod (pe_callTy call_int1 (by rfl) T.int (by decide +kernel) (pa_cons (pe_op op_add (pe_op op_mul (pv 2) pe_int) pe_int) pa_nil)) pe_int) pe_int) (pg_sub (pv 0) pe_int set_list))
 (pss_one (ps_ret (pe_op op_mod (pe_callTy call_int1 (by rfl) T.int (by decide +kernel) (pa_cons (pe_op op_fdivW (pe_op op_add (pe_op op_mul (pv 2) pe_int) (pe_ix ix_list (pv 0) pe_int (fun _ _ => rfl))) pe_int) pa_nil)) (pv 1)))))))), ?_⟩
  rintro M G B b bs ds d bs' _ ⟨⟨x, y, z⟩, n, rfl, rfl, h0, h1, rfl, rfl⟩ D fin
  show FD.Run _ _ D M [.m b, .d (.int n), .u, .u] [(b, .lst [.int x, .int y, .int z])]
  have hR : Rdd [(b, .lst [.int x, .int y, .int z])] (.m b) (.list [.int x, .int y, .int z]) := .m (j := 0) rfl
  refine q_when (t_test (x_op (x_op (x_vm rfl) x_int (o_ixL hR rfl)) x_int o_B0)) (fun hb => ?_) fun hb => ?_
  · have hx : 0 < x := of_decide_eq_true hb
    refine q_asg (x_op (x_cbP (a_cons (x_op (x_vm rfl) x_int (o_ixL hR rfl)) a_nil) c_intI) (x_vd rfl) (o_I h0)) ?_
    refine q_setL (j := 0) (n := 0) (x_op (x_op (x_vm rfl) x_int (o_ixL hR rfl)) (x_vd rfl) (o_I (wide_div h0 (b := 64) (by omega) (by decide) (by decide)))) (x_vm rfl) x_int rfl rfl ?_
    refine r_retW (j := 0) (x_vd rfl) rfl fun v M' H' e s m r => fin v M' H' e s ?_ ?_
    · have e1 : (tkB (x, y, z) n).ds = [.int (x / n), .int y, .int z] := by unfold tkB; rw [if_pos hx]; rfl
      rw [e1]; exact m
    · have e1 : tkV (x, y, z) n = x % n := by unfold tkV; rw [if_pos hx]
      rw [e1]; exact r
  · have hx : ¬ 0 < x := of_decide_eq_false hb
    refine q_setL (j := 0) (n := 2) (x_op (x_op (x_vm rfl) x_int (o_ixL hR rfl)) x_int o_I0) (x_vm rfl) x_int rfl rfl ?_
    have hR2 : Rdd [(b, .lst [.int x, .int y, .int (z + 1)])] (.m b) (.list [.int x, .int y, .int (z + 1)]) := .m (j := 0) rfl
    show FD.Run _ _ D M [.m b, .d (.int n), .u, .u] [(b, .lst [.int x, .int y, .int (z + 1)])]
    refine q_asg (x_op (x_cbP (a_cons (x_op (x_op (x_op (x_op (x_vm rfl) x_int (o_ixL hR2 rfl)) (x_op x_int (x_op (x_vm rfl) x_int (o_ixL hR2 rfl)) (o_I (.inl ⟨by decide, by decide⟩))) o_I0) x_int (o_I (.inr ⟨by decide, by decide⟩))) x_int o_I0) a_nil) c_intI) x_int (o_I (by decide))) ?_
    show FD.Run _ _ D M [.m b, .d (.int n), .d (.int (rawOf y (z + 1))), .u] [(b, .lst [.int x, .int y, .int (z + 1)])]
    refine q_setL (j := 0) (n := 1) (x_op (x_op (x_cbP (a_cons (x_op (x_op (x_vd rfl) x_int (o_I (.inr ⟨by decide, by decide⟩))) x_int o_I0) a_nil) c_intI) x_int (o_I (by decide))) x_int o_I0) (x_vm rfl) x_int rfl rfl ?_
    have hR3 : Rdd [(b, .lst [.int x, .int (nextOf (rawOf y (z + 1))), .int (z + 1)])] (.m b) (.list [.int x, .int (nextOf (rawOf y (z + 1))), .int (z + 1)]) := .m (j := 0) rfl
    show FD.Run _ _ D M [.m b, .d (.int n), .d (.int (rawOf y (z + 1))), .u] [(b, .lst [.int x, .int (nextOf (rawOf y (z + 1))), .int (z + 1)])]
    refine r_retW (j := 0) (x_op (x_cbP (a_cons (x_op (x_op (x_op (x_vd rfl) x_int (o_I (.inr ⟨by decide, by decide⟩))) (x_op (x_vm rfl) x_int (o_ixL hR3 rfl)) o_I0) x_int (o_I (wide_div (by decide) (b := 64) (by decide) (by decide) (by decide)))) a_nil) c_intI) (x_vd rfl) (o_I h0)) rfl fun v M' H' e s m r => fin v M' H' e s ?_ ?_
    · have e1 : (tkB (x, y, z) n).ds = [.int x, .int (nextOf (rawOf y (z + 1))), .int (z + 1)] := by unfold tkB; rw [if_neg hx]; rfl
      rw [e1]; exact m
    · have e1 : tkV (x, y, z) n = (rawOf y (z + 1) * 2147483647 + nextOf (rawOf y (z + 1))) / 8191 % n := by unfold tkV; rw [if_neg hx]
      rw [e1]; exact r
theorem at_nat {α : Type} {xs : List α} {i : Int} {v : α} (h0 : 0 ≤ i) (h : xs[i.toNat]? = some v) : atI xs i = some v := by
  have e : i = (i.toNat : Int) := by omega
  rw [e]; exact atI_nat h
end
def absI (i : Int) : Int := if i < 0 then -i else i
def cellOf (ns : List Int) (k : Nat) : Int := if k < ns.length then absI (ns.getD k 0) else if 0 < ns.length then 7919 * (k : Int) + 54001 + absI (ns.getD (k % ns.length) 0) % 2147483629 * 60719 else 7919 * (k : Int) + 54001
def bxOf (ns : List Int) (k : Nat) : Box := (if (10 : Int) ^ (18 : Int).toNat ≤ cellOf ns k then cellOf ns k else 0, (cellOf ns k % 2147483629 * 48271 + 54001 * (k : Int) + 977) % 2147483629 + 1, 0)
section
variable {P : Program} {w : World} {K : PySem.W.Frag} {mg : Str → Option Value} {base : Heap} {Cb : Addr}
def Rbx (ds es : List PyData) : Prop := ∃ (ns : List Int) (k : Nat), ds = [.list (ns.map .int), .int (k : Int)] ∧ k < 64 ∧ es = (bxOf ns k).ds
abbrev nBx : List Str := ["_law_script", "_law_k", "_law_cell"]
theorem scBx : FnScope nBx ["_law_script", "_law_k"] (defScope sBx) := ⟨rfl, rfl, rfl, by decide +kernel, rfl, by decide +kernel, by decide +kernel⟩
theorem ti_get {xs : List Int} {i : Nat} {x : Int} (h : xs[i]? = some x) : (xs.map PyData.int)[i]? = some (.int x) := by rw [List.getElem?_map, h]; rfl
theorem getD_get {xs : List Int} {i : Nat} (h : i < xs.length) : xs[i]? = some (xs.getD i 0) := by simp [h]
theorem ok_bx {f : Addr} {fd : FuncData} (T : Txt K mg Cb) (F : Fun K "_law_box" "_law_box" sBx f fd) : FnOk P w K mg base CX0 1 f fd ["_law_script", "_law_k"] (spN K 2 Rbx) := by
  refine def_N F scBx (by decide) fun cdv A outer s H E hr => ?_
  have nd := scBx.nd
  refine ⟨_, (pss_cons (ps_set (i := 2) nd rfl (Or.inl rfl) (pe_op op_add (pe_op op_mul pe_int (pv 1)) pe_int))
 (pss_cons (ps_if (pt_cmpR op_lt (pv 1) (pe_callB call_len_seq (by rfl) T.len PySem.boot_len (pa_cons (pv 0) pa_nil)) (nomark _)) (pss_one (ps_set (i := 2) nd rfl (Or.inl rfl) (pe_callB call_abs (by rfl) T.abs (by decide +kernel) (pa_cons (pe_ix ix_list (pv 0) (pv 1) (fun _ _ => rfl)) pa_nil)))) (pss_one (ps_if (pt_cmpR op_gt (pe_callB call_len_seq (by rfl) T.len PySem.boot_len (pa_cons (pv 0) pa_nil)) pe_int (nomark _)) (pss_one (ps_set (i := 2) nd rfl (Or.inl rfl) (pe_op op_add (pv 2) (pe_op op_mul (pe_op op_mod (pe_callTy call_int1 (by rfl) T.int (by decide +kernel) (pa_cons (pe_callB call_abs (by rfl) T.abs (by decide +kernel) (pa_cons (pe_ix ix_list (pv 0) (pe_op op_mod (pe_callTy call_int1 (by rfl) T.int (by decide +kernel) (pa_cons (pv 1) pa_nil)) (pe_callB call_len_seq (by rfl) T.len PySem.boot_len (pa_cons (pv 0) pa_nil))) (fun _ _ => rfl)) pa_nil)) pa_nil)) pe_int) pe_int)))) pss_nil)))
 (pss_one (ps_ret (pe_lst (pa_cons (pe_ix ix_list (pe_lst (pa_cons pe_int (pa_cons (pv 2) pa_nil))) (pe_callTy call_int1 (by rfl) T.int (by decide +kernel) (pa_cons (pe_cmpR op_ge (pv 2) (pe_op op_pow pe_int pe_int) (nomark _)) pa_nil)) (fun _ _ => rfl)) (pa_cons (pe_op op_add (pe_op op_mod (pe_callTy call_int1 (by rfl) T.int (by decide +kernel) (pa_cons (pe_op op_add (pe_op op_add (pe_op op_mul (pe_op op_mod (pe_callTy call_int1 (by rfl) T.int (by decide +kernel) (pa_cons (pv 2) pa_nil)) pe_int) pe_int) (pe_op op_mul pe_int (pv 1))) pe_int) pa_nil)) pe_int) pe_int) (pa_cons pe_int pa_nil)))))))), ?_⟩
  rintro M G B ds es _ ⟨ns, k, rfl, hk, rfl⟩ D fin
  show FD.Run _ _ D M [.d (.list (ns.map .int)), .d (.int (k : Int)), .u] []
  refine q_asg (x_op (x_op x_int (x_vd rfl) (o_I (.inl ⟨by decide, by decide⟩))) x_int o_I0) ?_
  refine q_ifJ [.d (.list (ns.map .int)), .d (.int (k : Int)), .d (.int (cellOf ns k))] [] (t_test (x_op (x_vd rfl) (x_cbP (a_cons (x_vd rfl) a_nil) (c_lenL (.d _))) o_B0)) (fun hb D' kk => ?_) (fun hb D' kk => ?_) ?_
  · have h : k < ns.length := by have := of_decide_eq_true hb; rw [List.length_map] at this; omega
    refine r_asg (x_cbP (a_cons (x_op (x_vd rfl) (x_vd rfl) (o_ixL (.d _) (atI_nat (ti_get (getD_get h))))) a_nil) c_abs) (nx_to kk ?_ rfl)
    unfold cellOf
    rw [if_pos h]; rfl
  · have h : ¬ k < ns.length := by have := of_decide_eq_false hb; rw [List.length_map] at this; omega
    refine r_if (t_test (x_op (x_cbP (a_cons (x_vd rfl) a_nil) (c_lenL (.d _))) x_int o_B0)) (fun hb => ?_) fun hb => ?_
    · have h0 : 0 < ns.length := by have := of_decide_eq_true hb; rw [List.length_map] at this; omega
      have e : ((k : Int) % ((ns.map PyData.int).length : Int)) = ((k % ns.length : Nat) : Int) := by rw [List.length_map]; omega
      refine r_asg (x_op (x_vd rfl) (x_op (x_op (x_cbP (a_cons (x_cbP (a_cons (x_op (x_vd rfl) (x_op (x_cbP (a_cons (x_vd rfl) a_nil) c_intI) (x_cbP (a_cons (x_vd rfl) a_nil) (c_lenL (.d _))) (o_I (by rw [List.length_map]; omega))) (o_ixL (.d _) (by rw [e]; exact atI_nat (ti_get (getD_get (Nat.mod_lt _ h0)))))) a_nil) c_abs) a_nil) c_intI) x_int (o_I (by decide))) x_int (o_I (.inr ⟨by decide, by decide⟩))) o_I0) (nx_to kk ?_ rfl)
      unfold cellOf
      rw [if_neg h, if_pos h0]; rfl
    · have h0 : ¬ 0 < ns.length := by have := of_decide_eq_false hb; rw [List.length_map] at this; omega
      refine r_next (nx_to kk ?_ rfl)
      unfold cellOf
      rw [if_neg h, if_neg h0]; rfl
  · refine r_retN (μ' := []) (es := (bxOf ns k).ds) ?_ (by simp [Box.ds]) fin
    refine a_cons (x_is (x_op (x_lst (ds := [.int 0, .int (cellOf ns k)]) (a_cons x_int (a_cons (x_vd rfl) a_nil)) (by simp)) (x_cbP (a_cons (x_op (x_vd rfl) (x_op x_int x_int (o_I ⟨by decide, by decide, by decide⟩)) o_B0) a_nil) c_intB) (o_ixL (d := .int (bxOf ns k).1) (.d _) ?_)) rfl) (a_cons (x_op (x_op (x_cbP (a_cons (x_op (x_op (x_op (x_op (x_cbP (a_cons (x_vd rfl) a_nil) c_intI) x_int (o_I (by decide))) x_int (o_I (.inr ⟨by decide, by decide⟩))) (x_op x_int (x_vd rfl) (o_I (.inl ⟨by decide, by decide⟩))) o_I0) x_int o_I0) a_nil) c_intI) x_int (o_I (by decide))) x_int o_I0) (a_cons x_int a_nil))
    unfold bxOf
    by_cases hc : (10 : Int) ^ (18 : Int).toNat ≤ cellOf ns k
    · rw [decide_eq_true hc]; simp only [hc, if_true]; rfl
    · rw [decide_eq_false hc]; simp only [hc, if_false]; rfl
end
section
variable {C : Cfg} {M : List Addr} {δ : List Ent} {μ μ' : Mem} {tb tn : TE} {E : XK} {p : Addr} {b : Box} {n : Int}
theorem x_take (h1 : EvX C tb M δ [(p, .lst b.ds)] [(p, .lst b.ds)] (.m p)) (h2 : EvX C tn M δ [(p, .lst b.ds)] [(p, .lst b.ds)] (.d (.int n))) (h0 : 0 < n) (h3 : n < 2 ^ 64) :
    EvX C (tCall (spW C.K 2 Rtk) [] E (tCons tb (tCons tn tNil))) M δ [(p, .lst b.ds)] [(p, .lst (tkB b n).ds)] (.d (.int (tkV b n))) :=
  x_callW 0 (ds := [.int n]) (a_cons h1 (a_cons h2 a_nil)) ⟨b, n, rfl, rfl, h0, h3, rfl, rfl⟩
theorem x_takeJ (j : Nat) (h1 : EvX C tb M δ μ μ (.m p)) (h2 : EvX C tn M δ μ μ (.d (.int n))) (hj : μ[j]? = some (p, .lst b.ds)) (h0 : 0 < n) (h3 : n < 2 ^ 64) :
    EvX C (tCall (spW C.K 2 Rtk) [] E (tCons tb (tCons tn tNil))) M δ μ (μ.set j (p, .lst (tkB b n).ds)) (.d (.int (tkV b n))) :=
  x_callW j (ds := [.int n]) (a_cons h1 (a_cons h2 a_nil)) ⟨b, n, rfl, rfl, h0, h3, rfl, rfl⟩ hj
end
/-! ### _law_pick -/
def Rpk (es : List Ent) (μ : Mem) (d : PyData) (μ' : Mem) : Prop := ∃ (b : Addr) (bx : Box) (xs : List PyData), 0 < xs.length ∧ xs.length < 100000 ∧ xs[(tkV bx xs.length).toNat]? = some d ∧
  ((es = [.m b, .d (.list xs)] ∧ μ = [(b, .lst bx.ds)] ∧ μ' = [(b, .lst (tkB bx xs.length).ds)]) ∨ ∃ f : Addr, es = [.m b, .m f] ∧ μ = [(f, .lst xs), (b, .lst bx.ds)] ∧ μ' = [(f, .lst xs), (b, .lst (tkB bx xs.length).ds)])
theorem swap_all {μ μ' : Mem} (h : ad μ' = ad μ) : Swap μ μ' μ μ' := ⟨fun _ h => h, h, h, fun _ h => .inl h⟩
section
variable {C : Cfg} {M : List Addr} {δ : List Ent} {μ μ' : Mem} {tb tn : TE} {E : XK} {p f : Addr} {b : Box} {xs : List PyData} {d : PyData}
theorem x_pickD (h1 : EvX C tb M δ [(p, .lst b.ds)] [(p, .lst b.ds)] (.m p)) (h2 : EvX C tn M δ [(p, .lst b.ds)] [(p, .lst b.ds)] (.d (.list xs))) (h0 : 0 < xs.length) (h3 : xs.length < 100000)
    (hx : xs[(tkV b xs.length).toNat]? = some d) : EvX C (tCall (spE C.K 2 Rpk) [] E (tCons tb (tCons tn tNil))) M δ [(p, .lst b.ds)] [(p, .lst (tkB b xs.length).ds)] (.d d) :=
  x_callE (a_cons h1 (a_cons h2 a_nil)) (swap_all rfl) (by simp [ad]) ⟨p, b, xs, h0, h3, hx, .inl ⟨rfl, rfl, rfl⟩⟩
theorem x_pickM (h1 : EvX C tb M δ [(f, .lst xs), (p, .lst b.ds)] [(f, .lst xs), (p, .lst b.ds)] (.m p)) (h2 : EvX C tn M δ [(f, .lst xs), (p, .lst b.ds)] [(f, .lst xs), (p, .lst b.ds)] (.m f)) (h0 : 0 < xs.length) (h3 : xs.length < 100000)
    (hx : xs[(tkV b xs.length).toNat]? = some d) : EvX C (tCall (spE C.K 2 Rpk) [] E (tCons tb (tCons tn tNil))) M δ [(f, .lst xs), (p, .lst b.ds)] [(f, .lst xs), (p, .lst (tkB b xs.length).ds)] (.d d) :=
  fun σ H o Q k => x_callE (μ0' := [(f, .lst xs), (p, .lst (tkB b xs.length).ds)]) (a_cons h1 (a_cons h2 a_nil)) (swap_all rfl) o.nd ⟨p, b, xs, h0, h3, hx, .inr ⟨f, rfl, rfl, rfl⟩⟩ rfl σ H o Q k
end
section
variable {P : Program} {w : World} {K : PySem.W.Frag} {mg : Str → Option Value} {base : Heap} {Cb : Addr}
abbrev nPk : List Str := ["_law_box_here", "_law_some"]
theorem scPk : FnScope nPk ["_law_box_here", "_law_some"] (defScope sPk) := ⟨rfl, rfl, rfl, by decide +kernel, rfl, by decide +kernel, by decide +kernel⟩
theorem ok_pk {f : Addr} {fd : FuncData} (T : Txt K mg Cb) (F : Fun K "_law_pick" "_law_pick" sPk f fd) {f1 : Addr} {fd1 : FuncData} (H1 : Has K mg "_law_take" sTk ["_law_box_here", "_law_many"] f1 fd1) : FnOk P w K mg base CX0 2 f fd ["_law_box_here", "_law_some"] (spE K 2 Rpk) := by
  have G1 : FnOk P w K mg base CX0 1 f1 fd1 ["_law_box_here", "_law_many"] (spW K 2 Rtk) := ok_tk T H1.F
  refine def_E F scPk (by decide) rfl fun cdv A outer s H E hr => ?_
  have nd := scPk.nd
  refine ⟨_, (pss_one (ps_ret (pe_ix ix_list (pv 1) (pe_call G1 hr rfl H1.m H1.F.kp H1.b .nil pass0 (pa_cons (pv 0) (pa_cons (pe_callB call_len_seq (by rfl) T.len PySem.boot_len (pa_cons (pv 1) pa_nil)) pa_nil))) (fun _ _ => rfl)))), ?_⟩
  rintro M G B es μ d μ' ⟨b, bx, xs, h0, h1, hx, (⟨rfl, rfl, rfl⟩ | ⟨f, rfl, rfl, rfl⟩)⟩ D fin
  · have hv := tkV_lt (b := bx) (n := xs.length) (by omega)
    show FD.Run _ _ D M [.m b, .d (.list xs)] [(b, .lst bx.ds)]
    exact r_retE (x_op (x_vd rfl) (x_takeJ 0 (x_vm rfl) (x_cbP (a_cons (x_vd rfl) a_nil) (c_lenL (.d _))) rfl (by omega) (by omega)) (o_ixL (.d _) (at_nat hv.1 hx))) (fun z hz => hz) fin
  · have hv := tkV_lt (b := bx) (n := xs.length) (by omega)
    show FD.Run _ _ D M [.m b, .m f] [(f, .lst xs), (b, .lst bx.ds)]
    exact r_retE (x_op (x_vm rfl) (x_takeJ 1 (x_vm rfl) (x_cbP (a_cons (x_vm rfl) a_nil) (c_lenL (.m (j := 0) rfl))) rfl (by omega) (by omega)) (o_ixL (.m (j := 0) rfl) (at_nat hv.1 hx))) (fun z hz => hz) fin
end
theorem erase_map {α β : Type} (f : α → β) : ∀ (xs : List α) (m : Nat), (xs.map f).eraseIdx m = (xs.eraseIdx m).map f
  | [], _ => rfl
  | _ :: _, 0 => rfl
  | x :: xs, m + 1 => by
    show f x :: (xs.map f).eraseIdx m = f x :: (xs.eraseIdx m).map f
    rw [erase_map f xs m]
theorem erase_perm {α : Type} : ∀ {xs : List α} {m : Nat} (h : m < xs.length), (xs[m] :: xs.eraseIdx m).Perm xs
  | x :: xs, 0, _ => .refl _
  | x :: xs, m + 1, h => (List.Perm.swap _ _ _).trans (.cons x (erase_perm (xs := xs) (m := m) (by simpa using h)))
/-- things in a drawn order -/
def mix {α : Type} : Nat → Box → List α → List α × Box
  | 0, b, _ => ([], b)
  | n + 1, b, xs => match xs[(tkV b ((n : Int) + 1)).toNat]? with
    | none => ([], b)
    | some x => (x :: (mix n (tkB b ((n : Int) + 1)) (xs.eraseIdx (tkV b ((n : Int) + 1)).toNat)).1, (mix n (tkB b ((n : Int) + 1)) (xs.eraseIdx (tkV b ((n : Int) + 1)).toNat)).2)
theorem mix_map {α β : Type} (f : α → β) : ∀ (n : Nat) (b : Box) (xs : List α), mix n b (xs.map f) = ((mix n b xs).1.map f, (mix n b xs).2)
  | 0, b, xs => rfl
  | n + 1, b, xs => by
    unfold mix
    rw [List.getElem?_map]
    cases xs[(tkV b ((n : Int) + 1)).toNat]? with
    | none => rfl
    | some x =>
      show (_, _) = (_, _)
      rw [erase_map, mix_map f n]; rfl
theorem mix_perm {α : Type} : ∀ (n : Nat) (b : Box) (xs : List α), xs.length = n → (mix n b xs).1.Perm xs
  | 0, b, xs, h => by rw [List.length_eq_zero_iff.mp h]; exact .nil
  | n + 1, b, xs, h => by
    have hv := tkV_lt (b := b) (n := (n : Int) + 1) (by omega)
    have hl : (tkV b ((n : Int) + 1)).toNat < xs.length := by omega
    unfold mix
    rw [List.getElem?_eq_getElem hl]
    refine (List.Perm.cons _ (mix_perm n _ _ (by rw [List.length_eraseIdx, if_pos hl]; omega))).trans ?_
    exact erase_perm hl
def Rmx (es : List Ent) (μ : Mem) (d : PyData) (μ' : Mem) : Prop := ∃ (b : Addr) (bx : Box) (xs : List PyData), xs.length < 100 ∧ (∀ x ∈ xs, Shp 1 x) ∧ d = .list (mix xs.length bx xs).1 ∧
  ((es = [.m b, .d (.list xs)] ∧ μ = [(b, .lst bx.ds)] ∧ μ' = [(b, .lst (mix xs.length bx xs).2.ds)]) ∨ ∃ f : Addr, es = [.m b, .m f] ∧ μ = [(f, .lst xs), (b, .lst bx.ds)] ∧ μ' = [(f, .lst xs), (b, .lst (mix xs.length bx xs).2.ds)])
section
variable {P : Program} {w : World} {K : PySem.W.Frag} {mg : Str → Option Value} {base : Heap} {Cb : Addr}
abbrev nMx : List Str := ["_law_box_here", "_law_some", "_law_left", "_law_found"]
theorem scMx : FnScope nMx ["_law_box_here", "_law_some"] (defScope sMx) := ⟨rfl, rfl, rfl, by decide +kernel, rfl, by decide +kernel, by decide +kernel⟩
theorem ok_mx {f : Addr} {fd : FuncData} (T : Txt K mg Cb) (F : Fun K "_law_mixed" "_law_mixed" sMx f fd) {f1 : Addr} {fd1 : FuncData} (H1 : Has K mg "_law_take" sTk ["_law_box_here", "_law_many"] f1 fd1) : FnOk P w K mg base CX0 2 f fd ["_law_box_here", "_law_some"] (spE K 2 Rmx) := by
  have G1 : FnOk P w K mg base CX0 1 f1 fd1 ["_law_box_here", "_law_many"] (spW K 2 Rtk) := ok_tk T H1.F
  refine def_E F scMx (by decide) rfl fun cdv A outer s H E hr => ?_
  have nd := scMx.nd
  refine ⟨_, (pss_cons (ps_par (i := 2) (j := 3) (by rfl) nd rfl rfl (by decide) rfl rfl (pa_cons (pe_callTy call_list_of (by rfl) T.list (by decide +kernel) (pa_cons (pv 1) pa_nil)) (pa_cons (pe_lst pa_nil) pa_nil)) (by rfl))
 (pss_cons (ps_while PassesOwn.never (pt_cmpR (op_neD hr.units) (pv 2) (pe_lst pa_nil) (nomark _)) (pss_one (ps_expr (pe_bm PySem.F.plainAttrs_list PySem.F.slot_list_append PySem.F.type_list_append mt_append (pv 3) (pa_cons (pe_bm PySem.F.plainAttrs_list PySem.F.slot_list_pop PySem.F.type_list_pop mt_popAt (pv 2) (pa_cons (pe_call G1 hr rfl H1.m H1.F.kp H1.b .nil pass0 (pa_cons (pv 0) (pa_cons (pe_callB call_len_seq (by rfl) T.len PySem.boot_len (pa_cons (pv 2) pa_nil)) pa_nil))) pa_nil)) pa_nil)))))
 (pss_one (ps_ret (pv 3))))), ?_⟩
  rintro M G B es μ d μ' ⟨b, bx, xs, hl, hs, rfl, hh⟩ D fin
  obtain ⟨e, ρ, jb, hg, hset, rfl, rd, rfl, rfl, hv⟩ : ∃ (e : Ent) (ρ : Box → Mem) (jb : Nat), (∀ bx, (ρ bx)[jb]? = some (b, .lst bx.ds)) ∧ (∀ bx bx' : Box, (ρ bx).set jb (b, .lst bx'.ds) = ρ bx') ∧ es = [.m b, e] ∧ Rdd (ρ bx) e (.list xs) ∧ μ = ρ bx ∧ μ' = ρ (mix xs.length bx xs).2 ∧ (∀ (C : Cfg) (M : List Addr) (δ : List Ent), δ[1]? = some e → EvX C (tVar 1) M δ (ρ bx) (ρ bx) e) := by
    rcases hh with ⟨rfl, rfl, rfl⟩ | ⟨f, rfl, rfl, rfl⟩
    · exact ⟨.d (.list xs), fun bx => [(b, .lst bx.ds)], 0, fun _ => rfl, fun _ _ => rfl, rfl, .d _, rfl, rfl, fun _ _ _ h => x_vd h⟩
    · exact ⟨.m f, fun bx => [(f, .lst xs), (b, .lst bx.ds)], 1, fun _ => rfl, fun _ _ => rfl, rfl, .m (j := 0) rfl, rfl, rfl, fun _ _ _ h => x_vm h⟩
  show FD.Run _ _ D M [.m b, e, .u, .u] (ρ bx)
  refine q_parNN (n_listL (a_cons (hv _ _ _ rfl) a_nil) rd) (fun p pM => n_newL (ds := []) a_nil (by simp)) fun p q pM qM => ?_
  show FD.Run _ _ D (q :: p :: M) [.m b, e, .m p, .m q] ((q, .lst []) :: (p, .lst xs) :: ρ bx)
  refine FD.q_while (fun m δ μ => ∃ (left found : List PyData) (b' : Box), δ = [.m b, e, .m p, .m q] ∧ μ = (q, .lst found) :: (p, .lst left) :: ρ b' ∧ left.length = m ∧ found.length + left.length = xs.length ∧ (∀ x ∈ left, Shp 1 x) ∧ mix xs.length bx xs = (found ++ (mix left.length b' left).1, (mix left.length b' left).2)) xs.length ⟨xs, [], bx, rfl, rfl, rfl, by simp, hs, by simp⟩ ?_
  rintro m δ1 μ1 ⟨left, found, b', rfl, rfl, rfl, hn, hsl, hm⟩
  refine ⟨!left.isEmpty, _, t_is (t_test (x_op (x_vm rfl) (x_lst (ds := []) a_nil (by simp)) (o_neD (.m (j := 1) rfl) (.d _) ((shp_list (n := 1) hsl).shaped (by decide)) ((shp_nil 0).shaped (by decide))))) (by rw [eqv_nil]), fun hb => ?_, fun hb => ?_⟩
  · cases hl2 : left with
    | nil => rw [hl2] at hb; cases hb
    | cons x0 r0 =>
      rw [← hl2]
      have ln : left.length = r0.length + 1 := by rw [hl2]; rfl
      have e1 : ((left.length : Nat) : Int) = (r0.length : Int) + 1 := by omega
      have hv := tkV_lt (b := b') (n := (left.length : Int)) (by omega)
      have hi : (tkV b' (left.length : Int)).toNat < left.length := by omega
      have ei : ((tkV b' (left.length : Int)).toNat : Int) = tkV b' (left.length : Int) := by omega
      have tkq := x_takeJ (E := E) (C := ⟨K, M, G, B⟩) (M := q :: p :: M) (δ := [.m b, e, .m p, .m q]) (p := b) (b := b') (n := (left.length : Int)) (μ := (q, .lst found) :: (p, .lst left) :: ρ b') (tb := tVar 0) (jb + 2) (x_vm rfl) (x_cbP (a_cons (x_vm (i := 2) rfl) a_nil) (c_lenL (.m (j := 1) rfl))) (hg b') (by omega) (by omega)
      rw [← ei] at tkq
      refine r_app (j := 0) (ds := found) (x_vm rfl) (x_popAt (j := 1) (x_vm rfl) rfl tkq rfl (List.getElem?_eq_getElem hi) (by omega)) rfl rfl (by omega) ?_
      show Nx _ _ _ _ ((q, .lst (found ++ [left[(tkV b' (left.length : Int)).toNat]])) :: (p, .lst (left.eraseIdx (tkV b' (left.length : Int)).toNat)) :: (ρ b').set jb (b, .lst (tkB b' (left.length : Int)).ds))
      rw [hset]
      have le : (left.eraseIdx (tkV b' (left.length : Int)).toNat).length = r0.length := by rw [List.length_eraseIdx, if_pos hi]; omega
      refine fun σ H o => ⟨_, _, ⟨r0.length, by omega, left.eraseIdx (tkV b' (left.length : Int)).toNat, _, tkB b' (left.length : Int), rfl, rfl, le, by rw [le, List.length_append, List.length_singleton]; omega, fun x hx => hsl x (List.mem_of_mem_eraseIdx hx), ?_⟩, o⟩
      rw [hm, le]
      have := mix.eq_2 (α := PyData) b' left r0.length
      rw [← e1, List.getElem?_eq_getElem hi] at this
      rw [show mix left.length b' left = mix (r0.length + 1) b' left by rw [← ln], this, List.append_assoc]; rfl
  · have hb : left = [] := by simpa using hb
    subst hb
    rw [hm, show (mix ([] : List PyData).length b' []).2 = b' from rfl] at fin
    rw [show (found ++ (mix ([] : List PyData).length b' []).1, b').1 = found from List.append_nil _] at fin
    exact r_retEL (x_vm rfl) List.mem_cons_self (fun z => qM (List.mem_cons_of_mem _ z)) (fun r hr => List.mem_cons_of_mem _ (List.mem_cons_of_mem _ hr)) fin
end
end K09
namespace K09
open PySem L2 FD Evl
def labs : List Str := ["a", "pay", "b"]
def stA (b : Box) : Box := tkB (tkB b 3) 3
def wlV (b0 : Box) (ns : List Str) (k : Nat) : Bool × Str :=
  if tkV (tkB b0 3) 3 = 0 then (true, if 0 < tkV (stA b0) 3 then ns.getD ((k + 1) % ns.length) "" else ns.getD (tkV (tkB (stA b0) 3) (ns.length : Int)).toNat "") else (false, labs.getD (tkV b0 3).toNat "")
def wlB (b0 : Box) (ns : List Str) : Box :=
  if tkV (tkB b0 3) 3 = 0 then (if 0 < tkV (stA b0) 3 then tkB (stA b0) 3 else tkB (tkB (stA b0) 3) (ns.length : Int)) else stA b0
def stV (b0 : Box) (ns : List Str) (k n beg : Nat) : Step := ⟨beg, (wlV b0 ns k).1, (wlV b0 ns k).2, if 0 < tkV (wlB b0 ns) 4 then (beg + 1) % n else (tkV (tkB (wlB b0 ns) 4) (n : Int)).toNat⟩
def stB (b0 : Box) (ns : List Str) (n : Nat) : Box := if 0 < tkV (wlB b0 ns) 4 then tkB (wlB b0 ns) 4 else tkB (tkB (wlB b0 ns) 4) (n : Int)
theorem tk_get {α : Type} {b : Box} {l : List α} {a0 : α} (h : 0 < l.length) : l[(tkV b (l.length : Int)).toNat]? = some (l.getD (tkV b (l.length : Int)).toNat a0) := by
  have := tkV_lt (b := b) (n := (l.length : Int)) (by omega)
  rw [List.getD_eq_getElem?_getD, List.getElem?_eq_getElem (by omega)]; rfl
theorem getD_mem {α : Type} {l : List α} {i : Nat} {a0 : α} (h : i < l.length) : l.getD i a0 ∈ l := by
  rw [List.getD_eq_getElem?_getD, List.getElem?_eq_getElem h]; exact List.getElem_mem _
theorem ts_at {l : List Str} {i : Nat} {x : Str} (h : l[i]? = some x) : (l.map PyData.str)[i]? = some (.str x) := by rw [List.getElem?_map, h]; rfl
theorem stV_e {b0 : Box} {ns : List Str} {k n beg : Nat} (h : 0 < n) : (stV b0 ns k n beg).e < n := by
  have hv := tkV_lt (b := tkB (wlB b0 ns) 4) (n := (n : Int)) (by omega)
  unfold stV
  show (if _ then _ else _) < n
  generalize tkV (tkB (wlB b0 ns) 4) (n : Int) = v at hv
  split
  · exact Nat.mod_lt _ h
  · exact (Int.toNat_lt hv.1).mpr hv.2
theorem stV_nm {b0 : Box} {ns : List Str} {k n beg : Nat} (h : 0 < ns.length) : ((stV b0 ns k n beg).call = true → (stV b0 ns k n beg).nm ∈ ns) ∧ ((stV b0 ns k n beg).call = false → (stV b0 ns k n beg).nm ∈ labs) := by
  have h1 := tkV_lt (b := b0) (n := 3) (by omega)
  have h2 := tkV_lt (b := tkB (stA b0) 3) (n := (ns.length : Int)) (by omega)
  show ((wlV b0 ns k).1 = true → (wlV b0 ns k).2 ∈ ns) ∧ ((wlV b0 ns k).1 = false → (wlV b0 ns k).2 ∈ labs)
  unfold wlV
  split
  · refine ⟨fun _ => ?_, fun z => nomatch z⟩
    show (if _ then _ else _) ∈ ns
    split
    · exact getD_mem (Nat.mod_lt _ h)
    · exact getD_mem (by omega)
  · exact ⟨(fun z => nomatch z), fun _ => getD_mem (show (tkV b0 3).toNat < 3 by omega)⟩
def Rst (es : List Ent) (μ : Mem) (d : PyData) (μ' : Mem) : Prop := ∃ (b : Addr) (bx : Box) (ns : List Str) (k n beg : Nat), es = [.m b, .d (.list (ns.map .str)), .d (.int (k : Int)), .d (.int (n : Int)), .d (.int (beg : Int))] ∧ μ = [(b, .lst bx.ds)] ∧ μ' = [(b, .lst (stB bx ns n).ds)] ∧ 0 < ns.length ∧ ns.length < 100 ∧ 0 < n ∧ n < 100 ∧ d = stepD (stV bx ns k n beg)
section
variable {P : Program} {w : World} {K : PySem.W.Frag} {mg : Str → Option Value} {base : Heap} {Cb : Addr}
abbrev nSt : List Str := ["_law_box_here", "_law_names", "_law_at", "_law_stages", "_law_begin", "_law_what", "_law_label"]
theorem scSt : FnScope nSt ["_law_box_here", "_law_names", "_law_at", "_law_stages", "_law_begin"] (defScope sSt) := ⟨rfl, rfl, rfl, by decide +kernel, rfl, by decide +kernel, by decide +kernel⟩
theorem ok_st {f : Addr} {fd : FuncData} (T : Txt K mg Cb) (F : Fun K "_law_step" "_law_step" sSt f fd) {f1 f2 : Addr} {fd1 fd2 : FuncData} (H1 : Has K mg "_law_take" sTk ["_law_box_here", "_law_many"] f1 fd1) (H2 : Has K mg "_law_pick" sPk ["_law_box_here", "_law_some"] f2 fd2) : FnOk P w K mg base CX0 3 f fd ["_law_box_here", "_law_names", "_law_at", "_law_stages", "_law_begin"] (spE K 5 Rst) := by
  have G1 : FnOk P w K mg base CX0 1 f1 fd1 ["_law_box_here", "_law_many"] (spW K 2 Rtk) := ok_tk T H1.F
  have G2 : FnOk P w K mg base CX0 2 f2 fd2 ["_law_box_here", "_law_some"] (spE K 2 Rpk) := ok_pk T H2.F H1
  refine def_E F scSt (by decide) rfl fun cdv A outer s H E hr => ?_
  have nd := scSt.nd
  have hr1 : Room 1 _ := hr.mono (by decide)
  refine ⟨_, (pss_cons (ps_par (i := 5) (j := 6) (by rfl) nd rfl rfl (by decide) rfl rfl (pa_cons pe_str (pa_cons (pe_call G2 hr rfl H2.m H2.F.kp H2.b .nil pass0 (pa_cons (pv 0) (pa_cons (pe_lst (pa_cons pe_str (pa_cons pe_str (pa_cons pe_str pa_nil)))) pa_nil))) pa_nil)) (by rfl))
 (pss_cons (ps_if (pt_cmpR (op_eqD hr.units) (pe_call G1 hr1 rfl H1.m H1.F.kp H1.b .nil pass0 (pa_cons (pv 0) (pa_cons pe_int pa_nil))) pe_int (nomark _)) (pss_one (ps_par (i := 5) (j := 6) (by rfl) nd rfl rfl (by decide) rfl rfl (pa_cons pe_str (pa_cons (pe_ifExp (pt_cmpR op_gt (pe_call G1 hr1 rfl H1.m H1.F.kp H1.b .nil pass0 (pa_cons (pv 0) (pa_cons pe_int pa_nil))) pe_int (nomark _)) (pe_ix ix_list (pv 1) (pe_op op_mod (pe_callTy call_int1 (by rfl) T.int (by decide +kernel) (pa_cons (pe_op op_add (pv 2) pe_int) pa_nil)) (pe_callB call_len_seq (by rfl) T.len PySem.boot_len (pa_cons (pv 1) pa_nil))) (fun _ _ => rfl)) (pe_call G2 hr rfl H2.m H2.F.kp H2.b .nil pass0 (pa_cons (pv 0) (pa_cons (pv 1) pa_nil)))) pa_nil)) (by rfl))) pss_nil)
 (pss_one (ps_ret (pe_tup (pa_cons (pv 4) (pa_cons (pv 5) (pa_cons (pv 6) (pa_cons (pe_ifExp (pt_cmpR op_gt (pe_call G1 hr1 rfl H1.m H1.F.kp H1.b .nil pass0 (pa_cons (pv 0) (pa_cons pe_int pa_nil))) pe_int (nomark _)) (pe_op op_mod (pe_callTy call_int1 (by rfl) T.int (by decide +kernel) (pa_cons (pe_op op_add (pv 4) pe_int) pa_nil)) (pv 3)) (pe_call G1 hr1 rfl H1.m H1.F.kp H1.b .nil pass0 (pa_cons (pv 0) (pa_cons (pv 3) pa_nil)))) pa_nil))))))))), ?_⟩
  rintro M G B es μ d μ' ⟨b, bx, ns, k, n, beg, rfl, rfl, rfl, l0, l1, n0, n1, rfl⟩ D fin
  show FD.Run _ _ D M [.m b, .d (.list (ns.map .str)), .d (.int (k : Int)), .d (.int (n : Int)), .d (.int (beg : Int)), .u, .u] [(b, .lst bx.ds)]
  have hl : (ns.map PyData.str).length = ns.length := List.length_map ..
  refine q_par (a_cons x_str (a_cons (x_pickD (xs := labs.map .str) (d := .str (labs.getD (tkV bx 3).toNat "")) (x_vm rfl) (x_lst (ds := labs.map .str) (a_cons x_str (a_cons x_str (a_cons x_str a_nil))) (by simp [labs])) (by simp [labs]) (by simp [labs]) (ts_at (tk_get (l := labs) (by decide)))) a_nil)) ?_
  show FD.Run _ _ D M [.m b, .d (.list (ns.map .str)), .d (.int (k : Int)), .d (.int (n : Int)), .d (.int (beg : Int)), .d (.str "do"), .d (.str (labs.getD (tkV bx 3).toNat ""))] [(b, .lst (tkB bx 3).ds)]
  refine q_whenJ (fun δ μ => δ = [.m b, .d (.list (ns.map .str)), .d (.int (k : Int)), .d (.int (n : Int)), .d (.int (beg : Int)), .d (.str (wh (wlV bx ns k).1)), .d (.str (wlV bx ns k).2)] ∧ μ = [(b, .lst (wlB bx ns).ds)]) (b := decide (tkV (tkB bx 3) 3 = 0)) (t_is (t_test (x_op (x_takeJ 0 (x_vm rfl) x_int rfl (by decide) (by decide)) x_int (o_eqD (.d _) (.d _) ((shp_int 0 _).shaped (by decide)) ((shp_int 0 _).shaped (by decide))))) ?_) (fun hb D' kk => ?_) (fun hb => ?_) ?_
  · rw [eqv_int]
    by_cases e : tkV (tkB bx 3) 3 = 0
    · rw [decide_eq_true e, e]; rfl
    · rw [decide_eq_false e]; exact beq_eq_false_iff_ne.mpr e
  · have hb := of_decide_eq_true hb
    show FD.Run _ _ D' M _ [(b, .lst (stA bx).ds)]
    refine r_par (e1 := .d (.str "call")) (e2 := .d (.str (wlV bx ns k).2)) (μ' := [(b, .lst (wlB bx ns).ds)]) (a_cons x_str (a_cons (x_if (b := decide (0 < tkV (stA bx) 3)) (t_test (x_op (x_takeJ 0 (x_vm rfl) x_int rfl (by decide) (by decide)) x_int o_B0)) (fun hc => ?_) fun hc => ?_) a_nil)) (kk _ _ ⟨?_, rfl⟩)
    · have hc := of_decide_eq_true hc
      have eb : wlB bx ns = tkB (stA bx) 3 := by unfold wlB; rw [if_pos hb, if_pos hc]
      rw [eb]
      have ei : (((k : Int) + 1) % (((ns.map PyData.str).length : Nat) : Int)) = (((k + 1) % ns.length : Nat) : Int) := by rw [hl]; push_cast; rfl
      refine x_is (x_op (x_vd rfl) (x_op (x_cbP (a_cons (x_op (x_vd rfl) x_int o_I0) a_nil) c_intI) (x_cbP (a_cons (x_vd rfl) a_nil) (c_lenL (.d _))) (o_I (by rw [hl]; omega))) (o_ixL (d := .str (ns.getD ((k + 1) % ns.length) "")) (.d _) (by rw [ei]; exact atI_nat (ts_at (by rw [List.getD_eq_getElem?_getD, List.getElem?_eq_getElem (Nat.mod_lt _ l0)]; rfl))))) ?_
      unfold wlV
      rw [if_pos hb, if_pos hc]
    · have hc := of_decide_eq_false hc
      have eb : wlB bx ns = tkB (tkB (stA bx) 3) (ns.length : Int) := by unfold wlB; rw [if_pos hb, if_neg hc]
      rw [eb, ← hl]
      refine x_is (x_pickD (xs := ns.map .str) (d := .str (ns.getD (tkV (tkB (stA bx) 3) (ns.length : Int)).toNat "")) (x_vm rfl) (x_vd rfl) (by rw [hl]; exact l0) (by rw [hl]; omega) (by rw [hl]; exact ts_at (tk_get l0))) ?_
      unfold wlV
      rw [if_pos hb, if_neg hc]
    · show [Ent.m b, .d (.list (ns.map .str)), .d (.int (k : Int)), .d (.int (n : Int)), .d (.int (beg : Int)), .d (.str "call"), .d (.str (wlV bx ns k).2)] = _
      rw [show (wlV bx ns k).1 = true by unfold wlV; rw [if_pos hb]]; rfl
  · have hb := of_decide_eq_false hb
    have e1 : wlV bx ns k = (false, labs.getD (tkV bx 3).toNat "") := by unfold wlV; rw [if_neg hb]
    have e2 : wlB bx ns = stA bx := by unfold wlB; rw [if_neg hb]
    rw [e1, e2]
    exact ⟨rfl, rfl⟩
  · rintro δ1 μ1 ⟨rfl, rfl⟩
    refine r_retE (μ1 := [(b, .lst (stB bx ns n).ds)]) (x_is (x_tup (ds := [.int (beg : Int), .str (wh (wlV bx ns k).1), .str (wlV bx ns k).2, .int ((stV bx ns k n beg).e : Int)]) (a_cons (x_vd rfl) (a_cons (x_vd rfl) (a_cons (x_vd rfl) (a_cons (x_if (b := decide (0 < tkV (wlB bx ns) 4)) (t_test (x_op (x_takeJ 0 (x_vm rfl) x_int rfl (by decide) (by decide)) x_int o_B0)) (fun hc => ?_) fun hc => ?_) a_nil)))) (by simp)) rfl) (fun r hr => hr) fin
    · have hc := of_decide_eq_true hc
      have eb : stB bx ns n = tkB (wlB bx ns) 4 := by unfold stB; rw [if_pos hc]
      rw [eb]
      refine x_is (x_op (x_cbP (a_cons (x_op (x_vd rfl) x_int o_I0) a_nil) c_intI) (x_vd rfl) (o_I (by omega))) ?_
      unfold stV
      show Ent.d (.int _) = Ent.d (.int ((if _ then _ else _ : Nat) : Int))
      rw [if_pos hc]
      congr 2
    · have hc := of_decide_eq_false hc
      have hv := tkV_lt (b := tkB (wlB bx ns) 4) (n := (n : Int)) (by omega)
      have eb : stB bx ns n = tkB (tkB (wlB bx ns) 4) (n : Int) := by unfold stB; rw [if_neg hc]
      rw [eb]
      refine x_is (x_takeJ 0 (x_vm rfl) (x_vd rfl) rfl (by omega) (by omega)) ?_
      unfold stV
      show Ent.d (.int _) = Ent.d (.int ((if _ then _ else _ : Nat) : Int))
      rw [if_neg hc, show (((tkV (tkB (wlB bx ns) 4) (n : Int)).toNat : Nat) : Int) = tkV (tkB (wlB bx ns) 4) (n : Int) by omega]
end
end K09
namespace FD
open PySem L2 Evl
theorem hu65_of {k : Nat} {A : Around} (hr : Room k A) : A.units + 65 < cLine := by have := hr.un; omega
theorem cutD_to' {α : Type} (f : α → PyData) {l : List α} {p : Nat} : cutD (l.map f) none (some (p : Int)) = (l.take p).map f := by
  unfold cutD
  have e1 : HT.sIx (l.map f).length 0 none = 0 := HT.sIx_none _ _
  have e2 : HT.sIx (l.map f).length (l.map f).length (some (p : Int)) = min p (l.map f).length := HT.sIx_nat _ _ _
  rw [e1, e2, List.drop_zero, Nat.sub_zero, List.map_take]
  by_cases h : p ≤ (l.map f).length
  · rw [Nat.min_eq_left h]
  · rw [Nat.min_eq_right (by omega), List.take_of_length_le (by omega), List.take_of_length_le (by omega)]
section
variable {C : Cfg} {M : List Addr} {δ : List Ent} {μ μ0 μ0' μ1 μ2 : Mem} {tr : TA} {es : List Ent} {a : Addr} {mo mo' : MO} {n : Nat} {d : PyData}
theorem x_callEW {R : List Ent → Mem → PyData → Mem → Prop} {E : XK} (h : EvA C tr M δ μ μ1 es) (w : (ad μ1).Nodup → Swap μ0 μ0' μ1 μ2 ∧ (ad μ0).Nodup) (hR : R es μ0 d μ0') (hn : es.length = n := by rfl) : EvX C (tCall (spE C.K n R) [] E tr) M δ μ μ2 (.d d) := fun σ H o Q k =>
  h σ H o _ fun vs H1 o1 x1 r1 => by
    rw [List.append_nil]
    obtain ⟨w, nd⟩ := w o1.nd
    refine ⟨by rw [← paired_len r1]; exact hn, M, es, μ0, d, μ0', o1.alloc, r1, fun p hp => let q := o1.mem p (w.sub p hp); ⟨q.1, q.2.2⟩, nd, w.ad0, hR, fun v H2 e2 m2 d2 => ?_⟩
    obtain ⟨o2, x2⟩ := after_E o1 w e2 m2
    exact k v H2 o2 (x1.trans x2) d2
/-- a call on one of the objects -/
theorem x_callEJ {R : List Ent → Mem → PyData → Mem → Prop} {E : XK} (j : Nat) (h : EvA C tr M δ μ μ1 es) (hj : μ1[j]? = some (a, mo)) (hR : R es [(a, mo)] d [(a, mo')]) (hn : es.length = n := by rfl) : EvX C (tCall (spE C.K n R) [] E tr) M δ μ (μ1.set j (a, mo')) (.d d) :=
  x_callEW h (fun nd => ⟨swap_set hj nd, by simp⟩) hR hn
end
end FD
namespace K09
open PySem L2 FD Evl
section
variable {C : Cfg} {M : List Addr} {δ : List Ent} {μ : Mem} {tb tn : TE} {E : XK} {p : Addr} {b : Box} {n : Int}
/-- take(..) == 0 -/
theorem t_tk0 (j : Nat) (h1 : EvX C tb M δ μ μ (.m p)) (h2 : EvX C tn M δ μ μ (.d (.int n))) (hj : μ[j]? = some (p, .lst b.ds)) (h0 : 0 < n) (h3 : n < 2 ^ 64) :
    EvT C (tTest (tOp (rEqD C.K) (tCall (spW C.K 2 Rtk) [] E (tCons tb (tCons tn tNil))) (tC (.int 0)))) M δ μ (μ.set j (p, .lst (tkB b n).ds)) (decide (tkV b n = 0)) := t_is (t_test (x_op (x_takeJ j h1 h2 hj h0 h3) x_int (o_eqD (.d _) (.d _) ((shp_int 0 _).shaped (by decide)) ((shp_int 0 _).shaped (by decide))))) (by
  rw [eqv_int]
  by_cases e : tkV b n = 0
  · rw [decide_eq_true e, e]; rfl
  · rw [decide_eq_false e]; exact beq_eq_false_iff_ne.mpr e)
/-- take(..) > 0 -/
theorem t_tkP (j : Nat) (h1 : EvX C tb M δ μ μ (.m p)) (h2 : EvX C tn M δ μ μ (.d (.int n))) (hj : μ[j]? = some (p, .lst b.ds)) (h0 : 0 < n) (h3 : n < 2 ^ 64) :
    EvT C (tTest (tOp (rI0 fun i j => .bl (decide (i > j))) (tCall (spW C.K 2 Rtk) [] E (tCons tb (tCons tn tNil))) (tC (.int 0)))) M δ μ (μ.set j (p, .lst (tkB b n).ds)) (decide (0 < tkV b n)) := t_test (x_op (x_takeJ j h1 h2 hj h0 h3) x_int o_B0)
end
def cN (b : Box) : Nat := if tkV b 8 = 0 then 1 else 2 + (tkV (tkB b 8) 2).toNat
def cNB (b : Box) : Box := if tkV b 8 = 0 then tkB b 8 else tkB (tkB b 8) 2
def eW (i : Nat) : Int := if 0 < i then 4 else 7
def eB (b : Box) : Nat → Box
  | 0 => b
  | i + 1 => tkB (eB b i) (eW i)
def eT (b : Box) (i : Nat) : Bool := decide (tkV (eB b i) (eW i) = 0)
def eL (b : Box) (n : Nat) : List Nat := (List.range n).filter (eT b)
def cB1 (b : Box) : Box := eB (cNB b) (cN b)
def cEs (b : Box) : List Nat := eL (cNB b) (cN b)
def cE (b : Box) : List Nat := if cN b - 1 ∈ cEs b then cEs b else if 0 < tkV (cB1 b) 6 then cEs b ++ [cN b - 1] else cEs b
def c2 (b : Box) : Box := if cN b - 1 ∈ cEs b then cB1 b else tkB (cB1 b) 6
def cM (b : Box) : Nat := cN b + (tkV (c2 b) 3).toNat
def sG (b : Box) (ns : List Str) (k n : Nat) : Nat → List Step × Box
  | 0 => ([], b)
  | i + 1 => (if stV (sG b ns k n i).2 ns k n (i % n) ∈ (sG b ns k n i).1 then (sG b ns k n i).1 else (sG b ns k n i).1 ++ [stV (sG b ns k n i).2 ns k n (i % n)], stB (sG b ns k n i).2 ns n)
def cS (b : Box) (ns : List Str) (k : Nat) : List Step × Box := sG (tkB (c2 b) 3) ns k (cN b) (cM b)
def crV (b : Box) (ns : List Str) (k : Nat) : Crs := ⟨ns.getD k "", cN b, cE b, (mix (cS b ns k).1.length (cS b ns k).2 (cS b ns k).1).1⟩
def crB (b : Box) (ns : List Str) (k : Nat) : Box := (mix (cS b ns k).1.length (cS b ns k).2 (cS b ns k).1).2
def csB (b : Box) (ns : List Str) : Nat → Box
  | 0 => b
  | i + 1 => crB (csB b ns i) ns i
def csV (b : Box) (ns : List Str) (m : Nat) : List Crs := (List.range m).map fun i => crV (csB b ns i) ns i
def five : List Str := ["main", "b", "order", "ab", "z"]
def cMany (b : Box) : Nat := (3 - tkV b 4 / 2).toNat
def cNs (b : Box) : List Str := (mix 5 (tkB b 4) five).1.take (cMany b)
def cCB (b : Box) : Box := (mix 5 (tkB b 4) five).2
def bokV (b : Box) : List Crs := csV (cCB b) (cNs b) (cMany b)
def bokB (b : Box) : Box := csB (cCB b) (cNs b) (cMany b)
theorem cN_pos (b : Box) : 1 ≤ cN b ∧ cN b ≤ 3 := by
  have h := tkV_lt (b := tkB b 8) (n := 2) (by omega)
  have : (tkV (tkB b 8) 2).toNat < 2 := (Int.toNat_lt h.1).mpr h.2
  unfold cN
  split <;> omega
theorem cM_le (b : Box) : cM b ≤ 6 := by
  have h := tkV_lt (b := c2 b) (n := 3) (by omega)
  have : (tkV (c2 b) 3).toNat < 3 := (Int.toNat_lt h.1).mpr h.2
  have := cN_pos b
  unfold cM
  omega
theorem eL_lt {b : Box} {n i : Nat} (h : i ∈ eL b n) : i < n := List.mem_range.mp (List.mem_filter.mp h).1
theorem eL_asc (b : Box) (n : Nat) : (eL b n).Pairwise (· < ·) := List.Pairwise.filter _ List.pairwise_lt_range
theorem cE_lt {b : Box} {i : Nat} (h : i ∈ cE b) : i < cN b := by
  have hn := cN_pos b
  unfold cE at h
  split at h
  · exact eL_lt h
  · split at h
    · rcases List.mem_append.mp h with z | z
      · exact eL_lt z
      · have := List.mem_singleton.mp z; omega
    · exact eL_lt h
theorem cE_asc (b : Box) : (cE b).Pairwise (· < ·) := by
  unfold cE
  split
  · exact eL_asc _ _
  · rename_i hn
    split
    · refine List.pairwise_append.mpr ⟨eL_asc _ _, by simp, fun i hi j hj => ?_⟩
      have := eL_lt hi
      rw [List.mem_singleton.mp hj]
      have : i ≠ cN b - 1 := fun z => hn (z ▸ hi)
      have := cN_pos b
      omega
    · exact eL_asc _ _
theorem sG_len (b : Box) (ns : List Str) (k n : Nat) : ∀ i, (sG b ns k n i).1.length ≤ i
  | 0 => Nat.le_refl _
  | i + 1 => by
    have := sG_len b ns k n i
    show (if _ then _ else _ : List Step).length ≤ _
    split
    · omega
    · rw [List.length_append, List.length_singleton]; omega
theorem sG_nd (b : Box) (ns : List Str) (k n : Nat) : ∀ i, (sG b ns k n i).1.Nodup
  | 0 => List.nodup_nil
  | i + 1 => by
    have := sG_nd b ns k n i
    show (if _ then _ else _ : List Step).Nodup
    split
    · exact this
    · rename_i h
      exact List.nodup_append.mpr ⟨this, by simp, fun a ha c hc => by rw [List.mem_singleton.mp hc]; exact fun z => h (z ▸ ha)⟩
theorem sG_mem {b : Box} {ns : List Str} {k n : Nat} (h : 0 < ns.length) (hn : 0 < n) : ∀ i, ∀ s ∈ (sG b ns k n i).1, s.b < n ∧ s.e < n ∧ (s.call = true → s.nm ∈ ns) ∧ (s.call = false → s.nm ∈ labs)
  | 0, s, hs => by cases hs
  | i + 1, s, hs => by
    have ih := sG_mem (b := b) (k := k) h hn i
    have hs : s ∈ (if stV (sG b ns k n i).2 ns k n (i % n) ∈ (sG b ns k n i).1 then (sG b ns k n i).1 else (sG b ns k n i).1 ++ [stV (sG b ns k n i).2 ns k n (i % n)]) := hs
    split at hs
    · exact ih s hs
    · rcases List.mem_append.mp hs with z | z
      · exact ih s z
      · rw [List.mem_singleton.mp z]
        exact ⟨Nat.mod_lt _ hn, stV_e hn, stV_nm h⟩
theorem labs_nm : ∀ x ∈ labs, Nm x := by
  intro x hx
  have : x = "a" ∨ x = "pay" ∨ x = "b" := by simpa [labs] using hx
  rcases this with rfl | rfl | rfl <;> exact ⟨by decide +kernel, by decide +kernel, by decide +kernel⟩
theorem five_nm : ∀ x ∈ five, Nm x := by
  intro x hx
  have : x = "main" ∨ x = "b" ∨ x = "order" ∨ x = "ab" ∨ x = "z" := by simpa [five] using hx
  rcases this with rfl | rfl | rfl | rfl | rfl <;> exact ⟨by decide +kernel, by decide +kernel, by decide +kernel⟩
theorem five_nd : five.Nodup := by decide +kernel
theorem cMany_le (b : Box) : 2 ≤ cMany b ∧ cMany b ≤ 3 := by
  have h := tkV_lt (b := b) (n := 4) (by omega)
  unfold cMany
  omega
theorem cNs_sub {b : Box} {x : Str} (h : x ∈ cNs b) : x ∈ five := (mix_perm 5 (tkB b 4) five rfl).mem_iff.mp (List.mem_of_mem_take h)
theorem cNs_len (b : Box) : (cNs b).length = cMany b := by
  have := (mix_perm 5 (tkB b 4) five rfl).length_eq
  have h5 : five.length = 5 := rfl
  have := cMany_le b
  unfold cNs
  rw [List.length_take]; omega
theorem cNs_nd (b : Box) : (cNs b).Nodup := List.Pairwise.sublist (List.take_sublist _ _) ((mix_perm 5 (tkB b 4) five rfl).nodup_iff.mpr five_nd)
theorem crV_ok {b : Box} {ns names : List Str} {k : Nat} (hk : k < ns.length) (hn : ∀ x ∈ ns, Nm x) (hs : ∀ x ∈ ns, x ∈ names) : CrsOk names (crV b ns k) := by
  have l0 : 0 < ns.length := by omega
  have n1 := cN_pos b
  have pm := mix_perm (cS b ns k).1.length (cS b ns k).2 (cS b ns k).1 rfl
  have mem : ∀ s ∈ (crV b ns k).steps, s.b < cN b ∧ s.e < cN b ∧ (s.call = true → s.nm ∈ ns) ∧ (s.call = false → s.nm ∈ labs) := fun s h => sG_mem l0 (by omega) _ s (pm.mem_iff.mp h)
  have sl : (cS b ns k).1.length ≤ cM b := sG_len _ _ _ _ _
  have := cM_le b
  refine ⟨hn _ (getD_mem hk), n1.1, by show cN b ≤ 20; omega, cE_asc b, fun e h => cE_lt h, ?_, pm.nodup_iff.mpr (sG_nd _ _ _ _ _), fun s h => (mem s h).1, fun s h => (mem s h).2.1, fun s h => ?_, fun s h hc => hs _ ((mem s h).2.2.1 hc)⟩
  · show (mix _ _ _).1.length < 64
    rw [pm.length_eq]; omega
  · cases hc : s.call with
    | true => exact hn _ ((mem s h).2.2.1 hc)
    | false => exact labs_nm _ ((mem s h).2.2.2 hc)
theorem csV_nm {b : Box} {ns : List Str} : (csV b ns ns.length).map (·.nm) = ns := by
  unfold csV
  rw [List.map_map]
  refine List.ext_getElem? fun i => ?_
  by_cases h : i < ns.length
  · rw [List.getElem?_map, List.getElem?_range h, List.getElem?_eq_getElem h]
    show some (ns.getD i "") = _
    rw [List.getD_eq_getElem?_getD, List.getElem?_eq_getElem h]; rfl
  · rw [List.getElem?_eq_none (by simp; omega), List.getElem?_eq_none (by omega)]
theorem csV_mem {b : Box} {ns : List Str} {m : Nat} {c : Crs} (h : c ∈ csV b ns m) : ∃ i, i < m ∧ c = crV (csB b ns i) ns i := by
  obtain ⟨i, hi, e⟩ := List.mem_map.mp h
  exact ⟨i, List.mem_range.mp hi, e.symm⟩
theorem bok_names (b : Box) : (bokV b).map (·.nm) = cNs b := by
  unfold bokV
  rw [← cNs_len]; exact csV_nm
theorem sum_le {l : List Crs} {m : Nat} (h : ∀ c ∈ l, c.n ≤ m) : (l.map (·.n)).sum ≤ l.length * m := by
  induction l with
  | nil => simp
  | cons c l ih =>
    have := h c List.mem_cons_self
    have := ih fun c hc => h c (List.mem_cons_of_mem _ hc)
    rw [List.map_cons, List.sum_cons, List.length_cons, Nat.succ_mul]; omega
theorem bok_len (b : Box) : (bokV b).length = cMany b := by
  have := congrArg List.length (bok_names b)
  rw [List.length_map, cNs_len] at this; exact this
theorem bok_n (b : Box) : ∀ c ∈ bokV b, c.n ≤ 3 := fun c hc => by
  obtain ⟨i, _, rfl⟩ := csV_mem hc
  exact (cN_pos _).2
theorem bok_tot (b : Box) : ((bokV b).map (·.n)).sum ≤ 9 := by
  have h := bok_n b
  have := sum_le h
  rw [bok_len] at this
  have := cMany_le b
  have : cMany b * 3 ≤ 3 * 3 := Nat.mul_le_mul_right _ (by omega)
  omega
theorem bok_ok (b : Box) : BokOk (bokV b) := by
  have hm := cMany_le b
  have hl := bok_len b
  refine ⟨fun z => by rw [z] at hl; simp at hl; omega, by omega, by rw [bok_names]; exact cNs_nd b, fun c hc => ?_, by have := bok_tot b; omega, labs, by decide, fun c hc s hs h => ?_⟩
  · obtain ⟨i, hi, rfl⟩ := csV_mem hc
    rw [bok_names]
    exact crV_ok (by rw [cNs_len]; exact hi) (fun x hx => five_nm x (cNs_sub hx)) fun x hx => hx
  · obtain ⟨i, hi, rfl⟩ := csV_mem hc
    have pm := mix_perm (cS (csB (cCB b) (cNs b) i) (cNs b) i).1.length (cS (csB (cCB b) (cNs b) i) (cNs b) i).2 (cS (csB (cCB b) (cNs b) i) (cNs b) i).1 rfl
    exact (sG_mem (by rw [cNs_len]; omega) (by have := cN_pos (csB (cCB b) (cNs b) i); omega) _ s (pm.mem_iff.mp hs)).2.2.2 h
def Rco (es : List Ent) (μ : Mem) (d : PyData) (μ' : Mem) : Prop := ∃ (b : Addr) (bx : Box) (ns : List Str) (k : Nat), es = [.m b, .d (.list (ns.map .str)), .d (.int (k : Int))] ∧ μ = [(b, .lst bx.ds)] ∧ μ' = [(b, .lst (crB bx ns k).ds)] ∧ k < ns.length ∧ ns.length < 100 ∧ (∀ x ∈ ns, Nm x) ∧ d = crsD (crV bx ns k)
def Rcs (es : List Ent) (μ : Mem) (d : PyData) (μ' : Mem) : Prop := ∃ (b : Addr) (bx : Box), es = [.m b] ∧ μ = [(b, .lst bx.ds)] ∧ μ' = [(b, .lst (bokB bx).ds)] ∧ d = bokD (bokV bx)
theorem any_step {l : List Step} {s : Step} : (l.map stepD).any (fun z => PyData.eqv z (stepD s)) = decide (s ∈ l) := by
  rw [Bool.eq_iff_iff, List.any_map, List.any_eq_true, decide_eq_true_iff]
  constructor
  · rintro ⟨x, hx, e⟩
    have e : PyData.eqv (rowK (stepK x)) (rowK (stepK s)) = true := e
    rw [eqv_row] at e
    exact stepK_inj (of_decide_eq_true e) ▸ hx
  · intro h
    exact ⟨s, h, by show PyData.eqv (rowK (stepK s)) (rowK (stepK s)) = true; rw [eqv_row]; exact decide_eq_true rfl⟩
theorem lcD_ints (p : Nat → Bool) (n : Nat) : lcD p (fun i => PyData.int (i : Int)) n = (((List.range n).filter p).map fun i : Nat => (i : Int)).map .int := by
  unfold lcD
  rw [List.map_map]; rfl
theorem lcD_all {f : Nat → PyData} {n : Nat} : lcD (fun _ => true) f n = (List.range n).map f := by
  unfold lcD
  rw [show (List.range n).filter (fun _ => true) = List.range n from List.filter_eq_self.mpr fun _ _ => rfl]
section
variable {C : Cfg} {M : List Addr} {δ : List Ent} {tb tn : TE} {E : XK} {p : Addr} {b : Box} {α : Type} {l : List α} {f : α → PyData}
theorem x_mixD (h1 : EvX C tb M δ [(p, .lst b.ds)] [(p, .lst b.ds)] (.m p)) (h2 : EvX C tn M δ [(p, .lst b.ds)] [(p, .lst b.ds)] (.d (.list (l.map f)))) (hl : l.length < 100) (hs : ∀ x ∈ l, Shp 1 (f x)) :
    EvX C (tCall (spE C.K 2 Rmx) [] E (tCons tb (tCons tn tNil))) M δ [(p, .lst b.ds)] [(p, .lst (mix l.length b l).2.ds)] (.d (.list ((mix l.length b l).1.map f))) := by
  have h := x_callEJ (R := Rmx) (E := E) (mo' := .lst (mix (l.map f).length b (l.map f)).2.ds) (d := .list (mix (l.map f).length b (l.map f)).1) 0 (a_cons h1 (a_cons h2 a_nil)) rfl ⟨p, b, l.map f, by rw [List.length_map]; exact hl, fun x hx => by
    obtain ⟨y, hy, rfl⟩ := List.mem_map.mp hx
    exact hs y hy, rfl, .inl ⟨rfl, rfl, rfl⟩⟩
  rw [List.length_map, mix_map] at h
  exact h
end
section
variable {P : Program} {w : World} {K : PySem.W.Frag} {mg : Str → Option Value} {base : Heap} {Cb : Addr}
abbrev nCo : List Str := ["_law_box_here", "_law_names", "_law_at", "_law_stages", "_law_ends_here", "_law_steps", "_law_turn", "_law_step_here", "_law_number"]
theorem scCo : FnScope nCo ["_law_box_here", "_law_names", "_law_at"] (defScope sCo) := ⟨rfl, rfl, rfl, by decide +kernel, rfl, by decide +kernel, by decide +kernel⟩
theorem ok_co {f : Addr} {fd : FuncData} (T : Txt K mg Cb) (F : Fun K "_law_course" "_law_course" sCo f fd) {f1 f2 f3 : Addr} {fd1 fd2 fd3 : FuncData} (H1 : Has K mg "_law_take" sTk ["_law_box_here", "_law_many"] f1 fd1) (H2 : Has K mg "_law_mixed" sMx ["_law_box_here", "_law_some"] f2 fd2) (H3 : Has K mg "_law_step" sSt ["_law_box_here", "_law_names", "_law_at", "_law_stages", "_law_begin"] f3 fd3) (G3 : FnOk P w K mg base CX0 3 f3 fd3 ["_law_box_here", "_law_names", "_law_at", "_law_stages", "_law_begin"] (spE K 5 Rst)) : FnOk P w K mg base CX0 4 f fd ["_law_box_here", "_law_names", "_law_at"] (spE K 3 Rco) := by
  have G1 : FnOk P w K mg base CX0 1 f1 fd1 ["_law_box_here", "_law_many"] (spW K 2 Rtk) := ok_tk T H1.F
  have G2 : FnOk P w K mg base CX0 2 f2 fd2 ["_law_box_here", "_law_some"] (spE K 2 Rmx) := ok_mx T H2.F H1
  refine def_E F scCo (by decide) rfl fun cdv A outer s H E hr => ?_
  have nd := scCo.nd
  have hr1 : Room 1 _ := hr.mono (by decide)
  have hr2 : Room 2 _ := hr.mono (by decide)
  refine ⟨_, (pss_cons (ps_set (i := 3) nd rfl (Or.inl rfl) (pe_ifExp (pt_cmpR (op_eqD hr.units) (pe_call G1 hr1 rfl H1.m H1.F.kp H1.b .nil pass0 (pa_cons (pv 0) (pa_cons pe_int pa_nil))) pe_int (nomark _)) pe_int (pe_op op_add pe_int (pe_call G1 hr1 rfl H1.m H1.F.kp H1.b .nil pass0 (pa_cons (pv 0) (pa_cons pe_int pa_nil))))))
 (pss_cons (ps_setLc (i := 4) (own := [("_law_number", 8)]) (g := (gName 8)) rfl nd rfl rfl (sw_true rfl rfl rfl (by decide +kernel)) (pi_range1 (by rfl) T.range (pa_cons (pv 3) pa_nil)) (blkOk_by (N := nCo) (sc := defScope sCo) (by decide +kernel)) (fun _ _ _ _ _ => (pg_name (i := 8) nd rfl (Or.inl rfl))) (fun _ _ _ _ _ => (pts_one (pt_cmpR (kop_eqD (K := K) rfl hr.units) (pe_call G1 hr1 rfl H1.m H1.F.kp H1.b .nil pass0 (pa_cons (pv 0) (pa_cons (pe_ix (kix_list (K := K) rfl) (pe_lst (pa_cons pe_int (pa_cons pe_int pa_nil))) (pe_callTy call_int1 (by rfl) T.int (by decide +kernel) (pa_cons (pe_cmpR op_gt (pv 8) pe_int (nomark _)) pa_nil)) (fun _ _ => rfl)) pa_nil))) pe_int (nomark _)))) (fun _ _ _ _ _ => (pv 8)))
 (pss_cons (ps_if (PW.pt (pw_and (pt_cmpR op_notIn_seq (pe_op op_sub (pv 3) pe_int) (pv 4) (by with_unfolding_all rfl)) (pw_and1 (pt_cmpR op_gt (pe_call G1 hr1 rfl H1.m H1.F.kp H1.b .nil pass0 (pa_cons (pv 0) (pa_cons pe_int pa_nil))) pe_int (nomark _))))) (pss_one (ps_expr (pe_bm PySem.F.plainAttrs_list PySem.F.slot_list_append PySem.F.type_list_append mt_append (pv 4) (pa_cons (pe_op op_sub (pv 3) pe_int) pa_nil)))) pss_nil)
 (pss_cons (ps_set (i := 5) nd rfl (Or.inl rfl) (pe_lst pa_nil))
 (pss_cons (ps_for PassesOwn.never rfl (pi_range1 (by rfl) T.range (pa_cons (pe_op op_add (pv 3) (pe_call G1 hr1 rfl H1.m H1.F.kp H1.b .nil pass0 (pa_cons (pv 0) (pa_cons pe_int pa_nil)))) pa_nil)) (pg_name (i := 6) nd rfl (Or.inl rfl)) (pss_cons (ps_set (i := 7) nd rfl (Or.inl rfl) (pe_call G3 hr rfl H3.m H3.F.kp H3.b .nil pass0 (pa_cons (pv 0) (pa_cons (pv 1) (pa_cons (pv 2) (pa_cons (pv 3) (pa_cons (pe_op op_mod (pe_callTy call_int1 (by rfl) T.int (by decide +kernel) (pa_cons (pv 6) pa_nil)) (pv 3)) pa_nil)))))))
 (pss_one (ps_if (pt_cmpR (op_notInD (hu65_of hr)) (pv 7) (pv 5) (by with_unfolding_all rfl)) (pss_one (ps_expr (pe_bm PySem.F.plainAttrs_list PySem.F.slot_list_append PySem.F.type_list_append mt_append (pv 5) (pa_cons (pv 7) pa_nil)))) pss_nil))))
 (pss_one (ps_ret (pe_tup (pa_cons (pe_ix ix_list (pv 1) (pv 2) (fun _ _ => rfl)) (pa_cons (pv 3) (pa_cons (pe_callTy call_tuple_of (by rfl) T.tuple (by decide +kernel) (pa_cons (pv 4) pa_nil)) (pa_cons (pe_callTy call_tuple_of (by rfl) T.tuple (by decide +kernel) (pa_cons (pe_call G2 hr2 rfl H2.m H2.F.kp H2.b .nil pass0 (pa_cons (pv 0) (pa_cons (pv 5) pa_nil))) pa_nil)) pa_nil)))))))))))), ?_⟩
  rintro M G B es μ d μ' ⟨b, bx, ns, k, rfl, rfl, rfl, l0, l1, hnm, rfl⟩ D fin
  show FD.Run _ _ D M [.m b, .d (.list (ns.map .str)), .d (.int (k : Int)), .u, .u, .u, .u, .u, .u] [(b, .lst bx.ds)]
  have hl : (ns.map PyData.str).length = ns.length := List.length_map ..
  have n1 := cN_pos bx
  refine q_asg (e := .d (.int (cN bx : Int))) (μ' := [(b, .lst (cNB bx).ds)]) (x_if (b := decide (tkV bx 8 = 0)) (t_tk0 0 (x_vm rfl) x_int rfl (by decide) (by decide)) (fun hb => ?_) fun hb => ?_) ?_
  · have hb := of_decide_eq_true hb
    have e1 : cNB bx = tkB bx 8 := by unfold cNB; rw [if_pos hb]
    have e2 : cN bx = 1 := by unfold cN; rw [if_pos hb]
    rw [e1, e2]; exact x_int
  · have hb := of_decide_eq_false hb
    have h := tkV_lt (b := tkB bx 8) (n := 2) (by omega)
    have e1 : cNB bx = tkB (tkB bx 8) 2 := by unfold cNB; rw [if_neg hb]
    have e2 : (cN bx : Int) = 2 + tkV (tkB bx 8) 2 := by
      have : ((tkV (tkB bx 8) 2).toNat : Int) = tkV (tkB bx 8) 2 := Int.toNat_of_nonneg h.1
      unfold cN; rw [if_neg hb]; omega
    rw [e1, e2]; exact x_op x_int (x_takeJ 0 (x_vm rfl) x_int rfl (by decide) (by decide)) o_I0
  show FD.Run _ _ D M [.m b, .d (.list (ns.map .str)), .d (.int (k : Int)), .d (.int (cN bx : Int)), .u, .u, .u, .u, .u] [(b, .lst (cNB bx).ds)]
  have hi0 : ∀ {C : Cfg}, EvI C (iRng1 (tCons (tVar 3) tNil)) M [.m b, .d (.list (ns.map .str)), .d (.int (k : Int)), .d (.int (cN bx : Int)), .u, .u, .u, .u, .u] [(b, .lst (cNB bx).ds)] [(b, .lst (cNB bx).ds)] (rngD 0 (cN bx)) := fun {C} => by
    have := i_rng1 (C := C) (M := M) (δ := [.m b, .d (.list (ns.map .str)), .d (.int (k : Int)), .d (.int (cN bx : Int)), .u, .u, .u, .u, .u]) (μ := [(b, .lst (cNB bx).ds)]) (a_cons (x_vd (i := 3) rfl) a_nil) (by omega) (by omega)
    rwa [Int.toNat_natCast] at this
  refine q_asgNw (n_lcN (fun i => [(b, .lst (eB (cNB bx) i).ds)]) (eT (cNB bx)) (fun i => .int (i : Int)) hi0.toN (fun _ _ _ _ _ _ _ => trivial) (by rw [rngD_length]; omega) (fun i d hd G' B' D' => ?_)) fun q qM => ?_
  · have hlt := (List.getElem?_eq_some_iff.mp hd).1
    rw [rngD_length] at hlt
    rw [rngD_get hlt, Int.zero_add] at hd
    have hd := Option.some.inj hd
    subst hd
    refine ⟨[8], [.m b, .d (.list (ns.map .str)), .d (.int (k : Int)), .d (.int (cN bx : Int)), .u, .u, .u, .u, .d (.int (i : Int))], _, tg_name, fun k hk => hk, t_tk0 (n := eW i) 0 (x_vm rfl) (x_is (x_op (x_lst (ds := [.int 7, .int 4]) (a_cons x_int (a_cons x_int a_nil)) (by simp)) (x_cbP (a_cons (x_op (x_vd rfl) x_int o_B0) a_nil) c_intB) (o_ixL (d := .int (eW i)) (.d _) ?_)) rfl) rfl (by unfold eW; split <;> omega) (by unfold eW; split <;> omega), fun _ => x_vd rfl, fun _ => rfl⟩
    unfold eW
    by_cases h : 0 < i
    · rw [if_pos h, decide_eq_true (by omega)]; rfl
    · rw [if_neg h, decide_eq_false (by omega)]; rfl
  rw [rngD_length, lcD_ints]
  show FD.Run _ _ D (q :: M) [.m b, .d (.list (ns.map .str)), .d (.int (k : Int)), .d (.int (cN bx : Int)), .m q, .u, .u, .u, .u] [(q, .lst (((cEs bx).map fun i : Nat => (i : Int)).map .int)), (b, .lst (cB1 bx).ds)]
  have hmem : decide ((cN bx : Int) - 1 ∈ (cEs bx).map fun i : Nat => (i : Int)) = decide (cN bx - 1 ∈ cEs bx) := by
    rw [decide_eq_decide, List.mem_map]
    constructor
    · rintro ⟨i, hi, e⟩
      have : i = cN bx - 1 := by omega
      exact this ▸ hi
    · exact fun h => ⟨_, h, by omega⟩
  have lE : ((cEs bx).map fun i : Nat => (i : Int)).length ≤ 4 := by
    rw [List.length_map]
    have : (cEs bx).length ≤ (List.range (cN bx)).length := List.length_filter_le _ _
    rw [List.length_range] at this; omega
  refine q_whenJ (fun δ μ => δ = [.m b, .d (.list (ns.map .str)), .d (.int (k : Int)), .d (.int (cN bx : Int)), .m q, .u, .u, .u, .u] ∧ μ = [(q, .lst (((cE bx).map fun i : Nat => (i : Int)).map .int)), (b, .lst (c2 bx).ds)]) (b := !decide (cN bx - 1 ∈ cEs bx) && decide (0 < tkV (cB1 bx) 6)) (μ' := [(q, .lst (((cEs bx).map fun i : Nat => (i : Int)).map .int)), (b, .lst (c2 bx).ds)]) (t_and (t_is (t_test (x_op (x_op (x_vd rfl) x_int o_I0) (x_vm rfl) (o_notInLi (.m (j := 0) rfl)))) (by rw [hmem])) (fun hb => ?_) fun hb => ?_) (fun hb D' kk => ?_) (fun hb => ?_) ?_
  · have hb : cN bx - 1 ∉ cEs bx := by simpa using hb
    have e1 : c2 bx = tkB (cB1 bx) 6 := by unfold c2; rw [if_neg hb]
    rw [e1]
    exact t_tkP 1 (x_vm rfl) x_int rfl (by decide) (by decide)
  · have hb : cN bx - 1 ∈ cEs bx := by simpa using hb
    have e1 : c2 bx = cB1 bx := by unfold c2; rw [if_pos hb]
    rw [e1]
  · have hb : cN bx - 1 ∉ cEs bx ∧ 0 < tkV (cB1 bx) 6 := by simpa using hb
    refine r_app (j := 0) (x_vm rfl) (x_op (x_vd rfl) x_int o_I0) rfl rfl (by rw [List.length_map]; omega) (kk _ _ ⟨rfl, ?_⟩)
    have e1 : cE bx = cEs bx ++ [cN bx - 1] := by unfold cE; rw [if_neg hb.1, if_pos hb.2]
    rw [e1, List.map_append, List.map_append]
    show [(q, MO.lst (_ ++ [PyData.int ((cN bx : Int) - 1)])), _] = [(q, MO.lst (_ ++ [PyData.int (((cN bx - 1 : Nat)) : Int)])), _]
    rw [show ((cN bx : Int) - 1) = ((cN bx - 1 : Nat) : Int) by omega]
  · have e1 : cE bx = cEs bx := by
      unfold cE
      by_cases h : cN bx - 1 ∈ cEs bx
      · rw [if_pos h]
      · rw [decide_eq_false h] at hb
        have : ¬ 0 < tkV (cB1 bx) 6 := by simpa using hb
        rw [if_neg h, if_neg this]
    rw [e1]
    exact ⟨rfl, rfl⟩
  rintro δ0 μ0 ⟨rfl, rfl⟩
  refine q_new (ds := []) a_nil (by simp) fun r rM => ?_
  show FD.Run _ _ D (r :: q :: M) [.m b, .d (.list (ns.map .str)), .d (.int (k : Int)), .d (.int (cN bx : Int)), .m q, .m r, .u, .u, .u] [(r, .lst []), (q, .lst (((cE bx).map fun i : Nat => (i : Int)).map .int)), (b, .lst (c2 bx).ds)]
  have hv3 := tkV_lt (b := c2 bx) (n := 3) (by omega)
  have m6 := cM_le bx
  have eM : (cN bx : Int) + tkV (c2 bx) 3 = (cM bx : Int) := by
    have : ((tkV (c2 bx) 3).toNat : Int) = tkV (c2 bx) 3 := Int.toNat_of_nonneg hv3.1
    unfold cM; omega
  have nl : 0 < ns.length := by omega
  have nmS : ∀ s : Step, (s.call = true → s.nm ∈ ns) → (s.call = false → s.nm ∈ labs) → Nm s.nm := fun s h1 h2 => by
    cases hc : s.call with
    | true => exact hnm _ (h1 hc)
    | false => exact labs_nm _ (h2 hc)
  refine q_for (i_rng1 (n := (cM bx : Int)) (a_cons (x_is (x_op (x_vd rfl) (x_takeJ 2 (x_vm rfl) x_int rfl (by decide) (by decide)) o_I0) (by rw [eM])) a_nil) (by omega) (by omega)) (fun i δ μ => (∃ e6 e7, δ = [.m b, .d (.list (ns.map .str)), .d (.int (k : Int)), .d (.int (cN bx : Int)), .m q, .m r, e6, e7, .u]) ∧ μ = [(r, .lst ((sG (tkB (c2 bx) 3) ns k (cN bx) i).1.map stepD)), (q, .lst (((cE bx).map fun i : Nat => (i : Int)).map .int)), (b, .lst (sG (tkB (c2 bx) 3) ns k (cN bx) i).2.ds)]) ⟨⟨_, _, rfl⟩, rfl⟩ ?_ ?_
  · rintro B' xB i d δ1 μ1 hi ⟨⟨e6, e7, rfl⟩, rfl⟩
    rw [Int.toNat_natCast] at hi
    have hlt := (List.getElem?_eq_some_iff.mp hi).1
    rw [rngD_length] at hlt
    rw [rngD_get hlt, Int.zero_add] at hi
    have hi := Option.some.inj hi
    subst hi
    have e3 : sG (tkB (c2 bx) 3) ns k (cN bx) (i + 1) = (if stV (sG (tkB (c2 bx) 3) ns k (cN bx) i).2 ns k (cN bx) (i % cN bx) ∈ (sG (tkB (c2 bx) 3) ns k (cN bx) i).1 then (sG (tkB (c2 bx) 3) ns k (cN bx) i).1 else (sG (tkB (c2 bx) 3) ns k (cN bx) i).1 ++ [stV (sG (tkB (c2 bx) 3) ns k (cN bx) i).2 ns k (cN bx) (i % cN bx)], stB (sG (tkB (c2 bx) 3) ns k (cN bx) i).2 ns (cN bx)) := rfl
    have sl := sG_len (tkB (c2 bx) 3) ns k (cN bx) i
    have sm := sG_mem (b := tkB (c2 bx) 3) (k := k) nl (show 0 < cN bx by omega) i
    rw [e3]
    generalize sG (tkB (c2 bx) 3) ns k (cN bx) i = st at sl sm
    obtain ⟨L, b'⟩ := st
    have nv := stV_nm (b0 := b') (ns := ns) (k := k) (n := cN bx) (beg := i % cN bx) nl
    refine ⟨[6], _, tg_name, ?_⟩
    show FD.Run _ _ _ (r :: q :: M) [.m b, .d (.list (ns.map .str)), .d (.int (k : Int)), .d (.int (cN bx : Int)), .m q, .m r, .d (.int (i : Int)), e7, .u] [(r, .lst (L.map stepD)), (q, .lst (((cE bx).map fun i : Nat => (i : Int)).map .int)), (b, .lst b'.ds)]
    refine q_asg (x_callEJ (R := Rst) (mo' := .lst (stB b' ns (cN bx)).ds) (d := stepD (stV b' ns k (cN bx) (i % cN bx))) 2 (a_cons (x_vm rfl) (a_cons (x_vd rfl) (a_cons (x_vd rfl) (a_cons (x_vd rfl) (a_cons (x_is (x_op (x_cbP (a_cons (x_vd rfl) a_nil) c_intI) (x_vd rfl) (o_I (by omega))) (by rw [← Int.natCast_emod])) a_nil))))) rfl ⟨b, b', ns, k, cN bx, i % cN bx, rfl, rfl, rfl, nl, l1, by omega, by omega, rfl⟩) ?_
    show FD.Run _ _ _ (r :: q :: M) [.m b, .d (.list (ns.map .str)), .d (.int (k : Int)), .d (.int (cN bx : Int)), .m q, .m r, .d (.int (i : Int)), .d (stepD (stV b' ns k (cN bx) (i % cN bx))), .u] [(r, .lst (L.map stepD)), (q, .lst (((cE bx).map fun i : Nat => (i : Int)).map .int)), (b, .lst (stB b' ns (cN bx)).ds)]
    generalize stV b' ns k (cN bx) (i % cN bx) = s at nv
    refine r_if (b := !decide (s ∈ L)) (t_is (t_test (x_op (x_vd rfl) (x_vm rfl) (o_notInD (.d _) (.m (j := 0) rfl) ((shp_step 0 (nmS s nv.1 nv.2)).shaped (by decide)) ((shp_list (n := 1) fun d hd => by
        obtain ⟨x, hx, rfl⟩ := List.mem_map.mp hd
        exact shp_step 0 (nmS x (sm x hx).2.2.1 (sm x hx).2.2.2)).shaped (by decide))))) (by rw [any_step])) (fun hb => ?_) fun hb => ?_
    · have hb : s ∉ L := by simpa using hb
      refine r_app (j := 0) (x_vm rfl) (x_vd rfl) rfl rfl (by rw [List.length_map]; have : L.length ≤ i := sl; omega) ?_
      refine fun σ H o => ⟨_, _, ⟨⟨_, _, rfl⟩, ?_⟩, o⟩
      rw [if_neg hb, List.map_append]; rfl
    · have hb : s ∈ L := by simpa using hb
      refine r_next fun σ H o => ⟨_, _, ⟨⟨_, _, rfl⟩, ?_⟩, o⟩
      rw [if_pos hb]
  · rintro δ1 μ1 ⟨⟨e6, e7, rfl⟩, rfl⟩
    rw [rngD_length, Int.toNat_natCast]
    show FD.Run _ _ D (r :: q :: M) _ [(r, .lst ((cS bx ns k).1.map stepD)), (q, .lst (((cE bx).map fun i : Nat => (i : Int)).map .int)), (b, .lst (cS bx ns k).2.ds)]
    refine run_settle (i := 5) (p := r) rM (fun a ha => List.mem_cons_of_mem _ ha) rfl ?_
    refine run_settle (i := 4) (p := q) qM (fun a ha => ha) rfl ?_
    show FD.Run _ _ D M [.m b, .d (.list (ns.map .str)), .d (.int (k : Int)), .d (.int (cN bx : Int)), .d (.list (((cE bx).map fun i : Nat => (i : Int)).map .int)), .d (.list ((cS bx ns k).1.map stepD)), e6, e7, .u] [(b, .lst (cS bx ns k).2.ds)]
    have sl : (cS bx ns k).1.length ≤ cM bx := sG_len _ _ _ _ _
    have sm := sG_mem (b := tkB (c2 bx) 3) (k := k) nl (show 0 < cN bx by omega) (cM bx)
    exact r_retE (μ1 := [(b, .lst (crB bx ns k).ds)]) (x_is (x_tup (ds := [.str (ns.getD k ""), .int (cN bx : Int), endsD (cE bx), stepsD (mix (cS bx ns k).1.length (cS bx ns k).2 (cS bx ns k).1).1]) (a_cons (x_op (x_vd rfl) (x_vd rfl) (o_ixL (.d _) (atI_nat (ts_at (by rw [List.getD_eq_getElem?_getD, List.getElem?_eq_getElem l0]; rfl))))) (a_cons (x_vd rfl) (a_cons (x_cbP (a_cons (x_vd rfl) a_nil) (c_tupleL (.d _))) (a_cons (x_cbP (a_cons (x_mixD (f := stepD) (x_vm rfl) (x_vd rfl) (by omega) fun x hx => shp_step 0 (nmS x (sm x hx).2.2.1 (sm x hx).2.2.2)) a_nil) (c_tupleL (.d _))) a_nil)))) (by simp)) rfl) (fun r hr => hr) fin
abbrev nCs : List Str := ["_law_box_here", "_law_many", "_law_names", "_law_at"]
theorem scCs : FnScope nCs ["_law_box_here"] (defScope sCs) := ⟨rfl, rfl, rfl, by decide +kernel, rfl, by decide +kernel, by decide +kernel⟩
theorem ok_cs {f : Addr} {fd : FuncData} (T : Txt K mg Cb) (F : Fun K "_law_courses" "_law_courses" sCs f fd) {f1 f2 f3 : Addr} {fd1 fd2 fd3 : FuncData} (H1 : Has K mg "_law_take" sTk ["_law_box_here", "_law_many"] f1 fd1) (H2 : Has K mg "_law_mixed" sMx ["_law_box_here", "_law_some"] f2 fd2) (H3 : Has K mg "_law_course" sCo ["_law_box_here", "_law_names", "_law_at"] f3 fd3) (G3 : FnOk P w K mg base CX0 4 f3 fd3 ["_law_box_here", "_law_names", "_law_at"] (spE K 3 Rco)) : FnOk P w K mg base CX0 5 f fd ["_law_box_here"] (spE K 1 Rcs) := by
  have G1 : FnOk P w K mg base CX0 1 f1 fd1 ["_law_box_here", "_law_many"] (spW K 2 Rtk) := ok_tk T H1.F
  have G2 : FnOk P w K mg base CX0 2 f2 fd2 ["_law_box_here", "_law_some"] (spE K 2 Rmx) := ok_mx T H2.F H1
  refine def_E F scCs (by decide) rfl fun cdv A outer s H E hr => ?_
  have nd := scCs.nd
  have hr1 : Room 1 _ := hr.mono (by decide)
  have hr2 : Room 2 _ := hr.mono (by decide)
  refine ⟨_, (pss_cons (ps_set (i := 1) nd rfl (Or.inl rfl) (pe_op op_sub pe_int (pe_op op_fdivW (pe_call G1 hr1 rfl H1.m H1.F.kp H1.b .nil pass0 (pa_cons (pv 0) (pa_cons pe_int pa_nil))) pe_int)))
 (pss_cons (ps_set (i := 2) nd rfl (Or.inr rfl) (pe_slice sl_list (pe_call G2 hr2 rfl H2.m H2.F.kp H2.b .nil pass0 (pa_cons (pv 0) (pa_cons (pe_lst (pa_cons pe_str (pa_cons pe_str (pa_cons pe_str (pa_cons pe_str (pa_cons pe_str pa_nil)))))) pa_nil))) po_none (po_some (pv 1))))
 (pss_one (ps_ret (pe_callTy call_tuple_of (by rfl) T.tuple (by decide +kernel) (pa_cons (pe_lc (own := [("_law_at", 3)]) (g := (gName 3)) (tt := tYes) rfl nd (pi_range1 (by rfl) T.range (pa_cons (pv 1) pa_nil)) (blkOk_by (N := nCs) (sc := defScope sCs) (by decide +kernel)) (fun _ _ _ _ _ => (pg_name (i := 3) nd rfl (Or.inl rfl))) (fun _ _ _ _ _ => pts_nil) (fun _ _ _ _ _ => (pe_call G3 hr rfl H3.m H3.F.kp H3.b .nil pass0 (pa_cons (pv 0) (pa_cons (pv 2) (pa_cons (pv 3) pa_nil)))))) pa_nil)))))), ?_⟩
  rintro M G B es μ d μ' ⟨b, bx, rfl, rfl, rfl, rfl⟩ D fin
  show FD.Run _ _ D M [.m b, .u, .u, .u] [(b, .lst bx.ds)]
  have hm := cMany_le bx
  have h4 := tkV_lt (b := bx) (n := 4) (by omega)
  refine q_asg (e := .d (.int (cMany bx : Int))) (x_is (x_op x_int (x_op (x_takeJ 0 (x_vm rfl) x_int rfl (by decide) (by decide)) x_int (o_I (wide_div (by decide) (b := 64) (by decide) (by decide) (by decide)))) o_I0) ?_) ?_
  · rw [show (cMany bx : Int) = 3 - tkV bx 4 / 2 by unfold cMany; omega]
  show FD.Run _ _ D M [.m b, .d (.int (cMany bx : Int)), .u, .u] [(b, .lst (tkB bx 4).ds)]
  refine q_asg (e := .d (.list ((cNs bx).map .str))) (x_is (x_slL (x_mixD (l := five) (f := .str) (x_vm rfl) (x_lst (ds := five.map .str) (a_cons x_str (a_cons x_str (a_cons x_str (a_cons x_str (a_cons x_str a_nil))))) (by simp [five])) (by decide) fun x hx => shp_str 1 (five_nm x hx).tok) p_none (p_some (x_vd rfl)) (.d _)) (by rw [cutD_to']; rfl)) ?_
  show FD.Run _ _ D M [.m b, .d (.int (cMany bx : Int)), .d (.list ((cNs bx).map .str)), .u] [(b, .lst (cCB bx).ds)]
  have lN := cNs_len bx
  refine r_retE (μ' := [(b, .lst (bokB bx).ds)]) (x_cbP (a_cons (x_is (x_lc (fun i => [(b, .lst (csB (cCB bx) (cNs bx) i).ds)]) (fun _ => true) (fun i => crsD (crV (csB (cCB bx) (cNs bx) i) (cNs bx) i)) (i_rng1 (n := (cMany bx : Int)) (a_cons (x_vd rfl) a_nil) (by omega) (by omega)) (by rw [rngD_length]; omega) fun i d hd G' B' D' => ?_) rfl) a_nil) (c_tupleL (.d _))) (fun r hr => ?_) ?_
  · rw [Int.toNat_natCast] at hd
    have hlt := (List.getElem?_eq_some_iff.mp hd).1
    rw [rngD_length] at hlt
    rw [rngD_get hlt, Int.zero_add] at hd
    have hd := Option.some.inj hd
    subst hd
    exact ⟨[3], [.m b, .d (.int (cMany bx : Int)), .d (.list ((cNs bx).map .str)), .d (.int (i : Int))], _, tg_name, fun k hk => hk, t_yes, fun _ => x_callEJ (R := Rco) (mo' := .lst (crB (csB (cCB bx) (cNs bx) i) (cNs bx) i).ds) 0 (a_cons (x_vm rfl) (a_cons (x_vd rfl) (a_cons (x_vd rfl) a_nil))) rfl ⟨b, _, cNs bx, i, rfl, rfl, rfl, by omega, by omega, fun x hx => five_nm x (cNs_sub hx), rfl⟩, fun z => nomatch z⟩
  · rw [rngD_length, Int.toNat_natCast]; exact hr
  · rw [rngD_length, Int.toNat_natCast, lcD_all]
    have e : bokD (bokV bx) = .tuple ((List.range (cMany bx)).map fun i => crsD (crV (csB (cCB bx) (cNs bx) i) (cNs bx) i)) := by
      unfold bokD bokV csV
      rw [List.map_map]; rfl
    rw [e] at fin
    exact fin
end
end K09
namespace K09
open PySem L2 FD Evl
theorem paired_maps {α β γ : Type} {R : β → γ → Prop} {f : α → β} {g : α → γ} : ∀ {l : List α}, (∀ x ∈ l, R (f x) (g x)) → Paired R (l.map f) (l.map g)
  | [], _ => .nil
  | x :: l, h => .cons (h x List.mem_cons_self) (paired_maps fun y hy => h y (List.mem_cons_of_mem _ hy))
/-! ### the law's own exits: a dict of lists -/
def dealD (s : Step) : PyData := if s.call = true then .none else .str s.nm
def lrow (x : Str) (q : Step × Nat) : PyData := .tuple [.tuple [.str (wh q.1.call), .int (q.2 : Int)], .tuple ((partsOf x q.1).map stD), dealD q.1]
def full (cs : List Crs) (s : Stg) : List PyData := (exL (crs cs s.1) s.2).map (lrow s.1)
def lvT (cs : List Crs) : GTab := (stages cs).map fun s => (stK s, gD (.list (full cs s)))
def exK (c : Crs) (k i : Nat) : List (Step × Nat) := (c.steps.zipIdx.take k).filter fun q => decide (q.1.b = i)
theorem exK_all (c : Crs) (i : Nat) : exK c c.steps.length i = exL c i := by
  unfold exK exL
  rw [List.take_of_length_le (by rw [List.length_zipIdx]; omega)]
theorem exK_succ (c : Crs) {k : Nat} {s : Step} (h : c.steps[k]? = some s) (i : Nat) : exK c (k + 1) i = exK c k i ++ if s.b = i then [(s, k)] else [] := by
  unfold exK
  rw [List.take_add_one, List.getElem?_zipIdx, h, List.filter_append]
  congr 1
  show [(s, 0 + k)].filter _ = _
  rw [Nat.zero_add, List.filter_cons]
  by_cases e : s.b = i
  · rw [if_pos (decide_eq_true e), if_pos e]; rfl
  · rw [if_neg (fun z => e (of_decide_eq_true z)), if_neg e]; rfl
def fill (cs : List Crs) (c : Crs) (k : Nat) (s : Stg) : List PyData := if s.1 = c.nm then (exK c k s.2).map (lrow s.1) else full cs s
def memL (F : Stg → List PyData) (L : List (Stg × Addr)) (p : Addr) : Mem := L.map (fun x => (x.2, MO.lst (F x.1))) ++ [(p, .dT (L.reverse.map fun x => (stK x.1, gRef x.2)))]
theorem memL_congr {F F' : Stg → List PyData} {L : List (Stg × Addr)} {p : Addr} (h : ∀ x ∈ L, F x.1 = F' x.1) : memL F L p = memL F' L p := by
  unfold memL
  congr 1
  exact List.map_congr_left fun x hx => by rw [h x hx]
theorem memL_dict (F : Stg → List PyData) (L : List (Stg × Addr)) (p : Addr) : (memL F L p)[L.length]? = some (p, .dT (L.reverse.map fun x => (stK x.1, gRef x.2))) := by
  unfold memL
  rw [List.getElem?_append_right (by rw [List.length_map]; exact Nat.le_refl _), List.length_map, Nat.sub_self]; rfl
theorem memL_new {F : Stg → List PyData} {L : List (Stg × Addr)} {p q : Addr} {s : Stg} (hs : s ∉ L.map (·.1)) (h0 : F s = []) : (q, MO.lst []) :: (memL F L p).set L.length (p, .dT (putG (L.reverse.map fun x => (stK x.1, gRef x.2)) (stK s) (gRef q))) = memL F ((s, q) :: L) p := by
  rw [putG_new (fun z => by
    rw [List.map_map] at z
    obtain ⟨x, hx, e⟩ := List.mem_map.mp z
    exact hs (List.mem_map.mpr ⟨x, List.mem_reverse.mp hx, stK_inj e⟩))]
  unfold memL
  rw [List.set_append_right _ _ (by rw [List.length_map]; exact Nat.le_refl _), List.length_map, Nat.sub_self, List.map_cons, h0, List.reverse_cons, List.map_append]; rfl
theorem memL_at {F : Stg → List PyData} {L : List (Stg × Addr)} {p : Addr} {j : Nat} {s : Stg} {a : Addr} (h : L[j]? = some (s, a)) : (memL F L p)[j]? = some (a, .lst (F s)) := by
  have hl := (List.getElem?_eq_some_iff.mp h).1
  unfold memL
  rw [List.getElem?_append_left (by rw [List.length_map]; exact hl), List.getElem?_map, h]; rfl
theorem memL_set {F F' : Stg → List PyData} {L : List (Stg × Addr)} {p : Addr} {j : Nat} {s : Stg} {a : Addr} {ds : List PyData} (nd : (L.map (·.1)).Nodup) (h : L[j]? = some (s, a)) (h1 : F' s = ds) (h2 : ∀ x ∈ L, x.1 ≠ s → F' x.1 = F x.1) : (memL F L p).set j (a, .lst ds) = memL F' L p := by
  have hl := (List.getElem?_eq_some_iff.mp h).1
  unfold memL
  rw [List.set_append_left _ _ (by rw [List.length_map]; exact hl)]
  congr 1
  refine List.ext_getElem? fun i => ?_
  by_cases hi : j = i
  · subst hi
    rw [List.getElem?_set_self (by rw [List.length_map]; exact hl), List.getElem?_map, h]
    show _ = some (a, MO.lst (F' s))
    rw [h1]
  · rw [List.getElem?_set_ne hi, List.getElem?_map, List.getElem?_map]
    cases q : L[i]? with
    | none => rfl
    | some x =>
      show some (x.2, MO.lst (F x.1)) = some (x.2, MO.lst (F' x.1))
      rw [h2 x (List.mem_of_getElem? q) fun z => ?_]
      have a1 : (L.map (·.1))[j]? = some s := by rw [List.getElem?_map, h]; rfl
      have a2 : (L.map (·.1))[i]? = some s := by rw [List.getElem?_map, q, ← z]; rfl
      obtain ⟨l1, g1⟩ := List.getElem?_eq_some_iff.mp a1
      obtain ⟨l2, g2⟩ := List.getElem?_eq_some_iff.mp a2
      rcases Nat.lt_or_gt_of_ne hi with r | r
      · exact List.pairwise_iff_getElem.mp nd j i l1 l2 r (g1.trans g2.symm)
      · exact List.pairwise_iff_getElem.mp nd i j l2 l1 r (g2.trans g1.symm)
theorem memL_val {L : List (Stg × Addr)} (nd : (L.map (·.1)).Nodup) {s : Stg} {a : Addr} (h : (s, a) ∈ L) : valG (L.reverse.map fun x => (stK x.1, gRef x.2)) (stK s) = some (gRef a) := by
  refine valG_at ?_ (List.mem_map.mpr ⟨(s, a), List.mem_reverse.mpr h, rfl⟩)
  rw [List.map_map]
  have : (L.reverse.map (·.1)).Nodup := by rw [List.map_reverse]; exact (List.reverse_perm _).nodup_iff.mpr nd
  have := keys_nd this
  rw [List.map_map] at this
  exact this
theorem stages_app (a b : List Crs) : stages (a ++ b) = stages a ++ stages b := List.flatMap_append
theorem stages_take {cs : List Crs} {i : Nat} {c : Crs} (h : cs[i]? = some c) : stages (cs.take (i + 1)) = stages (cs.take i) ++ (List.range c.n).map fun j => (c.nm, j) := by
  rw [List.take_add_one, h, stages_app]
  congr 1
  show stages [c] = _
  unfold stages
  rw [List.flatMap_cons]
  simp
theorem stages_pre (cs : List Crs) (i : Nat) : (stages (cs.take i)).Sublist (stages cs) := by
  conv => rhs; rw [← List.take_append_drop i cs]
  rw [stages_app]
  exact List.sublist_append_left _ _
def Rlv (es : List Ent) (μ : Mem) (mo : MO) (μ' : Mem) : Prop := ∃ cs : List Crs, es = [.d (bokD cs)] ∧ μ = [] ∧ μ' = [] ∧ BokOk cs ∧ mo = .dT (lvT cs)
def endsL (cs : List Crs) : List Stg := cs.flatMap fun c => c.ends.map fun e => (c.nm, e)
def Ren (ds : List PyData) (d : PyData) : Prop := ∃ cs : List Crs, ds = [bokD cs] ∧ BokOk cs ∧ d = .list ((endsL cs).map stD)
section
variable {P : Program} {w : World} {K : PySem.W.Frag} {mg : Str → Option Value} {base : Heap} {Cb : Addr}
abbrev nLv : List Str := ["_law_courses_here", "_law_leaving_here", "_law_name", "_law_stages", "_law_ends_here", "_law_steps", "_law_number", "_law_k", "_law_step_here", "_law_row"]
theorem scLv : FnScope nLv ["_law_courses_here"] (defScope sLv) := ⟨rfl, rfl, rfl, by decide +kernel, rfl, by decide +kernel, by decide +kernel⟩
theorem ok_lv {f : Addr} {fd : FuncData} (T : Txt K mg Cb) (F : Fun K "_law_leaving" "_law_leaving" sLv f fd) : FnOk P w K mg base CX0 1 f fd ["_law_courses_here"] (spEN K 1 Rlv) := by
  refine def_EN F scLv (by decide) rfl fun cdv A outer s H E hr => ?_
  have nd := scLv.nd
  refine ⟨_, (pss_cons (ps_set (i := 1) nd rfl (Or.inl rfl) pe_dnewT)
 (pss_cons (ps_for PassesOwn.never rfl (pi_tup (pv 0)) (pg_tup rfl (pgs_cons (pg_name (i := 2) nd rfl (Or.inl rfl)) (pgs_cons (pg_name (i := 3) nd rfl (Or.inl rfl)) (pgs_cons (pg_name (i := 4) nd rfl (Or.inl rfl)) (pgs_cons (pg_name (i := 5) nd rfl (Or.inl rfl)) pgs_nil))))) (pss_cons (ps_for PassesOwn.never rfl (pi_range1 (by rfl) T.range (pa_cons (pv 3) pa_nil)) (pg_name (i := 6) nd rfl (Or.inl rfl)) (pss_one (ps_asg (pe_lst pa_nil) (pg_sub (pv 1) (pe_tup (pa_cons (pv 2) (pa_cons (pv 6) pa_nil))) (set_dict (hu_of hr))))))
 (pss_one (ps_for PassesOwn.never rfl (pi_enumT (by rfl) T.enumerate (pa_cons (pv 5) pa_nil)) (pg_tup rfl (pgs_cons (pg_name (i := 7) nd rfl (Or.inl rfl)) (pgs_cons (pg_name (i := 8) nd rfl (Or.inl rfl)) pgs_nil))) (pss_cons (ps_set (i := 9) nd rfl (Or.inl rfl) (pe_dget (hu_of hr) (pv 1) (pe_tup (pa_cons (pv 2) (pa_cons (pe_ix ix_tup (pv 8) pe_int (fun _ _ => rfl)) pa_nil))) (fun _ _ => rfl)))
 (pss_one (ps_if (pt_cmpR (op_eqD hr.units) (pe_ix ix_tup (pv 8) pe_int (fun _ _ => rfl)) pe_str (nomark _)) (pss_one (ps_expr (pe_bm PySem.F.plainAttrs_list PySem.F.slot_list_append PySem.F.type_list_append mt_append (pv 9) (pa_cons (pe_tup (pa_cons (pe_tup (pa_cons pe_str (pa_cons (pv 7) pa_nil))) (pa_cons (pe_tup (pa_cons (pe_tup (pa_cons (pv 2) (pa_cons (pe_ix ix_tup (pv 8) pe_int (fun _ _ => rfl)) pa_nil))) pa_nil)) (pa_cons (pe_ix ix_tup (pv 8) pe_int (fun _ _ => rfl)) pa_nil)))) pa_nil)))) (pss_one (ps_expr (pe_bm PySem.F.plainAttrs_list PySem.F.slot_list_append PySem.F.type_list_append mt_append (pv 9) (pa_cons (pe_tup (pa_cons (pe_tup (pa_cons pe_str (pa_cons (pv 7) pa_nil))) (pa_cons (pe_tup (pa_cons (pe_tup (pa_cons (pe_ix ix_tup (pv 8) pe_int (fun _ _ => rfl)) (pa_cons pe_int pa_nil))) (pa_cons (pe_tup (pa_cons (pv 2) (pa_cons (pe_ix ix_tup (pv 8) pe_int (fun _ _ => rfl)) pa_nil))) pa_nil))) (pa_cons pe_non pa_nil)))) pa_nil)))))))))))
 (pss_one (ps_ret (pv 1))))), ?_⟩
  rintro M G B es μ mo μ' ⟨cs, rfl, rfl, rfl, ok, rfl⟩ D fin
  show FD.Run _ _ D M [.d (bokD cs), .u, .u, .u, .u, .u, .u, .u, .u, .u] []
  have nS := stages_nd ok.nd
  have lS : (stages cs).length ≤ 60 := by
    have h1 := (srt_perm (stages cs)).length_eq
    have h2 := S_len cs
    have := ok.tot
    show (stages cs).length ≤ 60
    rw [← h1]; show (S cs).length ≤ 60
    omega
  refine q_newT fun p pM => ?_
  show FD.Run _ _ D (p :: M) [.d (bokD cs), .m p, .u, .u, .u, .u, .u, .u, .u, .u] [(p, .dT [])]
  refine q_forNM (xs := cs.map crsD) (i_tup (x_vd rfl)) (fun i M1 δ μ => (∃ e2 e3 e4 e5 e6 e7 e8 e9, δ = [.d (bokD cs), .m p, e2, e3, e4, e5, e6, e7, e8, e9]) ∧ ∃ L : List (Stg × Addr), L.reverse.map (·.1) = stages (cs.take i) ∧ M1 = L.map (·.2) ++ p :: M ∧ (∀ x ∈ L, x.2 ∉ p :: M) ∧ μ = memL (full cs) L p) ⟨⟨_, _, _, _, _, _, _, _, rfl⟩, [], rfl, rfl, fun x hx => (by cases hx), rfl⟩ ?_ ?_
  · rintro B' xB i d M1 δ1 μ1 hi ⟨⟨e2, e3, e4, e5, e6, e7, e8, e9, rfl⟩, L, hL, rfl, hM, rfl⟩
    rw [List.getElem?_map] at hi
    cases hc : cs[i]? with
    | none => rw [hc] at hi; cases hi
    | some c =>
      rw [hc] at hi
      have hi := Option.some.inj hi
      subst hi
      have cm := List.mem_of_getElem? hc
      have cok := ok.ok c cm
      have ce := crs_of ok.nd cm
      have st := stages_take hc
      have nT : (stages (cs.take (i + 1))).Nodup := List.Pairwise.sublist (stages_pre cs (i + 1)) nS
      have lT : (stages (cs.take (i + 1))).length ≤ 60 := Nat.le_trans (stages_pre cs (i + 1)).length_le lS
      refine ⟨_, _, tg_tup4, ?_⟩
      show FD.Run _ _ _ (L.map (·.2) ++ p :: M) [.d (bokD cs), .m p, .d (.str c.nm), .d (.int (c.n : Int)), .d (endsD c.ends), .d (stepsD c.steps), e6, e7, e8, e9] (memL (full cs) L p)
      have old : ∀ x ∈ L, x.1.1 ≠ c.nm := fun x hx e => by
        have m1 : x.1 ∈ stages (cs.take i) := by rw [← hL]; exact List.mem_map.mpr ⟨x, List.mem_reverse.mpr hx, rfl⟩
        obtain ⟨c', hc', e', _⟩ := stages_mem.mp m1
        obtain ⟨m, hm⟩ := List.getElem?_of_mem hc'
        have ml := (List.getElem?_eq_some_iff.mp hm).1
        rw [List.length_take] at ml
        rw [List.getElem?_take, if_pos (by omega)] at hm
        have a1 : (cs.map (·.nm))[m]? = some c.nm := by rw [List.getElem?_map, hm]; exact congrArg some (e'.trans e)
        have a2 : (cs.map (·.nm))[i]? = some c.nm := by rw [List.getElem?_map, hc]; rfl
        obtain ⟨l1, g1⟩ := List.getElem?_eq_some_iff.mp a1
        obtain ⟨l2, g2⟩ := List.getElem?_eq_some_iff.mp a2
        exact List.pairwise_iff_getElem.mp ok.nd m i l1 l2 (by omega) (g1.trans g2.symm)
      rw [memL_congr (F' := fill cs c 0) fun x hx => by unfold fill; rw [if_neg (old x hx)]]
      refine q_forNM (i_rng1 (n := (c.n : Int)) (a_cons (x_vd rfl) a_nil) (by omega) (by have := cok.n2; omega)) (fun j M1 δ μ => (∃ e6, δ = [.d (bokD cs), .m p, .d (.str c.nm), .d (.int (c.n : Int)), .d (endsD c.ends), .d (stepsD c.steps), e6, e7, e8, e9]) ∧ ∃ L : List (Stg × Addr), L.reverse.map (·.1) = stages (cs.take i) ++ (List.range j).map (fun j => (c.nm, j)) ∧ M1 = L.map (·.2) ++ p :: M ∧ (∀ x ∈ L, x.2 ∉ p :: M) ∧ μ = memL (fill cs c 0) L p) ⟨⟨_, rfl⟩, L, by rw [hL]; simp, rfl, hM, rfl⟩ ?_ ?_
      · rintro B3 xB3 j d M1 δ1 μ1 hj ⟨⟨e6, rfl⟩, L, hL, rfl, hM, rfl⟩
        rw [Int.toNat_natCast] at hj
        have hlt := (List.getElem?_eq_some_iff.mp hj).1
        rw [rngD_length] at hlt
        rw [rngD_get hlt, Int.zero_add] at hj
        have hj := Option.some.inj hj
        subst hj
        refine ⟨_, _, tg_name, ?_⟩
        show FD.Run _ _ _ (L.map (·.2) ++ p :: M) [.d (bokD cs), .m p, .d (.str c.nm), .d (.int (c.n : Int)), .d (endsD c.ends), .d (stepsD c.steps), .d (.int (j : Int)), e7, e8, e9] (memL (fill cs c 0) L p)
        have pre : (stages (cs.take i) ++ (List.range (j + 1)).map fun j => (c.nm, j)).Sublist (stages (cs.take (i + 1))) := by
          rw [st]
          exact List.Sublist.append (List.Sublist.refl _) ((List.range_sublist.mpr (by omega)).map _)
        have hL1 : ((c.nm, j) :: L.map (·.1)).Nodup := by
          have h := List.Pairwise.sublist pre nT
          rw [List.range_succ, List.map_append, ← List.append_assoc, ← hL, List.map_reverse] at h
          have h := (List.reverse_perm _).nodup_iff.mpr h
          rw [List.reverse_append, List.reverse_reverse] at h
          exact h
        have len : L.length ≤ 60 := by
          have e1 := congrArg List.length hL
          rw [List.length_map, List.length_reverse, List.length_append, List.length_map, List.length_range] at e1
          have e2 := pre.length_le
          rw [List.length_append, List.length_map, List.length_range] at e2
          omega
        refine r_tputN (j := L.length) (k := stK (c.nm, j)) (n_newL (ds := []) a_nil (by simp)) (fun q qM => x_vm rfl) (fun q qM => x_tup (ds := [.str c.nm, .int (j : Int)]) (a_cons (x_vd rfl) (a_cons (x_vd rfl) a_nil)) (by simp)) (memL_dict _ _ _) (by rw [List.length_map, List.length_reverse]; omega) fun q qM => ?_
        rw [memL_new (List.nodup_cons.mp hL1).1 (by unfold fill; rw [if_pos rfl]; rfl)]
        refine fun σ H o => ⟨q :: (L.map (·.2) ++ p :: M), _, _, ⟨⟨_, rfl⟩, ((c.nm, j), q) :: L, ?_, rfl, fun x hx => ?_, rfl⟩, o⟩
        · rw [List.reverse_cons, List.map_append, hL, List.range_succ, List.map_append, List.append_assoc]; rfl
        · rcases List.mem_cons.mp hx with z | z
          · rw [z]; exact fun y => qM (List.mem_append_right _ y)
          · exact hM x z
      · rintro M1 δ1 μ1 ⟨⟨e6, rfl⟩, L, hL, rfl, hM, rfl⟩
        rw [rngD_length, Int.toNat_natCast, ← st] at hL
        have ndL : (L.map (·.1)).Nodup := by
          rw [← hL, List.map_reverse] at nT
          exact (List.reverse_perm _).nodup_iff.mp nT
        refine r_forA (l := c.steps.zipIdx) (enc := fun q => PyData.tuple [.int (q.2 : Int), stepD q.1]) (by
            have h := i_enumT (C := ⟨K, M, G, B'⟩) (M := L.map (·.2) ++ p :: M) (δ := [.d (bokD cs), .m p, .d (.str c.nm), .d (.int (c.n : Int)), .d (endsD c.ends), .d (stepsD c.steps), e6, e7, e8, e9]) (μ := memL (fill cs c 0) L p) (xs := c.steps.map stepD) (a_cons (x_vd (i := 5) rfl) a_nil)
            rw [enumD_map] at h
            exact h) (fun k δ μ => (∃ e7 e8 e9, δ = [.d (bokD cs), .m p, .d (.str c.nm), .d (.int (c.n : Int)), .d (endsD c.ends), .d (stepsD c.steps), e6, e7, e8, e9]) ∧ μ = memL (fill cs c k) L p) ⟨⟨_, _, _, rfl⟩, rfl⟩ ?_ ?_
        · rintro B3 xB3 k q δ1 μ1 hq ⟨⟨e7, e8, e9, rfl⟩, rfl⟩
          obtain ⟨hs, q2⟩ := zip_at hq
          obtain ⟨s, k'⟩ := q
          have q2 : k' = k := q2
          subst q2
          have hs : c.steps[k']? = some s := hs
          have sm := List.mem_of_getElem? hs
          have sb := cok.b s sm
          refine ⟨_, _, tg_tup2, ?_⟩
          show FD.Run _ _ _ (L.map (·.2) ++ p :: M) [.d (bokD cs), .m p, .d (.str c.nm), .d (.int (c.n : Int)), .d (endsD c.ends), .d (stepsD c.steps), e6, .d (.int (k' : Int)), .d (stepD s), e9] (memL (fill cs c k') L p)
          have hin : (c.nm, s.b) ∈ L.reverse.map (·.1) := by
            rw [hL, st]
            exact List.mem_append_right _ (List.mem_map.mpr ⟨s.b, List.mem_range.mpr sb, rfl⟩)
          obtain ⟨⟨t, a⟩, hx, et⟩ := List.mem_map.mp hin
          have et : t = (c.nm, s.b) := et
          subst et
          have hx := List.mem_reverse.mp hx
          obtain ⟨jx, hjx⟩ := List.getElem?_of_mem hx
          have at_ := memL_at (F := fill cs c k') (p := p) hjx
          have small : (fill cs c k' (c.nm, s.b)).length < 100000 := by
            have h1 := cok.few
            unfold fill exK
            rw [if_pos rfl, List.length_map]
            have : (c.steps.zipIdx.take k').length ≤ c.steps.length := by rw [List.length_take, List.length_zipIdx]; omega
            exact Nat.lt_of_le_of_lt (List.length_filter_le _ _) (by omega)
          have nxt : ∀ ds, ds = fill cs c k' (c.nm, s.b) ++ [lrow c.nm (s, k')] → (memL (fill cs c k') L p).set jx (a, .lst ds) = memL (fill cs c (k' + 1)) L p := fun ds e => by
            refine memL_set ndL hjx ?_ fun x hx hne => ?_
            · rw [e]
              unfold fill
              rw [if_pos rfl, if_pos rfl, exK_succ c hs, if_pos rfl, List.map_append]; rfl
            · unfold fill
              by_cases e1 : x.1.1 = c.nm
              · rw [if_pos e1, if_pos e1, exK_succ c hs, if_neg fun e2 => hne (Prod.ext e1 e2.symm), List.append_nil]
              · rw [if_neg e1, if_neg e1]
          refine q_asg (e := .m a) (x_gref (x_tget (k := stK (c.nm, s.b)) (l := L.reverse.map fun x => (stK x.1, gRef x.2)) (x_vm rfl) (x_tup (ds := [.str c.nm, .int (s.b : Int)]) (a_cons (x_vd rfl) (a_cons (x_op (x_vd rfl) x_int (o_ixT (d := .int (s.b : Int)) rfl)) a_nil)) (by simp)) (fun _ _ _ _ h => h) (.m (List.mem_of_getElem? (memL_dict _ _ _))) (memL_val ndL hx))) ?_
          show FD.Run _ _ _ (L.map (·.2) ++ p :: M) [.d (bokD cs), .m p, .d (.str c.nm), .d (.int (c.n : Int)), .d (endsD c.ends), .d (stepsD c.steps), e6, .d (.int (k' : Int)), .d (stepD s), .m a] (memL (fill cs c k') L p)
          refine r_if (b := !s.call) (t_is (t_test (x_op (x_op (x_vd rfl) x_int (o_ixT (d := .str (wh s.call)) rfl)) x_str (o_eqD (.d _) (.d _) (shp_wh _) (shp_wh false)))) (by rw [eqv_str]; cases s.call <;> decide)) (fun hb => ?_) fun hb => ?_
          · have hc : s.call = false := by simpa using hb
            refine r_app (j := jx) (d := lrow c.nm (s, k')) (x_vm rfl) (x_is (x_tup (ds := [.tuple [.str "do", .int (k' : Int)], .tuple [stD (c.nm, s.e)], .str s.nm]) (a_cons (x_tup (ds := [.str "do", .int (k' : Int)]) (a_cons x_str (a_cons (x_vd rfl) a_nil)) (by simp)) (a_cons (x_tup (ds := [stD (c.nm, s.e)]) (a_cons (x_tup (ds := [.str c.nm, .int (s.e : Int)]) (a_cons (x_vd rfl) (a_cons (x_op (x_vd rfl) x_int (o_ixT (d := .int (s.e : Int)) rfl)) a_nil)) (by simp)) a_nil) (by simp)) (a_cons (x_op (x_vd rfl) x_int (o_ixT (d := .str s.nm) rfl)) a_nil))) (by simp)) ?_) at_ at_ small ?_
            · unfold lrow partsOf dealD wh
              rw [hc]; rfl
            · rw [nxt _ rfl]
              exact fun σ H o => ⟨_, _, ⟨⟨_, _, _, rfl⟩, rfl⟩, o⟩
          · have hc : s.call = true := by simpa using hb
            refine r_app (j := jx) (d := lrow c.nm (s, k')) (x_vm rfl) (x_is (x_tup (ds := [.tuple [.str "call", .int (k' : Int)], .tuple [stD (s.nm, 0), stD (c.nm, s.e)], .none]) (a_cons (x_tup (ds := [.str "call", .int (k' : Int)]) (a_cons x_str (a_cons (x_vd rfl) a_nil)) (by simp)) (a_cons (x_tup (ds := [stD (s.nm, 0), stD (c.nm, s.e)]) (a_cons (x_tup (ds := [.str s.nm, .int 0]) (a_cons (x_op (x_vd rfl) x_int (o_ixT (d := .str s.nm) rfl)) (a_cons x_int a_nil)) (by simp)) (a_cons (x_tup (ds := [.str c.nm, .int (s.e : Int)]) (a_cons (x_vd rfl) (a_cons (x_op (x_vd rfl) x_int (o_ixT (d := .int (s.e : Int)) rfl)) a_nil)) (by simp)) a_nil)) (by simp)) (a_cons x_non a_nil))) (by simp)) ?_) at_ at_ small ?_
            · unfold lrow partsOf dealD wh
              rw [hc]; rfl
            · rw [nxt _ rfl]
              exact fun σ H o => ⟨_, _, ⟨⟨_, _, _, rfl⟩, rfl⟩, o⟩
        · rintro δ1 μ1 ⟨⟨e7, e8, e9, rfl⟩, rfl⟩
          rw [List.length_zipIdx]
          refine fun σ H o => ⟨_, _, _, ⟨⟨_, _, _, _, _, _, _, _, rfl⟩, L, hL, rfl, hM, ?_⟩, o⟩
          refine memL_congr fun x hx => ?_
          unfold fill
          by_cases e1 : x.1.1 = c.nm
          · rw [if_pos e1, exK_all]
            unfold full
            rw [e1, ce]
          · rw [if_neg e1]
  · rintro M1 δ1 μ1 ⟨⟨e2, e3, e4, e5, e6, e7, e8, e9, rfl⟩, L, hL, rfl, hM, rfl⟩
    rw [List.length_map, List.take_length] at hL
    refine fun σ H o => x_vm (i := 1) rfl σ H o _ fun v H1 o1 x1 r1 => ?_
    have r1 : v = .ref p := r1
    subst r1
    obtain ⟨q0, q1, ws, q2, q3⟩ := o1.mem _ (List.mem_of_getElem? (memL_dict _ _ _))
    have s1 : ∀ a ∈ p :: M, a ∈ L.map (·.2) ++ p :: M := fun a ha => List.mem_append_right _ ha
    refine fin p (p :: M) H1 q1 pM o1.gr (fun a ha => List.mem_cons_of_mem _ ha) List.mem_cons_self ⟨ws, q2, gt_settle (hide_sub s1) q3 ?_⟩ fun r hr => (by cases hr)
    have e : lvT cs = L.reverse.map fun x => (stK x.1, gD (.list (full cs x.1))) := by
      unfold lvT
      rw [← hL, List.map_map]; rfl
    rw [e]
    refine paired_maps fun x hx => ⟨rfl, fun v hv => ?_⟩
    have hx := List.mem_reverse.mp hx
    have hv : v = .ref x.2 := hv
    subst hv
    obtain ⟨jx, hjx⟩ := List.getElem?_of_mem hx
    obtain ⟨_, _, vs, z1, z2⟩ := o1.mem _ (List.mem_of_getElem? (memL_at (F := full cs) (p := p) (s := x.1) (a := x.2) hjx))
    exact .lst (sq_of (by rw [hide_out (hM x hx)]; exact z1)) (dpAll_mono (hide_sub s1) _ _ z2)
abbrev nEn : List Str := ["_law_courses_here", "_law_found", "_law_name", "_law_stages", "_law_ends_here", "_law_steps", "_law_number"]
theorem scEn : FnScope nEn ["_law_courses_here"] (defScope sEn) := ⟨rfl, rfl, rfl, by decide +kernel, rfl, by decide +kernel, by decide +kernel⟩
theorem ok_en {f : Addr} {fd : FuncData} (T : Txt K mg Cb) (F : Fun K "_law_ends" "_law_ends" sEn f fd) : FnOk P w K mg base CX0 1 f fd ["_law_courses_here"] (spR K 1 Ren) := by
  refine def_R F scEn (by decide) fun cdv A outer s H E hr => ?_
  have nd := scEn.nd
  refine ⟨_, (pss_cons (ps_set (i := 1) nd rfl (Or.inl rfl) (pe_lst pa_nil))
 (pss_cons (ps_for PassesOwn.never rfl (pi_tup (pv 0)) (pg_tup rfl (pgs_cons (pg_name (i := 2) nd rfl (Or.inr rfl)) (pgs_cons (pg_name (i := 3) nd rfl (Or.inl rfl)) (pgs_cons (pg_name (i := 4) nd rfl (Or.inl rfl)) (pgs_cons (pg_name (i := 5) nd rfl (Or.inl rfl)) pgs_nil))))) (pss_one (ps_set (i := 1) nd rfl (Or.inl rfl) (pe_op op_catL (pv 1) (pe_lc (own := [("_law_number", 6)]) (g := (gName 6)) (tt := tYes) rfl nd (pi_tup (pv 4)) (blkOk_by (N := nEn) (sc := defScope sEn) (by decide +kernel)) (fun _ _ _ _ _ => (pg_name (i := 6) nd rfl (Or.inl rfl))) (fun _ _ _ _ _ => pts_nil) (fun _ _ _ _ _ => (pe_tup (pa_cons (pv 2) (pa_cons (pv 6) pa_nil)))))))))
 (pss_one (ps_ret (pv 1))))), ?_⟩
  rintro M G B ds d _ ⟨cs, rfl, ok, rfl⟩ D fin
  show FD.Run _ _ D M [.d (bokD cs), .u, .u, .u, .u, .u, .u] []
  have lS := S_len cs
  have tot := ok.tot
  refine q_asg (e := .d (.list [])) (x_lst (ds := []) a_nil (by simp)) ?_
  show FD.Run _ _ D M [.d (bokD cs), .d (.list []), .u, .u, .u, .u, .u] []
  refine q_forA (l := cs) (enc := crsD) (i_tup (x_vd rfl)) (fun i δ μ => (∃ e2 e3 e4 e5, δ = [.d (bokD cs), .d (.list ((endsL (cs.take i)).map stD)), e2, e3, e4, e5, .u]) ∧ μ = []) ⟨⟨_, _, _, _, rfl⟩, rfl⟩ ?_ ?_
  · rintro B' xB i c δ1 μ1 hc ⟨⟨e2, e3, e4, e5, rfl⟩, rfl⟩
    have cm := List.mem_of_getElem? hc
    have cok := ok.ok c cm
    have few := asc_few cok.asc cok.ends
    have n2 := cok.n2
    refine ⟨_, _, tg_tup4, ?_⟩
    show FD.Run _ _ _ M [.d (bokD cs), .d (.list ((endsL (cs.take i)).map stD)), .d (.str c.nm), .d (.int (c.n : Int)), .d (endsD c.ends), .d (stepsD c.steps), .u] []
    have big : (endsL (cs.take i)).length ≤ 8 * 20 := by
      have h8 := ok.few
      have : ∀ l : List Crs, (∀ c ∈ l, c.ends.length ≤ 20) → (endsL l).length ≤ l.length * 20 := fun l => by
        induction l with
        | nil => intro _; simp [endsL]
        | cons c l ih =>
          intro h
          have h1 := h c List.mem_cons_self
          have h2 := ih fun c hc => h c (List.mem_cons_of_mem _ hc)
          show (List.flatMap _ (c :: l)).length ≤ _
          rw [List.flatMap_cons, List.length_append, List.length_map, List.length_cons, Nat.succ_mul]
          have h3 : (List.flatMap (fun c => c.ends.map fun e => ((c.nm, e) : Stg)) l).length ≤ l.length * 20 := h2
          omega
      have h := this (cs.take i) fun c hc => by
        have ck := ok.ok c (List.mem_of_mem_take hc)
        have := asc_few ck.asc ck.ends
        have := ck.n2
        omega
      have : (cs.take i).length ≤ cs.length := by rw [List.length_take]; omega
      have : (cs.take i).length * 20 ≤ 8 * 20 := Nat.mul_le_mul_right _ (by omega)
      omega
    refine r_asg (e := .d (.list ((endsL (cs.take (i + 1))).map stD))) (x_is (x_op (x_vd rfl) (x_lcA (l := c.ends) (enc := fun i : Nat => PyData.int (i : Int)) (f := fun i => stD (c.nm, i)) (i_tup (x_is (x_vd rfl) (by unfold endsD; rw [List.map_map]; rfl))) (by omega) (ts := [6]) (fun j => [.d (bokD cs), .d (.list ((endsL (cs.take i)).map stD)), .d (.str c.nm), .d (.int (c.n : Int)), .d (endsD c.ends), .d (stepsD c.steps), .d (.int (j : Int))]) (fun j hj => tg_name) (fun k hk => hk) (fun j hj G' B3 D' => x_tup (ds := [.str c.nm, .int (j : Int)]) (a_cons (x_vd rfl) (a_cons (x_vd rfl) a_nil)) (by simp))) (o_catL (by rw [List.length_map, List.length_map]; omega))) ?_) ?_
    · rw [List.take_add_one, hc]
      unfold endsL
      rw [List.flatMap_append, List.map_append]
      simp
    · exact fun σ H o => ⟨_, _, ⟨⟨_, _, _, _, rfl⟩, rfl⟩, o⟩
  · rintro δ1 μ1 ⟨⟨e2, e3, e4, e5, rfl⟩, rfl⟩
    rw [List.take_length]
    exact r_retP (x_vd rfl) fin
end
end K09
namespace FD
open PySem L2 Evl
section
variable {X : Cx} {K : PySem.W.Frag}
theorem kop_inD (h : X.K = K) (hu : X.A.units + 65 < cLine) : OpR X (compareOp .In) (rInD K) := h ▸ op_inD hu
theorem kop_notInD (h : X.K = K) (hu : X.A.units + 65 < cLine) : OpR X (compareOp .NotIn) (rNotInD K) := h ▸ op_notInD hu
/-- one expression, two readings -/
def tOr2 (t1 t2 : TE) : TE := fun σ H Q => t1 σ H Q ∨ t2 σ H Q
theorem pe_or2 {e : Expr} {t1 t2 : TE} (h1 : PE X e t1) (h2 : PE X e t2) : PE X e (tOr2 t1 t2) := ⟨fun pins s σ H Q I h => h.elim (h1.run pins s σ H Q I) (h2.run pins s σ H Q I)⟩
end
section
variable {C : Cfg} {M : List Addr} {δ : List Ent} {μ μ' : Mem} {t1 t2 : TE} {e : Ent} {a : Addr} {l : GTab}
theorem x_orl (h : EvX C t1 M δ μ μ' e) : EvX C (tOr2 t1 t2) M δ μ μ' e := fun σ H o Q k => .inl (h σ H o Q k)
theorem x_orr (h : EvX C t2 M δ μ μ' e) : EvX C (tOr2 t1 t2) M δ μ μ' e := fun σ H o Q k => .inr (h σ H o Q k)
theorem c_lenT' (hm : (a, .dT l) ∈ μ) : CallX C rLenT M δ μ μ [.m a] (.d (.int (l.length : Int))) := fun σ H vs o h Q kk => by
  obtain ⟨v, rfl, q⟩ := p1 h
  obtain ⟨_, _, ws, e1, g⟩ := o.mem _ hm
  have q : v = .ref a := q
  refine ⟨a, ws, by rw [q], e1, ?_⟩
  rw [gt_len g]
  exact kk _ H o (Ex.refl _) (.int _)
end
end FD
namespace K09
open PySem L2 FD Evl
theorem any_stg {l : List Stg} {s : Stg} : (l.map stD).any (fun z => PyData.eqv z (stD s)) = decide (s ∈ l) := by
  rw [Bool.eq_iff_iff, List.any_map, List.any_eq_true, decide_eq_true_iff]
  constructor
  · rintro ⟨x, hx, e⟩
    have e : PyData.eqv (rowK (stK x)) (rowK (stK s)) = true := e
    rw [eqv_row] at e
    exact stK_inj (of_decide_eq_true e) ▸ hx
  · intro h
    exact ⟨s, h, by show PyData.eqv (rowK (stK s)) (rowK (stK s)) = true; rw [eqv_row]; exact decide_eq_true rfl⟩
theorem shp_stgs {l : List Stg} (h : ∀ s ∈ l, Nm s.1) : SeqAt.shaped (.list (l.map stD)) = true := (shp_list (n := 1) fun d hd => by
  obtain ⟨s, hs, rfl⟩ := List.mem_map.mp hd
  exact shp_stg 0 (h s hs)).shaped (by decide)
theorem shp_st {s : Stg} (h : Nm s.1) : SeqAt.shaped (stD s) = true := (shp_stg 0 h).shaped (by decide)
section
variable {C : Cfg} {M : List Addr} {δ : List Ent} {μ μ1 μ2 : Mem} {te tf : TE} {e : Ent} {s : Stg} {l : List Stg}
theorem x_inS (h1 : EvX C te M δ μ μ1 (.d (stD s))) (h2 : EvX C tf M δ μ1 μ2 e) (r : Rdd μ2 e (.list (l.map stD))) (hs : Nm s.1) (hl : ∀ s ∈ l, Nm s.1) : EvX C (tOp (rInD C.K) te tf) M δ μ μ2 (.d (.bool (decide (s ∈ l)))) :=
  x_is (x_op h1 h2 (o_inD (.d _) r (shp_st hs) (shp_stgs hl))) (by rw [any_stg])
theorem x_notInS (h1 : EvX C te M δ μ μ1 (.d (stD s))) (h2 : EvX C tf M δ μ1 μ2 e) (r : Rdd μ2 e (.list (l.map stD))) (hs : Nm s.1) (hl : ∀ s ∈ l, Nm s.1) : EvX C (tOp (rNotInD C.K) te tf) M δ μ μ2 (.d (.bool (!decide (s ∈ l)))) :=
  x_is (x_op h1 h2 (o_notInD (.d _) r (shp_st hs) (shp_stgs hl))) (by rw [any_stg])
end
theorem lvT_keys (cs : List Crs) : (lvT cs).map (·.1) = (stages cs).map stK := by
  unfold lvT
  rw [List.map_map]; rfl
theorem lvT_rows (cs : List Crs) : ((lvT cs).map (·.1)).map rowK = (stages cs).map stD := by rw [lvT_keys, List.map_map]; rfl
theorem valG_lv {cs : List Crs} (ok : BokOk cs) {s : Stg} (h : s ∈ stages cs) : valG (lvT cs) (stK s) = some (gD (.list (full cs s))) :=
  valG_at (by rw [lvT_keys]; exact keys_nd (stages_nd ok.nd)) (List.mem_map.mpr ⟨s, h, rfl⟩)
theorem stages_len {cs : List Crs} (ok : BokOk cs) : (stages cs).length ≤ 60 := by
  have h1 := (srt_perm (stages cs)).length_eq
  have h2 := S_len cs
  have := ok.tot
  rw [← h1]; show (S cs).length ≤ 60
  omega
theorem parts_nm {cs : List Crs} (ok : BokOk cs) {s : Stg} (hs : s ∈ stages cs) {q : Step × Nat} (hq : q ∈ exL (crs cs s.1) s.2) {p : Stg} (hp : p ∈ partsOf s.1 q.1) : p ∈ stages cs ∧ Nm p.1 := ⟨parts_mem ok hs hq hp, stg_nm ok (parts_mem ok hs hq hp)⟩
theorem endsL_mem {cs : List Crs} (ok : BokOk cs) {s : Stg} (h : s ∈ endsL cs) : s ∈ stages cs := by
  obtain ⟨c, hc, h⟩ := List.mem_flatMap.mp h
  obtain ⟨e, he, rfl⟩ := List.mem_map.mp h
  exact stages_mem.mpr ⟨c, hc, rfl, (ok.ok c hc).ends e he⟩
theorem endsL_len {cs : List Crs} (ok : BokOk cs) : (endsL cs).length ≤ 160 := by
  have h8 := ok.few
  have : ∀ l : List Crs, (∀ c ∈ l, c.ends.length ≤ 20) → (endsL l).length ≤ l.length * 20 := fun l => by
    induction l with
    | nil => intro _; simp [endsL]
    | cons c l ih =>
      intro h
      have h1 := h c List.mem_cons_self
      have h2 := ih fun c hc => h c (List.mem_cons_of_mem _ hc)
      show (List.flatMap _ (c :: l)).length ≤ _
      rw [List.flatMap_cons, List.length_append, List.length_map, List.length_cons, Nat.succ_mul]
      have h3 : (List.flatMap (fun c => c.ends.map fun e => ((c.nm, e) : Stg)) l).length ≤ l.length * 20 := h2
      omega
  have h := this cs fun c hc => by
    have ck := ok.ok c hc
    have := asc_few ck.asc ck.ends
    have := ck.n2
    omega
  have : cs.length * 20 ≤ 8 * 20 := Nat.mul_le_mul_right _ (by omega)
  omega

end K09
namespace FD
open PySem L2 Evl
section
variable {C : Cfg} {M : List Addr} {δ : List Ent} {μ μ1 μ2 : Mem} {t : TT} {b : Bool} {ta tb : TE} {mo : MO}
theorem n_if (h : EvT C t M δ μ μ1 b) (h1 : b = true → EvN C ta M δ μ1 μ2 mo) (h2 : b = false → EvN C tb M δ μ1 μ2 mo) : EvN C (tIf t ta tb) M δ μ μ2 mo := fun σ H o Q k => h σ H o _ fun H1 o1 x1 => by
  cases b with
  | true =>
    rw [if_pos rfl]
    exact h1 rfl σ H1 o1 Q fun p H2 pM o2 x2 => k p H2 pM o2 (x1.trans x2)
  | false =>
    rw [if_neg Bool.false_ne_true]
    exact h2 rfl σ H1 o1 Q fun p H2 pM o2 x2 => k p H2 pM o2 (x1.trans x2)
end
theorem cutD_from {α : Type} (f : α → PyData) (k : List α) (p : Nat) : cutD (k.map f) (some (p : Int)) none = (k.drop p).map f := by
  unfold cutD
  have e1 : HT.sIx (k.map f).length 0 (some (p : Int)) = min p (k.map f).length := HT.sIx_nat _ _ _
  have e2 : HT.sIx (k.map f).length (k.map f).length none = (k.map f).length := HT.sIx_none _ _
  rw [e1, e2, List.map_drop]
  by_cases h : p ≤ (k.map f).length
  · rw [Nat.min_eq_left h, List.take_of_length_le (by rw [List.length_drop]; omega)]
  · rw [Nat.min_eq_right (by omega), Nat.sub_self, List.take_zero, List.drop_eq_nil_of_le (by omega)]
theorem eqv_nilT (ds : List PyData) : PyData.eqv (.tuple ds) (.tuple []) = ds.isEmpty := by
  cases ds <;> simp [PyData.eqv, PyData.eqvAll]
end FD

namespace K09
open PySem L2 FD Evl
/-! ### the law's own moves -/
def moveD : Option (Step × Nat) → PyData
  | none => .tuple [.str "leave"]
  | some q => .tuple [.str (wh q.1.call), .int (q.2 : Int)]
abbrev Mv := Option (Step × Nat) × List Stg
def mvD (m : Mv) : PyData := .tuple [moveD m.1, tupD m.2]
def movesL (cs : List Crs) : List Stg → List Mv
  | [] => []
  | s :: r => (if s ∈ endsL cs then [(none, r)] else []) ++ (exL (crs cs s.1) s.2).map fun q => (some q, partsOf s.1 q.1 ++ r)
theorem shp_pile (n : Nat) {l : List Stg} (h : ∀ s ∈ l, Nm s.1) : FD.Shp (n + 2) (tupD l) := shp_tuple fun d hd => by
  obtain ⟨s, hs, rfl⟩ := List.mem_map.mp hd
  exact shp_stg n (h s hs)
theorem sh_pile {l : List Stg} (h : ∀ s ∈ l, Nm s.1) : SeqAt.shaped (tupD l) = true := (shp_pile 0 h).shaped (by decide)
theorem ends_nm {cs : List Crs} (ok : BokOk cs) : ∀ s ∈ endsL cs, Nm s.1 := fun s h => stg_nm ok (endsL_mem ok h)
def Rai (es : List Ent) (μ : Mem) (d : PyData) (μ' : Mem) : Prop := ∃ (cs : List Crs) (w : Str → Nat) (ps : List Stg), es = [.d (tupD ps), .g (gDT (pwT w cs))] ∧ μ = [] ∧ μ' = [] ∧ ps.length ≤ 1000 ∧ d = .bool (ps.all fun p => decide (p ∈ keysL w cs))
def Rmv (es : List Ent) (μ : Mem) (d : PyData) (μ' : Mem) : Prop := ∃ (cs : List Crs) (pile : List Stg), es = [.g (gDT (lvT cs)), .d (.list ((endsL cs).map stD)), .d (tupD pile)] ∧ μ = [] ∧ μ' = [] ∧ BokOk cs ∧ (∀ s ∈ pile, s ∈ stages cs) ∧ pile.length ≤ 1000 ∧ d = .list ((movesL cs pile).map mvD)
def Rde (ds : List PyData) (d : PyData) : Prop := ∃ cs : List Crs, ds = [bokD cs] ∧ BokOk cs ∧ d = .list ((deeds cs).map .str)
noncomputable def sumT (w : Str → Nat) (cs : List Crs) (pile : List Stg) : Nat := (pile.map fun s => (CK.g (TT w cs) s).1).sum
def Rsu (es : List Ent) (μ : Mem) (d : PyData) (μ' : Mem) : Prop := ∃ (cs : List Crs) (w : Str → Nat) (pile : List Stg), es = [.g (gDT (lpT w cs)), .d (tupD pile)] ∧ μ = [] ∧ μ' = [] ∧ (∀ s ∈ pile, s ∈ keysL w cs) ∧ pile.length ≤ 1000 ∧ d = .int (sumT w cs pile : Int)
noncomputable def tot (w : Str → Nat) (cs : List Crs) (pile : List Stg) (x : Str) : Nat := (pile.map fun s => cnt w cs s x).sum
noncomputable def sz (w : Str → Nat) (cs : List Crs) (s : Stg) : Nat := CK.sz (cl w cs) (mvs w cs) s
def Rcl (es : List Ent) (μ : Mem) (d : PyData) (μ' : Mem) : Prop := ∃ (cs : List Crs) (w : Str → Nat) (pile : List Stg), es = [.g (gDT (lvT cs)), .d (.list ((deeds cs).map .str)), .g (gDT (pwT w cs)), .d (tupD pile)] ∧ μ = [] ∧ μ' = [] ∧ BokOk cs ∧ (∀ s ∈ pile, s ∈ keysL w cs) ∧ (pile.map (sz w cs)).sum ≤ 1199 ∧ d = .list ((deeds cs).map fun x => .int (tot w cs pile x : Int))
theorem sum_casts : ∀ l : List Nat, (l.map fun n : Nat => (n : Int)).sum = ((l.sum : Nat) : Int)
  | [] => rfl
  | x :: l => by
    have := sum_casts l
    rw [List.map_cons, List.sum_cons, List.sum_cons, this]
    push_cast; rfl
theorem sz_eq (w : Str → Nat) {cs : List Crs} (ok : BokOk cs) {s : Stg} (hs : s ∈ keysL w cs) : sz w cs s = 1 + ((prt w cs s).map (sz w cs)).sum := by
  unfold prt
  have hk := (keysL_mem ok).mp hs
  cases q : cl w cs s with
  | none => exact CK.sz_end q
  | some l => exact CK.sz_step (cl_dag w ok) hk q
theorem sz_pos (w : Str → Nat) (cs : List Crs) (s : Stg) : 1 ≤ sz w cs s := CK.sz_pos s
theorem cnt_eq (w : Str → Nat) {cs : List Crs} (ok : BokOk cs) {s : Stg} (hs : s ∈ keysL w cs) (x : Str) : cnt w cs s x = CK.ind ((cl w cs s).bind (·.deed)) x + tot w cs (prt w cs s) x := by
  have hk := (keysL_mem ok).mp hs
  unfold tot prt
  cases q : cl w cs s with
  | none => exact CK.cnt_end q x
  | some l => exact CK.cnt_step (cl_dag w ok) hk q x
theorem tot_cons (w : Str → Nat) (cs : List Crs) (s : Stg) (r : List Stg) (x : Str) : tot w cs (s :: r) x = cnt w cs s x + tot w cs r x := rfl
theorem tot_app (w : Str → Nat) (cs : List Crs) (a b : List Stg) (x : Str) : tot w cs (a ++ b) x = tot w cs a x + tot w cs b x := by
  unfold tot
  rw [List.map_append, List.sum_append]
theorem exL_nums (c : Crs) (i : Nat) : ((exL c i).map (·.2)).Nodup := by
  have h : (c.steps.zipIdx.map (·.2)).Nodup := by
    rw [List.zipIdx_map_snd]
    exact List.nodup_range'
  exact List.Pairwise.sublist ((List.filter_sublist).map _) h
theorem line_one {c : Crs} {i : Nat} {q q' : Step × Nat} (h : q ∈ exL c i) (h' : q' ∈ exL c i) (e : q.2 = q'.2) : q = q' := by
  have e1 := (exL_mem h).1
  have e2 := (exL_mem h').1
  rw [e, e2] at e1
  exact Prod.ext (Option.some.inj e1).symm e
theorem isn_deal (s : Step) : isNon (dealD s) = s.call := by
  unfold dealD
  cases s.call <;> rfl
theorem idx_of {l : List Str} (nd : l.Nodup) {x : Str} (h : x ∈ l) : ∃ j : Nat, l[j]? = some x ∧ ∀ m : Nat, m < j → l[m]? ≠ some x := by
  obtain ⟨j, hj⟩ := List.getElem?_of_mem h
  refine ⟨j, hj, fun m hm z => ?_⟩
  obtain ⟨l1, g1⟩ := List.getElem?_eq_some_iff.mp z
  obtain ⟨l2, g2⟩ := List.getElem?_eq_some_iff.mp hj
  exact List.pairwise_iff_getElem.mp nd m j l1 l2 hm (g1.trans g2.symm)
theorem set_cnt {l : List Str} (nd : l.Nodup) (c : Str → Nat) {x : Str} {j : Nat} (h : l[j]? = some x) : (l.map fun y => PyData.int (c y : Int)).set j (.int ((c x : Int) + 1)) = l.map fun y => PyData.int ((c y + CK.ind (some x) y : Nat) : Int) := by
  refine List.ext_getElem? fun m => ?_
  by_cases e : j = m
  · subst e
    rw [List.getElem?_set_self (by rw [List.length_map]; exact (List.getElem?_eq_some_iff.mp h).1), List.getElem?_map, h]
    have z : CK.ind (some x) x = 1 := by unfold CK.ind; rw [if_pos rfl]
    show some (PyData.int ((c x : Int) + 1)) = some (PyData.int ((c x + CK.ind (some x) x : Nat) : Int))
    rw [z]; rfl
  · rw [List.getElem?_set_ne e, List.getElem?_map, List.getElem?_map]
    cases q : l[m]? with
    | none => rfl
    | some y =>
      have ne : x ≠ y := fun z => by
        subst z
        obtain ⟨l1, g1⟩ := List.getElem?_eq_some_iff.mp h
        obtain ⟨l2, g2⟩ := List.getElem?_eq_some_iff.mp q
        rcases Nat.lt_or_gt_of_ne e with lt | lt
        · exact List.pairwise_iff_getElem.mp nd j m l1 l2 lt (g1.trans g2.symm)
        · exact List.pairwise_iff_getElem.mp nd m j l2 l1 lt (g2.trans g1.symm)
      have z : CK.ind (some x) y = 0 := by unfold CK.ind; rw [if_neg fun z => ne (Option.some.inj z)]
      show some (PyData.int ((c y : Nat) : Int)) = some (PyData.int ((c y + CK.ind (some x) y : Nat) : Int))
      rw [z]; rfl
section
variable {P : Program} {w : World} {K : PySem.W.Frag} {mg : Str → Option Value} {base : Heap} {Cb : Addr}
abbrev nAi : List Str := ["_law_some", "_law_others", "_law_one"]
theorem scAi : FnScope nAi ["_law_some", "_law_others"] (defScope sAi) := ⟨rfl, rfl, rfl, by decide +kernel, rfl, by decide +kernel, by decide +kernel⟩
theorem ok_ai {f : Addr} {fd : FuncData} (T : Txt K mg Cb) (F : Fun K "_law_all_in" "_law_all_in" sAi f fd) : FnOk P w K mg base CX0 1 f fd ["_law_some", "_law_others"] (spE K 2 Rai) := by
  refine def_E F scAi (by decide) rfl fun cdv A outer s H E hr => ?_
  have nd := scAi.nd
  refine ⟨_, (pss_one (ps_ret (pe_callB (cr_all rfl) (by rfl) T.all (by decide +kernel) (pa_cons (pe_lc (own := [("_law_one", 2)]) (g := (gName 2)) (tt := tYes) rfl nd (pi_tup (pv 0)) (blkOk_by (N := nAi) (sc := defScope sAi) (by decide +kernel)) (fun _ _ _ _ _ => (pg_name (i := 2) nd rfl (Or.inl rfl))) (fun _ _ _ _ _ => pts_nil) (fun _ _ _ _ _ => (pe_cmp (pc_din (hu_of hr) (pv 2) (pv 1)) rfl))) pa_nil)))), ?_⟩
  rintro M G B es μ d μ' ⟨cs, wt, ps, rfl, rfl, rfl, hl, rfl⟩ D fin
  show FD.Run _ _ D M [.d (tupD ps), .g (gDT (pwT wt cs)), .u] []
  refine r_retE (x_is (x_cbP (a_cons (x_lcA (l := ps) (enc := stD) (f := fun s => PyData.bool (decide (s ∈ keysL wt cs))) (i_tup (x_vd rfl)) (by omega) (ts := [2]) (fun st => [.d (tupD ps), .g (gDT (pwT wt cs)), .d (stD st)]) (fun st hst => tg_name) (fun k hk => hk) (fun st hst G' B3 D' => x_is (x_tin (k := stK st) (x_vd rfl) (x_vg rfl) (.g (pwT wt cs))) ?_)) a_nil) (c_allb (bs := ps.map fun p => decide (p ∈ keysL wt cs)) (by rw [List.map_map]; rfl))) (by rw [List.all_map]; rfl)) (fun r hr => hr) fin
  unfold pwT
  rw [isSome_enc]
  unfold CK.has
  by_cases h : st ∈ keysL wt cs
  · rw [val_tab _ h, decide_eq_true h]; rfl
  · rw [val_tabN _ h, decide_eq_false h]; rfl
abbrev nMv : List Str := ["_law_leaving_here", "_law_ends_here", "_law_pile", "_law_found", "_law_step_here"]
theorem scMv : FnScope nMv ["_law_leaving_here", "_law_ends_here", "_law_pile"] (defScope sMv) := ⟨rfl, rfl, rfl, by decide +kernel, rfl, by decide +kernel, by decide +kernel⟩
theorem cutD_1 (s : Stg) (r : List Stg) : cutD ((s :: r).map stD) (some (1 : Int)) none = r.map stD := cutD_from stD (s :: r) 1
theorem ok_mv {f : Addr} {fd : FuncData} (T : Txt K mg Cb) (F : Fun K "_law_moves" "_law_moves" sMv f fd) : FnOk P w K mg base CX0 1 f fd ["_law_leaving_here", "_law_ends_here", "_law_pile"] (spE K 3 Rmv) := by
  refine def_E F scMv (by decide) rfl fun cdv A outer s H E hr => ?_
  have nd := scMv.nd
  refine ⟨_, (pss_cons (ps_if (pt_cmpR (op_eqD hr.units) (pv 2) (pe_tup pa_nil) (nomark _)) (pss_one (ps_ret (pe_lst pa_nil))) pss_nil)
 (pss_cons (ps_set (i := 3) nd rfl (Or.inl rfl) (pe_ifExp (pt_cmpR (op_inD (hu65_of hr)) (pe_ix ix_tup (pv 2) pe_int (fun _ _ => rfl)) (pv 1) (by with_unfolding_all rfl)) (pe_lst (pa_cons (pe_tup (pa_cons (pe_tup (pa_cons pe_str pa_nil)) (pa_cons (pe_slice sl_tupA (pv 2) (po_some pe_int) po_none) pa_nil))) pa_nil)) (pe_lst pa_nil)))
 (pss_one (ps_ret (pe_op op_catL (pv 3) (pe_lc (own := [("_law_step_here", 4)]) (g := (gName 4)) (tt := tYes) rfl nd (pi_list (pe_dget (hu_of hr) (pv 0) (pe_ix ix_tup (pv 2) pe_int (fun _ _ => rfl)) (fun _ _ => rfl))) (blkOk_by (N := nMv) (sc := defScope sMv) (by decide +kernel)) (fun _ _ _ _ _ => (pg_name (i := 4) nd rfl (Or.inl rfl))) (fun _ _ _ _ _ => pts_nil) (fun _ _ _ _ _ => (pe_tup (pa_cons (pe_ix (kix_tup (K := K) rfl) (pv 4) pe_int (fun _ _ => rfl)) (pa_cons (pe_op (kop_catA (K := K) rfl) (pe_ix (kix_tup (K := K) rfl) (pv 4) pe_int (fun _ _ => rfl)) (pe_slice (ksl_tupA (K := K) rfl) (pv 2) (po_some pe_int) po_none)) pa_nil)))))))))), ?_⟩
  rintro M G B es μ d μ' ⟨cs, pile, rfl, rfl, rfl, ok, hp, hl, rfl⟩ D fin
  show FD.Run _ _ D M [.g (gDT (lvT cs)), .d (.list ((endsL cs).map stD)), .d (tupD pile), .u, .u] []
  have hnm : ∀ s ∈ pile, Nm s.1 := fun s hs => stg_nm ok (hp s hs)
  refine q_when (b := (pile.map stD).isEmpty) (t_is (t_test (x_op (x_vd rfl) (x_tup (ds := []) a_nil (by simp)) (o_eqD (.d _) (.d _) (sh_pile hnm) (sh_pile (l := []) fun s h => nomatch h)))) (eqv_nilT _)) (fun hb => ?_) fun hb => ?_
  · cases pile with
    | nil => exact r_retE (x_lst (ds := []) a_nil (by simp)) (fun r hr => hr) fin
    | cons s r => cases hb
  · cases pile with
    | nil => cases hb
    | cons s r =>
      have sm := hp s List.mem_cons_self
      obtain ⟨cm, cn⟩ := crs_mem (stg_crs sm)
      have ls := exL_len (i := s.2) (ok.ok _ cm).few
      have hix : ∀ {C : Cfg} {M : List Addr} {e3 e4 : Ent} {μ : Mem}, EvX C (tOp (rIxT C.K) (tVar 2) (tC (.int 0))) M [.g (gDT (lvT cs)), .d (.list ((endsL cs).map stD)), .d (tupD (s :: r)), e3, e4] μ μ (.d (stD s)) := fun {C M e3 e4 μ} => x_op (x_vd rfl) x_int (o_ixT (d := stD s) (atI_nat (j := 0) rfl))
      have hcut : ∀ {C : Cfg} {M : List Addr} {e3 e4 : Ent} {μ : Mem}, EvX C (tSl (rSlA C.K) (tVar 2) (tPart (tC (.int 1))) tNoPart) M [.g (gDT (lvT cs)), .d (.list ((endsL cs).map stD)), .d (tupD (s :: r)), e3, e4] μ μ (.d (tupD r)) := fun {C M e3 e4 μ} => x_is (x_slT (ds := (s :: r).map stD) (x_vd rfl) (p_some x_int) p_none) (by rw [cutD_1]; rfl)
      refine q_asg (μ' := []) (e := .d (.list ((if s ∈ endsL cs then [((none, r) : Mv)] else []).map mvD))) (x_if (b := decide (s ∈ endsL cs)) (t_test (x_inS hix (x_vd rfl) (.d _) (stg_nm ok sm) (ends_nm ok))) (fun hb => ?_) fun hb => ?_) ?_
      · rw [if_pos (of_decide_eq_true hb)]
        exact x_lst (ds := [mvD (none, r)]) (a_cons (x_tup (ds := [moveD none, tupD r]) (a_cons (x_tup (ds := [.str "leave"]) (a_cons x_str a_nil) (by simp)) (a_cons hcut a_nil)) (by simp)) a_nil) (by simp)
      · rw [if_neg (of_decide_eq_false hb)]
        exact x_lst (ds := []) a_nil (by simp)
      show FD.Run _ _ D M [.g (gDT (lvT cs)), .d (.list ((endsL cs).map stD)), .d (tupD (s :: r)), .d (.list ((if s ∈ endsL cs then [((none, r) : Mv)] else []).map mvD)), .u] []
      have l1 : ((if s ∈ endsL cs then [((none, r) : Mv)] else []).map mvD).length ≤ 1 := by split <;> simp
      refine r_retE (x_is (x_op (x_vd rfl) (x_lcA (l := exL (crs cs s.1) s.2) (enc := lrow s.1) (f := fun q => mvD (some q, partsOf s.1 q.1 ++ r)) (i_list (x_tgetD (k := stK s) (x_vg rfl) hix (.g (lvT cs)) (valG_lv ok sm))) (by omega) (ts := [4]) (fun q => [.g (gDT (lvT cs)), .d (.list ((endsL cs).map stD)), .d (tupD (s :: r)), .d (.list ((if s ∈ endsL cs then [((none, r) : Mv)] else []).map mvD)), .d (lrow s.1 q)]) (fun q hq => tg_name) (fun k hk => hk) (fun q hq G' B3 D' => ?_)) (o_catL ?_)) ?_) (fun r hr => hr) fin
      · have pl := parts_len s.1 q.1
        refine x_tup (ds := [moveD (some q), tupD (partsOf s.1 q.1 ++ r)]) (a_cons (x_op (x_vd rfl) x_int (o_ixT (d := moveD (some q)) rfl)) (a_cons (x_is (x_op (x_op (x_vd rfl) x_int (o_ixT (d := tupD (partsOf s.1 q.1)) rfl)) hcut (o_catT ?_)) ?_) a_nil)) (by simp)
        · rw [List.length_map, List.length_map]
          rw [List.length_cons] at hl
          omega
        · rw [← List.map_append]; rfl
      · rw [List.length_map] at l1 ⊢
        rw [List.length_map]; omega
      · unfold movesL
        rw [List.map_append, List.map_map]; rfl
abbrev nDe : List Str := ["_law_courses_here", "_law_found", "_law_name", "_law_stages", "_law_ends_here", "_law_steps", "_law_step_here"]
theorem scDe : FnScope nDe ["_law_courses_here"] (defScope sDe) := ⟨rfl, rfl, rfl, by decide +kernel, rfl, by decide +kernel, by decide +kernel⟩
theorem ok_de {f : Addr} {fd : FuncData} (T : Txt K mg Cb) (F : Fun K "_law_deeds" "_law_deeds" sDe f fd) : FnOk P w K mg base CX0 1 f fd ["_law_courses_here"] (spR K 1 Rde) := by
  refine def_R F scDe (by decide) fun cdv A outer s H E hr => ?_
  have nd := scDe.nd
  refine ⟨_, (pss_cons (ps_set (i := 1) nd rfl (Or.inl rfl) (pe_lst pa_nil))
 (pss_cons (ps_for PassesOwn.never rfl (pi_tup (pv 0)) (pg_tup rfl (pgs_cons (pg_name (i := 2) nd rfl (Or.inl rfl)) (pgs_cons (pg_name (i := 3) nd rfl (Or.inl rfl)) (pgs_cons (pg_name (i := 4) nd rfl (Or.inl rfl)) (pgs_cons (pg_name (i := 5) nd rfl (Or.inl rfl)) pgs_nil))))) (pss_one (ps_set (i := 1) nd rfl (Or.inl rfl) (pe_op op_catL (pv 1) (pe_lc (own := [("_law_step_here", 6)]) (g := (gName 6)) rfl nd (pi_tup (pv 5)) (blkOk_by (N := nDe) (sc := defScope sDe) (by decide +kernel)) (fun _ _ _ _ _ => (pg_name (i := 6) nd rfl (Or.inl rfl))) (fun _ _ _ _ _ => (pts_one (pt_cmpR (kop_eqD (K := K) rfl hr.units) (pe_ix (kix_tup (K := K) rfl) (pv 6) pe_int (fun _ _ => rfl)) pe_str (nomark _)))) (fun _ _ _ _ _ => (pe_ix (kix_tup (K := K) rfl) (pv 6) pe_int (fun _ _ => rfl))))))))
 (pss_one (ps_ret (pe_ssetL rfl (by rfl) T.sorted (by rfl) T.set (pv 1)))))), ?_⟩
  rintro M G B ds d _ ⟨cs, rfl, ok, rfl⟩ D fin
  show FD.Run _ _ D M [.d (bokD cs), .u, .u, .u, .u, .u, .u] []
  have dl := deedsOf_len ok
  have few := ok.few
  refine q_asg (e := .d (.list [])) (x_lst (ds := []) a_nil (by simp)) ?_
  refine q_forA (l := cs) (enc := crsD) (i_tup (x_vd rfl)) (fun i δ μ => ∃ e2 e3 e4 e5 e6 : Ent, δ = [.d (bokD cs), .d (.list ((deedsOf (cs.take i)).map .str)), e2, e3, e4, e5, e6] ∧ μ = []) ⟨_, _, _, _, _, rfl, rfl⟩ ?_ ?_
  · rintro B' xB i c δ1 μ1 hc ⟨e2, e3, e4, e5, e6, rfl, rfl⟩
    have cm := List.mem_of_getElem? hc
    have cf := (ok.ok c cm).few
    refine ⟨_, _, tg_tup4, ?_⟩
    show FD.Run _ _ _ M [.d (bokD cs), .d (.list ((deedsOf (cs.take i)).map .str)), .d (.str c.nm), .d (.int (c.n : Int)), .d (endsD c.ends), .d (stepsD c.steps), e6] []
    have e1 : deedsOf (cs.take (i + 1)) = deedsOf (cs.take i) ++ (c.steps.filter fun s => !s.call).map (·.nm) := by
      unfold deedsOf
      rw [List.take_add_one, hc, List.flatMap_append]
      simp
    have l2 : (deedsOf (cs.take i)).length ≤ 512 := by
      have : (deedsOf (cs.take i)).length ≤ (deedsOf cs).length := by
        conv => rhs; rw [← List.take_append_drop i cs]
        unfold deedsOf
        rw [List.flatMap_append, List.length_append]; omega
      omega
    refine r_asg (e := .d (.list ((deedsOf (cs.take (i + 1))).map .str))) (x_is (x_op (x_vd rfl) (x_lcF (l := c.steps) (enc := stepD) (p := fun s => !s.call) (f := fun s => .str s.nm) (i_tup (x_vd rfl)) (by omega) (ts := [6]) (fun st => [.d (bokD cs), .d (.list ((deedsOf (cs.take i)).map .str)), .d (.str c.nm), .d (.int (c.n : Int)), .d (endsD c.ends), .d (stepsD c.steps), .d (stepD st)]) (fun st hst => tg_name) (fun k hk => hk) (fun st hst G2 B2 D2 => ?_) (fun st hst hb G2 B2 D2 => ?_)) (o_catL ?_)) ?_) ?_
    · rw [stepD_eq]
      exact t_is (t_test (x_op (x_op (x_vd rfl) x_int (o_ixT (d := .str (wh st.call)) rfl)) x_str (o_eqD (.d _) (.d _) (shp_wh _) (shp_wh false)))) (by rw [eqv_str]; cases st.call <;> decide)
    · rw [stepD_eq]
      exact x_op (x_vd rfl) x_int (o_ixT (d := .str st.nm) rfl)
    · have := List.length_filter_le (fun s : Step => !s.call) c.steps
      rw [List.length_map, List.length_map]; omega
    · rw [e1, List.map_append, List.map_map]; rfl
    · exact fun σ H o => ⟨_, _, ⟨_, _, _, _, _, rfl, rfl⟩, o⟩
  · rintro δ1 μ1 ⟨e2, e3, e4, e5, e6, rfl, rfl⟩
    rw [List.take_length]
    exact r_retP (x_ssetL (x_vd rfl) (.d _) (by omega)) fin
abbrev nSu : List Str := ["_law_table", "_law_pile", "_law_stage"]
theorem scSu : FnScope nSu ["_law_table", "_law_pile"] (defScope sSu) := ⟨rfl, rfl, rfl, by decide +kernel, rfl, by decide +kernel, by decide +kernel⟩
theorem ok_su {f : Addr} {fd : FuncData} (T : Txt K mg Cb) (F : Fun K "_law_sum" "_law_sum" sSu f fd) : FnOk P w K mg base CX0 1 f fd ["_law_table", "_law_pile"] (spE K 2 Rsu) := by
  refine def_E F scSu (by decide) rfl fun cdv A outer s H E hr => ?_
  have nd := scSu.nd
  refine ⟨_, (pss_one (ps_ret (pe_callB (cr_sum rfl) (by rfl) T.sum (by decide +kernel) (pa_cons (pe_lc (own := [("_law_stage", 2)]) (g := (gName 2)) (tt := tYes) rfl nd (pi_tup (pv 1)) (blkOk_by (N := nSu) (sc := defScope sSu) (by decide +kernel)) (fun _ _ _ _ _ => (pg_name (i := 2) nd rfl (Or.inl rfl))) (fun _ _ _ _ _ => pts_nil) (fun _ _ _ _ _ => (pe_dget (hu_of hr) (pv 0) (pv 2) (fun _ _ => rfl)))) pa_nil)))), ?_⟩
  rintro M G B es μ d μ' ⟨cs, wt, pile, rfl, rfl, rfl, hk, hl, rfl⟩ D fin
  show FD.Run _ _ D M [.g (gDT (lpT wt cs)), .d (tupD pile), .u] []
  refine r_retE (x_is (x_cbP (a_cons (x_is (e1 := .d (.list ((pile.map fun s => (((CK.g (TT wt cs) s).1 : Nat) : Int)).map .int))) (x_lcA (l := pile) (enc := stD) (f := fun s => PyData.int ((CK.g (TT wt cs) s).1 : Int)) (i_tup (x_vd rfl)) (by omega) (ts := [2]) (fun st => [.g (gDT (lpT wt cs)), .d (tupD pile), .d (stD st)]) (fun st hst => tg_name) (fun k hk => hk) (fun st hst G' B3 D' => x_tgetD (k := stK st) (x_vg rfl) (x_vd rfl) (.g (lpT wt cs)) (valG_tab _ _ (hk st hst)))) (by rw [List.map_map]; rfl)) a_nil) (c_sum (.d _))) ?_) (fun r hr => hr) fin
  have := sum_casts (pile.map fun s => (CK.g (TT wt cs) s).1)
  rw [List.map_map] at this
  exact congrArg (fun i : Int => Ent.d (.int i)) this
abbrev nCl : List Str := ["_law_leaving_here", "_law_deeds_here", "_law_chosen", "_law_pile", "_law_count", "_law_turn", "_law_top", "_law_rest", "_law_move", "_law_parts", "_law_deed", "_law_at"]
theorem scCl : FnScope nCl ["_law_leaving_here", "_law_deeds_here", "_law_chosen", "_law_pile"] (defScope sCl) := ⟨rfl, rfl, rfl, by decide +kernel, rfl, by decide +kernel, by decide +kernel⟩
theorem ok_cl {f : Addr} {fd : FuncData} (T : Txt K mg Cb) (F : Fun K "_law_closing" "_law_closing" sCl f fd) : FnOk P w K mg base CX0 1 f fd ["_law_leaving_here", "_law_deeds_here", "_law_chosen", "_law_pile"] (spE K 4 Rcl) := by
  refine def_E F scCl (by decide) rfl fun cdv A outer s H E hr => ?_
  have nd := scCl.nd
  refine ⟨_, (pss_cons (ps_set (i := 4) nd rfl (Or.inl rfl) (pe_op op_rep (pe_lst (pa_cons pe_int pa_nil)) (pe_callB call_len_seq (by rfl) T.len PySem.boot_len (pa_cons (pv 1) pa_nil))))
 (pss_cons (ps_for PassesOwn.never rfl (pi_range1 (by rfl) T.range (pa_cons pe_int pa_nil)) (pg_name (i := 5) nd rfl (Or.inl rfl)) (pss_cons (ps_if (pt_cmpR (op_eqD hr.units) (pv 3) (pe_tup pa_nil) (nomark _)) (pss_one (ps_ret (pv 4))) pss_nil)
 (pss_cons (ps_par (i := 6) (j := 7) (by rfl) nd rfl rfl (by decide) rfl rfl (pa_cons (pe_ix ix_tup (pv 3) pe_int (fun _ _ => rfl)) (pa_cons (pe_slice sl_tupA (pv 3) (po_some pe_int) po_none) pa_nil)) (by rfl))
 (pss_cons (ps_set (i := 3) nd rfl (Or.inl rfl) (pv 7))
 (pss_one (ps_for PassesOwn.never rfl (pi_list (pe_dget (hu_of hr) (pv 0) (pv 6) (fun _ _ => rfl))) (pg_tup rfl (pgs_cons (pg_name (i := 8) nd rfl (Or.inl rfl)) (pgs_cons (pg_name (i := 9) nd rfl (Or.inl rfl)) (pgs_cons (pg_name (i := 10) nd rfl (Or.inl rfl)) pgs_nil)))) (pss_one (ps_if (pt_cmpR (op_eqD hr.units) (pe_dget (hu_of hr) (pv 2) (pv 6) (fun _ _ => rfl)) (pe_tup (pa_cons pe_str (pa_cons (pe_ix ix_tup (pv 8) pe_int (fun _ _ => rfl)) pa_nil))) (nomark _)) (pss_cons (ps_set (i := 3) nd rfl (Or.inl rfl) (pe_op op_catA (pv 9) (pv 7)))
 (pss_one (ps_if (pt_cmpR op_notN (pv 10) pe_non (nomark _)) (pss_cons (ps_set (i := 11) nd rfl (Or.inl rfl) (pe_bm PySem.F.plainAttrs_list PySem.F.slot_list_index PySem.F.type_list_index mt_index (pv 1) (pa_cons (pv 10) pa_nil)))
 (pss_one (ps_asg (pe_op op_add (pe_ix ix_list (pv 4) (pv 11) (fun _ _ => rfl)) pe_int) (pg_sub (pv 4) (pv 11) set_list)))) pss_nil))) pss_nil))))))))
 (pss_one (ps_ret pe_non)))), ?_⟩
  rintro M G B es μ d μ' ⟨cs, wt, pile, rfl, rfl, rfl, ok, hk, hz, rfl⟩ D fin
  have dl := deeds_len ok
  have ndd := deeds_nd cs
  show FD.Run _ _ D M [.g (gDT (lvT cs)), .d (.list ((deeds cs).map .str)), .g (gDT (pwT wt cs)), .d (tupD pile), .u, .u, .u, .u, .u, .u, .u, .u] []
  refine q_rep (n := (deeds cs).length) (fun p pM => x_is (x_cbP (a_cons (x_vd rfl) a_nil) (c_lenL (.d _))) (by rw [List.length_map])) (by omega) fun p q pM qM => ?_
  have e0 : List.replicate (deeds cs).length (PyData.int 0) = (deeds cs).map fun _ => .int ((0 : Nat) : Int) := by
    rw [List.map_const']; rfl
  rw [e0]
  show FD.Run _ _ D (q :: p :: M) [.g (gDT (lvT cs)), .d (.list ((deeds cs).map .str)), .g (gDT (pwT wt cs)), .d (tupD pile), .m q, .u, .u, .u, .u, .u, .u, .u] [(q, .lst ((deeds cs).map fun _ => .int ((0 : Nat) : Int))), (p, .lst [.int 0])]
  refine q_for (i_rng1 (a_cons x_int a_nil) (by decide) (by decide)) (fun t δ μ => ∃ (pl : List Stg) (c : Str → Nat) (e5 e6 e7 e8 e9 e10 e11 : Ent), δ = [.g (gDT (lvT cs)), .d (.list ((deeds cs).map .str)), .g (gDT (pwT wt cs)), .d (tupD pl), .m q, e5, e6, e7, e8, e9, e10, e11] ∧ μ = [(q, .lst ((deeds cs).map fun x => .int (c x : Int))), (p, .lst [.int 0])] ∧
    (∀ s ∈ pl, s ∈ keysL wt cs) ∧ t + (pl.map (sz wt cs)).sum ≤ (pile.map (sz wt cs)).sum ∧ ∀ x, c x + tot wt cs pl x = tot wt cs pile x) ⟨pile, fun _ => 0, _, _, _, _, _, _, _, rfl, rfl, hk, by omega, fun x => Nat.zero_add _⟩ ?_ ?_
  · rintro B' xB t d1 δ1 μ1 hd ⟨pl, c, e5, e6, e7, e8, e9, e10, e11, rfl, rfl, hpl, hsz, hc⟩
    refine ⟨_, _, tg_name, ?_⟩
    have hnm : ∀ s ∈ pl, Nm s.1 := fun s hs => stg_nm ok (keysL_st (hpl s hs))
    show FD.Run _ _ _ (q :: p :: M) [.g (gDT (lvT cs)), .d (.list ((deeds cs).map .str)), .g (gDT (pwT wt cs)), .d (tupD pl), .m q, .d d1, e6, e7, e8, e9, e10, e11] [(q, .lst ((deeds cs).map fun x => .int (c x : Int))), (p, .lst [.int 0])]
    refine q_when (b := (pl.map stD).isEmpty) (t_is (t_test (x_op (x_vd rfl) (x_tup (ds := []) a_nil (by simp)) (o_eqD (.d _) (.d _) (sh_pile hnm) (sh_pile (l := []) fun s h => nomatch h)))) (eqv_nilT _)) (fun hb => ?_) fun hb => ?_
    · cases pl with
      | cons s r => cases hb
      | nil =>
        have ec : ∀ x, c x = tot wt cs pile x := fun x => by
          have := hc x
          have z : tot wt cs [] x = 0 := rfl
          omega
        have : ((deeds cs).map fun x => PyData.int (c x : Int)) = (deeds cs).map fun x => .int (tot wt cs pile x : Int) := List.map_congr_left fun x _ => by rw [ec x]
        rw [this]
        exact r_retEL (a := q) (ds := (deeds cs).map fun x => .int (tot wt cs pile x : Int)) (μ1 := [(q, .lst ((deeds cs).map fun x => .int (tot wt cs pile x : Int))), (p, .lst [.int 0])]) (x_vm rfl) (by simp) (fun z => qM (List.mem_cons_of_mem _ z)) (fun r hr => absurd hr (by simp)) fin
    · cases pl with
      | nil => cases hb
      | cons s r =>
        have sk := hpl s List.mem_cons_self
        have sm := keysL_st sk
        obtain ⟨cm, cn⟩ := crs_mem (stg_crs sm)
        have pll := prt_len wt ok sk
        have zs := sz_eq wt ok sk
        have cse := fun x => cnt_eq wt ok sk x
        have hr1 : (r.map (sz wt cs)).sum ≤ 1199 := by
          have e : ((s :: r).map (sz wt cs)).sum = sz wt cs s + (r.map (sz wt cs)).sum := rfl
          omega
        have rl : r.length ≤ 1199 := by
          have : ∀ l : List Stg, l.length ≤ (l.map (sz wt cs)).sum := fun l => by
            induction l with
            | nil => exact Nat.zero_le _
            | cons a l ih =>
              have := sz_pos wt cs a
              rw [List.map_cons, List.sum_cons, List.length_cons]; omega
          have := this r
          omega
        refine q_par (a_cons (x_op (x_vd rfl) x_int (o_ixT (d := stD s) (atI_nat (j := 0) rfl))) (a_cons (x_is (e1 := .d (tupD r)) (x_slT (ds := (s :: r).map stD) (x_vd rfl) (p_some x_int) p_none) (by rw [cutD_1]; rfl)) a_nil)) ?_
        refine q_asg (e := .d (tupD r)) (x_vd rfl) ?_
        show FD.Run _ _ _ (q :: p :: M) [.g (gDT (lvT cs)), .d (.list ((deeds cs).map .str)), .g (gDT (pwT wt cs)), .d (tupD r), .m q, .d d1, .d (stD s), .d (tupD r), e8, e9, e10, e11] [(q, .lst ((deeds cs).map fun x => .int (c x : Int))), (p, .lst [.int 0])]
        obtain ⟨odd, hodd⟩ : ∃ odd : Option Str, odd = (cl wt cs s).bind (·.deed) := ⟨_, rfl⟩
        refine r_forA (l := exL (crs cs s.1) s.2) (enc := lrow s.1) (i_list (x_tgetD (k := stK s) (x_vg rfl) (x_vd rfl) (.g (lvT cs)) (valG_lv ok sm)))
          (fun j δ μ => ∃ (hit : Bool) (e8 e9 e10 e11 : Ent), δ = [.g (gDT (lvT cs)), .d (.list ((deeds cs).map .str)), .g (gDT (pwT wt cs)), .d (tupD (if hit = true then prt wt cs s ++ r else r)), .m q, .d d1, .d (stD s), .d (tupD r), e8, e9, e10, e11] ∧ μ = [(q, .lst ((deeds cs).map fun x => .int ((if hit = true then c x + CK.ind odd x else c x : Nat) : Int))), (p, .lst [.int 0])] ∧
            (hit = true ↔ ∃ q' ∈ (exL (crs cs s.1) s.2).take j, wy wt cs s = some q'.2)) ⟨false, _, _, _, _, rfl, rfl, ⟨fun z => (nomatch z), fun ⟨q', h, _⟩ => absurd h (by simp)⟩⟩ ?_ ?_
        · rintro B2 xB2 j ln δ2 μ2 hj ⟨hit, e8, e9, e10, e11, rfl, rfl, hh⟩
          have lm := List.mem_of_getElem? hj
          have tk1 : (exL (crs cs s.1) s.2).take (j + 1) = (exL (crs cs s.1) s.2).take j ++ [ln] := by rw [List.take_add_one, hj]; rfl
          refine ⟨_, _, tg_tup3, ?_⟩
          show FD.Run _ _ _ (q :: p :: M) [.g (gDT (lvT cs)), .d (.list ((deeds cs).map .str)), .g (gDT (pwT wt cs)), .d (tupD (if hit = true then prt wt cs s ++ r else r)), .m q, .d d1, .d (stD s), .d (tupD r), .d (moveD (some ln)), .d (tupD (partsOf s.1 ln.1)), .d (dealD ln.1), e11] [(q, .lst ((deeds cs).map fun x => .int ((if hit = true then c x + CK.ind odd x else c x : Nat) : Int))), (p, .lst [.int 0])]
          refine r_if (b := decide (wy wt cs s = some ln.2)) (t_is (t_test (x_op (x_tgetD (k := stK s) (l := pwT wt cs) (x_vg rfl) (x_vd rfl) (.g _) (valG_tab wayD _ sk)) (x_tup (ds := [.str "step", .int (ln.2 : Int)]) (a_cons x_str (a_cons (x_op (x_vd rfl) x_int (o_ixT (d := .int (ln.2 : Int)) rfl)) a_nil)) (by simp)) (o_eqD (.d _) (.d _) (shp_way _) (shp_way (some ln.2))))) (eqv_way _ (some ln.2))) (fun hb => ?_) fun hb => ?_
          · have hb := of_decide_eq_true hb
            have hl : cl wt cs s = some (lineOf s.1 ln) := by
              rcases way_of wt ok sk with ⟨_, h2, _⟩ | ⟨_, q', hq', h2, h3⟩
              · rw [hb] at h2; cases h2
              · rw [hb] at h2
                rw [h3, line_one lm hq' (Option.some.inj h2)]
            have ep : prt wt cs s = partsOf s.1 ln.1 := by unfold prt; rw [hl]; rfl
            have eo : odd = deedOf ln.1 := by rw [hodd, hl]; rfl
            have nh : hit = false := by
              cases hit with
              | false => rfl
              | true =>
                obtain ⟨q', hq', e⟩ := hh.mp rfl
                rw [hb] at e
                have e := Option.some.inj e
                have := line_one lm (List.mem_of_mem_take hq') e
                subst this
                obtain ⟨m, hm⟩ := List.getElem?_of_mem hq'
                have ml := (List.getElem?_eq_some_iff.mp hm).1
                rw [List.length_take] at ml
                rw [List.getElem?_take, if_pos (by omega)] at hm
                have n1 : ((exL (crs cs s.1) s.2).map (·.2))[m]? = some ln.2 := by rw [List.getElem?_map, hm]; rfl
                have n2 : ((exL (crs cs s.1) s.2).map (·.2))[j]? = some ln.2 := by rw [List.getElem?_map, hj]; rfl
                obtain ⟨l1, g1⟩ := List.getElem?_eq_some_iff.mp n1
                obtain ⟨l2, g2⟩ := List.getElem?_eq_some_iff.mp n2
                exact absurd (g1.trans g2.symm) (List.pairwise_iff_getElem.mp (exL_nums _ _) m j l1 l2 (by omega))
            subst nh
            have yes : true = true ↔ ∃ q' ∈ (exL (crs cs s.1) s.2).take (j + 1), wy wt cs s = some q'.2 := ⟨fun _ => ⟨ln, by rw [tk1]; simp, hb⟩, fun _ => rfl⟩
            refine q_asg (e := .d (tupD (prt wt cs s ++ r))) (x_is (x_op (x_vd rfl) (x_vd rfl) (o_catT ?_)) ?_) ?_
            · rw [← ep, List.length_map, List.length_map]; omega
            · rw [ep, ← List.map_append]; rfl
            show FD.Run _ _ _ (q :: p :: M) [.g (gDT (lvT cs)), .d (.list ((deeds cs).map .str)), .g (gDT (pwT wt cs)), .d (tupD (prt wt cs s ++ r)), .m q, .d d1, .d (stD s), .d (tupD r), .d (moveD (some ln)), .d (tupD (partsOf s.1 ln.1)), .d (dealD ln.1), e11] [(q, .lst ((deeds cs).map fun x => .int (c x : Int))), (p, .lst [.int 0])]
            refine r_if (b := !ln.1.call) (t_is (t_test (x_op (x_vd rfl) x_non o_notN)) (by rw [isn_deal])) (fun hd => ?_) fun hd => ?_
            · have hcl : ln.1.call = false := by simpa using hd
              have edl : dealD ln.1 = .str ln.1.nm := by unfold dealD; rw [hcl]; rfl
              have eo2 : odd = some ln.1.nm := by rw [eo]; unfold deedOf; rw [hcl]; rfl
              have nmD : ln.1.nm ∈ deeds cs := deeds_mem cm (List.mem_of_getElem? (exL_mem lm).1) hcl
              obtain ⟨ix, hix, hno⟩ := idx_of ndd nmD
              have ixl := (List.getElem?_eq_some_iff.mp hix).1
              rw [edl]
              refine q_asg (e := .d (.int (ix : Int))) (x_lindex (x_vd rfl) (x_vd rfl) hix hno) ?_
              refine r_setL (j := 0) (n := ix) (x_op (x_op (x_vm rfl) (x_vd rfl) (o_ixL (.m (j := 0) rfl) (atI_nat (by rw [List.getElem?_map, hix]; rfl)))) x_int o_I0) (x_vm rfl) (x_vd rfl) rfl (by unfold ixN; rw [List.length_map, if_pos (by omega), if_pos (by omega), Int.toNat_natCast]) ?_
              refine fun σ H o => ⟨_, _, ⟨true, .d (moveD (some ln)), .d (tupD (partsOf s.1 ln.1)), .d (.str ln.1.nm), .d (.int (ix : Int)), rfl, ?_, yes⟩, o⟩
              show [(q, MO.lst (((deeds cs).map fun x => PyData.int (c x : Int)).set ix (.int ((c ln.1.nm : Int) + 1)))), (p, MO.lst [PyData.int 0])] = _
              rw [set_cnt ndd c hix, eo2]; rfl
            · have hcl : ln.1.call = true := by simpa using hd
              have eo2 : odd = none := by rw [eo]; unfold deedOf; rw [hcl]; rfl
              refine r_next fun σ H o => ⟨_, _, ⟨true, .d (moveD (some ln)), .d (tupD (partsOf s.1 ln.1)), .d (dealD ln.1), e11, rfl, ?_, yes⟩, o⟩
              rw [eo2]; rfl
          · have hb := of_decide_eq_false hb
            refine r_next fun σ H o => ⟨_, _, ⟨hit, _, _, _, _, rfl, rfl, ?_⟩, o⟩
            rw [hh, tk1]
            constructor
            · rintro ⟨q', h, e⟩
              exact ⟨q', by simp [h], e⟩
            · rintro ⟨q', h, e⟩
              rcases List.mem_append.mp h with h | h
              · exact ⟨q', h, e⟩
              · rw [List.mem_singleton.mp h] at e
                exact absurd e hb
        · rintro δ2 μ2 ⟨hit, e8, e9, e10, e11, rfl, rfl, hh⟩
          rw [List.take_length] at hh
          have both : (if hit = true then prt wt cs s ++ r else r) = prt wt cs s ++ r ∧ ∀ x, (if hit = true then c x + CK.ind odd x else c x) = c x + CK.ind odd x := by
            cases hit with
            | true => exact ⟨rfl, fun x => rfl⟩
            | false =>
              rcases way_of wt ok sk with ⟨_, _, h3⟩ | ⟨_, q', hq', h2, h3⟩
              · have e1 : prt wt cs s = [] := by unfold prt; rw [h3]
                have e2 : odd = none := by rw [hodd, h3]; rfl
                exact ⟨by rw [e1]; rfl, fun x => by rw [e2]; rfl⟩
              · exact absurd (hh.mpr ⟨q', hq', h2⟩) (by simp)
          rw [both.1]
          refine fun σ H o => ⟨_, _, ⟨prt wt cs s ++ r, fun x => c x + CK.ind odd x, .d d1, .d (stD s), .d (tupD r), e8, e9, e10, e11, rfl, ?_, fun x hx => ?_, ?_, fun x => ?_⟩, o⟩
          · rw [List.map_congr_left fun x _ => by rw [both.2 x]]
          · rcases List.mem_append.mp hx with hx | hx
            · exact (prt_ok wt ok s sk x hx).1
            · exact hpl x (List.mem_cons_of_mem _ hx)
          · have e : ((s :: r).map (sz wt cs)).sum = sz wt cs s + (r.map (sz wt cs)).sum := rfl
            rw [List.map_append, List.sum_append]
            omega
          · have := hc x
            rw [tot_cons, cse x, ← hodd] at this
            show (c x + CK.ind odd x) + tot wt cs (prt wt cs s ++ r) x = tot wt cs pile x
            rw [tot_app]
            omega
  · rintro δ1 μ1 ⟨pl, c, e5, e6, e7, e8, e9, e10, e11, rfl, rfl, hpl, hsz, hc⟩
    rw [rngD_length] at hsz
    have : (1200 : Int).toNat = 1200 := rfl
    omega
end
end K09
namespace K09
open PySem L2 FD Evl
/-! ### how many turns a closing takes -/
theorem cl_spine (w : Str → Nat) {cs : List Crs} (ok : BokOk cs) (hn : ∀ c ∈ cs, c.n ≤ 3) (hc : cs.length ≤ 3) : CK.Spine (cl w cs) (fun s => CK.has (TT w cs) s = true) (mvs w cs) (fun s : Stg => s.1) (fun s : Stg => decide (s.2 = 0)) (S cs) where
  mem := fun s hs => (tt_right w ok).keys s hs
  two := fun s hs => by
    have sS : s ∈ S cs := (tt_right w ok).keys s hs
    obtain ⟨c, cm, cn, lt⟩ := stages_mem.mp (S_mem.mp sS)
    have nS : (S cs).Nodup := bk_nd ok
    have nd : (s :: (S cs).filter fun x : Stg => decide (x.1 = s.1) && decide (mvs w cs x < mvs w cs s)).Nodup := List.nodup_cons.mpr ⟨fun z => by
      have := (List.mem_filter.mp z).2
      simp at this, nS.filter _⟩
    have := CK.nd_len nd (m := (List.range 3).map fun i => (s.1, i)) (fun x hx => by
      have e : x.1 = s.1 ∧ x ∈ S cs := by
        rcases List.mem_cons.mp hx with e | hx
        · exact ⟨by rw [e], by rw [e]; exact sS⟩
        · obtain ⟨h1, h2⟩ := List.mem_filter.mp hx
          simp only [Bool.and_eq_true, decide_eq_true_eq] at h2
          exact ⟨h2.1, h1⟩
      obtain ⟨c', cm', cn', lt'⟩ := stages_mem.mp (S_mem.mp e.2)
      have := hn c' cm'
      exact List.mem_map.mpr ⟨x.2, List.mem_range.mpr (by omega), Prod.ext e.1.symm rfl⟩)
    rw [List.length_cons, List.length_map, List.length_range] at this
    omega
  st := by
    have nS : (S cs).Nodup := bk_nd ok
    have := CK.nd_len (nS.filter fun s : Stg => decide (s.2 = 0)) (m := cs.map fun c => ((c.nm, 0) : Stg)) (fun x hx => by
      obtain ⟨h1, h2⟩ := List.mem_filter.mp hx
      obtain ⟨c, cm, cn, lt⟩ := stages_mem.mp (S_mem.mp h1)
      exact List.mem_map.mpr ⟨c, cm, Prod.ext cn (of_decide_eq_true h2).symm⟩)
    rw [List.length_map] at this
    omega
  ln := fun s hs l hl => by
    rcases way_of w ok ((keysL_mem ok).mpr hs) with ⟨_, _, h3⟩ | ⟨_, q, _, _, h3⟩
    · rw [h3] at hl; cases hl
    · rw [h3] at hl
      cases hl
      show (∃ b, partsOf s.1 q.1 = [b] ∧ _) ∨ ∃ t b, partsOf s.1 q.1 = [t, b] ∧ _ ∧ _
      unfold partsOf
      by_cases hcl : q.1.call = true
      · rw [if_pos hcl]; exact .inr ⟨_, _, rfl, rfl, rfl⟩
      · rw [if_neg hcl]; exact .inl ⟨_, rfl, rfl⟩
theorem sz_45 (w : Str → Nat) {cs : List Crs} (ok : BokOk cs) (hn : ∀ c ∈ cs, c.n ≤ 3) (hc : cs.length ≤ 3) {s : Stg} (hs : s ∈ keysL w cs) : sz w cs s ≤ 45 := CK.sz_45 (cl_spine w ok hn hc) (cl_dag w ok) ((keysL_mem ok).mp hs)
theorem sz_pile (w : Str → Nat) {cs : List Crs} (ok : BokOk cs) (hn : ∀ c ∈ cs, c.n ≤ 3) (hc : cs.length ≤ 3) {pile : List Stg} (hp : ∀ s ∈ pile, s ∈ keysL w cs) (hl : pile.length ≤ 13) : (pile.map (sz w cs)).sum ≤ 1199 := by
  have := sum_le_c (f := sz w cs) (c := 45) fun s hs => sz_45 w ok hn hc (hp s hs)
  have : pile.length * 45 ≤ 13 * 45 := Nat.mul_le_mul_right _ hl
  omega
/-! ### prices -/
theorem lines_deeds {cs : List Crs} : ∀ s ∈ (bk cs).S, ∀ l ∈ (bk cs).ln s, ∀ d, l.deed = some d → d ∈ deeds cs := fun s hs l hl d hd => by
  obtain ⟨q, hq, rfl⟩ := List.mem_map.mp hl
  have cm := (crs_mem (stg_crs (S_mem.mp hs))).1
  have hd : deedOf q.1 = some d := hd
  unfold deedOf at hd
  by_cases hc : q.1.call = true
  · rw [if_pos hc] at hd; cases hd
  · rw [if_neg hc] at hd
    rw [← Option.some.inj hd]
    exact deeds_mem cm (List.mem_of_getElem? (exL_mem hq).1) (by simpa using hc)
def priceL (cs : List Crs) (w : Str → Nat) (c : Str → Nat) : Nat := ((deeds cs).map fun x => c x * w x).sum
theorem price_own (w : Str → Nat) {cs : List Crs} (ok : BokOk cs) {pile : List Stg} (hp : ∀ s ∈ pile, s ∈ keysL w cs) : priceL cs w (tot w cs pile) = sumT w cs pile := by
  show CK.price (deeds cs) w (fun x => (pile.map fun s => cnt w cs s x).sum) = _
  rw [CK.price_pile (deeds cs) w (fun s x => cnt w cs s x) pile]
  exact CK.sum_congr fun s hs => CK.price_eq (deeds_nd cs) (bk_ok ok) (tt_right w ok) lines_deeds _ s (Nat.le_refl _) ((keysL_mem ok).mp (hp s hs))
theorem price_oth (w w' : Str → Nat) {cs : List Crs} (ok : BokOk cs) {pile : List Stg} (hp : ∀ s ∈ pile, s ∈ keysL w cs) : sumT w' cs pile ≤ priceL cs w' (tot w cs pile) := by
  show _ ≤ CK.price (deeds cs) w' (fun x => (pile.map fun s => cnt w cs s x).sum)
  rw [CK.price_pile (deeds cs) w' (fun s x => cnt w cs s x) pile]
  exact CK.sum_mono fun s hs => CK.price_ge (deeds_nd cs) (bk_ok ok) (tt_right w ok) (tt_right w' ok) lines_deeds _ s (Nat.le_refl _) ((keysL_mem ok).mp (hp s hs))
theorem keysL_eq (w w' : Str → Nat) {cs : List Crs} (ok : BokOk cs) : keysL w cs = keysL w' cs := by
  unfold keysL
  refine List.filter_congr fun s _ => ?_
  exact CK.keys_eq (bk_ok ok) (tt_right w ok) (tt_right w' ok) s
/-- what a moment is asked with -/
noncomputable def toldG (cs : List Crs) (w : Str → Nat) : GP := gTp [gDK (wK w (deeds cs)), gDT (lpT w cs), gDT (pwT w cs), gDT (ctT w cs)]
noncomputable def othG (cs : List Crs) (w : Str → Nat) : GP := gTp [gDK (wK w (deeds cs)), gDT (lpT w cs)]
def Rmr (es : List Ent) (μ : Mem) (d : PyData) (μ' : Mem) : Prop := ∃ (cs : List Crs) (w w' : Str → Nat) (pile : List Stg), es = [.g (gDT (lvT cs)), .d (.list ((deeds cs).map .str)), .g (toldG cs w), .g (othG cs w'), .d (tupD pile)] ∧ μ = [] ∧ μ' = [] ∧ BokOk cs ∧ (∀ c ∈ cs, c.n ≤ 3) ∧ cs.length ≤ 3 ∧ (∀ x, w x ≤ 9) ∧ (∀ x, w' x ≤ 9) ∧ (∀ s ∈ pile, s ∈ keysL w cs) ∧ pile.length ≤ 13 ∧ d = .bool true
theorem shp_natL (l : List Str) (f : Str → Nat) : SeqAt.shaped (.list (l.map fun x => PyData.int (f x : Int))) = true := (shp_list (n := 0) fun d hd => by
  obtain ⟨x, _, rfl⟩ := List.mem_map.mp hd
  exact shp_int 0 _).shaped (by decide)
theorem eqv_natL (l : List Str) (f : Str → Nat) : PyData.eqv (.list (l.map fun x => PyData.int (f x : Int))) (.list (l.map fun x => PyData.int (f x : Int))) = true := by
  have : (l.map fun x => PyData.int (f x : Int)) = (l.map fun x => (f x : Int)).map .int := by rw [List.map_map]; rfl
  rw [this, PyData.eqv, eqv_ints]
  exact beq_self_eq_true _
theorem range_getD {α : Type} (l : List Str) (f : Str → α) : (List.range l.length).map (fun i => f (l.getD i "")) = l.map f := by
  refine List.ext_getElem? fun j => ?_
  rw [List.getElem?_map, List.getElem?_map]
  by_cases hj : j < l.length
  · rw [List.getElem?_range hj, List.getElem?_eq_getElem hj]
    simp [List.getD_eq_getElem?_getD, List.getElem?_eq_getElem hj]
  · rw [List.getElem?_eq_none (by rw [List.length_range]; omega), List.getElem?_eq_none (by omega)]; rfl
section
variable {P : Program} {w : World} {K : PySem.W.Frag} {mg : Str → Option Value} {base : Heap} {Cb : Addr}
abbrev nMr : List Str := ["_law_leaving_here", "_law_deeds_here", "_law_told", "_law_others", "_law_pile", "_law_count", "_law_prices", "_law_table", "_law_chosen", "_law_counts", "_law_at", "_law_deed", "_law_many", "_law_stage"]
theorem scMr : FnScope nMr ["_law_leaving_here", "_law_deeds_here", "_law_told", "_law_others", "_law_pile"] (defScope sMr) := ⟨rfl, rfl, rfl, by decide +kernel, rfl, by decide +kernel, by decide +kernel⟩
abbrev scMr1 : Scope := { kind := .function, names := [(".0", .local), ("_law_at", .cell), ("sum", .globalImplicit), ("_law_counts", .free), ("_law_pile", .free)], isGenerator := false, isCoroutine := false }
theorem ok_mr {f : Addr} {fd : FuncData} (T : Txt K mg Cb) (F : Fun K "_law_moment_right" "_law_moment_right" sMr f fd) {f1 f2 : Addr} {fd1 fd2 : FuncData} (H1 : Has K mg "_law_closing" sCl ["_law_leaving_here", "_law_deeds_here", "_law_chosen", "_law_pile"] f1 fd1) (H2 : Has K mg "_law_sum" sSu ["_law_table", "_law_pile"] f2 fd2) : FnOk P w K mg base CX0 2 f fd ["_law_leaving_here", "_law_deeds_here", "_law_told", "_law_others", "_law_pile"] (spE K 5 Rmr) := by
  have G1 : FnOk P w K mg base CX0 1 f1 fd1 ["_law_leaving_here", "_law_deeds_here", "_law_chosen", "_law_pile"] (spE K 4 Rcl) := ok_cl T H1.F
  have G2 : FnOk P w K mg base CX0 1 f2 fd2 ["_law_table", "_law_pile"] (spE K 2 Rsu) := ok_su T H2.F
  refine def_E F scMr (by decide) rfl fun cdv A outer s H E hr => ?_
  have nd := scMr.nd
  refine ⟨_, (pss_cons (ps_asg (pv 2) (pg_tup rfl (pgs_cons (pg_name (i := 6) nd rfl (Or.inr rfl)) (pgs_cons (pg_name (i := 7) nd rfl (Or.inl rfl)) (pgs_cons (pg_name (i := 8) nd rfl (Or.inl rfl)) (pgs_cons (pg_name (i := 9) nd rfl (Or.inr rfl)) pgs_nil))))))
 (pss_cons (ps_set (i := 5) nd rfl (Or.inl rfl) (pe_call G1 hr rfl H1.m H1.F.kp H1.b .nil pass0 (pa_cons (pv 0) (pa_cons (pv 1) (pa_cons (pv 8) (pa_cons (pv 4) pa_nil))))))
 (pss_cons (ps_if (PW.pt (pw_or (pt_cmpR op_isN (pv 5) pe_non (nomark _)) (pw_or1 (pt_cmpR (op_neD hr.units) (pv 5) (pe_lc (own := [("_law_at", 10)]) (g := (gName 10)) (tt := tYes) rfl nd (pi_range1 (by rfl) T.range (pa_cons (pe_callB call_len_seq (by rfl) T.len PySem.boot_len (pa_cons (pv 1) pa_nil)) pa_nil)) (blkOk_by (N := nMr) (sc := defScope sMr) (by decide +kernel)) (fun _ _ _ _ _ => (pg_name (i := 10) nd rfl (Or.inr rfl))) (fun _ _ _ _ _ => pts_nil) (fun _ _ _ _ _ => (pe_callB (ksum (K := K) rfl rfl) (by rfl) T.sum (by decide +kernel) (pa_cons (pe_lc (own := [("_law_stage", 13)]) (g := (gName 13)) (tt := tYes) rfl nd (kpi_tup (K := K) rfl (pv 4)) (blkOk_by (N := nMr) (sc := relS scMr1 (defScope sMr)) (by decide +kernel)) (fun _ _ _ _ _ => (pg_name (i := 13) nd rfl (Or.inl rfl))) (fun _ _ _ _ _ => pts_nil) (fun _ _ _ _ _ => (pe_ix (kix_tup (K := K) rfl) (pe_dget (hu_of hr) (pv 9) (pv 13) (fun _ _ => rfl)) (pv 10) (fun _ _ => rfl)))) pa_nil)))) (nomark _))))) (pss_one (ps_ret pe_bl)) pss_nil)
 (pss_cons (ps_if (pt_cmpR (op_neD hr.units) (pe_callB (cr_sum rfl) (by rfl) T.sum (by decide +kernel) (pa_cons (pe_lc (own := [("_law_deed", 11), ("_law_many", 12)]) (g := (gTup K 2 (gCons (gName 11) (gCons (gName 12) gNil)))) (tt := tYes) rfl nd (RZ.pi_zipA (by rfl) T.zip (pa_cons (pv 1) (pa_cons (pv 5) pa_nil))) (blkOk_by (N := nMr) (sc := defScope sMr) (by decide +kernel)) (fun _ _ _ _ _ => (pg_tup rfl (pgs_cons (pg_name (i := 11) nd rfl (Or.inl rfl)) (pgs_cons (pg_name (i := 12) nd rfl (Or.inl rfl)) pgs_nil)))) (fun _ _ _ _ _ => pts_nil) (fun _ _ _ _ _ => (pe_op op_mul (pv 12) (pe_dget (hu_of hr) (pv 6) (pv 11) (fun _ _ => rfl))))) pa_nil)) (pe_call G2 hr rfl H2.m H2.F.kp H2.b .nil pass0 (pa_cons (pv 7) (pa_cons (pv 4) pa_nil))) (nomark _)) (pss_one (ps_ret pe_bl)) pss_nil)
 (pss_one (ps_ret (pe_cmpR op_ge (pe_callB (cr_sum rfl) (by rfl) T.sum (by decide +kernel) (pa_cons (pe_lc (own := [("_law_deed", 11), ("_law_many", 12)]) (g := (gTup K 2 (gCons (gName 11) (gCons (gName 12) gNil)))) (tt := tYes) rfl nd (RZ.pi_zipA (by rfl) T.zip (pa_cons (pv 1) (pa_cons (pv 5) pa_nil))) (blkOk_by (N := nMr) (sc := defScope sMr) (by decide +kernel)) (fun _ _ _ _ _ => (pg_tup rfl (pgs_cons (pg_name (i := 11) nd rfl (Or.inl rfl)) (pgs_cons (pg_name (i := 12) nd rfl (Or.inl rfl)) pgs_nil)))) (fun _ _ _ _ _ => pts_nil) (fun _ _ _ _ _ => (pe_op op_mul (pv 12) (pe_dget (hu_of hr) (pe_ix (kix_tup (K := K) rfl) (pv 3) pe_int (fun _ _ => rfl)) (pv 11) (fun _ _ => rfl))))) pa_nil)) (pe_call G2 hr rfl H2.m H2.F.kp H2.b .nil pass0 (pa_cons (pe_ix ix_tup (pv 3) pe_int (fun _ _ => rfl)) (pa_cons (pv 4) pa_nil))) (nomark _)))))))), ?_⟩
  rintro M G B es μ d μ' ⟨cs, wt, wo, pile, rfl, rfl, rfl, ok, hn, hcl, hw, hw', hp, hl, rfl⟩ D fin
  show FD.Run _ _ D M [.g (gDT (lvT cs)), .d (.list ((deeds cs).map .str)), .g (toldG cs wt), .g (othG cs wo), .d (tupD pile), .u, .u, .u, .u, .u, .u, .u, .u, .u] []
  have dl := deeds_len ok
  have hz := sz_pile wt ok hn hcl hp hl
  have hp' : ∀ s ∈ pile, s ∈ keysL wo cs := fun s hs => by rw [keysL_eq wo wt ok]; exact hp s hs
  refine q_asgG4 (x_vg rfl) (ge_g _) (ge_g _) (ge_g _) (ge_g _) ?_
  show FD.Run _ _ D M [.g (gDT (lvT cs)), .d (.list ((deeds cs).map .str)), .g (toldG cs wt), .g (othG cs wo), .d (tupD pile), .u, .g (gDK (wK wt (deeds cs))), .g (gDT (lpT wt cs)), .g (gDT (pwT wt cs)), .g (gDT (ctT wt cs)), .u, .u, .u, .u] []
  refine q_asg (x_callE0 (a_cons (x_vg rfl) (a_cons (x_vd rfl) (a_cons (x_vg rfl) (a_cons (x_vd rfl) a_nil)))) ⟨cs, wt, pile, rfl, rfl, rfl, ok, hp, hz, rfl⟩) ?_
  show FD.Run _ _ D M [.g (gDT (lvT cs)), .d (.list ((deeds cs).map .str)), .g (toldG cs wt), .g (othG cs wo), .d (tupD pile), .d (.list ((deeds cs).map fun x => .int (tot wt cs pile x : Int))), .g (gDK (wK wt (deeds cs))), .g (gDT (lpT wt cs)), .g (gDT (pwT wt cs)), .g (gDT (ctT wt cs)), .u, .u, .u, .u] []
  have hlen : ((deeds cs).map PyData.str).length = (deeds cs).length := List.length_map _
  refine q_no (μ' := []) (t_orF (t_is (t_test (x_op (x_vd rfl) x_non o_isN)) rfl) (t_is (t_test (x_op (x_vd rfl) (x_is (e1 := .d (.list ((deeds cs).map fun x => .int (tot wt cs pile x : Int)))) (x_lcA (l := List.range (deeds cs).length) (enc := fun i : Nat => PyData.int (0 + (i : Int))) (f := fun i => PyData.int (tot wt cs pile ((deeds cs).getD i "") : Int)) ?it (by rw [List.length_range]; omega) (ts := [10]) (fun i => [.g (gDT (lvT cs)), .d (.list ((deeds cs).map .str)), .g (toldG cs wt), .g (othG cs wo), .d (tupD pile), .d (.list ((deeds cs).map fun x => .int (tot wt cs pile x : Int))), .g (gDK (wK wt (deeds cs))), .g (gDT (lpT wt cs)), .g (gDT (pwT wt cs)), .g (gDT (ctT wt cs)), .d (.int (0 + (i : Int))), .u, .u, .u]) (fun i hi => tg_name) (fun k hk => hk) (fun i hi G' B3 D' => ?_)) ?_) (o_neD (.d _) (.d _) (shp_natL _ _) (shp_natL _ _)))) (by rw [eqv_natL]; rfl))) ?_
  case it =>
    have h := i_rng1 (C := ⟨K, M, G, B⟩) (M := M) (δ := [.g (gDT (lvT cs)), .d (.list ((deeds cs).map .str)), .g (toldG cs wt), .g (othG cs wo), .d (tupD pile), .d (.list ((deeds cs).map fun x => .int (tot wt cs pile x : Int))), .g (gDK (wK wt (deeds cs))), .g (gDT (lpT wt cs)), .g (gDT (pwT wt cs)), .g (gDT (ctT wt cs)), .u, .u, .u, .u]) (μ := []) (n := (((deeds cs).map PyData.str).length : Int)) (a_cons (x_cbP (a_cons (x_vd (i := 1) rfl) a_nil) (c_lenL (.d _))) a_nil) (by omega) (by rw [hlen]; omega)
    rw [hlen, Int.toNat_natCast] at h
    exact h
  · have hi := List.mem_range.mp hi
    have hget : (deeds cs)[i]? = some ((deeds cs).getD i "") := by
      rw [List.getElem?_eq_getElem hi, List.getD_eq_getElem?_getD, List.getElem?_eq_getElem hi]; rfl
    refine x_is (x_cbP (a_cons (x_is (e1 := .d (.list ((pile.map fun s => ((cnt wt cs s ((deeds cs).getD i "") : Nat) : Int)).map .int))) (x_lcA (l := pile) (enc := stD) (f := fun s => PyData.int (cnt wt cs s ((deeds cs).getD i "") : Int)) (i_tup (x_vd rfl)) (by omega) (ts := [13]) (fun st => [.g (gDT (lvT cs)), .d (.list ((deeds cs).map .str)), .g (toldG cs wt), .g (othG cs wo), .d (tupD pile), .d (.list ((deeds cs).map fun x => .int (tot wt cs pile x : Int))), .g (gDK (wK wt (deeds cs))), .g (gDT (lpT wt cs)), .g (gDT (pwT wt cs)), .g (gDT (ctT wt cs)), .d (.int (0 + (i : Int))), .u, .u, .d (stD st)]) (fun st hst => tg_name) (fun k hk => hk) (fun st hst G2 B2 D2 => ?_)) (by rw [List.map_map]; rfl)) a_nil) (c_sum (.d _))) ?_
    · refine x_op (x_tgetD (k := stK st) (l := ctT wt cs) (x_vg rfl) (x_vd rfl) (.g _) (valG_tab _ _ (hp st hst))) (x_vd rfl) (o_ixT (ds := (deeds cs).map fun x => .int (cnt wt cs st x : Int)) ?_)
      rw [Int.zero_add]
      exact atI_nat (by rw [List.getElem?_map, hget]; rfl)
    · have := sum_casts (pile.map fun s => cnt wt cs s ((deeds cs).getD i ""))
      rw [List.map_map] at this
      exact congrArg (fun i : Int => Ent.d (.int i)) this
  · rw [range_getD (deeds cs) fun x => PyData.int (tot wt cs pile x : Int)]
  have zipI : ∀ {C : Cfg} {M : List Addr} {e10 e11 e12 e13 : Ent}, EvI C (RZ.iZipA C.K (tCons (tVar 1) (tCons (tVar 5) tNil))) M [.g (gDT (lvT cs)), .d (.list ((deeds cs).map .str)), .g (toldG cs wt), .g (othG cs wo), .d (tupD pile), .d (.list ((deeds cs).map fun x => .int (tot wt cs pile x : Int))), .g (gDK (wK wt (deeds cs))), .g (gDT (lpT wt cs)), .g (gDT (pwT wt cs)), .g (gDT (ctT wt cs)), e10, e11, e12, e13] [] [] ((deeds cs).map fun x => PyData.tuple [.str x, .int (tot wt cs pile x : Int)]) := fun {C M e10 e11 e12 e13} => by
    have h := i_zipL (C := C) (M := M) (δ := [.g (gDT (lvT cs)), .d (.list ((deeds cs).map .str)), .g (toldG cs wt), .g (othG cs wo), .d (tupD pile), .d (.list ((deeds cs).map fun x => .int (tot wt cs pile x : Int))), .g (gDK (wK wt (deeds cs))), .g (gDT (lpT wt cs)), .g (gDT (pwT wt cs)), .g (gDT (ctT wt cs)), e10, e11, e12, e13]) (μ := []) (xs := (deeds cs).map PyData.str) (ys := (deeds cs).map fun x => PyData.int (tot wt cs pile x : Int)) (a_cons (x_vd (i := 1) rfl) (a_cons (x_vd (i := 5) rfl) a_nil))
    rw [zip_maps] at h
    exact h
  have prc : ∀ v : Str → Nat, ((deeds cs).map fun x => (tot wt cs pile x : Int) * (v x : Int)).sum = ((priceL cs v (tot wt cs pile) : Nat) : Int) := fun v => by
    have := sum_casts ((deeds cs).map fun x => tot wt cs pile x * v x)
    rw [List.map_map] at this
    refine Eq.trans (congrArg List.sum (List.map_congr_left fun x _ => ?_)) this
    show (tot wt cs pile x : Int) * (v x : Int) = ((tot wt cs pile x * v x : Nat) : Int)
    push_cast; rfl
  have small : ∀ (c : Nat) {n : Nat}, n ≤ 9 → CMul (c : Int) (n : Int) := fun c n h => .inr ⟨by omega, by omega⟩
  refine q_no (μ' := []) (t_is (t_test (x_op (x_cbP (a_cons (x_is (e1 := .d (.list (((deeds cs).map fun x => (tot wt cs pile x : Int) * (wt x : Int)).map .int))) (x_lcA (l := deeds cs) (enc := fun x => PyData.tuple [.str x, .int (tot wt cs pile x : Int)]) (f := fun x => PyData.int ((tot wt cs pile x : Int) * (wt x : Int))) zipI (by omega) (ts := [11, 12]) (fun x => [.g (gDT (lvT cs)), .d (.list ((deeds cs).map .str)), .g (toldG cs wt), .g (othG cs wo), .d (tupD pile), .d (.list ((deeds cs).map fun x => .int (tot wt cs pile x : Int))), .g (gDK (wK wt (deeds cs))), .g (gDT (lpT wt cs)), .g (gDT (pwT wt cs)), .g (gDT (ctT wt cs)), .u, .d (.str x), .d (.int (tot wt cs pile x : Int)), .u]) (fun x hx => tg_tup2) (fun k hk => hk) (fun x hx G2 B2 D2 => x_op (x_vd rfl) (x_kget (x_vg rfl) (x_vd rfl) (valD_wK wt hx)) (o_I (small _ (hw x))))) (by rw [List.map_map]; rfl)) a_nil) (c_sum (.d _))) (x_callE0 (a_cons (x_vg rfl) (a_cons (x_vd rfl) a_nil)) ⟨cs, wt, pile, rfl, rfl, rfl, hp, by omega, rfl⟩) (o_neD (.d _) (.d _) (sh_int _) (sh_int _)))) ?_) ?_
  · rw [prc wt, price_own wt ok hp, eqv_int, beq_self_eq_true]; rfl
  refine r_retE (x_is (x_op (x_cbP (a_cons (x_is (e1 := .d (.list (((deeds cs).map fun x => (tot wt cs pile x : Int) * (wo x : Int)).map .int))) (x_lcA (l := deeds cs) (enc := fun x => PyData.tuple [.str x, .int (tot wt cs pile x : Int)]) (f := fun x => PyData.int ((tot wt cs pile x : Int) * (wo x : Int))) zipI (by omega) (ts := [11, 12]) (fun x => [.g (gDT (lvT cs)), .d (.list ((deeds cs).map .str)), .g (toldG cs wt), .g (othG cs wo), .d (tupD pile), .d (.list ((deeds cs).map fun x => .int (tot wt cs pile x : Int))), .g (gDK (wK wt (deeds cs))), .g (gDT (lpT wt cs)), .g (gDT (pwT wt cs)), .g (gDT (ctT wt cs)), .u, .d (.str x), .d (.int (tot wt cs pile x : Int)), .u]) (fun x hx => tg_tup2) (fun k hk => hk) (fun x hx G2 B2 D2 => x_op (x_vd rfl) (x_kget (x_op (x_vg rfl) x_int (o_ixG (φ := gDK (wK wo (deeds cs))) rfl)) (x_vd rfl) (valD_wK wo hx)) (o_I (small _ (hw' x))))) (by rw [List.map_map]; rfl)) a_nil) (c_sum (.d _))) (x_callE0 (a_cons (x_op (x_vg rfl) x_int (o_ixG (φ := gDT (lpT wo cs)) rfl)) (a_cons (x_vd rfl) a_nil)) ⟨cs, wo, pile, rfl, rfl, rfl, hp', by omega, rfl⟩) o_B0) ?_) (fun r hr => hr) fin
  rw [prc wo]
  have := price_oth wt wo ok hp
  refine congrArg (fun b : Bool => Ent.d (.bool b)) (decide_eq_true ?_)
  show ((sumT wo cs pile : Nat) : Int) ≤ ((priceL cs wo (tot wt cs pile) : Nat) : Int)
  omega
end
end K09
namespace K09
open PySem L2 FD Evl
def spLaw (K : PySem.W.Frag) : Sp := fun vs H Q _ => ∃ (a : Addr) (ns : List Int), vs = [.ref a] ∧ SqL K H a (ns.map V.int) ∧ ns.length ≤ 63 ∧ ∀ H', Q (.bl true) H'
theorem dp_ints {K : PySem.W.Frag} {H : Hp} : ∀ ns : List Int, FD.DpAll K H (ns.map V.int) (ns.map PyData.int)
  | [] => .nil
  | n :: ns => .cons (.int n) (dp_ints ns)
/-! ### the run through moments -/
theorem shp_move (m : Option (Step × Nat)) : FD.Shp 1 (moveD m) := by
  cases m with
  | none => exact shp_tuple (n := 0) fun d hd => by rw [List.mem_singleton.mp hd]; exact ⟨by decide +kernel, by simp [PyData.depth]⟩
  | some q =>
    refine shp_tuple (n := 0) fun d hd => ?_
    simp only [List.mem_cons, List.not_mem_nil, or_false] at hd
    rcases hd with rfl | rfl
    · cases q.1.call <;> exact ⟨by decide +kernel, by simp [PyData.depth]⟩
    · exact shp_int 0 _
theorem sh_move (m : Option (Step × Nat)) : SeqAt.shaped (moveD m) = true := (shp_move m).shaped (by decide)
theorem shp_mv {m : Mv} (h : ∀ s ∈ m.2, Nm s.1) : FD.Shp 3 (mvD m) := by
  refine shp_tuple (n := 2) fun d hd => ?_
  simp only [List.mem_cons, List.not_mem_nil, or_false] at hd
  rcases hd with rfl | rfl
  · exact ⟨(shp_move m.1).1, Nat.le_succ_of_le (shp_move m.1).2⟩
  · exact shp_pile 0 h
theorem sh_mvs {l : List Mv} (h : ∀ m ∈ l, ∀ s ∈ m.2, Nm s.1) : SeqAt.shaped (.list (l.map mvD)) = true := (shp_list (n := 3) fun d hd => by
  obtain ⟨m, hm, rfl⟩ := List.mem_map.mp hd
  exact shp_mv (h m hm)).shaped (by decide)
theorem sh_nilL : SeqAt.shaped (.list []) = true := sh_mvs (l := []) fun m h => nomatch h
def mvEq (q : Step × Nat) : Option (Step × Nat) → Bool
  | none => false
  | some q' => decide (q.1.call = q'.1.call ∧ q.2 = q'.2)
theorem eqv_move (q : Step × Nat) (m : Option (Step × Nat)) : PyData.eqv (moveD (some q)) (moveD m) = mvEq q m := by
  cases m with
  | none =>
    show PyData.eqv (.tuple [.str (wh q.1.call), .int (q.2 : Int)]) (.tuple [.str "leave"]) = false
    simp [PyData.eqv, PyData.eqvAll]
  | some q' =>
    show PyData.eqv (rowK [.inr (wh q.1.call), .inl (q.2 : Int)]) (rowK [.inr (wh q'.1.call), .inl (q'.2 : Int)]) = _
    rw [eqv_row]
    refine decide_eq_decide.mpr ⟨fun e => ?_, fun e => by rw [e.1, e.2]⟩
    injection e with e1 e
    injection e with e2 _
    exact ⟨wh_inj (Sum.inr.inj e1), by have := Sum.inl.inj e2; omega⟩
def ownV (w : Str → Nat) (l : List (Step × Nat)) (m : Option (Step × Nat)) : Nat := ((l.filter fun q => mvEq q m && !q.1.call).map fun q => w q.1.nm).sum
theorem own_none (w : Str → Nat) (l : List (Step × Nat)) : ownV w l none = 0 := by
  unfold ownV
  rw [List.filter_eq_nil_iff.mpr fun q _ => by simp [mvEq]]; rfl
theorem own_some (w : Str → Nat) {q0 : Step × Nat} : ∀ {l : List (Step × Nat)}, (l.map (·.2)).Nodup → (∀ q ∈ l, q.2 = q0.2 → q = q0) → q0 ∈ l → ownV w l (some q0) = ownS w q0.1
  | [], _, _, h => nomatch h
  | q :: l, nd, un, h => by
    rw [List.map_cons, List.nodup_cons] at nd
    have rest : q0 ∉ l → ownV w l (some q0) = 0 := fun hn => by
      unfold ownV
      rw [List.filter_eq_nil_iff.mpr fun x hx => ?_]
      · rfl
      · unfold mvEq
        rw [Bool.and_eq_true, decide_eq_true_iff]
        rintro ⟨⟨_, e⟩, _⟩
        exact hn (un x (List.mem_cons_of_mem _ hx) e ▸ hx)
    unfold ownV
    rw [List.filter_cons]
    by_cases e : q = q0
    · subst e
      have hn : q ∉ l := fun z => nd.1 (List.mem_map.mpr ⟨q, z, rfl⟩)
      have r := rest hn
      unfold ownV at r
      have e1 : mvEq q (some q) = true := decide_eq_true ⟨rfl, rfl⟩
      rw [e1]
      unfold ownS
      cases hc : q.1.call with
      | true =>
        show ((l.filter fun x => mvEq x (some q) && !x.1.call).map fun x => w x.1.nm).sum = 0
        exact r
      | false =>
        show w q.1.nm + ((l.filter fun x => mvEq x (some q) && !x.1.call).map fun x => w x.1.nm).sum = w q.1.nm
        rw [r]; rfl
    · have hm : q0 ∈ l := (List.mem_cons.mp h).resolve_left fun z => e z.symm
      have e1 : mvEq q (some q0) = false := decide_eq_false fun z => e (un q List.mem_cons_self z.2)
      rw [e1]
      exact own_some w nd.2 (fun x hx => un x (List.mem_cons_of_mem _ hx)) hm
theorem moves_mem {cs : List Crs} {s : Stg} {r : List Stg} {m : Mv} (h : m ∈ movesL cs (s :: r)) : (m.1 = none ∧ s ∈ endsL cs ∧ m.2 = r) ∨ ∃ q ∈ exL (crs cs s.1) s.2, m.1 = some q ∧ m.2 = partsOf s.1 q.1 ++ r := by
  rcases List.mem_append.mp h with h | h
  · by_cases e : s ∈ endsL cs
    · rw [if_pos e] at h
      rw [List.mem_singleton.mp h]; exact .inl ⟨rfl, e, rfl⟩
    · rw [if_neg e] at h; cases h
  · obtain ⟨q, hq, rfl⟩ := List.mem_map.mp h
    exact .inr ⟨q, hq, rfl, rfl⟩
theorem moves_len {cs : List Crs} {pile : List Stg} {m : Mv} (h : m ∈ movesL cs pile) : m.2.length ≤ pile.length + 1 := by
  cases pile with
  | nil => cases h
  | cons s r =>
    rcases moves_mem h with ⟨_, _, e⟩ | ⟨q, _, _, e⟩
    · rw [e, List.length_cons]; omega
    · have := parts_len s.1 q.1
      rw [e, List.length_append, List.length_cons]; omega
theorem ends_end {cs : List Crs} (ok : BokOk cs) {s : Stg} (h : s ∈ endsL cs) : s.2 ∈ (crs cs s.1).ends := by
  obtain ⟨c, hc, h⟩ := List.mem_flatMap.mp h
  obtain ⟨e, he, rfl⟩ := List.mem_map.mp h
  show e ∈ (crs cs c.nm).ends
  rw [crs_of ok.nd hc]; exact he
/-- what a move costs makes up for what its pile loses -/
theorem move_le (w : Str → Nat) {cs : List Crs} (ok : BokOk cs) {s : Stg} {r : List Stg} {m : Mv} (hs : s ∈ stages cs) (h : m ∈ movesL cs (s :: r)) (hk : ∀ x ∈ m.2, x ∈ keysL w cs) : sumT w cs (s :: r) ≤ ownV w (exL (crs cs s.1) s.2) m.1 + sumT w cs m.2 := by
  have rt := tt_right w ok
  have sS : s ∈ (bk cs).S := S_mem.mpr hs
  have e0 : sumT w cs (s :: r) = (CK.g (TT w cs) s).1 + sumT w cs r := rfl
  rcases moves_mem h with ⟨e1, he, e2⟩ | ⟨q, hq, e1, e2⟩
  · have z := rt.endz s sS (decide_eq_true (ends_end ok he))
    rw [e1, e2, own_none, e0, CK.g_val z]; omega
  · have ha : CK.allIn (TT w cs) (lineOf s.1 q).ps = true := List.all_eq_true.mpr fun p hp => (keysL_mem ok).mp (hk p (by rw [e2]; exact List.mem_append_left _ hp))
    have hle := (rt.le s sS (lineOf s.1 q) (List.mem_map.mpr ⟨q, hq, rfl⟩) ha).2
    rw [own_line] at hle
    have e3 : sumT w cs (partsOf s.1 q.1 ++ r) = CK.wsum (TT w cs) (partsOf s.1 q.1) + sumT w cs r := by
      unfold sumT CK.wsum
      rw [List.map_append, List.sum_append]
    rw [e1, e2, own_some w (exL_nums _ _) (fun x hx e => line_one hx hq e) hq, e3, e0]
    have e4 : (lineOf s.1 q).ps = partsOf s.1 q.1 := rfl
    rw [e4] at hle
    omega
theorem putDc_w (w : Str → Nat) {ds : List Str} (nd : ds.Nodup) {i : Nat} {x : Str} (h : ds[i]? = some x) (v : Nat) : putDc (wK w (ds.take i)) x (.int (v : Int)) = wK (fun y => if y = x then v else w y) (ds.take (i + 1)) := by
  have nin : x ∉ ds.take i := fun z => by
    obtain ⟨m, hm⟩ := List.getElem?_of_mem z
    have ml := (List.getElem?_eq_some_iff.mp hm).1
    rw [List.length_take] at ml
    rw [List.getElem?_take, if_pos (by omega)] at hm
    obtain ⟨l1, g1⟩ := List.getElem?_eq_some_iff.mp hm
    obtain ⟨l2, g2⟩ := List.getElem?_eq_some_iff.mp h
    exact List.pairwise_iff_getElem.mp nd m i l1 l2 (by omega) (g1.trans g2.symm)
  have nk : x ∉ (wK w (ds.take i)).map (·.1) := fun z => by
    unfold wK at z
    rw [List.map_map] at z
    obtain ⟨y, hy, e⟩ := List.mem_map.mp z
    have e : y = x := e
    exact nin (e ▸ hy)
  unfold putDc
  rw [if_neg nk, List.take_add_one, h]
  unfold wK
  rw [List.map_append]
  congr 1
  · refine List.map_congr_left fun y hy => ?_
    have ne : y ≠ x := fun z => nin (z ▸ hy)
    show (y, PyData.int (w y : Int)) = (y, PyData.int ((if y = x then v else w y : Nat) : Int))
    rw [if_neg ne]
  · show [(x, PyData.int (v : Int))] = [(x, PyData.int ((if x = x then v else w x : Nat) : Int))]
    rw [if_pos rfl]
noncomputable abbrev lawE (Cb : Addr) (ns : List Int) (k : Nat) (p : Addr) (cs : List Crs) (w w' : Str → Nat) (st : Stg) (e4 e8 : Ent) (pile : List Stg) (paid : Nat) (e18 e19 e20 e21 e22 e23 : Ent) : List Ent :=
  [.d (.list (ns.map .int)), .d (.int (k : Int)), .m p, .d (bokD cs), e4, .g (gDT (pwT w cs)), .g (toldG cs w), .g (othG cs w'), e8, .g (gBook Cb cs), .g (gDT (lvT cs)), .d (.list ((endsL cs).map stD)), .d (.list ((deeds cs).map .str)), .d (stD st), .g (gDK (wK w (deeds cs))), .g (gDK (wK w' (deeds cs))), .d (tupD pile), .d (.int (paid : Int)), e18, e19, e20, e21, e22, e23]
theorem o_ltN {C : Cfg} {M : List Addr} {δ : List Ent} {μ : Mem} {a b : Nat} (h : b ≤ a) : OpX C (rI0 fun i j => .bl (decide (i < j))) M δ μ μ (.d (.int (a : Int))) (.d (.int (b : Int))) (.d (.bool false)) := by
  have := o_B0 (C := C) (M := M) (δ := δ) (μ := μ) (g := fun i j => decide (i < j)) (i := (a : Int)) (j := (b : Int))
  rw [decide_eq_false (show ¬ ((a : Int) < (b : Int)) by omega)] at this
  exact this
section
variable {P : Program} {w : World} {K : PySem.W.Frag} {mg : Str → Option Value} {base : Heap} {Cb : Addr}
abbrev nLw : List Str := ["_law_script", "_law_k", "_law_box_here", "_law_courses_here", "_law_deed", "_law_chosen", "_law_told", "_law_cheap", "_law_turn", "_law_book", "_law_leaving_here", "_law_ends_here", "_law_deeds_here", "_law_start", "_law_prices", "_law_others", "_law_pile", "_law_paid", "_law_options", "_law_own", "_law_pair", "_law_move", "_law_later", "_law_entry"]
theorem scLw : FnScope nLw ["_law_script"] (defScope sLw) := ⟨rfl, rfl, rfl, by decide +kernel, rfl, by decide +kernel, by decide +kernel⟩
theorem ok_lw {f : Addr} {fd : FuncData} (T : Txt K mg Cb) (F : Fun K "law" "law" sLw f fd) {aBx aCs aLv aEn aDe aTk aPw aLp aCa aMr aMv aAi aPk aSu aBi : Addr} {dBx dCs dLv dEn dDe dTk dPw dLp dCa dMr dMv dAi dPk dSu dBi : FuncData}
    (HBx : Has K mg "_law_box" sBx ["_law_script", "_law_k"] aBx dBx) (HCs : Has K mg "_law_courses" sCs ["_law_box_here"] aCs dCs) (HLv : Has K mg "_law_leaving" sLv ["_law_courses_here"] aLv dLv) (HEn : Has K mg "_law_ends" sEn ["_law_courses_here"] aEn dEn) (HDe : Has K mg "_law_deeds" sDe ["_law_courses_here"] aDe dDe) (HTk : Has K mg "_law_take" sTk ["_law_box_here", "_law_many"] aTk dTk)
    (HPw : Has K mg "price_ways" sPw ["book", "prices"] aPw dPw) (HLp : Has K mg "least_prices" sLp ["book", "prices"] aLp dLp) (HCa : Has K mg "counts_along" sCa ["book", "chosen"] aCa dCa) (HMr : Has K mg "_law_moment_right" sMr ["_law_leaving_here", "_law_deeds_here", "_law_told", "_law_others", "_law_pile"] aMr dMr) (HMv : Has K mg "_law_moves" sMv ["_law_leaving_here", "_law_ends_here", "_law_pile"] aMv dMv)
    (HAi : Has K mg "_law_all_in" sAi ["_law_some", "_law_others"] aAi dAi) (HPk : Has K mg "_law_pick" sPk ["_law_box_here", "_law_some"] aPk dPk) (HSu : Has K mg "_law_sum" sSu ["_law_table", "_law_pile"] aSu dSu)
    (MkB : Mk K Cb aBi) (bBi : Binds K dBi ["self", "courses"] [])
    (GBi : FnOk P w K mg base CX0 6 aBi dBi ["self", "courses"] (spMk K Cb 1 (Rbi Cb))) (GCs : FnOk P w K mg base CX0 5 aCs dCs ["_law_box_here"] (spE K 1 Rcs)) (GPw : FnOk P w K mg base CX0 5 aPw dPw ["book", "prices"] (spEN K 2 (Rpw Cb))) (GLp : FnOk P w K mg base CX0 5 aLp dLp ["book", "prices"] (spEN K 2 (Rlp Cb))) (GCa : FnOk P w K mg base CX0 5 aCa dCa ["book", "chosen"] (spEN K 2 (Rca Cb)))
    (GMr : FnOk P w K mg base CX0 2 aMr dMr ["_law_leaving_here", "_law_deeds_here", "_law_told", "_law_others", "_law_pile"] (spE K 5 Rmr)) :
    FnOk P w K mg base CX0 8 f fd ["_law_script"] (spLaw K) := by
  have GBx : FnOk P w K mg base CX0 1 aBx dBx ["_law_script", "_law_k"] (spN K 2 Rbx) := ok_bx T HBx.F
  have GLv : FnOk P w K mg base CX0 1 aLv dLv ["_law_courses_here"] (spEN K 1 Rlv) := ok_lv T HLv.F
  have GEn : FnOk P w K mg base CX0 1 aEn dEn ["_law_courses_here"] (spR K 1 Ren) := ok_en T HEn.F
  have GDe : FnOk P w K mg base CX0 1 aDe dDe ["_law_courses_here"] (spR K 1 Rde) := ok_de T HDe.F
  have GTk : FnOk P w K mg base CX0 1 aTk dTk ["_law_box_here", "_law_many"] (spW K 2 Rtk) := ok_tk T HTk.F
  have GMv : FnOk P w K mg base CX0 1 aMv dMv ["_law_leaving_here", "_law_ends_here", "_law_pile"] (spE K 3 Rmv) := ok_mv T HMv.F
  have GAi : FnOk P w K mg base CX0 1 aAi dAi ["_law_some", "_law_others"] (spE K 2 Rai) := ok_ai T HAi.F
  have GPk : FnOk P w K mg base CX0 2 aPk dPk ["_law_box_here", "_law_some"] (spE K 2 Rpk) := ok_pk T HPk.F HTk
  have GSu : FnOk P w K mg base CX0 1 aSu dSu ["_law_table", "_law_pile"] (spE K 2 Rsu) := ok_su T HSu.F
  refine F.ok scLw (fun vs H Q E hs => ?_) fun cdv A outer s H vs Q E hr hs => ?_
  · obtain ⟨a, ns, rfl, _⟩ := hs
    rfl
  obtain ⟨a, ns, rfl, hS, hlen, kk⟩ := hs
  have nd := scLw.nd
  have hr1 : Room 1 _ := hr.mono (by decide)
  have hr2 : Room 2 _ := hr.mono (by decide)
  have hr5 : Room 5 _ := hr.mono (by decide)
  refine ⟨_, (pss_cons (ps_for PassesOwn.never rfl (pi_range1 (by rfl) T.range (pa_cons (pe_callB (call_max2 rfl) (by rfl) T.max (by decide +kernel) (pa_cons pe_int (pa_cons (pe_callB (call_min2 rfl) (by rfl) T.min (by decide +kernel) (pa_cons pe_int (pa_cons (pe_callB call_len_seq (by rfl) T.len PySem.boot_len (pa_cons (pv 0) pa_nil)) pa_nil))) pa_nil))) pa_nil)) (pg_name (i := 1) nd rfl (Or.inl rfl)) (pss_cons (ps_set (i := 2) nd rfl (Or.inl rfl) (pe_call GBx hr1 rfl HBx.m HBx.F.kp HBx.b .nil pass0 (pa_cons (pv 0) (pa_cons (pv 1) pa_nil))))
 (pss_cons (ps_set (i := 3) nd rfl (Or.inl rfl) (pe_call GCs hr5 rfl HCs.m HCs.F.kp HCs.b .nil pass0 (pa_cons (pv 2) pa_nil)))
 (pss_cons (ps_par3 (i := 9) (j := 10) (l := 11) (by rfl) nd rfl rfl rfl (by decide) (by decide) (by decide) rfl rfl rfl (pa_cons (pe_make MkB GBi hr rfl T.mgC bBi .nil pass0 (pa_cons (pv 3) pa_nil)) (pa_cons (pe_call GLv hr1 rfl HLv.m HLv.F.kp HLv.b .nil pass0 (pa_cons (pv 3) pa_nil)) (pa_cons (pe_call GEn hr1 rfl HEn.m HEn.F.kp HEn.b .nil pass0 (pa_cons (pv 3) pa_nil)) pa_nil))) (by rfl))
 (pss_cons (ps_par (i := 12) (j := 13) (by rfl) nd rfl rfl (by decide) rfl rfl (pa_cons (pe_call GDe hr1 rfl HDe.m HDe.F.kp HDe.b .nil pass0 (pa_cons (pv 3) pa_nil)) (pa_cons (pe_tup (pa_cons (pe_ix ix_tup (pe_ix ix_tup (pv 3) pe_int (fun _ _ => rfl)) pe_int (fun _ _ => rfl)) (pa_cons pe_int pa_nil))) pa_nil)) (by rfl))
 (pss_cons (ps_asg (pe_tup (pa_cons pe_dnewK (pa_cons pe_dnewK pa_nil))) (pg_tup rfl (pgs_cons (pg_name (i := 14) nd rfl (Or.inr rfl)) (pgs_cons (pg_name (i := 15) nd rfl (Or.inl rfl)) pgs_nil))))
 (pss_cons (ps_for PassesOwn.never rfl (pi_list (pv 12)) (pg_name (i := 4) nd rfl (Or.inl rfl)) (pss_one (ps_asg (pe_tup (pa_cons (pe_call GTk hr1 rfl HTk.m HTk.F.kp HTk.b .nil pass0 (pa_cons (pv 2) (pa_cons pe_int pa_nil))) (pa_cons (pe_call GTk hr1 rfl HTk.m HTk.F.kp HTk.b .nil pass0 (pa_cons (pv 2) (pa_cons pe_int pa_nil))) pa_nil))) (pg_tup rfl (pgs_cons (pg_sub (pv 14) (pv 4) (set_dict (hu_of hr))) (pgs_cons (pg_sub (pv 15) (pv 4) (set_dict (hu_of hr))) pgs_nil))))))
 (pss_cons (ps_set (i := 5) nd rfl (Or.inr rfl) (pe_call GPw hr5 rfl HPw.m HPw.F.kp HPw.b .nil pass0 (pa_cons (pv 9) (pa_cons (pv 14) pa_nil))))
 (pss_cons (ps_set (i := 6) nd rfl (Or.inl rfl) (pe_tup (pa_cons (pv 14) (pa_cons (pe_call GLp hr5 rfl HLp.m HLp.F.kp HLp.b .nil pass0 (pa_cons (pv 9) (pa_cons (pv 14) pa_nil))) (pa_cons (pv 5) (pa_cons (pe_call GCa hr5 rfl HCa.m HCa.F.kp HCa.b .nil pass0 (pa_cons (pv 9) (pa_cons (pv 5) pa_nil))) pa_nil))))))
 (pss_cons (ps_set (i := 7) nd rfl (Or.inl rfl) (pe_tup (pa_cons (pv 15) (pa_cons (pe_call GLp hr5 rfl HLp.m HLp.F.kp HLp.b .nil pass0 (pa_cons (pv 9) (pa_cons (pv 15) pa_nil))) pa_nil))))
 (pss_cons (ps_par (i := 16) (j := 17) (by rfl) nd rfl rfl (by decide) rfl rfl (pa_cons (pe_ifExp (pt_cmp (pc_din (hu_of hr) (pv 13) (pv 5))) (pe_tup (pa_cons (pv 13) pa_nil)) (pe_tup pa_nil)) (pa_cons pe_int pa_nil)) (by rfl))
 (pss_cons (ps_for PassesOwn.never rfl (pi_range1 (by rfl) T.range (pa_cons pe_int pa_nil)) (pg_name (i := 8) nd rfl (Or.inl rfl)) (pss_cons (ps_if (pt_not (pt_val (pe_call GMr hr2 rfl HMr.m HMr.F.kp HMr.b .nil pass0 (pa_cons (pv 10) (pa_cons (pv 12) (pa_cons (pv 6) (pa_cons (pv 7) (pa_cons (pv 16) pa_nil)))))))) (pss_one (ps_ret pe_bl)) pss_nil)
 (pss_cons (ps_setLc (i := 18) (own := [("_law_pair", 20)]) (g := (gName 20)) rfl nd rfl rfl (sw_true rfl rfl rfl (by decide +kernel)) (pi_list (pe_call GMv hr1 rfl HMv.m HMv.F.kp HMv.b .nil pass0 (pa_cons (pv 10) (pa_cons (pv 11) (pa_cons (pv 16) pa_nil))))) (blkOk_by (N := nLw) (sc := defScope sLw) (by decide +kernel)) (fun _ _ _ _ _ => (pg_name (i := 20) nd rfl (Or.inl rfl))) (fun _ _ _ _ _ => (pts_one (pt_val (pe_call GAi hr1 rfl HAi.m HAi.F.kp HAi.b .nil pass0 (pa_cons (pe_ix (kix_tup (K := K) rfl) (pv 20) pe_int (fun _ _ => rfl)) (pa_cons (pv 5) pa_nil)))))) (fun _ _ _ _ _ => (pv 20)))
 (pss_one (ps_if (pt_cmpR (op_neD hr.units) (pv 18) (pe_lst pa_nil) (nomark _)) (pss_cons (ps_asg (pe_call GPk hr2 rfl HPk.m HPk.F.kp HPk.b .nil pass0 (pa_cons (pv 2) (pa_cons (pv 18) pa_nil))) (pg_tup rfl (pgs_cons (pg_name (i := 21) nd rfl (Or.inr rfl)) (pgs_cons (pg_name (i := 22) nd rfl (Or.inl rfl)) pgs_nil))))
 (pss_cons (ps_set (i := 19) nd rfl (Or.inl rfl) (pe_callB (cr_sum rfl) (by rfl) T.sum (by decide +kernel) (pa_cons (pe_lc (own := [("_law_entry", 23)]) (g := (gName 23)) rfl nd (pi_list (pe_dget (hu_of hr) (pv 10) (pe_ix ix_tup (pv 16) pe_int (fun _ _ => rfl)) (fun _ _ => rfl))) (blkOk_by (N := nLw) (sc := defScope sLw) (by decide +kernel)) (fun _ _ _ _ _ => (pg_name (i := 23) nd rfl (Or.inl rfl))) (fun _ _ _ _ _ => (pts_one (PW.pt (pw_and (pt_cmpR (kop_eqD (K := K) rfl hr.units) (pe_ix (kix_tup (K := K) rfl) (pv 23) pe_int (fun _ _ => rfl)) (pv 21) (nomark _)) (pw_and1 (pt_cmpR op_notN (pe_ix (kix_tup (K := K) rfl) (pv 23) pe_int (fun _ _ => rfl)) pe_non (nomark _))))))) (fun _ _ _ _ _ => (pe_dget (hu_of hr) (pv 14) (pe_ix (kix_tup (K := K) rfl) (pv 23) pe_int (fun _ _ => rfl)) (fun _ _ => rfl)))) pa_nil)))
 (pss_cons (ps_if (pt_cmpR op_lt (pe_op op_add (pv 19) (pe_call GSu hr1 rfl HSu.m HSu.F.kp HSu.b .nil pass0 (pa_cons (pe_ix ix_tup (pv 6) pe_int (fun _ _ => rfl)) (pa_cons (pv 22) pa_nil)))) (pe_call GSu hr1 rfl HSu.m HSu.F.kp HSu.b .nil pass0 (pa_cons (pe_ix ix_tup (pv 6) pe_int (fun _ _ => rfl)) (pa_cons (pv 16) pa_nil))) (nomark _)) (pss_one (ps_ret pe_bl)) pss_nil)
 (pss_one (ps_par (i := 16) (j := 17) (by rfl) nd rfl rfl (by decide) rfl rfl (pa_cons (pv 22) (pa_cons (pe_op op_add (pv 17) (pv 19)) pa_nil)) (by rfl)))))) pss_nil)))))
 (pss_one (ps_if (PW.pt (pw_and (pt_cmp (pc_din (hu_of hr) (pv 13) (pv 5))) (pw_and1 (pt_cmpR op_lt (pe_op op_add (pv 17) (pe_call GSu hr1 rfl HSu.m HSu.F.kp HSu.b .nil pass0 (pa_cons (pe_ix ix_tup (pv 6) pe_int (fun _ _ => rfl)) (pa_cons (pv 16) pa_nil)))) (pe_dget (hu_of hr) (pe_ix ix_tup (pv 6) pe_int (fun _ _ => rfl)) (pv 13) (fun _ _ => rfl)) (nomark _))))) (pss_one (ps_ret pe_bl)) pss_nil))))))))))))))
 (pss_one (ps_ret pe_bl))), ?_⟩
  have hd0 : FD.DpAll K (hide [] H) (ns.map V.int) (ns.map PyData.int) := dp_ints ns
  have hh : hide [] H = H := by funext a; exact hide_out (fun z => nomatch z)
  rw [hh] at hd0
  suffices hrun : ∀ D : Ends, Fin ⟨K, [], H, hide [] H⟩ D (.bool true) → FD.Run ⟨K, [], H, hide [] H⟩ _ D [] (startE nLw.length 1 [.d (.list (ns.map .int))]) [] by
    refine hrun _ (fun v H' _ r => ?_) _ _ (ok_startD (ds := [.list (ns.map .int)]) (fun _ z => nomatch z) (.cons (.lst (by rw [hh]; exact hS) (by rw [hh]; exact hd0)) .nil) (by show 1 ≤ 24; decide))
    rw [Dp.bool_of r]
    exact kk _
  intro D fin
  show FD.Run _ _ D [] [.d (.list (ns.map .int)), .u, .u, .u, .u, .u, .u, .u, .u, .u, .u, .u, .u, .u, .u, .u, .u, .u, .u, .u, .u, .u, .u, .u] []
  refine q_for (i_rng1 (a_cons (x_cbP (a_cons x_int (a_cons (x_cbP (a_cons x_int (a_cons (x_cbP (a_cons (x_vd rfl) a_nil) (c_lenL (.d _))) a_nil)) c_min2) a_nil)) c_max2) a_nil) ?_ ?_)
    (fun i δ μ => ∃ e1 e2 e3 e4 e5 e6 e7 e8 e9 e10 e11 e12 e13 e14 e15 e16 e17 e18 e19 e20 e21 e22 e23, δ = [.d (.list (ns.map .int)), e1, e2, e3, e4, e5, e6, e7, e8, e9, e10, e11, e12, e13, e14, e15, e16, e17, e18, e19, e20, e21, e22, e23] ∧ μ = []) ⟨_, _, _, _, _, _, _, _, _, _, _, _, _, _, _, _, _, _, _, _, _, _, _, rfl, rfl⟩ ?_ ?_
  · rw [List.length_map]; repeat' split <;> omega
  · rw [List.length_map]; repeat' split <;> omega
  · rintro B' hB k d δ1 μ1 hi ⟨e1, e2, e3, e4, e5, e6, e7, e8, e9, e10, e11, e12, e13, e14, e15, e16, e17, e18, e19, e20, e21, e22, e23, rfl, rfl⟩
    obtain ⟨hi3, rfl⟩ : k < 64 ∧ d = .int (k : Int) := by
      have hl := (List.getElem?_eq_some_iff.mp hi).1
      rw [rngD_length] at hl
      rw [rngD_get hl, Int.zero_add] at hi
      refine ⟨?_, (Option.some.inj hi).symm⟩
      rw [List.length_map] at hl
      revert hl
      repeat' split
      all_goals omega
    refine ⟨[1], _, tg_name, ?_⟩
    show FD.Run _ _ _ [] [.d (.list (ns.map .int)), .d (.int (k : Int)), e2, e3, e4, e5, e6, e7, e8, e9, e10, e11, e12, e13, e14, e15, e16, e17, e18, e19, e20, e21, e22, e23] []
    refine q_asgN (ds := [.list (ns.map .int), .int (k : Int)]) (es := (bxOf ns k).ds) (a_cons (x_vd rfl) (a_cons (x_vd rfl) a_nil)) ⟨ns, k, rfl, by omega, rfl⟩ fun p hp => ?_
    show FD.Run _ _ _ [p] [.d (.list (ns.map .int)), .d (.int (k : Int)), .m p, e3, e4, e5, e6, e7, e8, e9, e10, e11, e12, e13, e14, e15, e16, e17, e18, e19, e20, e21, e22, e23] [(p, .lst (bxOf ns k).ds)]
    generalize bxOf ns k = b0
    refine q_asg (x_callE (μ0' := [(p, .lst (bokB b0).ds)]) (μ2 := [(p, .lst (bokB b0).ds)]) (a_cons (x_vm rfl) a_nil) (swap_all rfl) (by simp [ad]) ⟨p, b0, rfl, rfl, rfl, rfl⟩) ?_
    have ok := bok_ok b0
    have hn := bok_n b0
    have hcl : (bokV b0).length ≤ 3 := by rw [bok_len]; exact (cMany_le b0).2
    have hcl2 : 2 ≤ (bokV b0).length := by rw [bok_len]; exact (cMany_le b0).1
    generalize bokV b0 = cs at ok hn hcl hcl2
    generalize bokB b0 = b1
    show FD.Run _ _ _ [p] [.d (.list (ns.map .int)), .d (.int (k : Int)), .m p, .d (bokD cs), e4, e5, e6, e7, e8, e9, e10, e11, e12, e13, e14, e15, e16, e17, e18, e19, e20, e21, e22, e23] [(p, .lst b1.ds)]
    obtain ⟨c0, hc0⟩ : ∃ c0, cs[0]? = some c0 := ⟨_, List.getElem?_eq_getElem (by omega)⟩
    have c0m := List.mem_of_getElem? hc0
    have c0k := ok.ok c0 c0m
    obtain ⟨st, hst⟩ : ∃ st : Stg, st = (c0.nm, 0) := ⟨_, rfl⟩
    have stm : st ∈ stages cs := stages_mem.mpr ⟨c0, c0m, by rw [hst], by rw [hst]; exact c0k.n1⟩
    refine q_par3 (a_cons (x_make (a_cons (x_vd rfl) a_nil) ⟨cs, rfl, ok, rfl⟩) (a_cons (x_newT (n_callEN (a_cons (x_vd rfl) a_nil) (swap_nil _) (by simp) ⟨cs, rfl, rfl, rfl, ok, rfl⟩)) (a_cons (x_callR (ds := [bokD cs]) (a_cons (x_vd rfl) a_nil) ⟨cs, rfl, ok, rfl⟩) a_nil))) ?_
    refine q_par (a_cons (x_callR (ds := [bokD cs]) (a_cons (x_vd rfl) a_nil) ⟨cs, rfl, ok, rfl⟩) (a_cons (x_is (e1 := .d (stD st)) (x_tup (ds := [.str c0.nm, .int 0]) (a_cons (x_op (x_op (x_vd rfl) x_int (o_ixT (ds := cs.map crsD) (d := crsD c0) (atI_nat (j := 0) (by rw [List.getElem?_map, hc0]; rfl)))) x_int (o_ixT (d := .str c0.nm) rfl)) (a_cons x_int a_nil)) (by simp)) (by rw [hst]; rfl)) a_nil)) ?_
    show FD.Run _ _ _ [p] [.d (.list (ns.map .int)), .d (.int (k : Int)), .m p, .d (bokD cs), e4, e5, e6, e7, e8, .g (gBook Cb cs), .g (gDT (lvT cs)), .d (.list ((endsL cs).map stD)), .d (.list ((deeds cs).map .str)), .d (stD st), e14, e15, e16, e17, e18, e19, e20, e21, e22, e23] [(p, .lst b1.ds)]
    have dl := deeds_len ok
    have ndd := deeds_nd cs
    refine q_twoD fun pp po ppM poM => ?_
    show FD.Run _ _ _ [po, pp, p] [.d (.list (ns.map .int)), .d (.int (k : Int)), .m p, .d (bokD cs), e4, e5, e6, e7, e8, .g (gBook Cb cs), .g (gDT (lvT cs)), .d (.list ((endsL cs).map stD)), .d (.list ((deeds cs).map .str)), .d (stD st), .m pp, .m po, e16, e17, e18, e19, e20, e21, e22, e23] [(po, .dK (kd [])), (pp, .dK (kd [])), (p, .lst b1.ds)]
    refine q_forA (l := deeds cs) (enc := .str) (i_list (x_vd rfl)) (fun i δ μ => ∃ (wt wo : Str → Nat) (b : Box) (e4 : Ent), δ = [.d (.list (ns.map .int)), .d (.int (k : Int)), .m p, .d (bokD cs), e4, e5, e6, e7, e8, .g (gBook Cb cs), .g (gDT (lvT cs)), .d (.list ((endsL cs).map stD)), .d (.list ((deeds cs).map .str)), .d (stD st), .m pp, .m po, e16, e17, e18, e19, e20, e21, e22, e23] ∧ μ = [(po, .dK (kd (wK wo ((deeds cs).take i)))), (pp, .dK (kd (wK wt ((deeds cs).take i)))), (p, .lst b.ds)] ∧ (∀ x, wt x ≤ 9) ∧ ∀ x, wo x ≤ 9)
      ⟨fun _ => 0, fun _ => 0, b1, _, rfl, rfl, fun _ => Nat.zero_le _, fun _ => Nat.zero_le _⟩ ?_ ?_
    · rintro B2 xB2 i x δ2 μ2 hx ⟨wt, wo, b, e4, rfl, rfl, hw, hw'⟩
      refine ⟨_, _, tg_name, ?_⟩
      show FD.Run _ _ _ [po, pp, p] [.d (.list (ns.map .int)), .d (.int (k : Int)), .m p, .d (bokD cs), .d (.str x), e5, e6, e7, e8, .g (gBook Cb cs), .g (gDT (lvT cs)), .d (.list ((endsL cs).map stD)), .d (.list ((deeds cs).map .str)), .d (stD st), .m pp, .m po, e16, e17, e18, e19, e20, e21, e22, e23] [(po, .dK (kd (wK wo ((deeds cs).take i)))), (pp, .dK (kd (wK wt ((deeds cs).take i)))), (p, .lst b.ds)]
      have v1 := tkV_lt (b := b) (n := 10) (by decide)
      have v2 := tkV_lt (b := tkB b 10) (n := 10) (by decide)
      have z1 : tkV b 10 = (((tkV b 10).toNat : Nat) : Int) := by omega
      have z2 : tkV (tkB b 10) 10 = (((tkV (tkB b 10) 10).toNat : Nat) : Int) := by omega
      have ll : ∀ v : Str → Nat, (wK v ((deeds cs).take i)).length < 1000 := fun v => by
        unfold wK
        rw [List.length_map, List.length_take]; omega
      refine r_twoPut (i := 14) (j := 15) (n := 4) (k := x) (m := 1) (m2 := 0) (a := pp) (b := po) (d1 := .int (tkV b 10)) (d2 := .int (tkV (tkB b 10) 10)) (l1 := wK wt ((deeds cs).take i)) (l2 := wK wo ((deeds cs).take i)) (μ1 := [(po, .dK (kd (wK wo ((deeds cs).take i)))), (pp, .dK (kd (wK wt ((deeds cs).take i)))), (p, .lst (tkB (tkB b 10) 10).ds)])
        (x_tup (ds := [.int (tkV b 10), .int (tkV (tkB b 10) 10)]) (a_cons (x_takeJ 2 (x_vm rfl) x_int rfl (by decide) (by decide)) (a_cons (x_takeJ 2 (x_vm rfl) x_int rfl (by decide) (by decide)) a_nil)) (by simp)) rfl rfl rfl rfl (ll wt) rfl (ll wo) (by decide) ?_
      refine fun σ H o => ⟨_, _, ⟨fun y => if y = x then (tkV b 10).toNat else wt y, fun y => if y = x then (tkV (tkB b 10) 10).toNat else wo y, tkB (tkB b 10) 10, .d (.str x), rfl, ?_, fun y => ?_, fun y => ?_⟩, o⟩
      · rw [← putDc_w wt ndd hx, ← putDc_w wo ndd hx, ← z1, ← z2]; rfl
      · show (if y = x then (tkV b 10).toNat else wt y) ≤ 9
        split
        · omega
        · exact hw y
      · show (if y = x then (tkV (tkB b 10) 10).toNat else wo y) ≤ 9
        split
        · omega
        · exact hw' y
    rintro δ2 μ2 ⟨wt, wo, b, e4, rfl, rfl, hw, hw'⟩
    rw [List.take_length]
    refine run_settleK (i := 15) (p := po) (l := wK wo (deeds cs)) poM (fun a ha => nomatch ha) rfl ?_
    refine run_settleK (i := 14) (p := pp) (l := wK wt (deeds cs)) ppM (fun a ha => nomatch ha) rfl ?_
    show FD.Run _ _ _ [p] [.d (.list (ns.map .int)), .d (.int (k : Int)), .m p, .d (bokD cs), e4, e5, e6, e7, e8, .g (gBook Cb cs), .g (gDT (lvT cs)), .d (.list ((endsL cs).map stD)), .d (.list ((deeds cs).map .str)), .d (stD st), .g (gDK (wK wt (deeds cs))), .g (gDK (wK wo (deeds cs))), e16, e17, e18, e19, e20, e21, e22, e23] [(p, .lst b.ds)]
    refine q_asg (x_newT (n_callEN (a_cons (x_vg rfl) (a_cons (x_vg rfl) a_nil)) (swap_nil _) (by simp) ⟨cs, wt, deeds cs, rfl, rfl, rfl, ok, dsOk_deeds cs, rfl⟩)) ?_
    refine q_asg (e := .g (toldG cs wt)) (x_tupG (a_cons (x_vg rfl) (a_cons (x_newT (n_callEN (a_cons (x_vg rfl) (a_cons (x_vg rfl) a_nil)) (swap_nil _) (by simp) ⟨cs, wt, deeds cs, rfl, rfl, rfl, ok, dsOk_deeds cs, rfl⟩)) (a_cons (x_vg rfl) (a_cons (x_newT (n_callEN (a_cons (x_vg rfl) (a_cons (x_vg rfl) a_nil)) (swap_nil _) (by simp) ⟨cs, wt, rfl, rfl, rfl, ok, rfl⟩)) a_nil)))) (.cons (entG_g _) (.cons (entG_g _) (.cons (entG_g _) (.cons (entG_g _) .nil)))) (by simp)) ?_
    refine q_asg (e := .g (othG cs wo)) (x_tupG (a_cons (x_vg rfl) (a_cons (x_newT (n_callEN (a_cons (x_vg rfl) (a_cons (x_vg rfl) a_nil)) (swap_nil _) (by simp) ⟨cs, wo, deeds cs, rfl, rfl, rfl, ok, dsOk_deeds cs, rfl⟩)) a_nil)) (.cons (entG_g _) (.cons (entG_g _) .nil)) (by simp)) ?_
    show FD.Run _ _ _ [p] [.d (.list (ns.map .int)), .d (.int (k : Int)), .m p, .d (bokD cs), e4, .g (gDT (pwT wt cs)), .g (toldG cs wt), .g (othG cs wo), e8, .g (gBook Cb cs), .g (gDT (lvT cs)), .d (.list ((endsL cs).map stD)), .d (.list ((deeds cs).map .str)), .d (stD st), .g (gDK (wK wt (deeds cs))), .g (gDK (wK wo (deeds cs))), e16, e17, e18, e19, e20, e21, e22, e23] [(p, .lst b.ds)]
    have hin : ∀ {C : Cfg} {M : List Addr} {δ : List Ent} {μ : Mem}, δ[13]? = some (.d (stD st)) → δ[5]? = some (.g (gDT (pwT wt cs))) → EvX C (tDIn (tVar 13) (tVar 5)) M δ μ μ (.d (.bool (decide (st ∈ keysL wt cs)))) := fun {C M δ μ} h1 h2 => by
      refine x_is (x_tin (k := stK st) (x_vd h1) (x_vg h2) (.g (pwT wt cs))) ?_
      unfold pwT
      rw [isSome_enc]
      unfold CK.has
      by_cases h : st ∈ keysL wt cs
      · rw [val_tab _ h, decide_eq_true h]; rfl
      · rw [val_tabN _ h, decide_eq_false h]; rfl
    obtain ⟨p0, hp0⟩ : ∃ p0 : List Stg, p0 = if st ∈ keysL wt cs then [st] else [] := ⟨_, rfl⟩
    refine q_par (e1 := .d (tupD p0)) (a_cons (x_if (μ2 := [(p, .lst b.ds)]) (b := decide (st ∈ keysL wt cs)) (t_test (hin rfl rfl)) (fun hb => ?_) fun hb => ?_) (a_cons x_int a_nil)) ?_
    · rw [hp0, if_pos (of_decide_eq_true hb)]
      exact x_tup (ds := [stD st]) (a_cons (x_vd rfl) a_nil) (by simp)
    · rw [hp0, if_neg (of_decide_eq_false hb)]
      exact x_tup (ds := []) a_nil (by simp)
    show FD.Run _ _ _ [p] (lawE Cb ns k p cs wt wo st e4 e8 p0 0 e18 e19 e20 e21 e22 e23) [(p, .lst b.ds)]
    refine q_for (i_rng1 (a_cons x_int a_nil) (by decide) (by decide)) (fun t δ μ => ∃ (pile : List Stg) (paid : Nat) (b : Box) (e8 e18 e19 e20 e21 e22 e23 : Ent), δ = lawE Cb ns k p cs wt wo st e4 e8 pile paid e18 e19 e20 e21 e22 e23 ∧ μ = [(p, .lst b.ds)] ∧ (∀ s ∈ pile, s ∈ keysL wt cs) ∧ pile.length ≤ 1 + t ∧ (st ∈ keysL wt cs → (CK.g (TT wt cs) st).1 ≤ paid + sumT wt cs pile))
      ⟨p0, 0, b, _, _, _, _, _, _, _, rfl, rfl, fun s hs => ?_, ?_, fun h => ?_⟩ ?_ ?_
    · rw [hp0] at hs
      by_cases h : st ∈ keysL wt cs
      · rw [if_pos h] at hs; rw [List.mem_singleton.mp hs]; exact h
      · rw [if_neg h] at hs; cases hs
    · rw [hp0]; split <;> simp
    · rw [hp0, if_pos h]
      show _ ≤ 0 + ((CK.g (TT wt cs) st).1 + 0)
      omega
    · rintro B3 xB3 t d1 δ3 μ3 hd1 ⟨pile, paid, b, e8, e18, e19, e20, e21, e22, e23, rfl, rfl, hk, hpl, hst2⟩
      have ht : t < 12 := by
        have hl := (List.getElem?_eq_some_iff.mp hd1).1
        rw [rngD_length] at hl
        have : (12 : Int).toNat = 12 := rfl
        omega
      refine ⟨_, _, tg_name, ?_⟩
      show FD.Run _ _ _ [p] (lawE Cb ns k p cs wt wo st e4 (.d d1) pile paid e18 e19 e20 e21 e22 e23) [(p, .lst b.ds)]
      have hkm : ∀ s ∈ pile, s ∈ stages cs := fun s hs => keysL_st (hk s hs)
      refine q_no (μ' := [(p, .lst b.ds)]) (t_notT (t_test (x_callE0 (a_cons (x_vg rfl) (a_cons (x_vd rfl) (a_cons (x_vg rfl) (a_cons (x_vg rfl) (a_cons (x_vd rfl) a_nil))))) ⟨cs, wt, wo, pile, rfl, rfl, rfl, ok, hn, hcl, hw, hw', hk, by omega, rfl⟩))) ?_
      obtain ⟨opts, hopts⟩ : ∃ opts : List Mv, opts = (movesL cs pile).filter fun m => m.2.all fun x => decide (x ∈ keysL wt cs) := ⟨_, rfl⟩
      have oml : ∀ m ∈ movesL cs pile, m.2.length ≤ 20 := fun m hm => by have := moves_len hm; omega
      have omn : (movesL cs pile).length ≤ 100 := by
        cases pile with
        | nil => exact Nat.zero_le _
        | cons s r =>
          obtain ⟨cm, cn⟩ := crs_mem (stg_crs (hkm s List.mem_cons_self))
          have ls := exL_len (i := s.2) (ok.ok _ cm).few
          unfold movesL
          rw [List.length_append, List.length_map]
          split <;> simp <;> omega
      refine q_asg (e := .d (.list (opts.map mvD))) (x_is (x_lcF (l := movesL cs pile) (enc := mvD) (p := fun m => m.2.all fun x => decide (x ∈ keysL wt cs)) (f := mvD) (i_list (x_callE0 (a_cons (x_vg rfl) (a_cons (x_vd rfl) (a_cons (x_vd rfl) a_nil))) ⟨cs, pile, rfl, rfl, rfl, ok, hkm, by omega, rfl⟩)) (by omega) (ts := [20]) (fun m => lawE Cb ns k p cs wt wo st e4 (.d d1) pile paid e18 e19 (.d (mvD m)) e21 e22 e23) (fun m hm => tg_name) (fun k hk => hk) (fun m hm G4 B4 D4 => t_test (x_callE0 (a_cons (x_op (x_vd rfl) x_int (o_ixT (d := tupD m.2) rfl)) (a_cons (x_vg rfl) a_nil)) ⟨cs, wt, m.2, rfl, rfl, rfl, by have := oml m hm; omega, rfl⟩)) (fun m hm hb G4 B4 D4 => x_vd rfl)) (by rw [hopts])) ?_
      show FD.Run _ _ _ [p] (lawE Cb ns k p cs wt wo st e4 (.d d1) pile paid (.d (.list (opts.map mvD))) e19 e20 e21 e22 e23) [(p, .lst b.ds)]
      have onm : ∀ m ∈ opts, (m ∈ movesL cs pile) ∧ ∀ x ∈ m.2, x ∈ keysL wt cs := fun m hm => by
        rw [hopts] at hm
        obtain ⟨h1, h2⟩ := List.mem_filter.mp hm
        exact ⟨h1, fun x hx => of_decide_eq_true (List.all_eq_true.mp h2 x hx)⟩
      have oshp : SeqAt.shaped (.list (opts.map mvD)) = true := sh_mvs fun m hm s hs => stg_nm ok (keysL_st ((onm m hm).2 s hs))
      have ol : opts.length ≤ 100 := by
        rw [hopts]
        exact Nat.le_trans (List.length_filter_le _ _) omn
      refine r_if (b := !(opts.map mvD).isEmpty) (t_is (t_test (x_op (x_vd rfl) (x_lst (ds := []) a_nil (by simp)) (o_neD (.d _) (.d _) oshp sh_nilL))) (by rw [eqv_nil])) (fun hb => ?_) fun hb => ?_
      · have hpos : 0 < opts.length := by
          cases opts with
          | nil => cases hb
          | cons m l => exact Nat.succ_pos _
        have hv := tkV_lt (b := b) (n := ((opts.map mvD).length : Int)) (by rw [List.length_map]; omega)
        obtain ⟨m, hm⟩ : ∃ m, opts[(tkV b ((opts.map mvD).length : Int)).toNat]? = some m := ⟨_, List.getElem?_eq_getElem (by rw [List.length_map] at hv ⊢; omega)⟩
        obtain ⟨hmm, hmk⟩ := onm m (List.mem_of_getElem? hm)
        refine q_asgG (d := mvD m) (x_pickD (x_vm rfl) (x_vd rfl) (by rw [List.length_map]; omega) (by rw [List.length_map]; omega) (by rw [List.getElem?_map, hm]; rfl)) tg_tup2 ?_
        generalize tkB b ((opts.map mvD).length : Int) = b2
        show FD.Run _ _ _ [p] (lawE Cb ns k p cs wt wo st e4 (.d d1) pile paid (.d (.list (opts.map mvD))) e19 e20 (.d (moveD m.1)) (.d (tupD m.2)) e23) [(p, .lst b2.ds)]
        cases pile with
        | nil => cases hmm
        | cons s r =>
          have sm := hkm s List.mem_cons_self
          obtain ⟨cm, cn⟩ := crs_mem (stg_crs sm)
          have ls := exL_len (i := s.2) (ok.ok _ cm).few
          have le := move_le wt ok sm hmm hmk
          obtain ⟨ow, how⟩ : ∃ ow, ow = ownV wt (exL (crs cs s.1) s.2) m.1 := ⟨_, rfl⟩
          rw [← how] at le
          refine q_asg (e := .d (.int (ow : Int))) (x_is (x_cbP (a_cons (x_is (e1 := .d (.list ((((exL (crs cs s.1) s.2).filter fun q => mvEq q m.1 && !q.1.call).map fun q => (wt q.1.nm : Int)).map .int))) (x_lcF (l := exL (crs cs s.1) s.2) (enc := lrow s.1) (p := fun q => mvEq q m.1 && !q.1.call) (f := fun q => .int (wt q.1.nm : Int)) (i_list (x_tgetD (k := stK s) (l := lvT cs) (x_vg rfl) (x_op (x_vd rfl) x_int (o_ixT (d := stD s) (atI_nat (j := 0) rfl))) (.g _) (valG_lv ok sm))) (by omega) (ts := [23]) (fun q => lawE Cb ns k p cs wt wo st e4 (.d d1) (s :: r) paid (.d (.list (opts.map mvD))) e19 e20 (.d (moveD m.1)) (.d (tupD m.2)) (.d (lrow s.1 q))) (fun q hq => tg_name) (fun k hk => hk)
            (fun q hq G4 B4 D4 => t_and (t_is (t_test (x_op (x_op (x_vd rfl) x_int (o_ixT (d := moveD (some q)) rfl)) (x_vd rfl) (o_eqD (.d _) (.d _) (sh_move _) (sh_move _)))) (eqv_move q m.1)) (fun _ => t_is (t_test (x_op (x_op (x_vd rfl) x_int (o_ixT (d := dealD q.1) rfl)) x_non o_notN)) (by rw [isn_deal])) fun _ => rfl)
            (fun q hq hb G4 B4 D4 => ?_)) (by rw [List.map_map]; rfl)) a_nil) (c_sum (.d _))) ?_) ?_
          · have hc : q.1.call = false := by
              rw [Bool.and_eq_true] at hb
              simpa using hb.2
            have ed : dealD q.1 = .str q.1.nm := by unfold dealD; rw [hc]; rfl
            exact x_kget (x_vg rfl) (x_op (x_vd rfl) x_int (o_ixT (d := .str q.1.nm) (by rw [← ed]; rfl))) (valD_wK wt (deeds_mem cm (List.mem_of_getElem? (exL_mem hq).1) hc))
          · have := sum_casts (((exL (crs cs s.1) s.2).filter fun q => mvEq q m.1 && !q.1.call).map fun q => wt q.1.nm)
            rw [List.map_map] at this
            rw [how]
            exact congrArg (fun i : Int => Ent.d (.int i)) this
          show FD.Run _ _ _ [p] (lawE Cb ns k p cs wt wo st e4 (.d d1) (s :: r) paid (.d (.list (opts.map mvD))) (.d (.int (ow : Int))) e20 (.d (moveD m.1)) (.d (tupD m.2)) e23) [(p, .lst b2.ds)]
          have ml := moves_len hmm
          refine q_no (μ' := [(p, .lst b2.ds)]) (t_test (x_op (x_is (e1 := .d (.int ((ow + sumT wt cs m.2 : Nat) : Int))) (x_op (x_vd rfl) (x_callE0 (a_cons (x_op (x_vg rfl) x_int (o_ixG (φ := gDT (lpT wt cs)) rfl)) (a_cons (x_vd rfl) a_nil)) ⟨cs, wt, m.2, rfl, rfl, rfl, hmk, by omega, rfl⟩) o_I0) (by push_cast; rfl)) (x_callE0 (a_cons (x_op (x_vg rfl) x_int (o_ixG (φ := gDT (lpT wt cs)) rfl)) (a_cons (x_vd rfl) a_nil)) ⟨cs, wt, s :: r, rfl, rfl, rfl, hk, by omega, rfl⟩) (o_ltN le))) ?_
          refine r_par (e1 := .d (tupD m.2)) (e2 := .d (.int ((paid + ow : Nat) : Int))) (a_cons (x_vd rfl) (a_cons (x_is (x_op (x_vd rfl) (x_vd rfl) o_I0) (by push_cast; rfl)) a_nil)) ?_
          exact fun σ H o => ⟨_, _, ⟨m.2, paid + ow, b2, _, _, _, _, _, _, _, rfl, rfl, hmk, by omega, fun h => by have := hst2 h; omega⟩, o⟩
      · exact r_next fun σ H o => ⟨_, _, ⟨pile, paid, b, _, _, _, _, _, _, _, rfl, rfl, hk, by omega, hst2⟩, o⟩
    · rintro δ3 μ3 ⟨pile, paid, b, e8, e18, e19, e20, e21, e22, e23, rfl, rfl, hk, hpl, hst2⟩
      rw [rngD_length] at hpl
      have h12 : (12 : Int).toNat = 12 := rfl
      refine r_no (μ' := [(p, .lst b.ds)]) (t_is (t_and (b := decide (st ∈ keysL wt cs)) (c := false) (t_test (hin rfl rfl)) (fun hb => t_test (x_op (x_is (e1 := .d (.int ((paid + sumT wt cs pile : Nat) : Int))) (x_op (x_vd rfl) (x_callE0 (a_cons (x_op (x_vg rfl) x_int (o_ixG (φ := gDT (lpT wt cs)) rfl)) (a_cons (x_vd rfl) a_nil)) ⟨cs, wt, pile, rfl, rfl, rfl, hk, by omega, rfl⟩) o_I0) (by push_cast; rfl)) (x_tgetD (k := stK st) (l := lpT wt cs) (d := .int ((CK.g (TT wt cs) st).1 : Int)) (x_op (x_vg rfl) x_int (o_ixG (φ := gDT (lpT wt cs)) rfl)) (x_vd rfl) (.g _) (valG_tab (fun n : Nat => PyData.int (n : Int)) _ (of_decide_eq_true hb))) (o_ltN (hst2 (of_decide_eq_true hb))))) fun _ => rfl) (Bool.and_false _)) ?_
      exact fun σ H o => ⟨_, _, ⟨_, _, _, _, _, _, _, _, _, _, _, _, _, _, _, _, _, _, _, _, _, _, _, rfl, rfl⟩, (o.mems (μ' := []) (fun _ h => nomatch h) .nil).drop (fun a h => nomatch h) (fun _ h => nomatch h) (fun _ h => nomatch h)⟩
  · rintro δ1 μ1 ⟨e1, e2, e3, e4, e5, e6, e7, e8, e9, e10, e11, e12, e13, e14, e15, e16, e17, e18, e19, e20, e21, e22, e23, rfl, rfl⟩
    exact r_retP x_bl fin
end
end K09
namespace K09
open PySem L2 FD Evl
theorem tops {l : PySem.W.OpenLaw} {w : World} {K : PySem.W.Frag} {h : Heap} {mg : Str → Option Value} {fa C f1 f2 f3 f4 f5 f6 f7 f8 f9 f10 f11 f12 f13 f14 f15 f16 f17 f18 f19 f20 f21 f22 f23 f24 f25 f26 f27 f28 f29 f30 f31 f32 f33 f34 f35 f36 f37 f38 g1 g2 g3 g4 g5 g6 : Addr} (X : K.In h) (G : h.Ns mainGlobals mg) (hfa : mg "law" = some (.ref fa))
    {od1 an1 od2 an2 od3 an3 od4 an4 od5 an5 od6 an6 od7 an7 od8 an8 od9 an9 od10 an10 od11 an11 od12 an12 od13 an13 od14 an14 od15 an15 od16 an16 od17 an17 od18 an18 od19 an19 od20 an20 od21 an21 od22 an22 od23 an23 od24 an24 od25 an25 od26 an26 od27 an27 od28 an28 od29 an29 od30 an30 od31 an31 od32 an32 od33 an33 od34 an34 od35 an35 od36 an36 od37 an37 od38 an38 god1 gan1 god2 gan2 god3 gan3 god4 gan4 god5 gan5 god6 gan6 : Option Addr} {sl1 sl2 sl3 sl4 sl5 sl6 sl7 sl8 sl9 sl10 sl11 sl12 sl13 sl14 sl15 sl16 sl17 sl18 sl19 sl20 sl21 sl22 sl23 sl24 sl25 sl26 sl27 sl28 sl29 sl30 sl31 sl32 sl33 sl34 sl35 sl36 sl37 sl38 gsl1 gsl2 gsl3 gsl4 gsl5 gsl6 : Array (Option Value)} {oc1 kV1 dc1 pm1 cd1 ct1 oc2 kV2 dc2 pm2 cd2 ct2 oc3 kV3 dc3 pm3 cd3 ct3 oc4 kV4 dc4 pm4 cd4 ct4 oc5 kV5 dc5 pm5 cd5 ct5 oc6 kV6 dc6 pm6 cd6 ct6 oc7 kV7 dc7 pm7 cd7 ct7 oc8 kV8 dc8 pm8 cd8 ct8 oc9 kV9 dc9 pm9 cd9 ct9 oc10 kV10 dc10 pm10 cd10 ct10 oc11 kV11 dc11 pm11 cd11 ct11 oc12 kV12 dc12 pm12 cd12 ct12 oc13 kV13 dc13 pm13 cd13 ct13 oc14 kV14 dc14 pm14 cd14 ct14 oc15 kV15 dc15 pm15 cd15 ct15 oc16 kV16 dc16 pm16 cd16 ct16 oc17 kV17 dc17 pm17 cd17 ct17 oc18 kV18 dc18 pm18 cd18 ct18 oc19 kV19 dc19 pm19 cd19 ct19 oc20 kV20 dc20 pm20 cd20 ct20 oc21 kV21 dc21 pm21 cd21 ct21 oc22 kV22 dc22 pm22 cd22 ct22 oc23 kV23 dc23 pm23 cd23 ct23 oc24 kV24 dc24 pm24 cd24 ct24 oc25 kV25 dc25 pm25 cd25 ct25 oc26 kV26 dc26 pm26 cd26 ct26 oc27 kV27 dc27 pm27 cd27 ct27 oc28 kV28 dc28 pm28 cd28 ct28 oc29 kV29 dc29 pm29 cd29 ct29 oc30 kV30 dc30 pm30 cd30 ct30 oc31 kV31 dc31 pm31 cd31 ct31 oc32 kV32 dc32 pm32 cd32 ct32 oc33 kV33 dc33 pm33 cd33 ct33 oc34 kV34 dc34 pm34 cd34 ct34 oc35 kV35 dc35 pm35 cd35 ct35 oc36 kV36 dc36 pm36 cd36 ct36 oc37 kV37 dc37 pm37 cd37 ct37 oc38 kV38 dc38 pm38 cd38 ct38 goc1 gkV1 gdc1 gpm1 gcd1 gct1 goc2 gkV2 gdc2 gpm2 gcd2 gct2 goc3 gkV3 gdc3 gpm3 gcd3 gct3 goc4 gkV4 gdc4 gpm4 gcd4 gct4 goc5 gkV5 gdc5 gpm5 gcd5 gct5 goc6 gkV6 gdc6 gpm6 gcd6 gct6 : Value}
    (a1 : PySem.W.nsIn K mainGlobals "parts_of" = some (some (.ref f1))) (l1 : K.lookup f1 = some ⟨oc1, od1, .func (PySem.W.fnOf "parts_of" "parts_of" (defArgs sPo) (defBody sPo) (defScope sPo) .none kV1 dc1 pm1 an1 cd1 ct1), sl1⟩) (c1 : PySem.W.codeIn K cd1 "parts_of" = true) (k1 : PySem.W.keepIn K (.ref f1) = true)
    (a2 : PySem.W.nsIn K mainGlobals "exits" = some (some (.ref f2))) (l2 : K.lookup f2 = some ⟨oc2, od2, .func (PySem.W.fnOf "exits" "exits" (defArgs sEx) (defBody sEx) (defScope sEx) .none kV2 dc2 pm2 an2 cd2 ct2), sl2⟩) (c2 : PySem.W.codeIn K cd2 "exits" = true) (k2 : PySem.W.keepIn K (.ref f2) = true)
    (a3 : PySem.W.nsIn K mainGlobals "own_weight" = some (some (.ref f3))) (l3 : K.lookup f3 = some ⟨oc3, od3, .func (PySem.W.fnOf "own_weight" "own_weight" (defArgs sOw) (defBody sOw) (defScope sOw) .none kV3 dc3 pm3 an3 cd3 ct3), sl3⟩) (c3 : PySem.W.codeIn K cd3 "own_weight" = true) (k3 : PySem.W.keepIn K (.ref f3) = true)
    (a4 : PySem.W.nsIn K mainGlobals "step_cost" = some (some (.ref f4))) (l4 : K.lookup f4 = some ⟨oc4, od4, .func (PySem.W.fnOf "step_cost" "step_cost" (defArgs sSc) (defBody sSc) (defScope sSc) .none kV4 dc4 pm4 an4 cd4 ct4), sl4⟩) (c4 : PySem.W.codeIn K cd4 "step_cost" = true) (k4 : PySem.W.keepIn K (.ref f4) = true)
    (a5 : PySem.W.nsIn K mainGlobals "least_cost" = some (some (.ref f5))) (l5 : K.lookup f5 = some ⟨oc5, od5, .func (PySem.W.fnOf "least_cost" "least_cost" (defArgs sLc) (defBody sLc) (defScope sLc) .none kV5 dc5 pm5 an5 cd5 ct5), sl5⟩) (c5 : PySem.W.codeIn K cd5 "least_cost" = true) (k5 : PySem.W.keepIn K (.ref f5) = true)
    (a6 : PySem.W.nsIn K mainGlobals "costs_by" = some (some (.ref f6))) (l6 : K.lookup f6 = some ⟨oc6, od6, .func (PySem.W.fnOf "costs_by" "costs_by" (defArgs sCb) (defBody sCb) (defScope sCb) .none kV6 dc6 pm6 an6 cd6 ct6), sl6⟩) (c6 : PySem.W.codeIn K cd6 "costs_by" = true) (k6 : PySem.W.keepIn K (.ref f6) = true)
    (a7 : PySem.W.nsIn K mainGlobals "way_step" = some (some (.ref f7))) (l7 : K.lookup f7 = some ⟨oc7, od7, .func (PySem.W.fnOf "way_step" "way_step" (defArgs sWs) (defBody sWs) (defScope sWs) .none kV7 dc7 pm7 an7 cd7 ct7), sl7⟩) (c7 : PySem.W.codeIn K cd7 "way_step" = true) (k7 : PySem.W.keepIn K (.ref f7) = true)
    (a8 : PySem.W.nsIn K mainGlobals "way_parts" = some (some (.ref f8))) (l8 : K.lookup f8 = some ⟨oc8, od8, .func (PySem.W.fnOf "way_parts" "way_parts" (defArgs sWp) (defBody sWp) (defScope sWp) .none kV8 dc8 pm8 an8 cd8 ct8), sl8⟩) (c8 : PySem.W.codeIn K cd8 "way_parts" = true) (k8 : PySem.W.keepIn K (.ref f8) = true)
    (a9 : PySem.W.nsIn K mainGlobals "sound_order" = some (some (.ref f9))) (l9 : K.lookup f9 = some ⟨oc9, od9, .func (PySem.W.fnOf "sound_order" "sound_order" (defArgs sSo) (defBody sSo) (defScope sSo) .none kV9 dc9 pm9 an9 cd9 ct9), sl9⟩) (c9 : PySem.W.codeIn K cd9 "sound_order" = true) (k9 : PySem.W.keepIn K (.ref f9) = true)
    (a10 : PySem.W.nsIn K mainGlobals "deed_counts" = some (some (.ref f10))) (l10 : K.lookup f10 = some ⟨oc10, od10, .func (PySem.W.fnOf "deed_counts" "deed_counts" (defArgs sDc) (defBody sDc) (defScope sDc) .none kV10 dc10 pm10 an10 cd10 ct10), sl10⟩) (c10 : PySem.W.codeIn K cd10 "deed_counts" = true) (k10 : PySem.W.keepIn K (.ref f10) = true)
    (a11 : PySem.W.nsIn K mainGlobals "added" = some (some (.ref f11))) (l11 : K.lookup f11 = some ⟨oc11, od11, .func (PySem.W.fnOf "added" "added" (defArgs sAd) (defBody sAd) (defScope sAd) .none kV11 dc11 pm11 an11 cd11 ct11), sl11⟩) (c11 : PySem.W.codeIn K cd11 "added" = true) (k11 : PySem.W.keepIn K (.ref f11) = true)
    (a12 : PySem.W.nsIn K mainGlobals "least_prices" = some (some (.ref f12))) (l12 : K.lookup f12 = some ⟨oc12, od12, .func (PySem.W.fnOf "least_prices" "least_prices" (defArgs sLp) (defBody sLp) (defScope sLp) .none kV12 dc12 pm12 an12 cd12 ct12), sl12⟩) (c12 : PySem.W.codeIn K cd12 "least_prices" = true) (k12 : PySem.W.keepIn K (.ref f12) = true)
    (a13 : PySem.W.nsIn K mainGlobals "price_ways" = some (some (.ref f13))) (l13 : K.lookup f13 = some ⟨oc13, od13, .func (PySem.W.fnOf "price_ways" "price_ways" (defArgs sPw) (defBody sPw) (defScope sPw) .none kV13 dc13 pm13 an13 cd13 ct13), sl13⟩) (c13 : PySem.W.codeIn K cd13 "price_ways" = true) (k13 : PySem.W.keepIn K (.ref f13) = true)
    (a14 : PySem.W.nsIn K mainGlobals "counts_along" = some (some (.ref f14))) (l14 : K.lookup f14 = some ⟨oc14, od14, .func (PySem.W.fnOf "counts_along" "counts_along" (defArgs sCa) (defBody sCa) (defScope sCa) .none kV14 dc14 pm14 an14 cd14 ct14), sl14⟩) (c14 : PySem.W.codeIn K cd14 "counts_along" = true) (k14 : PySem.W.keepIn K (.ref f14) = true)
    (a15 : PySem.W.nsIn K mainGlobals "is_integer" = some (some (.ref f15))) (l15 : K.lookup f15 = some ⟨oc15, od15, .func (PySem.W.fnOf "is_integer" "is_integer" (defArgs sIi) (defBody sIi) (defScope sIi) .none kV15 dc15 pm15 an15 cd15 ct15), sl15⟩) (c15 : PySem.W.codeIn K cd15 "is_integer" = true) (k15 : PySem.W.keepIn K (.ref f15) = true)
    (a16 : PySem.W.nsIn K mainGlobals "is_number" = some (some (.ref f16))) (l16 : K.lookup f16 = some ⟨oc16, od16, .func (PySem.W.fnOf "is_number" "is_number" (defArgs sIu) (defBody sIu) (defScope sIu) .none kV16 dc16 pm16 an16 cd16 ct16), sl16⟩) (c16 : PySem.W.codeIn K cd16 "is_number" = true) (k16 : PySem.W.keepIn K (.ref f16) = true)
    (a17 : PySem.W.nsIn K mainGlobals "is_letter" = some (some (.ref f17))) (l17 : K.lookup f17 = some ⟨oc17, od17, .func (PySem.W.fnOf "is_letter" "is_letter" (defArgs sIl) (defBody sIl) (defScope sIl) .none kV17 dc17 pm17 an17 cd17 ct17), sl17⟩) (c17 : PySem.W.codeIn K cd17 "is_letter" = true) (k17 : PySem.W.keepIn K (.ref f17) = true)
    (a18 : PySem.W.nsIn K mainGlobals "is_name" = some (some (.ref f18))) (l18 : K.lookup f18 = some ⟨oc18, od18, .func (PySem.W.fnOf "is_name" "is_name" (defArgs sIn) (defBody sIn) (defScope sIn) .none kV18 dc18 pm18 an18 cd18 ct18), sl18⟩) (c18 : PySem.W.codeIn K cd18 "is_name" = true) (k18 : PySem.W.keepIn K (.ref f18) = true)
    (a19 : PySem.W.nsIn K mainGlobals "is_step" = some (some (.ref f19))) (l19 : K.lookup f19 = some ⟨oc19, od19, .func (PySem.W.fnOf "is_step" "is_step" (defArgs sIs) (defBody sIs) (defScope sIs) .none kV19 dc19 pm19 an19 cd19 ct19), sl19⟩) (c19 : PySem.W.codeIn K cd19 "is_step" = true) (k19 : PySem.W.keepIn K (.ref f19) = true)
    (a20 : PySem.W.nsIn K mainGlobals "is_course" = some (some (.ref f20))) (l20 : K.lookup f20 = some ⟨oc20, od20, .func (PySem.W.fnOf "is_course" "is_course" (defArgs sIo) (defBody sIo) (defScope sIo) .none kV20 dc20 pm20 an20 cd20 ct20), sl20⟩) (c20 : PySem.W.codeIn K cd20 "is_course" = true) (k20 : PySem.W.keepIn K (.ref f20) = true)
    (a21 : PySem.W.nsIn K mainGlobals "check_courses" = some (some (.ref f21))) (l21 : K.lookup f21 = some ⟨oc21, od21, .func (PySem.W.fnOf "check_courses" "check_courses" (defArgs sCc) (defBody sCc) (defScope sCc) .none kV21 dc21 pm21 an21 cd21 ct21), sl21⟩) (c21 : PySem.W.codeIn K cd21 "check_courses" = true) (k21 : PySem.W.keepIn K (.ref f21) = true)
    (a22 : PySem.W.nsIn K mainGlobals "check_together" = some (some (.ref f22))) (l22 : K.lookup f22 = some ⟨oc22, od22, .func (PySem.W.fnOf "check_together" "check_together" (defArgs sCt) (defBody sCt) (defScope sCt) .none kV22 dc22 pm22 an22 cd22 ct22), sl22⟩) (c22 : PySem.W.codeIn K cd22 "check_together" = true) (k22 : PySem.W.keepIn K (.ref f22) = true)
    (a23 : PySem.W.nsIn K mainGlobals "_law_box" = some (some (.ref f23))) (l23 : K.lookup f23 = some ⟨oc23, od23, .func (PySem.W.fnOf "_law_box" "_law_box" (defArgs sBx) (defBody sBx) (defScope sBx) .none kV23 dc23 pm23 an23 cd23 ct23), sl23⟩) (c23 : PySem.W.codeIn K cd23 "_law_box" = true) (k23 : PySem.W.keepIn K (.ref f23) = true)
    (a24 : PySem.W.nsIn K mainGlobals "_law_take" = some (some (.ref f24))) (l24 : K.lookup f24 = some ⟨oc24, od24, .func (PySem.W.fnOf "_law_take" "_law_take" (defArgs sTk) (defBody sTk) (defScope sTk) .none kV24 dc24 pm24 an24 cd24 ct24), sl24⟩) (c24 : PySem.W.codeIn K cd24 "_law_take" = true) (k24 : PySem.W.keepIn K (.ref f24) = true)
    (a25 : PySem.W.nsIn K mainGlobals "_law_pick" = some (some (.ref f25))) (l25 : K.lookup f25 = some ⟨oc25, od25, .func (PySem.W.fnOf "_law_pick" "_law_pick" (defArgs sPk) (defBody sPk) (defScope sPk) .none kV25 dc25 pm25 an25 cd25 ct25), sl25⟩) (c25 : PySem.W.codeIn K cd25 "_law_pick" = true) (k25 : PySem.W.keepIn K (.ref f25) = true)
    (a26 : PySem.W.nsIn K mainGlobals "_law_mixed" = some (some (.ref f26))) (l26 : K.lookup f26 = some ⟨oc26, od26, .func (PySem.W.fnOf "_law_mixed" "_law_mixed" (defArgs sMx) (defBody sMx) (defScope sMx) .none kV26 dc26 pm26 an26 cd26 ct26), sl26⟩) (c26 : PySem.W.codeIn K cd26 "_law_mixed" = true) (k26 : PySem.W.keepIn K (.ref f26) = true)
    (a27 : PySem.W.nsIn K mainGlobals "_law_step" = some (some (.ref f27))) (l27 : K.lookup f27 = some ⟨oc27, od27, .func (PySem.W.fnOf "_law_step" "_law_step" (defArgs sSt) (defBody sSt) (defScope sSt) .none kV27 dc27 pm27 an27 cd27 ct27), sl27⟩) (c27 : PySem.W.codeIn K cd27 "_law_step" = true) (k27 : PySem.W.keepIn K (.ref f27) = true)
    (a28 : PySem.W.nsIn K mainGlobals "_law_course" = some (some (.ref f28))) (l28 : K.lookup f28 = some ⟨oc28, od28, .func (PySem.W.fnOf "_law_course" "_law_course" (defArgs sCo) (defBody sCo) (defScope sCo) .none kV28 dc28 pm28 an28 cd28 ct28), sl28⟩) (c28 : PySem.W.codeIn K cd28 "_law_course" = true) (k28 : PySem.W.keepIn K (.ref f28) = true)
    (a29 : PySem.W.nsIn K mainGlobals "_law_courses" = some (some (.ref f29))) (l29 : K.lookup f29 = some ⟨oc29, od29, .func (PySem.W.fnOf "_law_courses" "_law_courses" (defArgs sCs) (defBody sCs) (defScope sCs) .none kV29 dc29 pm29 an29 cd29 ct29), sl29⟩) (c29 : PySem.W.codeIn K cd29 "_law_courses" = true) (k29 : PySem.W.keepIn K (.ref f29) = true)
    (a30 : PySem.W.nsIn K mainGlobals "_law_leaving" = some (some (.ref f30))) (l30 : K.lookup f30 = some ⟨oc30, od30, .func (PySem.W.fnOf "_law_leaving" "_law_leaving" (defArgs sLv) (defBody sLv) (defScope sLv) .none kV30 dc30 pm30 an30 cd30 ct30), sl30⟩) (c30 : PySem.W.codeIn K cd30 "_law_leaving" = true) (k30 : PySem.W.keepIn K (.ref f30) = true)
    (a31 : PySem.W.nsIn K mainGlobals "_law_ends" = some (some (.ref f31))) (l31 : K.lookup f31 = some ⟨oc31, od31, .func (PySem.W.fnOf "_law_ends" "_law_ends" (defArgs sEn) (defBody sEn) (defScope sEn) .none kV31 dc31 pm31 an31 cd31 ct31), sl31⟩) (c31 : PySem.W.codeIn K cd31 "_law_ends" = true) (k31 : PySem.W.keepIn K (.ref f31) = true)
    (a32 : PySem.W.nsIn K mainGlobals "_law_all_in" = some (some (.ref f32))) (l32 : K.lookup f32 = some ⟨oc32, od32, .func (PySem.W.fnOf "_law_all_in" "_law_all_in" (defArgs sAi) (defBody sAi) (defScope sAi) .none kV32 dc32 pm32 an32 cd32 ct32), sl32⟩) (c32 : PySem.W.codeIn K cd32 "_law_all_in" = true) (k32 : PySem.W.keepIn K (.ref f32) = true)
    (a33 : PySem.W.nsIn K mainGlobals "_law_moves" = some (some (.ref f33))) (l33 : K.lookup f33 = some ⟨oc33, od33, .func (PySem.W.fnOf "_law_moves" "_law_moves" (defArgs sMv) (defBody sMv) (defScope sMv) .none kV33 dc33 pm33 an33 cd33 ct33), sl33⟩) (c33 : PySem.W.codeIn K cd33 "_law_moves" = true) (k33 : PySem.W.keepIn K (.ref f33) = true)
    (a34 : PySem.W.nsIn K mainGlobals "_law_deeds" = some (some (.ref f34))) (l34 : K.lookup f34 = some ⟨oc34, od34, .func (PySem.W.fnOf "_law_deeds" "_law_deeds" (defArgs sDe) (defBody sDe) (defScope sDe) .none kV34 dc34 pm34 an34 cd34 ct34), sl34⟩) (c34 : PySem.W.codeIn K cd34 "_law_deeds" = true) (k34 : PySem.W.keepIn K (.ref f34) = true)
    (a35 : PySem.W.nsIn K mainGlobals "_law_sum" = some (some (.ref f35))) (l35 : K.lookup f35 = some ⟨oc35, od35, .func (PySem.W.fnOf "_law_sum" "_law_sum" (defArgs sSu) (defBody sSu) (defScope sSu) .none kV35 dc35 pm35 an35 cd35 ct35), sl35⟩) (c35 : PySem.W.codeIn K cd35 "_law_sum" = true) (k35 : PySem.W.keepIn K (.ref f35) = true)
    (a36 : PySem.W.nsIn K mainGlobals "_law_closing" = some (some (.ref f36))) (l36 : K.lookup f36 = some ⟨oc36, od36, .func (PySem.W.fnOf "_law_closing" "_law_closing" (defArgs sCl) (defBody sCl) (defScope sCl) .none kV36 dc36 pm36 an36 cd36 ct36), sl36⟩) (c36 : PySem.W.codeIn K cd36 "_law_closing" = true) (k36 : PySem.W.keepIn K (.ref f36) = true)
    (a37 : PySem.W.nsIn K mainGlobals "_law_moment_right" = some (some (.ref f37))) (l37 : K.lookup f37 = some ⟨oc37, od37, .func (PySem.W.fnOf "_law_moment_right" "_law_moment_right" (defArgs sMr) (defBody sMr) (defScope sMr) .none kV37 dc37 pm37 an37 cd37 ct37), sl37⟩) (c37 : PySem.W.codeIn K cd37 "_law_moment_right" = true) (k37 : PySem.W.keepIn K (.ref f37) = true)
    (a38 : PySem.W.nsIn K mainGlobals "law" = some (some (.ref f38))) (l38 : K.lookup f38 = some ⟨oc38, od38, .func (PySem.W.fnOf "law" "law" (defArgs sLw) (defBody sLw) (defScope sLw) .none kV38 dc38 pm38 an38 cd38 ct38), sl38⟩) (c38 : PySem.W.codeIn K cd38 "law" = true) (k38 : PySem.W.keepIn K (.ref f38) = true)
    (ga1 : PySem.W.findIn K (.ref C) "__init__" = some (some (.ref g1))) (gi1 : PySem.W.isFn K (.ref g1) = true) (gl1 : K.lookup g1 = some ⟨goc1, god1, .func (PySem.W.fnOf "__init__" "Book.__init__" (defArgs sBi) (defBody sBi) (defScope sBi) .none gkV1 gdc1 gpm1 gan1 gcd1 gct1), gsl1⟩) (gc1 : PySem.W.codeIn K gcd1 "Book.__init__" = true) (gk1 : PySem.W.keepIn K (.ref g1) = true)
    (ga2 : PySem.W.findIn K (.ref C) "steps" = some (some (.ref g2))) (gi2 : PySem.W.isFn K (.ref g2) = true) (gl2 : K.lookup g2 = some ⟨goc2, god2, .func (PySem.W.fnOf "steps" "Book.steps" (defArgs sBs) (defBody sBs) (defScope sBs) .none gkV2 gdc2 gpm2 gan2 gcd2 gct2), gsl2⟩) (gc2 : PySem.W.codeIn K gcd2 "Book.steps" = true) (gk2 : PySem.W.keepIn K (.ref g2) = true)
    (ga3 : PySem.W.findIn K (.ref C) "is_end" = some (some (.ref g3))) (gi3 : PySem.W.isFn K (.ref g3) = true) (gl3 : K.lookup g3 = some ⟨goc3, god3, .func (PySem.W.fnOf "is_end" "Book.is_end" (defArgs sBe) (defBody sBe) (defScope sBe) .none gkV3 gdc3 gpm3 gan3 gcd3 gct3), gsl3⟩) (gc3 : PySem.W.codeIn K gcd3 "Book.is_end" = true) (gk3 : PySem.W.keepIn K (.ref g3) = true)
    (ga4 : PySem.W.findIn K (.ref C) "steps_from" = some (some (.ref g4))) (gi4 : PySem.W.isFn K (.ref g4) = true) (gl4 : K.lookup g4 = some ⟨goc4, god4, .func (PySem.W.fnOf "steps_from" "Book.steps_from" (defArgs sBf) (defBody sBf) (defScope sBf) .none gkV4 gdc4 gpm4 gan4 gcd4 gct4), gsl4⟩) (gc4 : PySem.W.codeIn K gcd4 "Book.steps_from" = true) (gk4 : PySem.W.keepIn K (.ref g4) = true)
    (ga5 : PySem.W.findIn K (.ref C) "stages" = some (some (.ref g5))) (gi5 : PySem.W.isFn K (.ref g5) = true) (gl5 : K.lookup g5 = some ⟨goc5, god5, .func (PySem.W.fnOf "stages" "Book.stages" (defArgs sBg) (defBody sBg) (defScope sBg) .none gkV5 gdc5 gpm5 gan5 gcd5 gct5), gsl5⟩) (gc5 : PySem.W.codeIn K gcd5 "Book.stages" = true) (gk5 : PySem.W.keepIn K (.ref g5) = true)
    (ga6 : PySem.W.findIn K (.ref C) "deeds" = some (some (.ref g6))) (gi6 : PySem.W.isFn K (.ref g6) = true) (gl6 : K.lookup g6 = some ⟨goc6, god6, .func (PySem.W.fnOf "deeds" "Book.deeds" (defArgs sBd) (defBody sBd) (defScope sBd) .none gkV6 gdc6 gpm6 gan6 gcd6 gct6), gsl6⟩) (gc6 : PySem.W.codeIn K gcd6 "Book.deeds" = true) (gk6 : PySem.W.keepIn K (.ref g6) = true)
    (aC : PySem.W.nsIn K mainGlobals "Book" = some (some (.ref C))) (pg : PySem.W.plainGet K C Str.empty = true) (hd : PySem.W.hasDictIn K C = true) (po : PySem.W.plainOver K C = true) (sa : PySem.W.findIn K (.ref C) "__setattr__" = some (some (.builtin "object.__setattr__"))) (mk : PySem.W.makesIn K C = true) (kc : PySem.W.keepIn K (.ref C) = true)
    (na1 : PySem.W.findIn K (.ref C) "courses" = some none) (na2 : PySem.W.findIn K (.ref C) "by_name" = some none) (na3 : PySem.W.findIn K (.ref C) "leaving" = some none)
    {ti1 : Tok} (n1 : PySem.W.nsIn K mainGlobals "LETTERS" = some (some (.str "abcdefghijklmnopqrstuvwxyz" ti1))) {ti2 : Tok} (n2 : PySem.W.nsIn K mainGlobals "LONGEST_NAME" = some (some (.int 5 ti2))) {ti3 : Tok} (n3 : PySem.W.nsIn K mainGlobals "MOST_COURSES" = some (some (.int 8 ti3))) {ti4 : Tok} (n4 : PySem.W.nsIn K mainGlobals "MOST_STAGES" = some (some (.int 20 ti4))) {ti5 : Tok} (n5 : PySem.W.nsIn K mainGlobals "MOST_TOGETHER" = some (some (.int 60 ti5))) {ti6 : Tok} (n6 : PySem.W.nsIn K mainGlobals "MOST_DEEDS" = some (some (.int 12 ti6)))
    (z1 : PySem.W.nsIn K mainGlobals "abs" = some none) (z2 : PySem.W.nsIn K mainGlobals "all" = some none) (z3 : PySem.W.nsIn K mainGlobals "any" = some none) (z4 : PySem.W.nsIn K mainGlobals "bool" = some none) (z5 : PySem.W.nsIn K mainGlobals "dict" = some none) (z6 : PySem.W.nsIn K mainGlobals "enumerate" = some none) (z7 : PySem.W.nsIn K mainGlobals "int" = some none) (z8 : PySem.W.nsIn K mainGlobals "isinstance" = some none) (z9 : PySem.W.nsIn K mainGlobals "len" = some none) (z10 : PySem.W.nsIn K mainGlobals "list" = some none) (z11 : PySem.W.nsIn K mainGlobals "max" = some none) (z12 : PySem.W.nsIn K mainGlobals "min" = some none) (z13 : PySem.W.nsIn K mainGlobals "range" = some none) (z14 : PySem.W.nsIn K mainGlobals "reversed" = some none) (z15 : PySem.W.nsIn K mainGlobals "set" = some none) (z16 : PySem.W.nsIn K mainGlobals "sorted" = some none) (z17 : PySem.W.nsIn K mainGlobals "str" = some none) (z18 : PySem.W.nsIn K mainGlobals "sum" = some none) (z19 : PySem.W.nsIn K mainGlobals "tuple" = some none) (z20 : PySem.W.nsIn K mainGlobals "zip" = some none) :
    ∃ fd : FuncData, (∀ (s : Shared) (v : Value), BindsTo s fd ⟨[v], []⟩ [("_law_script", v)]) ∧ ∀ base : Heap, K.In base → base.Ns mainGlobals mg → FnOk l.prog w K mg base CX0 8 fa fd ["_law_script"] (spLaw K) := by
  have e := hfa.symm.trans (PySem.W.mg_of X G a38)
  cases e
  have T : Txt K mg C := ⟨PySem.W.mg_none_of X G z1, PySem.W.mg_none_of X G z2, PySem.W.mg_none_of X G z3, PySem.W.mg_none_of X G z4, PySem.W.mg_none_of X G z5, PySem.W.mg_none_of X G z6, PySem.W.mg_none_of X G z7, PySem.W.mg_none_of X G z8, PySem.W.mg_none_of X G z9, PySem.W.mg_none_of X G z10, PySem.W.mg_none_of X G z11, PySem.W.mg_none_of X G z12, PySem.W.mg_none_of X G z13, PySem.W.mg_none_of X G z14, PySem.W.mg_none_of X G z15, PySem.W.mg_none_of X G z16, PySem.W.mg_none_of X G z17, PySem.W.mg_none_of X G z18, PySem.W.mg_none_of X G z19, PySem.W.mg_none_of X G z20, ⟨ti1, PySem.W.mg_of X G n1⟩, ⟨ti2, PySem.W.mg_of X G n2⟩, ⟨ti3, PySem.W.mg_of X G n3⟩, ⟨ti4, PySem.W.mg_of X G n4⟩, ⟨ti5, PySem.W.mg_of X G n5⟩, ⟨ti6, PySem.W.mg_of X G n6⟩, ⟨pg, hd, po, sa⟩, na1, na2, na3, PySem.W.mg_of X G aC⟩
  have F1 := fun_mk (st := sPo) l1 c1 k1
  have b1 := F1.binds (ps := ["stage", "step"]) fun _ _ _ _ _ _ us hl => match us, hl with | [_, _], _ => rfl
  have HsPo : Has K mg "parts_of" sPo ["stage", "step"] f1 _ := ⟨F1, b1, PySem.W.mg_of X G a1⟩
  have F2 := fun_mk (st := sEx) l2 c2 k2
  have b2 := F2.binds (ps := ["book"]) fun _ _ _ _ _ _ us hl => match us, hl with | [_], _ => rfl
  have HsEx : Has K mg "exits" sEx ["book"] f2 _ := ⟨F2, b2, PySem.W.mg_of X G a2⟩
  have F3 := fun_mk (st := sOw) l3 c3 k3
  have b3 := F3.binds (ps := ["weights", "step"]) fun _ _ _ _ _ _ us hl => match us, hl with | [_, _], _ => rfl
  have HsOw : Has K mg "own_weight" sOw ["weights", "step"] f3 _ := ⟨F3, b3, PySem.W.mg_of X G a3⟩
  have F4 := fun_mk (st := sSc) l4 c4 k4
  have b4 := F4.binds (ps := ["weights", "step", "parts", "found"]) fun _ _ _ _ _ _ us hl => match us, hl with | [_, _, _, _], _ => rfl
  have HsSc : Has K mg "step_cost" sSc ["weights", "step", "parts", "found"] f4 _ := ⟨F4, b4, PySem.W.mg_of X G a4⟩
  have F5 := fun_mk (st := sLc) l5 c5 k5
  have b5 := F5.binds (ps := ["weights", "leaving", "found"]) fun _ _ _ _ _ _ us hl => match us, hl with | [_, _, _], _ => rfl
  have HsLc : Has K mg "least_cost" sLc ["weights", "leaving", "found"] f5 _ := ⟨F5, b5, PySem.W.mg_of X G a5⟩
  have F6 := fun_mk (st := sCb) l6 c6 k6
  have b6 := F6.binds (ps := ["book", "weights"]) fun _ _ _ _ _ _ us hl => match us, hl with | [_, _], _ => rfl
  have HsCb : Has K mg "costs_by" sCb ["book", "weights"] f6 _ := ⟨F6, b6, PySem.W.mg_of X G a6⟩
  have F7 := fun_mk (st := sWs) l7 c7 k7
  have b7 := F7.binds (ps := ["book", "stage", "way"]) fun _ _ _ _ _ _ us hl => match us, hl with | [_, _, _], _ => rfl
  have HsWs : Has K mg "way_step" sWs ["book", "stage", "way"] f7 _ := ⟨F7, b7, PySem.W.mg_of X G a7⟩
  have F8 := fun_mk (st := sWp) l8 c8 k8
  have b8 := F8.binds (ps := ["book", "stage", "way"]) fun _ _ _ _ _ _ us hl => match us, hl with | [_, _, _], _ => rfl
  have HsWp : Has K mg "way_parts" sWp ["book", "stage", "way"] f8 _ := ⟨F8, b8, PySem.W.mg_of X G a8⟩
  have F9 := fun_mk (st := sSo) l9 c9 k9
  have b9 := F9.binds (ps := ["book", "chosen"]) fun _ _ _ _ _ _ us hl => match us, hl with | [_, _], _ => rfl
  have HsSo : Has K mg "sound_order" sSo ["book", "chosen"] f9 _ := ⟨F9, b9, PySem.W.mg_of X G a9⟩
  have F10 := fun_mk (st := sDc) l10 c10 k10
  have b10 := F10.binds (ps := ["book", "row"]) fun _ _ _ _ _ _ us hl => match us, hl with | [_, _], _ => rfl
  have HsDc : Has K mg "deed_counts" sDc ["book", "row"] f10 _ := ⟨F10, b10, PySem.W.mg_of X G a10⟩
  have F11 := fun_mk (st := sAd) l11 c11 k11
  have b11 := F11.binds (ps := ["one", "other"]) fun _ _ _ _ _ _ us hl => match us, hl with | [_, _], _ => rfl
  have HsAd : Has K mg "added" sAd ["one", "other"] f11 _ := ⟨F11, b11, PySem.W.mg_of X G a11⟩
  have F12 := fun_mk (st := sLp) l12 c12 k12
  have b12 := F12.binds (ps := ["book", "prices"]) fun _ _ _ _ _ _ us hl => match us, hl with | [_, _], _ => rfl
  have HsLp : Has K mg "least_prices" sLp ["book", "prices"] f12 _ := ⟨F12, b12, PySem.W.mg_of X G a12⟩
  have F13 := fun_mk (st := sPw) l13 c13 k13
  have b13 := F13.binds (ps := ["book", "prices"]) fun _ _ _ _ _ _ us hl => match us, hl with | [_, _], _ => rfl
  have HsPw : Has K mg "price_ways" sPw ["book", "prices"] f13 _ := ⟨F13, b13, PySem.W.mg_of X G a13⟩
  have F14 := fun_mk (st := sCa) l14 c14 k14
  have b14 := F14.binds (ps := ["book", "chosen"]) fun _ _ _ _ _ _ us hl => match us, hl with | [_, _], _ => rfl
  have HsCa : Has K mg "counts_along" sCa ["book", "chosen"] f14 _ := ⟨F14, b14, PySem.W.mg_of X G a14⟩
  have F15 := fun_mk (st := sIi) l15 c15 k15
  have b15 := F15.binds (ps := ["value"]) fun _ _ _ _ _ _ us hl => match us, hl with | [_], _ => rfl
  have HsIi : Has K mg "is_integer" sIi ["value"] f15 _ := ⟨F15, b15, PySem.W.mg_of X G a15⟩
  have F16 := fun_mk (st := sIu) l16 c16 k16
  have b16 := F16.binds (ps := ["value"]) fun _ _ _ _ _ _ us hl => match us, hl with | [_], _ => rfl
  have HsIu : Has K mg "is_number" sIu ["value"] f16 _ := ⟨F16, b16, PySem.W.mg_of X G a16⟩
  have F17 := fun_mk (st := sIl) l17 c17 k17
  have b17 := F17.binds (ps := ["sign"]) fun _ _ _ _ _ _ us hl => match us, hl with | [_], _ => rfl
  have HsIl : Has K mg "is_letter" sIl ["sign"] f17 _ := ⟨F17, b17, PySem.W.mg_of X G a17⟩
  have F18 := fun_mk (st := sIn) l18 c18 k18
  have b18 := F18.binds (ps := ["value"]) fun _ _ _ _ _ _ us hl => match us, hl with | [_], _ => rfl
  have HsIn : Has K mg "is_name" sIn ["value"] f18 _ := ⟨F18, b18, PySem.W.mg_of X G a18⟩
  have F19 := fun_mk (st := sIs) l19 c19 k19
  have b19 := F19.binds (ps := ["step", "stages"]) fun _ _ _ _ _ _ us hl => match us, hl with | [_, _], _ => rfl
  have HsIs : Has K mg "is_step" sIs ["step", "stages"] f19 _ := ⟨F19, b19, PySem.W.mg_of X G a19⟩
  have F20 := fun_mk (st := sIo) l20 c20 k20
  have b20 := F20.binds (ps := ["course"]) fun _ _ _ _ _ _ us hl => match us, hl with | [_], _ => rfl
  have HsIo : Has K mg "is_course" sIo ["course"] f20 _ := ⟨F20, b20, PySem.W.mg_of X G a20⟩
  have F21 := fun_mk (st := sCc) l21 c21 k21
  have b21 := F21.binds (ps := ["courses"]) fun _ _ _ _ _ _ us hl => match us, hl with | [_], _ => rfl
  have HsCc : Has K mg "check_courses" sCc ["courses"] f21 _ := ⟨F21, b21, PySem.W.mg_of X G a21⟩
  have F22 := fun_mk (st := sCt) l22 c22 k22
  have b22 := F22.binds (ps := ["courses", "names"]) fun _ _ _ _ _ _ us hl => match us, hl with | [_, _], _ => rfl
  have HsCt : Has K mg "check_together" sCt ["courses", "names"] f22 _ := ⟨F22, b22, PySem.W.mg_of X G a22⟩
  have F23 := fun_mk (st := sBx) l23 c23 k23
  have b23 := F23.binds (ps := ["_law_script", "_law_k"]) fun _ _ _ _ _ _ us hl => match us, hl with | [_, _], _ => rfl
  have HsBx : Has K mg "_law_box" sBx ["_law_script", "_law_k"] f23 _ := ⟨F23, b23, PySem.W.mg_of X G a23⟩
  have F24 := fun_mk (st := sTk) l24 c24 k24
  have b24 := F24.binds (ps := ["_law_box_here", "_law_many"]) fun _ _ _ _ _ _ us hl => match us, hl with | [_, _], _ => rfl
  have HsTk : Has K mg "_law_take" sTk ["_law_box_here", "_law_many"] f24 _ := ⟨F24, b24, PySem.W.mg_of X G a24⟩
  have F25 := fun_mk (st := sPk) l25 c25 k25
  have b25 := F25.binds (ps := ["_law_box_here", "_law_some"]) fun _ _ _ _ _ _ us hl => match us, hl with | [_, _], _ => rfl
  have HsPk : Has K mg "_law_pick" sPk ["_law_box_here", "_law_some"] f25 _ := ⟨F25, b25, PySem.W.mg_of X G a25⟩
  have F26 := fun_mk (st := sMx) l26 c26 k26
  have b26 := F26.binds (ps := ["_law_box_here", "_law_some"]) fun _ _ _ _ _ _ us hl => match us, hl with | [_, _], _ => rfl
  have HsMx : Has K mg "_law_mixed" sMx ["_law_box_here", "_law_some"] f26 _ := ⟨F26, b26, PySem.W.mg_of X G a26⟩
  have F27 := fun_mk (st := sSt) l27 c27 k27
  have b27 := F27.binds (ps := ["_law_box_here", "_law_names", "_law_at", "_law_stages", "_law_begin"]) fun _ _ _ _ _ _ us hl => match us, hl with | [_, _, _, _, _], _ => rfl
  have HsSt : Has K mg "_law_step" sSt ["_law_box_here", "_law_names", "_law_at", "_law_stages", "_law_begin"] f27 _ := ⟨F27, b27, PySem.W.mg_of X G a27⟩
  have F28 := fun_mk (st := sCo) l28 c28 k28
  have b28 := F28.binds (ps := ["_law_box_here", "_law_names", "_law_at"]) fun _ _ _ _ _ _ us hl => match us, hl with | [_, _, _], _ => rfl
  have HsCo : Has K mg "_law_course" sCo ["_law_box_here", "_law_names", "_law_at"] f28 _ := ⟨F28, b28, PySem.W.mg_of X G a28⟩
  have F29 := fun_mk (st := sCs) l29 c29 k29
  have b29 := F29.binds (ps := ["_law_box_here"]) fun _ _ _ _ _ _ us hl => match us, hl with | [_], _ => rfl
  have HsCs : Has K mg "_law_courses" sCs ["_law_box_here"] f29 _ := ⟨F29, b29, PySem.W.mg_of X G a29⟩
  have F30 := fun_mk (st := sLv) l30 c30 k30
  have b30 := F30.binds (ps := ["_law_courses_here"]) fun _ _ _ _ _ _ us hl => match us, hl with | [_], _ => rfl
  have HsLv : Has K mg "_law_leaving" sLv ["_law_courses_here"] f30 _ := ⟨F30, b30, PySem.W.mg_of X G a30⟩
  have F31 := fun_mk (st := sEn) l31 c31 k31
  have b31 := F31.binds (ps := ["_law_courses_here"]) fun _ _ _ _ _ _ us hl => match us, hl with | [_], _ => rfl
  have HsEn : Has K mg "_law_ends" sEn ["_law_courses_here"] f31 _ := ⟨F31, b31, PySem.W.mg_of X G a31⟩
  have F32 := fun_mk (st := sAi) l32 c32 k32
  have b32 := F32.binds (ps := ["_law_some", "_law_others"]) fun _ _ _ _ _ _ us hl => match us, hl with | [_, _], _ => rfl
  have HsAi : Has K mg "_law_all_in" sAi ["_law_some", "_law_others"] f32 _ := ⟨F32, b32, PySem.W.mg_of X G a32⟩
  have F33 := fun_mk (st := sMv) l33 c33 k33
  have b33 := F33.binds (ps := ["_law_leaving_here", "_law_ends_here", "_law_pile"]) fun _ _ _ _ _ _ us hl => match us, hl with | [_, _, _], _ => rfl
  have HsMv : Has K mg "_law_moves" sMv ["_law_leaving_here", "_law_ends_here", "_law_pile"] f33 _ := ⟨F33, b33, PySem.W.mg_of X G a33⟩
  have F34 := fun_mk (st := sDe) l34 c34 k34
  have b34 := F34.binds (ps := ["_law_courses_here"]) fun _ _ _ _ _ _ us hl => match us, hl with | [_], _ => rfl
  have HsDe : Has K mg "_law_deeds" sDe ["_law_courses_here"] f34 _ := ⟨F34, b34, PySem.W.mg_of X G a34⟩
  have F35 := fun_mk (st := sSu) l35 c35 k35
  have b35 := F35.binds (ps := ["_law_table", "_law_pile"]) fun _ _ _ _ _ _ us hl => match us, hl with | [_, _], _ => rfl
  have HsSu : Has K mg "_law_sum" sSu ["_law_table", "_law_pile"] f35 _ := ⟨F35, b35, PySem.W.mg_of X G a35⟩
  have F36 := fun_mk (st := sCl) l36 c36 k36
  have b36 := F36.binds (ps := ["_law_leaving_here", "_law_deeds_here", "_law_chosen", "_law_pile"]) fun _ _ _ _ _ _ us hl => match us, hl with | [_, _, _, _], _ => rfl
  have HsCl : Has K mg "_law_closing" sCl ["_law_leaving_here", "_law_deeds_here", "_law_chosen", "_law_pile"] f36 _ := ⟨F36, b36, PySem.W.mg_of X G a36⟩
  have F37 := fun_mk (st := sMr) l37 c37 k37
  have b37 := F37.binds (ps := ["_law_leaving_here", "_law_deeds_here", "_law_told", "_law_others", "_law_pile"]) fun _ _ _ _ _ _ us hl => match us, hl with | [_, _, _, _, _], _ => rfl
  have HsMr : Has K mg "_law_moment_right" sMr ["_law_leaving_here", "_law_deeds_here", "_law_told", "_law_others", "_law_pile"] f37 _ := ⟨F37, b37, PySem.W.mg_of X G a37⟩
  have gF1 := fun_mk (st := sBi) gl1 gc1 gk1
  have gb1 := gF1.binds (ps := ["self", "courses"]) fun _ _ _ _ _ _ us hl => match us, hl with | [_, _], _ => rfl
  have gF2 := fun_mk (st := sBs) gl2 gc2 gk2
  have gb2 := gF2.binds (ps := ["self", "course"]) fun _ _ _ _ _ _ us hl => match us, hl with | [_, _], _ => rfl
  have MsBs : HasM K C "steps" "Book.steps" sBs ["self", "course"] g2 _ := ⟨gF2, gb2, ⟨ga2, gi2, gk2⟩⟩
  have gF3 := fun_mk (st := sBe) gl3 gc3 gk3
  have gb3 := gF3.binds (ps := ["self", "stage"]) fun _ _ _ _ _ _ us hl => match us, hl with | [_, _], _ => rfl
  have MsBe : HasM K C "is_end" "Book.is_end" sBe ["self", "stage"] g3 _ := ⟨gF3, gb3, ⟨ga3, gi3, gk3⟩⟩
  have gF4 := fun_mk (st := sBf) gl4 gc4 gk4
  have gb4 := gF4.binds (ps := ["self", "stage"]) fun _ _ _ _ _ _ us hl => match us, hl with | [_, _], _ => rfl
  have MsBf : HasM K C "steps_from" "Book.steps_from" sBf ["self", "stage"] g4 _ := ⟨gF4, gb4, ⟨ga4, gi4, gk4⟩⟩
  have gF5 := fun_mk (st := sBg) gl5 gc5 gk5
  have gb5 := gF5.binds (ps := ["self"]) fun _ _ _ _ _ _ us hl => match us, hl with | [_], _ => rfl
  have MsBg : HasM K C "stages" "Book.stages" sBg ["self"] g5 _ := ⟨gF5, gb5, ⟨ga5, gi5, gk5⟩⟩
  have gF6 := fun_mk (st := sBd) gl6 gc6 gk6
  have gb6 := gF6.binds (ps := ["self"]) fun _ _ _ _ _ _ us hl => match us, hl with | [_], _ => rfl
  have MsBd : HasM K C "deeds" "Book.deeds" sBd ["self"] g6 _ := ⟨gF6, gb6, ⟨ga6, gi6, gk6⟩⟩
  refine ⟨PySem.W.fnOf "law" "law" (defArgs sLw) (defBody sLw) (defScope sLw) .none kV38 dc38 pm38 an38 cd38 ct38, fun s v => .of_eq rfl, fun base _ _ => ?_⟩
  have Gex := ok_ex (P := l.prog) (w := w) (base := base) T HsEx.F HsPo MsBg MsBs MsBf
  have Gcb := ok_cb (P := l.prog) (w := w) (base := base) T HsCb.F HsEx HsLc MsBe HsSc HsOw Gex
  have Glp := ok_lp (P := l.prog) (w := w) (base := base) T HsLp.F HsCb Gcb
  have Gpw := ok_pw (P := l.prog) (w := w) (base := base) T HsPw.F HsCb Gcb
  have Gws := ok_ws (P := l.prog) (w := w) (base := base) T HsWs.F MsBs
  have Gwp := ok_wp (P := l.prog) (w := w) (base := base) T HsWp.F HsPo HsWs MsBe MsBf MsBs
  have Gdc := ok_dc (P := l.prog) (w := w) (base := base) T HsDc.F MsBd
  have Gso := ok_so (P := l.prog) (w := w) (base := base) T HsSo.F HsWp Gwp
  have Gca := ok_ca (P := l.prog) (w := w) (base := base) T HsCa.F HsSo HsDc HsWs HsWp HsAd Gso Gdc Gws Gwp
  have Gio := ok_io (P := l.prog) (w := w) (base := base) T HsIo.F HsIu HsIn HsIs HsIi HsIl
  have Gcc := ok_cc (P := l.prog) (w := w) (base := base) T HsCc.F HsIo HsCt Gio
  have Gbi := ok_bi (P := l.prog) (w := w) (base := base) T gF1 HsCc Gcc
  have Gst := ok_st (P := l.prog) (w := w) (base := base) T HsSt.F HsTk HsPk
  have Gco := ok_co (P := l.prog) (w := w) (base := base) T HsCo.F HsTk HsMx HsSt Gst
  have Gcs := ok_cs (P := l.prog) (w := w) (base := base) T HsCs.F HsTk HsMx HsCo Gco
  have Gmr := ok_mr (P := l.prog) (w := w) (base := base) T HsMr.F HsCl HsSu
  exact ok_lw T (fun_mk (st := sLw) l38 c38 k38) HsBx HsCs HsLv HsEn HsDe HsTk HsPw HsLp HsCa HsMr HsMv HsAi HsPk HsSu ⟨mk, ga1, gi1, kc⟩ gb1 Gbi Gcs Gpw Glp Gca Gmr
theorem walk {l : PySem.W.OpenLaw} {q : Program} {loose : List Str} {XP : (Str → Option Value) → Heap → Prop} {YP : World → Heap → Prop} {d : DefRec} {K : Params → PySem.W.Frag} (hn : l.most = some 63) (hdf : d.params.defaults = [])
    (hY : ∀ (w : World) (h : Heap), YP w h → (K w.params).In h)
    (F : ∀ (w : World) (mg : Str → Option Value) (fa : Addr) (h : Heap), (K w.params).In h → h.Ns mainGlobals mg → mg d.name = some (.ref fa) →
      ∃ fd : FuncData, (∀ (s : Shared) (u : Value), BindsTo s fd ⟨[u], []⟩ [("_law_script", u)]) ∧ ∀ base : Heap, (K w.params).In base → base.Ns mainGlobals mg → FnOk l.prog w (K w.params) mg base CX0 8 fa fd ["_law_script"] (spLaw (K w.params))) :
    PySem.W.WalkO q loose XP YP l.row.toRowW d [] (fun f vs => PySem.call f vs) :=
  L2.walk_of (n := 63) (k := 8) (x := "_law_script") (CX := fun _ => CX0) (sp := fun w => spLaw (K w.params)) hn (by decide) hdf ⟨rfl, by decide, by decide⟩ hY F (fun _ _ a ns hl _ hS => ⟨a, ns, rfl, hS, hl, fun _ => rfl⟩) fun _ _ _ _ _ z => z
end K09

open PySem PySem.W PyProof.Rows in
set_option maxRecDepth 100000 in
set_option maxHeartbeats 0 in
theorem PySem.Challenge.cw_stillowed_k43_whole_prices_at_all_moment_holds : PySem.Challenge.rw_stillowed_k43_whole_prices_at_all_moment.Holds := by
  w_on; o_law; k_head; (case hw => w_witness2)
  k_fill
  refine K09.walk (l := PySem.Challenge.rw_stillowed_k43_whole_prices_at_all_moment) rfl rfl (fun w h Y => PySem.W.kIn_of Y) ?F
  case F =>
    intro w mg fa h KX G hmg
    refine' K09.tops KX G hmg ?a1 ?l1 ?c1 ?k1 ?a2 ?l2 ?c2 ?k2 ?a3 ?l3 ?c3 ?k3 ?a4 ?l4 ?c4 ?k4 ?a5 ?l5 ?c5 ?k5 ?a6 ?l6 ?c6 ?k6 ?a7 ?l7 ?c7 ?k7 ?a8 ?l8 ?c8 ?k8 ?a9 ?l9 ?c9 ?k9 ?a10 ?l10 ?c10 ?k10 ?a11 ?l11 ?c11 ?k11 ?a12 ?l12 ?c12 ?k12 ?a13 ?l13 ?c13 ?k13 ?a14 ?l14 ?c14 ?k14 ?a15 ?l15 ?c15 ?k15 ?a16 ?l16 ?c16 ?k16 ?a17 ?l17 ?c17 ?k17 ?a18 ?l18 ?c18 ?k18 ?a19 ?l19 ?c19 ?k19 ?a20 ?l20 ?c20 ?k20 ?a21 ?l21 ?c21 ?k21 ?a22 ?l22 ?c22 ?k22 ?a23 ?l23 ?c23 ?k23 ?a24 ?l24 ?c24 ?k24 ?a25 ?l25 ?c25 ?k25 ?a26 ?l26 ?c26 ?k26 ?a27 ?l27 ?c27 ?k27 ?a28 ?l28 ?c28 ?k28 ?a29 ?l29 ?c29 ?k29 ?a30 ?l30 ?c30 ?k30 ?a31 ?l31 ?c31 ?k31 ?a32 ?l32 ?c32 ?k32 ?a33 ?l33 ?c33 ?k33 ?a34 ?l34 ?c34 ?k34 ?a35 ?l35 ?c35 ?k35 ?a36 ?l36 ?c36 ?k36 ?a37 ?l37 ?c37 ?k37 ?a38 ?l38 ?c38 ?k38 ?ga1 ?gi1 ?gl1 ?gc1 ?gk1 ?ga2 ?gi2 ?gl2 ?gc2 ?gk2 ?ga3 ?gi3 ?gl3 ?gc3 ?gk3 ?ga4 ?gi4 ?gl4 ?gc4 ?gk4 ?ga5 ?gi5 ?gl5 ?gc5 ?gk5 ?ga6 ?gi6 ?gl6 ?gc6 ?gk6 ?aC ?pg ?hd ?po ?sa ?mk ?kc ?na1 ?na2 ?na3 ?n1 ?n2 ?n3 ?n4 ?n5 ?n6 ?z1 ?z2 ?z3 ?z4 ?z5 ?z6 ?z7 ?z8 ?z9 ?z10 ?z11 ?z12 ?z13 ?z14 ?z15 ?z16 ?z17 ?z18 ?z19 ?z20
    (case aC => k_is)
    (case a1 => k_is)
    (case l1 => k_is)
    (case c1 => k_is)
    (case k1 => k_is)
    (case a2 => k_is)
    (case l2 => k_is)
    (case c2 => k_is)
    (case k2 => k_is)
    (case a3 => k_is)
    (case l3 => k_is)
    (case c3 => k_is)
    (case k3 => k_is)
    (case a4 => k_is)
    (case l4 => k_is)
    (case c4 => k_is)
    (case k4 => k_is)
    (case a5 => k_is)
    (case l5 => k_is)
    (case c5 => k_is)
    (case k5 => k_is)
    (case a6 => k_is)
    (case l6 => k_is)
    (case c6 => k_is)
    (case k6 => k_is)
    (case a7 => k_is)
    (case l7 => k_is)
    (case c7 => k_is)
    (case k7 => k_is)
    (case a8 => k_is)
    (case l8 => k_is)
    (case c8 => k_is)
    (case k8 => k_is)
    (case a9 => k_is)
    (case l9 => k_is)
    (case c9 => k_is)
    (case k9 => k_is)
    (case a10 => k_is)
    (case l10 => k_is)
    (case c10 => k_is)
    (case k10 => k_is)
    (case a11 => k_is)
    (case l11 => k_is)
    (case c11 => k_is)
    (case k11 => k_is)
    (case a12 => k_is)
    (case l12 => k_is)
    (case c12 => k_is)
    (case k12 => k_is)
    (case a13 => k_is)
    (case l13 => k_is)
    (case c13 => k_is)
    (case k13 => k_is)
    (case a14 => k_is)
    (case l14 => k_is)
    (case c14 => k_is)
    (case k14 => k_is)
    (case a15 => k_is)
    (case l15 => k_is)
    (case c15 => k_is)
    (case k15 => k_is)
    (case a16 => k_is)
    (case l16 => k_is)
    (case c16 => k_is)
    (case k16 => k_is)
    (case a17 => k_is)
    (case l17 => k_is)
    (case c17 => k_is)
    (case k17 => k_is)
    (case a18 => k_is)
    (case l18 => k_is)
    (case c18 => k_is)
    (case k18 => k_is)
    (case a19 => k_is)
    (case l19 => k_is)
    (case c19 => k_is)
    (case k19 => k_is)
    (case a20 => k_is)
    (case l20 => k_is)
    (case c20 => k_is)
    (case k20 => k_is)
    (case a21 => k_is)
    (case l21 => k_is)
    (case c21 => k_is)
    (case k21 => k_is)
    (case a22 => k_is)
    (case l22 => k_is)
    (case c22 => k_is)
    (case k22 => k_is)
    (case a23 => k_is)
    (case l23 => k_is)
    (case c23 => k_is)
    (case k23 => k_is)
    (case a24 => k_is)
    (case l24 => k_is)
    (case c24 => k_is)
    (case k24 => k_is)
    (case a25 => k_is)
    (case l25 => k_is)
    (case c25 => k_is)
    (case k25 => k_is)
    (case a26 => k_is)
    (case l26 => k_is)
    (case c26 => k_is)
    (case k26 => k_is)
    (case a27 => k_is)
    (case l27 => k_is)
    (case c27 => k_is)
    (case k27 => k_is)
    (case a28 => k_is)
    (case l28 => k_is)
    (case c28 => k_is)
    (case k28 => k_is)
    (case a29 => k_is)
    (case l29 => k_is)
    (case c29 => k_is)
    (case k29 => k_is)
    (case a30 => k_is)
    (case l30 => k_is)
    (case c30 => k_is)
    (case k30 => k_is)
    (case a31 => k_is)
    (case l31 => k_is)
    (case c31 => k_is)
    (case k31 => k_is)
    (case a32 => k_is)
    (case l32 => k_is)
    (case c32 => k_is)
    (case k32 => k_is)
    (case a33 => k_is)
    (case l33 => k_is)
    (case c33 => k_is)
    (case k33 => k_is)
    (case a34 => k_is)
    (case l34 => k_is)
    (case c34 => k_is)
    (case k34 => k_is)
    (case a35 => k_is)
    (case l35 => k_is)
    (case c35 => k_is)
    (case k35 => k_is)
    (case a36 => k_is)
    (case l36 => k_is)
    (case c36 => k_is)
    (case k36 => k_is)
    (case a37 => k_is)
    (case l37 => k_is)
    (case c37 => k_is)
    (case k37 => k_is)
    (case a38 => k_is)
    (case l38 => k_is)
    (case c38 => k_is)
    (case k38 => k_is)
    (case ga1 => k_is)
    (case gi1 => k_is)
    (case gl1 => k_is)
    (case gc1 => k_is)
    (case gk1 => k_is)
    (case ga2 => k_is)
    (case gi2 => k_is)
    (case gl2 => k_is)
    (case gc2 => k_is)
    (case gk2 => k_is)
    (case ga3 => k_is)
    (case gi3 => k_is)
    (case gl3 => k_is)
    (case gc3 => k_is)
    (case gk3 => k_is)
    (case ga4 => k_is)
    (case gi4 => k_is)
    (case gl4 => k_is)
    (case gc4 => k_is)
    (case gk4 => k_is)
    (case ga5 => k_is)
    (case gi5 => k_is)
    (case gl5 => k_is)
    (case gc5 => k_is)
    (case gk5 => k_is)
    (case ga6 => k_is)
    (case gi6 => k_is)
    (case gl6 => k_is)
    (case gc6 => k_is)
    (case gk6 => k_is)
    (case pg => k_is)
    (case hd => k_is)
    (case po => k_is)
    (case sa => k_is)
    (case mk => k_is)
    (case kc => k_is)
    (case na1 => k_is)
    (case na2 => k_is)
    (case na3 => k_is)
    (case n1 => k_is)
    (case n2 => k_is)
    (case n3 => k_is)
    (case n4 => k_is)
    (case n5 => k_is)
    (case n6 => k_is)
    (case z1 => k_is)
    (case z2 => k_is)
    (case z3 => k_is)
    (case z4 => k_is)
    (case z5 => k_is)
    (case z6 => k_is)
    (case z7 => k_is)
    (case z8 => k_is)
    (case z9 => k_is)
    (case z10 => k_is)
    (case z11 => k_is)
    (case z12 => k_is)
    (case z13 => k_is)
    (case z14 => k_is)
    (case z15 => k_is)
    (case z16 => k_is)
    (case z17 => k_is)
    (case z18 => k_is)
    (case z19 => k_is)
    (case z20 => k_is)
