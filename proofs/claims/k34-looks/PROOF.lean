import PyProof.Rows.All
import Wide.All
import OpenK.AllK
import Wide.FinOn
import HandS.ForMost
import HandS.Evl
import HandS.Zip
import HandS.TupAny
import HandS.Wide
import HandS.Walk
import HandS.Defaults
import HandS.IsInst
import KE.DataMinMax
import KE.GoesEnum
import HandS.Lambda
import HandS.SetFor
import HandS.SetTxt0
import HandS.SetTxtIn
import HandS.Strs
import PyProof.Rows.SortShellAny
import HandS.Finally
import HandS.More
import HandS.ForDict
import HandS.Small
import HandS.Iter
import HandS.Style
import HandS.TryOnly
import HandS.Text
import HandS.DictComp
import KE.DataFind
import KE.SortData
import HandS.TupSets
import KE.SortKeyHeap
import HandS.SortKw
import HandS.Conv
import HandS.TupLen
import KE.KDictSum
import HandS.Deep
import PyProof.ListIndex
import PySem.Challenge.RW_stillowed_k34_looks_by_a_dealing
import KE.KEqDict
import KE.KDictPairs
import KE.KDictList
import KE.KDictCopyH
import KE.GoesMore
import KE.KDictZip
import HandS.ExcValue
import HandS.Steps
import HandS.StrMore
import HandS.WordsExc
set_option Elab.async false
set_option linter.all false
set_option maxRecDepth 100000
set_option maxHeartbeats 8000000
/-! A layer over HandS: expressions and statements by data, the heap hidden. -/
namespace FD
open PySem L2 Evl

/-! ### hidden objects -/
def isT : HO → Bool
  | .tup _ => true
  | _ => false
def isTo : Option HO → Bool
  | some o => isT o
  | none => false
/-- of the objects of M only the tuples are seen -/
def hide (M : List Addr) (H : Hp) : Hp := fun a => if a ∈ M ∧ isTo (H a) = false then none else H a
section
variable {M M' : List Addr} {H H' : Hp} {a : Addr} {o : HO}
theorem hide_in (h : a ∈ M) (t : isTo (H a) = false) : hide M H a = none := if_pos ⟨h, t⟩
theorem hide_out (h : a ∉ M) : hide M H a = H a := if_neg fun z => h z.1
theorem hide_mk (h : H a = some o) (hm : a ∈ M → isT o = true) : hide M H a = some o := by
  refine (if_neg fun z => ?_).trans h
  have := z.2
  rw [h] at this
  rw [show isTo (some o) = isT o from rfl, hm z.1] at this
  cases this
theorem hide_tup {xs : List V} (h : H a = some (.tup xs)) : hide M H a = some (.tup xs) := hide_mk h fun _ => rfl
theorem hide_some (h : hide M H a = some o) : (a ∈ M → isT o = true) ∧ H a = some o := by
  by_cases q : a ∈ M ∧ isTo (H a) = false
  · rw [show hide M H a = none from if_pos q] at h; cases h
  · have e : hide M H a = H a := if_neg q
    rw [e] at h
    refine ⟨fun z => ?_, h⟩
    cases t : isT o with
    | true => rfl
    | false => exact absurd ⟨z, by rw [h]; exact t⟩ q
theorem hide_ex (e : Ex H H') : Ex (hide M H) (hide M H') := fun a o h => by
  obtain ⟨q, h⟩ := hide_some h
  exact hide_mk (e a o h) q
theorem hide_le : Ex (hide M H) H := fun a o h => (hide_some h).2
theorem hide_sub (s : ∀ a ∈ M, a ∈ M') : Ex (hide M' H) (hide M H) := fun a o h => by
  obtain ⟨q, h⟩ := hide_some h
  exact hide_mk h fun z => q (s a z)
theorem hide_upd (h : a ∈ M) (t : isTo (H a) = false) (t' : isT o = false) : hide M (upd H a o) = hide M H := by
  funext b
  by_cases z : b = a
  · subst z
    rw [hide_in h t, hide_in h (by rw [upd_same]; exact t')]
  · by_cases q : b ∈ M ∧ isTo (H b) = false
    · rw [show hide M H b = none from if_pos q]
      refine if_pos ⟨q.1, ?_⟩
      rw [upd_ne z]; exact q.2
    · rw [show hide M H b = H b from if_neg q]
      refine (if_neg fun y => q ⟨y.1, ?_⟩).trans (upd_ne z)
      have := y.2
      rw [upd_ne z] at this
      exact this
end

end FD
namespace L2
open PySem
section
variable {K : PySem.W.Frag} {H : Hp}
theorem DpAll.length : ∀ {vs : List V} {ds : List PyData}, DpAll K H vs ds → vs.length = ds.length
  | _, _, .nil => rfl
  | _, _, .cons _ t => by rw [List.length_cons, List.length_cons, DpAll.length t]
theorem DpAll.get : ∀ {vs : List V} {ds : List PyData} {i : Nat} {d : PyData}, DpAll K H vs ds → ds[i]? = some d → ∃ v, vs[i]? = some v ∧ Dp K H v d
  | _, _, _, _, .nil, z => by simp at z
  | _, _, 0, _, .cons r0 _, z => by simp at z; subst z; exact ⟨_, rfl, r0⟩
  | _, _, i + 1, d, .cons _ t, e => by
    obtain ⟨u, h1, h2⟩ := DpAll.get (i := i) (d := d) t (by simpa using e)
    exact ⟨u, by simpa using h1, by exact h2⟩
end
end L2
namespace FD
open PySem L2 Evl
/-! ### data whose tuples the program made -/
mutual
inductive Dp (K : PySem.W.Frag) (H : Hp) : V → PyData → Prop
  | non : Dp K H .non .none
  | bl (b : Bool) : Dp K H (.bl b) (.bool b)
  | int (i : Int) : Dp K H (.int i) (.int i)
  | str (x : Str) : Dp K H (.str x) (.str x)
  | lst {a : Addr} {xs : List V} {ds : List PyData} : SqL K H a xs → DpAll K H xs ds → Dp K H (.ref a) (.list ds)
  | tup {a : Addr} {xs : List V} {ds : List PyData} : H a = some (.tup xs) → DpAll K H xs ds → Dp K H (.ref a) (.tuple ds)
inductive DpAll (K : PySem.W.Frag) (H : Hp) : List V → List PyData → Prop
  | nil : DpAll K H [] []
  | cons {v : V} {vs : List V} {d : PyData} {ds : List PyData} : Dp K H v d → DpAll K H vs ds → DpAll K H (v :: vs) (d :: ds)
end
mutual
theorem Dp.weak {K : PySem.W.Frag} {H : Hp} : ∀ (d : PyData) (v : V), Dp K H v d → L2.Dp K H v d
  | .none, _, h => by cases h; exact .non
  | .bool b, _, h => by cases h; exact .bl b
  | .int i, _, h => by cases h; exact .int i
  | .str x, _, h => by cases h; exact .str x
  | .list ds, _, h => by
    cases h with
    | lst hs ha => exact .lst hs (DpAll.weak ds _ ha)
  | .tuple ds, _, h => by
    cases h with
    | tup hs ha => exact .tup (st_of hs) (DpAll.weak ds _ ha)
  | .dict _, _, h => by cases h
theorem DpAll.weak {K : PySem.W.Frag} {H : Hp} : ∀ (ds : List PyData) (vs : List V), DpAll K H vs ds → L2.DpAll K H vs ds
  | [], _, h => by cases h; exact .nil
  | d :: ds, _, h => by
    cases h with
    | cons h1 h2 => exact .cons (Dp.weak d _ h1) (DpAll.weak ds _ h2)
end
theorem Dp.w {K : PySem.W.Frag} {H : Hp} {d : PyData} {v : V} (h : Dp K H v d) : L2.Dp K H v d := Dp.weak d v h
theorem DpAll.w {K : PySem.W.Frag} {H : Hp} {d : List PyData} {v : List V} (h : DpAll K H v d) : L2.DpAll K H v d := DpAll.weak d v h
mutual
theorem dp_mono {K : PySem.W.Frag} {H H' : Hp} (e : Ex H H') : ∀ (d : PyData) (v : V), Dp K H v d → Dp K H' v d
  | .none, _, h => by cases h; exact .non
  | .bool b, _, h => by cases h; exact .bl b
  | .int i, _, h => by cases h; exact .int i
  | .str x, _, h => by cases h; exact .str x
  | .list ds, _, h => by
    cases h with
    | lst hs ha => exact .lst (ex_l e hs) (dpAll_mono e ds _ ha)
  | .tuple ds, _, h => by
    cases h with
    | tup hs ha => exact .tup (e _ _ hs) (dpAll_mono e ds _ ha)
  | .dict _, _, h => by cases h
theorem dpAll_mono {K : PySem.W.Frag} {H H' : Hp} (e : Ex H H') : ∀ (ds : List PyData) (vs : List V), DpAll K H vs ds → DpAll K H' vs ds
  | [], _, h => by cases h; exact .nil
  | d :: ds, _, h => by
    cases h with
    | cons h1 h2 => exact .cons (dp_mono e d _ h1) (dpAll_mono e ds _ h2)
end
section
variable {K : PySem.W.Frag} {H : Hp}
theorem DpAll.length : ∀ {vs : List V} {ds : List PyData}, DpAll K H vs ds → vs.length = ds.length
  | _, _, .nil => rfl
  | _, _, .cons _ t => by rw [List.length_cons, List.length_cons, DpAll.length t]
theorem DpAll.get : ∀ {vs : List V} {ds : List PyData} {i : Nat} {d : PyData}, DpAll K H vs ds → ds[i]? = some d → ∃ v, vs[i]? = some v ∧ Dp K H v d
  | _, _, _, _, .nil, z => by simp at z
  | _, _, 0, _, .cons r0 _, z => by simp at z; subst z; exact ⟨_, rfl, r0⟩
  | _, _, i + 1, d, .cons _ t, e => by
    obtain ⟨u, h1, h2⟩ := DpAll.get (i := i) (d := d) t (by simpa using e)
    exact ⟨u, by simpa using h1, by exact h2⟩
theorem DpAll.append : ∀ {vs ws : List V} {ds es : List PyData}, DpAll K H vs ds → DpAll K H ws es → DpAll K H (vs ++ ws) (ds ++ es)
  | _, _, _, _, .nil, s => s
  | _, _, _, _, .cons r t, s => .cons r (DpAll.append t s)
theorem DpAll.take : ∀ {vs : List V} {ds : List PyData} (n : Nat), DpAll K H vs ds → DpAll K H (vs.take n) (ds.take n)
  | _, _, 0, _ => by rw [List.take_zero, List.take_zero]; exact .nil
  | _, _, _ + 1, .nil => .nil
  | _, _, n + 1, .cons r t => by rw [List.take_succ_cons, List.take_succ_cons]; exact .cons r (DpAll.take n t)
theorem DpAll.drop : ∀ {vs : List V} {ds : List PyData} (n : Nat), DpAll K H vs ds → DpAll K H (vs.drop n) (ds.drop n)
  | _, _, 0, r => r
  | _, _, _ + 1, .nil => .nil
  | _, _, n + 1, .cons _ t => by rw [List.drop_succ_cons, List.drop_succ_cons]; exact DpAll.drop n t
theorem DpAll.set : ∀ {vs : List V} {ds : List PyData} {v : V} {d : PyData} (n : Nat), DpAll K H vs ds → Dp K H v d → DpAll K H (vs.set n v) (ds.set n d)
  | _, _, _, _, _, .nil, _ => .nil
  | _, _, _, _, 0, .cons _ t, q => .cons q t
  | _, _, _, _, n + 1, .cons r t, q => .cons r (DpAll.set n t q)
theorem DpAll.ints : ∀ {vs : List V} {ns : List Int}, DpAll K H vs (ns.map PyData.int) → vs = ns.map V.int
  | _, [], h => by cases h; rfl
  | _, n :: ns, h => by
    cases h with
    | cons h1 h2 =>
      cases h1
      rw [DpAll.ints h2]
      rfl
theorem DpAll.of_ints (ns : List Int) : DpAll K H (ns.map V.int) (ns.map PyData.int) := by
  induction ns with
  | nil => exact .nil
  | cons n ns ih => exact .cons (.int n) ih
theorem Dp.int_of {v : V} {i : Int} (h : Dp K H v (.int i)) : v = .int i := by cases h; rfl
theorem Dp.bool_of {v : V} {i : Bool} (h : Dp K H v (.bool i)) : v = .bl i := by cases h; rfl
theorem Dp.str_of {v : V} {i : Str} (h : Dp K H v (.str i)) : v = .str i := by cases h; rfl
theorem Dp.none_of {v : V} (h : Dp K H v .none) : v = .non := by cases h; rfl
theorem Dp.tupH_of {v : V} {ds : List PyData} (h : Dp K H v (.tuple ds)) : ∃ a vs, v = .ref a ∧ H a = some (.tup vs) ∧ DpAll K H vs ds := by
  cases h with
  | tup hs ha => exact ⟨_, _, rfl, hs, ha⟩
theorem Dp.tup_of {v : V} {ds : List PyData} (h : Dp K H v (.tuple ds)) : ∃ a vs, v = .ref a ∧ SqT K H a vs ∧ DpAll K H vs ds := by
  cases h with
  | tup hs ha => exact ⟨_, _, rfl, st_of hs, ha⟩
theorem Dp.lst_of {v : V} {ds : List PyData} (h : Dp K H v (.list ds)) : ∃ a vs, v = .ref a ∧ SqL K H a vs ∧ DpAll K H vs ds := by
  cases h with
  | lst hs ha => exact ⟨_, _, rfl, hs, ha⟩
end


/-! ### the state of a body: its slots by data, its own lists by address -/
/-- what is true of a value, and stays true -/
structure GP where
  p : PySem.W.Frag → Hp → V → Prop
  mono : ∀ (K : PySem.W.Frag) (H H' : Hp) (v : V), Ex H H' → p K H v → p K H' v
def gD (d : PyData) : GP := ⟨fun K H v => Dp K H v d, fun _ _ _ v x h => dp_mono x d v h⟩
def gRef (b : Addr) : GP := ⟨fun _ _ v => v = .ref b, fun _ _ _ _ _ h => h⟩
inductive MO where
  | lst (ds : List PyData)
  | dK (kvs : List (Key × PyData))
  /-- the dict while something walks it -/
  | fz (od : Obj) (ws : List (Key × V)) (kvs : List (Key × PyData))
  /-- a dict whose keys are tuples; while something walks it -/
  | dT (kvs : List (List Key × GP))
  | fT (od : Obj) (ws : List (List Key × V)) (kvs : List (List Key × GP))
  /-- an own instance -/
  | ins (C : Addr) (fs : List (Str × GP))
  /-- a list of any values -/
  | gl (φs : List GP)
inductive Ent where
  | d (d : PyData)
  | m (a : Addr)
  /-- a list that the program made -/
  | l (ds : List PyData)
  | g (φ : GP)
  | u
abbrev Mem := List (Addr × MO)
structure Cfg where
  K : PySem.W.Frag
  M0 : List Addr
  G : Hp
  B : Hp
/-- a value of a dict -/
abbrev DvOk (K : PySem.W.Frag) (Hh : Hp) (v : V) (d : PyData) : Prop := Dp K Hh v d
theorem DvOk.mono {K : PySem.W.Frag} {H H' : Hp} {v : V} {d : PyData} (x : Ex H H') (h : DvOk K H v d) : DvOk K H' v d := dp_mono x d v h
abbrev GtOk (K : PySem.W.Frag) (Hh : Hp) (ws : List (List Key × V)) (kvs : List (List Key × GP)) : Prop := Paired (fun (p : List Key × V) (q : List Key × GP) => p.1 = q.1 ∧ q.2.p K Hh p.2) ws kvs
def MOok (K : PySem.W.Frag) (Hh H : Hp) (a : Addr) : MO → Prop
  | .lst ds => ∃ vs, H a = some (.lst vs) ∧ DpAll K Hh vs ds
  | .dK kvs => ∃ ws, H a = some (.dK ws) ∧ Paired (fun (p : Key × V) (q : Key × PyData) => p.1 = q.1 ∧ DvOk K Hh p.2 q.2) ws kvs
  | .fz od ws kvs => H a = some (.frz od (.dK ws)) ∧ Paired (fun (p : Key × V) (q : Key × PyData) => p.1 = q.1 ∧ DvOk K Hh p.2 q.2) ws kvs
  | .dT kvs => ∃ ws, H a = some (.dT ws) ∧ GtOk K Hh ws kvs
  | .fT od ws kvs => H a = some (.frz od (.dT ws)) ∧ GtOk K Hh ws kvs
  | .ins C fs => ∃ dx ws, H a = some (.ins C dx ws) ∧ Paired (fun (p : Str × V) (q : Str × GP) => p.1 = q.1 ∧ q.2.p K Hh p.2) ws fs
  | .gl φs => ∃ vs, H a = some (.lst vs) ∧ Paired (fun (v : V) (φ : GP) => φ.p K Hh v) vs φs
def EntOk (K : PySem.W.Frag) (Hh : Hp) : Ent → V → Prop
  | .d d, v => Dp K Hh v d
  | .m a, v => v = .ref a
  | .l ds, v => ∃ a vs, v = .ref a ∧ Hh a = some (.lst vs) ∧ DpAll K Hh vs ds
  | .g φ, v => φ.p K Hh v
  | .u, _ => True
theorem EntOk.mono {K : PySem.W.Frag} {H H' : Hp} {e : Ent} {v : V} (x : Ex H H') (h : EntOk K H e v) : EntOk K H' e v := by
  cases e with
  | d d => exact dp_mono x d v h
  | m a => exact h
  | l ds => obtain ⟨a, vs, e1, e2, e3⟩ := h; exact ⟨a, vs, e1, x a _ e2, dpAll_mono x _ _ e3⟩
  | g φ => exact φ.mono _ _ _ _ x h
  | u => trivial
theorem MOok.there {K : PySem.W.Frag} {Hh H : Hp} {a : Addr} {m : MO} (h : MOok K Hh H a m) : H a ≠ none := by
  cases m with
  | lst ds => obtain ⟨_, e, _⟩ := h; rw [e]; exact fun z => nomatch z
  | dK ds => obtain ⟨_, e, _⟩ := h; rw [e]; exact fun z => nomatch z
  | fz _ _ _ => obtain ⟨e, _⟩ := h; rw [e]; exact fun z => nomatch z
  | dT _ => obtain ⟨_, e, _⟩ := h; rw [e]; exact fun z => nomatch z
  | fT _ _ _ => obtain ⟨e, _⟩ := h; rw [e]; exact fun z => nomatch z
  | ins _ _ => obtain ⟨_, _, e, _⟩ := h; rw [e]; exact fun z => nomatch z
  | gl _ => obtain ⟨_, e, _⟩ := h; rw [e]; exact fun z => nomatch z
theorem MOok.nt {K : PySem.W.Frag} {Hh H : Hp} {a : Addr} {m : MO} (h : MOok K Hh H a m) : isTo (H a) = false := by
  cases m with
  | lst ds => obtain ⟨_, e, _⟩ := h; rw [e]; rfl
  | dK ds => obtain ⟨_, e, _⟩ := h; rw [e]; rfl
  | fz _ _ _ => obtain ⟨e, _⟩ := h; rw [e]; rfl
  | dT _ => obtain ⟨_, e, _⟩ := h; rw [e]; rfl
  | fT _ _ _ => obtain ⟨e, _⟩ := h; rw [e]; rfl
  | ins _ _ => obtain ⟨_, _, e, _⟩ := h; rw [e]; rfl
  | gl _ => obtain ⟨_, e, _⟩ := h; rw [e]; rfl
theorem gt_mono {K : PySem.W.Frag} {H H' : Hp} (x : Ex H H') {ws : List (List Key × V)} {kvs : List (List Key × GP)} (h : GtOk K H ws kvs) : GtOk K H' ws kvs := Paired.mapP h fun _ q z => ⟨z.1, q.2.mono _ _ _ _ x z.2⟩
theorem MOok.mono {K : PySem.W.Frag} {Hh Hh' H H' : Hp} {a : Addr} {m : MO} (x : Ex Hh Hh') (e : ∀ o, H a = some o → H' a = some o) (h : MOok K Hh H a m) : MOok K Hh' H' a m := by
  cases m with
  | lst ds => obtain ⟨vs, e1, q⟩ := h; exact ⟨vs, e _ e1, dpAll_mono x _ _ q⟩
  | dK ds => obtain ⟨vs, e1, q⟩ := h; exact ⟨vs, e _ e1, Paired.mapP q fun p q z => ⟨z.1, z.2.mono x⟩⟩
  | fz _ _ _ => obtain ⟨e1, q⟩ := h; exact ⟨e _ e1, Paired.mapP q fun p q z => ⟨z.1, z.2.mono x⟩⟩
  | dT _ => obtain ⟨vs, e1, q⟩ := h; exact ⟨vs, e _ e1, gt_mono x q⟩
  | fT _ _ _ => obtain ⟨e1, q⟩ := h; exact ⟨e _ e1, gt_mono x q⟩
  | ins _ _ => obtain ⟨dx, vs, e1, q⟩ := h; exact ⟨dx, vs, e _ e1, Paired.mapP q fun _ q z => ⟨z.1, q.2.mono _ _ _ _ x z.2⟩⟩
  | gl _ => obtain ⟨vs, e1, q⟩ := h; exact ⟨vs, e _ e1, Paired.mapP q fun _ q z => q.mono _ _ _ _ x z⟩
end FD
namespace FD
open PySem L2 Evl

structure Ok (C : Cfg) (M : List Addr) (δ : List Ent) (μ : Mem) (σ : L2.St) (H : Hp) : Prop where
  len : σ.length = δ.length
  slot : ∀ (i : Nat) (e : Ent), δ[i]? = some e → e ≠ .u → ∃ v, σ[i]? = some (some v) ∧ EntOk C.K (hide M H) e v
  mem : ∀ p ∈ μ, p.1 ∈ M ∧ C.G p.1 = none ∧ MOok C.K (hide M H) H p.1 p.2
  nd : (μ.map (·.1)).Nodup
  alloc : ∀ a ∈ M, H a ≠ none
  sub : ∀ a ∈ C.M0, a ∈ M
  gr : Ex C.G H
  base : Ex C.B (hide M H)

section
variable {C : Cfg} {M M' : List Addr} {δ δ' δ1 δ2 : List Ent} {μ μ' μ1 μ2 μ3 : Mem} {σ σ' σ1 σ2 : L2.St} {H H' : Hp}
theorem Ok.fresh (o : Ok C M δ μ σ H) {p : Addr} (h : H p = none) : p ∉ M := fun z => o.alloc p z h
/-- the heap grows -/
theorem Ok.grow (o : Ok C M δ μ σ H) (e : Ex H H') : Ok C M δ μ σ H' where
  len := o.len
  slot := fun i x h1 h2 => let ⟨v, a, b⟩ := o.slot i x h1 h2; ⟨v, a, b.mono (hide_ex e)⟩
  mem := fun p hp => let ⟨a, b, c⟩ := o.mem p hp; ⟨a, b, c.mono (hide_ex e) fun u q => e _ u q⟩
  nd := o.nd
  alloc := fun a ha => by
    cases q : H a with
    | none => exact absurd q (o.alloc a ha)
    | some u => rw [e a u q]; exact fun z => nomatch z
  sub := o.sub
  gr := o.gr.trans e
  base := o.base.trans (hide_ex e)
/-- the slots of one state, the lists of a later one -/
theorem Ok.swap (o : Ok C M δ1 μ1 σ1 H) (p : Ok C M δ2 μ2 σ2 H') (e : Ex (hide M H) (hide M H')) : Ok C M δ1 μ2 σ1 H' where
  len := o.len
  slot := fun i x h1 h2 => let ⟨v, a, b⟩ := o.slot i x h1 h2; ⟨v, a, b.mono e⟩
  mem := p.mem
  nd := p.nd
  alloc := p.alloc
  sub := p.sub
  gr := p.gr
  base := p.base
theorem Ok.reB {B : Hp} (o : Ok { C with B := B } M δ μ σ H) (h : Ex C.B B) : Ok C M δ μ σ H where
  len := o.len
  slot := o.slot
  mem := o.mem
  nd := o.nd
  alloc := o.alloc
  sub := o.sub
  gr := o.gr
  base := h.trans o.base
theorem Ok.toB (o : Ok C M δ μ σ H) : Ok { C with B := hide M H } M δ μ σ H where
  len := o.len
  slot := o.slot
  mem := o.mem
  nd := o.nd
  alloc := o.alloc
  sub := o.sub
  gr := o.gr
  base := Ex.refl _
theorem Ok.inB {B : Hp} (o : Ok C M δ μ σ H) (h : Ex B (hide M H)) : Ok { C with B := B } M δ μ σ H where
  len := o.len
  slot := o.slot
  mem := o.mem
  nd := o.nd
  alloc := o.alloc
  sub := o.sub
  gr := o.gr
  base := h
/-- a slot is stored -/
theorem Ok.set (o : Ok C M δ μ σ H) (i : Nat) {e : Ent} {v : V} (r : EntOk C.K (hide M H) e v) : Ok C M (δ.set i e) μ (σ.set i (some v)) H where
  len := by rw [List.length_set, List.length_set]; exact o.len
  slot := fun j x h1 h2 => by
    by_cases q : i = j
    · subst q
      have hl : i < δ.length := by
        have := (List.getElem?_eq_some_iff.mp h1).1
        rw [List.length_set] at this; exact this
      rw [List.getElem?_set_self hl] at h1
      cases h1
      exact ⟨v, by rw [List.getElem?_set_self (by rw [o.len]; exact hl)], r⟩
    · rw [List.getElem?_set_ne q] at h1
      obtain ⟨w, a, b⟩ := o.slot j x h1 h2
      exact ⟨w, by rw [List.getElem?_set_ne q]; exact a, b⟩
  mem := o.mem
  nd := o.nd
  alloc := o.alloc
  sub := o.sub
  gr := o.gr
  base := o.base
/-- slots forgotten -/
theorem Ok.weak (o : Ok C M δ μ σ H) (hl : σ'.length = δ'.length) (h : ∀ (i : Nat) (e : Ent), δ'[i]? = some e → e ≠ .u → δ[i]? = some e ∧ σ'[i]? = σ[i]?) : Ok C M δ' μ σ' H where
  len := hl
  slot := fun i e h1 h2 => by
    obtain ⟨a, b⟩ := h i e h1 h2
    obtain ⟨v, c, d⟩ := o.slot i e a h2
    exact ⟨v, b.trans c, d⟩
  mem := o.mem
  nd := o.nd
  alloc := o.alloc
  sub := o.sub
  gr := o.gr
  base := o.base
/-- hidden objects dropped -/
theorem Ok.drop (o : Ok C M' δ μ σ H) (s : ∀ a ∈ M, a ∈ M') (h : ∀ p ∈ μ, p.1 ∈ M) (h0 : ∀ a ∈ C.M0, a ∈ M) : Ok C M δ μ σ H where
  len := o.len
  slot := fun i x h1 h2 => let ⟨v, a, b⟩ := o.slot i x h1 h2; ⟨v, a, b.mono (hide_sub s)⟩
  mem := fun p hp => let ⟨_, b, c⟩ := o.mem p hp; ⟨h p hp, b, c.mono (hide_sub s) fun _ q => q⟩
  nd := o.nd
  alloc := fun a ha => o.alloc a (s a ha)
  sub := h0
  gr := o.gr
  base := o.base.trans (hide_sub s)
/-- some of the lists are no longer spoken of -/
theorem Ok.mems (o : Ok C M δ μ σ H) (h : ∀ p ∈ μ', p ∈ μ) (nd : (μ'.map (·.1)).Nodup) : Ok C M δ μ' σ H where
  len := o.len
  slot := o.slot
  mem := fun p hp => o.mem p (h p hp)
  nd := nd
  alloc := o.alloc
  sub := o.sub
  gr := o.gr
  base := o.base
theorem nodup_fst {α β : Type} {l : List (α × β)} (hN : (l.map (·.1)).Nodup) {i j : Nat} {a : α} {x y : β} (h1 : l[i]? = some (a, x)) (h2 : l[j]? = some (a, y)) : i = j := by
  have e1 : (l.map (·.1))[i]? = some a := by rw [List.getElem?_map, h1]; rfl
  have e2 : (l.map (·.1))[j]? = some a := by rw [List.getElem?_map, h2]; rfl
  exact L2.nd_ix hN e1 e2
theorem map_set_fst {α β : Type} {l : List (α × β)} {j : Nat} {a : α} {x y : β} (h : l[j]? = some (a, x)) : (l.set j (a, y)).map (·.1) = l.map (·.1) := by
  rw [List.map_set]
  refine List.ext_getElem? fun k => ?_
  by_cases q : j = k
  · subst q
    have hl := (List.getElem?_eq_some_iff.mp h).1
    rw [List.getElem?_set_self (by rw [List.length_map]; exact hl), List.getElem?_map, h]; rfl
  · rw [List.getElem?_set_ne q]
/-- one of the lists is written -/
theorem Ok.write (o : Ok C M δ μ σ H) {j : Nat} {a : Addr} {mo mo' : MO} {ho : HO} (h : μ[j]? = some (a, mo)) (hn : MOok C.K (hide M H) (upd H a ho) a mo') : Ok C M δ (μ.set j (a, mo')) σ (upd H a ho) where
  len := o.len
  slot := fun i x h1 h2 => by
    rw [hide_upd (o.mem _ (List.mem_of_getElem? h)).1 (o.mem _ (List.mem_of_getElem? h)).2.2.nt (by have := hn.nt; rw [upd_same] at this; exact this)]; exact o.slot i x h1 h2
  mem := fun p hp => by
    have ha := o.mem _ (List.mem_of_getElem? h)
    rw [hide_upd ha.1 ha.2.2.nt (by have := hn.nt; rw [upd_same] at this; exact this)]
    obtain ⟨k, hk⟩ := List.getElem?_of_mem hp
    by_cases q : j = k
    · subst q
      rw [List.getElem?_set_self (List.getElem?_eq_some_iff.mp h).1] at hk
      cases hk
      exact ⟨ha.1, ha.2.1, hn⟩
    · rw [List.getElem?_set_ne q] at hk
      obtain ⟨b1, b2, b3⟩ := o.mem p (List.mem_of_getElem? hk)
      refine ⟨b1, b2, b3.mono (Ex.refl _) fun u e => ?_⟩
      rw [upd_ne (fun z => ?_)]
      · exact e
      · have : (p.1, p.2) = p := rfl
        rw [← this, z] at hk
        exact q (nodup_fst o.nd h hk)
  nd := by rw [map_set_fst h]; exact o.nd
  alloc := fun b hb => by
    by_cases q : b = a
    · subst q; rw [upd_same]; exact fun z => nomatch z
    · rw [upd_ne q]; exact o.alloc b hb
  sub := o.sub
  gr := Ex.mut o.gr (o.mem _ (List.mem_of_getElem? h)).2.1
  base := by rw [hide_upd (o.mem _ (List.mem_of_getElem? h)).1 (o.mem _ (List.mem_of_getElem? h)).2.2.nt (by have := hn.nt; rw [upd_same] at this; exact this)]; exact o.base
theorem hide_new {p : Addr} {o : HO} (h : H p = none) : Ex (hide M H) (hide (p :: M) (upd H p o)) := fun a u e => by
  obtain ⟨q, e⟩ := hide_some e
  have ne : a ≠ p := ne_of_none e h
  exact hide_mk (by rw [upd_ne ne]; exact e) fun z => (List.mem_cons.mp z).elim (fun y => absurd y ne) q
/-- a new list of one's own -/
theorem Ok.new (o : Ok C M δ μ σ H) {p : Addr} {mo : MO} {ho : HO} (h : H p = none) (hn : MOok C.K (hide (p :: M) (upd H p ho)) (upd H p ho) p mo) : Ok C (p :: M) δ ((p, mo) :: μ) σ (upd H p ho) where
  len := o.len
  slot := fun i x h1 h2 => let ⟨v, a, b⟩ := o.slot i x h1 h2; ⟨v, a, b.mono (hide_new h)⟩
  mem := fun q hq => by
    rcases List.mem_cons.mp hq with e | hq
    · subst e
      refine ⟨List.mem_cons_self, ?_, hn⟩
      cases z : C.G p with
      | none => rfl
      | some u => have := o.gr p u z; rw [h] at this; cases this
    · obtain ⟨b1, b2, b3⟩ := o.mem q hq
      refine ⟨List.mem_cons_of_mem _ b1, b2, b3.mono (hide_new h) fun u e => ?_⟩
      rw [upd_ne (ne_of_none e h)]; exact e
  nd := by
    rw [List.map_cons, List.nodup_cons]
    refine ⟨fun z => ?_, o.nd⟩
    obtain ⟨q, hq, e⟩ := List.mem_map.mp z
    have := (o.mem q hq).2.2.there
    rw [show q.1 = p from e] at this
    exact this h
  alloc := fun b hb => by
    rcases List.mem_cons.mp hb with e | hb
    · subst e; rw [upd_same]; exact fun z => nomatch z
    · have ne : b ≠ p := fun z => o.alloc b hb (z ▸ h)
      rw [upd_ne ne]; exact o.alloc b hb
  sub := fun a ha => List.mem_cons_of_mem _ (o.sub a ha)
  gr := o.gr.trans (Ex.new h)
  base := o.base.trans (hide_new h)
end

/-! ### judgements -/
def EvX (C : Cfg) (te : TE) (M : List Addr) (δ : List Ent) (μ μ' : Mem) (e : Ent) : Prop := ∀ σ H, Ok C M δ μ σ H → ∀ Q : VK, (∀ v H', Ok C M δ μ' σ H' → Ex (hide M H) (hide M H') → EntOk C.K (hide M H') e v → Q v H') → te σ H Q
def EvT (C : Cfg) (tt : TT) (M : List Addr) (δ : List Ent) (μ μ' : Mem) (b : Bool) : Prop := ∀ σ H, Ok C M δ μ σ H → ∀ Q : Bool → Hp → Prop, (∀ H', Ok C M δ μ' σ H' → Ex (hide M H) (hide M H') → Q b H') → tt σ H Q
def EvA (C : Cfg) (ta : TA) (M : List Addr) (δ : List Ent) (μ μ' : Mem) (es : List Ent) : Prop := ∀ σ H, Ok C M δ μ σ H → ∀ Q : List V → Hp → Prop, (∀ vs H', Ok C M δ μ' σ H' → Ex (hide M H) (hide M H') → Paired (EntOk C.K (hide M H')) es vs → Q vs H') → ta σ H Q
def EvO (C : Cfg) (to : TO) (M : List Addr) (δ : List Ent) (μ μ' : Mem) (o : Option Int) : Prop := ∀ σ H, Ok C M δ μ σ H → ∀ Q : Option Int → Hp → Prop, (∀ H', Ok C M δ μ' σ H' → Ex (hide M H) (hide M H') → Q o H') → to σ H Q
def OpX (C : Cfg) (r : R2) (M : List Addr) (δ : List Ent) (μ μ' : Mem) (e1 e2 e3 : Ent) : Prop := ∀ σ H x y, Ok C M δ μ σ H → EntOk C.K (hide M H) e1 x → EntOk C.K (hide M H) e2 y → ∀ Q : VK, (∀ v H', Ok C M δ μ' σ H' → Ex (hide M H) (hide M H') → EntOk C.K (hide M H') e3 v → Q v H') → r x y H Q
def CallX (C : Cfg) (r : List V → Hp → VK → Prop) (M : List Addr) (δ : List Ent) (μ μ' : Mem) (es : List Ent) (e : Ent) : Prop := ∀ σ H vs, Ok C M δ μ σ H → Paired (EntOk C.K (hide M H)) es vs → ∀ Q : VK, (∀ v H', Ok C M δ μ' σ H' → Ex (hide M H) (hide M H') → EntOk C.K (hide M H') e v → Q v H') → r vs H Q
/-- what an entry reads as just now -/
inductive Rdd (μ : Mem) : Ent → PyData → Prop
  | d (d : PyData) : Rdd μ (.d d) d
  | m {j : Nat} {a : Addr} {ds : List PyData} : μ[j]? = some (a, .lst ds) → Rdd μ (.m a) (.list ds)
section
variable {C : Cfg} {M M' : List Addr} {δ δ' δ1 δ2 : List Ent} {μ μ' μ1 μ2 μ3 : Mem} {σ σ' σ1 σ2 : L2.St} {H H' : Hp} {e e1 e2 e3 : Ent} {ta tb te tc : TE} {t u : TT}
theorem Rdd.dp {x : PyData} (r : Rdd μ e x) (o : Ok C M δ μ σ H) {v : V} (h : EntOk C.K (hide M H) e v) : Dp C.K H v x := by
  cases r with
  | d _ => exact dp_mono hide_le x v h
  | m hj =>
    have h' : v = _ := h
    subst h'
    obtain ⟨_, _, vs, e1, q⟩ := o.mem _ (List.mem_of_getElem? hj)
    exact .lst (SqL.of e1) (dpAll_mono hide_le _ _ q)
/-- .. as a list or tuple whose items are data -/
theorem Rdd.lst {ds : List PyData} (r : Rdd μ e (.list ds)) (o : Ok C M δ μ σ H) {v : V} (h : EntOk C.K (hide M H) e v) : ∃ a vs, v = .ref a ∧ SqL C.K H a vs ∧ DpAll C.K (hide M H) vs ds := by
  cases r with
  | d _ =>
    obtain ⟨a, vs, e1, e2, e3⟩ := Dp.lst_of h
    exact ⟨a, vs, e1, ex_l hide_le e2, e3⟩
  | m hj =>
    have h' : v = _ := h
    obtain ⟨_, _, vs, e1, q⟩ := o.mem _ (List.mem_of_getElem? hj)
    exact ⟨_, vs, h', SqL.of e1, q⟩
theorem x_is (h : EvX C te M δ μ μ' e) (q : e = e1) : EvX C te M δ μ μ' e1 := by rw [← q]; exact h
theorem x_var {i : Nat} (h : δ[i]? = some e) (hu : e ≠ .u) : EvX C (tVar i) M δ μ μ e := fun σ H o Q k =>
  let ⟨v, a, b⟩ := o.slot i e h hu
  ⟨v, a, k v H o (Ex.refl _) b⟩
theorem x_vd {i : Nat} {d : PyData} (h : δ[i]? = some (.d d)) : EvX C (tVar i) M δ μ μ (.d d) := x_var h (fun z => nomatch z)
theorem x_vm {i : Nat} {a : Addr} (h : δ[i]? = some (.m a)) : EvX C (tVar i) M δ μ μ (.m a) := x_var h (fun z => nomatch z)
theorem x_int {i : Int} : EvX C (tC (.int i)) M δ μ μ (.d (.int i)) := fun σ H o Q k => k _ H o (Ex.refl _) (.int i)
theorem x_bl {i : Bool} : EvX C (tC (.bl i)) M δ μ μ (.d (.bool i)) := fun σ H o Q k => k _ H o (Ex.refl _) (.bl i)
theorem x_str {i : Str} : EvX C (tC (.str i)) M δ μ μ (.d (.str i)) := fun σ H o Q k => k _ H o (Ex.refl _) (.str i)
theorem x_non : EvX C (tC .non) M δ μ μ (.d .none) := fun σ H o Q k => k _ H o (Ex.refl _) .non
theorem x_op {r : R2} (ha : EvX C ta M δ μ μ1 e1) (hb : EvX C tb M δ μ1 μ2 e2) (hr : OpX C r M δ μ2 μ3 e1 e2 e3) : EvX C (tOp r ta tb) M δ μ μ3 e3 := fun σ H o Q k =>
  ha σ H o _ fun x H1 o1 x1 r1 => hb σ H1 o1 _ fun y H2 o2 x2 r2 => hr σ H2 x y o2 (r1.mono x2) r2 Q fun v H3 o3 x3 r3 => k v H3 o3 ((x1.trans x2).trans x3) r3
theorem x_un {r : V → Hp → VK → Prop} (ha : EvX C ta M δ μ μ1 e1) (hr : ∀ σ H x, Ok C M δ μ1 σ H → EntOk C.K (hide M H) e1 x → ∀ Q : VK, (∀ v H', Ok C M δ μ2 σ H' → Ex (hide M H) (hide M H') → EntOk C.K (hide M H') e3 v → Q v H') → r x H Q) : EvX C (tUn r ta) M δ μ μ2 e3 := fun σ H o Q k =>
  ha σ H o _ fun x H1 o1 x1 r1 => hr σ H1 x o1 r1 Q fun v H3 o3 x3 r3 => k v H3 o3 (x1.trans x3) r3
theorem x_neg {i : Int} (ha : EvX C ta M δ μ μ1 (.d (.int i))) : EvX C (tUn (rU fun i => .int (-i)) ta) M δ μ μ1 (.d (.int (-i))) :=
  x_un ha fun σ H x o h Q k => ⟨i, Dp.int_of h, k _ H o (Ex.refl _) (.int _)⟩
theorem o_I0 {g : Int → Int → Int} {i j : Int} : OpX C (rI0 fun i j => .int (g i j)) M δ μ μ (.d (.int i)) (.d (.int j)) (.d (.int (g i j))) := fun σ H x y o h1 h2 Q k =>
  ⟨i, j, Dp.int_of h1, Dp.int_of h2, k _ H o (Ex.refl _) (.int _)⟩
theorem o_B0 {g : Int → Int → Bool} {i j : Int} : OpX C (rI0 fun i j => .bl (g i j)) M δ μ μ (.d (.int i)) (.d (.int j)) (.d (.bool (g i j))) := fun σ H x y o h1 h2 Q k =>
  ⟨i, j, Dp.int_of h1, Dp.int_of h2, k _ H o (Ex.refl _) (.bl _)⟩
theorem o_I {c : Int → Int → Prop} {g : Int → Int → Int} {i j : Int} (hc : c i j) : OpX C (rI c fun i j => .int (g i j)) M δ μ μ (.d (.int i)) (.d (.int j)) (.d (.int (g i j))) := fun σ H x y o h1 h2 Q k =>
  ⟨i, j, Dp.int_of h1, Dp.int_of h2, hc, k _ H o (Ex.refl _) (.int _)⟩
theorem o_eqD {d1 d2 : PyData} (r1 : Rdd μ e1 d1) (r2 : Rdd μ e2 d2) (s1 : SeqAt.shaped d1 = true) (s2 : SeqAt.shaped d2 = true) : OpX C (rEqD C.K) M δ μ μ e1 e2 (.d (.bool (PyData.eqv d1 d2))) := fun σ H x y o h1 h2 Q k =>
  ⟨d1, d2, (r1.dp o h1).w, (r2.dp o h2).w, s1, s2, k _ H o (Ex.refl _) (.bl _)⟩
theorem o_neD {d1 d2 : PyData} (r1 : Rdd μ e1 d1) (r2 : Rdd μ e2 d2) (s1 : SeqAt.shaped d1 = true) (s2 : SeqAt.shaped d2 = true) : OpX C (rNeD C.K) M δ μ μ e1 e2 (.d (.bool (!PyData.eqv d1 d2))) := fun σ H x y o h1 h2 Q k =>
  ⟨d1, d2, (r1.dp o h1).w, (r2.dp o h2).w, s1, s2, k _ H o (Ex.refl _) (.bl _)⟩
theorem at_dp {K : PySem.W.Frag} {Hh : Hp} {vs : List V} {ds : List PyData} {i : Int} {d : PyData} (h : DpAll K Hh vs ds) (ha : atI ds i = some d) : ∃ v, atI vs i = some v ∧ Dp K Hh v d := by
  unfold atI at ha ⊢
  rw [DpAll.length h]
  cases q : ixN ds.length i with
  | none => rw [q] at ha; cases ha
  | some j =>
    rw [q] at ha
    exact h.get ha
theorem o_ixL {i : Int} {ds : List PyData} {d : PyData} (r : Rdd μ e1 (.list ds)) (ha : atI ds i = some d) : OpX C (rIxL C.K) M δ μ μ e1 (.d (.int i)) (.d d) := fun σ H x y o h1 h2 Q k => by
  obtain ⟨a, vs, q1, q2, q3⟩ := r.lst o h1
  obtain ⟨v, q4, q5⟩ := at_dp q3 ha
  exact ⟨a, vs, i, v, q1, Dp.int_of h2, q2, q4, k _ H o (Ex.refl _) q5⟩
theorem o_ixT {i : Int} {ds : List PyData} {d : PyData} (ha : atI ds i = some d) : OpX C (rIxT C.K) M δ μ μ (.d (.tuple ds)) (.d (.int i)) (.d d) := fun σ H x y o h1 h2 Q k => by
  obtain ⟨a, vs, q1, q2, q3⟩ := Dp.tup_of h1
  obtain ⟨v, q4, q5⟩ := at_dp q3 ha
  exact ⟨a, vs, i, v, q1, Dp.int_of h2, ex_t hide_le q2, q4, k _ H o (Ex.refl _) q5⟩
theorem dpAll_nil {K : PySem.W.Frag} {H : Hp} {vs : List V} {ds : List PyData} (h : DpAll K H vs ds) : vs = [] ↔ ds = [] := by
  cases h with
  | nil => simp
  | cons _ _ => simp
/-- a new tracked tuple -/
theorem Ok.tup (o : Ok C M δ μ σ H) {p : Addr} {vs : List V} {ds : List PyData} (hp : H p = none) (h : DpAll C.K (hide M H) vs ds) : Ok C M δ μ σ (upd H p (.tup vs)) ∧ Ex (hide M H) (hide M (upd H p (.tup vs))) ∧ Dp C.K (hide M (upd H p (.tup vs))) (.ref p) (.tuple ds) := by
  have e : Ex H (upd H p (.tup vs)) := Ex.new hp
  refine ⟨o.grow e, hide_ex e, .tup ?_ (dpAll_mono (hide_ex e) _ _ h)⟩
  rw [hide_out (o.fresh hp), upd_same]
theorem Ok.lst (o : Ok C M δ μ σ H) {p : Addr} {vs : List V} {ds : List PyData} (hp : H p = none) (h : DpAll C.K (hide M H) vs ds) : Ok C M δ μ σ (upd H p (.lst vs)) ∧ Ex (hide M H) (hide M (upd H p (.lst vs))) ∧ Dp C.K (hide M (upd H p (.lst vs))) (.ref p) (.list ds) := by
  have e : Ex H (upd H p (.lst vs)) := Ex.new hp
  refine ⟨o.grow e, hide_ex e, .lst (sq_of ?_) (dpAll_mono (hide_ex e) _ _ h)⟩
  rw [hide_out (o.fresh hp), upd_same]
theorem o_catT {ds es : List PyData} (hz : ds.length + es.length ≤ 100000) : OpX C (rCatA C.K) M δ μ μ (.d (.tuple ds)) (.d (.tuple es)) (.d (.tuple (ds ++ es))) := fun σ H x y o h1 h2 Q k => by
  obtain ⟨a, vs, q1, q2, q3⟩ := Dp.tup_of h1
  obtain ⟨b, ws, p1, p2, p3⟩ := Dp.tup_of h2
  refine ⟨a, b, vs, ws, q1, p1, ex_t hide_le q2, ex_t hide_le p2, ?_, fun z => ?_, fun z1 z2 => ?_, fun z1 z2 p hp => ?_⟩
  · rw [q3.length, p3.length]; exact sz_of hz
  · have z' := (dpAll_nil q3).mp z
    subst z'
    refine k _ H o (Ex.refl _) ?_
    rw [← p1]; exact h2
  · have z' := (dpAll_nil p3).mp z2
    subst z'
    refine k _ H o (Ex.refl _) ?_
    rw [← q1, List.append_nil]; exact h1
  · obtain ⟨o', x', d'⟩ := o.tup hp (q3.append p3)
    exact k _ _ o' x' d'
def isNon : PyData → Bool
  | .none => true
  | _ => false
theorem o_isN {d : PyData} : OpX C (fun x y H Q => y = .non ∧ Q (.bl (decide (x = .non))) H) M δ μ μ (.d d) (.d .none) (.d (.bool (isNon d))) := fun σ H x y o h1 h2 Q k => by
  refine ⟨Dp.none_of h2, k _ H o (Ex.refl _) ?_⟩
  have e : decide (x = .non) = isNon d := by
    cases d <;> cases h1 <;> simp [isNon]
  rw [e]; exact .bl _
theorem o_notN {d : PyData} : OpX C (fun x y H Q => y = .non ∧ Q (.bl (!decide (x = .non))) H) M δ μ μ (.d d) (.d .none) (.d (.bool (!isNon d))) := fun σ H x y o h1 h2 Q k => by
  refine ⟨Dp.none_of h2, k _ H o (Ex.refl _) ?_⟩
  have e : decide (x = .non) = isNon d := by
    cases d <;> cases h1 <;> simp [isNon]
  rw [e]; exact .bl _

/-! ### arguments, displays -/
theorem a_nil : EvA C tNil M δ μ μ [] := fun σ H o Q k => k [] H o (Ex.refl _) .nil
theorem entsMono {K : PySem.W.Frag} {H H' : Hp} (x : Ex H H') {es : List Ent} {vs : List V} (h : Paired (EntOk K H) es vs) : Paired (EntOk K H') es vs := Paired.mapP h fun _ _ q => q.mono x
theorem a_cons {tr : TA} {es : List Ent} (h : EvX C ta M δ μ μ1 e) (hr : EvA C tr M δ μ1 μ2 es) : EvA C (tCons ta tr) M δ μ μ2 (e :: es) := fun σ H o Q k =>
  h σ H o _ fun v H1 o1 x1 r1 => hr σ H1 o1 _ fun vs H2 o2 x2 r2 => k (v :: vs) H2 o2 (x1.trans x2) (.cons (r1.mono x2) r2)
theorem dpAll_of {K : PySem.W.Frag} {H : Hp} : ∀ {ds : List PyData} {vs : List V}, Paired (EntOk K H) (ds.map Ent.d) vs → DpAll K H vs ds
  | [], _, h => by cases h; exact .nil
  | d :: ds, _, h => by
    cases h with
    | cons h1 h2 => exact .cons h1 (dpAll_of h2)
theorem x_tup {tr : TA} {ds : List PyData} (h : EvA C tr M δ μ μ' (ds.map Ent.d)) (hl : ds.length ≤ 100000) : EvX C (tTup tr) M δ μ μ' (.d (.tuple ds)) := fun σ H o Q k =>
  h σ H o _ fun vs H1 o1 x1 r1 => ⟨by have := (dpAll_of r1).length; rw [this]; exact sz_of hl, fun p hp => by
    obtain ⟨o', x', d'⟩ := o1.tup hp (dpAll_of r1)
    exact k _ _ o' (x1.trans x') d'⟩
theorem x_lst {tr : TA} {ds : List PyData} (h : EvA C tr M δ μ μ' (ds.map Ent.d)) (hl : ds.length ≤ 100000) : EvX C (tLst tr) M δ μ μ' (.d (.list ds)) := fun σ H o Q k =>
  h σ H o _ fun vs H1 o1 x1 r1 => ⟨by have := (dpAll_of r1).length; rw [this]; exact sz_of hl, fun p hp => by
    obtain ⟨o', x', d'⟩ := o1.lst hp (dpAll_of r1)
    exact k _ _ o' (x1.trans x') d'⟩
/-! ### calls of built-ins -/
theorem x_cb {r : List V → Hp → VK → Prop} {tr : TA} {es : List Ent} (h : EvA C tr M δ μ μ1 es) (hr : CallX C r M δ μ1 μ2 es e) : EvX C (tCB r tr) M δ μ μ2 e := fun σ H o Q k =>
  h σ H o _ fun vs H1 o1 x1 r1 => hr σ H1 vs o1 r1 Q fun v H2 o2 x2 r2 => k v H2 o2 (x1.trans x2) r2
theorem p1 {α β : Type} {F : α → β → Prop} {a : α} {bs : List β} (h : Paired F [a] bs) : ∃ b, bs = [b] ∧ F a b := by
  cases h with
  | cons h1 h2 => cases h2; exact ⟨_, rfl, h1⟩
theorem p2 {α β : Type} {F : α → β → Prop} {a a' : α} {bs : List β} (h : Paired F [a, a'] bs) : ∃ b b', bs = [b, b'] ∧ F a b ∧ F a' b' := by
  cases h with
  | cons h1 h2 => obtain ⟨b, rfl, q⟩ := p1 h2; exact ⟨_, _, rfl, h1, q⟩
theorem c_abs {i : Int} : CallX C (fun xs H Q => ∃ i, xs = [.int i] ∧ Q (.int (if i < 0 then -i else i)) H) M δ μ μ [.d (.int i)] (.d (.int (if i < 0 then -i else i))) := fun σ H vs o h Q k => by
  obtain ⟨v, rfl, q⟩ := p1 h
  exact ⟨i, by rw [Dp.int_of q], k _ H o (Ex.refl _) (.int _)⟩
theorem c_max2 {i j : Int} : CallX C (fun xs H Q => ∃ i j, xs = [.int i, .int j] ∧ Q (.int (if j > i then j else i)) H) M δ μ μ [.d (.int i), .d (.int j)] (.d (.int (if j > i then j else i))) := fun σ H vs o h Q k => by
  obtain ⟨v, w, rfl, q, q'⟩ := p2 h
  exact ⟨i, j, by rw [Dp.int_of q, Dp.int_of q'], k _ H o (Ex.refl _) (.int _)⟩
theorem c_min2 {i j : Int} : CallX C (fun xs H Q => ∃ i j, xs = [.int i, .int j] ∧ Q (.int (if j < i then j else i)) H) M δ μ μ [.d (.int i), .d (.int j)] (.d (.int (if j < i then j else i))) := fun σ H vs o h Q k => by
  obtain ⟨v, w, rfl, q, q'⟩ := p2 h
  exact ⟨i, j, by rw [Dp.int_of q, Dp.int_of q'], k _ H o (Ex.refl _) (.int _)⟩
theorem c_intI {i : Int} : CallX C (fun xs H Q => (∃ i, xs = [.int i] ∧ Q (.int i) H) ∨ ∃ k, xs = [.bl k] ∧ Q (.int (if k then 1 else 0)) H) M δ μ μ [.d (.int i)] (.d (.int i)) := fun σ H vs o h Q k => by
  obtain ⟨v, rfl, q⟩ := p1 h
  exact .inl ⟨i, by rw [Dp.int_of q], k _ H o (Ex.refl _) (.int _)⟩
theorem c_intB {b : Bool} : CallX C (fun xs H Q => (∃ i, xs = [.int i] ∧ Q (.int i) H) ∨ ∃ k, xs = [.bl k] ∧ Q (.int (if k then 1 else 0)) H) M δ μ μ [.d (.bool b)] (.d (.int (if b then 1 else 0))) := fun σ H vs o h Q k => by
  obtain ⟨v, rfl, q⟩ := p1 h
  exact .inr ⟨b, by rw [Dp.bool_of q], k _ H o (Ex.refl _) (.int _)⟩
abbrev rLenS (K : PySem.W.Frag) : List V → Hp → VK → Prop := fun xs H Q => ∃ p ys, xs = [.ref p] ∧ (SqL K H p ys ∨ SqT K H p ys) ∧ Q (.int ys.length) H
theorem c_lenL {ds : List PyData} (r : Rdd μ e (.list ds)) : CallX C (rLenS C.K) M δ μ μ [e] (.d (.int (ds.length : Int))) := fun σ H vs o h Q k => by
  obtain ⟨v, rfl, q⟩ := p1 h
  obtain ⟨a, ws, q1, q2, q3⟩ := r.lst o q
  refine ⟨a, ws, by rw [q1], .inl q2, k _ H o (Ex.refl _) ?_⟩
  rw [q3.length]; exact .int _
theorem c_lenT {ds : List PyData} : CallX C (rLenS C.K) M δ μ μ [.d (.tuple ds)] (.d (.int (ds.length : Int))) := fun σ H vs o h Q k => by
  obtain ⟨v, rfl, q⟩ := p1 h
  obtain ⟨a, ws, q1, q2, q3⟩ := Dp.tup_of q
  refine ⟨a, ws, by rw [q1], .inr (ex_t hide_le q2), k _ H o (Ex.refl _) ?_⟩
  rw [q3.length]; exact .int _
theorem c_sum {ns : List Int} (r : Rdd μ e (.list (ns.map .int))) : CallX C (rSum C.K) M δ μ μ [e] (.d (.int ns.sum)) := fun σ H vs o h Q k => by
  obtain ⟨v, rfl, q⟩ := p1 h
  obtain ⟨a, ws, q1, q2, q3⟩ := r.lst o q
  rw [q3.ints] at q2
  exact ⟨a, ns, by rw [q1], q2, k _ H o (Ex.refl _) (.int _)⟩
theorem c_minI {ns : List Int} {m : Int} (r : Rdd μ e (.list (ns.map .int))) (hm : m ∈ ns) (hl : ∀ y ∈ ns, m ≤ y) : CallX C (rMin C.K) M δ μ μ [e] (.d (.int m)) := fun σ H vs o h Q k => by
  obtain ⟨v, rfl, q⟩ := p1 h
  obtain ⟨a, ws, q1, q2, q3⟩ := r.lst o q
  rw [q3.ints] at q2
  refine ⟨a, ns, by rw [q1], q2, List.length_pos_of_mem hm, fun m' h1 h2 => ?_⟩
  have e : m' = m := Int.le_antisymm (h2 m hm) (hl m' h1)
  subst e
  exact k _ H o (Ex.refl _) (.int _)
theorem c_maxI {ns : List Int} {m : Int} (r : Rdd μ e (.list (ns.map .int))) (hm : m ∈ ns) (hl : ∀ y ∈ ns, y ≤ m) : CallX C (rMax C.K) M δ μ μ [e] (.d (.int m)) := fun σ H vs o h Q k => by
  obtain ⟨v, rfl, q⟩ := p1 h
  obtain ⟨a, ws, q1, q2, q3⟩ := r.lst o q
  rw [q3.ints] at q2
  refine ⟨a, ns, by rw [q1], q2, List.length_pos_of_mem hm, fun m' h1 h2 => ?_⟩
  have e : m' = m := Int.le_antisymm (hl m' h1) (h2 m hm)
  subst e
  exact k _ H o (Ex.refl _) (.int _)
abbrev rTupleS (K : PySem.W.Frag) : List V → Hp → VK → Prop := fun xs H Q => ∃ p ys, xs = [.ref p] ∧ ((SqL K H p ys ∧ ∀ l, H l = none → Q (.ref l) (upd H l (.tup ys))) ∨ (SqT K H p ys ∧ Q (.ref p) H))
theorem c_tupleL {ds : List PyData} (r : Rdd μ e (.list ds)) : CallX C (rTupleS C.K) M δ μ μ [e] (.d (.tuple ds)) := fun σ H vs o h Q k => by
  obtain ⟨v, rfl, q⟩ := p1 h
  obtain ⟨a, ws, q1, q2, q3⟩ := r.lst o q
  refine ⟨a, ws, by rw [q1], .inl ⟨q2, fun l hl => ?_⟩⟩
  obtain ⟨o', x', d'⟩ := o.tup hl q3
  exact k _ _ o' x' d'
end
end FD
namespace FD
open PySem L2 Evl
section
variable {C : Cfg} {M M' : List Addr} {δ δ' δ1 δ2 : List Ent} {μ μ' μ1 μ2 μ3 : Mem} {σ σ' σ1 σ2 : L2.St} {H H' : Hp} {e e1 e2 e3 : Ent} {ta tb te tc : TE} {t u : TT} {b c : Bool}
/-! ### tests -/
theorem t_is (h : EvT C t M δ μ μ' b) (q : b = c) : EvT C t M δ μ μ' c := by rw [← q]; exact h
theorem t_test (h : EvX C te M δ μ μ' (.d (.bool b))) : EvT C (tTest te) M δ μ μ' b := fun σ H o Q k => h σ H o _ fun v H' o' x r => ⟨b, Dp.bool_of r, k H' o' x⟩
theorem t_B (h : EvX C te M δ μ μ' (.d (.bool b))) : EvT C (tB te) M δ μ μ' b := fun σ H o Q k => h σ H o _ fun v H' o' x r => ⟨b, Dp.bool_of r, k H' o' x⟩
theorem t_not (h : EvT C t M δ μ μ' b) : EvT C (tNot t) M δ μ μ' (!b) := fun σ H o Q k => h σ H o _ fun H' o' x => k H' o' x
theorem t_yes : EvT C tYes M δ μ μ true := fun σ H o Q k => k H o (Ex.refl _)
/-- the second where the first holds; where it does not, the lists stand as behind the first -/
theorem t_and (h1 : EvT C t M δ μ μ1 b) (h2 : b = true → EvT C u M δ μ1 μ2 c) (h3 : b = false → μ1 = μ2) : EvT C (tAnd t u) M δ μ μ2 (b && c) := fun σ H o Q k => h1 σ H o _ fun H1 o1 x1 => by
  cases b with
  | true =>
    show u σ H1 Q
    exact h2 rfl σ H1 o1 Q fun H2 o2 x2 => k H2 o2 (x1.trans x2)
  | false =>
    show Q false H1
    have := h3 rfl
    subst this
    exact k H1 o1 x1
theorem t_or (h1 : EvT C t M δ μ μ1 b) (h2 : b = false → EvT C u M δ μ1 μ2 c) (h3 : b = true → μ1 = μ2) : EvT C (tOr t u) M δ μ μ2 (b || c) := fun σ H o Q k => h1 σ H o _ fun H1 o1 x1 => by
  cases b with
  | false =>
    show u σ H1 Q
    exact h2 rfl σ H1 o1 Q fun H2 o2 x2 => k H2 o2 (x1.trans x2)
  | true =>
    show Q true H1
    have := h3 rfl
    subst this
    exact k H1 o1 x1
theorem x_if (h : EvT C t M δ μ μ1 b) (h1 : b = true → EvX C ta M δ μ1 μ2 e) (h2 : b = false → EvX C tb M δ μ1 μ2 e) : EvX C (tIf t ta tb) M δ μ μ2 e := fun σ H o Q k => h σ H o _ fun H1 o1 x1 => by
  cases b with
  | true =>
    show ta σ H1 Q
    exact h1 rfl σ H1 o1 Q fun v H2 o2 x2 r => k v H2 o2 (x1.trans x2) r
  | false =>
    show tb σ H1 Q
    exact h2 rfl σ H1 o1 Q fun v H2 o2 x2 r => k v H2 o2 (x1.trans x2) r
theorem x_if2 {d1 d2 : PyData} (h : EvT C t M δ μ μ1 b) (h1 : EvX C ta M δ μ1 μ2 (.d d1)) (h2 : EvX C tb M δ μ1 μ2 (.d d2)) : EvX C (tIf t ta tb) M δ μ μ2 (.d (if b = true then d1 else d2)) :=
  x_if h (fun q => by rw [if_pos q]; exact h1) (fun q => by rw [if_neg (by rw [q]; decide)]; exact h2)
/-- or, and as values -/
theorem x_orV (h1 : EvX C ta M δ μ μ1 (.d (.bool b))) (h2 : b = false → EvX C tb M δ μ1 μ2 (.d (.bool c))) (h3 : b = true → μ1 = μ2) : EvX C (tOrV ta tb) M δ μ μ2 (.d (.bool (b || c))) := fun σ H o Q k => h1 σ H o _ fun v H1 o1 x1 r => ⟨b, Dp.bool_of r, by
  cases b with
  | false =>
    show tb σ H1 Q
    exact h2 rfl σ H1 o1 Q fun v H2 o2 x2 r => k v H2 o2 (x1.trans x2) r
  | true =>
    show Q (.bl true) H1
    have := h3 rfl
    subst this
    exact k _ H1 o1 x1 (.bl true)⟩
theorem x_andV (h1 : EvX C ta M δ μ μ1 (.d (.bool b))) (h2 : b = true → EvX C tb M δ μ1 μ2 (.d (.bool c))) (h3 : b = false → μ1 = μ2) : EvX C (tAndV ta tb) M δ μ μ2 (.d (.bool (b && c))) := fun σ H o Q k => h1 σ H o _ fun v H1 o1 x1 r => ⟨b, Dp.bool_of r, by
  cases b with
  | true =>
    show tb σ H1 Q
    exact h2 rfl σ H1 o1 Q fun v H2 o2 x2 r => k v H2 o2 (x1.trans x2) r
  | false =>
    show Q (.bl false) H1
    have := h3 rfl
    subst this
    exact k _ H1 o1 x1 (.bl false)⟩
theorem x_notV (h1 : EvX C ta M δ μ μ1 (.d (.bool b))) : EvX C (tNotV ta) M δ μ μ1 (.d (.bool (!b))) := fun σ H o Q k => h1 σ H o _ fun v H1 o1 x1 r => ⟨b, Dp.bool_of r, k _ H1 o1 x1 (.bl _)⟩

/-! ### slices -/
def cutD (xs : List PyData) (lo hi : Option Int) : List PyData := (xs.drop (HT.sIx xs.length 0 lo)).take (HT.sIx xs.length xs.length hi - HT.sIx xs.length 0 lo)
theorem cut_dp {K : PySem.W.Frag} {Hh : Hp} {vs : List V} {ds : List PyData} (h : DpAll K Hh vs ds) (lo hi : Option Int) : DpAll K Hh (cutV vs lo hi) (cutD ds lo hi) := by
  unfold cutV cutD
  rw [h.length]
  exact (h.drop _).take _
theorem p_none : EvO C tNoPart M δ μ μ none := fun σ H o Q k => k H o (Ex.refl _)
theorem p_some {i : Int} (h : EvX C te M δ μ μ' (.d (.int i))) : EvO C (tPart te) M δ μ μ' (some i) := fun σ H o Q k => h σ H o _ fun v H1 o1 x1 r => ⟨i, Dp.int_of r, k H1 o1 x1⟩
theorem cutD_whole {ds : List PyData} {lo hi : Option Int} (h : HT.sIx ds.length 0 lo = 0 ∧ HT.sIx ds.length ds.length hi = ds.length) : cutD ds lo hi = ds := by
  unfold cutD
  rw [h.1, h.2, List.drop_zero, Nat.sub_zero, List.take_length]
theorem x_slT {tl th : TO} {ds : List PyData} {lo hi : Option Int} (h : EvX C te M δ μ μ1 (.d (.tuple ds))) (hl : EvO C tl M δ μ1 μ2 lo) (hh : EvO C th M δ μ2 μ3 hi) : EvX C (tSl (rSlA C.K) te tl th) M δ μ μ3 (.d (.tuple (cutD ds lo hi))) := fun σ H o Q k =>
  h σ H o _ fun v H1 o1 x1 r1 => hl σ H1 o1 _ fun H2 o2 x2 => hh σ H2 o2 _ fun H3 o3 x3 => by
    obtain ⟨a, vs, q1, q2, q3⟩ := Dp.tup_of (EntOk.mono (e := .d (.tuple ds)) (x2.trans x3) r1)
    refine ⟨a, vs, q1, ex_t hide_le q2, fun hw => ?_, fun _ p hp => ?_⟩
    · refine k _ H3 o3 ((x1.trans x2).trans x3) ?_
      rw [q3.length] at hw
      rw [cutD_whole hw, ← q1]
      exact EntOk.mono (e := .d (.tuple ds)) (x2.trans x3) r1
    · obtain ⟨o', x', d'⟩ := o3.tup hp (cut_dp q3 lo hi)
      exact k _ _ o' (((x1.trans x2).trans x3).trans x') d'
theorem x_slL {tl th : TO} {ds : List PyData} {lo hi : Option Int} (h : EvX C te M δ μ μ1 e) (hl : EvO C tl M δ μ1 μ2 lo) (hh : EvO C th M δ μ2 μ3 hi) (r : Rdd μ3 e (.list ds)) : EvX C (tSl (rSlL C.K) te tl th) M δ μ μ3 (.d (.list (cutD ds lo hi))) := fun σ H o Q k =>
  h σ H o _ fun v H1 o1 x1 r1 => hl σ H1 o1 _ fun H2 o2 x2 => hh σ H2 o2 _ fun H3 o3 x3 => by
    obtain ⟨a, vs, q1, q2, q3⟩ := r.lst o3 (r1.mono (x2.trans x3))
    refine ⟨a, vs, q1, q2, fun p hp => ?_⟩
    obtain ⟨o', x', d'⟩ := o3.lst hp (cut_dp q3 lo hi)
    exact k _ _ o' (((x1.trans x2).trans x3).trans x') d'

/-! ### what is walked -/
structure WalkD (K : PySem.W.Frag) (J : It) (Hh : Hp) (xs : List PyData) : Prop where
  go : ∀ (M : List Addr) i H, i < xs.length → (∀ a ∈ M, H a ≠ none) → Ex Hh (hide M H) → J.go i H
  stop : ∀ (M : List Addr) H, (∀ a ∈ M, H a ≠ none) → Ex Hh (hide M H) → J.stop xs.length H
  yld : ∀ (M : List Addr) i H x H', i < xs.length → (∀ a ∈ M, H a ≠ none) → Ex Hh (hide M H) → J.yld i H x H' → Ex H H' ∧ ∃ d, xs[i]? = some d ∧ Dp K (hide M H') x d
/-- the same where the walk leans on the heap besides -/
structure WalkN (K : PySem.W.Frag) (J : It) (Hh : Hp) (N : Hp → Prop) (xs : List PyData) : Prop where
  go : ∀ (M : List Addr) (i : Nat) (H : Hp), i < xs.length → (∀ a ∈ M, H a ≠ none) → Ex Hh (hide M H) → N H → J.go i H
  stop : ∀ (M : List Addr) (H : Hp), (∀ a ∈ M, H a ≠ none) → Ex Hh (hide M H) → N H → J.stop xs.length H
  yld : ∀ (M : List Addr) (i : Nat) (H : Hp) (x : V) (H' : Hp), i < xs.length → (∀ a ∈ M, H a ≠ none) → Ex Hh (hide M H) → N H → J.yld i H x H' → Ex H H' ∧ ∃ d, xs[i]? = some d ∧ Dp K (hide M H') x d
theorem WalkD.toN {K : PySem.W.Frag} {J : It} {Hh : Hp} {xs : List PyData} (W : WalkD K J Hh xs) : WalkN K J Hh (fun _ => True) xs := ⟨fun M i H h1 h2 h3 _ => W.go M i H h1 h2 h3, fun M H h1 h2 _ => W.stop M H h1 h2, fun M i H x H' h1 h2 h3 _ y => W.yld M i H x H' h1 h2 h3 y⟩
def EvIN (C : Cfg) (wi : TI) (M : List Addr) (δ : List Ent) (μ μ' : Mem) (N : Hp → Prop) (xs : List PyData) : Prop := ∀ σ H, Ok C M δ μ σ H → ∀ R : It → Hp → Prop, (∀ J H', Ok C M δ μ' σ H' → Ex (hide M H) (hide M H') → WalkN C.K J (hide M H') N xs → R J H') → wi σ H R
def EvI (C : Cfg) (wi : TI) (M : List Addr) (δ : List Ent) (μ μ' : Mem) (xs : List PyData) : Prop := ∀ σ H, Ok C M δ μ σ H → ∀ R : It → Hp → Prop, (∀ J H', Ok C M δ μ' σ H' → Ex (hide M H) (hide M H') → WalkD C.K J (hide M H') xs → R J H') → wi σ H R
theorem EvI.toN {wi : TI} {xs : List PyData} (h : EvI C wi M δ μ μ' xs) : EvIN C wi M δ μ μ' (fun _ => True) xs := fun σ H o R k => h σ H o R fun J H' o' x W => k J H' o' x W.toN
theorem w_list {K : PySem.W.Frag} {Hh : Hp} {a : Addr} {vs : List V} {xs : List PyData} (h : SqL K Hh a vs) (hd : DpAll K Hh vs xs) : WalkD K (Itl K a) Hh xs where
  go := fun M i H hi _ x => by
    rw [← hd.length] at hi
    exact ⟨vs, vs[i], ex_l (x.trans hide_le) h, by simp [hi]⟩
  stop := fun M H _ x => ⟨vs, ex_l (x.trans hide_le) h, by rw [hd.length]; exact Nat.le_refl _⟩
  yld := fun M i H y H' hi _ x q => by
    obtain ⟨e, q⟩ := q
    subst e
    refine ⟨Ex.refl _, xs[i], by simp [hi], ?_⟩
    obtain ⟨v, h1, h2⟩ := hd.get (i := i) (d := xs[i]) (by simp [hi])
    have := q vs (ex_l (x.trans hide_le) h)
    rw [this] at h1
    cases h1
    exact dp_mono x _ _ h2
theorem w_tup {K : PySem.W.Frag} {Hh : Hp} {a : Addr} {vs : List V} {xs : List PyData} (h : SqT K Hh a vs) (hd : DpAll K Hh vs xs) : WalkD K (Itt K a) Hh xs where
  go := fun M i H hi _ x => by
    rw [← hd.length] at hi
    exact ⟨vs, vs[i], ex_t (x.trans hide_le) h, by simp [hi]⟩
  stop := fun M H _ x => ⟨vs, ex_t (x.trans hide_le) h, by rw [hd.length]; exact Nat.le_refl _⟩
  yld := fun M i H y H' hi _ x q => by
    obtain ⟨e, q⟩ := q
    subst e
    refine ⟨Ex.refl _, xs[i], by simp [hi], ?_⟩
    obtain ⟨v, h1, h2⟩ := hd.get (i := i) (d := xs[i]) (by simp [hi])
    have := q vs (ex_t (x.trans hide_le) h)
    rw [this] at h1
    cases h1
    exact dp_mono x _ _ h2
def rngD (lo : Int) (n : Nat) : List PyData := (List.range n).map fun (i : Nat) => PyData.int (lo + (i : Int))
theorem rngD_length (lo : Int) (n : Nat) : (rngD lo n).length = n := by simp [rngD]
theorem rngD_get {lo : Int} {n i : Nat} (h : i < n) : (rngD lo n)[i]? = some (.int (lo + (i : Int))) := by simp [rngD, h]
theorem w_rng {K : PySem.W.Frag} {Hh : Hp} {lo : Int} {n : Nat} : WalkD K (Itr lo n) Hh (rngD lo n) where
  go := fun M i H hi _ x => by rw [rngD_length] at hi; exact hi
  stop := fun M H _ x => by rw [rngD_length]; exact Nat.le_refl _
  yld := fun M i H y H' hi _ x q => by
    rw [rngD_length] at hi
    obtain ⟨e, q⟩ := q
    subst e
    subst q
    exact ⟨Ex.refl _, _, rngD_get hi, .int _⟩
theorem i_list {xs : List PyData} (h : EvX C te M δ μ μ' (.d (.list xs))) : EvI C (iList C.K te) M δ μ μ' xs := fun σ H o R k => h σ H o _ fun v H1 o1 x1 r => by
  obtain ⟨a, vs, q1, q2, q3⟩ := Dp.lst_of r
  exact ⟨a, q1, ⟨vs, ex_l hide_le q2⟩, k _ H1 o1 x1 (w_list q2 q3)⟩
theorem i_tup {xs : List PyData} (h : EvX C te M δ μ μ' (.d (.tuple xs))) : EvI C (iTup C.K te) M δ μ μ' xs := fun σ H o R k => h σ H o _ fun v H1 o1 x1 r => by
  obtain ⟨a, vs, q1, q2, q3⟩ := Dp.tup_of r
  exact ⟨a, q1, ⟨vs, ex_t hide_le q2⟩, k _ H1 o1 x1 (w_tup q2 q3)⟩
theorem i_rng1 {tr : TA} {n : Int} (h : EvA C tr M δ μ μ' [.d (.int n)]) (h0 : -(2 ^ 62) ≤ n) (h1 : n < 2 ^ 62) : EvI C (iRng1 tr) M δ μ μ' (rngD 0 n.toNat) := fun σ H o R k => h σ H o _ fun vs H1 o1 x1 r => by
  obtain ⟨v, rfl, q⟩ := p1 r
  exact ⟨n, by rw [Dp.int_of q], h0, h1, k _ H1 o1 x1 w_rng⟩
theorem i_rng2 {tr : TA} {m n : Int} (h : EvA C tr M δ μ μ' [.d (.int m), .d (.int n)]) (h0 : -(2 ^ 62) ≤ m ∧ m < 2 ^ 62 ∧ -(2 ^ 62) ≤ n ∧ n < 2 ^ 62) : EvI C (iRng2 tr) M δ μ μ' (rngD m (n - m).toNat) := fun σ H o R k => h σ H o _ fun vs H1 o1 x1 r => by
  obtain ⟨v, w, rfl, q, q'⟩ := p2 r
  exact ⟨m, n, by rw [Dp.int_of q, Dp.int_of q'], h0, k _ H1 o1 x1 w_rng⟩
/-- pairs -/
def pairD (xs ys : List PyData) : List PyData := (xs.zip ys).map fun p => .tuple [p.1, p.2]
theorem pairD_get {xs ys : List PyData} {i : Nat} {x y : PyData} (h1 : xs[i]? = some x) (h2 : ys[i]? = some y) : (pairD xs ys)[i]? = some (.tuple [x, y]) := by
  unfold pairD
  rw [List.getElem?_map, List.getElem?_zip_eq_some (z := (x, y)) |>.mpr ⟨h1, h2⟩]
  rfl
theorem pairD_length (xs ys : List PyData) : (pairD xs ys).length = min xs.length ys.length := by
  unfold pairD
  rw [List.length_map, List.length_zip]
theorem new_pair {K : PySem.W.Frag} {M : List Addr} {H : Hp} {T : Addr} {v w : V} {x y : PyData} (al : ∀ a ∈ M, H a ≠ none) (hT : H T = none) (h1 : Dp K (hide M H) v x) (h2 : Dp K (hide M H) w y) :
    Ex H (upd H T (.tup [v, w])) ∧ Dp K (hide M (upd H T (.tup [v, w]))) (.ref T) (.tuple [x, y]) := by
  have e : Ex H (upd H T (.tup [v, w])) := Ex.new hT
  refine ⟨e, .tup ?_ (.cons (dp_mono (hide_ex e) _ _ h1) (.cons (dp_mono (hide_ex e) _ _ h2) .nil))⟩
  rw [hide_out (fun z => al T z hT), upd_same]
theorem w_zipT {K : PySem.W.Frag} {Hh : Hp} {a b : Addr} {vs ws : List V} {xs ys : List PyData} (h : SqT K Hh a vs) (hd : DpAll K Hh vs xs) (h' : SqT K Hh b ws) (hd' : DpAll K Hh ws ys) : WalkD K (RZ.ItzT K a b) Hh (pairD xs ys) where
  go := fun M i H hi _ x => by
    rw [pairD_length, ← hd.length, ← hd'.length] at hi
    have i1 : i < vs.length := by omega
    have i2 : i < ws.length := by omega
    exact ⟨vs, ws, vs[i], ws[i], ex_t (x.trans hide_le) h, ex_t (x.trans hide_le) h', by simp [i1], by simp [i2]⟩
  stop := fun M H _ x => ⟨vs, ws, ex_t (x.trans hide_le) h, ex_t (x.trans hide_le) h', by rw [pairD_length, hd.length, hd'.length]; omega⟩
  yld := fun M i H y H' hi al x q => by
    rw [pairD_length] at hi
    obtain ⟨T, v, w, rfl, hT, rfl, qv, qw⟩ := q
    have i1 : i < xs.length := by omega
    have i2 : i < ys.length := by omega
    obtain ⟨v', g1, g2⟩ := hd.get (i := i) (d := xs[i]) (by simp [i1])
    obtain ⟨w', g3, g4⟩ := hd'.get (i := i) (d := ys[i]) (by simp [i2])
    have e1 := qv vs (ex_t (x.trans hide_le) h)
    have e2 := qw ws (ex_t (x.trans hide_le) h')
    rw [g1] at e1; cases e1
    rw [g3] at e2; cases e2
    obtain ⟨r1, r2⟩ := new_pair al hT (dp_mono x _ _ g2) (dp_mono x _ _ g4)
    exact ⟨r1, _, pairD_get (by simp [i1]) (by simp [i2]), r2⟩
theorem w_zipL {K : PySem.W.Frag} {Hh : Hp} {a b : Addr} {vs ws : List V} {xs ys : List PyData} (h : SqL K Hh a vs) (hd : DpAll K Hh vs xs) (h' : SqL K Hh b ws) (hd' : DpAll K Hh ws ys) : WalkD K (Itz K a b) Hh (pairD xs ys) where
  go := fun M i H hi _ x => by
    rw [pairD_length, ← hd.length, ← hd'.length] at hi
    have i1 : i < vs.length := by omega
    have i2 : i < ws.length := by omega
    exact ⟨vs, ws, vs[i], ws[i], ex_l (x.trans hide_le) h, ex_l (x.trans hide_le) h', by simp [i1], by simp [i2]⟩
  stop := fun M H _ x => ⟨vs, ws, ex_l (x.trans hide_le) h, ex_l (x.trans hide_le) h', by rw [pairD_length, hd.length, hd'.length]; omega⟩
  yld := fun M i H y H' hi al x q => by
    rw [pairD_length] at hi
    obtain ⟨T, v, w, rfl, hT, rfl, qv, qw⟩ := q
    have i1 : i < xs.length := by omega
    have i2 : i < ys.length := by omega
    obtain ⟨v', g1, g2⟩ := hd.get (i := i) (d := xs[i]) (by simp [i1])
    obtain ⟨w', g3, g4⟩ := hd'.get (i := i) (d := ys[i]) (by simp [i2])
    have e1 := qv vs (ex_l (x.trans hide_le) h)
    have e2 := qw ws (ex_l (x.trans hide_le) h')
    rw [g1] at e1; cases e1
    rw [g3] at e2; cases e2
    obtain ⟨r1, r2⟩ := new_pair al hT (dp_mono x _ _ g2) (dp_mono x _ _ g4)
    exact ⟨r1, _, pairD_get (by simp [i1]) (by simp [i2]), r2⟩
theorem i_zipT {tr : TA} {xs ys : List PyData} (h : EvA C tr M δ μ μ' [.d (.tuple xs), .d (.tuple ys)]) : EvI C (RZ.iZipA C.K tr) M δ μ μ' (pairD xs ys) := fun σ H o R k => h σ H o _ fun vs H1 o1 x1 r => by
  obtain ⟨v, w, rfl, q, q'⟩ := p2 r
  obtain ⟨a, vs, g1, g2, g3⟩ := Dp.tup_of q
  obtain ⟨b, ws, g4, g5, g6⟩ := Dp.tup_of q'
  exact ⟨a, b, vs, ws, by rw [g1, g4], .inr ⟨ex_t hide_le g2, ex_t hide_le g5, k _ H1 o1 x1 (w_zipT g2 g3 g5 g6)⟩⟩
theorem i_zipL {tr : TA} {xs ys : List PyData} (h : EvA C tr M δ μ μ' [.d (.list xs), .d (.list ys)]) : EvI C (RZ.iZipA C.K tr) M δ μ μ' (pairD xs ys) := fun σ H o R k => h σ H o _ fun vs H1 o1 x1 r => by
  obtain ⟨v, w, rfl, q, q'⟩ := p2 r
  obtain ⟨a, vs, g1, g2, g3⟩ := Dp.lst_of q
  obtain ⟨b, ws, g4, g5, g6⟩ := Dp.lst_of q'
  exact ⟨a, b, vs, ws, by rw [g1, g4], .inl ⟨ex_l hide_le g2, ex_l hide_le g5, k _ H1 o1 x1 (w_zipL g2 g3 g5 g6)⟩⟩
/-- enumerated -/
def enumD (xs : List PyData) : List PyData := xs.zipIdx.map fun p => .tuple [.int (p.2 : Int), p.1]
theorem enumD_length (xs : List PyData) : (enumD xs).length = xs.length := by simp [enumD]
theorem enumD_get {xs : List PyData} {i : Nat} {x : PyData} (h : xs[i]? = some x) : (enumD xs)[i]? = some (.tuple [.int (i : Int), x]) := by
  unfold enumD
  rw [List.getElem?_map, List.getElem?_zipIdx, h]
  simp
theorem w_enumL {K : PySem.W.Frag} {Hh : Hp} {a : Addr} {vs : List V} {xs : List PyData} (h : SqL K Hh a vs) (hd : DpAll K Hh vs xs) : WalkD K (Ite K a) Hh (enumD xs) where
  go := fun M i H hi _ x => by
    rw [enumD_length, ← hd.length] at hi
    exact ⟨vs, vs[i], ex_l (x.trans hide_le) h, by simp [hi]⟩
  stop := fun M H _ x => ⟨vs, ex_l (x.trans hide_le) h, by rw [enumD_length, hd.length]; exact Nat.le_refl _⟩
  yld := fun M i H y H' hi al x q => by
    rw [enumD_length] at hi
    obtain ⟨T, v, rfl, hT, rfl, qv⟩ := q
    obtain ⟨v', g1, g2⟩ := hd.get (i := i) (d := xs[i]) (by simp [hi])
    have e1 := qv vs (ex_l (x.trans hide_le) h)
    rw [g1] at e1; cases e1
    obtain ⟨r1, r2⟩ := new_pair al hT (Dp.int (i : Nat)) (dp_mono x _ _ g2)
    exact ⟨r1, _, enumD_get (by simp [hi]), r2⟩
theorem i_enumL {tr : TA} {xs : List PyData} (h : EvA C tr M δ μ μ' [.d (.list xs)]) : EvI C (iEnum C.K tr) M δ μ μ' (enumD xs) := fun σ H o R k => h σ H o _ fun vs H1 o1 x1 r => by
  obtain ⟨v, rfl, q⟩ := p1 r
  obtain ⟨a, vs, g1, g2, g3⟩ := Dp.lst_of q
  exact ⟨a, vs, by rw [g1], ex_l hide_le g2, k _ H1 o1 x1 (w_enumL g2 g3)⟩
end
end FD
namespace FD
open PySem L2 Evl
section
variable {C : Cfg} {M M' : List Addr} {δ δ' δ1 δ2 : List Ent} {μ μ' μ1 μ2 μ3 : Mem} {σ σ' σ1 σ2 : L2.St} {H H' : Hp} {e e1 e2 e3 : Ent} {ta tb te tc : TE} {t u : TT} {b c : Bool}
/-! ### what else is kept: all hidden lists that are not spoken of -/
theorem Ok.toG (o : Ok C M δ μ σ H) : Ok { C with G := hide (μ.map (·.1)) H } M δ μ σ H where
  len := o.len
  slot := o.slot
  mem := fun p hp => let ⟨a, _, c⟩ := o.mem p hp; ⟨a, hide_in (List.mem_map.mpr ⟨p, hp, rfl⟩) c.nt, c⟩
  nd := o.nd
  alloc := o.alloc
  sub := o.sub
  gr := hide_le
  base := o.base
theorem Ok.ofG (o : Ok C M δ μ σ H) (p : Ok { C with G := hide (μ.map (·.1)) H } M δ' μ' σ' H') : Ok C M δ' μ' σ' H' where
  len := p.len
  slot := p.slot
  mem := fun q hq => by
    obtain ⟨a, b, c⟩ := p.mem q hq
    refine ⟨a, ?_, c⟩
    cases z : C.G q.1 with
    | none => rfl
    | some u =>
      have hH := o.gr _ _ z
      have b' : hide (μ.map (·.1)) H q.1 = none := b
      by_cases hm : q.1 ∈ μ.map (·.1)
      · obtain ⟨r, hr, er⟩ := List.mem_map.mp hm
        have := (o.mem r hr).2.1
        rw [show r.1 = q.1 from er, z] at this; cases this
      · rw [hide_out hm, hH] at b'; cases b'
  nd := p.nd
  alloc := p.alloc
  sub := p.sub
  gr := fun a u z => by
    have hH := o.gr _ _ z
    refine p.gr a u ?_
    show hide (μ.map (·.1)) H a = some u
    rw [hide_out]
    · exact hH
    · intro hm
      obtain ⟨r, hr, er⟩ := List.mem_map.mp hm
      have := (o.mem r hr).2.1
      rw [show r.1 = a from er, z] at this; cases this
  base := p.base
theorem Ok.writeH (o : Ok C M δ μ σ H) {a : Addr} {ho : HO} (ha : a ∈ M) (hn : ∀ p ∈ μ, p.1 ≠ a) (hg : C.G a = none) (ht : isTo (H a) = false) (ht' : isT ho = false := by rfl) : Ok C M δ μ σ (upd H a ho) where
  len := o.len
  slot := fun i x h1 h2 => by rw [hide_upd ha ht ht']; exact o.slot i x h1 h2
  mem := fun p hp => by
    obtain ⟨b1, b2, b3⟩ := o.mem p hp
    rw [hide_upd ha ht ht']
    refine ⟨b1, b2, b3.mono (Ex.refl _) fun u e => ?_⟩
    rw [upd_ne (hn p hp)]; exact e
  nd := o.nd
  alloc := fun b hb => by
    by_cases q : b = a
    · subst q; rw [upd_same]; exact fun z => nomatch z
    · rw [upd_ne q]; exact o.alloc b hb
  sub := o.sub
  gr := Ex.mut o.gr hg
  base := by rw [hide_upd ha ht ht']; exact o.base

/-! ### targets -/
def TgX (K : PySem.W.Frag) (g : TG) (ts : List Nat) (d : PyData) (δ δ' : List Ent) : Prop := ∀ (C : Cfg) (M : List Addr) (μ : Mem) (σ : L2.St) (H : Hp) (v : V), C.K = K → Ok C M δ μ σ H → Dp K (hide M H) v d → ∀ Q : L2.St → Hp → Prop,
  (∀ σ', Ok C M δ' μ σ' H → σ'.length = σ.length → (∀ k, k ∉ ts → σ'[k]? = σ[k]?) → Q σ' H) → g v σ H Q
theorem tg_name {K : PySem.W.Frag} {i : Nat} {d : PyData} : TgX K (gName i) [i] d δ (δ.set i (.d d)) := fun C M μ σ H v hK o h Q k => by
  subst hK
  refine k _ (o.set i (e := .d d) h) (List.length_set ..) fun j hj => ?_
  rw [List.getElem?_set_ne (fun z => hj (by simp [z]))]
theorem tg_tup2 {K : PySem.W.Frag} {i j : Nat} {d1 d2 : PyData} : TgX K (gTup K 2 (gCons (gName i) (gCons (gName j) gNil))) [i, j] (.tuple [d1, d2]) δ ((δ.set i (.d d1)).set j (.d d2)) := fun C M μ σ H v hK o h Q k => by
  subst hK
  obtain ⟨a, vs, q1, q2, q3⟩ := Dp.tup_of h
  cases q3 with
  | cons h1 q3 =>
    cases q3 with
    | cons h2 q3 =>
      cases q3
      refine ⟨a, _, q1, ex_t hide_le q2, rfl, _, _, rfl, _, _, rfl, rfl, ?_⟩
      refine k _ ((o.set i (e := .d d1) h1).set j (e := .d d2) h2) (by rw [List.length_set, List.length_set]) fun m hm => ?_
      rw [List.getElem?_set_ne (fun z => hm (by simp [z])), List.getElem?_set_ne (fun z => hm (by simp [z]))]

/-! ### a comprehension -/
def wipeE (δ : List Ent) : List Nat → List Ent
  | [] => δ
  | v :: vs => (wipeE δ vs).set v .u
theorem wipeE_length (δ : List Ent) : ∀ vs, (wipeE δ vs).length = δ.length
  | [] => rfl
  | v :: vs => by unfold wipeE; rw [List.length_set, wipeE_length δ vs]
theorem wipe_get {σ : L2.St} {i : Nat} : ∀ {vs : List Nat}, i ∉ vs → (wipe σ vs)[i]? = σ[i]?
  | [], _ => rfl
  | v :: vs, h => by
    unfold wipe
    rw [List.getElem?_set_ne (fun z => h (by simp [z])), wipe_get (fun z => h (List.mem_cons_of_mem _ z))]
theorem wipe_at {σ : L2.St} {i : Nat} : ∀ {vs : List Nat}, i ∈ vs → i < σ.length → (wipe σ vs)[i]? = some none
  | v :: vs, h, hl => by
    unfold wipe
    by_cases q : v = i
    · subst q; rw [List.getElem?_set_self (by rw [wipe_length]; exact hl)]
    · rw [List.getElem?_set_ne q]
      exact wipe_at ((List.mem_cons.mp h).elim (fun z => absurd z.symm q) id) hl
theorem wipeE_get {i : Nat} {e : Ent} : ∀ {vs : List Nat}, (wipeE δ vs)[i]? = some e → e ≠ .u → δ[i]? = some e ∧ i ∉ vs
  | [], h, _ => ⟨h, by simp⟩
  | v :: vs, h, hu => by
    unfold wipeE at h
    by_cases q : v = i
    · subst q
      have hl := (List.getElem?_eq_some_iff.mp h).1
      rw [List.length_set] at hl
      rw [List.getElem?_set_self hl] at h
      cases h
      exact absurd rfl hu
    · rw [List.getElem?_set_ne q] at h
      obtain ⟨h1, h2⟩ := wipeE_get (vs := vs) h hu
      exact ⟨h1, fun z => (List.mem_cons.mp z).elim (fun z => q z.symm) h2⟩
theorem Ok.wiped (o : Ok C M δ μ σ H) (vs : List Nat) : Ok C M (wipeE δ vs) μ (wipe σ vs) H :=
  o.weak (by rw [wipe_length, wipeE_length]; exact o.len) fun i e h1 h2 => by
    obtain ⟨a, b⟩ := wipeE_get h1 h2
    exact ⟨a, wipe_get b⟩
theorem wipe_eq {vs ts : List Nat} (hl : σ'.length = σ.length) (h : ∀ k, k ∉ ts → σ'[k]? = (wipe σ vs)[k]?) (s : ∀ k ∈ ts, k ∈ vs) : wipe σ' vs = wipe σ vs := by
  refine List.ext_getElem? fun k => ?_
  by_cases q : k ∈ vs
  · by_cases z : k < σ.length
    · rw [wipe_at q z, wipe_at q (by rw [hl]; exact z)]
    · rw [List.getElem?_eq_none (by rw [wipe_length, hl]; omega), List.getElem?_eq_none (by rw [wipe_length]; omega)]
  · rw [wipe_get q, wipe_get q, h k (fun z => q (s k z)), wipe_get q]
def lcD (b : Nat → Bool) (f : Nat → PyData) (i : Nat) : List PyData := ((List.range i).filter b).map f
theorem lcD_yes {b : Nat → Bool} {f : Nat → PyData} {i : Nat} (h : b i = true) : lcD b f (i + 1) = lcD b f i ++ [f i] := by
  unfold lcD
  rw [List.range_succ, List.filter_append, List.map_append, List.filter_cons, if_pos h]
  rfl
theorem lcD_no {b : Nat → Bool} {f : Nat → PyData} {i : Nat} (h : b i = false) : lcD b f (i + 1) = lcD b f i := by
  unfold lcD
  rw [List.range_succ, List.filter_append, List.map_append]
  rw [List.filter_cons, if_neg (by rw [h]; decide)]
  show _ ++ [] = _
  rw [List.append_nil]
theorem lcD_len (b : Nat → Bool) (f : Nat → PyData) (i : Nat) : (lcD b f i).length ≤ i := by
  unfold lcD
  rw [List.length_map]
  have h := List.length_filter_le b (List.range i)
  rw [List.length_range] at h
  exact h
/-- what one turn asks -/
structure LcTurn (C : Cfg) (g : TG) (tt : TT) (te : TE) (vs : List Nat) (M : List Addr) (δ : List Ent) (μ μ' : Mem) (d : PyData) (b : Bool) (f : PyData) : Prop where
  go : ∃ ts δ' μ1, TgX C.K g ts d (wipeE δ vs) δ' ∧ (∀ k ∈ ts, k ∈ vs) ∧ EvT C tt M δ' μ μ1 b ∧ (b = true → EvX C te M δ' μ1 μ' (.d f)) ∧ (b = false → μ1 = μ')
theorem x_wl {ds : List PyData} (h : EvX C te M δ μ μ' (.l ds)) : EvX C te M δ μ μ' (.d (.list ds)) := fun σ H o Q k => h σ H o Q fun v H' o' x r => by
  obtain ⟨a, vs, e1, e2, e3⟩ := r
  rw [e1]
  refine k _ H' o' x (.lst (sq_of e2) e3)
theorem x_lcNl {N : Hp → Prop} {wi : TI} {g : TG} {vs : List Nat} {xs : List PyData} (S : Nat → Mem) (b : Nat → Bool) (f : Nat → PyData) (hi : EvIN C wi M δ μ (S 0) N xs) (hN : ∀ (i : Nat) (B : Hp) (D : Addr) (σ : L2.St) (H : Hp), i ≤ xs.length → Ok { C with B := B } (D :: M) δ (S i) σ H → N H) (hz : xs.length ≤ 100000)
    (hs : ∀ (i : Nat) (d : PyData), xs[i]? = some d → ∀ (G B : Hp) (D : Addr), LcTurn { C with G := G, B := B } g t te vs (D :: M) δ (S i) (S (i + 1)) d (b i) (f i)) :
    EvX C (tLc wi g t te vs) M δ μ (S xs.length) (.l (lcD b f xs.length)) := fun σ H o Q k => by
  refine hi σ H o _ fun J H1 o1 x1 W D hD => ?_
  have oB := o1.toB
  have hDM : D ∉ M := o1.fresh hD
  have o2 : Ok { C with B := hide M H1 } (D :: M) δ (S 0) σ (upd H1 D (.lst [])) :=
    (oB.new hD (mo := .lst []) ⟨[], upd_same, .nil⟩).mems (fun p hp => List.mem_cons_of_mem _ hp) o1.nd
  have hS : ∀ {i : Nat} {H'}, Ok { C with B := hide M H1 } (D :: M) δ (S i) σ H' → (∀ p ∈ S i, p.1 ∈ M) → ∀ p ∈ S i, p.1 ≠ D := fun o' h p hp z => hDM (z ▸ h p hp)
  have gD : C.G D = none := by
    cases z : C.G D with
    | none => rfl
    | some u => have := o1.gr D u z; rw [hD] at this; cases this
  refine ⟨fun i m H' => m = xs.length - i ∧ i ≤ xs.length ∧ (∀ p ∈ S i, p.1 ∈ M) ∧ Ok { C with B := hide M H1 } (D :: M) δ (S i) σ H' ∧ ∃ acc, H' D = some (.lst acc) ∧ DpAll C.K (hide (D :: M) H') acc (lcD b f i),
    ⟨xs.length, by simp, Nat.zero_le _, fun p hp => (o1.mem p hp).1, o2, [], upd_same, .nil⟩, ?_⟩
  rintro i m H' ⟨rfl, hi', hSM, oi, acc, hacc, dacc⟩
  by_cases hlt : i < xs.length
  · refine .inr ⟨W.go (D :: M) i H' hlt oi.alloc oi.base (hN i _ _ _ _ hi' oi), fun H'' => (∀ p ∈ S (i + 1), p.1 ∈ M) ∧ Ok { C with B := hide M H1 } (D :: M) δ (S (i + 1)) σ H'' ∧ ∃ acc, H'' D = some (.lst acc) ∧ DpAll C.K (hide (D :: M) H'') acc (lcD b f (i + 1)),
      fun H'' q => ⟨xs.length - (i + 1), by omega, rfl, hlt, q⟩, fun x H2 y => ?_⟩
    obtain ⟨e2, d, hd, dx⟩ := W.yld (D :: M) i H' x H2 hlt oi.alloc oi.base (hN i _ _ _ _ hi' oi) y
    have o3 := oi.grow e2
    have nD : ∀ p ∈ S i, p.1 ≠ D := hS oi hSM
    -- all that is hidden and not spoken of stays: the list at D
    have o4 := o3.toG
    obtain ⟨ts, δ', μ1, tg, hts, ht, he, hno⟩ := (hs i d hd (hide ((S i).map (·.1)) H2) (hide M H1) D).go
    have hD2 : H2 D = some (.lst acc) := e2 D _ hacc
    have gD2 : hide ((S i).map (·.1)) H2 D = some (.lst acc) := by
      rw [hide_out (fun z => ?_)]
      · exact hD2
      · obtain ⟨r, hr, er⟩ := List.mem_map.mp z
        exact nD r hr er
    refine tg _ _ _ _ _ _ rfl (o4.wiped vs) dx _ fun σ2 o5 hl2 hσ2 => ⟨wipe_eq (by rw [hl2, wipe_length]) hσ2 hts, ?_⟩
    refine ht σ2 H2 o5 _ fun H3 o6 x6 => ?_
    have memM : ∀ {μ9 : Mem} {δ9 : List Ent} {σ9 : L2.St} {H9 : Hp}, Ok { C with G := hide ((S i).map (·.1)) H2, B := hide M H1 } (D :: M) δ9 μ9 σ9 H9 → ∀ p ∈ μ9, p.1 ∈ M := fun o9 p hp => by
      have a := (o9.mem p hp).1
      have g9 : hide ((S i).map (·.1)) H2 p.1 = none := (o9.mem p hp).2.1
      rcases List.mem_cons.mp a with z | z
      · rw [z, gD2] at g9; cases g9
      · exact z
    cases hb : b i with
    | true =>
      rw [if_pos rfl]
      refine he hb σ2 H3 o6 _ fun v H4 o7 x7 r7 => ?_
      have hD4 : H4 D = some (.lst acc) := o7.gr D _ gD2
      have o8 : Ok { C with B := hide M H1 } (D :: M) δ (S (i + 1)) σ H4 := o3.swap (o3.ofG o7) (x6.trans x7)
      have hSM' : ∀ p ∈ S (i + 1), p.1 ∈ M := memM o7
      have hlen : acc.length ≤ i := by rw [dacc.length]; exact lcD_len b f i
      refine ⟨acc, hD4, sz_lt (by omega), hSM', o8.writeH List.mem_cons_self (fun p hp z => hDM (z ▸ hSM' p hp)) gD (by rw [hD4]; rfl), _, upd_same, ?_⟩
      rw [hide_upd List.mem_cons_self (by rw [hD4]; rfl) rfl, lcD_yes hb]
      exact (dpAll_mono ((hide_ex e2).trans (x6.trans x7)) _ _ dacc).append (.cons r7 .nil)
    | false =>
      rw [if_neg Bool.false_ne_true]
      have hm := hno hb
      subst hm
      refine ⟨memM o6, o3.swap (o3.ofG o6) x6, acc, o6.gr D _ gD2, ?_⟩
      rw [lcD_no hb]
      exact dpAll_mono ((hide_ex e2).trans x6) _ _ dacc
  · have ei : i = xs.length := by omega
    subst ei
    refine .inl ⟨W.stop (D :: M) H' oi.alloc oi.base (hN _ _ _ _ _ hi' oi), ?_⟩
    have s1 : ∀ a ∈ M, a ∈ D :: M := fun a ha => List.mem_cons_of_mem _ ha
    have oE : Ok C M δ (S xs.length) σ H' := (oi.drop (M := M) s1 hSM o1.sub).reB o1.base
    have xE : Ex (hide M H) (hide M H') := x1.trans (oi.base.trans (hide_sub s1))
    refine k _ H' oE xE ⟨D, acc, rfl, ?_, dpAll_mono (hide_sub s1) _ _ dacc⟩
    rw [hide_out hDM]; exact hacc
theorem x_lcN {N : Hp → Prop} {wi : TI} {g : TG} {vs : List Nat} {xs : List PyData} (S : Nat → Mem) (b : Nat → Bool) (f : Nat → PyData) (hi : EvIN C wi M δ μ (S 0) N xs) (hN : ∀ (i : Nat) (B : Hp) (D : Addr) (σ : L2.St) (H : Hp), i ≤ xs.length → Ok { C with B := B } (D :: M) δ (S i) σ H → N H) (hz : xs.length ≤ 100000)
    (hs : ∀ (i : Nat) (d : PyData), xs[i]? = some d → ∀ (G B : Hp) (D : Addr), LcTurn { C with G := G, B := B } g t te vs (D :: M) δ (S i) (S (i + 1)) d (b i) (f i)) :
    EvX C (tLc wi g t te vs) M δ μ (S xs.length) (.d (.list (lcD b f xs.length))) := x_wl (x_lcNl S b f hi hN hz hs)
theorem x_lc {wi : TI} {g : TG} {vs : List Nat} {xs : List PyData} (S : Nat → Mem) (b : Nat → Bool) (f : Nat → PyData) (hi : EvI C wi M δ μ (S 0) xs) (hz : xs.length ≤ 100000)
    (hs : ∀ (i : Nat) (d : PyData), xs[i]? = some d → ∀ (G B : Hp) (D : Addr), LcTurn { C with G := G, B := B } g t te vs (D :: M) δ (S i) (S (i + 1)) d (b i) (f i)) :
    EvX C (tLc wi g t te vs) M δ μ (S xs.length) (.d (.list (lcD b f xs.length))) := x_lcN S b f hi.toN (fun _ _ _ _ _ _ _ => trivial) hz hs
theorem lcD_all (f : Nat → PyData) (i : Nat) : lcD (fun _ => true) f i = (List.range i).map f := by
  unfold lcD
  rw [List.filter_eq_self.mpr (fun _ _ => rfl)]
/-- no test; every turn leaves the lists as they are -/
theorem x_lcP {wi : TI} {g : TG} {vs : List Nat} {xs : List PyData} (f : Nat → PyData) (hi : EvI C wi M δ μ μ' xs) (hz : xs.length ≤ 100000) {ts : List Nat} (dl : Nat → List Ent)
    (htg : ∀ (i : Nat) (d : PyData), xs[i]? = some d → TgX C.K g ts d (wipeE δ vs) (dl i)) (hts : ∀ k ∈ ts, k ∈ vs)
    (he : ∀ (i : Nat) (d : PyData), xs[i]? = some d → ∀ (G B : Hp) (D : Addr), EvX { C with G := G, B := B } te (D :: M) (dl i) μ' μ' (.d (f i))) :
    EvX C (tLc wi g tYes te vs) M δ μ μ' (.d (.list ((List.range xs.length).map f))) := by
  rw [← lcD_all]
  exact x_lc (fun _ => μ') (fun _ => true) f hi hz fun i d hd G B D => ⟨ts, dl i, μ', htg i d hd, hts, t_yes, fun _ => he i d hd G B D, fun z => nomatch z⟩
end
end FD
namespace FD
open PySem L2 Evl
/-! ### statements -/
def Run (C : Cfg) (ts : TS) (D : Ends) (M : List Addr) (δ : List Ent) (μ : Mem) : Prop := ∀ σ H, Ok C M δ μ σ H → ts D σ H
def Nx (C : Cfg) (D : Ends) (M : List Addr) (δ : List Ent) (μ : Mem) : Prop := ∀ σ H, Ok C M δ μ σ H → D.nx σ H
/-- a word about the state, held -/
def NX (C : Cfg) (M : List Addr) (P : List Ent → Mem → Prop) : L2.St → Hp → Prop := fun σ H => ∃ δ μ, P δ μ ∧ Ok C M δ μ σ H
section
variable {C : Cfg} {M M' : List Addr} {δ δ' δ1 δ2 : List Ent} {μ μ' μ1 μ2 μ3 : Mem} {σ σ' σ1 σ2 : L2.St} {H H' : Hp} {e e1 e2 e3 : Ent} {ta tb te tc : TE} {t u : TT} {b c : Bool} {D : Ends} {t1 t2 ts : TS}
theorem r_seq (h : Run C t1 { D with nx := t2 D } M δ μ) : Run C (tSeq t1 t2) D M δ μ := h
theorem r_next (h : Nx C D M δ μ) : Run C tNext D M δ μ := h
theorem r_brk (h : ∀ σ H, Ok C M δ μ σ H → D.bk σ H) : Run C tBreak D M δ μ := h
theorem r_cont (h : ∀ σ H, Ok C M δ μ σ H → D.ct σ H) : Run C tCont D M δ μ := h
theorem r_asg {i : Nat} (h : EvX C te M δ μ μ' e) (k : Nx C D M (δ.set i e) μ') : Run C (tAsg te (gName i)) D M δ μ := fun σ H o =>
  h σ H o _ fun v H' o' x r => k _ H' (o'.set i r)
theorem q_asg {i : Nat} (h : EvX C te M δ μ μ' e) (k : Run C t2 D M (δ.set i e) μ') : Run C (tSeq (tAsg te (gName i)) t2) D M δ μ := r_asg (D := { D with nx := t2 D }) h k
theorem r_drop (h : EvX C te M δ μ μ' e) (k : Nx C D M δ μ') : Run C (tDrop te) D M δ μ := fun σ H o => h σ H o _ fun v H' o' x r => k _ H' o'
theorem q_drop (h : EvX C te M δ μ μ' e) (k : Run C t2 D M δ μ') : Run C (tSeq (tDrop te) t2) D M δ μ := r_drop (D := { D with nx := t2 D }) h k
theorem r_par {i j : Nat} {tr : TA} (h : EvA C tr M δ μ μ' [e1, e2]) (k : Nx C D M ((δ.set i e1).set j e2) μ') : Run C (tPar i j tr) D M δ μ := fun σ H o =>
  h σ H o _ fun vs H' o' x r => by
    obtain ⟨v, w, rfl, q, q'⟩ := p2 r
    exact ⟨v, w, rfl, k _ H' ((o'.set i q).set j q')⟩
theorem q_par {i j : Nat} {tr : TA} (h : EvA C tr M δ μ μ' [e1, e2]) (k : Run C t2 D M ((δ.set i e1).set j e2) μ') : Run C (tSeq (tPar i j tr) t2) D M δ μ := r_par (D := { D with nx := t2 D }) h k
theorem r_if (h : EvT C t M δ μ μ' b) (h1 : b = true → Run C t1 D M δ μ') (h2 : b = false → Run C t2 D M δ μ') : Run C (tIfS t t1 t2) D M δ μ := fun σ H o => h σ H o _ fun H1 o1 x1 => by
  cases b with
  | true => exact h1 rfl σ H1 o1
  | false => exact h2 rfl σ H1 o1
theorem q_if {t3 : TS} (h : EvT C t M δ μ μ' b) (h1 : b = true → Run C t1 { D with nx := t3 D } M δ μ') (h2 : b = false → Run C t2 { D with nx := t3 D } M δ μ') : Run C (tSeq (tIfS t t1 t2) t3) D M δ μ := r_if (D := { D with nx := t3 D }) h h1 h2
/-- an if without an else -/
theorem q_when {t3 : TS} (h : EvT C t M δ μ μ' b) (h1 : b = true → Run C t1 { D with nx := t3 D } M δ μ') (h2 : b = false → Run C t3 D M δ μ') : Run C (tSeq (tIfS t t1 tNext) t3) D M δ μ := r_if (D := { D with nx := t3 D }) h h1 h2
/-- what the caller wants of an end with data -/
def Fin (C : Cfg) (D : Ends) (d : PyData) : Prop := ∀ v H, Ex C.G H → Dp C.K (hide C.M0 H) v d → D.rt v H
theorem r_retD {d : PyData} (h : EvX C te M δ μ μ' (.d d)) (k : Fin C D d) : Run C (tRet te) D M δ μ := fun σ H o => h σ H o _ fun v H1 o1 x1 r =>
  k v H1 o1.gr (dp_mono (hide_sub o1.sub) _ _ r)
theorem r_ret (h : EvX C te M δ μ μ' e) (k : ∀ σ v H, Ok C M δ μ' σ H → EntOk C.K (hide M H) e v → D.rt v H) : Run C (tRet te) D M δ μ := fun σ H o => h σ H o _ fun v H1 o1 x1 r => k σ v H1 o1 r
/-- one's own list handed back -/
theorem r_retM {a : Addr} {ds : List PyData} {j : Nat} (h : EvX C te M δ μ μ' (.m a)) (hj : μ'[j]? = some (a, .lst ds)) (ha : a ∉ C.M0) (k : Fin C D (.list ds)) : Run C (tRet te) D M δ μ := fun σ H o => h σ H o _ fun v H1 o1 x1 r => by
  have r' : v = .ref a := r
  obtain ⟨_, _, vs, q1, q2⟩ := o1.mem _ (List.mem_of_getElem? hj)
  refine k v H1 o1.gr ?_
  rw [r']
  refine .lst (sq_of ?_) (dpAll_mono (hide_sub o1.sub) _ _ q2)
  rw [hide_out ha]; exact q1
/-- x = [..]: a list of one's own -/
theorem r_new {i : Nat} {tr : TA} {ds : List PyData} (h : EvA C tr M δ μ μ' (ds.map Ent.d)) (hl : ds.length ≤ 100000) (k : ∀ p, p ∉ M → Nx C D (p :: M) (δ.set i (.m p)) ((p, .lst ds) :: μ')) : Run C (tAsg (tLst tr) (gName i)) D M δ μ := fun σ H o =>
  h σ H o _ fun vs H1 o1 x1 r => ⟨by have := (dpAll_of r).length; rw [this]; exact sz_of hl, fun p hp => by
    have o2 := o1.new hp (mo := .lst ds) (ho := .lst vs) ⟨vs, upd_same, dpAll_mono (hide_new hp) _ _ (dpAll_of r)⟩
    exact k p (o1.fresh hp) _ _ (o2.set i (e := .m p) rfl)⟩
theorem q_new {i : Nat} {tr : TA} {ds : List PyData} (h : EvA C tr M δ μ μ' (ds.map Ent.d)) (hl : ds.length ≤ 100000) (k : ∀ p, p ∉ M → Run C t2 D (p :: M) (δ.set i (.m p)) ((p, .lst ds) :: μ')) : Run C (tSeq (tAsg (tLst tr) (gName i)) t2) D M δ μ := r_new (D := { D with nx := t2 D }) h hl k
/-- x.append(e) -/
theorem r_app {j : Nat} {a : Addr} {ds : List PyData} {d : PyData} (hx : EvX C ta M δ μ μ1 (.m a)) (h : EvX C te M δ μ1 μ2 (.d d)) (h1 : μ1[j]? = some (a, .lst ds)) (hj : μ2[j]? = some (a, .lst ds)) (hz : ds.length < 100000) (k : Nx C D M δ (μ2.set j (a, .lst (ds ++ [d])))) :
    Run C (tDrop (tBM C.K "list" rAppend ta (tCons te tNil))) D M δ μ := fun σ H o => hx σ H o _ fun v H1 o1 x1 r1 => by
  have e1 : v = .ref a := r1
  subst e1
  obtain ⟨_, _, vs1, q1, q2⟩ := o1.mem _ (List.mem_of_getElem? h1)
  refine ⟨.inl ⟨rfl, _, SqL.of q1⟩, ?_⟩
  refine h σ H1 o1 _ fun w H2 o2 x2 r2 => ?_
  obtain ⟨_, _, vs, q3, q4⟩ := o2.mem _ (List.mem_of_getElem? hj)
  refine ⟨a, vs, w, rfl, rfl, q3, sz_lt (by rw [q4.length]; exact hz), ?_⟩
  refine k _ _ (o2.write hj ⟨_, upd_same, q4.append (.cons r2 .nil)⟩)
theorem q_app {j : Nat} {a : Addr} {ds : List PyData} {d : PyData} (hx : EvX C ta M δ μ μ1 (.m a)) (h : EvX C te M δ μ1 μ2 (.d d)) (h1 : μ1[j]? = some (a, .lst ds)) (hj : μ2[j]? = some (a, .lst ds)) (hz : ds.length < 100000) (k : Run C t2 D M δ (μ2.set j (a, .lst (ds ++ [d])))) :
    Run C (tSeq (tDrop (tBM C.K "list" rAppend ta (tCons te tNil))) t2) D M δ μ := r_app (D := { D with nx := t2 D }) hx h h1 hj hz k
/-- x[k] = e -/
theorem r_setL {j n : Nat} {a : Addr} {ds : List PyData} {d : PyData} {i : Int} (h : EvX C te M δ μ μ1 (.d d)) (hx : EvX C ta M δ μ1 μ2 (.m a)) (hi : EvX C tb M δ μ2 μ3 (.d (.int i))) (hj : μ3[j]? = some (a, .lst ds)) (hn : ixN ds.length i = some n) (k : Nx C D M δ (μ3.set j (a, .lst (ds.set n d)))) :
    Run C (tAsg te (gSub ta tb rSetL)) D M δ μ := fun σ H o => h σ H o _ fun v H1 o1 x1 r1 => hx σ H1 o1 _ fun w H2 o2 x2 r2 => hi σ H2 o2 _ fun z H3 o3 x3 r3 => by
  have e1 : w = .ref a := r2
  subst e1
  obtain ⟨_, _, vs, q3, q4⟩ := o3.mem _ (List.mem_of_getElem? hj)
  refine ⟨a, vs, i, n, rfl, Dp.int_of r3, q3, by rw [q4.length]; exact hn, ?_⟩
  exact k _ _ (o3.write hj ⟨_, upd_same, q4.set n (EntOk.mono (e := .d d) (x2.trans x3) r1)⟩)
theorem q_setL {j n : Nat} {a : Addr} {ds : List PyData} {d : PyData} {i : Int} (h : EvX C te M δ μ μ1 (.d d)) (hx : EvX C ta M δ μ1 μ2 (.m a)) (hi : EvX C tb M δ μ2 μ3 (.d (.int i))) (hj : μ3[j]? = some (a, .lst ds)) (hn : ixN ds.length i = some n) (k : Run C t2 D M δ (μ3.set j (a, .lst (ds.set n d)))) :
    Run C (tSeq (tAsg te (gSub ta tb rSetL)) t2) D M δ μ := r_setL (D := { D with nx := t2 D }) h hx hi hj hn k
/-- a for; B: what stood at its start -/
theorem r_forN {N : Hp → Prop} {wi : TI} {g : TG} {xs : List PyData} (hi : EvIN C wi M δ μ μ1 N xs) (P : Nat → List Ent → Mem → Prop) (hN : ∀ (i : Nat) (B : Hp) (δ1 : List Ent) (μ1 : Mem) (σ : L2.St) (H : Hp), i ≤ xs.length → P i δ1 μ1 → Ok { C with B := B } M δ1 μ1 σ H → N H) (h0 : P 0 δ μ1)
    (hs : ∀ B, Ex C.B B → ∀ (i : Nat) (d : PyData) (δ1 : List Ent) (μ1 : Mem), xs[i]? = some d → P i δ1 μ1 → ∃ tl δ2, TgX C.K g tl d δ1 δ2 ∧
      Run { C with B := B } ts { D with nx := NX { C with B := B } M (P (i + 1)), ct := NX { C with B := B } M (P (i + 1)), bk := D.nx } M δ2 μ1)
    (hd : ∀ δ1 μ1, P xs.length δ1 μ1 → Nx C D M δ1 μ1) : Run C (tFor wi g ts) D M δ μ := fun σ H o => by
  refine hi σ H o _ fun J H1 o1 x1 W => ?_
  refine ⟨fun i m σ' H' => m = xs.length - i ∧ i ≤ xs.length ∧ NX { C with B := hide M H1 } M (P i) σ' H', ⟨xs.length, by simp, Nat.zero_le _, δ, μ1, h0, o1.toB⟩, ?_⟩
  rintro i m σ' H' ⟨rfl, hi', δ1, μ1, hP, oi⟩
  by_cases hlt : i < xs.length
  · refine .inr ⟨W.go M i H' hlt oi.alloc oi.base (hN i _ _ _ _ _ hi' hP oi), NX { C with B := hide M H1 } M (P (i + 1)), fun σ2 H2 q => ⟨xs.length - (i + 1), by omega, rfl, hlt, q⟩, fun x H2 y => ?_⟩
    obtain ⟨e2, d, hd, dx⟩ := W.yld M i H' x H2 hlt oi.alloc oi.base (hN i _ _ _ _ _ hi' hP oi) y
    obtain ⟨tl, δ2, tg, run⟩ := hs (hide M H1) o1.base i d δ1 μ1 hd hP
    exact tg { C with B := hide M H1 } _ _ _ _ _ rfl (oi.grow e2) dx _ fun σ3 o3 _ _ => run σ3 H2 o3
  · have ei : i = xs.length := by omega
    subst ei
    exact .inl ⟨W.stop M H' oi.alloc oi.base (hN _ _ _ _ _ _ hi' hP oi), hd δ1 μ1 hP σ' H' (oi.reB o1.base)⟩
theorem r_for {wi : TI} {g : TG} {xs : List PyData} (hi : EvI C wi M δ μ μ1 xs) (P : Nat → List Ent → Mem → Prop) (h0 : P 0 δ μ1)
    (hs : ∀ B, Ex C.B B → ∀ (i : Nat) (d : PyData) (δ1 : List Ent) (μ1 : Mem), xs[i]? = some d → P i δ1 μ1 → ∃ tl δ2, TgX C.K g tl d δ1 δ2 ∧
      Run { C with B := B } ts { D with nx := NX { C with B := B } M (P (i + 1)), ct := NX { C with B := B } M (P (i + 1)), bk := D.nx } M δ2 μ1)
    (hd : ∀ δ1 μ1, P xs.length δ1 μ1 → Nx C D M δ1 μ1) : Run C (tFor wi g ts) D M δ μ := r_forN hi.toN P (fun _ _ _ _ _ _ _ _ _ => trivial) h0 hs hd
theorem q_for {wi : TI} {g : TG} {xs : List PyData} (hi : EvI C wi M δ μ μ1 xs) (P : Nat → List Ent → Mem → Prop) (h0 : P 0 δ μ1)
    (hs : ∀ B, Ex C.B B → ∀ (i : Nat) (d : PyData) (δ1 : List Ent) (μ1 : Mem), xs[i]? = some d → P i δ1 μ1 → ∃ tl δ2, TgX C.K g tl d δ1 δ2 ∧
      Run { C with B := B } ts { D with nx := NX { C with B := B } M (P (i + 1)), ct := NX { C with B := B } M (P (i + 1)), bk := t2 D } M δ2 μ1)
    (hd : ∀ δ1 μ1, P xs.length δ1 μ1 → Run C t2 D M δ1 μ1) : Run C (tSeq (tFor wi g ts) t2) D M δ μ := r_for (D := { D with nx := t2 D }) hi P h0 hs hd
theorem nx_of {P : List Ent → Mem → Prop} (h : P δ μ) : Nx C { D with nx := NX C M P } M δ μ := fun σ H o => ⟨δ, μ, h, o⟩
/-- a while; m falls -/
theorem r_while (P : Nat → List Ent → Mem → Prop) (m0 : Nat) (h0 : P m0 δ μ)
    (hs : ∀ (m : Nat) (δ1 : List Ent) (μ1 : Mem), P m δ1 μ1 → ∃ b μ2, EvT C t M δ1 μ1 μ2 b ∧
      (b = true → Run C ts { D with nx := NX C M (fun δ μ => ∃ m', m' < m ∧ P m' δ μ), ct := NX C M (fun δ μ => ∃ m', m' < m ∧ P m' δ μ), bk := D.nx } M δ1 μ2) ∧ (b = false → Nx C D M δ1 μ2)) : Run C (tWhile t ts) D M δ μ := fun σ H o => by
  refine ⟨fun m σ' H' => NX C M (P m) σ' H', ⟨m0, δ, μ, h0, o⟩, ?_⟩
  rintro m σ' H' ⟨δ1, μ1, hP, o1⟩
  obtain ⟨b, μ2, ht, h1, h2⟩ := hs m δ1 μ1 hP
  refine ht σ' H' o1 _ fun H2 o2 x2 => ?_
  cases b with
  | true =>
    rw [if_pos rfl]
    exact ⟨_, fun σ3 H3 ⟨δ3, μ3, ⟨m', hm, q⟩, o3⟩ => ⟨m', hm, δ3, μ3, q, o3⟩, h1 rfl σ' H2 o2⟩
  | false =>
    rw [if_neg Bool.false_ne_true]
    exact h2 rfl σ' H2 o2
theorem q_while (P : Nat → List Ent → Mem → Prop) (m0 : Nat) (h0 : P m0 δ μ)
    (hs : ∀ (m : Nat) (δ1 : List Ent) (μ1 : Mem), P m δ1 μ1 → ∃ b μ2, EvT C t M δ1 μ1 μ2 b ∧
      (b = true → Run C ts { D with nx := NX C M (fun δ μ => ∃ m', m' < m ∧ P m' δ μ), ct := NX C M (fun δ μ => ∃ m', m' < m ∧ P m' δ μ), bk := t2 D } M δ1 μ2) ∧ (b = false → Run C t2 D M δ1 μ2)) : Run C (tSeq (tWhile t ts) t2) D M δ μ := r_while (D := { D with nx := t2 D }) P m0 h0 hs
end

/-! ### promises -/
/-- data in, data out -/
def spD (K : PySem.W.Frag) (n : Nat) (Pre : List PyData → Prop) (F : List PyData → PyData) : Sp := fun vs H Q _ => vs.length = n ∧ ∃ M ds, (∀ a ∈ M, H a ≠ none) ∧ DpAll K (hide M H) vs ds ∧ Pre ds ∧ ∀ v H', Ex H H' → Dp K (hide M H') v (F ds) → Q v H'
/-- a list in the first place, changed -/
def spM (K : PySem.W.Frag) (n : Nat) (Pre : List PyData → List PyData → Prop) (F : List PyData → List PyData → PyData) (F2 : List PyData → List PyData → List PyData) : Sp := fun vs H Q _ =>
  vs.length = n ∧ ∃ M b bs ws ds, vs = .ref b :: ws ∧ b ∈ M ∧ (∀ a ∈ M, H a ≠ none) ∧ MOok K (hide M H) H b (.lst bs) ∧ DpAll K (hide M H) ws ds ∧ Pre bs ds ∧
    ∀ v H', Ex (hide [b] H) H' → MOok K (hide M H') H' b (.lst (F2 bs ds)) → Dp K (hide M H') v (F bs ds) → Q v H'
section
variable {C : Cfg} {M : List Addr} {δ : List Ent} {μ μ' μ1 μ2 : Mem} {tr : TA}
theorem x_call {n : Nat} {Pre : List PyData → Prop} {F : List PyData → PyData} {ds : List PyData} {E : XK} (h : EvA C tr M δ μ μ' (ds.map Ent.d)) (hn : ds.length = n) (hp : Pre ds) : EvX C (tCall (spD C.K n Pre F) [] E tr) M δ μ μ' (.d (F ds)) := fun σ H o Q k =>
  h σ H o _ fun vs H1 o1 x1 r1 => by
    rw [List.append_nil]
    refine ⟨by rw [(dpAll_of r1).length]; exact hn, M, ds, o1.alloc, dpAll_of r1, hp, fun v H2 e2 d2 => ?_⟩
    exact k v H2 (o1.grow e2) (x1.trans (hide_ex e2)) d2
theorem after_mut {σ : L2.St} {H1 H2 : Hp} {j : Nat} {b : Addr} {mo mo' : MO} (o1 : Ok C M δ μ σ H1) (hj : μ[j]? = some (b, mo)) (hex : Ex (hide [b] H1) H2) (hm : MOok C.K (hide M H2) H2 b mo') : Ok C M δ (μ.set j (b, mo')) σ H2 ∧ Ex (hide M H1) (hide M H2) := by
  have hb := o1.mem _ (List.mem_of_getElem? hj)
  have kp : ∀ a u, a ≠ b → H1 a = some u → H2 a = some u := fun a u ne e => hex a u (by rw [hide_out (by simp [ne])]; exact e)
  have x : Ex (hide M H1) (hide M H2) := fun a u e => by
    obtain ⟨q, e⟩ := hide_some e
    exact hide_mk (hex a u (hide_mk e fun z => q (by rw [List.mem_singleton.mp z]; exact hb.1))) q
  refine ⟨⟨o1.len, fun i y h1 h2 => let ⟨v, a, c⟩ := o1.slot i y h1 h2; ⟨v, a, c.mono x⟩, fun p hp => ?_, by rw [map_set_fst hj]; exact o1.nd, fun a ha => ?_, o1.sub, fun a u z => ?_, o1.base.trans x⟩, x⟩
  · obtain ⟨k, hk⟩ := List.getElem?_of_mem hp
    by_cases q : j = k
    · subst q
      rw [List.getElem?_set_self (List.getElem?_eq_some_iff.mp hj).1] at hk
      cases hk
      exact ⟨hb.1, hb.2.1, hm⟩
    · rw [List.getElem?_set_ne q] at hk
      obtain ⟨b1, b2, b3⟩ := o1.mem p (List.mem_of_getElem? hk)
      refine ⟨b1, b2, b3.mono x fun u e => kp _ u (fun z => ?_) e⟩
      have : (p.1, p.2) = p := rfl
      rw [← this, z] at hk
      exact q (nodup_fst o1.nd hj hk)
  · by_cases q : a = b
    · subst q; exact hm.there
    · cases z : H1 a with
      | none => exact absurd z (o1.alloc a ha)
      | some u => rw [kp a u q z]; exact fun z => nomatch z
  · refine kp a u (fun q => ?_) (o1.gr a u z)
    subst q
    have := hb.2.1
    rw [z] at this; cases this
theorem x_callM {n : Nat} {Pre : List PyData → List PyData → Prop} {F : List PyData → List PyData → PyData} {F2 : List PyData → List PyData → List PyData} {ds bs : List PyData} {E : XK} {b : Addr} {j : Nat}
    (h : EvA C tr M δ μ μ' (.m b :: ds.map Ent.d)) (hn : ds.length + 1 = n) (hj : μ'[j]? = some (b, .lst bs)) (hp : Pre bs ds) : EvX C (tCall (spM C.K n Pre F F2) [] E tr) M δ μ (μ'.set j (b, .lst (F2 bs ds))) (.d (F bs ds)) := fun σ H o Q k =>
  h σ H o _ fun vs H1 o1 x1 r1 => by
    rw [List.append_nil]
    cases r1 with
    | cons r0 rr =>
      have e0 : _ = V.ref b := r0
      subst e0
      have hb := o1.mem _ (List.mem_of_getElem? hj)
      refine ⟨by rw [List.length_cons, (dpAll_of rr).length]; exact hn, M, b, bs, _, ds, rfl, hb.1, o1.alloc, hb.2.2, dpAll_of rr, hp, fun v H2 e2 m2 d2 => ?_⟩
      obtain ⟨o2, x2⟩ := after_mut o1 hj e2 m2
      exact k v H2 o2 (x1.trans x2) d2
end

/-! ### a def's entry -/
def startE (n m : Nat) (es : List Ent) : List Ent := es ++ List.replicate (n - m) .u
theorem start_slot {K : PySem.W.Frag} {Hh : Hp} {N : List Str} {vs : List V} {es : List Ent} (h : Paired (EntOk K Hh) es vs) (i : Nat) (e : Ent) (h1 : (startE N.length es.length es)[i]? = some e) (h2 : e ≠ .u) : ∃ v, (L2.start N vs)[i]? = some (some v) ∧ EntOk K Hh e v := by
  unfold startE at h1
  unfold L2.start
  by_cases hi : i < es.length
  · rw [List.getElem?_append_left hi] at h1
    have hl : es.length = vs.length := by
      clear h1 hi
      induction h with
      | nil => rfl
      | cons _ _ ih => rw [List.length_cons, List.length_cons, ih]
    rw [List.getElem?_append_left (by rw [List.length_map, ← hl]; exact hi), List.getElem?_map]
    clear hi hl
    induction h generalizing i with
    | nil => simp at h1
    | cons r _ ih =>
      cases i with
      | zero => simp at h1; subst h1; exact ⟨_, rfl, r⟩
      | succ i => simpa using ih i (by simpa using h1)
  · rw [List.getElem?_append_right (Nat.le_of_not_lt hi)] at h1
    have := List.mem_replicate.mp (List.mem_of_getElem? h1)
    exact absurd this.2 h2
theorem pairedD {K : PySem.W.Frag} {H : Hp} : ∀ {ds : List PyData} {vs : List V}, DpAll K H vs ds → Paired (EntOk K H) (ds.map Ent.d) vs
  | _, _, .nil => .nil
  | _, _, .cons r t => .cons r (pairedD t)
theorem start_len {N : List Str} {vs : List V} {es : List Ent} (h : es.length = vs.length) (hN : vs.length ≤ N.length) : (L2.start N vs).length = (startE N.length es.length es).length := by
  unfold L2.start startE
  rw [List.length_append, List.length_append, List.length_map, List.length_replicate, List.length_replicate, h]
theorem paired_len {α β : Type} {F : α → β → Prop} {as : List α} {bs : List β} (h : Paired F as bs) : as.length = bs.length := by
  induction h with
  | nil => rfl
  | cons _ _ ih => rw [List.length_cons, List.length_cons, ih]
/-- the entry of a def that is handed data -/
theorem ok_startD {K : PySem.W.Frag} {H : Hp} {N : List Str} {M : List Addr} {vs : List V} {ds : List PyData} (al : ∀ a ∈ M, H a ≠ none) (h : DpAll K (hide M H) vs ds) (hN : vs.length ≤ N.length) :
    Ok ⟨K, M, H, hide M H⟩ M (startE N.length ds.length (ds.map Ent.d)) [] (L2.start N vs) H where
  len := by
    have := start_len (es := ds.map Ent.d) (vs := vs) (N := N) (by rw [List.length_map, h.length]) hN
    rw [List.length_map] at this; exact this
  slot := fun i e h1 h2 => start_slot (es := ds.map Ent.d) (pairedD h) i e (by rw [List.length_map]; exact h1) h2
  mem := fun p hp => absurd hp (by simp)
  nd := .nil
  alloc := al
  sub := fun _ ha => ha
  gr := Ex.refl _
  base := Ex.refl _
/-- the entry of a def whose first argument is a list that it changes -/
theorem ok_startM {K : PySem.W.Frag} {H : Hp} {N : List Str} {M : List Addr} {b : Addr} {bs : List PyData} {ws : List V} {ds : List PyData} (hb : b ∈ M) (al : ∀ a ∈ M, H a ≠ none) (hm : MOok K (hide M H) H b (.lst bs)) (h : DpAll K (hide M H) ws ds) (hN : ws.length + 1 ≤ N.length) :
    Ok ⟨K, M, hide [b] H, hide M H⟩ M (startE N.length (ds.length + 1) (.m b :: ds.map Ent.d)) [(b, .lst bs)] (L2.start N (.ref b :: ws)) H where
  len := by
    have := start_len (es := Ent.m b :: ds.map Ent.d) (vs := V.ref b :: ws) (N := N) (by rw [List.length_cons, List.length_cons, List.length_map, h.length]) (by rw [List.length_cons]; exact hN)
    rw [List.length_cons, List.length_map] at this; exact this
  slot := fun i e h1 h2 => start_slot (K := K) (Hh := hide M H) (es := Ent.m b :: ds.map Ent.d) (.cons rfl (pairedD h)) i e (by rw [List.length_cons, List.length_map]; exact h1) h2
  mem := fun p hp => by
    have : p = (b, .lst bs) := by simpa using hp
    subst this
    exact ⟨hb, hide_in (by simp) hm.nt, hm⟩
  nd := by simp
  alloc := al
  sub := fun _ ha => ha
  gr := hide_le
  base := Ex.refl _
end FD
/-! further rules: min of data, enumerate of a tuple, a call by keywords alone -/
namespace FD
open PySem PySem.Spec L2 PyProof.Rows PySem.W
section
variable {X : Cx}
def rMinD (K : PySem.W.Frag) : List V → Hp → VK → Prop := fun xs1 H Z => ∃ (a : Addr) (ws : List V) (x : PyData) (xs : List PyData), xs1 = [.ref a] ∧ SqL K H a ws ∧ L2.DpAll K H ws (x :: xs) ∧ AlikeAll (x :: xs) ∧ PyData.depthAll (x :: xs) ≤ 32 ∧
  ∀ (j : Nat) (w : V), ws[j]? = some w → (x :: xs)[j]? = some (minD x xs) → Z w H
theorem vals_back {xs : List V} {us : List Value} (r : Vals xs us) : ∀ {i : Nat} {u : Value}, us[i]? = some u → ∃ x, xs[i]? = some x ∧ RelV x u := by
  induction r with
  | nil => intro i u e; simp at e
  | cons r _ ih =>
    intro i u e
    cases i with
    | zero => exact ⟨_, rfl, by have z := e; simp at z; rw [← z]; exact r⟩
    | succ i =>
      obtain ⟨x, h1, h2⟩ := ih (i := i) (u := u) (by simpa using e)
      exact ⟨x, h1, h2⟩
theorem cr_minD (cm : X.calm = true) (gu : X.A.units + 64 < cLine) : CallR X (.builtin "min") (rMinD X.K) := by
  intro pn sh τ H xs1 us1 Z V0 r h
  obtain ⟨a, ws, x, xs, rfl, hsq, dd, al, dp, w9⟩ := h
  obtain ⟨zs, rZ, gl, _⟩ := V0.list hsq
  rw [Vals.ref1 r]
  obtain ⟨as, rm⟩ := Dp.readsAll V0 _ _ zs dd rZ
  have hn : zs.toArray.size = xs.length + 1 := by
    rw [List.size_toArray, ← rZ.length, dd.length, List.length_cons]
  refine call_min_walkH (iter_listW (A := X.A.in1) (V0.ok.hd cm) gl.isList fun s₂ e W sw hfp hw kp => ?_)
  refine ⟨_, _, _, _, _, _, _, sh.heap, _, rfl, W, sw, hfp, by omega, hw, kp, cmpIn_lt (A := X.A.in1) (vs := zs.toArray) (by simpa using rm) al (by show X.A.units + 1 + _ < _; omega), fun v s' hP m => ?_⟩
  obtain ⟨g1, k1, rfl, hk'⟩ := moved_old e rfl m
  have e1 : zs.toArray.size - 1 = xs.length := by omega
  rw [e1] at hP
  obtain ⟨a1, a2⟩ := argBest_fold dataLt PyData.none x xs xs.length (Nat.le_refl _)
  rw [List.take_length] at a2
  have hP' : zs[argBest (fun i j => dataLt ((x :: xs).getD i PyData.none) ((x :: xs).getD j PyData.none)) xs.length]? = some v := by simpa using hP
  obtain ⟨w, h1, h2⟩ := vals_back rZ hP'
  refine ⟨w, H, V0.kept hk', h2, w9 _ w h1 ?_⟩
  have hlt : argBest (fun i j => dataLt ((x :: xs).getD i PyData.none) ((x :: xs).getD j PyData.none)) xs.length < (x :: xs).length := by rw [List.length_cons]; omega
  rw [List.getD_eq_getElem?_getD] at a2
  rw [List.getElem?_eq_getElem hlt] at a2 ⊢
  rw [Option.getD_some] at a2
  rw [a2]
  rfl

/-! ### enumerate of a tuple -/
theorem meets_enum_newT (l : Addr) (ys : Array Value) (n : Nat) (d0 : Option Addr) (sv : Array (Option Value)) :
    Meets (Builtin.«enumerate.__new__» ⟨[.type "enumerate", .ref l], []⟩) (fun _ R sh => sh.heap.get? l = some { cls := .type "tuple", dict := d0, data := .seq ys n, slots := sv } ∧
      R (.ok (.ret (.ref (sh.heap.push { cls := .type "tuple_iterator", data := .fields #[.ref l, .int 0 0] }).objs.size)))
        { sh with heap := (sh.heap.push { cls := .type "tuple_iterator", data := .fields #[.ref l, .int 0 0] }).push { cls := .type "enumerate", data := .fields #[.none, .bool false, .ref sh.heap.objs.size, rawInt 0, .none, .none] } }) :=
  .of_wp fun prog w A R sh h => by
    obtain ⟨hp, g, d, k1, o9⟩ := sh; obtain ⟨gl, h⟩ := h
    have hsub := sub_enumerate
    have gL : Heap.IsTuple (Shared.heap ⟨hp, g, d, k1, o9⟩) l ys := ⟨_, gl, rfl, n, rfl⟩
    wp_walk using AutoSeq1.wpAny_loadPart' gl
    refine wpAny_stack_any fun sw => wpAny_pure ?_
    split
    · rename_i c _ _ _ _ _
      cases (c == Value.type ("enumerate" : String))
      · wp_walk using AutoSeq1.wpAny_loadPart' gl, wpAny_pyIter_tuple gL
        exact ⟨_, rfl, h⟩
      · wp_walk using AutoSeq1.wpAny_loadPart' gl, wpAny_pyIter_tuple gL
        exact ⟨_, rfl, h⟩
    · wp_walk using AutoSeq1.wpAny_loadPart' gl, wpAny_pyIter_tuple gL
      exact ⟨_, rfl, h⟩
theorem call_enumT {prog : Program} {w : World} {A : Around} {E : Value → Shared → Prop} {sh : Shared} {l : Addr} {ys : Array Value} {Z : Value → Shared → Prop} (gL : sh.heap.IsTuple l ys)
    (h : ∀ g1, IsEnum g1 (sh.heap.objs.size + 1) sh.heap.objs.size 0 .none → g1.IsTupleIter sh.heap.objs.size l 0 → g1.objs.size = sh.heap.objs.size + 2 →
      (∀ b o, sh.heap.get? b = some o → g1.get? b = some o) → Z (.ref (sh.heap.objs.size + 1)) { sh with heap := g1 }) :
    wpAny (model prog w) A (call (.type "enumerate") [.ref l]) Z E sh := by
  obtain ⟨⟨c, d0, dt, sv⟩, gl, cm, n, dd⟩ := gL
  replace cm : c = .type "tuple" := cm
  replace dd : dt = .seq ys n := dd
  subst cm dd
  refine callType_new PySem.F.called_enumerate (by decide) (PySem.F.typeCall_enumerate_1 _) (PySem.F.newCall_enumerate_1 _) (fun obj => PySem.F.args_object_init_2 obj _) PySem.F.entry_enumerate_new
    (meets_enum_newT l ys n d0 sv) ⟨gl, ?_⟩
  have gz : (sh.heap.push { cls := .type "tuple_iterator", data := .fields #[.ref l, .int 0 0] }).objs.size = sh.heap.objs.size + 1 := Heap.size_push ..
  show _ ∧ _
  rw [gz]
  have hE : IsEnum ((sh.heap.push { cls := .type "tuple_iterator", data := .fields #[.ref l, .int 0 0] }).push
      { cls := .type "enumerate", data := .fields #[.none, .bool false, .ref sh.heap.objs.size, rawInt 0, .none, .none] }) (sh.heap.objs.size + 1) sh.heap.objs.size 0 .none := by
    have := Heap.get?_push_size (sh.heap.push { cls := .type "tuple_iterator", data := .fields #[.ref l, .int 0 0] })
      (o := { cls := .type "enumerate", data := .fields #[.none, .bool false, .ref sh.heap.objs.size, rawInt 0, .none, .none] }) rfl
    rw [gz] at this; exact this
  refine ⟨⟨_, hE, rfl⟩, h _ hE ⟨_, Heap.get?_push_of_some _ (Heap.get?_push_size _ rfl), rfl, rfl⟩ (by rw [Heap.size_push, gz]) fun b o x => Heap.get?_push_of_some _ (Heap.get?_push_of_some _ x)⟩
/-- a tuple enumerated: each item in a nw pair -/
def IteT (K : PySem.W.Frag) (a : Addr) : It :=
  ⟨fun i H => ∃ (xs : List V) (x : V), SqT K H a xs ∧ xs[i]? = some x, fun i H v H' => ∃ T x, v = .ref T ∧ H T = none ∧ H' = upd H T (.tup [.int (i : Nat), x]) ∧ ∀ xs, SqT K H a xs → xs[i]? = some x, fun i H => ∃ xs : List V, SqT K H a xs ∧ xs.length = i⟩
theorem turn_enumT {P : Program} {w : World} {K : PySem.W.Frag} {elts : List Expr} {kk : Nat} {tpos : Pos} (a e it : Addr) (hai : a ≠ it) (hae : a ≠ e) :
    Turn P w K (.Tuple elts kk tpos) (IteT K a) [e, it] e (fun i h => (∃ w0, IsEnum h e it ((i : Nat) : Int) w0) ∧ h.IsTupleIter it a i ∧ e ≠ it) where
  mem := by simp
  obj := fun i h sw b hb => by
    obtain ⟨⟨w0, hE⟩, ⟨o, ho, cm, dd⟩, _⟩ := sw
    have eb : b = e ∨ b = it := by simpa using hb
    rcases eb with z | z
    · rw [z]; exact ⟨_, hE, fun v w9 => nomatch w9⟩
    · rw [z]; exact ⟨o, ho, fun v w9 => by rw [dd] at w9; cases w9⟩
  keep := fun i h g1 sw k => let ⟨⟨w0, hE⟩, hi, nE⟩ := sw; ⟨⟨w0, k e (by simp) _ hE⟩, hi.at fun o w9 => k it (by simp) o w9, nE⟩
  item := by
    intro X hP hw hK cm i pn sh τ H E V0 ff sw gg
    subst hP hw hK
    obtain ⟨⟨w0, hE⟩, hT, nE⟩ := sw
    obtain ⟨xs, x, sq, gx⟩ := gg
    obtain ⟨zs, rZ, p, gz⟩ := V0.tuple sq
    obtain ⟨y0, gu, rU⟩ := rZ.get gx
    have hel : e < sh.heap.objs.size := Heap.lt_size hE
    have hil : it < sh.heap.objs.size := by obtain ⟨_, w9, _⟩ := hT; exact Heap.lt_size w9
    have hlt : i < zs.toArray.size := by
      rw [List.size_toArray]; exact (List.getElem?_eq_some_iff.mp gu).1
    refine wpAny_pyNext_enum_itemD (Draws.tuple (A := X.A.in1) (V0.ok.hd cm) it a hai zs.toArray) hE ⟨hT, p⟩ hlt nE (by simp [nE, Ne.symm hae]) fun y1 g1 k1 hu' ho hst' hT gz kp => ?_
    obtain ⟨hit', _⟩ := hst'
    have eu : y1 = y0 := by
      have : zs[i]? = some y1 := by simpa using hu'
      rw [gu] at this; exact (Option.some.inj this).symm
    subst eu
    refine ⟨_, rfl, wpAny_letOwnedTupleGo_enum (s := { sh with heap := g1, toks := k1 + 1 }) ho fun g2 he' sb => ?_⟩
    have hT2 : g2.get? sh.heap.objs.size = some { cls := .type "tuple", data := .seq #[.int i k1, y1] } := (sb.2 _ (Nat.ne_of_gt hel)).trans hT
    have nw : ObjOk X.prog X.w (upd H sh.heap.objs.size (.tup [.int (i : Nat), x])) g2 sh.heap.objs.size (.tup [.int (i : Nat), x]) :=
      ⟨by show 2 ≤ sizeLine; decide, [.int i k1, y1], .cons ⟨_, rfl⟩ (.cons rU .nil), ⟨_, hT2, rfl, _, rfl⟩⟩
    have V1 : Inv X pn τ (upd H sh.heap.objs.size (.tup [.int (i : Nat), x])) { sh with heap := g2, toks := k1 + 1 } :=
      V0.turnedNew (ch := [e, it]) (fun b o8 hb w9 => (sb.2 b (fun z => hb (by simp [z]))).trans (kp b o8 (fun z => hb (by simp [z])) (fun z => hb (by simp [z])) w9)) ff (Nat.le_refl _) nw
    refine ⟨.ref sh.heap.objs.size, _, V1, rfl, ⟨_, x, rfl, V0.hok.fresh (Nat.le_refl _), rfl, fun ys hy => by rw [V0.tuple_inj hy sq]; exact gx⟩, ⟨⟨y1, ?_⟩, hit'.at fun o w9 => (sb.2 it (Ne.symm nE)).trans w9, nE⟩, fun b hb => ?_⟩
    · have up1 : ((i + 1 : Nat) : Int) = (i : Int) + 1 := by omega
      rw [up1]; exact he'
    · have lb : b < sh.heap.objs.size := by
        have eb : b = e ∨ b = it := by simpa using hb
        rcases eb with z | z
        · rw [z]; exact hel
        · rw [z]; exact hil
      rw [upd_ne (Nat.ne_of_lt lb)]
      exact (ff b hb).1
  done := by
    intro X hP hw hK cm i pn sh τ H E V0 ff sw gg
    subst hP hw hK
    obtain ⟨⟨w0, hE⟩, hT, nE⟩ := sw
    obtain ⟨xs, sq, gx⟩ := gg
    obtain ⟨zs, rZ, p, gz⟩ := V0.tuple sq
    obtain ⟨f0, f1, f2, f3, f4, f5⟩ := ff it (by simp)
    have gl : i = zs.toArray.size := by rw [List.size_toArray, ← rZ.length, gx]
    subst gl
    refine wpAny_pyNext_enum_endD (Draws.tuple (A := X.A.in1) (V0.ok.hd cm) it a hai zs.toArray) hE ⟨hT, p⟩ fun g1 eb => ⟨rfl, V0.turned (t' := sh.toks) (fun b o hb w9 => eb b o hb w9) f0 f1 f3 f4 f5⟩
  self := fun A i sh Z E sw h => let ⟨⟨_, hE⟩, _⟩ := sw; wpAny_pyIter_enum hE h
def iEnumT (K : PySem.W.Frag) (ta : TA) : TI := fun τ H R => ta τ H fun xs1 H1 => ∃ a xs, xs1 = [.ref a] ∧ SqT K H1 a xs ∧ R (IteT K a) H1
theorem pi_enumT {e : Expr} {ta : TA} {p pos tpos : Pos} {elts : List Expr} {kk : Nat} (gg : Gl X "enumerate") (mm : X.mg "enumerate" = none) (pa0 : PA X [e] ta) (hsq : starEach [e] X.env = [(false, eval e X.env)] := by rfl) :
    PI X (.Tuple elts kk tpos) (.Call (.Name "enumerate" p) [e] [] pos) (iEnumT X.K ta) := by
  refine ⟨fun pn sh τ H R V0 h => ?_⟩
  refine Call_ (ld_blt V0 gg mm boot_enumerate (PyProof.Rows.callWith_type1 (thn (pa0.run pos pn sh τ H _ V0 h) fun us1 s1 ⟨xs1, H1, V1, r1, q1⟩ => ?_) hsq rfl))
  obtain ⟨a, xs, ex, sq, w9⟩ := q1
  subst ex
  cases r1 with
  | cons r rr =>
    cases rr
    cases r
    obtain ⟨zs, rZ, p', gz⟩ := V1.tuple sq
    obtain ⟨oa, hoa, _⟩ := id p'
    have la : a < s1.heap.objs.size := Heap.lt_size hoa
    refine call_enumT p' fun g1 hE hT gz kp => wpAny_pyIter_enum hE ?_
    have V2 : Inv X pn τ H1 { s1 with heap := g1 } := V1.kept (t' := s1.toks) kp
    refine ⟨s1.heap.objs.size + 1, [s1.heap.objs.size + 1, s1.heap.objs.size], _, _, H1, rfl, V2, turn_enumT a (s1.heap.objs.size + 1) s1.heap.objs.size (Nat.ne_of_lt la) (Nat.ne_of_lt (Nat.lt_succ_of_lt la)), ⟨⟨.none, hE⟩, hT, Nat.succ_ne_self _⟩, fun b hb => ?_, w9⟩
    have eb : b = s1.heap.objs.size + 1 ∨ b = s1.heap.objs.size := by simpa using hb
    have ge0 : s1.heap.objs.size ≤ b := by
      rcases eb with z | z
      · rw [z]; exact Nat.le_succ _
      · rw [z]; exact Nat.le_refl _
    exact V1.fpOk ge0 (V1.hok.fresh ge0)
end
/-! ### f(k = v, ..) -/
section
variable {X : Cx} {CX : CXT} {k n : Nat} {f : Addr} {fd : FuncData} {ps ks : List Str} {sp : Sp} {E : XK} {x : Str} {p pos : Pos} {kws : List Keyword} {k1 : TA} {g : List Value → List Value → List Value} {gV : List V → List V → List V}
theorem pe_callN0 (F : FnOk X.prog X.w X.K X.mg X.base CX k f fd ps sp) (rm : Room k X.A) (gg : Gl X x) (mm : X.mg x = some (.ref f)) (kp : PySem.W.keepIn X.K (.ref f) = true) (hb : KBn X.K fd ps 0 ks g gV) (gx : Passes CX X E) (kW : PK X kws k1)
    (hAl : (backToKw pos (keywordEach kws X.env)).all (·.1.isSome) = true := by rfl) (hKs : (backToKw pos (keywordEach kws X.env)).filterMap (·.1) = ks := by rfl) (hDb : (x == ("__debug__" : Str)) = false := by decide)
    (hPl : ((backTo pos (starEach [] X.env)).any (·.1) || (backToKw pos (keywordEach kws X.env)).any (·.1.isNone)) = false := by rfl) :
    PE X (.Call (.Name x p) [] kws pos) (tCallN 0 ks.length sp gV E tNil k1) := by
  refine ⟨fun pn sh τ H Z V0 h => ?_⟩
  refine wpAny_Call_Name_kw (ld_glob V0 gg mm ?_ hDb)
  refine PySem.W.callWith_KW0 (h₀ := X.base) V0.ok.mod.kin kp hAl ?_ hPl
  refine thn (kW.run pos pn sh τ H _ V0 h) fun ws s2 ⟨zs, H2, V2, rz0, l1, l2, q2⟩ => ⟨V2.kIn, ?_⟩
  rw [hKs]
  exact run_fnN (us := []) (vs := []) F rm hb gx V2 .nil rz0 rfl l2 q2
end
end FD
namespace FD
open PySem L2 Evl
section
variable {C : Cfg} {M M' : List Addr} {δ δ' : List Ent} {μ μ' μ1 μ2 : Mem} {e : Ent} {ta tb te : TE} {tr tr' : TA}
theorem c_minD {x : PyData} {xs : List PyData} (r : Rdd μ e (.list (x :: xs))) (ha : PySem.W.AlikeAll (x :: xs)) (hd : PyData.depthAll (x :: xs) ≤ 32) : CallX C (rMinD C.K) M δ μ μ [e] (.d (PySem.W.minD x xs)) := fun σ H vs o h Q k => by
  obtain ⟨v, rfl, q⟩ := p1 h
  obtain ⟨a, ws, q1, q2, q3⟩ := r.lst o q
  refine ⟨a, ws, x, xs, by rw [q1], q2, (dpAll_mono hide_le _ _ q3).w, ha, hd, fun j w h1 h2 => ?_⟩
  obtain ⟨w', g1, g2⟩ := q3.get h2
  rw [h1] at g1
  cases g1
  exact k w H o (Ex.refl _) g2
theorem w_enumT {K : PySem.W.Frag} {Hh : Hp} {a : Addr} {vs : List V} {xs : List PyData} (h : SqT K Hh a vs) (hd : DpAll K Hh vs xs) : WalkD K (IteT K a) Hh (enumD xs) where
  go := fun M i H hi _ x => by
    rw [enumD_length, ← hd.length] at hi
    exact ⟨vs, vs[i], ex_t (x.trans hide_le) h, by simp [hi]⟩
  stop := fun M H _ x => ⟨vs, ex_t (x.trans hide_le) h, by rw [enumD_length, hd.length]⟩
  yld := fun M i H y H' hi al x q => by
    rw [enumD_length] at hi
    obtain ⟨T, v, rfl, hT, rfl, qv⟩ := q
    obtain ⟨v', g1, g2⟩ := hd.get (i := i) (d := xs[i]) (by simp [hi])
    have e1 := qv vs (ex_t (x.trans hide_le) h)
    rw [g1] at e1; cases e1
    obtain ⟨r1, r2⟩ := new_pair al hT (Dp.int (i : Nat)) (dp_mono x _ _ g2)
    exact ⟨r1, _, enumD_get (by simp [hi]), r2⟩
theorem i_enumT {xs : List PyData} (h : EvA C tr M δ μ μ' [.d (.tuple xs)]) : EvI C (iEnumT C.K tr) M δ μ μ' (enumD xs) := fun σ H o R k => h σ H o _ fun vs H1 o1 x1 r => by
  obtain ⟨v, rfl, q⟩ := p1 r
  obtain ⟨a, vs, g1, g2, g3⟩ := Dp.tup_of q
  exact ⟨a, vs, by rw [g1], ex_t hide_le g2, k _ H1 o1 x1 (w_enumT g2 g3)⟩
/-- f(k = v, ..), all data: the values in the parameters' order -/
theorem x_callN {n m : Nat} {Pre : List PyData → Prop} {F : List PyData → PyData} {ds es : List PyData} {E : XK} {gV : List V → List V → List V} (h : EvA C tr' M δ μ μ' (es.map Ent.d)) (hm : es.length = m)
    (hg : ∀ (H : Hp) (zs : List V), DpAll C.K H zs es → DpAll C.K H (gV [] zs) ds) (hn : ds.length = n) (hp : Pre ds) : EvX C (tCallN 0 m (spD C.K n Pre F) gV E tNil tr') M δ μ μ' (.d (F ds)) := fun σ H o Q k =>
  h σ H o _ fun vs H1 o1 x1 r1 => by
    have d1 := hg _ _ (dpAll_of r1)
    refine ⟨rfl, by rw [(dpAll_of r1).length]; exact hm, by rw [d1.length]; exact hn, M, ds, o1.alloc, d1, hp, fun v H2 e2 d2 => ?_⟩
    exact k v H2 (o1.grow e2) (x1.trans (hide_ex e2)) d2
end
end FD
/-! promises by a relation between what is handed in and what comes back; a def's proof -/
namespace FD
open PySem L2 Evl
def spR (K : PySem.W.Frag) (n : Nat) (R : List PyData → PyData → Prop) : Sp := fun vs H Q _ => vs.length = n ∧ ∃ M ds d, (∀ a ∈ M, H a ≠ none) ∧ DpAll K (hide M H) vs ds ∧ R ds d ∧ ∀ v H', Ex H H' → Dp K (hide M H') v d → Q v H'
def spW (K : PySem.W.Frag) (n : Nat) (R : List PyData → List PyData → PyData → List PyData → Prop) : Sp := fun vs H Q _ =>
  vs.length = n ∧ ∃ M b bs ws ds d bs', vs = .ref b :: ws ∧ b ∈ M ∧ (∀ a ∈ M, H a ≠ none) ∧ MOok K (hide M H) H b (.lst bs) ∧ DpAll K (hide M H) ws ds ∧ R bs ds d bs' ∧
    ∀ v H', Ex (hide [b] H) H' → MOok K (hide M H') H' b (.lst bs') → Dp K (hide M H') v d → Q v H'
section
variable {C : Cfg} {M : List Addr} {δ : List Ent} {μ μ' : Mem} {tr tr' : TA}
theorem x_callR {n : Nat} {R : List PyData → PyData → Prop} {ds : List PyData} {d : PyData} {E : XK} (h : EvA C tr M δ μ μ' (ds.map Ent.d)) (hp : R ds d) (hn : ds.length = n := by rfl) : EvX C (tCall (spR C.K n R) [] E tr) M δ μ μ' (.d d) := fun σ H o Q k =>
  h σ H o _ fun vs H1 o1 x1 r1 => by
    rw [List.append_nil]
    refine ⟨by rw [(dpAll_of r1).length]; exact hn, M, ds, d, o1.alloc, dpAll_of r1, hp, fun v H2 e2 d2 => ?_⟩
    exact k v H2 (o1.grow e2) (x1.trans (hide_ex e2)) d2
theorem x_callW {n : Nat} {R : List PyData → List PyData → PyData → List PyData → Prop} {ds bs bs' : List PyData} {d : PyData} {E : XK} {b : Addr} (j : Nat)
    (h : EvA C tr M δ μ μ' (.m b :: ds.map Ent.d)) (hp : R bs ds d bs') (hj : μ'[j]? = some (b, .lst bs) := by rfl) (hn : ds.length + 1 = n := by rfl) : EvX C (tCall (spW C.K n R) [] E tr) M δ μ (μ'.set j (b, .lst bs')) (.d d) := fun σ H o Q k =>
  h σ H o _ fun vs H1 o1 x1 r1 => by
    rw [List.append_nil]
    cases r1 with
    | cons r0 rr =>
      have e0 : _ = V.ref b := r0
      subst e0
      have hb := o1.mem _ (List.mem_of_getElem? hj)
      refine ⟨by rw [List.length_cons, (dpAll_of rr).length]; exact hn, M, b, bs, _, ds, d, bs', rfl, hb.1, o1.alloc, hb.2.2, dpAll_of rr, hp, fun v H2 e2 m2 d2 => ?_⟩
      obtain ⟨o2, x2⟩ := after_mut o1 hj e2 m2
      exact k v H2 o2 (x1.trans x2) d2
theorem x_callRN {n m : Nat} {R : List PyData → PyData → Prop} {ds es : List PyData} {d : PyData} {E : XK} {gV : List V → List V → List V} (h : EvA C tr' M δ μ μ' (es.map Ent.d)) (hg : ∀ (H : Hp) (zs : List V), DpAll C.K H zs es → DpAll C.K H (gV [] zs) ds) (hp : R ds d)
    (hm : es.length = m := by rfl) (hn : ds.length = n := by rfl) : EvX C (tCallN 0 m (spR C.K n R) gV E tNil tr') M δ μ μ' (.d d) := fun σ H o Q k =>
  h σ H o _ fun vs H1 o1 x1 r1 => by
    have d1 := hg _ _ (dpAll_of r1)
    refine ⟨rfl, by rw [(dpAll_of r1).length]; exact hm, by rw [d1.length]; exact hn, M, ds, d, o1.alloc, d1, hp, fun v H2 e2 d2 => ?_⟩
    exact k v H2 (o1.grow e2) (x1.trans (hide_ex e2)) d2
end
section
variable {P : Program} {w : World} {K : PySem.W.Frag} {mg : Str → Option Value} {base : Heap}
theorem def_R {x qual : Str} {st : Stmt} {f : Addr} {fd : FuncData} {N ps : List Str} {k : Nat} {R : List PyData → PyData → Prop} (F : Fun K x qual st f fd) (S : FnScope N ps (defScope st)) (hN : ps.length ≤ N.length)
    (h : ∀ (cdv : Value) (A : Around) (outer : List Env) (s : Shared) (H : Hp) (E : XK), Room k (A.deeper (PyProof.Rows.envOfC qual (defScope st) s.heap.objs.size f cdv)) →
      ∃ t, PSs (cxOf CX0 P w K mg base N qual (defScope st) f cdv A outer s H E).nox (defBody st) t ∧
        ∀ (M : List Addr) (G B : Hp) (ds : List PyData) (d : PyData), ds.length = ps.length → R ds d → ∀ D : Ends, Fin ⟨K, M, G, B⟩ D d → Run ⟨K, M, G, B⟩ t D M (startE N.length ds.length (ds.map Ent.d)) []) :
    FnOk P w K mg base CX0 (k + 1) f fd ps (spR K ps.length R) := by
  refine F.ok S (fun vs H Q E hs => hs.1) fun cdv A outer s H vs Q E hr hs => ?_
  obtain ⟨hn, M, ds, d, al, hd, hR, kk⟩ := hs
  obtain ⟨t, ht, run⟩ := h cdv A outer s H E hr
  exact ⟨t, ht, run M H (hide M H) ds d (by rw [← hd.length]; exact hn) hR _ (fun v H' e r => kk v H' e r) _ _ (ok_startD al hd (by rw [hn]; exact hN))⟩
theorem def_W {x qual : Str} {st : Stmt} {f : Addr} {fd : FuncData} {N ps : List Str} {k n : Nat} {R : List PyData → List PyData → PyData → List PyData → Prop} (F : Fun K x qual st f fd) (S : FnScope N ps (defScope st)) (hN : ps.length ≤ N.length) (hp : ps.length = n)
    (h : ∀ (cdv : Value) (A : Around) (outer : List Env) (s : Shared) (H : Hp) (E : XK), Room k (A.deeper (PyProof.Rows.envOfC qual (defScope st) s.heap.objs.size f cdv)) →
      ∃ t, PSs (cxOf CX0 P w K mg base N qual (defScope st) f cdv A outer s H E).nox (defBody st) t ∧
        ∀ (M : List Addr) (G B : Hp) (b : Addr) (bs ds : List PyData) (d : PyData) (bs' : List PyData), ds.length + 1 = n → R bs ds d bs' → ∀ D : Ends,
          (∀ (v : V) (M' : List Addr) (H' : Hp), Ex G H' → (∀ a ∈ M, a ∈ M') → MOok K (hide M' H') H' b (.lst bs') → Dp K (hide M' H') v d → D.rt v H') → Run ⟨K, M, G, B⟩ t D M (startE N.length (ds.length + 1) (.m b :: ds.map Ent.d)) [(b, .lst bs)]) :
    FnOk P w K mg base CX0 (k + 1) f fd ps (spW K n R) := by
  refine F.ok S (fun vs H Q E hs => hs.1.trans hp.symm) fun cdv A outer s H vs Q E hr hs => ?_
  obtain ⟨hn, M, b, bs, ws, ds, d, bs', rfl, hb, al, hm, hd, hR, kk⟩ := hs
  obtain ⟨t, ht, run⟩ := h cdv A outer s H E hr
  have hl : ws.length + 1 = n := by rw [List.length_cons] at hn; exact hn
  exact ⟨t, ht, run M (hide [b] H) (hide M H) b bs ds d bs' (by rw [← hd.length]; exact hl) hR _ (fun v M' H' e s m r => kk v H' e (m.mono (hide_sub s) fun _ q => q) (dp_mono (hide_sub s) _ _ r)) _ _ (ok_startM hb al hm hd (by rw [hl, ← hp]; exact hN))⟩
end
section
variable {C : Cfg} {M : List Addr} {δ : List Ent} {μ μ' : Mem} {te : TE} {D : Ends}
/-- handing back data, the changed list with it -/
theorem r_retW {b : Addr} {j : Nat} {mo : MO} {d : PyData} (h : EvX C te M δ μ μ' (.d d)) (hj : μ'[j]? = some (b, mo)) (k : ∀ (v : V) (M' : List Addr) (H' : Hp), Ex C.G H' → (∀ a ∈ C.M0, a ∈ M') → MOok C.K (hide M' H') H' b mo → Dp C.K (hide M' H') v d → D.rt v H') : Run C (tRet te) D M δ μ := fun σ H o => h σ H o _ fun v H1 o1 x1 r =>
  k v M H1 o1.gr o1.sub (o1.mem _ (List.mem_of_getElem? hj)).2.2 r
end
/-! ### the rules with the written part named (within a comprehension) -/
section
variable {X : Cx} {K : PySem.W.Frag}
theorem kix_tup (h : X.K = K) : IxR X (rIxT K) := h ▸ ix_tup
theorem kix_list (h : X.K = K) : IxR X (rIxL K) := h ▸ ix_list
theorem kop_eqD (h : X.K = K) (hu : X.A.units + 64 < cLine) : OpR X (compareOp .Eq) (rEqD K) := h ▸ op_eqD hu
theorem kop_neD (h : X.K = K) (hu : X.A.units + 64 < cLine) : OpR X (compareOp .NotEq) (rNeD K) := h ▸ op_neD hu
theorem klen (h : X.K = K) : CallR X (.builtin "len") (FD.rLenS K) := h ▸ call_len_seq
theorem ktuple (h : X.K = K) : CallR X (.type "tuple") (rTupleS K) := h ▸ call_tuple_of
theorem ksum (h : X.K = K) (hc : X.calm = true) : CallR X (.builtin "sum") (rSum K) := h ▸ cr_sum hc
theorem ksl_tupA (h : X.K = K) : SlR X (rSlA K) := h ▸ sl_tupA
theorem ksl_list (h : X.K = K) : SlR X (rSlL K) := h ▸ sl_list
theorem kop_catA (h : X.K = K) : OpR X (binaryOp .Add) (rCatA K) := h ▸ op_catA
end
/-! ### promises where the def chooses what comes back -/
def spP (K : PySem.W.Frag) (n : Nat) (Pre : List PyData → Prop) (Post : List PyData → PyData → Prop) : Sp := fun vs H Q _ => vs.length = n ∧ ∃ M ds, (∀ a ∈ M, H a ≠ none) ∧ DpAll K (hide M H) vs ds ∧ Pre ds ∧ ∀ v H' d, Post ds d → Ex H H' → Dp K (hide M H') v d → Q v H'
section
variable {P : Program} {w : World} {K : PySem.W.Frag} {mg : Str → Option Value} {base : Heap}
theorem def_P {x qual : Str} {st : Stmt} {f : Addr} {fd : FuncData} {N ps : List Str} {k : Nat} {Pre : List PyData → Prop} {Post : List PyData → PyData → Prop} (F : Fun K x qual st f fd) (S : FnScope N ps (defScope st)) (hN : ps.length ≤ N.length)
    (h : ∀ (cdv : Value) (A : Around) (outer : List Env) (s : Shared) (H : Hp) (E : XK), Room k (A.deeper (PyProof.Rows.envOfC qual (defScope st) s.heap.objs.size f cdv)) →
      ∃ t, PSs (cxOf CX0 P w K mg base N qual (defScope st) f cdv A outer s H E).nox (defBody st) t ∧
        ∀ (M : List Addr) (G B : Hp) (ds : List PyData), ds.length = ps.length → Pre ds → ∀ D : Ends, (∀ d, Post ds d → Fin ⟨K, M, G, B⟩ D d) → Run ⟨K, M, G, B⟩ t D M (startE N.length ds.length (ds.map Ent.d)) []) :
    FnOk P w K mg base CX0 (k + 1) f fd ps (spP K ps.length Pre Post) := by
  refine F.ok S (fun vs H Q E hs => hs.1) fun cdv A outer s H vs Q E hr hs => ?_
  obtain ⟨hn, M, ds, al, hd, hR, kk⟩ := hs
  obtain ⟨t, ht, run⟩ := h cdv A outer s H E hr
  exact ⟨t, ht, run M H (hide M H) ds (by rw [← hd.length]; exact hn) hR _ (fun d hp v H' e r => kk v H' d hp e r) _ _ (ok_startD al hd (by rw [hn]; exact hN))⟩
end
section
variable {C : Cfg} {M : List Addr} {δ : List Ent} {μ μ' : Mem} {tr tr' : TA} {D : Ends} {t2 : TS}
theorem r_asgP {i n : Nat} {Pre : List PyData → Prop} {Post : List PyData → PyData → Prop} {ds : List PyData} {E : XK} (h : EvA C tr M δ μ μ' (ds.map Ent.d)) (hp : Pre ds) (k : ∀ d, Post ds d → Nx C D M (δ.set i (.d d)) μ') (hn : ds.length = n := by rfl) :
    Run C (tAsg (tCall (spP C.K n Pre Post) [] E tr) (gName i)) D M δ μ := fun σ H o => h σ H o _ fun vs H1 o1 x1 r1 => by
  rw [List.append_nil]
  refine ⟨by rw [(dpAll_of r1).length]; exact hn, M, ds, o1.alloc, dpAll_of r1, hp, fun v H2 d hd e2 d2 => ?_⟩
  exact k d hd _ _ ((o1.grow e2).set i (e := .d d) d2)
theorem q_asgP {i n : Nat} {Pre : List PyData → Prop} {Post : List PyData → PyData → Prop} {ds : List PyData} {E : XK} (h : EvA C tr M δ μ μ' (ds.map Ent.d)) (hp : Pre ds) (k : ∀ d, Post ds d → Run C t2 D M (δ.set i (.d d)) μ') (hn : ds.length = n := by rfl) :
    Run C (tSeq (tAsg (tCall (spP C.K n Pre Post) [] E tr) (gName i)) t2) D M δ μ := r_asgP (D := { D with nx := t2 D }) h hp k hn
/-- x = f(k = v, ..) -/
theorem q_asgPN {i n m : Nat} {Pre : List PyData → Prop} {Post : List PyData → PyData → Prop} {ds es : List PyData} {E : XK} {gV : List V → List V → List V} (h : EvA C tr' M δ μ μ' (es.map Ent.d)) (hg : ∀ (H : Hp) (zs : List V), DpAll C.K H zs es → DpAll C.K H (gV [] zs) ds) (hp : Pre ds)
    (k : ∀ d, Post ds d → Run C t2 D M (δ.set i (.d d)) μ') (hm : es.length = m := by rfl) (hn : ds.length = n := by rfl) :
    Run C (tSeq (tAsg (tCallN 0 m (spP C.K n Pre Post) gV E tNil tr') (gName i)) t2) D M δ μ := fun σ H o => h σ H o _ fun vs H1 o1 x1 r1 => by
  have d1 := hg _ _ (dpAll_of r1)
  refine ⟨rfl, by rw [(dpAll_of r1).length]; exact hm, by rw [d1.length]; exact hn, M, ds, o1.alloc, d1, hp, fun v H2 d hd e2 d2 => ?_⟩
  exact k d hd _ _ ((o1.grow e2).set i (e := .d d) d2)
end
/-! ### shapes -/
theorem canLay_all : ∀ {l : List PyData}, (∀ d ∈ l, d.canLay0 = true) → PyData.canLayAll0 l = true
  | [], _ => by simp [PyData.canLayAll0]
  | x :: l, h => by
    rw [PyData.canLayAll0, h x List.mem_cons_self, canLay_all fun d hd => h d (List.mem_cons_of_mem _ hd)]
    rfl
theorem depth_all {n : Nat} : ∀ {l : List PyData}, (∀ d ∈ l, d.depth ≤ n) → PyData.depthAll l ≤ n
  | [], _ => by simp [PyData.depthAll]
  | x :: l, h => by
    rw [PyData.depthAll]
    exact Nat.max_le.mpr ⟨h x List.mem_cons_self, depth_all fun d hd => h d (List.mem_cons_of_mem _ hd)⟩
/-- data nested n deep at most -/
def Shp (n : Nat) (d : PyData) : Prop := d.canLay0 = true ∧ d.depth ≤ n
theorem Shp.shaped {n : Nat} {d : PyData} (h : Shp n d) (hn : n ≤ 64) : SeqAt.shaped d = true := by
  unfold SeqAt.shaped
  rw [h.1, decide_eq_true (Nat.le_trans h.2 hn)]
  rfl
theorem shp_int (n : Nat) (i : Int) : Shp n (.int i) := ⟨by simp [PyData.canLay0], by simp [PyData.depth]⟩
theorem shp_bool (n : Nat) (i : Bool) : Shp n (.bool i) := ⟨by simp [PyData.canLay0], by simp [PyData.depth]⟩
theorem shp_none (n : Nat) : Shp n .none := ⟨by simp [PyData.canLay0], by simp [PyData.depth]⟩
theorem shp_list {n : Nat} {l : List PyData} (h : ∀ d ∈ l, Shp n d) : Shp (n + 1) (.list l) := ⟨by rw [PyData.canLay0]; exact canLay_all fun d hd => (h d hd).1, by rw [PyData.depth]; exact Nat.succ_le_succ (depth_all fun d hd => (h d hd).2)⟩
theorem shp_tuple {n : Nat} {l : List PyData} (h : ∀ d ∈ l, Shp n d) : Shp (n + 1) (.tuple l) := ⟨by rw [PyData.canLay0]; exact canLay_all fun d hd => (h d hd).1, by rw [PyData.depth]; exact Nat.succ_le_succ (depth_all fun d hd => (h d hd).2)⟩
theorem shp_ints (n : Nat) (l : List Int) : Shp (n + 1) (.list (l.map .int)) := shp_list fun d hd => by
  obtain ⟨i, _, rfl⟩ := List.mem_map.mp hd
  exact shp_int n i
theorem shp_tints (n : Nat) (l : List Int) : Shp (n + 1) (.tuple (l.map .int)) := shp_tuple fun d hd => by
  obtain ⟨i, _, rfl⟩ := List.mem_map.mp hd
  exact shp_int n i
theorem shp_nil (n : Nat) : Shp (n + 1) (.list []) := shp_list fun d hd => by cases hd
theorem eqv_int (i j : Int) : PyData.eqv (.int i) (.int j) = (i == j) := by simp [PyData.eqv]
theorem eqv_ints : ∀ (xs ys : List Int), PyData.eqvAll (xs.map .int) (ys.map .int) = (xs == ys)
  | [], [] => by simp [PyData.eqvAll]
  | [], _ :: _ => by simp [PyData.eqvAll]
  | _ :: _, [] => by simp [PyData.eqvAll]
  | x :: xs, y :: ys => by
    rw [List.map_cons, List.map_cons, PyData.eqvAll, eqv_ints xs ys, eqv_int]
    rfl
/-! ### where the lists stay as they are -/
section
variable {C : Cfg} {M : List Addr} {δ : List Ent} {μ μ1 : Mem} {te ta tb : TE} {t : TT} {D : Ends} {e : Ent} {b : Bool} {tr : TA}
theorem x_cbP {r : List V → Hp → VK → Prop} {es : List Ent} (h : EvA C tr M δ μ μ1 es) (hr : CallX C r M δ μ1 μ1 es e) : EvX C (tCB r tr) M δ μ μ1 e := x_cb h hr
theorem x_ifP (h : EvT C t M δ μ μ1 b) (h1 : b = true → EvX C ta M δ μ1 μ1 e) (h2 : b = false → EvX C tb M δ μ1 μ1 e) : EvX C (tIf t ta tb) M δ μ μ1 e := x_if h h1 h2
theorem r_retP {d : PyData} (h : EvX C te M δ μ μ (.d d)) (k : Fin C D d) : Run C (tRet te) D M δ μ := r_retD h k
end
end FD
/-! promises that hand back a new list, which the caller may change; types of data; sequences of either kind -/
namespace FD
open PySem L2 Evl
/-- a new list comes back -/
def spN (K : PySem.W.Frag) (n : Nat) (R : List PyData → List PyData → Prop) : Sp := fun vs H Q _ => vs.length = n ∧ ∃ M ds es, (∀ a ∈ M, H a ≠ none) ∧ DpAll K (hide M H) vs ds ∧ R ds es ∧
  ∀ p H' ws, H p = none → Ex H H' → H' p = some (.lst ws) → DpAll K (hide (p :: M) H') ws es → Q (.ref p) H'
def FinN (C : Cfg) (D : Ends) (es : List PyData) : Prop := ∀ p H ws, C.G p = none → p ∉ C.M0 → Ex C.G H → H p = some (.lst ws) → DpAll C.K (hide (p :: C.M0) H) ws es → D.rt (.ref p) H
section
variable {P : Program} {w : World} {K : PySem.W.Frag} {mg : Str → Option Value} {base : Heap}
theorem def_N {x qual : Str} {st : Stmt} {f : Addr} {fd : FuncData} {N ps : List Str} {k : Nat} {R : List PyData → List PyData → Prop} (F : Fun K x qual st f fd) (S : FnScope N ps (defScope st)) (hN : ps.length ≤ N.length)
    (h : ∀ (cdv : Value) (A : Around) (outer : List Env) (s : Shared) (H : Hp) (E : XK), Room k (A.deeper (PyProof.Rows.envOfC qual (defScope st) s.heap.objs.size f cdv)) →
      ∃ t, PSs (cxOf CX0 P w K mg base N qual (defScope st) f cdv A outer s H E).nox (defBody st) t ∧
        ∀ (M : List Addr) (G B : Hp) (ds es : List PyData), ds.length = ps.length → R ds es → ∀ D : Ends, FinN ⟨K, M, G, B⟩ D es → Run ⟨K, M, G, B⟩ t D M (startE N.length ds.length (ds.map Ent.d)) []) :
    FnOk P w K mg base CX0 (k + 1) f fd ps (spN K ps.length R) := by
  refine F.ok S (fun vs H Q E hs => hs.1) fun cdv A outer s H vs Q E hr hs => ?_
  obtain ⟨hn, M, ds, es, al, hd, hR, kk⟩ := hs
  obtain ⟨t, ht, run⟩ := h cdv A outer s H E hr
  exact ⟨t, ht, run M H (hide M H) ds es (by rw [← hd.length]; exact hn) hR _ (fun p H' ws hp _ e q r => kk p H' ws hp e q r) _ _ (ok_startD al hd (by rw [hn]; exact hN))⟩
end
section
variable {C : Cfg} {M : List Addr} {δ : List Ent} {μ μ' μ1 μ2 : Mem} {tr tr' : TA} {D : Ends} {t2 : TS} {te tb ta : TE} {e2 : Ent} {i j : Nat}
/-- return [..] -/
theorem r_retN {es : List PyData} (h : EvA C tr M δ μ μ' (es.map Ent.d)) (hl : es.length ≤ 100000) (k : FinN C D es) : Run C (tRet (tLst tr)) D M δ μ := fun σ H o => h σ H o _ fun vs H1 o1 x1 r1 => ⟨by rw [(dpAll_of r1).length]; exact sz_of hl, fun p hp => by
  have g : C.G p = none := by
    cases z : C.G p with
    | none => rfl
    | some u => have := o1.gr p u z; rw [hp] at this; cases this
  have e : Ex H1 (upd H1 p (.lst vs)) := Ex.new hp
  have s : Ex (hide M H1) (hide (p :: C.M0) (upd H1 p (.lst vs))) := fun a u z => by
    obtain ⟨q, z⟩ := hide_some z
    have ne : a ≠ p := ne_of_none z hp
    exact hide_mk (by rw [upd_ne ne]; exact z) fun y => (List.mem_cons.mp y).elim (fun y => absurd y ne) fun y => q (o1.sub a y)
  exact k p _ vs g (fun z => o1.alloc p (o1.sub p z) hp) (o1.gr.trans e) upd_same (dpAll_mono s _ _ (dpAll_of r1))⟩
/-- return x, x a list of one's own -/
theorem r_retNM {a : Addr} {es : List PyData} {j : Nat} (h : EvX C te M δ μ μ' (.m a)) (hj : μ'[j]? = some (a, .lst es)) (ha : a ∉ C.M0) (k : FinN C D es) : Run C (tRet te) D M δ μ := fun σ H o => h σ H o _ fun v H1 o1 x1 r => by
  have r' : v = .ref a := r
  obtain ⟨q0, q3, vs, q1, q2⟩ := o1.mem _ (List.mem_of_getElem? hj)
  rw [r']
  refine k a H1 vs q3 ha o1.gr q1 (dpAll_mono (hide_sub fun b hb => ?_) _ _ q2)
  rcases List.mem_cons.mp hb with z | z
  · rw [z]; exact q0
  · exact o1.sub b z
theorem r_asgN {n : Nat} {R : List PyData → List PyData → Prop} {ds es : List PyData} {E : XK} (h : EvA C tr M δ μ μ' (ds.map Ent.d)) (hp : R ds es) (k : ∀ p, p ∉ M → Nx C D (p :: M) (δ.set i (.m p)) ((p, .lst es) :: μ')) (hn : ds.length = n := by rfl) :
    Run C (tAsg (tCall (spN C.K n R) [] E tr) (gName i)) D M δ μ := fun σ H o => h σ H o _ fun vs H1 o1 x1 r1 => by
  rw [List.append_nil]
  refine ⟨by rw [(dpAll_of r1).length]; exact hn, M, ds, es, o1.alloc, dpAll_of r1, hp, fun p H2 ws hp0 e2 hl d2 => ?_⟩
  have x : Ex (hide M H1) (hide (p :: M) H2) := fun a u z => by
    obtain ⟨q, z⟩ := hide_some z
    have ne : a ≠ p := ne_of_none z hp0
    exact hide_mk (e2 a u z) fun y => (List.mem_cons.mp y).elim (fun y => absurd y ne) q
  have pM := o1.fresh hp0
  have ok2 : Ok C (p :: M) δ ((p, .lst es) :: μ') σ H2 := by
    refine ⟨o1.len, fun i y h1 h2 => let ⟨v, a, c⟩ := o1.slot i y h1 h2; ⟨v, a, c.mono x⟩, fun q hq => ?_, ?_, fun b hb => ?_, fun a ha => List.mem_cons_of_mem _ (o1.sub a ha), o1.gr.trans e2, o1.base.trans x⟩
    · rcases List.mem_cons.mp hq with z | hq
      · subst z
        refine ⟨List.mem_cons_self, ?_, ws, hl, d2⟩
        cases z : C.G p with
        | none => rfl
        | some u => have := o1.gr p u z; rw [hp0] at this; cases this
      · obtain ⟨b1, b2, b3⟩ := o1.mem q hq
        exact ⟨List.mem_cons_of_mem _ b1, b2, b3.mono x fun u z => e2 _ u z⟩
    · rw [List.map_cons, List.nodup_cons]
      refine ⟨fun z => ?_, o1.nd⟩
      obtain ⟨q, hq, z⟩ := List.mem_map.mp z
      have y : q.1 = p := z
      exact pM (by rw [← y]; exact (o1.mem q hq).1)
    · rcases List.mem_cons.mp hb with z | hb
      · rw [z, hl]; exact fun y => nomatch y
      · cases z : H1 b with
        | none => exact absurd z (o1.alloc b hb)
        | some u => rw [e2 b u z]; exact fun y => nomatch y
  exact k p pM _ _ (ok2.set i (e := .m p) rfl)
theorem q_asgN {n : Nat} {R : List PyData → List PyData → Prop} {ds es : List PyData} {E : XK} (h : EvA C tr M δ μ μ' (ds.map Ent.d)) (hp : R ds es) (k : ∀ p, p ∉ M → Run C t2 D (p :: M) (δ.set i (.m p)) ((p, .lst es) :: μ')) (hn : ds.length = n := by rfl) :
    Run C (tSeq (tAsg (tCall (spN C.K n R) [] E tr) (gName i)) t2) D M δ μ := r_asgN (D := { D with nx := t2 D }) h hp k hn
/-- x, y = [..], e -/
theorem q_parN {ds : List PyData} (h : EvA C tr M δ μ μ1 (ds.map Ent.d)) (hl : ds.length ≤ 100000) (hb : ∀ p, p ∉ M → EvX C tb (p :: M) δ ((p, .lst ds) :: μ1) ((p, .lst ds) :: μ1) e2)
    (k : ∀ p, p ∉ M → Run C t2 D (p :: M) ((δ.set i (.m p)).set j e2) ((p, .lst ds) :: μ1)) : Run C (tSeq (tPar i j (tCons (tLst tr) (tCons tb tNil))) t2) D M δ μ := fun σ H o =>
  h σ H o _ fun vs H1 o1 x1 r => ⟨by have := (dpAll_of r).length; rw [this]; exact sz_of hl, fun p hp => by
    have o2 := o1.new hp (mo := .lst ds) (ho := .lst vs) ⟨vs, upd_same, dpAll_mono (hide_new hp) _ _ (dpAll_of r)⟩
    have pM := o1.fresh hp
    refine hb p pM σ _ o2 _ fun v H3 o3 x3 r3 => ?_
    exact ⟨.ref p, v, rfl, k p pM _ _ ((o3.set i (e := .m p) rfl).set j r3)⟩⟩

/-! ### either a list or a tuple -/
theorem o_seqL {i : Int} {ds : List PyData} {d : PyData} {e1 : Ent} (r : Rdd μ e1 (.list ds)) (ha : atI ds i = some d) : OpX C (rIx C.K) M δ μ μ e1 (.d (.int i)) (.d d) := fun σ H x y o h1 h2 Q k => .inl (o_ixL r ha σ H x y o h1 h2 Q k)
theorem o_seqT {i : Int} {ds : List PyData} {d : PyData} (ha : atI ds i = some d) : OpX C (rIx C.K) M δ μ μ (.d (.tuple ds)) (.d (.int i)) (.d d) := fun σ H x y o h1 h2 Q k => .inr (.inl (o_ixT ha σ H x y o h1 h2 Q k))

/-! ### isinstance -/
def tyD : PyData → String
  | .none => "NoneType"
  | .bool _ => "bool"
  | .int _ => "int"
  | .str _ => "str"
  | .list _ => "list"
  | .tuple _ => "tuple"
  | .dict _ => "dict"
theorem ty_dp {K : PySem.W.Frag} {H : Hp} {v : V} {d : PyData} (h : Dp K H v d) : TyX K H v (.type (tyD d)) := by
  cases h with
  | non => exact .base .non
  | bl b => exact .base (.bl b)
  | int i => exact .base (.int i)
  | str x => exact .base (.str x)
  | lst hs ha =>
    rcases hs with (hs | ⟨o, hs⟩) | ⟨o, its, n, hk, hc, _⟩
    · exact .base (.lst hs)
    · exact .base (.frz hs)
    · exact .kList hk hc
  | tup hs ha =>
    exact .base (.tup hs)
theorem x_isi {d : PyData} {n : String} {b : Bool} (h : EvX C ta M δ μ μ' (.d d)) (hb : kitB (tyD d) n = some b) : EvX C (tCB (rIsi C.K) (tCons ta (tCons (tC (.ty n)) tNil))) M δ μ μ' (.d (.bool b)) := fun σ H o Q k =>
  h σ H o _ fun v H1 o1 x1 r => ⟨v, .ty n, .type (tyD d), .type n, b, rfl, .ty n, ty_dp (dp_mono hide_le _ _ r), kit_ty hb, k _ H1 o1 x1 (.bl b)⟩
end
end FD
/-! sorted(set(t)), t a tuple of texts: the set's table walked in whatever order -/
namespace FD
open PySem PySem.Spec L2 PyProof.Rows PySem.W PySem.Froz
/-! ### the set's table keeps rising, and its mark -/
theorem tailTx_ris {ep : Nat} {es : Array (Int × Value)} {t : SetTable} {wd : Bool} (r : Ris t.place.toList) : Ris (tailTx ep es t wd).2.2.place.toList := by
  unfold tailTx
  by_cases c : (!wd && t.tooFull) = true
  · rw [if_pos c]; exact relayAll_ris _ _ _
  · rw [if_neg c]; exact r
theorem tailTx_led {ep : Nat} {es : Array (Int × Value)} {t : SetTable} {wd : Bool} : (tailTx ep es t wd).2.2.led = t.led := by
  unfold tailTx
  by_cases c : (!wd && t.tooFull) = true
  · rw [if_pos c]; exact relayAll_led _ _ _
  · rw [if_neg c]
theorem addTx_ris {hs : Int} {v : Value} {T : SD} (r : Ris T.2.2.place.toList) : Ris (addTx hs v T).2.2.place.toList := by
  have r1 := layNew_ris T.2.2 T.1 hs v r
  unfold addTx
  refine tailTx_ris ?_
  split <;> exact r1
theorem addTx_led {hs : Int} {v : Value} {T : SD} : (addTx hs v T).2.2.led = T.2.2.led := by
  have r1 := layNew_led T.2.2 T.1 hs v
  unfold addTx
  refine tailTx_led.trans ?_
  split <;> exact r1
/-- the set of texts at a, its members l (each once) -/
def TxS (P : Program) (w : World) (h : Heap) (a : Addr) (l : List Str) : Prop := ∃ T : SD, h.get? a = some (sObj "set" T) ∧ TxOk P w T l ∧ l.Nodup ∧ Ris T.2.2.place.toList ∧ (w.params.followText "set-order" = true ∨ T.2.2.led = true)
section
variable {P : Program} {w : World} {A : Around} {E : Value → Shared → Prop} {s : Shared}
theorem TxS.at_ {h h' : Heap} {a : Addr} {l : List Str} (x : TxS P w h a l) (k : ∀ o, h.get? a = some o → h'.get? a = some o) : TxS P w h' a l := let ⟨T, h1, r⟩ := x; ⟨T, k _ h1, r⟩
theorem ts_add {a : Addr} {l : List Str} {z : Str} {u : Tok} {Q : Bool → Shared → Prop} (x : TxS P w s.heap a l) (hb : l.length + 1 < scanBound)
    (hQ : ∀ h' l' b, Heap.SameBut a s.heap h' → TxS P w h' a l' → (∀ y, y ∈ l' ↔ y ∈ l ∨ y = z) → l'.length ≤ l.length + 1 → Q b { s with heap := h' }) : wpAny (model P w) A (setAddHashed a (.str z u) (hashStr w z)) Q E s := by
  obtain ⟨T, ho, F, hn, hr, hl⟩ := x
  by_cases hz : z ∈ l
  · obtain ⟨es, ep, t⟩ := T
    have hd : (sObj "set" (es, ep, t)).data = .set es ep t := rfl
    have hsz : es.size = l.length := F.sz
    have isz : (strKind P w).is z (.str z u) = true := is_str z u
    obtain ⟨e, he, hp⟩ := (F.mem z).mp hz
    unfold setAddHashed setAddHashedIn
    refine wpAny_holding (wpAny_bind (wpAny_setState_of ho hd F.fit ?_))
    dsimp only
    rw [byScan_of (x := Value.str z u) rfl (show es.size < scanBound by omega) F.el]
    simp only [↓reduceIte]
    unfold setAddByScan
    refine wpAny_bind ?_
    refine wpAny_bind (wpAny_rule ?_)
    refine wpAny_bind (wpAny_setScan_of (knd := strKind P w) (k := z) isz ho hd F.fit F.el ?_)
    cases hf : List.findIdx? (fun e => (strKind P w).is z e.2) es.toList with
    | none =>
      have c := List.findIdx?_eq_none_iff.mp hf e he
      rw [hp] at c
      cases c
    | some j =>
      dsimp only
      exact wpAny_pure (wpAny_pure (hQ s.heap l false (Heap.SameBut.refl a s.heap) ⟨(es, ep, t), ho, F, hn, hr, hl⟩ (fun y => ⟨.inl, fun q => q.elim id fun e => e ▸ hz⟩) (Nat.le_succ _)))
  · refine add_x ho F hz hb (hQ _ (z :: l) true (Heap.SameBut.update s.heap a _) ⟨_, get_upd _ ho rfl, add_ok u F, List.nodup_cons.mpr ⟨hz, hn⟩, addTx_ris hr, ?_⟩ (fun y => ?_) (Nat.le_refl _))
    · rw [addTx_led]; exact hl
    · rw [List.mem_cons]; exact Or.comm
/-- the loop that fills the set -/
theorem ts_fill {I : Addr} {fp wr : List Addr} {G : Array GenState → Array GenState → Prop} {n : Nat} {Pv : Nat → Value → Prop} {St : Nat → Shared → Prop} {R : Result → Shared → Prop}
    (W : WalksS P w A.in1 I fp wr G n Pv St) (S : Addr) (hSf : S ∉ fp) (zs : List Str) (hn : n = zs.length) (hb : zs.length + 1 < scanBound) (hval : ∀ i v, Pv i v → ∃ k t, zs[i]? = some k ∧ v = .str k t) :
    ∀ (k i : Nat) (sh : Shared), n - i = k → i ≤ n → St i sh → (∃ l, l.length ≤ i ∧ TxS P w sh.heap S l ∧ ∀ y, y ∈ l ↔ y ∈ zs.take i) →
      (∀ s' l, Moved (S :: wr) G sh s' → l.length ≤ n → TxS P w s'.heap S l → (∀ y, y ∈ l ↔ y ∈ zs) → R (.ok (.ret .none)) s') →
      codeAny (model P w) A (.builtin "set.update.loop" ⟨[.ref S, .ref I], []⟩) R sh := by
  have nw : S ∉ wr := fun h => hSf (W.sub _ h)
  have up : ∀ b ∈ wr, b ∈ S :: wr := fun b hb => List.mem_cons_of_mem _ hb
  intro k
  induction k with
  | zero =>
    intro i sh ek hi st0 ⟨l, hl, hT, hm⟩ hR
    obtain rfl : i = n := by omega
    refine codeAny_builtin F.entry_set_update_loop ?_
    rw [Around.under_plainId F.plain_set_update_loop _]
    show wpAny _ A.in1 (pyNext (.ref I) >>= _) _ _ sh
    refine wpAny_bind (W.done sh _ _ st0 fun s' mv => ?_)
    show wpAny _ A.in1 (ret Value.none) _ _ s'
    have e : zs.take i = zs := List.take_of_length_le (by omega)
    rw [e] at hm
    exact wpAny_pure (hR s' l (mv.mono up) hl (hT.at_ fun o q => mv.heap S o nw q) hm)
  | succ k ih =>
    intro i sh ek hi st0 ⟨l, hl, hT, hm⟩ hR
    have lt0 : i < n := by omega
    refine codeAny_builtin F.entry_set_update_loop ?_
    rw [Around.under_plainId F.plain_set_update_loop _]
    show wpAny _ A.in1 (pyNext (.ref I) >>= _) _ _ sh
    refine wpAny_bind (W.item i sh _ _ lt0 st0 fun v s1 pv st1 mv => ?_)
    obtain ⟨z, t, hz, rfl⟩ := hval i v pv
    have hT1 : TxS P w s1.heap S l := hT.at_ fun o q => mv.heap S o nw q
    show wpAny _ A.in1 (holding [Value.str z t] (setAdd S (.str z t)) >>= _) _ _ s1
    refine wpAny_bind (wpAny_holding ?_)
    unfold setAdd
    refine wpAny_holding ?_
    refine wpAny_bind ((strKind P w).pyHash (k := z) (is_str z t) ?_)
    refine ts_add (s := { s1 with toks := s1.toks + 1 }) hT1 (by omega) fun g1 l1 b sb hT2 hm2 hl2 => ?_
    have hm3 : ∀ y, y ∈ l1 ↔ y ∈ zs.take (i + 1) := fun y => by
      rw [hm2, hm, List.take_add_one, hz]
      simp [List.mem_append]
    refine wpAny_pure ⟨plainId_quiet F.plain_set_update_loop _, ih (i + 1) _ (by omega) lt0 (W.frame _ s1 _ _ st1 (Nat.le_succ _) fun b hb o q => ?_) ⟨_, by omega, hT2, hm3⟩ fun s2 l2 mv2 hl3 hT3 hm4 => ?_⟩
    · rw [sb.2 b (fun q : b = S => hSf (by rw [← q]; exact hb))]; exact q
    · refine hR s2 l2 (Moved.trans W.gtrans ((mv.mono up).then_heap (Nat.le_succ _) fun b o hb q => ?_) mv2) hl3 hT3 hm4
      rw [sb.2 b (fun z : b = S => hb (by rw [z]; exact List.mem_cons_self))]; exact q
set_option maxHeartbeats 12000000 in
/-- set(t), t a tuple of texts -/
theorem call_setT {l : Addr} {items : Array Value} (zs : List Str) {Q : Value → Shared → Prop} (hh : A.handled = none) (hl : s.heap.IsTuple l items) (hit : StrsAre items.toList zs) (hb : zs.length + 1 < scanBound)
    (h : ∀ (h' : Heap) (tk : Nat) (ks : List Str), TxS P w h' s.heap.objs.size ks → (∀ y, y ∈ ks ↔ y ∈ zs) → ks.length ≤ zs.length → (∀ b o, s.heap.get? b = some o → h'.get? b = some o) → Q (.ref s.heap.objs.size) { s with heap := h', toks := tk }) :
    wpAny (model P w) A (call (.type "set") [.ref l]) Q E s := by
  have eN : items.size = zs.length := by rw [← StrsAre.length hit, Array.length_toList]
  obtain ⟨c, tl, hmro⟩ := F.called_set.mro
  have hmade := F.called_set.made
  have hsub := F.called_set.sub
  refine wpAny_call (codeAny_of_tree ?_)
  show wpAny _ _ (callAny (.type "set") _) _ _ _
  refine wpAny_pure ⟨Code.quiet_builtin _ (by decide +kernel), codeAny_builtin F.entry_type_call ?_⟩
  rw [Around.under_plain (weight_type_call_type "set" [.ref l] []) rfl]
  have h1 := F.called_set.notType
  have h2 := F.called_set.canCreate
  have hct := F.typeCall_set_1 (.ref l)
  repeat (any_goals (first | assumption | wp_step))
  generalize eS : ({ cls := .type "set", dict := none, data := .set #[] 0 (.fresh 0 0 (!w.params.followText "set-order")) } : Obj) = o0
  refine codeAny_mono (code_set_led1 (.ref l) (E := E) (Q₁ := fun obj t => obj = .ref s.heap.objs.size ∧ t = { s with heap := s.heap.push o0 }) ⟨rfl, by rw [eS]⟩) fun r t hr => ?_
  cases r with
  | error e => exact hr
  | ok fl =>
    cases fl with
    | ret obj =>
      obtain ⟨rfl, rfl⟩ := hr
      have hS : (s.heap.push o0).get? s.heap.objs.size = some o0 := Heap.get?_push_size _ (by rw [← eS]; rfl)
      have hT : Shared.TypeIs { s with heap := s.heap.push o0 } (.ref s.heap.objs.size) "set" := ⟨_, hS, by rw [← eS]⟩
      have hli := F.called_set.init.lookup
      have hbi := F.called_set.init.bind (.ref s.heap.objs.size)
      repeat (any_goals (first | assumption | wp_step))
      refine codeAny_mono (codeAny_call_builtin (R := wants (fun r s₂ => r = .none ∧ ∃ h' tk ks, s₂ = { s with heap := h', toks := tk } ∧ TxS P w h' s.heap.objs.size ks ∧ (∀ y, y ∈ ks ↔ y ∈ zs) ∧ ks.length ≤ zs.length ∧
          (∀ b o, s.heap.get? b = some o → h'.get? b = some o)) E) F.called_set.init.plain F.entry_set_init (check_set_init_1 hT ?_)) fun r₂ s₂ hr₂ => ?_
      · obtain ⟨ol, hol, hcl, nl, hdl⟩ := hl
        obtain ⟨ocls, odict, odata, oslots⟩ := ol
        simp only at hcl hdl
        subst hcl; subst hdl
        have hol' : (s.heap.push o0).get? l = some { cls := .type "tuple", dict := odict, data := .seq items nl, slots := oslots } := Heap.get?_push_of_some _ hol
        have hsls := F.sub_tuple_set
        have hslf := F.sub_tuple_frozenset
        have hne : (Value.type "tuple" == Value.type "dict") = false := by decide
        have tl1 : (s.heap.push o0).IsTuple l items := ⟨_, hol', rfl, nl, rfl⟩
        subst eS
        unfold Builtin.«set.__init__» noKeywords Builtin.Frozenset.updateFrom
        generalize hPI : pyIter = PI
        wp_walk
        subst hPI
        refine wpAny_pyIter_tuple tl1 ?_
        refine wpAny_bind (wpAny_runValue ?_)
        have ltl : l < s.heap.objs.size := Heap.lt_size hol
        have hh3 : A.in1.in1.in1.handled = none := by simp [hh]
        have eP : ∀ o : Obj, (s.heap.push o).objs.size = s.heap.objs.size + 1 := fun o => Heap.size_push ..
        have neI : l ≠ (s.heap.push { cls := .type "set", dict := none, data := .set #[] 0 (.fresh 0 0 (!w.params.followText "set-order")) }).objs.size := by rw [eP]; exact Nat.ne_of_lt (Nat.lt_succ_of_lt ltl)
        have outS : s.heap.objs.size ∉ [(s.heap.push { cls := .type "set", dict := none, data := .set #[] 0 (.fresh 0 0 (!w.params.followText "set-order")) }).objs.size, l] := by
          rw [eP]; simp only [List.mem_cons, List.not_mem_nil, or_false, not_or]
          exact ⟨Nat.ne_of_lt (Nat.lt_succ_self _), Nat.ne_of_gt ltl⟩
        have hval : ∀ (i : Nat) (v : Value), items[i]? = some v → ∃ k t, zs[i]? = some k ∧ v = .str k t := fun i v hv => by
          have hi : i < zs.length := by rw [← eN]; exact (Array.getElem?_eq_some_iff.mp hv).1
          obtain ⟨t, e⟩ := SS.strs_at hit i v (by rw [Array.getElem?_toList]; exact hv)
          refine ⟨zs[i], t, List.getElem?_eq_getElem hi, ?_⟩
          rw [e, List.getD_eq_getElem?_getD, List.getElem?_eq_getElem hi] <;> rfl
        refine ts_fill ((Walks.tuple hh3 _ l neI items).toS) s.heap.objs.size outS zs eN hb hval (items.size - 0) 0 _ (by omega) (Nat.zero_le _)
          ⟨⟨_, Heap.get?_push_size _ rfl, rfl, rfl⟩, (tl1.push _)⟩ ?_ ?_
        · refine ⟨[], Nat.le_refl 0, ⟨(#[], 0, .fresh 0 0 (!w.params.followText "set-order")), ?_, TxOk.nil (by rfl), List.nodup_nil, List.Pairwise.nil, ?_⟩, fun y => by simp⟩
          · refine (Heap.get?_push_of_some _ hS).trans ?_
            rfl
          · show _ ∨ (!w.params.followText "set-order") = true
            cases w.params.followText "set-order"
            · exact .inr rfl
            · exact .inl rfl
        · intro s' ks mv hl' hT' hm'
          obtain ⟨h', gg, d', tk', os'⟩ := s'
          have eg : gg = s.gens := mv.gens
          have ed : d' = s.drawn := mv.drawn
          have eo : os' = s.os := mv.os
          subst eg; subst ed; subst eo
          show wpAny _ _ _ _ _ _
          refine wpAny_pure ?_
          show wpAny _ _ (ret Value.none) _ _ _
          refine wpAny_pure ⟨rfl, h', tk', ks, rfl, hT', hm', by omega, fun b o e => ?_⟩
          have b0 : b < s.heap.objs.size := Heap.lt_size e
          have b1 : b ≠ s.heap.objs.size := Nat.ne_of_lt b0
          have b2 : b ≠ (s.heap.push { cls := .type "set", dict := none, data := .set #[] 0 (.fresh 0 0 (!w.params.followText "set-order")) }).objs.size := by rw [eP]; exact Nat.ne_of_lt (Nat.lt_succ_of_lt b0)
          exact mv.heap b o (by simp only [List.mem_cons, List.not_mem_nil, or_false, not_or]; exact ⟨b1, b2⟩) (Heap.get?_push_of_some _ (Heap.get?_push_of_some _ e))
      · cases r₂ with
        | error e => exact hr₂
        | ok fl₂ =>
          cases fl₂ with
          | ret r =>
            obtain ⟨rfl, h', tk, ks, rfl, a1, a2, a3, a4⟩ := hr₂
            repeat (any_goals (first | assumption | wp_step))
            exact h _ _ _ a1 a2 a3 a4
          | _ => exact hr₂.elim
    | _ => exact hr.elim
end
end FD
/-! texts in order; sorted(set(t)) -/
namespace FD
open PySem PySem.Spec L2 PyProof.Rows PySem.W PySem.Froz
def leS (a b : Str) : Bool := !ltCps b.cps.toList a.cps.toList
theorem leS_iff {a b : Str} : leS a b = true ↔ a.cps.toList ≤ b.cps.toList := by
  unfold leS
  rw [ltCps_eq]
  simp
theorem leS_trans {a b c : Str} (h : leS a b = true) (k : leS b c = true) : leS a c = true := leS_iff.mpr (List.le_trans (leS_iff.mp h) (leS_iff.mp k))
theorem leS_total (a b : Str) : (leS a b || leS b a) = true := by
  rw [Bool.or_eq_true, leS_iff, leS_iff]
  exact List.le_total _ _
theorem leS_anti {a b : Str} (h : leS a b = true) (k : leS b a = true) : a = b := by
  have e : a.cps.toList = b.cps.toList := List.le_antisymm (leS_iff.mp h) (leS_iff.mp k)
  obtain ⟨x⟩ := a
  obtain ⟨y⟩ := b
  have e : x.toList = y.toList := e
  rw [Array.toList_inj.mp e]
def Asc (l : List Str) : Prop := l.Pairwise fun a b => leS a b = true
theorem asc_rising : ∀ (l : List Str) (p : Str), risingS p l = true → Asc (p :: l)
  | [], p, _ => List.pairwise_singleton _ _
  | x :: r, p, h => by
    have h' : (!ltCps x.cps.toList p.cps.toList && risingS x r) = true := h
    rw [Bool.and_eq_true] at h'
    have ih := asc_rising r x h'.2
    have px : leS p x = true := h'.1
    refine List.pairwise_cons.mpr ⟨fun y hy => ?_, ih⟩
    rcases List.mem_cons.mp hy with e | hy
    · rw [e]; exact px
    · exact leS_trans px (List.rel_of_pairwise_cons ih hy)
theorem asc_of : ∀ {l : List Str}, sortedS l = true → Asc l
  | [], _ => List.Pairwise.nil
  | x :: r, h => asc_rising r x h
theorem asc_uniq : ∀ {l m : List Str}, Asc l → Asc m → l.Perm m → l = m
  | [], m, _, _, p => (List.Perm.nil_eq p)
  | x :: l, [], _, _, p => by have := p.length_eq; simp at this
  | x :: l, y :: m, h, k, p => by
    have e : x = y := by
      have h1 : x ∈ y :: m := p.mem_iff.mp List.mem_cons_self
      have h2 : y ∈ x :: l := p.mem_iff.mpr List.mem_cons_self
      rcases List.mem_cons.mp h1 with e | h1
      · exact e
      · rcases List.mem_cons.mp h2 with e | h2
        · exact e.symm
        · exact leS_anti (List.rel_of_pairwise_cons h h2) (List.rel_of_pairwise_cons k h1)
    subst e
    rw [asc_uniq (List.pairwise_cons.mp h).2 (List.pairwise_cons.mp k).2 (List.Perm.cons_inv p)]
def sortT (l : List Str) : List Str := l.mergeSort fun a b => leS a b
theorem sortT_perm (l : List Str) : (sortT l).Perm l := List.mergeSort_perm l _
theorem sortT_asc (l : List Str) : Asc (sortT l) := List.pairwise_mergeSort (le := fun a b => leS a b) (fun a b c h k => leS_trans h k) (fun a b => leS_total a b) l
theorem sortT_eq {l m : List Str} (h : sortedS m = true) (p : m.Perm l) : m = sortT l := asc_uniq (asc_of h) (sortT_asc l) (p.trans (sortT_perm l).symm)
theorem sortT_mem {l : List Str} {x : Str} : x ∈ sortT l ↔ x ∈ l := (sortT_perm l).mem_iff
theorem sortT_len (l : List Str) : (sortT l).length = l.length := (sortT_perm l).length_eq
theorem sortT_congr {l m : List Str} (p : l.Perm m) : sortT l = sortT m := asc_uniq (sortT_asc l) (sortT_asc m) ((sortT_perm l).trans (p.trans (sortT_perm m).symm))
/-- each once -/
def onceT : List Str → List Str
  | [] => []
  | x :: r => if x ∈ onceT r then onceT r else x :: onceT r
theorem onceT_mem : ∀ {l : List Str} {x : Str}, x ∈ onceT l ↔ x ∈ l
  | [], x => by simp [onceT]
  | y :: r, x => by
    have ih := onceT_mem (l := r) (x := x)
    unfold onceT
    split
    · rename_i h
      rw [ih, List.mem_cons]
      exact ⟨.inr, fun z => z.elim (fun e => by rw [e]; exact onceT_mem.mp h) id⟩
    · rw [List.mem_cons, List.mem_cons, ih]
theorem onceT_nodup : ∀ l : List Str, (onceT l).Nodup
  | [] => List.nodup_nil
  | y :: r => by
    unfold onceT
    split
    · exact onceT_nodup r
    · rename_i h
      exact List.nodup_cons.mpr ⟨h, onceT_nodup r⟩
theorem perm_of_nodup : ∀ {l m : List Str}, l.Nodup → m.Nodup → (∀ x, x ∈ l ↔ x ∈ m) → l.Perm m
  | [], m, _, _, h => by
    cases m with
    | nil => exact List.Perm.refl _
    | cons y r => exact absurd ((h y).mpr List.mem_cons_self) (by simp)
  | x :: l, m, hl, hm, h => by
    have hx : x ∈ m := (h x).mp List.mem_cons_self
    obtain ⟨hl1, hl2⟩ := List.nodup_cons.mp hl
    refine List.Perm.trans (List.Perm.cons x (perm_of_nodup hl2 (hm.erase x) fun y => ?_)) (List.perm_cons_erase hx).symm
    rw [hm.mem_erase_iff, ← h y, List.mem_cons]
    exact ⟨fun z => ⟨fun e => hl1 (by rw [← e]; exact z), .inr z⟩, fun z => z.2.elim (fun e => absurd e z.1) id⟩
/-- sorted(set(l)) -/
def setT (l : List Str) : List Str := sortT (onceT l)
theorem setT_mem {l : List Str} {x : Str} : x ∈ setT l ↔ x ∈ l := sortT_mem.trans onceT_mem
theorem onceT_len : ∀ l : List Str, (onceT l).length ≤ l.length
  | [] => Nat.le_refl _
  | y :: r => by
    have ih := onceT_len r
    unfold onceT
    split
    · exact Nat.le_succ_of_le ih
    · exact Nat.succ_le_succ ih
theorem setT_len (l : List Str) : (setT l).length ≤ l.length := by
  unfold setT
  rw [sortT_len]
  exact onceT_len l
theorem setT_nodup (l : List Str) : (setT l).Nodup := (sortT_perm _).nodup_iff.mpr (onceT_nodup l)
/-! ### out of the set's table -/
def textOf (v : Value) : Str := match v with
  | .str k _ => k
  | _ => Str.empty
theorem perm_of_len : ∀ {l xs : List Str}, l.Nodup → (∀ x ∈ l, x ∈ xs) → xs.length = l.length → xs.Perm l
  | [], xs, _, _, h => by rw [List.eq_nil_of_length_eq_zero h]
  | x :: l, xs, hl, hs, h => by
    have hx := hs x List.mem_cons_self
    obtain ⟨h1, h2⟩ := List.nodup_cons.mp hl
    refine (List.perm_cons_erase hx).trans (List.Perm.cons x (perm_of_len h2 (fun y hy => ?_) ?_))
    · exact (List.mem_erase_of_ne (fun (e : y = x) => h1 (by rw [← e]; exact hy))).mpr (hs y (List.mem_cons_of_mem _ hy))
    · rw [List.length_erase_of_mem hx, h]; simp
section
variable {P : Program} {w : World} {A : Around} {E : Value → Shared → Prop} {s : Shared}
theorem elem_text {es : List (Int × Value)} (g : ElemsOf (PySem.strKind P w) es) {e : Int × Value} (he : e ∈ es) : ∃ k t, e.2 = .str k t := by
  obtain ⟨⟨k, hk, _⟩, _⟩ := g e he
  have hk : Value.isStrOf k e.2 = true := hk
  cases h : e.2 with
  | str y t => exact ⟨y, t, rfl⟩
  | _ => rw [h] at hk; simp [Value.isStrOf] at hk
theorem tx_perm {T : SD} {l : List Str} (F : TxOk P w T l) (hn : l.Nodup) : (T.1.toList.map fun e => textOf e.2).Perm l := by
  refine perm_of_len hn (fun x hx => ?_) ?_
  · obtain ⟨e, he, q⟩ := (F.mem x).mp hx
    refine List.mem_map.mpr ⟨e, he, ?_⟩
    obtain ⟨k, t, ek⟩ := elem_text F.el he
    have q : Value.isStrOf x e.2 = true := q
    rw [ek] at q ⊢
    simp [Value.isStrOf] at q
    exact q
  · rw [List.length_map, Array.length_toList]; exact F.sz
theorem texts_are : ∀ (l : List Value), (∀ v ∈ l, ∃ k t, v = Value.str k t) → StrsAre l (l.map textOf)
  | [], _ => .nil
  | v :: l, h => by
    obtain ⟨k, t, rfl⟩ := h v List.mem_cons_self
    exact .cons k t (texts_are l fun u hu => h u (List.mem_cons_of_mem _ hu))
theorem sorted_setT {a : Addr} {l : List Str} {Q : Value → Shared → Prop} (x : TxS P w s.heap a l) (hh : A.handled = none) (hb : l.length < scanBound)
    (hQ : ∀ s' p (out : Array Value) (c : Nat), (∀ b o, s.heap.get? b = some o → s'.heap.get? b = some o) → s'.gens = s.gens → s'.os = s.os → s.heap.objs.size ≤ p →
      s'.heap.get? p = some (seqObj "list" out c) → StrsAre out.toList (sortT l) → Q (.ref p) s') :
    wpAny (model P w) A (call (.builtin "sorted") [.ref a]) Q E s := by
  obtain ⟨T, ho, F, hn, hr, hl⟩ := x
  have hsz : T.1.size = l.length := F.sz
  refine Calls.call_function_entry kind_sorted plain_sorted entry_sorted (args_sorted1 _) ?_
  unfold Builtin.«sorted»
  refine wpAny_bind (m := checkCount "sorted" 1 1 _) (wpAny_pure ?_)
  refine wpAny_bind (collect_set (A := A.in1) hh ⟨_, ho, rfl, rfl⟩ F.fit (by omega) hr hl fun s1 vs k1 hz g1 o1 pm => ?_)
  have hvl : vs.length = l.length := by rw [pm.length_eq, List.length_map, Array.length_toList]; exact hsz
  have isT : ∀ v ∈ vs, ∃ k t, v = Value.str k t := fun v hv => by
    obtain ⟨e, he, q⟩ := List.mem_map.mp (pm.mem_iff.mp hv)
    obtain ⟨k, t, ek⟩ := elem_text F.el he
    exact ⟨k, t, by rw [← q, ek]⟩
  have hS := texts_are vs isT
  have pk : (vs.map textOf).Perm l := by
    have q := pm.map textOf
    rw [List.map_map] at q
    exact q.trans (tx_perm F hn)
  have hL : vs.length ≤ sizeLine := by rw [hvl, sizeLine_eq]; have : scanBound = 4096 := rfl; omega
  refine wpAny_bind (wpAny_newList ?_ hL)
  have hoL : (s1.heap.push (seqObj "list" vs.toArray 0)).get? s1.heap.objs.size = some (seqObj "list" vs.toArray 0) := Heap.get?_push_size _ rfl
  refine wpAny_bind (wpAny_holding (wpAny_call_entry slot_list_sort ⟨_, hoL, rfl⟩ entry_list_sort (list_sort_treeKAny strKind_oneLt hoL hS.keysOf (fun v₁ v₂ rest e => keyKind_strs (by rw [← e]; exact hS)) hL fun st' hp hs => ⟨_, rfl, ?_⟩) (args_list_sort _)))
  obtain ⟨ys, a1, a2, a3⟩ := sorted_out_str hS hp hs
  obtain ⟨c, hc⟩ := sortedHeap_at (vs := vs) (out := (arrOf st').map (·.2)) hoL
  refine wpAny_pure ⟨_, rfl, hQ _ s1.heap.objs.size _ c (fun b u e => ?_) g1 o1 hz hc ?_⟩
  · have q := k1 b u e
    have hlt := Heap.lt_size q
    show (sortedHeap (s1.heap.push (seqObj "list" vs.toArray 0)) s1.heap.objs.size vs _).get? b = some u
    rw [sortedHeap_old (Nat.ne_of_lt hlt) (by rw [size_push']; exact Nat.lt_succ_of_lt hlt)]
    exact Heap.get?_push_of_some _ q
  · rw [← sortT_eq a3 (a2.trans pk)]; exact a1
end
/-- sorted(set(t)) -/
def tSSet (K : PySem.W.Frag) (ta : TE) : TE := fun σ H Q => ta σ H fun x H1 => ∃ (l : Addr) (xs : List Str), x = .ref l ∧ SqT K H1 l (xs.map V.str) ∧ xs.length ≤ 4000 ∧ ∀ p, H1 p = none → Q (.ref p) (upd H1 p (.lst ((setT xs).map V.str)))
section
variable {X : Cx}
theorem pe_sset {a : Expr} {ta : TE} {p p2 q pos : Pos} (hc : X.calm = true) (hg : Gl X "sorted") (hm : X.mg "sorted" = none) (hg2 : Gl X "set") (hm2 : X.mg "set" = none) (ha : PE X a ta)
    (na : starEach [a] X.env = (false, eval a X.env) :: starEach [] X.env := by rfl) : PE X (.Call (.Name "sorted" p) [.Call (.Name "set" p2) [a] [] q] [] pos) (tSSet X.K ta) := by
  refine ⟨fun pins s σ H Q I h => ?_⟩
  refine Call_ (ld_blt I hg hm (show _ = some (.builtin "sorted") by decide +kernel) ?_)
  refine PyProof.Rows.callWith_builtin1 (PyProof.Rows.args_cons ?_ rfl) rfl rfl
  refine Call_ (ld_blt I hg2 hm2 boot_set ?_)
  refine PyProof.Rows.callWith_type1 (PyProof.Rows.args_cons (thn (ha.run pins s σ H _ I h) fun v s1 ⟨x, H1, I1, r1, q1⟩ => PyProof.Rows.args_nil ?_) na) na rfl
  obtain ⟨l, xs, rfl, hq, h1, q1⟩ := q1
  cases r1
  obtain ⟨its, r, pl, hz⟩ := I1.tuple hq
  have hb : scanBound = 4096 := rfl
  refine call_setT xs (I1.ok.hd hc) pl (by simpa using strsAre_of r) (by omega) fun h' tk ks hT hm' hl hk => ?_
  refine PyProof.Rows.args_nil ?_
  have I2 : Inv X pins σ H1 { s1 with heap := h', toks := tk } := I1.kept fun b o e => hk b o e
  have nk : ks.Nodup := let ⟨_, _, _, n, _⟩ := hT; n
  have ek : sortT ks = setT xs := sortT_congr (perm_of_nodup nk (onceT_nodup xs) fun y => (hm' y).trans onceT_mem.symm)
  refine sorted_setT hT (I2.ok.hd hc) (by omega) fun s2 p2 out c k2 g2 o2 hp hob hS => ?_
  rw [ek] at hS
  have hlen : ((setT xs).map V.str).length ≤ sizeLine := by rw [List.length_map, sizeLine_eq]; have := setT_len xs; omega
  have hn : H1 p2 = none := I2.hok.fresh hp
  have J : Inv X pins σ (upd H1 p2 (.lst ((setT xs).map V.str))) { ({ s1 with heap := h', toks := tk } : Shared) with heap := s2.heap, gens := s2.gens, drawn := s2.drawn, toks := s2.toks } :=
    I2.call (ch := []) (Un.laid k2 hp hn) (I2.hok.laid k2 hp ⟨hlen, out.toList, c, vals_of_strs hS, hob⟩) (by rw [g2]; exact I2.bare) (fun _ z => nomatch z)
  have e : s2 = { s1 with heap := s2.heap, gens := s2.gens, drawn := s2.drawn, toks := s2.toks } := by
    obtain ⟨x1, x2, x3, x4, x5⟩ := s2
    have o2 : x5 = s1.os := o2
    subst o2
    rfl
  rw [e]
  exact ⟨.ref p2, _, J, rfl, q1 p2 hn⟩
end
end FD
/-! dicts of one's own (keys: texts), promises over objects, dicts walked under a lock -/
namespace FD
open PySem L2 Evl
abbrev Dct := List (Str × PyData)
def kd (l : Dct) : List (Key × PyData) := l.map fun p => (Sum.inr p.1, p.2)
def valD (l : Dct) (k : Str) : Option PyData := (l.find? fun p => decide (p.1 = k)).map (·.2)
theorem valD_cons (p : Str × PyData) (r : Dct) (k : Str) : valD (p :: r) k = if p.1 = k then some p.2 else valD r k := by
  unfold valD
  rw [List.find?_cons]
  by_cases h : p.1 = k
  · rw [decide_eq_true h, if_pos h]; rfl
  · rw [decide_eq_false h, if_neg h]
theorem valD_at {l : Dct} {p : Str × PyData} (hn : (l.map (·.1)).Nodup) (h : p ∈ l) : valD l p.1 = some p.2 := by
  induction l with
  | nil => cases h
  | cons q r ih =>
    rw [valD_cons]
    rw [List.map_cons, List.nodup_cons] at hn
    rcases List.mem_cons.mp h with e | h
    · rw [← e, if_pos rfl]
    · rw [if_neg (fun e => hn.1 (by rw [e]; exact List.mem_map.mpr ⟨p, h, rfl⟩))]
      exact ih hn.2 h
theorem pairs_app {α β : Type} {F : α → β → Prop} {as as' : List α} {bs bs' : List β} (h : Paired F as bs) (k : Paired F as' bs') : Paired F (as ++ as') (bs ++ bs') := by
  induction h with
  | nil => exact k
  | cons r _ ih => exact .cons r ih
abbrev DcOk (K : PySem.W.Frag) (Hh : Hp) (ws : List (Key × V)) (kvs : List (Key × PyData)) : Prop := Paired (fun (p : Key × V) (q : Key × PyData) => p.1 = q.1 ∧ DvOk K Hh p.2 q.2) ws kvs
section
variable {K : PySem.W.Frag} {Hh : Hp}
theorem dc_val : ∀ {l : Dct} {ws : List (Key × V)} {k : Str} {d : PyData}, DcOk K Hh ws (kd l) → valD l k = some d → ∃ v, valV ws (.inr k) = some v ∧ DvOk K Hh v d
  | [], ws, k, d, _, h => by cases h
  | p :: r, ws, k, d, c, h => by
    cases c with
    | @cons w _ ws _ h1 c =>
      obtain ⟨e1, e2⟩ := h1
      have e1 : w.1 = Sum.inr p.1 := e1
      rw [valD_cons] at h
      by_cases e : p.1 = k
      · rw [if_pos e] at h
        cases h
        refine ⟨w.2, ?_, e2⟩
        rw [valV_pos (by rw [e1, e])]
      · rw [if_neg e] at h
        obtain ⟨v, q1, q2⟩ := dc_val c h
        exact ⟨v, by rw [valV_neg (fun z => e (Sum.inr.inj (e1.symm.trans z)))]; exact q1, q2⟩
theorem dc_keys : ∀ {l : Dct} {ws : List (Key × V)}, DcOk K Hh ws (kd l) → ws.map (·.1) = (l.map (·.1)).map Sum.inr
  | [], _, .nil => rfl
  | p :: r, _, .cons h c => by rw [List.map_cons, dc_keys (l := r) c, h.1]; rfl
theorem dc_get : ∀ {l : Dct} {ws : List (Key × V)} {i : Nat} {k : Key} {v : V}, DcOk K Hh ws (kd l) → ws[i]? = some (k, v) → ∃ p, l[i]? = some p ∧ k = Sum.inr p.1
  | [], _, i, k, v, .nil, h => by cases h
  | p :: r, _, 0, k, v, .cons h c, e => by
    simp at e
    subst e
    exact ⟨p, rfl, h.1⟩
  | p :: r, _, i + 1, k, v, .cons h c, e => by
    obtain ⟨q, e1, e2⟩ := dc_get (l := r) (i := i) c (by simpa using e)
    exact ⟨q, by simpa using e1, e2⟩
theorem dc_len {l : Dct} {ws : List (Key × V)} (c : DcOk K Hh ws (kd l)) : ws.length = l.length := by
  have := congrArg List.length (dc_keys c)
  rw [List.length_map, List.length_map, List.length_map] at this
  exact this
theorem dc_snoc {l : Dct} {ws : List (Key × V)} {k : Str} {v : V} {d : PyData} (c : DcOk K Hh ws (kd l)) (hk : k ∉ l.map (·.1)) (h : DvOk K Hh v d) : DcOk K Hh (putK ws (.inr k) v) (kd (l ++ [(k, d)])) := by
  have e : (ws.any fun kv => decide (kv.1 = (Sum.inr k : Key))) = false := by
    rw [List.any_eq_false]
    intro p hp
    rw [decide_eq_true_eq]
    intro z
    have : p.1 ∈ ws.map (·.1) := List.mem_map.mpr ⟨p, hp, rfl⟩
    rw [dc_keys c, z] at this
    obtain ⟨y, hy, q⟩ := List.mem_map.mp this
    cases q
    exact hk hy
  unfold putK
  rw [e, if_neg Bool.false_ne_true]
  unfold kd
  rw [List.map_append]
  exact pairs_app c (.cons ⟨rfl, h⟩ .nil)
end
def IsDct (mo : MO) (l : Dct) : Prop := mo = .dK (kd l) ∨ ∃ od ws, mo = .fz od ws (kd l)
theorem dct_rd {K : PySem.W.Frag} {Hh H : Hp} {a : Addr} {mo : MO} {l : Dct} (h : MOok K Hh H a mo) (hd : IsDct mo l) : ∃ ws, Rd H a (.dK ws) ∧ DcOk K Hh ws (kd l) := by
  rcases hd with rfl | ⟨od, ws, rfl⟩
  · obtain ⟨ws, e, c⟩ := h
    exact ⟨ws, .inl e, c⟩
  · obtain ⟨e, c⟩ := h
    exact ⟨ws, .inr ⟨od, e⟩, c⟩
theorem DpAll.strs {K : PySem.W.Frag} {H : Hp} : ∀ {vs : List V} {ns : List Str}, DpAll K H vs (ns.map PyData.str) → vs = ns.map V.str
  | vs, [], h => by cases h; rfl
  | vs, n :: ns, h => by
    cases h with
    | cons h1 h2 =>
      cases h1
      rw [DpAll.strs h2]
      rfl
theorem dp_strs {K : PySem.W.Frag} {H : Hp} : ∀ ns : List Str, DpAll K H (ns.map V.str) (ns.map PyData.str)
  | [] => .nil
  | n :: ns => .cons (.str n) (dp_strs ns)
section
variable {C : Cfg} {M : List Addr} {δ : List Ent} {μ μ1 μ2 μ3 : Mem} {ta tb te td ty : TE} {a b : Addr} {mo : MO} {l : Dct} {k : Str} {d : PyData} {e : Ent} {tr : TA} {D : Ends} {t2 : TS} {i j : Nat}
/-! ### what is read of a dict -/
theorem x_dget (hx : EvX C td M δ μ μ1 (.m a)) (hk : EvX C ty M δ μ1 μ2 (.d (.str k))) (hm : (a, mo) ∈ μ2) (hd : IsDct mo l) (hv : valD l k = some d) : EvX C (tDGet td ty) M δ μ μ2 (.d d) := fun σ H o Q kk =>
  hx σ H o _ fun x H1 o1 x1 r1 => hk σ H1 o1 _ fun y H2 o2 x2 r2 => by
    have e1 : x = .ref a := r1
    have e2 : y = .str k := Dp.str_of r2
    obtain ⟨ws, rd, dc⟩ := dct_rd (o2.mem _ hm).2.2 hd
    obtain ⟨v, e3, e4⟩ := dc_val dc hv
    exact ⟨a, v, e1, .inl ⟨ws, .inr k, rd, e2, e3.symm⟩, kk v H2 o2 (x1.trans x2) e4⟩
abbrev rSortedDc : List V → Hp → VK → Prop := fun xs H Q => ∃ (a : Addr) (kvs : List (Key × V)) (ks : List Str), xs = [.ref a] ∧ Rd H a (.dK kvs) ∧ kvs.map (·.1) = ks.map Sum.inr ∧ ks.length < 64 ∧ ∀ ys p, ys.Perm ks → PyProof.Rows.sortedS ys = true → H p = none → Q (.ref p) (upd H p (.lst (ys.map V.str)))
theorem c_sortedD (hm : (a, mo) ∈ μ) (hd : IsDct mo l) (hl : l.length < 64) : CallX C rSortedDc M δ μ μ [.m a] (.d (.list ((sortT (l.map (·.1))).map .str))) := fun σ H vs o h Q kk => by
  obtain ⟨v, rfl, q⟩ := p1 h
  have e1 : v = .ref a := q
  obtain ⟨ws, rd, dc⟩ := dct_rd (o.mem _ hm).2.2 hd
  refine ⟨a, ws, l.map (·.1), by rw [e1], rd, dc_keys dc, by rw [List.length_map]; exact hl, fun ys p hp hs hn => ?_⟩
  rw [sortT_eq hs hp]
  obtain ⟨o', x', d'⟩ := o.lst hn (dp_strs (K := C.K) (H := hide M H) (sortT (l.map (·.1))))
  exact kk _ _ o' x' d'
abbrev rListDc : List V → Hp → VK → Prop := fun xs H Q => ∃ (a : Addr) (kvs : List (Key × V)), xs = [.ref a] ∧ Rd H a (.dK kvs) ∧ ∀ p, H p = none → Q (.ref p) (upd H p (.lst (kvs.map fun kv => kV kv.1)))
theorem c_listD (hm : (a, mo) ∈ μ) (hd : IsDct mo l) : CallX C rListDc M δ μ μ [.m a] (.d (.list ((l.map (·.1)).map .str))) := fun σ H vs o h Q kk => by
  obtain ⟨v, rfl, q⟩ := p1 h
  have e1 : v = .ref a := q
  obtain ⟨ws, rd, dc⟩ := dct_rd (o.mem _ hm).2.2 hd
  refine ⟨a, ws, by rw [e1], rd, fun p hn => ?_⟩
  have e : (ws.map fun kv => kV kv.1) = (l.map (·.1)).map V.str := by
    have q := congrArg (List.map kV) (dc_keys dc)
    rw [List.map_map, List.map_map] at q
    exact q
  rw [e]
  obtain ⟨o', x', d'⟩ := o.lst hn (dp_strs (K := C.K) (H := hide M H) (l.map (·.1)))
  exact kk _ _ o' x' d'
theorem c_sortedS {zs : List Str} (r : Rdd μ e (.list (zs.map .str))) (hl : zs.length < 64) : CallX C (rSortedS C.K) M δ μ μ [e] (.d (.list ((sortT zs).map .str))) := fun σ H vs o h Q kk => by
  obtain ⟨v, rfl, q⟩ := p1 h
  obtain ⟨a, ws, q1, q2, q3⟩ := r.lst o q
  refine ⟨a, zs, by rw [q1], (DpAll.strs q3) ▸ q2, hl, fun ys p hp hs hn => ?_⟩
  rw [sortT_eq hs hp]
  obtain ⟨o', x', d'⟩ := o.lst hn (dp_strs (K := C.K) (H := hide M H) (sortT zs))
  exact kk _ _ o' x' d'
theorem x_sset {zs : List Str} (h : EvX C ta M δ μ μ1 (.d (.tuple (zs.map .str)))) (hl : zs.length ≤ 4000) : EvX C (tSSet C.K ta) M δ μ μ1 (.d (.list ((setT zs).map .str))) := fun σ H o Q kk =>
  h σ H o _ fun v H1 o1 x1 r1 => by
    obtain ⟨p, vs, e1, e2, e3⟩ := Dp.tup_of r1
    refine ⟨p, zs, e1, (DpAll.strs e3) ▸ ex_t hide_le e2, hl, fun q hn => ?_⟩
    obtain ⟨o', x', d'⟩ := o1.lst hn (dp_strs (K := C.K) (H := hide M H1) (setT zs))
    exact kk _ _ o' (x1.trans x') d'
/-! ### what is written -/
theorem r_newD (k : ∀ p, p ∉ M → Nx C D (p :: M) (δ.set i (.m p)) ((p, .dK (kd [])) :: μ)) : Run C (tAsg tDNewK (gName i)) D M δ μ := fun σ H o p hp => by
  have o2 := o.new hp (mo := .dK (kd [])) (ho := .dK []) ⟨[], upd_same, .nil⟩
  exact k p (o.fresh hp) _ _ (o2.set i (e := .m p) rfl)
theorem q_newD (k : ∀ p, p ∉ M → Run C t2 D (p :: M) (δ.set i (.m p)) ((p, .dK (kd [])) :: μ)) : Run C (tSeq (tAsg tDNewK (gName i)) t2) D M δ μ := r_newD (D := { D with nx := t2 D }) k
/-- x[k] = e, k new -/
theorem r_dput (h : EvX C te M δ μ μ1 (.d d)) (hx : EvX C ta M δ μ1 μ2 (.m a)) (hi : EvX C tb M δ μ2 μ3 (.d (.str k))) (hj : μ3[j]? = some (a, .dK (kd l))) (hk : k ∉ l.map (·.1)) (hl : l.length < 1000) (kk : Nx C D M δ (μ3.set j (a, .dK (kd (l ++ [(k, d)]))))) :
    Run C (tAsg te (gSub ta tb rSetD)) D M δ μ := fun σ H o => h σ H o _ fun v H1 o1 x1 r1 => hx σ H1 o1 _ fun w H2 o2 x2 r2 => hi σ H2 o2 _ fun z H3 o3 x3 r3 => by
  have e1 : w = .ref a := r2
  have e2 : z = .str k := Dp.str_of r3
  obtain ⟨_, _, ws, q3, q4⟩ := o3.mem _ (List.mem_of_getElem? hj)
  show ∃ a' H', w = .ref a' ∧ DPut H3 a' z v H' ∧ D.nx σ H'
  refine ⟨a, _, e1, .inl ⟨ws, .inr k, q3, e2, sz_lt (by rw [dc_len q4]; omega), rfl⟩, ?_⟩
  exact kk _ _ (o3.write hj ⟨_, upd_same, dc_snoc q4 hk (EntOk.mono (e := .d d) (x2.trans x3) r1)⟩)
/-- x = dict(y) -/
abbrev rDictDc : List V → Hp → VK → Prop := fun xs H Q => ∃ (a : Addr) (kvs : List (Key × V)), xs = [.ref a] ∧ Rd H a (.dK kvs) ∧ ∀ p, H p = none → Q (.ref p) (upd H p (.dK kvs))
theorem q_copyD (h : EvA C tr M δ μ μ1 [.m a]) (hm : (a, mo) ∈ μ1) (hd : IsDct mo l) (k : ∀ p, p ∉ M → Run C t2 D (p :: M) (δ.set i (.m p)) ((p, .dK (kd l)) :: μ1)) : Run C (tSeq (tAsg (tCB rDictDc tr) (gName i)) t2) D M δ μ := fun σ H o => h σ H o _ fun vs H1 o1 x1 r1 => by
  obtain ⟨v, rfl, q⟩ := p1 r1
  have e1 : v = .ref a := q
  obtain ⟨ws, rd, dc⟩ := dct_rd (o1.mem _ hm).2.2 hd
  refine ⟨a, ws, by rw [e1], rd, fun p hp => ?_⟩
  have o2 := o1.new hp (mo := .dK (kd l)) (ho := .dK ws) ⟨ws, upd_same, Paired.mapP dc fun p q z => ⟨z.1, z.2.mono (hide_new hp)⟩⟩
  exact k p (o1.fresh hp) _ _ (o2.set i (e := .m p) rfl)
theorem q_clear (hx : EvX C ta M δ μ μ1 (.m a)) (hj : μ1[j]? = some (a, .dK (kd l))) (k : Run C t2 D M δ (μ1.set j (a, .dK (kd [])))) : Run C (tSeq (tDrop (tBM0 C.K "dict" rDClear ta)) t2) D M δ μ := fun σ H o => hx σ H o _ fun v H1 o1 x1 r1 => by
  have e1 : v = .ref a := r1
  subst e1
  obtain ⟨_, _, ws, q3, q4⟩ := o1.mem _ (List.mem_of_getElem? hj)
  exact ⟨.inr (.inr (.inl ⟨rfl, .inl ⟨_, q3⟩⟩)), a, ws, rfl, rfl, q3, k _ _ (o1.write hj ⟨_, upd_same, .nil⟩)⟩
end
/-! ### two dicts compared -/
def rNeDK (K : PySem.W.Frag) : R2 := fun x y H Q => ∃ (a b : Addr) (ks ls : List (Key × V)) (l : Dct), x = .ref a ∧ y = .ref b ∧ H a = some (.dK ks) ∧ H b = some (.dK ls) ∧ DcOk K H ks (kd l) ∧ DcOk K H ls (kd l) ∧ (l.map (·.1)).Nodup ∧ (∀ p ∈ l, SeqAt.shaped p.2 = true) ∧ Q (.bl false) H
section
variable {X : Cx}
theorem dk_hits {pins : List (Addr × Obj)} {σ : L2.St} {H : Hp} {s : Shared} (I : Inv X pins σ H s) (hu : X.A.in1.units + 64 < cLine) {kb : List (Key × Value)} :
    ∀ {l : Dct} {ks : List (Key × V)} {ka : List (Key × Value)}, DcOk X.K H ks (kd l) → KV ks ka → (∀ p ∈ l, SeqAt.shaped p.2 = true) → (∀ p ∈ l, ∃ y as, valueAt kb (Sum.inr p.1) = some y ∧ PySem.Reads s.heap y p.2 as) → PySem.W.KeqHits X.A.in1 s kb ka true
  | [], _, _, .nil, .nil, _, _ => .nil
  | p :: r, _, _, .cons h c, .cons (b := q) g t, hs, hb => by
    obtain ⟨y, bs, e1, e2⟩ := hb p List.mem_cons_self
    obtain ⟨as, e3⟩ := Dp.reads I _ _ _ h.2.w g.2
    have hp := hs p List.mem_cons_self
    have e3 : PySem.Reads s.heap q.2 p.2 as := e3
    have E := PySem.W.keq_at (A := X.A) e3 e2 hp hp hu
    have : PyData.eqv p.2 p.2 = true := SeqAt.eqv_refl _ (SeqAt.canLay_of_shaped hp)
    have E : SeqAt.EqAt X.A.in1 s q.2 y true := by rw [← this]; exact E
    have k1 : q.1 = (Sum.inr p.1 : Key) := g.1.symm.trans h.1
    obtain ⟨q1, q2⟩ := q
    have k1 : q1 = (Sum.inr p.1 : Key) := k1
    subst k1
    exact .hit (e := true) (b := true) e1 E (dk_hits I hu (l := r) c t (fun p hp => hs p (List.mem_cons_of_mem _ hp)) fun p hp => hb p (List.mem_cons_of_mem _ hp))
theorem op_neDK (hu : X.A.units + 65 < cLine) : OpR X (compareOp .NotEq) (rNeDK X.K) := by
  intro pins s σ H x y v u Q I rx ry h
  obtain ⟨a, b, ks, ls, l, rfl, rfl, ea, eb, ca, cb, hn, hs, q⟩ := h
  obtain rfl : v = Value.ref a := rx
  obtain rfl : u = Value.ref b := ry
  obtain ⟨_, ya, va, ra, da⟩ := (show ObjOk X.prog X.w H s.heap a (.dK ks) from I.hok a _ ea)
  obtain ⟨_, yb, vb, rb, db⟩ := (show ObjOk X.prog X.w H s.heap b (.dK ls) from I.hok b _ eb)
  have hl : va.length = vb.length := by rw [← ra.length, ← rb.length, dc_len ca, dc_len cb]
  have hu1 : X.A.in1.units + 64 < cLine := by show X.A.units + 1 + 64 < cLine; omega
  refine PySem.W.keq_ne (knd := mixKind X.prog X.w) (r := true) ya yb da db (by omega) (fun _ => dk_hits I hu1 ca ra hs fun p hp => ?_) (fin_bl I q (by simp [hl]))
  obtain ⟨v, e1, e2⟩ := dc_val cb (valD_at hn hp)
  have r := rb.val (Sum.inr p.1)
  rw [e1] at r
  cases z : valueAt vb (Sum.inr p.1) with
  | none => rw [z] at r; exact (show False from r).elim
  | some y =>
    rw [z] at r
    obtain ⟨as, e3⟩ := Dp.reads I _ _ _ e2.w r
    exact ⟨y, as, rfl, e3⟩
end
end FD
/-! promises over objects of one's own; dicts walked under a lock -/
namespace FD
open PySem L2 Evl
abbrev ad (μ : Mem) : List Addr := μ.map (·.1)
def spE (K : PySem.W.Frag) (n : Nat) (R : List Ent → Mem → PyData → Mem → Prop) : Sp := fun vs H Q _ => vs.length = n ∧ ∃ M es μ d μ', (∀ a ∈ M, H a ≠ none) ∧ Paired (EntOk K (hide M H)) es vs ∧ (∀ p ∈ μ, p.1 ∈ M ∧ MOok K (hide M H) H p.1 p.2) ∧ (ad μ).Nodup ∧ ad μ' = ad μ ∧ R es μ d μ' ∧
  ∀ v H', Ex (hide (ad μ) H) H' → (∀ p ∈ μ', MOok K (hide M H') H' p.1 p.2) → Dp K (hide M H') v d → Q v H'
def spEN (K : PySem.W.Frag) (n : Nat) (R : List Ent → Mem → MO → Mem → Prop) : Sp := fun vs H Q _ => vs.length = n ∧ ∃ M es μ mo μ', (∀ a ∈ M, H a ≠ none) ∧ Paired (EntOk K (hide M H)) es vs ∧ (∀ p ∈ μ, p.1 ∈ M ∧ MOok K (hide M H) H p.1 p.2) ∧ (ad μ).Nodup ∧ ad μ' = ad μ ∧ R es μ mo μ' ∧
  ∀ p H', H p = none → Ex (hide (ad μ) H) H' → MOok K (hide (p :: M) H') H' p mo → (∀ q ∈ μ', MOok K (hide (p :: M) H') H' q.1 q.2) → Q (.ref p) H'
def FinE (C : Cfg) (D : Ends) (d : PyData) (μ' : Mem) : Prop := ∀ v M' H, Ex C.G H → (∀ a ∈ C.M0, a ∈ M') → (∀ p ∈ μ', MOok C.K (hide M' H) H p.1 p.2) → Dp C.K (hide M' H) v d → D.rt v H
def FinEN (C : Cfg) (D : Ends) (mo : MO) (μ' : Mem) : Prop := ∀ p M' H, C.G p = none → p ∉ C.M0 → Ex C.G H → (∀ a ∈ C.M0, a ∈ M') → p ∈ M' → MOok C.K (hide M' H) H p mo → (∀ q ∈ μ', MOok C.K (hide M' H) H q.1 q.2) → D.rt (.ref p) H
theorem ok_startE {K : PySem.W.Frag} {H : Hp} {N : List Str} {M : List Addr} {vs : List V} {es : List Ent} {μ : Mem} (al : ∀ a ∈ M, H a ≠ none) (h : Paired (EntOk K (hide M H)) es vs) (hm : ∀ p ∈ μ, p.1 ∈ M ∧ MOok K (hide M H) H p.1 p.2) (nd : (ad μ).Nodup) (hN : vs.length ≤ N.length) :
    Ok ⟨K, M, hide (ad μ) H, hide M H⟩ M (startE N.length es.length es) μ (L2.start N vs) H where
  len := start_len (paired_len h) hN
  slot := fun i e h1 h2 => start_slot h i e h1 h2
  mem := fun p hp => ⟨(hm p hp).1, hide_in (List.mem_map.mpr ⟨p, hp, rfl⟩) (hm p hp).2.nt, (hm p hp).2⟩
  nd := nd
  alloc := al
  sub := fun _ ha => ha
  gr := hide_le
  base := Ex.refl _
section
variable {P : Program} {w : World} {K : PySem.W.Frag} {mg : Str → Option Value} {base : Heap}
theorem def_E {x qual : Str} {st : Stmt} {f : Addr} {fd : FuncData} {N ps : List Str} {k n : Nat} {R : List Ent → Mem → PyData → Mem → Prop} (F : Fun K x qual st f fd) (S : FnScope N ps (defScope st)) (hN : ps.length ≤ N.length) (hp : ps.length = n)
    (h : ∀ (cdv : Value) (A : Around) (outer : List Env) (s : Shared) (H : Hp) (E : XK), Room k (A.deeper (PyProof.Rows.envOfC qual (defScope st) s.heap.objs.size f cdv)) →
      ∃ t, PSs (cxOf CX0 P w K mg base N qual (defScope st) f cdv A outer s H E).nox (defBody st) t ∧
        ∀ (M : List Addr) (G B : Hp) (es : List Ent) (μ : Mem) (d : PyData) (μ' : Mem), R es μ d μ' → ∀ D : Ends, FinE ⟨K, M, G, B⟩ D d μ' → Run ⟨K, M, G, B⟩ t D M (startE N.length es.length es) μ) :
    FnOk P w K mg base CX0 (k + 1) f fd ps (spE K n R) := by
  refine F.ok S (fun vs H Q E hs => hs.1.trans hp.symm) fun cdv A outer s H vs Q E hr hs => ?_
  obtain ⟨hn, M, es, μ, d, μ', al, he, hm, nd, had, hR, kk⟩ := hs
  obtain ⟨t, ht, run⟩ := h cdv A outer s H E hr
  refine ⟨t, ht, run M (hide (ad μ) H) (hide M H) es μ d μ' hR _ (fun v M' H' e s m r => kk v H' e (fun p hp => (m p hp).mono (hide_sub s) fun _ q => q) (dp_mono (hide_sub s) _ _ r)) _ _ (ok_startE al he hm nd (by rw [hn, ← hp]; exact hN))⟩
theorem def_EN {x qual : Str} {st : Stmt} {f : Addr} {fd : FuncData} {N ps : List Str} {k n : Nat} {R : List Ent → Mem → MO → Mem → Prop} (F : Fun K x qual st f fd) (S : FnScope N ps (defScope st)) (hN : ps.length ≤ N.length) (hp : ps.length = n)
    (h : ∀ (cdv : Value) (A : Around) (outer : List Env) (s : Shared) (H : Hp) (E : XK), Room k (A.deeper (PyProof.Rows.envOfC qual (defScope st) s.heap.objs.size f cdv)) →
      ∃ t, PSs (cxOf CX0 P w K mg base N qual (defScope st) f cdv A outer s H E).nox (defBody st) t ∧
        ∀ (M : List Addr) (G B : Hp) (es : List Ent) (μ : Mem) (mo : MO) (μ' : Mem), R es μ mo μ' → ∀ D : Ends, FinEN ⟨K, M, G, B⟩ D mo μ' → Run ⟨K, M, G, B⟩ t D M (startE N.length es.length es) μ) :
    FnOk P w K mg base CX0 (k + 1) f fd ps (spEN K n R) := by
  refine F.ok S (fun vs H Q E hs => hs.1.trans hp.symm) fun cdv A outer s H vs Q E hr hs => ?_
  obtain ⟨hn, M, es, μ, mo, μ', al, he, hm, nd, had, hR, kk⟩ := hs
  obtain ⟨t, ht, run⟩ := h cdv A outer s H E hr
  refine ⟨t, ht, run M (hide (ad μ) H) (hide M H) es μ mo μ' hR _ (fun p M' H' g pM e s pm m mm => ?_) _ _ (ok_startE al he hm nd (by rw [hn, ← hp]; exact hN))⟩
  have sub : ∀ a ∈ p :: M, a ∈ M' := fun a ha => (List.mem_cons.mp ha).elim (fun z => by rw [z]; exact pm) (s a)
  have hp0 : H p = none := by
    have : hide (ad μ) H p = none := g
    rw [hide_out (fun z => ?_)] at this
    · exact this
    · obtain ⟨q, hq, e⟩ := List.mem_map.mp z
      exact pM (by have := (hm q hq).1; rw [e] at this; exact this)
  exact kk p H' hp0 e (m.mono (hide_sub sub) fun _ q => q) (fun q hq => (mm q hq).mono (hide_sub sub) fun _ q => q)
end
section
variable {C : Cfg} {M : List Addr} {δ : List Ent} {μ μ0 μ0' μ1 μ2 μ' : Mem} {σ : L2.St} {H1 H2 : Hp} {tr : TA} {te ta : TE} {D : Ends} {t2 : TS} {i j : Nat} {a : Addr} {mo : MO} {es : List Ent} {d : PyData} {n : Nat}
/-- the objects that a call was handed, as it leaves them -/
structure Swap (μ0 μ0' μ1 μ2 : Mem) : Prop where
  sub : ∀ p ∈ μ0, p ∈ μ1
  ad0 : ad μ0' = ad μ0
  ad1 : ad μ2 = ad μ1
  new : ∀ p ∈ μ2, p ∈ μ0' ∨ (p ∈ μ1 ∧ p.1 ∉ ad μ0)
theorem after_E (o : Ok C M δ μ1 σ H1) (w : Swap μ0 μ0' μ1 μ2) (e : Ex (hide (ad μ0) H1) H2) (hm : ∀ p ∈ μ0', MOok C.K (hide M H2) H2 p.1 p.2) : Ok C M δ μ2 σ H2 ∧ Ex (hide M H1) (hide M H2) := by
  have inM : ∀ b ∈ ad μ0, b ∈ M ∧ C.G b = none := fun b hb => by
    obtain ⟨q, hq, z⟩ := List.mem_map.mp hb
    have := o.mem q (w.sub q hq)
    rw [z] at this
    exact ⟨this.1, this.2.1⟩
  have kp : ∀ b u, b ∉ ad μ0 → H1 b = some u → H2 b = some u := fun b u ne q => e b u (by rw [hide_out ne]; exact q)
  have x : Ex (hide M H1) (hide M H2) := fun b u z => by
    obtain ⟨q, z⟩ := hide_some z
    exact hide_mk (e b u (hide_mk z fun y => q (inM b y).1)) q
  refine ⟨⟨o.len, fun i y h1 h2 => let ⟨v, a, c⟩ := o.slot i y h1 h2; ⟨v, a, c.mono x⟩, fun p hp => ?_, by rw [show μ2.map (·.1) = μ1.map (·.1) from w.ad1]; exact o.nd, fun b hb => ?_, o.sub, fun b u z => ?_, o.base.trans x⟩, x⟩
  · rcases w.new p hp with h0 | ⟨h1, h2⟩
    · have : p.1 ∈ ad μ0 := by rw [← w.ad0]; exact List.mem_map.mpr ⟨p, h0, rfl⟩
      exact ⟨(inM _ this).1, (inM _ this).2, hm p h0⟩
    · obtain ⟨b1, b2, b3⟩ := o.mem p h1
      exact ⟨b1, b2, b3.mono x fun u z => kp _ u h2 z⟩
  · by_cases q : b ∈ ad μ0
    · rw [← w.ad0] at q
      obtain ⟨p, hp, z⟩ := List.mem_map.mp q
      have := (hm p hp).there
      rw [z] at this; exact this
    · cases z : H1 b with
      | none => exact absurd z (o.alloc b hb)
      | some u => rw [kp b u q z]; exact fun z => nomatch z
  · exact kp b u (fun q => by have := (inM b q).2; rw [z] at this; cases this) (o.gr b u z)
theorem x_callE {R : List Ent → Mem → PyData → Mem → Prop} {E : XK} (h : EvA C tr M δ μ μ1 es) (w : Swap μ0 μ0' μ1 μ2) (nd : (ad μ0).Nodup) (hR : R es μ0 d μ0') (hn : es.length = n := by rfl) : EvX C (tCall (spE C.K n R) [] E tr) M δ μ μ2 (.d d) := fun σ H o Q k =>
  h σ H o _ fun vs H1 o1 x1 r1 => by
    rw [List.append_nil]
    refine ⟨by rw [← paired_len r1]; exact hn, M, es, μ0, d, μ0', o1.alloc, r1, fun p hp => let q := o1.mem p (w.sub p hp); ⟨q.1, q.2.2⟩, nd, w.ad0, hR, fun v H2 e2 m2 d2 => ?_⟩
    obtain ⟨o2, x2⟩ := after_E o1 w e2 m2
    exact k v H2 o2 (x1.trans x2) d2
theorem swap_same (hj : (a, mo) ∈ μ) (nd : (ad μ).Nodup) : Swap [(a, mo)] [(a, mo)] μ μ where
  sub := fun p hp => by rw [List.mem_singleton.mp hp]; exact hj
  ad0 := rfl
  ad1 := rfl
  new := fun p hp => by
    by_cases e : p.1 = a
    · left
      obtain ⟨i, hi⟩ := List.getElem?_of_mem hp
      obtain ⟨k, hk⟩ := List.getElem?_of_mem hj
      obtain ⟨x, y⟩ := p
      have e : x = a := e
      subst e
      have := nodup_fst nd hi hk
      subst this
      rw [hi] at hk
      rw [Option.some.inj hk]; simp
    · exact .inr ⟨hp, by simpa using e⟩
/-- one object, read alone -/
theorem x_callE1 {R : List Ent → Mem → PyData → Mem → Prop} {E : XK} (h : EvA C tr M δ μ μ1 es) (hj : (a, mo) ∈ μ1) (hR : R es [(a, mo)] d [(a, mo)]) (hn : es.length = n := by rfl) : EvX C (tCall (spE C.K n R) [] E tr) M δ μ μ1 (.d d) := fun σ H o Q k =>
  h σ H o _ fun vs H1 o1 x1 r1 => by
    rw [List.append_nil]
    refine ⟨by rw [← paired_len r1]; exact hn, M, es, [(a, mo)], d, [(a, mo)], o1.alloc, r1, fun p hp => ?_, by simp, rfl, hR, fun v H2 e2 m2 d2 => ?_⟩
    · rw [List.mem_singleton.mp hp]
      let q := o1.mem _ hj; exact ⟨q.1, q.2.2⟩
    obtain ⟨o2, x2⟩ := after_E o1 (swap_same hj o1.nd) e2 m2
    exact k v H2 o2 (x1.trans x2) d2
theorem ok_newE {G : Mem} (o : Ok C M δ μ1 σ H1) {p : Addr} (w : Swap μ0 μ0' μ1 μ2) (hp : H1 p = none) (e : Ex (hide (ad μ0) H1) H2) (hmo : MOok C.K (hide (p :: M) H2) H2 p mo) (hm : ∀ q ∈ μ0', MOok C.K (hide (p :: M) H2) H2 q.1 q.2) : p ∉ M ∧ Ok C (p :: M) δ ((p, mo) :: μ2) σ H2 := by
  have pM := o.fresh hp
  have inM : ∀ b ∈ ad μ0, b ∈ M ∧ C.G b = none := fun b hb => by
    obtain ⟨q, hq, z⟩ := List.mem_map.mp hb
    have := o.mem q (w.sub q hq)
    rw [z] at this
    exact ⟨this.1, this.2.1⟩
  have kp : ∀ b u, b ∉ ad μ0 → H1 b = some u → H2 b = some u := fun b u ne q => e b u (by rw [hide_out ne]; exact q)
  have x : Ex (hide M H1) (hide (p :: M) H2) := fun b u z => by
    obtain ⟨q, z⟩ := hide_some z
    have ne : b ≠ p := ne_of_none z hp
    exact hide_mk (e b u (hide_mk z fun y => q (inM b y).1)) fun y => (List.mem_cons.mp y).elim (fun y => absurd y ne) q
  refine ⟨pM, ⟨o.len, fun i y h1 h2 => let ⟨v, a, c⟩ := o.slot i y h1 h2; ⟨v, a, c.mono x⟩, fun q hq => ?_, ?_, fun b hb => ?_, fun b hb => List.mem_cons_of_mem _ (o.sub b hb), fun b u z => ?_, o.base.trans x⟩⟩
  · rcases List.mem_cons.mp hq with z | hq
    · subst z
      refine ⟨List.mem_cons_self, ?_, hmo⟩
      cases z : C.G p with
      | none => rfl
      | some u => have := o.gr p u z; rw [hp] at this; cases this
    · rcases w.new q hq with h0 | ⟨h1, h2⟩
      · have : q.1 ∈ ad μ0 := by rw [← w.ad0]; exact List.mem_map.mpr ⟨q, h0, rfl⟩
        exact ⟨List.mem_cons_of_mem _ (inM _ this).1, (inM _ this).2, hm q h0⟩
      · obtain ⟨b1, b2, b3⟩ := o.mem q h1
        exact ⟨List.mem_cons_of_mem _ b1, b2, b3.mono x fun u z => kp _ u h2 z⟩
  · rw [List.map_cons, List.nodup_cons, show μ2.map (·.1) = μ1.map (·.1) from w.ad1]
    refine ⟨fun z => ?_, o.nd⟩
    obtain ⟨q, hq, z⟩ := List.mem_map.mp z
    have := (o.mem q hq).1
    rw [z] at this
    exact pM this
  · rcases List.mem_cons.mp hb with z | hb
    · rw [z]; exact hmo.there
    · by_cases q : b ∈ ad μ0
      · rw [← w.ad0] at q
        obtain ⟨r, hr, z⟩ := List.mem_map.mp q
        have := (hm r hr).there
        rw [z] at this; exact this
      · cases z : H1 b with
        | none => exact absurd z (o.alloc b hb)
        | some u => rw [kp b u q z]; exact fun z => nomatch z
  · exact kp b u (fun q => by have := (inM b q).2; rw [z] at this; cases this) (o.gr b u z)
/-- x = f(..), a new object handed back -/
theorem r_asgEN {R : List Ent → Mem → MO → Mem → Prop} {E : XK} (h : EvA C tr M δ μ μ1 es) (w : Swap μ0 μ0' μ1 μ2) (nd : (ad μ0).Nodup) (hR : R es μ0 mo μ0') (k : ∀ p, p ∉ M → Nx C D (p :: M) (δ.set i (.m p)) ((p, mo) :: μ2)) (hn : es.length = n := by rfl) :
    Run C (tAsg (tCall (spEN C.K n R) [] E tr) (gName i)) D M δ μ := fun σ H o => h σ H o _ fun vs H1 o1 x1 r1 => by
  rw [List.append_nil]
  refine ⟨by rw [← paired_len r1]; exact hn, M, es, μ0, mo, μ0', o1.alloc, r1, fun p hp => let q := o1.mem p (w.sub p hp); ⟨q.1, q.2.2⟩, nd, w.ad0, hR, fun p H2 hp e2 m1 m2 => ?_⟩
  obtain ⟨pM, o2⟩ := ok_newE (G := []) o1 w hp e2 m1 m2
  exact k p pM _ _ (o2.set i (e := .m p) rfl)
theorem q_asgEN {R : List Ent → Mem → MO → Mem → Prop} {E : XK} (h : EvA C tr M δ μ μ1 es) (w : Swap μ0 μ0' μ1 μ2) (nd : (ad μ0).Nodup) (hR : R es μ0 mo μ0') (k : ∀ p, p ∉ M → Run C t2 D (p :: M) (δ.set i (.m p)) ((p, mo) :: μ2)) (hn : es.length = n := by rfl) :
    Run C (tSeq (tAsg (tCall (spEN C.K n R) [] E tr) (gName i)) t2) D M δ μ := r_asgEN (D := { D with nx := t2 D }) h w nd hR k hn
/-- f(..) an operand, its new object held for the moment alone: the caller's rule -/
theorem r_retE (h : EvX C te M δ μ μ1 (.d d)) (hs : ∀ p ∈ μ', p ∈ μ1) (k : FinE C D d μ') : Run C (tRet te) D M δ μ := fun σ H o => h σ H o _ fun v H1 o1 x1 r =>
  k v M H1 o1.gr o1.sub (fun p hp => (o1.mem p (hs p hp)).2.2) r
theorem r_retEN (h : EvX C te M δ μ μ1 (.m a)) (hj : (a, mo) ∈ μ1) (ha : a ∉ C.M0) (hs : ∀ p ∈ μ', p ∈ μ1) (k : FinEN C D mo μ') : Run C (tRet te) D M δ μ := fun σ H o => h σ H o _ fun v H1 o1 x1 r => by
  have r' : v = .ref a := r
  rw [r']
  obtain ⟨q0, q1, q2⟩ := o1.mem _ hj
  exact k a M H1 q1 ha o1.gr o1.sub q0 q2 fun p hp => (o1.mem p (hs p hp)).2.2
/-! ### a dict walked under a lock -/
def lkE (D : Ends) (a : Addr) (u : HO) (od : Obj) : Ends := ⟨fun σ' H' => H' a = some (.frz od u) ∧ D.nx σ' (upd H' a u), fun v H' => H' a = some (.frz od u) ∧ D.rt v (upd H' a u), fun σ' H' => H' a = some (.frz od u) ∧ D.bk σ' (upd H' a u), fun σ' H' => H' a = some (.frz od u) ∧ D.ct σ' (upd H' a u)⟩
variable {kvs : List (Key × PyData)} {ws : List (Key × V)} {od : Obj} {t : TS}
theorem set_back {l : Mem} {x y : Addr × MO} (h : l[j]? = some x) : (l.set j y).set j x = l := by
  rw [List.set_set]
  refine List.ext_getElem? fun k => ?_
  by_cases q : j = k
  · subst q
    rw [List.getElem?_set_self (List.getElem?_eq_some_iff.mp h).1, h]
  · rw [List.getElem?_set_ne q]
theorem ok_lock (o : Ok C M δ μ σ H1) (hj : μ[j]? = some (a, .dK kvs)) : ∃ ws, H1 a = some (.dK ws) ∧ ∀ od, Ok C M δ (μ.set j (a, .fz od ws kvs)) σ (upd H1 a (.frz od (.dK ws))) := by
  obtain ⟨_, _, ws, e, c⟩ := o.mem _ (List.mem_of_getElem? hj)
  exact ⟨ws, e, fun od => o.write hj ⟨upd_same, c⟩⟩
theorem ok_unlock (hj : μ[j]? = some (a, .dK kvs)) (o : Ok C M δ (μ.set j (a, .fz od ws kvs)) σ H1) : H1 a = some (.frz od (.dK ws)) ∧ a ∈ M ∧ Ok C M δ μ σ (upd H1 a (.dK ws)) := by
  have hj' : (μ.set j (a, MO.fz od ws kvs))[j]? = some (a, .fz od ws kvs) := List.getElem?_set_self (List.getElem?_eq_some_iff.mp hj).1
  obtain ⟨q0, _, e, c⟩ := o.mem _ (List.mem_of_getElem? hj')
  have := o.write hj' (mo' := .dK kvs) (ho := .dK ws) ⟨ws, upd_same, c⟩
  rw [set_back hj] at this
  exact ⟨e, q0, this⟩
theorem r_lock (hj : μ[j]? = some (a, .dK kvs)) (h : ∀ od ws, Run C t (lkE D a (.dK ws) od) M δ (μ.set j (a, .fz od ws kvs))) : Run C (tLock t) D M δ μ := fun σ H o => by
  obtain ⟨ws, e, k⟩ := ok_lock o hj
  exact ⟨a, .dK ws, e, trivial, fun od => h od ws _ _ (k od)⟩
theorem q_lock (hj : μ[j]? = some (a, .dK kvs)) (h : ∀ od ws, Run C t (lkE { D with nx := t2 D } a (.dK ws) od) M δ (μ.set j (a, .fz od ws kvs))) : Run C (tSeq (tLock t) t2) D M δ μ := r_lock (D := { D with nx := t2 D }) hj h
theorem lk_nx (hj : μ[j]? = some (a, .dK kvs)) (k : Nx C D M δ μ) : Nx C (lkE D a (.dK ws) od) M δ (μ.set j (a, .fz od ws kvs)) := fun σ H o => by
  obtain ⟨e, _, o'⟩ := ok_unlock hj o
  exact ⟨e, k _ _ o'⟩
/-- handing back from within -/
theorem lk_ret (hj : μ1[j]? = some (a, .dK kvs)) (h : EvX C te M δ μ (μ1.set j (a, .fz od ws kvs)) (.d d)) (hs : ∀ p ∈ μ', p ∈ μ1) (k : FinE C D d μ') : Run C (tRet te) (lkE D a (.dK ws) od) M δ μ := fun σ H o => h σ H o _ fun v H1 o1 x1 r => by
  obtain ⟨e, aM, o'⟩ := ok_unlock hj o1
  exact ⟨e, k v M _ o'.gr o'.sub (fun p hp => (o'.mem p (hs p hp)).2.2) (by rw [hide_upd aM (by rw [e]; rfl) rfl]; exact r)⟩
theorem x_lock {e : Ent} (hj : μ[j]? = some (a, .dK kvs)) (h : ∀ od ws, EvX C te M δ (μ.set j (a, .fz od ws kvs)) (μ.set j (a, .fz od ws kvs)) e) : EvX C (tLockE te) M δ μ μ e := fun σ H o Q k => by
  obtain ⟨ws, e0, kk⟩ := ok_lock o hj
  refine ⟨a, .dK ws, e0, trivial, fun od => h od ws _ _ (kk od) _ fun v H1 o1 x1 r => ?_⟩
  obtain ⟨e1, aM, o'⟩ := ok_unlock hj o1
  rw [hide_upd aM (by rw [e0]; rfl) rfl] at x1
  exact ⟨e1, k v _ o' (by rw [hide_upd aM (by rw [e1]; rfl) rfl]; exact x1) (by rw [hide_upd aM (by rw [e1]; rfl) rfl]; exact r)⟩
theorem w_keys {K : PySem.W.Frag} {Hh : Hp} {l : Dct} {Hx : Hp} (c : DcOk K Hx ws (kd l)) : WalkN K (Itk a od ws) Hh (fun H => H a = some (.frz od (.dK ws))) ((l.map (·.1)).map .str) where
  go := fun M i H hi _ _ n => ⟨n, by rw [dc_len c]; simpa using hi⟩
  stop := fun M H _ _ n => ⟨n, by rw [dc_len c]; simp⟩
  yld := fun M i H x H' hi al ex n y => by
    obtain ⟨rfl, k, v, e1, rfl⟩ := y
    obtain ⟨p, e2, rfl⟩ := dc_get c e1
    refine ⟨Ex.refl _, .str p.1, ?_, .str _⟩
    rw [List.getElem?_map, List.getElem?_map, e2]; rfl
theorem i_keys {l : Dct} (h : EvX C ta M δ μ μ1 (.m a)) (hm : (a, .fz od ws (kd l)) ∈ μ1) : EvIN C (iKeys ta) M δ μ μ1 (fun H => H a = some (.frz od (.dK ws))) ((l.map (·.1)).map .str) := fun σ H o R k => h σ H o _ fun v H1 o1 x1 r => by
  have r' : v = .ref a := r
  obtain ⟨_, _, e, c⟩ := o1.mem _ hm
  exact ⟨a, od, r', .inl ⟨ws, e, k _ H1 o1 x1 (w_keys c)⟩⟩
theorem ok_frz {l : Dct} (hm : (a, .fz od ws (kd l)) ∈ μ) (o : Ok C M δ μ σ H1) : H1 a = some (.frz od (.dK ws)) := (o.mem _ hm).2.2.1
end
end FD
/-! a comprehension of two fors -/
namespace FD
open PySem L2 Evl
section
variable {C : Cfg} {M : List Addr} {δ : List Ent} {μ μ' : Mem}
theorem wipe_two {σ2 σ3 : L2.St} {vs1 : List Nat} (h : wipe σ3 vs1 = wipe σ2 vs1) : True := trivial
theorem x_lc2P {N : Hp → Prop} {wi wi1 : TI} {g g1 : TG} {tt : TT} {te : TE} {vs vs1 : List Nat} {xs : List PyData} (b : Nat → Bool) (ys : Nat → List PyData) (f : Nat → Nat → PyData) (hi : EvIN C wi M δ μ μ' N xs) (hN : ∀ (B : Hp) (D : Addr) (σ : L2.St) (H : Hp), Ok { C with B := B } (D :: M) δ μ' σ H → N H)
    (hz : ((List.range xs.length).map fun i => (ys i).length).sum ≤ 90000)
    (hs : ∀ (i : Nat) (d : PyData), xs[i]? = some d → ∀ (G B : Hp) (D : Addr), ∃ ts δ1, TgX C.K g ts d (wipeE δ vs) δ1 ∧ (∀ k ∈ ts, k ∈ vs) ∧ EvT { C with G := G, B := B } tt (D :: M) δ1 μ' μ' (b i) ∧
      (b i = true → EvI { C with G := G, B := B } wi1 (D :: M) δ1 μ' μ' (ys i) ∧ ∀ (j : Nat) (e : PyData), (ys i)[j]? = some e → ∃ ts1 δ2, TgX C.K g1 ts1 e (wipeE δ1 vs1) δ2 ∧ (∀ k ∈ ts1, k ∈ vs1) ∧ ∀ G B : Hp, EvX { C with G := G, B := B } te (D :: M) δ2 μ' μ' (.d (f i j)))) :
    EvX C (tLc2 wi g tt wi1 g1 tYes te vs vs1) M δ μ μ' (.d (.list ((List.range xs.length).flatMap fun i => if b i = true then (List.range (ys i).length).map (f i) else []))) := fun σ H o Q k => by
  refine hi σ H o _ fun J H1 o1 x1 W D hD => ?_
  have oB := o1.toB
  have hDM : D ∉ M := o1.fresh hD
  have o2 : Ok { C with B := hide M H1 } (D :: M) δ μ' σ (upd H1 D (.lst [])) :=
    (oB.new hD (mo := .lst []) ⟨[], upd_same, .nil⟩).mems (fun p hp => List.mem_cons_of_mem _ hp) o1.nd
  have hSM : ∀ p ∈ μ', p.1 ∈ M := fun p hp => (o1.mem p hp).1
  have nD : ∀ p ∈ μ', p.1 ≠ D := fun p hp z => hDM (z ▸ hSM p hp)
  have gD : C.G D = none := by
    cases z : C.G D with
    | none => rfl
    | some u => have := o1.gr D u z; rw [hD] at this; cases this
  generalize hg : (fun i => if b i = true then (List.range (ys i).length).map (f i) else []) = gg
  have hgl : ∀ n, n ≤ xs.length → ((List.range n).flatMap gg).length ≤ ((List.range n).map fun i => (ys i).length).sum := by
    intro n
    induction n with
    | zero => intro _; simp
    | succ n ih =>
      intro hn
      rw [List.range_succ, List.flatMap_append, List.map_append, List.sum_append, List.length_append]
      have := ih (by omega)
      have e2 : ([n].flatMap gg).length ≤ (ys n).length := by
        rw [List.flatMap_singleton, ← hg]
        dsimp only
        split
        · simp
        · simp
      simp only [List.map_cons, List.map_nil, List.sum_cons, List.sum_nil]
      omega
  have hmono : ∀ n, n < xs.length → ((List.range n).map fun i => (ys i).length).sum + (ys n).length ≤ 90000 := by
    intro n hn
    have : ∀ m, n + 1 ≤ m → ((List.range (n + 1)).map fun i => (ys i).length).sum ≤ ((List.range m).map fun i => (ys i).length).sum := by
      intro m hm
      induction m with
      | zero => omega
      | succ m ih =>
        by_cases e : n + 1 = m + 1
        · rw [e]; exact Nat.le_refl _
        · have := ih (by omega)
          rw [List.range_succ (n := m), List.map_append, List.sum_append]
          omega
    have h1 := this xs.length (by omega)
    rw [List.range_succ, List.map_append, List.sum_append] at h1
    simp only [List.map_cons, List.map_nil, List.sum_cons, List.sum_nil] at h1
    omega
  refine ⟨fun i m H' => m = xs.length - i ∧ i ≤ xs.length ∧ Ok { C with B := hide M H1 } (D :: M) δ μ' σ H' ∧ ∃ acc, H' D = some (.lst acc) ∧ DpAll C.K (hide (D :: M) H') acc ((List.range i).flatMap gg),
    ⟨xs.length, by simp, Nat.zero_le _, o2, [], upd_same, .nil⟩, ?_⟩
  rintro i m H' ⟨rfl, hi', oi, acc, hacc, dacc⟩
  by_cases hlt : i < xs.length
  · refine .inr ⟨W.go (D :: M) i H' hlt oi.alloc oi.base (hN _ _ _ _ oi), fun H'' => Ok { C with B := hide M H1 } (D :: M) δ μ' σ H'' ∧ ∃ acc, H'' D = some (.lst acc) ∧ DpAll C.K (hide (D :: M) H'') acc ((List.range (i + 1)).flatMap gg),
      fun H'' q => ⟨xs.length - (i + 1), by omega, rfl, hlt, q⟩, fun x H2 y => ?_⟩
    obtain ⟨e2, d, hd, dx⟩ := W.yld (D :: M) i H' x H2 hlt oi.alloc oi.base (hN _ _ _ _ oi) y
    have o3 := oi.grow e2
    have o4 := o3.toG
    obtain ⟨ts, δ1, tg, hts, ht, hin⟩ := hs i d hd (hide (μ'.map (·.1)) H2) (hide M H1) D
    have hD2 : H2 D = some (.lst acc) := e2 D _ hacc
    have outD : D ∉ μ'.map (·.1) := fun z => by
      obtain ⟨r, hr, er⟩ := List.mem_map.mp z
      exact nD r hr er
    have gD2 : hide (μ'.map (·.1)) H2 D = some (.lst acc) := by rw [hide_out outD]; exact hD2
    refine tg { C with G := hide (μ'.map (·.1)) H2, B := hide M H1 } _ _ _ _ _ rfl (o4.wiped vs) dx _ fun σ2 o5 hl2 hσ2 => ⟨wipe_eq (by rw [hl2, wipe_length]) hσ2 hts, ?_⟩
    refine ht σ2 H2 o5 _ fun H3 o6 x6 => ?_
    have hlen : acc.length ≤ ((List.range i).map fun i => (ys i).length).sum := by rw [dacc.length]; exact hgl i (by omega)
    have d3 : DpAll C.K (hide (D :: M) H3) acc ((List.range i).flatMap gg) := dpAll_mono ((hide_ex e2).trans x6) _ _ dacc
    have hD3 : H3 D = some (.lst acc) := o6.gr D _ gD2
    have esucc : (List.range (i + 1)).flatMap gg = (List.range i).flatMap gg ++ gg i := by rw [List.range_succ, List.flatMap_append, List.flatMap_singleton]
    cases hb : b i with
    | false =>
      rw [if_neg Bool.false_ne_true]
      refine ⟨o3.swap (o3.ofG o6) x6, acc, hD3, ?_⟩
      rw [esucc, show gg i = [] by rw [← hg]; simp [hb], List.append_nil]
      exact d3
    | true =>
      rw [if_pos rfl]
      obtain ⟨hi1, hin1⟩ := hin hb
      refine hi1 σ2 H3 o6 _ fun J1 H4 o7 x7 W1 => ?_
      have hD4 : H4 D = some (.lst acc) := o7.gr D _ gD2
      have o7' : Ok { C with B := hide (D :: M) H4 } (D :: M) δ1 μ' σ2 H4 := (o3.ofG o7).toB
      have o8 : Ok { C with B := hide M H1 } (D :: M) δ μ' σ H4 := o3.swap (o3.ofG o7) (x6.trans x7)
      have egg : gg i = (List.range (ys i).length).map (f i) := by rw [← hg]; simp [hb]
      refine ⟨fun j m H' => m = (ys i).length - j ∧ j ≤ (ys i).length ∧ Ok { C with B := hide (D :: M) H4 } (D :: M) δ1 μ' σ2 H' ∧ Ok { C with B := hide M H1 } (D :: M) δ μ' σ H' ∧ ∃ acc, H' D = some (.lst acc) ∧ DpAll C.K (hide (D :: M) H') acc ((List.range i).flatMap gg ++ (List.range j).map (f i)),
        ⟨(ys i).length, by simp, Nat.zero_le _, o7', o8, acc, hD4, by rw [List.range_zero, List.map_nil, List.append_nil]; exact dpAll_mono x7 _ _ d3⟩, ?_⟩
      rintro j m H5 ⟨rfl, hj', oj, oj2, acc1, hacc1, dacc1⟩
      by_cases hlt1 : j < (ys i).length
      · refine .inr ⟨W1.go (D :: M) j H5 hlt1 oj.alloc oj.base, fun H'' => Ok { C with B := hide (D :: M) H4 } (D :: M) δ1 μ' σ2 H'' ∧ Ok { C with B := hide M H1 } (D :: M) δ μ' σ H'' ∧ ∃ acc, H'' D = some (.lst acc) ∧ DpAll C.K (hide (D :: M) H'') acc ((List.range i).flatMap gg ++ (List.range (j + 1)).map (f i)),
          fun H'' q => ⟨(ys i).length - (j + 1), by omega, rfl, hlt1, q⟩, fun x1 H6 y1 => ?_⟩
        obtain ⟨e6, e, he, dx1⟩ := W1.yld (D :: M) j H5 x1 H6 hlt1 oj.alloc oj.base y1
        have p3 := oj.grow e6
        have p4 := p3.toG
        obtain ⟨ts1, δ2, tg1, hts1, hel⟩ := hin1 j e he
        have hD6 : H6 D = some (.lst acc1) := e6 D _ hacc1
        have gD6 : hide (μ'.map (·.1)) H6 D = some (.lst acc1) := by rw [hide_out outD]; exact hD6
        refine tg1 { C with G := hide (μ'.map (·.1)) H6, B := hide (D :: M) H4 } _ _ _ _ _ rfl (p4.wiped vs1) dx1 _ fun σ3 p5 hl3 hσ3 => ⟨wipe_eq (by rw [hl3, wipe_length]) hσ3 hts1, ?_⟩
        unfold tYes
        dsimp only
        rw [if_pos rfl]
        refine hel _ _ σ3 H6 p5 _ fun v H7 p7 x7 r7 => ?_
        have hD7 : H7 D = some (.lst acc1) := p7.gr D _ gD6
        have q8 : Ok { C with B := hide (D :: M) H4 } (D :: M) δ1 μ' σ2 H7 := p3.swap (p3.ofG p7) x7
        have pg := (oj2.grow e6)
        have q9 : Ok { C with B := hide M H1 } (D :: M) δ μ' σ H7 :=
          ⟨pg.len, fun i y h1 h2 => let ⟨v, a, c⟩ := pg.slot i y h1 h2; ⟨v, a, c.mono x7⟩, q8.mem, q8.nd, q8.alloc, q8.sub, q8.gr, pg.base.trans x7⟩
        have l1 : acc1.length ≤ 90000 := by
          rw [dacc1.length, List.length_append, List.length_map, List.length_range]
          have := hmono i hlt
          have := hgl i (by omega)
          omega
        refine ⟨acc1, hD7, sz_lt (by omega), q8.writeH List.mem_cons_self nD gD (by rw [hD7]; rfl), q9.writeH List.mem_cons_self nD gD (by rw [hD7]; rfl), _, upd_same, ?_⟩
        rw [hide_upd List.mem_cons_self (by rw [hD7]; rfl) rfl, List.range_succ, List.map_append, ← List.append_assoc]
        exact (dpAll_mono ((hide_ex e6).trans x7) _ _ dacc1).append (.cons r7 .nil)
      · have ej : j = (ys i).length := by omega
        subst ej
        refine .inl ⟨W1.stop (D :: M) H5 oj.alloc oj.base, oj2, acc1, hacc1, ?_⟩
        rw [esucc, egg]
        exact dacc1
  · have ei : i = xs.length := by omega
    subst ei
    refine .inl ⟨W.stop (D :: M) H' oi.alloc oi.base (hN _ _ _ _ oi), ?_⟩
    have s1 : ∀ a ∈ M, a ∈ D :: M := fun a ha => List.mem_cons_of_mem _ ha
    have oE : Ok C M δ μ' σ H' := (oi.drop (M := M) s1 hSM o1.sub).reB o1.base
    have xE : Ex (hide M H) (hide M H') := x1.trans (oi.base.trans (hide_sub s1))
    subst hg
    refine k _ H' oE xE (.lst (sq_of ?_) (dpAll_mono (hide_sub s1) _ _ dacc))
    rw [hide_out hDM]; exact hacc
end
end FD
/-! texts, bits, more of lists; t[::-1] of a tuple -/
namespace FD
open PySem PySem.Spec L2 PyProof.Rows HT
section
variable {prog : Program} {w : World} {A : Around} {E : Value → Shared → Prop} {s : Shared}
theorem fm_congr {α β : Type} {f g : α → Option β} : ∀ {l : List α}, (∀ m ∈ l, f m = g m) → l.filterMap f = l.filterMap g
  | [], _ => rfl
  | x :: l, h => by
    rw [List.filterMap_cons, List.filterMap_cons, h x List.mem_cons_self, fm_congr fun m hm => h m (List.mem_cons_of_mem _ hm)]
theorem back_adjust (n : Nat) : Builtin.Slice.sliceAdjust none none (-1) (n : Int) = ((n : Int) - 1, -1) := rfl
theorem back_places (n : Nat) : Builtin.Slice.slicePlaces ((n : Int) - 1) (-1) (-1) = n := by
  unfold Builtin.Slice.slicePlaces
  rw [if_neg (by decide)]
  split
  · have e : ((n : Int) - 1 - -1 - 1) / (- -1) = (n : Int) - 1 := by
      rw [show (- -1 : Int) = 1 by decide, Int.ediv_one]
      omega
    rw [e]; omega
  · omega
theorem back_pick (xs : Array Value) : ((List.range xs.size).filterMap fun (m : Nat) => xs[((xs.size : Int) - 1 + (m : Int) * (-1)).toNat]?) = xs.toList.reverse := by
  have e : ∀ m ∈ List.range xs.size, xs[((xs.size : Int) - 1 + (m : Int) * (-1)).toNat]? = xs.toList.reverse[m]? := fun m hm => by
    have hm := List.mem_range.mp hm
    rw [List.getElem?_reverse (by simpa using hm), Array.length_toList, Array.getElem?_toList]
    congr 1
    omega
  rw [fm_congr e]
  refine List.ext_getElem? fun i => ?_
  have key : ∀ (ys : List Value) (n : Nat), n ≤ ys.length → (List.range n).filterMap (fun m => ys[m]?) = ys.take n := by
    intro ys n
    induction n with
    | zero => intro _; simp
    | succ n ih =>
      intro h
      rw [List.range_succ, List.filterMap_append, ih (by omega), List.take_add_one]
      simp [show n < ys.length by omega]
  rw [key _ _ (by simp), List.take_of_length_le (by simp)]
theorem getItem_back {t sl : Addr} {items : Array Value} {vz : Value} {Q : Value → Shared → Prop} (ht : IsTup s.heap t items) (hs : s.heap.IsSliceOf sl .none .none vz) (pz : IsPart vz (some (-1)))
    (h : Q (.ref s.heap.objs.size) { s with heap := s.heap.push { cls := .type "tuple", data := .seq items.toList.reverse.toArray } }) (hsz : items.size ≤ sizeLine) : wpAny (model prog w) A (getItem (.ref t) (.ref sl)) Q E s := by
  have okS : sizeOk (.seq items.toList.reverse.toArray) := by
    show items.toList.reverse.toArray.size ≤ sizeLine
    simpa using hsz
  obtain ⟨os, hos, hcs, hds⟩ := id hs
  have tS : s.TypeIs (.ref sl) "slice" := ⟨os, hos, hcs⟩
  unfold getItem
  try with_reducible refine wpAny_holding ?_
  first | refine wpAny_bind (wpAny_pure ?_) | skip
  refine wpAny_bind (wpAny_sequenceKey ht.typeIs (by decide) ?_)
  refine wpAny_bind (wpAny_callSpecial?_slot (name := Str.ofString "__getitem__") ht.typeIs PyProof.Rows.slot_tuple_getitem (wpAny_call_entry PyProof.Rows.slot_tuple_getitem ht.typeIs entry_tuple_getitem ?_ (args_tuple_getitem _ _)))
  show wpAny _ _ (Builtin.Tuple.tupleItemsOf (.ref t) >>= _) _ _ s
  refine wpAny_bind (tupleItemsOf_ ht ?_)
  refine wpAny_bind (wpAny_typeOf tS ?_)
  rw [if_pos (by decide)]
  refine wpAny_bind ?_
  unfold Builtin.Slice.sliceApplied Builtin.Slice.sliceFields
  refine wpAny_bind (wpAny_bind (wpAny_field hos hds (x := .none) rfl (wpAny_bind (wpAny_field hos hds (x := .none) rfl (wpAny_bind (wpAny_field hos hds (x := vz) rfl (wpAny_pure ?_)))))))
  refine wpAny_bind (slicePart_ pz ?_)
  show wpAny _ _ (if ((-1 : Int) == 0) = true then _ else _) _ _ s
  rw [if_neg (by decide)]
  refine wpAny_bind (slicePart_none (wpAny_bind (slicePart_none (wpAny_bind (wpAny_pure ?_)))))
  show wpAny _ _ (match Builtin.Slice.sliceAdjust none none (-1) (items.size : Int) with | (lo, hi) => pure (lo, (-1 : Int), Builtin.Slice.slicePlaces lo hi (-1))) _ _ s
  rw [back_adjust]
  show wpAny _ _ (pure ((items.size : Int) - 1, (-1 : Int), Builtin.Slice.slicePlaces ((items.size : Int) - 1) (-1) (-1))) _ _ s
  rw [back_places]
  refine wpAny_pure ?_
  have no1 : ¬ ((((items.size : Int) - 1 == 0) && ((-1 : Int) == 1) && (items.size == items.size)) = true) := by simp
  show wpAny _ _ (if (((items.size : Int) - 1 == 0) && ((-1 : Int) == 1) && (items.size == items.size)) = true then _ else _) _ _ s
  rw [if_neg no1, back_pick]
  first
    | exact wpAny_bind (m := Builtin.Tuple.tupleExact _) (wpAny_newObj_type (wpAny_pure ⟨_, rfl, wpAny_pure h⟩) okS)
    | exact wpAny_bind (m := Builtin.Tuple.tupleExact _) (wpAny_newObj_type (wpAny_bind (wpAny_pure (wpAny_pure ⟨_, rfl, wpAny_pure h⟩))) okS)
    | exact wpAny_bind (wpAny_bind (m := Builtin.Tuple.tupleExact _) (wpAny_newObj_type (wpAny_pure (wpAny_pure ⟨_, rfl, wpAny_pure h⟩)) okS))
    | exact wpAny_bind (wpAny_bind (m := Builtin.Tuple.tupleExact _) (wpAny_newObj_type (wpAny_pure ⟨_, rfl, wpAny_pure h⟩) okS))
end
def tRevT (K : PySem.W.Frag) (te : TE) : TE := fun σ H Q => te σ H fun x H1 => ∃ a xs, x = .ref a ∧ SqT K H1 a xs ∧ ∀ p, H1 p = none → Q (.ref p) (upd H1 p (.tup xs.reverse))
section
variable {X : Cx}
theorem pe_revT {e : Expr} {te : TE} {k : Nat} {p1 p2 p3 pos : Pos} (he : PE X e te) : PE X (.Subscript e (.Slice none none (some (.UnaryOp .USub (.Constant (.int 1) k p1) p2)) p3) pos) (tRevT X.K te) := by
  refine ⟨fun pins s σ H Q I h => ?_⟩
  refine Subscript_ (thn (he.run pins s σ H _ I h) fun v s1 ⟨x, H1, I1, r1, a, xs, ex, hx, q⟩ => ?_)
  subst ex
  cases r1
  have st1 : PO X (some (.UnaryOp .USub (.Constant (.int 1) k p1) p2)) (tPart (tUn (rU fun i => .int (-i)) (tC (.int 1)))) := po_some (pe_un un_neg pe_int)
  have n0 : PO X none tNoPart := po_none
  refine wpAny_Slice ?_
  rw [evalPart_none]
  refine wpAny_pure (wpAny_pure ?_)
  refine thn (st1.run pins s1 σ H1 (fun o H4 => o = some (-1) ∧ H4 = H1) I1 ⟨1, rfl, -1, rfl, rfl, rfl⟩) fun vz s4 ⟨o, H4, I4, pz, eo, e4⟩ => ?_
  subst eo e4
  have I5 : Inv X pins σ H4 { s4 with heap := s4.heap.push { cls := .type "slice", data := .fields #[.none, .none, vz] } } := I4.kept (t' := s4.toks) fun b ob q => Heap.get?_push_of_some _ q
  obtain ⟨its, r, pt, hz⟩ := I5.tuple hx
  have hlen := r.length
  show wpAny (model X.prog X.w) X.A (subscriptTail e (.Slice none none (some (.UnaryOp .USub (.Constant (.int 1) k p1) p2)) p3) (.ref a) (.ref s4.heap.objs.size)) (EP X pins σ Q) X.xe { s4 with heap := s4.heap.push { cls := .type "slice", data := .fields #[.none, .none, vz] } }
  refine tail_any (ops := [.ref a, .ref s4.heap.objs.size]) pt.typeIs (PyProof.Rows.slot_tuple_getitem.lookup) ?_ (by with_unfolding_all rfl)
  refine getItem_back pt (Heap.IsSliceOf.new _ .none .none vz) pz ?_ (by rw [List.size_toArray]; omega)
  refine ⟨.ref _, _, I5.laid (t' := s4.toks) (o := .tup xs.reverse) (fun b ob q => Heap.get?_push_of_some _ q) (Nat.le_refl _) ?_, rfl, q _ (I5.hok.fresh (Nat.le_refl _))⟩
  exact ⟨by rw [List.length_reverse]; exact hz, its.reverse, r.reverse, ⟨_, Heap.get?_push_size _ rfl, rfl, _, rfl⟩⟩
end
end FD
namespace FD
open PySem L2 Evl
theorem DpAll.bools {K : PySem.W.Frag} {H : Hp} : ∀ {vs : List V} {ns : List Bool}, DpAll K H vs (ns.map PyData.bool) → vs = ns.map V.bl
  | vs, [], h => by cases h; rfl
  | vs, n :: ns, h => by
    cases h with
    | cons h1 h2 =>
      cases h1
      rw [DpAll.bools h2]
      rfl
theorem inV_strs (z : Str) (zs : List Str) : inV (.str z) (zs.map V.str) = decide (z ∈ zs) := by
  unfold inV
  rw [List.any_map]
  rw [Bool.eq_iff_iff, List.any_eq_true, decide_eq_true_eq]
  constructor
  · rintro ⟨y, hy, e⟩
    have e : (y == z) = true := e
    rw [← eq_of_beq e]; exact hy
  · exact fun h => ⟨z, h, (beq_self_eq_true z : (z == z) = true)⟩
section
variable {C : Cfg} {M : List Addr} {δ : List Ent} {μ μ1 μ2 μ3 μ' : Mem} {ta tb te : TE} {a : Addr} {e : Ent} {tr : TA} {D : Ends} {t2 : TS} {i j : Nat} {z y : Str} {zs : List Str} {ds : List PyData} {d : PyData}
/-! ### texts -/
abbrev rAddStr : R2 := fun x y H Q => ∃ i j, x = .str i ∧ y = .str j ∧ i.length + j.length ≤ sizeLine ∧ Q (.str (i ++ j)) H
theorem o_addS (h : z.length + y.length ≤ 100000) : OpX C rAddStr M δ μ μ (.d (.str z)) (.d (.str y)) (.d (.str (z ++ y))) := fun σ H u v o h1 h2 Q k =>
  ⟨z, y, Dp.str_of h1, Dp.str_of h2, sz_of h, k _ H o (Ex.refl _) (.str _)⟩
theorem x_slS {tl th : TO} {lo hi : Option Int} (h : EvX C te M δ μ μ1 (.d (.str z))) (hl : EvO C tl M δ μ1 μ2 lo) (hh : EvO C th M δ μ2 μ3 hi) (hz : z.length ≤ 100000) : EvX C (tSl rSlS te tl th) M δ μ μ3 (.d (.str (cutS z lo hi))) := fun σ H o Q k =>
  h σ H o _ fun v H1 o1 x1 r1 => hl σ H1 o1 _ fun H2 o2 x2 => hh σ H2 o2 _ fun H3 o3 x3 => ⟨z, Dp.str_of r1, sz_of hz, k _ H3 o3 (x1.trans (x2.trans x3)) (.str _)⟩
theorem o_ixS {n : Int} {c : Nat} (hz : z.length ≤ 100000) (ha : atI z.cps.toList n = some c) : OpX C rIxS M δ μ μ (.d (.str z)) (.d (.int n)) (.d (.str ⟨#[c]⟩)) := fun σ H u v o h1 h2 Q k =>
  ⟨z, n, c, Dp.str_of h1, Dp.int_of h2, sz_of hz, ha, k _ H o (Ex.refl _) (.str _)⟩
abbrev rLenStr : List V → Hp → VK → Prop := fun xs H Q => ∃ z, xs = [.str z] ∧ z.length ≤ sizeLine ∧ Q (.int z.length) H
theorem c_lenS (hz : z.length ≤ 100000) : CallX C rLenStr M δ μ μ [.d (.str z)] (.d (.int z.length)) := fun σ H vs o h Q k => by
  obtain ⟨v, rfl, q⟩ := p1 h
  exact ⟨z, by rw [Dp.str_of q], sz_of hz, k _ H o (Ex.refl _) (.int _)⟩
/-! ### a text in a list or tuple of texts -/
theorem o_inL (r : Rdd μ e (.list (zs.map .str))) : OpX C (rIn C.K false) M δ μ μ (.d (.str z)) e (.d (.bool (decide (z ∈ zs)))) := fun σ H u v o h1 h2 Q k => by
  obtain ⟨p, ws, q1, q2, q3⟩ := r.lst o h2
  have e3 := DpAll.strs q3
  subst e3
  refine ⟨p, zs.map V.str, q1, .inl q2, by rw [Dp.str_of h1]; rfl, flat_strs zs, ?_⟩
  rw [Dp.str_of h1, if_neg Bool.false_ne_true, inV_strs]
  exact k _ H o (Ex.refl _) (.bl _)
theorem o_inT : OpX C (rIn C.K false) M δ μ μ (.d (.str z)) (.d (.tuple (zs.map .str))) (.d (.bool (decide (z ∈ zs)))) := fun σ H u v o h1 h2 Q k => by
  obtain ⟨p, ws, q1, q2, q3⟩ := Dp.tup_of h2
  have e3 := DpAll.strs q3
  subst e3
  refine ⟨p, zs.map V.str, q1, .inr (ex_t hide_le q2), by rw [Dp.str_of h1]; rfl, flat_strs zs, ?_⟩
  rw [Dp.str_of h1, if_neg Bool.false_ne_true, inV_strs]
  exact k _ H o (Ex.refl _) (.bl _)
theorem o_notInL (r : Rdd μ e (.list (zs.map .str))) : OpX C (rIn C.K true) M δ μ μ (.d (.str z)) e (.d (.bool (!decide (z ∈ zs)))) := fun σ H u v o h1 h2 Q k => by
  obtain ⟨p, ws, q1, q2, q3⟩ := r.lst o h2
  have e3 := DpAll.strs q3
  subst e3
  refine ⟨p, zs.map V.str, q1, .inl q2, by rw [Dp.str_of h1]; rfl, flat_strs zs, ?_⟩
  rw [Dp.str_of h1, if_pos rfl, inV_strs]
  exact k _ H o (Ex.refl _) (.bl _)
/-! ### all, any -/
theorem c_all {bs : List Bool} (r : Rdd μ e (.list (bs.map .bool))) : CallX C (rAll C.K) M δ μ μ [e] (.d (.bool (bs.all id))) := fun σ H vs o h Q k => by
  obtain ⟨v, rfl, q⟩ := p1 h
  obtain ⟨p, ws, q1, q2, q3⟩ := r.lst o q
  have e3 := DpAll.bools q3
  subst e3
  exact ⟨p, bs, by rw [q1], q2, k _ H o (Ex.refl _) (.bl _)⟩
theorem c_any {bs : List Bool} (r : Rdd μ e (.list (bs.map .bool))) : CallX C (rAny C.K) M δ μ μ [e] (.d (.bool (bs.any id))) := fun σ H vs o h Q k => by
  obtain ⟨v, rfl, q⟩ := p1 h
  obtain ⟨p, ws, q1, q2, q3⟩ := r.lst o q
  have e3 := DpAll.bools q3
  subst e3
  exact ⟨p, bs, by rw [q1], q2, k _ H o (Ex.refl _) (.bl _)⟩
/-! ### list(x), pops, repeats -/
abbrev rListOf (K : PySem.W.Frag) : List V → Hp → VK → Prop := fun xs H Q => ∃ p ys, xs = [.ref p] ∧ (SqL K H p ys ∨ SqT K H p ys) ∧ ∀ l, H l = none → Q (.ref l) (upd H l (.lst ys))
/-- x = list(t): a list of one's own -/
theorem q_listT (h : EvA C tr M δ μ μ1 [.d (.tuple ds)]) (k : ∀ p, p ∉ M → Run C t2 D (p :: M) (δ.set i (.m p)) ((p, .lst ds) :: μ1)) : Run C (tSeq (tAsg (tCB (rListOf C.K) tr) (gName i)) t2) D M δ μ := fun σ H o => h σ H o _ fun vs H1 o1 x1 r1 => by
  obtain ⟨v, rfl, q⟩ := p1 r1
  obtain ⟨p, ws, q1, q2, q3⟩ := Dp.tup_of q
  refine ⟨p, ws, by rw [q1], .inr (ex_t hide_le q2), fun l hp => ?_⟩
  have o2 := o1.new hp (mo := .lst ds) (ho := .lst ws) ⟨ws, upd_same, dpAll_mono (hide_new hp) _ _ q3⟩
  exact k l (o1.fresh hp) _ _ (o2.set i (e := .m l) rfl)
theorem dp_dropLast {K : PySem.W.Frag} {H : Hp} {vs : List V} {ds : List PyData} (h : DpAll K H vs ds) : DpAll K H vs.dropLast ds.dropLast := by
  rw [List.dropLast_eq_take, List.dropLast_eq_take, h.length]
  exact h.take _
/-- x.pop() -/
theorem r_pop (hx : EvX C ta M δ μ μ1 (.m a)) (hj : μ1[j]? = some (a, .lst ds)) (h0 : ds ≠ []) (k : Nx C D M δ (μ1.set j (a, .lst ds.dropLast))) : Run C (tDrop (tBM0 C.K "list" rPop ta)) D M δ μ := fun σ H o => hx σ H o _ fun v H1 o1 x1 r1 => by
  have e1 : v = .ref a := r1
  subst e1
  obtain ⟨_, _, vs, q1, q2⟩ := o1.mem _ (List.mem_of_getElem? hj)
  have hl : 0 < vs.length := by rw [q2.length]; exact List.length_pos_iff.mpr h0
  refine ⟨.inl ⟨rfl, _, SqL.of q1⟩, a, vs, vs[vs.length - 1], rfl, rfl, q1, by simp [show vs.length - 1 < vs.length by omega], ?_⟩
  exact k _ _ (o1.write hj ⟨_, upd_same, dp_dropLast q2⟩)
/-- x = [z] * n -/
theorem q_rep {n : Nat} {z : Int} (h : ∀ p, p ∉ M → EvX C tb (p :: M) δ ((p, .lst [.int z]) :: μ) ((p, .lst [.int z]) :: μ) (.d (.int (n : Int)))) (hn : n ≤ 100000)
    (k : ∀ p q, p ∉ M → q ∉ p :: M → Run C t2 D (q :: p :: M) (δ.set i (.m q)) ((q, .lst (List.replicate n (.int z))) :: (p, .lst [.int z]) :: μ)) : Run C (tSeq (tAsg (tOp rRep (tLst (tCons (tC (.int z)) tNil)) tb) (gName i)) t2) D M δ μ := fun σ H o => ⟨sz_of (by simp), fun p hp => by
  have pM := o.fresh hp
  have o2 : Ok C (p :: M) δ ((p, .lst [.int z]) :: μ) σ (upd H p (.lst [.int z])) := o.new hp (mo := .lst [.int z]) (ho := .lst [.int z]) ⟨_, upd_same, .cons (.int z) .nil⟩
  refine h p pM σ _ o2 _ fun v H1 o1 x1 r1 => ?_
  obtain ⟨_, _, vs, q1, q2⟩ := o1.mem _ List.mem_cons_self
  have e1 : vs = [.int z] := DpAll.ints (ns := [z]) q2
  subst e1
  refine ⟨p, n, _, rfl, Dp.int_of r1, q1, by omega, by omega, sz_of (by simp; omega), fun q hq => ?_⟩
  have e2 : (List.replicate ((n : Int)).toNat [V.int z]).flatten = List.replicate n (V.int z) := by
    rw [Int.toNat_natCast]
    clear q2 r1 h k
    induction n with
    | zero => rfl
    | succ n ih => rw [List.replicate_succ, List.flatten_cons, ih (by omega)]; rfl
  rw [e2]
  have dr : DpAll C.K (hide (q :: p :: M) (upd H1 q (.lst (List.replicate n (V.int z))))) (List.replicate n (V.int z)) (List.replicate n (PyData.int z)) := by
    clear e2 r1 h k
    induction n with
    | zero => exact .nil
    | succ n ih => rw [List.replicate_succ, List.replicate_succ]; exact .cons (.int z) (by have := ih (by omega); clear ih; exact (by
        have w : ∀ {A B : Hp} {vs : List V} {ns : List Int}, DpAll C.K A vs (ns.map PyData.int) → DpAll C.K B vs (ns.map PyData.int) := fun h => by rw [DpAll.ints h]; exact DpAll.of_ints _
        have e : List.replicate n (PyData.int z) = (List.replicate n z).map PyData.int := by rw [List.map_replicate]
        rw [e] at this ⊢
        exact w this))
  have o3 := o1.new hq (mo := .lst (List.replicate n (.int z))) (ho := .lst (List.replicate n (V.int z))) ⟨_, upd_same, dr⟩
  exact k p q pM (o1.fresh hq) _ _ (o3.set i (e := .m q) rfl)⟩
/-- x += e -/
theorem r_aug {m n : Int} {f : Int → Int → Int} (hx : δ[i]? = some (.d (.int m))) (h : EvX C te M δ μ μ1 (.d (.int n))) (k : Nx C D M (δ.set i (.d (.int (f m n)))) μ1) : Run C (tAug i te (ipI f)) D M δ μ := fun σ H o => by
  obtain ⟨v, e1, e2⟩ := o.slot i _ hx (fun z => nomatch z)
  refine ⟨v, e1, h σ H o _ fun y H1 o1 x1 r1 => ⟨m, n, Dp.int_of e2, Dp.int_of r1, ?_⟩⟩
  exact k _ H1 (o1.set i (e := .d (.int (f m n))) (.int _))
theorem dp_reverse {K : PySem.W.Frag} {A : Hp} : ∀ {vs : List V} (ds : List PyData), DpAll K A vs ds → DpAll K A vs.reverse ds.reverse
  | _, [], h => by cases h; exact .nil
  | _, d :: ds, h => by
    cases h with
    | cons r t => rw [List.reverse_cons, List.reverse_cons]; exact (dp_reverse ds t).append (.cons r .nil)
theorem x_revT (h : EvX C te M δ μ μ1 (.d (.tuple ds))) : EvX C (tRevT C.K te) M δ μ μ1 (.d (.tuple ds.reverse)) := fun σ H o Q k => h σ H o _ fun v H1 o1 x1 r1 => by
  obtain ⟨p, ws, q1, q2, q3⟩ := Dp.tup_of r1
  refine ⟨p, ws, q1, ex_t hide_le q2, fun q hq => ?_⟩
  obtain ⟨o', x', d'⟩ := o1.tup hq (dp_reverse _ q3)
  exact k _ _ o' (x1.trans x') d'
/-- range(m, n, -1) -/
def downD (lo : Int) (n : Nat) : List PyData := (List.range n).map fun (i : Nat) => PyData.int (lo - (i : Int))
theorem downD_length (lo : Int) (n : Nat) : (downD lo n).length = n := by simp [downD]
theorem downD_get {lo : Int} {n i : Nat} (h : i < n) : (downD lo n)[i]? = some (.int (lo - (i : Int))) := by simp [downD, h]
theorem i_down {m n : Int} (h : EvA C tr M δ μ μ' [.d (.int m), .d (.int n), .d (.int (-1))]) (h0 : -(2 ^ 62) ≤ m ∧ m < 2 ^ 62 ∧ -(2 ^ 62) ≤ n ∧ n < 2 ^ 62) : EvI C (iRng3 tr) M δ μ μ' (downD m (m - n).toNat) := fun σ H o R k => h σ H o _ fun vs H1 o1 x1 r => by
  cases r with
  | cons r1 r => cases r with
    | cons r2 r => cases r with
      | cons r3 r =>
        cases r
        refine ⟨m, n, -1, (m - n).toNat, by rw [Dp.int_of r1, Dp.int_of r2, Dp.int_of r3], RgC.neg h0.1 h0.2.1 h0.2.2.1 h0.2.2.2, k _ H1 o1 x1 ⟨fun M i H hi _ _ => by rw [downD_length] at hi; exact hi, fun M H _ _ => by rw [downD_length]; exact Nat.le_refl _, fun M i H x H' hi al ex y => ?_⟩⟩
        obtain ⟨rfl, rfl⟩ := y
        rw [downD_length] at hi
        refine ⟨Ex.refl _, _, downD_get hi, ?_⟩
        rw [show m + (i : Int) * (-1) = m - (i : Int) by omega]
        exact .int _
/-- a, b = a list of two -/
theorem tg_lst2 {K : PySem.W.Frag} {i j : Nat} {d1 d2 : PyData} : TgX K (gLst K 2 (gCons (gName i) (gCons (gName j) gNil))) [i, j] (.list [d1, d2]) δ ((δ.set i (.d d1)).set j (.d d2)) := fun C M μ σ H v hK o h Q k => by
  subst hK
  obtain ⟨a, vs, q1, q2, q3⟩ := Dp.lst_of h
  cases q3 with
  | cons h1 q3 =>
    cases q3 with
    | cons h2 q3 =>
      cases q3
      refine ⟨a, _, q1, ex_l hide_le q2, rfl, _, _, rfl, _, _, rfl, rfl, ?_⟩
      refine k _ ((o.set i (e := .d d1) h1).set j (e := .d d2) h2) (by rw [List.length_set, List.length_set]) fun m hm => ?_
      rw [List.getElem?_set_ne (fun z => hm (by simp [z])), List.getElem?_set_ne (fun z => hm (by simp [z]))]
end
end FD
/-! lists of any origin put together -/
namespace FD
open PySem PySem.Spec L2 PyProof.Rows HT
def rCatL (K : PySem.W.Frag) : R2 := fun x y H Q => ∃ l b xs zs, x = .ref l ∧ y = .ref b ∧ SqL K H l xs ∧ SqL K H b zs ∧ xs.length + zs.length ≤ sizeLine ∧ ∀ p, H p = none → Q (.ref p) (upd H p (.lst (xs ++ zs)))
section
variable {X : Cx}
theorem op_catL : OpR X (binaryOp .Add) (rCatL X.K) := by
  intro pins s σ H x y v u Q I rx ry h
  obtain ⟨l, b, xs, zs, rfl, rfl, hl, hb, hz, q⟩ := h
  cases rx
  cases ry
  obtain ⟨its, r1, ⟨o1, n1, e1, c1, d1, f1⟩, _⟩ := I.list hl
  obtain ⟨its2, r2, ⟨o2, n2, e2, c2, d2, f2⟩, _⟩ := I.list hb
  obtain ⟨cl, dd, da, sl⟩ := o1
  obtain ⟨cl2, dd2, da2, sl2⟩ := o2
  simp only at c1 d1 f1 c2 d2 f2
  subst c1 c2
  try subst d1
  try subst d2
  try subst f1
  try subst f2
  have hlen := r1.length
  have hlen2 := r2.length
  have ea : its.toArray ++ its2.toArray = (its ++ its2).toArray := by simp
  refine concat_meets ⟨_, e1, rfl⟩ ⟨_, e2, rfl⟩ noFill_list_add seq_list_add PySem.F.slot_list_add PySem.F.entry_list_add (PySem.F.args_list_add_2 _ _) (list_addW l b its.toArray its2.toArray _ _ _ _ _ _ (by rw [List.size_toArray, List.size_toArray]; omega)) ⟨e1, e2, ?_⟩
  rw [ea]
  exact ⟨.ref _, _, I.lnew (t' := s.toks) (r1.append r2) (by rw [List.length_append]; omega), rfl, q _ I.fresh⟩
end
end FD
namespace FD
open PySem L2 Evl
theorem o_catL {C : Cfg} {M : List Addr} {δ : List Ent} {μ : Mem} {ds es : List PyData} (hz : ds.length + es.length ≤ 100000) : OpX C (rCatL C.K) M δ μ μ (.d (.list ds)) (.d (.list es)) (.d (.list (ds ++ es))) := fun σ H u v o h1 h2 Q k => by
  obtain ⟨a, vs, q1, q2, q3⟩ := Dp.lst_of h1
  obtain ⟨b, ws, p1, p2, p3⟩ := Dp.lst_of h2
  refine ⟨a, b, vs, ws, q1, p1, ex_l hide_le q2, ex_l hide_le p2, sz_of (by rw [q3.length, p3.length]; exact hz), fun p hp => ?_⟩
  obtain ⟨o', x', d'⟩ := o.lst hp (q3.append p3)
  exact k _ _ o' x' d'
end FD
/-! promises over objects where the def chooses what comes back -/
namespace FD
open PySem L2 Evl
def spX (K : PySem.W.Frag) (n : Nat) (Pre : List Ent → Mem → Prop) (Post : List Ent → Mem → PyData → Mem → Prop) : Sp := fun vs H Q _ => vs.length = n ∧ ∃ M es μ, (∀ a ∈ M, H a ≠ none) ∧ Paired (EntOk K (hide M H)) es vs ∧ (∀ p ∈ μ, p.1 ∈ M ∧ MOok K (hide M H) H p.1 p.2) ∧ (ad μ).Nodup ∧ Pre es μ ∧
  ∀ v H' d μ', Post es μ d μ' → ad μ' = ad μ → Ex (hide (ad μ) H) H' → (∀ p ∈ μ', MOok K (hide M H') H' p.1 p.2) → Dp K (hide M H') v d → Q v H'
def spXN (K : PySem.W.Frag) (n : Nat) (Pre : List Ent → Mem → Prop) (Post : List Ent → Mem → MO → Mem → Prop) : Sp := fun vs H Q _ => vs.length = n ∧ ∃ M es μ, (∀ a ∈ M, H a ≠ none) ∧ Paired (EntOk K (hide M H)) es vs ∧ (∀ p ∈ μ, p.1 ∈ M ∧ MOok K (hide M H) H p.1 p.2) ∧ (ad μ).Nodup ∧ Pre es μ ∧
  ∀ p H' mo μ', Post es μ mo μ' → ad μ' = ad μ → H p = none → Ex (hide (ad μ) H) H' → MOok K (hide (p :: M) H') H' p mo → (∀ q ∈ μ', MOok K (hide (p :: M) H') H' q.1 q.2) → Q (.ref p) H'
section
variable {P : Program} {w : World} {K : PySem.W.Frag} {mg : Str → Option Value} {base : Heap}
theorem def_X {x qual : Str} {st : Stmt} {f : Addr} {fd : FuncData} {N ps : List Str} {k n : Nat} {Pre : List Ent → Mem → Prop} {Post : List Ent → Mem → PyData → Mem → Prop} (F : Fun K x qual st f fd) (S : FnScope N ps (defScope st)) (hN : ps.length ≤ N.length) (hp : ps.length = n)
    (h : ∀ (cdv : Value) (A : Around) (outer : List Env) (s : Shared) (H : Hp) (E : XK), Room k (A.deeper (PyProof.Rows.envOfC qual (defScope st) s.heap.objs.size f cdv)) →
      ∃ t, PSs (cxOf CX0 P w K mg base N qual (defScope st) f cdv A outer s H E).nox (defBody st) t ∧
        ∀ (M : List Addr) (G B : Hp) (es : List Ent) (μ : Mem), (ad μ).Nodup → Pre es μ → ∀ D : Ends, (∀ d μ', Post es μ d μ' → ad μ' = ad μ → FinE ⟨K, M, G, B⟩ D d μ') → Run ⟨K, M, G, B⟩ t D M (startE N.length es.length es) μ) :
    FnOk P w K mg base CX0 (k + 1) f fd ps (spX K n Pre Post) := by
  refine F.ok S (fun vs H Q E hs => hs.1.trans hp.symm) fun cdv A outer s H vs Q E hr hs => ?_
  obtain ⟨hn, M, es, μ, al, he, hm, nd, hP, kk⟩ := hs
  obtain ⟨t, ht, run⟩ := h cdv A outer s H E hr
  refine ⟨t, ht, run M (hide (ad μ) H) (hide M H) es μ nd hP _ (fun d μ' hq had v M' H' e s m r => kk v H' d μ' hq had e (fun p hp => (m p hp).mono (hide_sub s) fun _ q => q) (dp_mono (hide_sub s) _ _ r)) _ _ (ok_startE al he hm nd (by rw [hn, ← hp]; exact hN))⟩
theorem def_XN {x qual : Str} {st : Stmt} {f : Addr} {fd : FuncData} {N ps : List Str} {k n : Nat} {Pre : List Ent → Mem → Prop} {Post : List Ent → Mem → MO → Mem → Prop} (F : Fun K x qual st f fd) (S : FnScope N ps (defScope st)) (hN : ps.length ≤ N.length) (hp : ps.length = n)
    (h : ∀ (cdv : Value) (A : Around) (outer : List Env) (s : Shared) (H : Hp) (E : XK), Room k (A.deeper (PyProof.Rows.envOfC qual (defScope st) s.heap.objs.size f cdv)) →
      ∃ t, PSs (cxOf CX0 P w K mg base N qual (defScope st) f cdv A outer s H E).nox (defBody st) t ∧
        ∀ (M : List Addr) (G B : Hp) (es : List Ent) (μ : Mem), (ad μ).Nodup → Pre es μ → ∀ D : Ends, (∀ mo μ', Post es μ mo μ' → ad μ' = ad μ → FinEN ⟨K, M, G, B⟩ D mo μ') → Run ⟨K, M, G, B⟩ t D M (startE N.length es.length es) μ) :
    FnOk P w K mg base CX0 (k + 1) f fd ps (spXN K n Pre Post) := by
  refine F.ok S (fun vs H Q E hs => hs.1.trans hp.symm) fun cdv A outer s H vs Q E hr hs => ?_
  obtain ⟨hn, M, es, μ, al, he, hm, nd, hP, kk⟩ := hs
  obtain ⟨t, ht, run⟩ := h cdv A outer s H E hr
  refine ⟨t, ht, run M (hide (ad μ) H) (hide M H) es μ nd hP _ (fun mo μ' hq had p M' H' g pM e s pm m mm => ?_) _ _ (ok_startE al he hm nd (by rw [hn, ← hp]; exact hN))⟩
  have sub : ∀ a ∈ p :: M, a ∈ M' := fun a ha => (List.mem_cons.mp ha).elim (fun z => by rw [z]; exact pm) (s a)
  have hp0 : H p = none := by
    have : hide (ad μ) H p = none := g
    rw [hide_out (fun z => ?_)] at this
    · exact this
    · obtain ⟨q, hq, e⟩ := List.mem_map.mp z
      exact pM (by have := (hm q hq).1; rw [e] at this; exact this)
  exact kk p H' mo μ' hq had hp0 e (m.mono (hide_sub sub) fun _ q => q) (fun q hq => (mm q hq).mono (hide_sub sub) fun _ q => q)
end
section
variable {C : Cfg} {M : List Addr} {δ : List Ent} {μ μ0 μ1 : Mem} {tr : TA} {D : Ends} {t1 t2 : TS} {i j n : Nat} {es : List Ent} {E : XK} {b : Addr} {mo mo' : MO} {u : TT} {g : TG}
theorem swap_set (hj : μ1[j]? = some (b, mo)) (nd : (ad μ1).Nodup) : Swap [(b, mo)] [(b, mo')] μ1 (μ1.set j (b, mo')) where
  sub := fun p hp => by rw [List.mem_singleton.mp hp]; exact List.mem_of_getElem? hj
  ad0 := rfl
  ad1 := map_set_fst hj
  new := fun p hp => by
    obtain ⟨k, hk⟩ := List.getElem?_of_mem hp
    by_cases q : j = k
    · subst q
      rw [List.getElem?_set_self (List.getElem?_eq_some_iff.mp hj).1] at hk
      exact .inl (by rw [← Option.some.inj hk]; simp)
    · rw [List.getElem?_set_ne q] at hk
      refine .inr ⟨List.mem_of_getElem? hk, fun z => ?_⟩
      have z : p.1 = b := by simpa using z
      obtain ⟨x, y⟩ := p
      have z : x = b := z
      subst z
      exact q (nodup_fst nd hj hk)
theorem r_asgXG {Pre : List Ent → Mem → Prop} {Post : List Ent → Mem → PyData → Mem → Prop} (h : EvA C tr M δ μ μ1 es) (hsub : ∀ p ∈ μ0, p ∈ μ1) (nd : (ad μ1).Nodup → (ad μ0).Nodup) (hP : Pre es μ0)
    (k : (ad μ1).Nodup → ∀ d μ0', Post es μ0 d μ0' → ad μ0' = ad μ0 → ∃ μ2 tl δ2, Swap μ0 μ0' μ1 μ2 ∧ TgX C.K g tl d δ δ2 ∧ Nx C D M δ2 μ2) (hn : es.length = n := by rfl) :
    Run C (tAsg (tCall (spX C.K n Pre Post) [] E tr) g) D M δ μ := fun σ H o => h σ H o _ fun vs H1 o1 x1 r1 => by
  rw [List.append_nil]
  refine ⟨by rw [← paired_len r1]; exact hn, M, es, μ0, o1.alloc, r1, fun p hp => let q := o1.mem p (hsub p hp); ⟨q.1, q.2.2⟩, nd o1.nd, hP, fun v H2 d μ0' hq had e2 m2 d2 => ?_⟩
  obtain ⟨μ2, tl, δ2, sw, tg, run⟩ := k o1.nd d μ0' hq had
  obtain ⟨o2, x2⟩ := after_E o1 sw e2 m2
  exact tg C M μ2 σ H2 v rfl o2 d2 _ fun σ' o3 _ _ => run σ' H2 o3
theorem q_asgXG {Pre : List Ent → Mem → Prop} {Post : List Ent → Mem → PyData → Mem → Prop} (h : EvA C tr M δ μ μ1 es) (hsub : ∀ p ∈ μ0, p ∈ μ1) (nd : (ad μ1).Nodup → (ad μ0).Nodup) (hP : Pre es μ0)
    (k : (ad μ1).Nodup → ∀ d μ0', Post es μ0 d μ0' → ad μ0' = ad μ0 → ∃ μ2 tl δ2, Swap μ0 μ0' μ1 μ2 ∧ TgX C.K g tl d δ δ2 ∧ Run C t2 D M δ2 μ2) (hn : es.length = n := by rfl) :
    Run C (tSeq (tAsg (tCall (spX C.K n Pre Post) [] E tr) g) t2) D M δ μ := r_asgXG (D := { D with nx := t2 D }) h hsub nd hP k hn
theorem q_asgXN {Pre : List Ent → Mem → Prop} {Post : List Ent → Mem → MO → Mem → Prop} (h : EvA C tr M δ μ μ1 es) (hsub : ∀ p ∈ μ0, p ∈ μ1) (nd : (ad μ1).Nodup → (ad μ0).Nodup) (hP : Pre es μ0)
    (k : (ad μ1).Nodup → ∀ mo μ0', Post es μ0 mo μ0' → ad μ0' = ad μ0 → ∃ μ2, Swap μ0 μ0' μ1 μ2 ∧ ∀ p, p ∉ M → Run C t2 D (p :: M) (δ.set i (.m p)) ((p, mo) :: μ2)) (hn : es.length = n := by rfl) :
    Run C (tSeq (tAsg (tCall (spXN C.K n Pre Post) [] E tr) (gName i)) t2) D M δ μ := fun σ H o => h σ H o _ fun vs H1 o1 x1 r1 => by
  rw [List.append_nil]
  refine ⟨by rw [← paired_len r1]; exact hn, M, es, μ0, o1.alloc, r1, fun p hp => let q := o1.mem p (hsub p hp); ⟨q.1, q.2.2⟩, nd o1.nd, hP, fun p H2 mo μ0' hq had hp e2 m1 m2 => ?_⟩
  obtain ⟨μ2, sw, run⟩ := k o1.nd mo μ0' hq had
  obtain ⟨pM, o2⟩ := ok_newE (G := []) o1 sw hp e2 m1 m2
  exact run p pM _ _ (o2.set i (e := .m p) rfl)
/-- if not f(..) or u: .. -/
theorem r_ifX {Pre : List Ent → Mem → Prop} {Post : List Ent → Mem → PyData → Mem → Prop} (h : EvA C tr M δ μ μ1 es) (hsub : ∀ p ∈ μ0, p ∈ μ1) (nd : (ad μ1).Nodup → (ad μ0).Nodup) (hP : Pre es μ0)
    (k : (ad μ1).Nodup → ∀ d μ0', Post es μ0 d μ0' → ad μ0' = ad μ0 → d = .bool true ∧ ∃ μ2, Swap μ0 μ0' μ1 μ2 ∧ EvT C u M δ μ2 μ2 false ∧ Run C t2 D M δ μ2) (hn : es.length = n := by rfl) :
    Run C (tIfS (tOr (tNot (tB (tCall (spX C.K n Pre Post) [] E tr))) u) t1 t2) D M δ μ := fun σ H o => h σ H o _ fun vs H1 o1 x1 r1 => by
  rw [List.append_nil]
  refine ⟨by rw [← paired_len r1]; exact hn, M, es, μ0, o1.alloc, r1, fun p hp => let q := o1.mem p (hsub p hp); ⟨q.1, q.2.2⟩, nd o1.nd, hP, fun v H2 d μ0' hq had e2 m2 d2 => ?_⟩
  obtain ⟨rfl, μ2, sw, ht, run⟩ := k o1.nd d μ0' hq had
  obtain ⟨o2, x2⟩ := after_E o1 sw e2 m2
  refine ⟨true, Dp.bool_of d2, ?_⟩
  show (if (!true) = true then _ else _)
  rw [if_neg (by decide)]
  refine ht σ H2 o2 _ fun H3 o3 x3 => ?_
  show (if false = true then _ else _)
  rw [if_neg (by decide)]
  exact run σ H3 o3
end
end FD
/-! more of promises over objects: keywords, a new dict compared at once -/
namespace FD
open PySem L2 Evl
section
variable {C : Cfg} {M : List Addr} {δ : List Ent} {μ μ1 : Mem} {tr : TA} {ta tb : TE} {D : Ends} {t1 t2 : TS} {i m n : Nat} {es es' : List Ent} {E : XK} {a b : Addr} {mo mo' : MO} {d : PyData} {gV : List V → List V → List V}
theorem q_asgEN1 {R : List Ent → Mem → MO → Mem → Prop} (h : EvA C tr M δ μ μ1 es) (hj : (a, mo) ∈ μ1) (hR : R es [(a, mo)] mo' [(a, mo)]) (k : ∀ p, p ∉ M → Run C t2 D (p :: M) (δ.set i (.m p)) ((p, mo') :: μ1)) (hn : es.length = n := by rfl) :
    Run C (tSeq (tAsg (tCall (spEN C.K n R) [] E tr) (gName i)) t2) D M δ μ := fun σ H o => h σ H o _ fun vs H1 o1 x1 r1 => by
  rw [List.append_nil]
  refine ⟨by rw [← paired_len r1]; exact hn, M, es, [(a, mo)], mo', [(a, mo)], o1.alloc, r1, fun p hp => by rw [List.mem_singleton.mp hp]; let q := o1.mem _ hj; exact ⟨q.1, q.2.2⟩, by simp, rfl, hR, fun p H2 hp e2 m1 m2 => ?_⟩
  obtain ⟨pM, o2⟩ := ok_newE (G := []) o1 (swap_same hj o1.nd) hp e2 m1 m2
  exact k p pM _ _ (o2.set i (e := .m p) rfl)
theorem x_callEK {R : List Ent → Mem → PyData → Mem → Prop} (h : EvA C tr M δ μ μ1 es) (hg : ∀ (H : Hp) (zs : List V), Paired (EntOk C.K H) es zs → Paired (EntOk C.K H) es' (gV [] zs)) (hj : (a, mo) ∈ μ1) (hR : R es' [(a, mo)] d [(a, mo)]) (hm : es.length = m := by rfl) (hn : es'.length = n := by rfl) :
    EvX C (tCallN 0 m (spE C.K n R) gV E tNil tr) M δ μ μ1 (.d d) := fun σ H o Q k => h σ H o _ fun vs H1 o1 x1 r1 => by
  have d1 := hg _ _ r1
  refine ⟨rfl, by rw [← paired_len r1]; exact hm, by rw [← paired_len d1]; exact hn, M, es', [(a, mo)], d, [(a, mo)], o1.alloc, d1, fun p hp => by rw [List.mem_singleton.mp hp]; let q := o1.mem _ hj; exact ⟨q.1, q.2.2⟩, by simp, rfl, hR, fun v H2 e2 m2 d2 => ?_⟩
  obtain ⟨o2, x2⟩ := after_E o1 (swap_same hj o1.nd) e2 m2
  exact k v H2 o2 (x1.trans x2) d2
theorem o_neDK {l : Dct} (ha : (a, .dK (kd l)) ∈ μ) (hb : (b, .dK (kd l)) ∈ μ) (nd : (l.map (·.1)).Nodup) (sh : ∀ p ∈ l, SeqAt.shaped p.2 = true) : OpX C (rNeDK C.K) M δ μ μ (.m a) (.m b) (.d (.bool false)) := fun σ H x y o h1 h2 Q k => by
  obtain ⟨_, _, ks, e1, c1⟩ := o.mem _ ha
  obtain ⟨_, _, ls, e2, c2⟩ := o.mem _ hb
  exact ⟨a, b, ks, ls, l, h1, h2, e1, e2, Paired.mapP c1 fun p q z => ⟨z.1, DvOk.mono hide_le z.2⟩, Paired.mapP c2 fun p q z => ⟨z.1, DvOk.mono hide_le z.2⟩, nd, sh, k _ H o (Ex.refl _) (.bl _)⟩
/-- if f(k = x) != y: .., dicts both -/
theorem r_ifEN {R : List Ent → Mem → MO → Mem → Prop} {l : Dct} (h : EvA C tr M δ μ μ1 es) (hg : ∀ (H : Hp) (zs : List V), Paired (EntOk C.K H) es zs → Paired (EntOk C.K H) es' (gV [] zs)) (hj : (a, mo) ∈ μ1) (hR : R es' [(a, mo)] (.dK (kd l)) [(a, mo)])
    (hb : ∀ p, p ∉ M → EvX C tb (p :: M) δ ((p, .dK (kd l)) :: μ1) ((p, .dK (kd l)) :: μ1) (.m b)) (hm : (b, .dK (kd l)) ∈ μ1) (nd : (l.map (·.1)).Nodup) (sh : ∀ p ∈ l, SeqAt.shaped p.2 = true) (k : ∀ p, p ∉ M → Run C t2 D (p :: M) δ ((p, .dK (kd l)) :: μ1)) (hm' : es.length = m := by rfl) (hn : es'.length = n := by rfl) :
    Run C (tIfS (tTest (tOp (rNeDK C.K) (tCallN 0 m (spEN C.K n R) gV E tNil tr) tb)) t1 t2) D M δ μ := fun σ H o => h σ H o _ fun vs H1 o1 x1 r1 => by
  have d1 := hg _ _ r1
  refine ⟨rfl, by rw [← paired_len r1]; exact hm', by rw [← paired_len d1]; exact hn, M, es', [(a, mo)], .dK (kd l), [(a, mo)], o1.alloc, d1, fun p hp => by rw [List.mem_singleton.mp hp]; let q := o1.mem _ hj; exact ⟨q.1, q.2.2⟩, by simp, rfl, hR, fun p H2 hp e2 m1 m2 => ?_⟩
  obtain ⟨pM, o2⟩ := ok_newE (G := []) o1 (swap_same hj o1.nd) hp e2 m1 m2
  refine hb p pM σ H2 o2 _ fun y H3 o3 x3 r3 => ?_
  refine o_neDK (a := p) (b := b) List.mem_cons_self (List.mem_cons_of_mem _ hm) nd sh σ H3 (.ref p) y o3 rfl r3 _ fun v H4 o4 x4 r4 => ?_
  refine ⟨false, Dp.bool_of r4, ?_⟩
  dsimp only
  rw [if_neg Bool.false_ne_true]
  exact k p pM σ H4 o4
theorem q_ifEN {R : List Ent → Mem → MO → Mem → Prop} {l : Dct} {t3 : TS} (h : EvA C tr M δ μ μ1 es) (hg : ∀ (H : Hp) (zs : List V), Paired (EntOk C.K H) es zs → Paired (EntOk C.K H) es' (gV [] zs)) (hj : (a, mo) ∈ μ1) (hR : R es' [(a, mo)] (.dK (kd l)) [(a, mo)])
    (hb : ∀ p, p ∉ M → EvX C tb (p :: M) δ ((p, .dK (kd l)) :: μ1) ((p, .dK (kd l)) :: μ1) (.m b)) (hm : (b, .dK (kd l)) ∈ μ1) (nd : (l.map (·.1)).Nodup) (sh : ∀ p ∈ l, SeqAt.shaped p.2 = true) (k : ∀ p, p ∉ M → Run C t3 D (p :: M) δ ((p, .dK (kd l)) :: μ1)) (hm' : es.length = m := by rfl) (hn : es'.length = n := by rfl) :
    Run C (tSeq (tIfS (tTest (tOp (rNeDK C.K) (tCallN 0 m (spEN C.K n R) gV E tNil tr) tb)) t1 tNext) t3) D M δ μ := r_ifEN (D := { D with nx := t3 D }) (t2 := tNext) h hg hj hR hb hm nd sh k hm' hn
end
end FD
/-! walks over one's own list that stays as it is -/
namespace FD
open PySem L2 Evl
structure WalkM (K : PySem.W.Frag) (J : It) (N : List Addr → Hp → Prop) (xs : List PyData) : Prop where
  go : ∀ (M : List Addr) (i : Nat) (H : Hp), i < xs.length → N M H → J.go i H
  stop : ∀ (M : List Addr) (H : Hp), N M H → J.stop xs.length H
  yld : ∀ (M : List Addr) (i : Nat) (H : Hp) (x : V) (H' : Hp), i < xs.length → N M H → J.yld i H x H' → Ex H H' ∧ ∃ d, xs[i]? = some d ∧ Dp K (hide M H') x d
def OwnL (K : PySem.W.Frag) (a : Addr) (xs : List PyData) (M : List Addr) (H : Hp) : Prop := ∃ vs, H a = some (.lst vs) ∧ DpAll K (hide M H) vs xs
theorem walk_own {K : PySem.W.Frag} {a : Addr} {xs : List PyData} : WalkM K (Itl K a) (OwnL K a xs) xs where
  go := fun M i H hi ⟨vs, h, hd⟩ => by
    rw [← hd.length] at hi
    exact ⟨vs, vs[i], SqL.of h, by simp [hi]⟩
  stop := fun M H ⟨vs, h, hd⟩ => ⟨vs, SqL.of h, by rw [hd.length]; exact Nat.le_refl _⟩
  yld := fun M i H y H' hi ⟨vs, h, hd⟩ q => by
    obtain ⟨e, q⟩ := q
    subst e
    refine ⟨Ex.refl _, xs[i], by simp [hi], ?_⟩
    obtain ⟨v, h1, h2⟩ := hd.get (i := i) (d := xs[i]) (by simp [hi])
    have := q vs (SqL.of h)
    rw [this] at h1
    cases h1
    exact h2
theorem own_here {K : PySem.W.Frag} {M0 : List Addr} {G B : Hp} {M : List Addr} {δ : List Ent} {μ : Mem} {σ : L2.St} {H : Hp} {a : Addr} {xs : List PyData} (o : Ok ⟨K, M0, G, B⟩ M δ μ σ H) (h : (a, MO.lst xs) ∈ μ) : OwnL K a xs M H := (o.mem _ h).2.2
section
variable {C : Cfg} {M : List Addr} {δ : List Ent} {μ μ' μ1 : Mem} {t : TT} {te : TE}
theorem x_lcMl {a : Addr} {te0 : TE} {g : TG} {vs : List Nat} {xs : List PyData} (S : Nat → Mem) (b : Nat → Bool) (f : Nat → PyData) (h0 : EvX C te0 M δ μ (S 0) (.m a)) (hm : ∀ i, i ≤ xs.length → (a, MO.lst xs) ∈ S i) (hz : xs.length ≤ 100000)
    (hs : ∀ (i : Nat) (d : PyData), xs[i]? = some d → ∀ (G B : Hp) (D : Addr), LcTurn { C with G := G, B := B } g t te vs (D :: M) δ (S i) (S (i + 1)) d (b i) (f i)) :
    EvX C (tLc (iList C.K te0) g t te vs) M δ μ (S xs.length) (.l (lcD b f xs.length)) := fun σ H o Q k => by
  refine h0 σ H o _ fun va H1 o1 x1 ra => ?_
  have ra : va = .ref a := ra
  subst ra
  obtain ⟨_, _, vs0, q1, q2⟩ := o1.mem _ (hm 0 (Nat.zero_le _))
  refine ⟨a, rfl, ⟨vs0, SqL.of q1⟩, fun D hD => ?_⟩
  have W := walk_own (K := C.K) (a := a) (xs := xs)
  have oB := o1.toB
  have hDM : D ∉ M := o1.fresh hD
  have o2 : Ok { C with B := hide M H1 } (D :: M) δ (S 0) σ (upd H1 D (.lst [])) :=
    (oB.new hD (mo := .lst []) ⟨[], upd_same, .nil⟩).mems (fun p hp => List.mem_cons_of_mem _ hp) o1.nd
  have hS : ∀ {i : Nat} {H'}, Ok { C with B := hide M H1 } (D :: M) δ (S i) σ H' → (∀ p ∈ S i, p.1 ∈ M) → ∀ p ∈ S i, p.1 ≠ D := fun o' h p hp z => hDM (z ▸ h p hp)
  have gD : C.G D = none := by
    cases z : C.G D with
    | none => rfl
    | some u => have := o1.gr D u z; rw [hD] at this; cases this
  refine ⟨fun i m H' => m = xs.length - i ∧ i ≤ xs.length ∧ (∀ p ∈ S i, p.1 ∈ M) ∧ Ok { C with B := hide M H1 } (D :: M) δ (S i) σ H' ∧ ∃ acc, H' D = some (.lst acc) ∧ DpAll C.K (hide (D :: M) H') acc (lcD b f i),
    ⟨xs.length, by simp, Nat.zero_le _, fun p hp => (o1.mem p hp).1, o2, [], upd_same, .nil⟩, ?_⟩
  rintro i m H' ⟨rfl, hi', hSM, oi, acc, hacc, dacc⟩
  by_cases hlt : i < xs.length
  · refine .inr ⟨W.go (D :: M) i H' hlt (own_here oi (hm i hi')), fun H'' => (∀ p ∈ S (i + 1), p.1 ∈ M) ∧ Ok { C with B := hide M H1 } (D :: M) δ (S (i + 1)) σ H'' ∧ ∃ acc, H'' D = some (.lst acc) ∧ DpAll C.K (hide (D :: M) H'') acc (lcD b f (i + 1)),
      fun H'' q => ⟨xs.length - (i + 1), by omega, rfl, hlt, q⟩, fun x H2 y => ?_⟩
    obtain ⟨e2, d, hd, dx⟩ := W.yld (D :: M) i H' x H2 hlt (own_here oi (hm i hi')) y
    have o3 := oi.grow e2
    have nD : ∀ p ∈ S i, p.1 ≠ D := hS oi hSM
    -- all that is hidden and not spoken of stays: the list at D
    have o4 := o3.toG
    obtain ⟨ts, δ', μ1, tg, hts, ht, he, hno⟩ := (hs i d hd (hide ((S i).map (·.1)) H2) (hide M H1) D).go
    have hD2 : H2 D = some (.lst acc) := e2 D _ hacc
    have gD2 : hide ((S i).map (·.1)) H2 D = some (.lst acc) := by
      rw [hide_out (fun z => ?_)]
      · exact hD2
      · obtain ⟨r, hr, er⟩ := List.mem_map.mp z
        exact nD r hr er
    refine tg _ _ _ _ _ _ rfl (o4.wiped vs) dx _ fun σ2 o5 hl2 hσ2 => ⟨wipe_eq (by rw [hl2, wipe_length]) hσ2 hts, ?_⟩
    refine ht σ2 H2 o5 _ fun H3 o6 x6 => ?_
    have memM : ∀ {μ9 : Mem} {δ9 : List Ent} {σ9 : L2.St} {H9 : Hp}, Ok { C with G := hide ((S i).map (·.1)) H2, B := hide M H1 } (D :: M) δ9 μ9 σ9 H9 → ∀ p ∈ μ9, p.1 ∈ M := fun o9 p hp => by
      have a := (o9.mem p hp).1
      have g9 : hide ((S i).map (·.1)) H2 p.1 = none := (o9.mem p hp).2.1
      rcases List.mem_cons.mp a with z | z
      · rw [z, gD2] at g9; cases g9
      · exact z
    cases hb : b i with
    | true =>
      rw [if_pos rfl]
      refine he hb σ2 H3 o6 _ fun v H4 o7 x7 r7 => ?_
      have hD4 : H4 D = some (.lst acc) := o7.gr D _ gD2
      have o8 : Ok { C with B := hide M H1 } (D :: M) δ (S (i + 1)) σ H4 := o3.swap (o3.ofG o7) (x6.trans x7)
      have hSM' : ∀ p ∈ S (i + 1), p.1 ∈ M := memM o7
      have hlen : acc.length ≤ i := by rw [dacc.length]; exact lcD_len b f i
      refine ⟨acc, hD4, sz_lt (by omega), hSM', o8.writeH List.mem_cons_self (fun p hp z => hDM (z ▸ hSM' p hp)) gD (by rw [hD4]; rfl), _, upd_same, ?_⟩
      rw [hide_upd List.mem_cons_self (by rw [hD4]; rfl) rfl, lcD_yes hb]
      exact (dpAll_mono ((hide_ex e2).trans (x6.trans x7)) _ _ dacc).append (.cons r7 .nil)
    | false =>
      rw [if_neg Bool.false_ne_true]
      have hm := hno hb
      subst hm
      refine ⟨memM o6, o3.swap (o3.ofG o6) x6, acc, o6.gr D _ gD2, ?_⟩
      rw [lcD_no hb]
      exact dpAll_mono ((hide_ex e2).trans x6) _ _ dacc
  · have ei : i = xs.length := by omega
    subst ei
    refine .inl ⟨W.stop (D :: M) H' (own_here oi (hm _ hi')), ?_⟩
    have s1 : ∀ a ∈ M, a ∈ D :: M := fun a ha => List.mem_cons_of_mem _ ha
    have oE : Ok C M δ (S xs.length) σ H' := (oi.drop (M := M) s1 hSM o1.sub).reB o1.base
    have xE : Ex (hide M H) (hide M H') := x1.trans (oi.base.trans (hide_sub s1))
    refine k _ H' oE xE ⟨D, acc, rfl, ?_, dpAll_mono (hide_sub s1) _ _ dacc⟩
    rw [hide_out hDM]; exact hacc
theorem x_lcM {a : Addr} {te0 : TE} {g : TG} {vs : List Nat} {xs : List PyData} (S : Nat → Mem) (b : Nat → Bool) (f : Nat → PyData) (h0 : EvX C te0 M δ μ (S 0) (.m a)) (hm : ∀ i, i ≤ xs.length → (a, MO.lst xs) ∈ S i) (hz : xs.length ≤ 100000)
    (hs : ∀ (i : Nat) (d : PyData), xs[i]? = some d → ∀ (G B : Hp) (D : Addr), LcTurn { C with G := G, B := B } g t te vs (D :: M) δ (S i) (S (i + 1)) d (b i) (f i)) :
    EvX C (tLc (iList C.K te0) g t te vs) M δ μ (S xs.length) (.d (.list (lcD b f xs.length))) := x_wl (x_lcMl S b f h0 hm hz hs)
end
section
variable {C : Cfg} {M : List Addr} {δ : List Ent} {μ μ1 : Mem} {D : Ends} {ts t2 : TS}
theorem r_forM {a : Addr} {te0 : TE} {g : TG} {xs : List PyData} (hi : EvX C te0 M δ μ μ1 (.m a)) (P : Nat → List Ent → Mem → Prop) (hm : ∀ (i : Nat) (δ1 : List Ent) (μ1 : Mem), i ≤ xs.length → P i δ1 μ1 → (a, MO.lst xs) ∈ μ1) (h0 : P 0 δ μ1)
    (hs : ∀ B, Ex C.B B → ∀ (i : Nat) (d : PyData) (δ1 : List Ent) (μ1 : Mem), xs[i]? = some d → P i δ1 μ1 → ∃ tl δ2, TgX C.K g tl d δ1 δ2 ∧
      Run { C with B := B } ts { D with nx := NX { C with B := B } M (P (i + 1)), ct := NX { C with B := B } M (P (i + 1)), bk := D.nx } M δ2 μ1)
    (hd : ∀ δ1 μ1, P xs.length δ1 μ1 → Nx C D M δ1 μ1) : Run C (tFor (iList C.K te0) g ts) D M δ μ := fun σ H o => by
  refine hi σ H o _ fun va H1 o1 x1 ra => ?_
  have ra : va = .ref a := ra
  subst ra
  obtain ⟨_, _, vs0, q1, q2⟩ := o1.mem _ (hm 0 _ _ (Nat.zero_le _) h0)
  have W := walk_own (K := C.K) (a := a) (xs := xs)
  refine ⟨a, rfl, ⟨vs0, SqL.of q1⟩, fun i m σ' H' => m = xs.length - i ∧ i ≤ xs.length ∧ NX { C with B := hide M H1 } M (P i) σ' H', ⟨xs.length, by simp, Nat.zero_le _, δ, μ1, h0, o1.toB⟩, ?_⟩
  rintro i m σ' H' ⟨rfl, hi', δ1, μ1, hP, oi⟩
  by_cases hlt : i < xs.length
  · refine .inr ⟨W.go M i H' hlt (own_here oi (hm i _ _ hi' hP)), NX { C with B := hide M H1 } M (P (i + 1)), fun σ2 H2 q => ⟨xs.length - (i + 1), by omega, rfl, hlt, q⟩, fun x H2 y => ?_⟩
    obtain ⟨e2, d, hd, dx⟩ := W.yld M i H' x H2 hlt (own_here oi (hm i _ _ hi' hP)) y
    obtain ⟨tl, δ2, tg, run⟩ := hs (hide M H1) o1.base i d δ1 μ1 hd hP
    exact tg { C with B := hide M H1 } _ _ _ _ _ rfl (oi.grow e2) dx _ fun σ3 o3 _ _ => run σ3 H2 o3
  · have ei : i = xs.length := by omega
    subst ei
    exact .inl ⟨W.stop M H' (own_here oi (hm _ _ _ hi' hP)), hd δ1 μ1 hP σ' H' (oi.reB o1.base)⟩
end
end FD
/-! dict comprehensions, a text sought in a dict, tuple.count -/
namespace FD
open PySem PySem.Spec L2 Evl PyProof.Rows
section
variable {C : Cfg} {M : List Addr} {δ : List Ent} {μ μ1 μ2 μ' : Mem} {te ta tb tk tv : TE} {g : TG} {wi : TI} {vs : List Nat} {xs : List PyData} {mo : MO} {D : Ends} {t2 : TS} {i j : Nat} {a : Addr} {kvs : List (Key × PyData)}
/-- an expression that makes an object of one's own -/
def EvN (C : Cfg) (te : TE) (M : List Addr) (δ : List Ent) (μ μ1 : Mem) (mo : MO) : Prop := ∀ (σ : L2.St) (H : Hp), Ok C M δ μ σ H → ∀ Q : VK, (∀ p H', p ∉ M → Ok C (p :: M) δ ((p, mo) :: μ1) σ H' → Ex (hide M H) (hide (p :: M) H') → Q (.ref p) H') → te σ H Q
theorem x_dc {N : Hp → Prop} {l : Dct} (hi : EvIN C wi M δ μ μ' N xs) (hN : ∀ (B : Hp) (p : Addr) (q : MO) (σ : L2.St) (H : Hp), Ok { C with B := B } (p :: M) δ ((p, q) :: μ') σ H → N H) (hl : l.length = xs.length) (hz : xs.length < 1000) (nd : (l.map (·.1)).Nodup)
    (hs : ∀ (i : Nat) (d : PyData) (q : Str × PyData), xs[i]? = some d → l[i]? = some q → ∀ (B : Hp) (p : Addr), ∃ ts δ', TgX C.K g ts d (wipeE δ vs) δ' ∧ (∀ k ∈ ts, k ∈ vs) ∧ EvX { C with B := B } tk (p :: M) δ' ((p, .dK (kd (l.take i))) :: μ') ((p, .dK (kd (l.take i))) :: μ') (.d (.str q.1)) ∧ EvX { C with B := B } tv (p :: M) δ' ((p, .dK (kd (l.take i))) :: μ') ((p, .dK (kd (l.take i))) :: μ') (.d q.2)) :
    EvN C (tDc wi g tYes tk tv vs) M δ μ μ' (.dK (kd l)) := fun σ H o Q k => by
  refine hi σ H o _ fun J H1 o1 x1 W D hD => ?_
  have oB := o1.toB
  have hDM : D ∉ M := o1.fresh hD
  have o2 : Ok { C with B := hide M H1 } (D :: M) δ ((D, .dK (kd (l.take 0))) :: μ') σ (upd H1 D (.dK [])) := oB.new hD (mo := .dK (kd [])) ⟨[], upd_same, .nil⟩
  refine ⟨fun i m H' => m = xs.length - i ∧ i ≤ xs.length ∧ Ok { C with B := hide M H1 } (D :: M) δ ((D, .dK (kd (l.take i))) :: μ') σ H', ⟨xs.length, by simp, Nat.zero_le _, o2⟩, ?_⟩
  rintro i m H' ⟨rfl, hi', oi⟩
  by_cases hlt : i < xs.length
  · refine .inr ⟨W.go (D :: M) i H' hlt oi.alloc oi.base (hN _ _ _ _ _ oi), fun H'' => Ok { C with B := hide M H1 } (D :: M) δ ((D, .dK (kd (l.take (i + 1)))) :: μ') σ H'', fun H'' q => ⟨xs.length - (i + 1), by omega, rfl, hlt, q⟩, fun x H2 y => ?_⟩
    obtain ⟨e2, d, hd, dx⟩ := W.yld (D :: M) i H' x H2 hlt oi.alloc oi.base (hN _ _ _ _ _ oi) y
    have o3 := oi.grow e2
    have o4 := o3.toG
    obtain ⟨q, hq⟩ : ∃ q, l[i]? = some q := ⟨_, List.getElem?_eq_getElem (by omega)⟩
    obtain ⟨ts, δ', tg, hts, hk, hv⟩ := hs i d q hd hq (hide M H1) D
    refine tg { C with B := hide M H1 } _ _ _ _ _ rfl (o3.wiped vs) dx _ fun σ2 o5 hl2 hσ2 => ⟨wipe_eq (by rw [hl2, wipe_length]) hσ2 hts, ?_⟩
    refine t_yes σ2 H2 o5 _ fun H3 o6 x6 => ?_
    rw [if_pos rfl]
    refine hk σ2 H3 o6 _ fun y H4 o7 x7 r7 => ?_
    refine hv σ2 H4 o7 _ fun z H5 o8 x8 r8 => ?_
    have o9 : Ok { C with B := hide M H1 } (D :: M) δ ((D, .dK (kd (l.take i))) :: μ') σ H5 := o3.swap o8 ((x6.trans x7).trans x8)
    have e4 : y = .str q.1 := Dp.str_of r7
    obtain ⟨_, _, ws, q3, q4⟩ := o9.mem _ List.mem_cons_self
    have hnk : q.1 ∉ (l.take i).map (·.1) := fun z => by
      rw [List.map_take] at z
      obtain ⟨n, hn⟩ := List.getElem?_of_mem z
      have hlt := (List.getElem?_eq_some_iff.mp hn).1
      rw [List.length_take] at hlt
      rw [List.getElem?_take, if_pos (by omega)] at hn
      have hq2 : (l.map (·.1))[i]? = some q.1 := by rw [List.getElem?_map, hq]; rfl
      have en := List.getElem?_eq_some_iff.mp hn
      have ei := List.getElem?_eq_some_iff.mp hq2
      exact absurd (en.2.trans ei.2.symm) (List.pairwise_iff_getElem.mp nd n i en.1 ei.1 (by omega))
    refine ⟨ws, .inr q.1, e4, q3, sz_lt (by rw [dc_len q4, List.length_take]; omega), ?_⟩
    have et : l.take (i + 1) = l.take i ++ [q] := by rw [List.take_add_one, hq]; rfl
    rw [et]
    exact o9.write (j := 0) rfl ⟨_, upd_same, dc_snoc q4 hnk r8⟩
  · have ei : i = xs.length := by omega
    subst ei
    refine .inl ⟨W.stop (D :: M) H' oi.alloc oi.base (hN _ _ _ _ _ oi), ?_⟩
    have et : l.take xs.length = l := List.take_of_length_le (by omega)
    rw [et] at oi
    exact k D H' hDM (oi.reB o1.base) (x1.trans oi.base)
theorem n_lock (hj : μ[j]? = some (a, .dK kvs)) (h : ∀ od ws, EvN C te M δ (μ.set j (a, .fz od ws kvs)) (μ.set j (a, .fz od ws kvs)) mo) : EvN C (tLockE te) M δ μ μ mo := fun σ H o Q k => by
  obtain ⟨ws, e0, kk⟩ := ok_lock o hj
  refine ⟨a, .dK ws, e0, trivial, fun od => h od ws _ _ (kk od) _ fun p H1 pM o1 x1 => ?_⟩
  have hj' : ((p, mo) :: μ)[j + 1]? = some (a, .dK kvs) := hj
  obtain ⟨e1, aM, o'⟩ := ok_unlock (ws := ws) (od := od) hj' o1
  have aM0 : a ∈ M := (o.mem _ (List.mem_of_getElem? hj)).1
  rw [hide_upd aM0 (by rw [e0]; rfl) rfl] at x1
  exact ⟨e1, k p _ pM o' (by rw [hide_upd aM (by rw [e1]; rfl) rfl]; exact x1)⟩
theorem r_asgNw (h : EvN C te M δ μ μ1 mo) (k : ∀ p, p ∉ M → Nx C D (p :: M) (δ.set i (.m p)) ((p, mo) :: μ1)) : Run C (tAsg te (gName i)) D M δ μ := fun σ H o => h σ H o _ fun p H1 pM o1 x1 => k p pM _ _ (o1.set i (e := .m p) rfl)
theorem q_asgNw (h : EvN C te M δ μ μ1 mo) (k : ∀ p, p ∉ M → Run C t2 D (p :: M) (δ.set i (.m p)) ((p, mo) :: μ1)) : Run C (tSeq (tAsg te (gName i)) t2) D M δ μ := r_asgNw (D := { D with nx := t2 D }) h k
theorem q_lockN (hj : μ[j]? = some (a, .dK kvs)) (h : ∀ od ws, EvN C te M δ (μ.set j (a, .fz od ws kvs)) (μ.set j (a, .fz od ws kvs)) mo) (k : ∀ p, p ∉ M → Run C t2 D (p :: M) (δ.set i (.m p)) ((p, mo) :: μ)) : Run C (tSeq (tLock (tAsg te (gName i))) t2) D M δ μ :=
  q_lock hj fun od ws => r_asgNw (h od ws) fun p hp => lk_nx (μ := (p, mo) :: μ) (j := j + 1) hj (k p hp)
/-! ### k in d -/
theorem valV_none {K : PySem.W.Frag} {Hh : Hp} : ∀ {l : Dct} {ws : List (Key × V)} {k : Str}, DcOk K Hh ws (kd l) → k ∉ l.map (·.1) → valV ws (.inr k) = none
  | [], _, _, .nil, _ => rfl
  | p :: l, w :: ws, k, .cons h t, hk => by
    have e : w.1 = .inr p.1 := h.1
    have ne : ¬ w.1 = (Sum.inr k : Key) := by
      rw [e]
      intro z
      exact hk (by rw [List.map_cons, ← Sum.inr.inj z]; exact List.mem_cons_self)
    have ih := valV_none t fun z => hk (List.mem_cons_of_mem _ z)
    unfold valV at ih ⊢
    simp [ne, ih]
theorem x_notinK {l : Dct} {k : Str} {td ty : TE} (hk : EvX C ty M δ μ μ1 (.d (.str k))) (hx : EvX C td M δ μ1 μ2 (.m a)) (hm : (a, mo) ∈ μ2) (hd : IsDct mo l) : EvX C (tDNotIn ty td) M δ μ μ2 (.d (.bool (!decide (k ∈ l.map (·.1))))) := fun σ H o Q kk =>
  hk σ H o _ fun y H1 o1 x1 r1 => hx σ H1 o1 _ fun x H2 o2 x2 r2 => by
    have e1 : x = .ref a := r2
    have e2 : y = .str k := Dp.str_of r1
    obtain ⟨ws, rd, dc⟩ := dct_rd (o2.mem _ hm).2.2 hd
    by_cases h : k ∈ l.map (·.1)
    · obtain ⟨d, hv⟩ : ∃ d, valD l k = some d := by
        obtain ⟨q, hq, rfl⟩ := List.mem_map.mp h
        cases z : valD l q.1 with
        | some d => exact ⟨d, rfl⟩
        | none => exact absurd z (by unfold valD; rw [Option.map_eq_none_iff, List.find?_eq_none]; exact fun y => y q hq (decide_eq_true rfl))
      obtain ⟨v, e3, e4⟩ := dc_val dc hv
      refine ⟨a, some v, e1, .inl ⟨ws, .inr k, rd, e2, e3.symm⟩, ?_⟩
      have := kk (.bl false) H2 o2 (x1.trans x2) (by rw [decide_eq_true h]; exact .bl _)
      exact this
    · refine ⟨a, none, e1, .inl ⟨ws, .inr k, rd, e2, (valV_none dc h).symm⟩, ?_⟩
      have := kk (.bl true) H2 o2 (x1.trans x2) (by rw [decide_eq_false h]; exact .bl _)
      exact this
/-! ### t.count(x) -/
/-! ### a written tuple of texts; a part of a row -/
end
section
variable {X : Cx}
/-- name = {..} on one line, the name a local -/
theorem ps_setDc {i : Nat} {y : Str} {py : Pos} {kx vx tg iter : Expr} {ifs : List Expr} {scope : Scope} {own : List (Str × Nat)} {pos spos : Pos} {wi : TI} {g : TG} {tt : TT} {tk tv : TE} (hc : X.calm = true) (hN : X.N.Nodup) (hy : X.N[i]? = some y) (hyl : X.env.scope.names.lookup y = some .local)
    (hsw : swapsWith (.DictComp kx vx [⟨tg, iter, ifs, 0⟩] scope pos) (some (.Name y py)) spos.line X.env = pure true) (hi : PI X tg iter wi) (ok : BlkOk X.N X.env.scope scope own)
    (hg : ∀ (s : Shared) (H : Hp) (C : Addr) (cl : List (Str × Addr)) (fp : List Addr), PG (X.blk s H scope (compEnvC scope cl C X.env) fp) tg g) (ht : ∀ (s : Shared) (H : Hp) (C : Addr) (cl : List (Str × Addr)) (fp : List Addr), PTs (X.blk s H scope (compEnvC scope cl C X.env) fp) ifs tt)
    (hk : ∀ (s : Shared) (H : Hp) (C : Addr) (cl : List (Str × Addr)) (fp : List Addr), PE (X.blk s H scope (compEnvC scope cl C X.env) fp) kx tk)
    (he : ∀ (s : Shared) (H : Hp) (C : Addr) (cl : List (Str × Addr)) (fp : List Addr), PE (X.blk s H scope (compEnvC scope cl C X.env) fp) vx tv) (hs : ∀ x, foldedSetIterable iter X.env x = pure x := by intro _; rfl) :
    PS X (.Assign [.Name y py] (.DictComp kx vx [⟨tg, iter, ifs, 0⟩] scope pos) spos) (tAsg (tDc wi g tt tk tv (own.map (·.2))) (gName i)) := by
  refine ⟨fun pins s σ H D I h => ?_⟩
  rw [exec_Assign_Name_used _ _ _ _ hsw]
  refine wpAny_bind (wpAny_standAt (wpAny_bind ?_))
  show wpAny _ X.A (do let _ ← comprehension (.DictComp kx vx [⟨tg, iter, ifs, 0⟩] scope pos) scope X.env (firstIterPos [⟨tg, iter, ifs, 0⟩] pos) newDict false (eval iter X.env) (some (assign (.Name y py) X.env))) _ _ s
  have h : tDc wi g tt tk tv (own.map (·.2)) σ H (fun x H1 => gName i x σ H1 D.nx) := h
  refine wpAny_bind (thn (dc_core (Qf := fun _ s' => SP X pins D .next s') hc hN I hi ok hg ht hk he hs h fun L C s' m H' I' q hn f => ?_) fun _ s' hq => wpAny_pure (wpAny_pure hq))
  show wpAny _ _ (assign (.Name y py) X.env (.ref L)) _ _ _
  refine wpAny_assign_Name (store_ok2 (v := V.ref L) I' hN hy (.inl hyl) rfl (fun s2 I2 ⟨a, sb, ha⟩ => ?_) (.inr hyl))
  obtain ⟨f0, f1, f2, f3, f4, f5⟩ := f
  have haC : C ≠ a := by
    rcases ha with z | z
    · rw [z]; exact f1
    · exact fun e => f4 y a z e.symm
  refine ⟨m, hn.sameBut sb haC, fun h3 sb3 => ?_⟩
  exact ⟨_, H', I2.turned (t' := s2.toks) (fun b o hb e => (sb3.2 b hb).trans e) f0 f1 f3 f4 f5, q⟩
theorem sw_trueD {kx vx : Expr} {gs : List Comprehension} {scope : Scope} {pos py : Pos} {y : Str} {l : Nat} {env : Env} (hk : env.scope.kind = .function) (hy : env.scope.names.lookup y = some .local) (hl : (py.line == pos.line) = true)
    (ha : (scope.names.any fun (n, k) => n == y && (k == .local || k == .cell)) = false) : swapsWith (.DictComp kx vx gs scope pos) (some (.Name y py)) l env = pure true := by
  have ky : env.kindOf y = some .local := hy
  have hb : env.blockKind = .function := by unfold Env.blockKind; rw [hk]; rfl
  unfold swapsWith
  simp only [hb, ky, ha, Expr.pos, hl]
  rfl
end
end FD
/-! sorted(xs), xs a list of data of one kind -/
namespace FD
open PySem PySem.Spec L2 Evl PyProof.Rows PySem.W
def rSortedDat (K : PySem.W.Frag) : List V → Hp → VK → Prop := fun xs H Q => ∃ (a : Addr) (qs : List (V × PyData)), xs = [.ref a] ∧ SqL K H a (qs.map (·.1)) ∧ (∀ q ∈ qs, L2.Dp K H q.1 q.2) ∧ AllAlike (qs.map (·.2)) ∧ Sortable (qs.map (·.2)) ∧ (∀ q ∈ qs, q.2.depth ≤ 8) ∧
  ∀ p, H p = none → Q (.ref p) (upd H p (.lst ((qs.mergeSort (dataLe false (·.2))).map (·.1))))
section
variable {X : Cx}
theorem each_val : ∀ {qs : List (V × PyData)} {its : List Value}, Vals (qs.map (·.1)) its → EachIs (fun u (q : V × PyData) => RelV q.1 u) its qs
  | [], _, .nil => .nil
  | q :: qs, _, .cons h t => .cons h (each_val t)
theorem val_each : ∀ {qs : List (V × PyData)} {out : List Value}, EachIs (fun u (q : V × PyData) => RelV q.1 u) out qs → Vals (qs.map (·.1)) out
  | _, _, .nil => .nil
  | _, _, .cons h t => .cons h (val_each t)
theorem each_in {α β : Type} {R : α → β → Prop} {S : α → β → Prop} : ∀ {as : List α} {bs : List β}, EachIs R as bs → (∀ a b, b ∈ bs → R a b → S a b) → EachIs S as bs
  | _, _, .nil, _ => .nil
  | _, _, .cons h t, f => .cons (f _ _ List.mem_cons_self h) (each_in t fun a b hb => f a b (List.mem_cons_of_mem _ hb))
theorem cr_sortedDat (hu : X.A.units + 64 < cLine) : CallR X (.builtin "sorted") (rSortedDat X.K) := by
  intro pins s σ H vs us Q I r h
  obtain ⟨a, qs, rfl, hs, hd, hal, hso, hdp, q⟩ := h
  obtain ⟨its, rv, hl, hz⟩ := I.list hs
  obtain ⟨u, rfl, ru⟩ := vals1 r
  obtain rfl : u = Value.ref a := ru
  have el : qs.length = its.length := by rw [← rv.length, List.length_map]
  have e := each_val rv
  refine sorted_data (s := s) (vs := its) (bs := qs) (enc := (·.2)) (R := fun u (q : V × PyData) => RelV q.1 u) hl.isList e (each_in e fun v q hq h => Dp.reads I _ _ _ (hd q hq) h) hal hso (by rw [List.length_map] at hz; exact hz) (fun d hm => by have := hdp d hm; omega) fun out ho eo => ?_
  have h1 := val_each eo
  obtain ⟨n, hat⟩ := sortedAll_at s.heap its out.toArray
  have fr : H (s.heap.objs.size + 1) = none := I.hok.fresh (Nat.le_succ _)
  refine ⟨.ref (s.heap.objs.size + 1), upd H (s.heap.objs.size + 1) (.lst ((qs.mergeSort (dataLe false (·.2))).map (·.1))), I.laid (t' := s.toks) (fun b o z => sortedAll_old z) (Nat.le_succ _) ⟨?_, out, n, h1, hat⟩, rfl, q _ fr⟩
  rw [List.length_map, List.length_mergeSort]
  rw [List.length_map] at hz
  exact hz
end
theorem sort_snd (qs : List (V × PyData)) : (qs.mergeSort (dataLe false (·.2))).map (·.2) = (qs.map (·.2)).mergeSort (dataLe false id) :=
  sort_maps (r := dataLe false fun x : V × PyData => x.2) (s := dataLe false id) (fun x : V × PyData => x.2) fun a _ b _ => rfl
theorem dpAll_zip {K : PySem.W.Frag} {H : Hp} : ∀ {ws : List V} {ds : List PyData}, DpAll K H ws ds → ∃ qs : List (V × PyData), ws = qs.map (·.1) ∧ ds = qs.map (·.2) ∧ ∀ q ∈ qs, Dp K H q.1 q.2
  | _, _, .nil => ⟨[], rfl, rfl, fun q hq => nomatch hq⟩
  | _, _, .cons (v := v) (d := d) h t => by
    obtain ⟨qs, e1, e2, e3⟩ := dpAll_zip t
    refine ⟨(v, d) :: qs, by rw [e1]; rfl, by rw [e2]; rfl, fun q hq => ?_⟩
    rcases List.mem_cons.mp hq with z | z
    · rw [z]; exact h
    · exact e3 q z
theorem dpAll_pairs {K : PySem.W.Frag} {H : Hp} : ∀ {qs : List (V × PyData)}, (∀ q ∈ qs, Dp K H q.1 q.2) → DpAll K H (qs.map (·.1)) (qs.map (·.2))
  | [], _ => .nil
  | q :: qs, h => .cons (h q List.mem_cons_self) (dpAll_pairs fun r hr => h r (List.mem_cons_of_mem _ hr))
section
variable {C : Cfg} {M : List Addr} {δ : List Ent} {μ : Mem} {e : Ent}
theorem c_sortedDat {ds : List PyData} (r : Rdd μ e (.list ds)) (hal : AllAlike ds) (hso : Sortable ds) (hdp : ∀ d ∈ ds, d.depth ≤ 8) : CallX C (rSortedDat C.K) M δ μ μ [e] (.d (.list (ds.mergeSort (dataLe false id)))) := fun σ H vs o h Q kk => by
  obtain ⟨v, rfl, q⟩ := p1 h
  obtain ⟨a, ws, q1, q2, q3⟩ := r.lst o q
  obtain ⟨qs, rfl, rfl, q4⟩ := dpAll_zip q3
  refine ⟨a, qs, by rw [q1], q2, fun q hq => (dp_mono hide_le _ _ (q4 q hq)).w, hal, hso, fun q hq => hdp _ (List.mem_map.mpr ⟨q, hq, rfl⟩), fun p hn => ?_⟩
  have es := sort_snd qs
  obtain ⟨o', x', d'⟩ := o.lst hn (dpAll_pairs (qs := qs.mergeSort (dataLe false (·.2))) fun q hq => q4 q ((List.mergeSort_perm _ _).mem_iff.mp hq))
  rw [es] at d'
  exact kk _ _ o' x' d'
end
end FD
/-! Expressions whose result is known by a relation only. -/
namespace FD
open PySem L2 Evl
def EvP (C : Cfg) (te : TE) (M : List Addr) (δ : List Ent) (μ : Mem) (R : Ent → Mem → Prop) : Prop := ∀ σ H, Ok C M δ μ σ H → ∀ Q : VK, (∀ v H' e μ', R e μ' → Ok C M δ μ' σ H' → Ex (hide M H) (hide M H') → EntOk C.K (hide M H') e v → Q v H') → te σ H Q
def EvPA (C : Cfg) (ta : TA) (M : List Addr) (δ : List Ent) (μ : Mem) (R : List Ent → Mem → Prop) : Prop := ∀ σ H, Ok C M δ μ σ H → ∀ Q : List V → Hp → Prop, (∀ vs H' es μ', R es μ' → Ok C M δ μ' σ H' → Ex (hide M H) (hide M H') → Paired (EntOk C.K (hide M H')) es vs → Q vs H') → ta σ H Q
def EvPT (C : Cfg) (tt : TT) (M : List Addr) (δ : List Ent) (μ : Mem) (R : Bool → Mem → Prop) : Prop := ∀ σ H, Ok C M δ μ σ H → ∀ Q : Bool → Hp → Prop, (∀ b H' μ', R b μ' → Ok C M δ μ' σ H' → Ex (hide M H) (hide M H') → Q b H') → tt σ H Q
section
variable {C : Cfg} {M : List Addr} {δ δ' : List Ent} {μ μ1 : Mem} {te ta tb : TE} {tr : TA} {t u : TT} {D : Ends} {t1 t2 t3 : TS} {n : Nat} {E : XK} {e : Ent} {es : List Ent} {b : Bool} {g : TG}
theorem xp_of {R : Ent → Mem → Prop} (h : EvX C te M δ μ μ1 e) (hR : R e μ1) : EvP C te M δ μ R := fun σ H o Q k => h σ H o Q fun v H' o' x' r' => k v H' e μ1 hR o' x' r'
theorem ap_of {R : List Ent → Mem → Prop} (h : EvA C tr M δ μ μ1 es) (hR : R es μ1) : EvPA C tr M δ μ R := fun σ H o Q k => h σ H o Q fun v H' o' x' r' => k v H' es μ1 hR o' x' r'
theorem tp_of {R : Bool → Mem → Prop} (h : EvT C t M δ μ μ1 b) (hR : R b μ1) : EvPT C t M δ μ R := fun σ H o Q k => h σ H o Q fun H' o' x' => k b H' μ1 hR o' x'
theorem xp_imp {R S : Ent → Mem → Prop} (h : EvP C te M δ μ R) (hR : ∀ e μ', R e μ' → S e μ') : EvP C te M δ μ S := fun σ H o Q k => h σ H o Q fun v H' e μ' q o' x' r' => k v H' e μ' (hR e μ' q) o' x' r'
theorem ap_nil {R : List Ent → Mem → Prop} (hR : R [] μ) : EvPA C tNil M δ μ R := ap_of a_nil hR
theorem ap_cons {R : List Ent → Mem → Prop} (h : EvP C te M δ μ fun e μ1 => EvPA C tr M δ μ1 fun es μ2 => R (e :: es) μ2) : EvPA C (tCons te tr) M δ μ R := fun σ H o Q k =>
  h σ H o _ fun v H1 e μ1 hr o1 x1 r1 => hr σ H1 o1 _ fun vs H2 es μ2 hR o2 x2 r2 => k (v :: vs) H2 (e :: es) μ2 hR o2 (x1.trans x2) (.cons (r1.mono x2) r2)
theorem xp_op {r : R2} {R : Ent → Mem → Prop} (h : EvP C ta M δ μ fun e1 μ1 => EvP C tb M δ μ1 fun e2 μ2 => ∃ e3 μ3, OpX C r M δ μ2 μ3 e1 e2 e3 ∧ R e3 μ3) : EvP C (tOp r ta tb) M δ μ R := fun σ H o Q k =>
  h σ H o _ fun x H1 e1 μ1 h1 o1 x1 r1 => h1 σ H1 o1 _ fun y H2 e2 μ2 ⟨e3, μ3, hr, hR⟩ o2 x2 r2 => hr σ H2 x y o2 (r1.mono x2) r2 Q fun v H3 o3 x3 r3 => k v H3 e3 μ3 hR o3 ((x1.trans x2).trans x3) r3
theorem xp_cb {r : List V → Hp → VK → Prop} {R : Ent → Mem → Prop} (h : EvPA C tr M δ μ fun es μ1 => ∃ e μ2, CallX C r M δ μ1 μ2 es e ∧ R e μ2) : EvP C (tCB r tr) M δ μ R := fun σ H o Q k =>
  h σ H o _ fun vs H1 es μ1 ⟨e, μ2, hr, hR⟩ o1 x1 r1 => hr σ H1 vs o1 r1 Q fun v H2 o2 x2 r2 => k v H2 e μ2 hR o2 (x1.trans x2) r2
/-- a call by a promise spR -/
theorem xp_callR {R : Ent → Mem → Prop} {Rf : List PyData → PyData → Prop} (h : EvPA C tr M δ μ fun es μ1 => ∃ ds d, es = ds.map Ent.d ∧ ds.length = n ∧ Rf ds d ∧ R (.d d) μ1) : EvP C (tCall (spR C.K n Rf) [] E tr) M δ μ R := fun σ H o Q k => h σ H o _ fun vs H1 es μ1 ⟨ds, d, he, hn, hR, hk⟩ o1 x1 r1 => by
  rw [List.append_nil]
  subst he
  have dp := dpAll_of r1
  exact ⟨by rw [dp.length]; exact hn, M, ds, d, o1.alloc, dp, hR, fun v H' e r => k v H' (.d d) μ1 hk (o1.grow e) (x1.trans (hide_ex e)) r⟩
/-- a call by a promise spX -/
theorem xp_callX {Pre : List Ent → Mem → Prop} {Post : List Ent → Mem → PyData → Mem → Prop} {R : Ent → Mem → Prop}
    (h : EvPA C tr M δ μ fun es μ1 => es.length = n ∧ ∃ μ0, (∀ p ∈ μ0, p ∈ μ1) ∧ ((ad μ1).Nodup → (ad μ0).Nodup) ∧ Pre es μ0 ∧ ((ad μ1).Nodup → ∀ d μ0', Post es μ0 d μ0' → ad μ0' = ad μ0 → ∃ μ2, Swap μ0 μ0' μ1 μ2 ∧ R (.d d) μ2)) :
    EvP C (tCall (spX C.K n Pre Post) [] E tr) M δ μ R := fun σ H o Q k => h σ H o _ fun vs H1 es μ1 ⟨hn, μ0, hsub, nd, hP, kk⟩ o1 x1 r1 => by
  rw [List.append_nil]
  refine ⟨by rw [← paired_len r1]; exact hn, M, es, μ0, o1.alloc, r1, fun p hp => let q := o1.mem p (hsub p hp); ⟨q.1, q.2.2⟩, nd o1.nd, hP, fun v H2 d μ0' hq had e2 m2 d2 => ?_⟩
  obtain ⟨μ2, sw, hR⟩ := kk o1.nd d μ0' hq had
  obtain ⟨o2, x2⟩ := after_E o1 sw e2 m2
  exact k v H2 (.d d) μ2 hR o2 (x1.trans x2) d2
/-- .. of one box and data -/
theorem ad_one {μ0' : Mem} {b : Addr} {mo : MO} (had : ad μ0' = ad [(b, mo)]) : ∃ mo', μ0' = [(b, mo')] := by
  cases μ0' with
  | nil => cases had
  | cons q r =>
    obtain ⟨x, y⟩ := q
    have h1 := (List.cons.inj had).1
    have h2 := (List.cons.inj had).2
    have h1 : x = b := h1
    have h2 : r.map (·.1) = [] := h2
    rw [h1, List.map_eq_nil_iff.mp h2]
    exact ⟨y, rfl⟩
theorem xp_callX1 {Pre : List Ent → Mem → Prop} {Post : List Ent → Mem → PyData → Mem → Prop} {R : Ent → Mem → Prop}
    (h : EvPA C tr M δ μ fun es μ1 => es.length = n ∧ ∃ (j : Nat) (b : Addr) (mo : MO), μ1[j]? = some (b, mo) ∧ Pre es [(b, mo)] ∧ ∀ d mo', Post es [(b, mo)] d [(b, mo')] → R (.d d) (μ1.set j (b, mo'))) :
    EvP C (tCall (spX C.K n Pre Post) [] E tr) M δ μ R := by
  refine xp_callX ?_
  intro σ H o Q k
  refine h σ H o Q ?_
  intro vs H1 es μ1 hh o1 x1 r1
  obtain ⟨hn, j, b, mo, hj, hP, kk⟩ := hh
  refine k vs H1 es μ1 ⟨hn, [(b, mo)], ?_, ?_, hP, ?_⟩ o1 x1 r1
  · intro p hp
    rw [List.mem_singleton.mp hp]
    exact List.mem_of_getElem? hj
  · intro _
    exact List.nodup_cons.mpr ⟨by simp, List.nodup_nil⟩
  · intro ndμ d μ0' hq had
    obtain ⟨mo', rfl⟩ := ad_one had
    exact ⟨_, swap_set hj ndμ, kk d mo' hq⟩
theorem tp_B {R : Bool → Mem → Prop} (h : EvP C te M δ μ fun e μ1 => ∃ b, e = .d (.bool b) ∧ R b μ1) : EvPT C (tB te) M δ μ R := fun σ H o Q k =>
  h σ H o _ fun v H1 e μ1 ⟨b, he, hR⟩ o1 x1 r1 => by
    subst he
    exact ⟨b, Dp.bool_of r1, k b H1 μ1 hR o1 x1⟩
theorem tp_test {R : Bool → Mem → Prop} (h : EvP C te M δ μ fun e μ1 => ∃ b, e = .d (.bool b) ∧ R b μ1) : EvPT C (tTest te) M δ μ R := fun σ H o Q k =>
  h σ H o _ fun v H1 e μ1 ⟨b, he, hR⟩ o1 x1 r1 => by
    subst he
    exact ⟨b, Dp.bool_of r1, k b H1 μ1 hR o1 x1⟩
theorem tp_not {R : Bool → Mem → Prop} (h : EvPT C t M δ μ fun b μ1 => R (!b) μ1) : EvPT C (tNot t) M δ μ R := fun σ H o Q k =>
  h σ H o _ fun b H1 μ1 hR o1 x1 => k (!b) H1 μ1 hR o1 x1
theorem tp_and {R : Bool → Mem → Prop} (h : EvPT C t M δ μ fun b μ1 => if b = true then EvPT C u M δ μ1 R else R false μ1) : EvPT C (tAnd t u) M δ μ R := fun σ H o Q k =>
  h σ H o _ fun b H1 μ1 hR o1 x1 => by
    cases b with
    | true =>
      show (if true = true then _ else _)
      rw [if_pos rfl]
      have hR : EvPT C u M δ μ1 R := hR
      exact hR σ H1 o1 _ fun b H2 μ2 hR o2 x2 => k b H2 μ2 hR o2 (x1.trans x2)
    | false =>
      show (if false = true then _ else _)
      rw [if_neg (by decide)]
      have hR : R false μ1 := hR
      exact k false H1 μ1 hR o1 x1
theorem tp_or {R : Bool → Mem → Prop} (h : EvPT C t M δ μ fun b μ1 => if b = true then R true μ1 else EvPT C u M δ μ1 R) : EvPT C (tOr t u) M δ μ R := fun σ H o Q k =>
  h σ H o _ fun b H1 μ1 hR o1 x1 => by
    cases b with
    | true =>
      show (if true = true then _ else _)
      rw [if_pos rfl]
      have hR : R true μ1 := hR
      exact k true H1 μ1 hR o1 x1
    | false =>
      show (if false = true then _ else _)
      rw [if_neg (by decide)]
      have hR : EvPT C u M δ μ1 R := hR
      exact hR σ H1 o1 _ fun b H2 μ2 hR o2 x2 => k b H2 μ2 hR o2 (x1.trans x2)
theorem r_ifP (h : EvPT C t M δ μ fun b μ1 => if b = true then Run C t1 D M δ μ1 else Run C t2 D M δ μ1) : Run C (tIfS t t1 t2) D M δ μ := fun σ H o =>
  h σ H o _ fun b H1 μ1 hR o1 x1 => by
    cases b with
    | true => show (if true = true then _ else _); rw [if_pos rfl]; exact hR σ H1 o1
    | false => show (if false = true then _ else _); rw [if_neg (by decide)]; exact hR σ H1 o1
theorem q_ifP (h : EvPT C t M δ μ fun b μ1 => if b = true then Run C t1 { D with nx := t3 D } M δ μ1 else Run C t2 { D with nx := t3 D } M δ μ1) : Run C (tSeq (tIfS t t1 t2) t3) D M δ μ := r_ifP (D := { D with nx := t3 D }) h
/-- a test that comes out false; then what follows -/
theorem q_noP (h : EvPT C t M δ μ fun b μ1 => b = false ∧ Run C t3 D M δ μ1) : Run C (tSeq (tIfS t t1 tNext) t3) D M δ μ := q_ifP fun σ H o Q k => h σ H o Q fun b H1 μ1 ⟨hb, r⟩ o1 x1 => k b H1 μ1 (by rw [hb]; exact r_next r) o1 x1
theorem q_asgP' {i : Nat} (h : EvP C te M δ μ fun e μ1 => Run C t2 D M (δ.set i e) μ1) : Run C (tSeq (tAsg te (gName i)) t2) D M δ μ := fun σ H o =>
  h σ H o _ fun v H1 e μ1 hr o1 x1 r1 => hr _ H1 (o1.set i r1)
theorem r_asgP' {i : Nat} (h : EvP C te M δ μ fun e μ1 => Nx C D M (δ.set i e) μ1) : Run C (tAsg te (gName i)) D M δ μ := fun σ H o =>
  h σ H o _ fun v H1 e μ1 hr o1 x1 r1 => hr _ H1 (o1.set i r1)
theorem r_retP' (h : EvP C te M δ μ fun e μ1 => ∃ d, e = .d d ∧ ∃ μ', (∀ p ∈ μ', p ∈ μ1) ∧ FinE C D d μ') : Run C (tRet te) D M δ μ := fun σ H o =>
  h σ H o _ fun v H1 e μ1 ⟨d, he, μ', hs, k⟩ o1 x1 r1 => by
    subst he
    exact k v M H1 o1.gr o1.sub (fun p hp => (o1.mem p (hs p hp)).2.2) r1
end
theorem kbn_rev {K : PySem.W.Frag} {x qual : Str} {st : Stmt} {f : Addr} {fd : FuncData} (F : Fun K x qual st f fd) {ps ks : List Str}
    (h : ∀ (kV doc pm : Value) (an : Option Addr) (cdv ct : Value) (ws : List Value), ws.length = ks.length → bindArgs (PySem.W.fnOf x qual (defArgs st) (defBody st) (defScope st) .none kV doc pm an cdv ct) ⟨[], ks.zip ws⟩ = pure (ps.zip ws.reverse)) : KBn K fd ps 0 ks (fun _ ws => ws.reverse) (fun _ zs => zs.reverse) := by
  obtain ⟨oc, od, kV, doc, pm, an, cdv, ct, osl, rfl, lk, hcd⟩ := F.ex
  refine ⟨fun s us ws _ h0 hl => ?_, fun {vs us zs ws} _ r => r.reverse⟩
  cases us with
  | nil => exact .of_eq (h kV doc pm an cdv ct ws hl)
  | cons u us => cases h0
end FD
/-! sets of tuples of texts, found by their hashes -/
namespace FD
open PySem PySem.Spec L2 PyProof.Rows PySem.W PySem.Froz
/-- the tuple at b has the texts k -/
abbrev Tx (P : Program) (w : World) (h : Heap) (k : List Key) (b : Addr) : Prop := IsTupleKey (mixKind P w) h k b
abbrev tsh (P : Program) (w : World) (k : List Key) : Int := tupleKeyHash (mixKind P w) k
abbrev Mbs := List (Addr × List Key)
theorem key_items {P : Program} {w : World} {k : List Key} {vs : List Value} (h : ItemsAre (mixKind P w) k vs) : ∀ v ∈ vs, ∃ z, keyIs z v = true := by
  induction h with
  | nil => exact fun v hv => absurd hv (by simp)
  | @cons z v ks vs q _ ih =>
    intro u hu
    rcases List.mem_cons.mp hu with e | hu
    · rw [e]; exact ⟨z, q⟩
    · exact ih u hu
theorem cls_key (n : Nat) {z : Key} {v : Value} (h : keyIs z v = true) : ofAClassStatement n v = pure false := by
  rcases keyIs_shape h with ⟨i, t, _, rfl⟩ | ⟨x, t, _, rfl⟩ <;> (cases n <;> rfl)
theorem byv_str (n : Nat) (z : Str) (t : Tok) : hashByValue n (.str z t) = pure false := by
  unfold hashByValue
  cases n <;> rfl
theorem byv_int (n : Nat) (z : Int) (t : Tok) : hashByValue n (.int z t) = pure true := by
  unfold hashByValue
  cases n <;> rfl
theorem prb_dum (m : Nat) : ∀ (n : Nat) (p : SetTable.Probe), p.dummy = none → (nth m p n).dummy = none
  | 0, _, e => e
  | n + 1, p, e => prb_dum m n (adv m p) (by unfold adv; split <;> exact e)
section
variable {P : Program} {w : World} {A : Around} {E : Value → Shared → Prop} {s : Shared}
theorem tx_keep {h h' : Heap} {k : List Key} {b : Addr} (x : Tx P w h k b) (up : ∀ c u, h.get? c = some u → h'.get? c = some u) : Tx P w h' k b :=
  let ⟨u, its, m, g, r⟩ := x
  ⟨u, its, m, up b u g, r⟩
theorem tx_off {h h' : Heap} {k : List Key} {b S : Addr} {T : SD} (x : Tx P w h k b) (g : h.get? S = some (sObj "set" T)) (sb : Heap.SameBut S h h') : Tx P w h' k b := by
  obtain ⟨u, its, m, gu, c, dt, r⟩ := x
  refine ⟨u, its, m, (sb.2 b fun z => ?_).trans gu, c, dt, r⟩
  rw [z, g] at gu
  cases gu
  exact nomatch dt
theorem tx_cls {k : List Key} {b : Addr} {Q : Bool → Shared → Prop} (x : Tx P w s.heap k b) (q : Q false s) : wpAny (model P w) A (ofAClassStatement 8 (.ref b)) Q E s := by
  have ty := x.typeIs
  obtain ⟨u, its, m, gu, _, dt, is⟩ := x
  unfold ofAClassStatement
  refine wpAny_bind (wpAny_typeOf ty ?_)
  dsimp only
  have e : (("tuple" : String) == "tuple") = true := by decide
  simp only [e, if_true, Bool.not_true, Bool.false_eq_true, if_false]
  show wpAny _ _ (seqItems? (.ref b) >>= _) _ _ s
  refine wpAny_bind (wpAny_seqItems gu dt ?_)
  dsimp only
  refine wpAny_bind ?_
  show wpAny _ _ (forIn its _ _) _ _ s
  rw [← Array.forIn_toList]
  refine wpAny_forIn_list _ (fun l r t => r.1 = none ∧ t = s ∧ ∀ v ∈ l, ∃ z, keyIs z v = true) _ ?_ ?_ _ _ ⟨rfl, rfl, key_items is⟩
  · rintro v l r t ⟨hr, rfl, hl⟩
    obtain ⟨z, hz⟩ := hl v List.mem_cons_self
    rw [cls_key _ hz]
    refine wpAny_bind (wpAny_pure ?_)
    simp only [Bool.false_eq_true, if_false]
    exact wpAny_pure ⟨rfl, rfl, fun y hy => hl y (List.mem_cons_of_mem _ hy)⟩
  · rintro ⟨r1, r2⟩ t ⟨hr, rfl, _⟩
    have hr : r1 = none := hr
    subst hr
    exact wpAny_pure q
theorem tx_byv {k : List Key} {b : Addr} {Q : Bool → Shared → Prop} (x : Tx P w s.heap k b) (q : ∀ c, Q c s) : wpAny (model P w) A (hashByValue 8 (.ref b)) Q E s := by
  have ty := x.typeIs
  obtain ⟨u, its, m, gu, _, dt, is⟩ := x
  unfold hashByValue
  refine wpAny_bind (wpAny_specialOf ty F.slot_tuple_hash.lookup ?_)
  show wpAny _ _ (seqItems? (.ref b) >>= _) _ _ s
  refine wpAny_bind (wpAny_seqItems gu dt ?_)
  refine wpAny_bind ?_
  show wpAny _ _ (forIn its _ _) _ _ s
  rw [← Array.forIn_toList]
  refine wpAny_forIn_list _ (fun l r t => r.1 = none ∧ t = s ∧ ∀ v ∈ l, ∃ z, keyIs z v = true) _ ?_ ?_ _ _ ⟨rfl, rfl, key_items is⟩
  · rintro v l r t ⟨hr, rfl, hl⟩
    obtain ⟨z, hz⟩ := hl v List.mem_cons_self
    rcases keyIs_shape hz with ⟨i, t, _, rfl⟩ | ⟨x, t, _, rfl⟩
    · rw [byv_int]
      refine wpAny_bind (wpAny_pure ?_)
      simp only [Bool.not_true, Bool.false_eq_true, if_false]
      exact wpAny_pure ⟨rfl, rfl, fun y hy => hl y (List.mem_cons_of_mem _ hy)⟩
    · rw [byv_str]
      refine wpAny_bind (wpAny_pure ?_)
      simp only [Bool.not_false, if_true]
      exact wpAny_pure (wpAny_pure (q false))
  · rintro ⟨r1, r2⟩ t ⟨hr, rfl, _⟩
    have hr : r1 = none := hr
    subst hr
    exact wpAny_pure (q true)
/-- a search among tuples of texts is seen by nobody -/
theorem tx_seen {k : List Key} {b : Addr} {Q : Bool → Shared → Prop} (x : Tx P w s.heap k b) {ys : List Value} (hy : ∀ y ∈ ys, ∃ l c, y = Value.ref c ∧ Tx P w s.heap l c) (q : Q false s) :
    wpAny (model P w) A (searchCouldBeSeen (.ref b) ys) Q E s := by
  unfold searchCouldBeSeen
  refine wpAny_bind ?_
  refine wpAny_forIn_list _ (fun l r t => r.1 = none ∧ t = s ∧ ∀ y ∈ l, ∃ k' c, y = Value.ref c ∧ Tx P w s.heap k' c) _ ?_ ?_ _ _ ⟨rfl, rfl, hy⟩
  · rintro v l r t ⟨hr, rfl, hl⟩
    obtain ⟨k', c, rfl, xc⟩ := hl v List.mem_cons_self
    have hl' : ∀ y ∈ l, ∃ k' c, y = Value.ref c ∧ Tx P w t.heap k' c := fun y hy => hl y (List.mem_cons_of_mem _ hy)
    dsimp only
    by_cases z : (b == c || (carriedByValue (.ref b) && carriedByValue (.ref c))) = true
    · exact wp_if_pos z (wpAny_pure ⟨rfl, rfl, hl'⟩)
    · refine wp_if_neg z (wpAny_bind (wpAny_eqIsQuiet_tuple x ?_))
      simp only [Bool.not_true, Bool.false_eq_true, if_false]
      refine wpAny_bind (wpAny_eqIsQuiet_tuple xc ?_)
      simp only [Bool.not_true, Bool.false_eq_true, if_false]
      refine wpAny_bind (tx_cls x ?_)
      simp only [Bool.false_eq_true, if_false]
      refine wpAny_bind (tx_cls xc ?_)
      simp only [Bool.false_eq_true, if_false]
      exact wpAny_pure ⟨rfl, rfl, hl'⟩
  · rintro ⟨r1, r2⟩ t ⟨hr, rfl, _⟩
    have hr : r1 = none := hr
    subst hr
    exact wpAny_pure q
end
def tEnt (P : Program) (w : World) (L : Mbs) : List (Int × Value) := L.map fun q => (tsh P w q.2, Value.ref q.1)
/-- the set at S: its members, in its table's order -/
structure TtS (P : Program) (w : World) (h : Heap) (S : Addr) (L : Mbs) (T : SD) : Prop where
  obj : h.get? S = some (sObj "set" T)
  ent : T.1.toList = tEnt P w L
  tab : TabOk T.2.2 (L.map fun q => tsh P w q.2)
  dif : (L.map (·.2)).Nodup
  tps : ∀ q ∈ L, Tx P w h q.2 q.1
  mar : w.params.followText "set-order" = true ∨ T.2.2.led = true
  rm : L.length * 5 < T.2.2.mask * 3
  few : L.length < 64
section
variable {P : Program} {w : World} {A : Around} {E : Value → Shared → Prop} {s : Shared} {S : Addr} {L : Mbs} {T : SD}
theorem TtS.num {h : Heap} (R : TtS P w h S L T) : T.1.size = L.length := by
  have e := congrArg List.length R.ent
  rw [Array.length_toList] at e
  rw [e]
  exact List.length_map _
theorem TtS.fit {h : Heap} (R : TtS P w h S L T) : T.2.2.fits T.1.size = true := by
  have a := R.tab.sz
  rw [List.length_map] at a
  have b := R.num
  have c := R.rm
  unfold SetTable.fits SetTable.fill
  rw [R.tab.dm, Bool.and_eq_true, beq_iff_eq, decide_eq_true_eq]
  refine ⟨a.trans b.symm, ?_⟩
  rw [a]
  show L.length + 0 ≤ T.2.2.mask
  omega
theorem TtS.at {h : Heap} (R : TtS P w h S L T) {i : Nat} {q : Addr × List Key} (e : L[i]? = some q) : T.1[i]? = some (tsh P w q.2, Value.ref q.1) := by
  have z : T.1.toList[i]? = some (tsh P w q.2, Value.ref q.1) := by rw [R.ent]; simp [tEnt, e]
  rw [← Array.getElem?_toList]
  exact z
theorem TtS.gave {h : Heap} (R : TtS P w h S L T) : ¬ T.2.2.gaveWay = true := by
  have z := mask_odd R.tab.mok
  unfold SetTable.gaveWay
  rw [z]
  decide
theorem TtS.up {h h' : Heap} (R : TtS P w h S L T) (k : ∀ c u, h.get? c = some u → h'.get? c = some u) : TtS P w h' S L T :=
  ⟨k _ _ R.obj, R.ent, R.tab, R.dif, fun q hq => tx_keep (R.tps q hq) k, R.mar, R.rm, R.few⟩
/-- the search, from the c-th step of its way on; the N-th step meets the first empty slot -/
theorem tt_hunt (R : TtS P w s.heap S L T) {x : Addr} {k : List Key} (hx : Tx P w s.heap k x) (hu : A.units < cLine) {N : Nat} (n1 : N < 10 * SetTable.turns T.2.2.mask) (n2 : way T.2.2.mask (tsh P w k) N ∉ T.2.2.place.toList)
    (n3 : ∀ c, c < N → way T.2.2.mask (tsh P w k) c ∈ T.2.2.place.toList) {Q : SetFound → Shared → Prop} (yes : k ∈ L.map (·.2) → Q (.there none) s) (no : k ∉ L.map (·.2) → Q (.free (way T.2.2.mask (tsh P w k) N) false) s) :
    ∀ (fuel c : Nat) (st : Option SetTable.Probe), st.getD (T.2.2.probeStart (tsh P w k)) = nth T.2.2.mask (runAt T.2.2.mask (SetTable.bits (tsh P w k) % (T.2.2.mask + 1)) (SetTable.bits (tsh P w k))) c → c ≤ N → N < fuel + c →
      (∀ (i : Nat) (q : Addr × List Key), L[i]? = some q → q.2 = k → ∃ c', c ≤ c' ∧ c' < N ∧ T.2.2.place.toList[i]? = some (way T.2.2.mask (tsh P w k) c')) →
      wpAny (model P w) A (setSearchFrom S (.ref x) (tsh P w k) true fuel st) Q E s := by
  have fit := R.fit
  have gave := R.gave
  have obj := R.obj
  have num := R.num
  have sz := R.tab.sz
  rw [List.length_map] at sz
  have ate : ∀ {i : Nat} {q : Addr × List Key}, L[i]? = some q → T.1[i]? = some (tsh P w q.2, Value.ref q.1) := fun e => R.at e
  have ent := R.ent
  have tab := R.tab
  have tps := R.tps
  clear R
  obtain ⟨es, ep, t⟩ := T
  dsimp only at n1 n2 n3 no fit gave num sz ate ent tab ⊢
  have dat : (sObj "set" (es, ep, t)).data = .set es ep t := rfl
  generalize eH : tsh P w k = H at n2 n3 no ⊢
  have shift : ∀ c q, nth t.mask (nth t.mask (runAt t.mask (SetTable.bits H % (t.mask + 1)) (SetTable.bits H)) c) q = nth t.mask (runAt t.mask (SetTable.bits H % (t.mask + 1)) (SetTable.bits H)) (c + q) := fun c q => (nth_add t.mask c _ q).symm
  have sj : ∀ c q, (nth t.mask (nth t.mask (runAt t.mask (SetTable.bits H % (t.mask + 1)) (SetTable.bits H)) c) q).j = way t.mask H (c + q) := fun c q => congrArg SetTable.Probe.j (shift c q)
  intro fuel
  induction fuel with
  | zero => intro c st _ h1 h2 _; omega
  | succ fuel ih =>
    intro c st e0 h1 h2 left
    rw [setSearchFrom_succ]
    refine wpAny_bind (wpAny_setState_of obj dat fit ?_)
    dsimp only
    refine wp_if_neg gave ?_
    try refine wpAny_bind (wpAny_pure ?_)
    have hash : ∀ {i : Nat} {q : Addr × List Key}, L[i]? = some q → (es[i]?.map (·.1)).getD 0 = tsh P w q.2 := fun e => by rw [ate e]; rfl
    have go := go_spec t tab.ris tab.dm (fun i => (es[i]?.map (·.1)).getD 0) H (10 * SetTable.turns t.mask) (N - c) _ (prb_dum t.mask c (runAt t.mask (SetTable.bits H % (t.mask + 1)) (SetTable.bits H)) rfl) (by omega)
      (fun q hq => by rw [sj]; exact n3 _ (by omega)) (by rw [sj, show c + (N - c) = N by omega]; exact n2)
    rcases go with ⟨q, i, hq, hi, hh, before, pr⟩ | ⟨before, pr⟩
    · -- something of this hash
      have pr' : t.probe (fun i => (es[i]?.map (·.1)).getD 0) H (st.getD (t.probeStart H)) = some (.candidate (way t.mask H (c + q)) i (nth t.mask (runAt t.mask (SetTable.bits H % (t.mask + 1)) (SetTable.bits H)) (c + (q + 1)))) := by
        rw [e0, ← sj, ← shift]; exact pr
      rw [pr']
      dsimp only
      rw [sj] at hi
      have il : i < L.length := by
        have z := (List.getElem?_eq_some_iff.mp hi).1
        rw [Array.length_toList] at z
        omega
      obtain ⟨p, hp⟩ : ∃ p, L[i]? = some p := ⟨_, List.getElem?_eq_getElem il⟩
      have pm : p ∈ L := List.mem_of_getElem? hp
      have go2 : wpAny (model P w) A (searchRest S (.ref x) H true fuel es t (way t.mask H (c + q)) i (nth t.mask (runAt t.mask (SetTable.bits H % (t.mask + 1)) (SetTable.bits H)) (c + (q + 1)))) Q E s := by
        unfold searchRest
        rw [ate hp]
        dsimp only
        refine wpAny_bind (wpAny_holding (wpAny_eqBool_tuple hu (tps p pm) hx ?_))
        refine wpAny_bind (wpAny_setState_of obj dat fit ?_)
        dsimp only
        by_cases same : p.2 = k
        · exact wp_if_pos (by simp [same]) (wpAny_pure (yes (List.mem_map.mpr ⟨p, pm, same⟩)))
        · refine wp_if_neg (by simp [same]) ?_
          try refine wpAny_bind (wpAny_pure ?_)
          rw [sameMem]
          dsimp only
          have sl : t.slot (way t.mask H (c + q)) = .live i := slot_live tab.ris hi
          simp only [if_true, sl, ate hp]
          refine wpAny_bind (wpAny_isSame_ref_self (wpAny_bind (wpAny_pure ?_)))
          simp only [if_true]
          refine wp_if_neg (by simp [same]) ?_
          refine ih (c + (q + 1)) _ rfl (by omega) (by omega) fun j r hj hr => ?_
          obtain ⟨c', a1, a2, a3⟩ := left j r hj hr
          refine ⟨c', ?_, a2, a3⟩
          rcases Nat.lt_trichotomy c' (c + q) with z | z | z
          · refine absurd ((hash hj).trans ((congrArg (tsh P w) hr).trans eH)) (before (c' - c) j (by omega) ?_)
            rw [sj, show c + (c' - c) = c' by omega]
            exact a3
          · rw [z] at a3
            have s1 := slot_live tab.ris a3
            rw [sl] at s1
            injection s1 with s1
            rw [← s1, hp] at hj
            exact absurd ((congrArg Prod.snd (Option.some.inj hj)).trans hr) same
          · omega
      by_cases hl : t.led = true
      · refine wp_if_neg (by simp [hl]) ?_
        try refine wpAny_bind (wpAny_pure ?_)
        exact go2
      · refine wp_if_pos (by simp [hl]) (wpAny_bind (tx_seen hx (fun y hy => ?_) ?_))
        · obtain ⟨e, he, ee⟩ := List.mem_map.mp hy
          have he : e ∈ es.toList := by
            have z : e ∈ es ∧ e.1 = H := by simpa using he
            simpa using z.1
          rw [ent] at he
          obtain ⟨r, hr, er⟩ := List.mem_map.mp he
          exact ⟨r.2, r.1, by rw [← ee, ← er], tps r hr⟩
        · refine wp_if_neg (by decide) ?_
          try refine wpAny_bind (wpAny_pure ?_)
          exact go2
    · -- the empty slot
      have pr' : t.probe (fun i => (es[i]?.map (·.1)).getD 0) H (st.getD (t.probeStart H)) = some (.empty (way t.mask H N) none) := by
        have z := sj c (N - c)
        rw [show c + (N - c) = N by omega] at z
        rw [e0, ← z]; exact pr
      rw [pr']
      dsimp only
      refine wpAny_pure (no fun hm => ?_)
      obtain ⟨r, hr, er⟩ := List.mem_map.mp hm
      obtain ⟨j, hj⟩ := List.getElem?_of_mem hr
      obtain ⟨c', a1, a2, a3⟩ := left j r hj er
      refine before (c' - c) j (by omega) ?_ ((hash hj).trans ((congrArg (tsh P w) er).trans eH))
      rw [sj, show c + (c' - c) = c' by omega]
      exact a3
theorem tt_search (R : TtS P w s.heap S L T) {x : Addr} {k : List Key} (hx : Tx P w s.heap k x) (hu : A.units < cLine) {Q : SetFound → Shared → Prop} (yes : k ∈ L.map (·.2) → Q (.there none) s)
    (no : ∀ N, k ∉ L.map (·.2) → way T.2.2.mask (tsh P w k) N ∉ T.2.2.place.toList → (∀ c, c < N → way T.2.2.mask (tsh P w k) c ∈ T.2.2.place.toList) → Q (.free (way T.2.2.mask (tsh P w k) N) false) s) :
    wpAny (model P w) A (setSearch S (.ref x) (tsh P w k) true) Q E s := by
  have rm := R.rm
  obtain ⟨N, n1, n2, n3⟩ := R.tab.first (by rw [List.length_map]; omega) (tsh P w k)
  have nb : N < 100000 := by
    have z : SetTable.turns T.2.2.mask ≤ 142 := by
      rcases R.tab.mok with e | e | e <;> rw [e] <;> decide
    omega
  unfold setSearch
  refine tt_hunt R hx hu n1 n2 n3 yes (fun z => no N z n2 n3) 100000 0 none rfl (Nat.zero_le _) nb fun i q e eq => ?_
  have hi : (L.map fun q => tsh P w q.2)[i]? = some (tsh P w k) := by rw [List.getElem?_map, e, ← eq]; rfl
  have sz := R.tab.sz
  rw [List.length_map] at sz
  have il : i < T.2.2.place.toList.length := by
    have := (List.getElem?_eq_some_iff.mp e).1
    rw [Array.length_toList]; omega
  have hj := List.getElem?_eq_getElem il
  obtain ⟨c, c1, c2⟩ := R.tab.before n2 hi hj
  exact ⟨c, Nat.zero_le _, c1, by rw [hj, c2]⟩
theorem tEnt_cut (p : Nat) (y : Addr × List Key) : tEnt P w (L.take p ++ y :: L.drop p) = (tEnt P w L).take p ++ (tsh P w y.2, Value.ref y.1) :: (tEnt P w L).drop p := by
  simp [tEnt]
theorem tEnt_get (L : Mbs) (i : Nat) : (tEnt P w L)[i]? = (L[i]?).map fun q => (tsh P w q.2, Value.ref q.1) := by simp [tEnt]
theorem fm_map {α β : Type} (f : α → β) (g : Nat → Option α) : ∀ l : List Nat, l.filterMap (fun i => (g i).map f) = (l.filterMap g).map f
  | [] => rfl
  | i :: l => by
    rw [List.filterMap_cons, List.filterMap_cons, fm_map f g l]
    cases g i <;> rfl
theorem fm_range {α : Type} : ∀ l : List α, (List.range l.length).filterMap (fun i => l[i]?) = l
  | [] => rfl
  | x :: l => by
    rw [List.length_cons, List.range_succ_eq_map, List.filterMap_cons]
    have z : (List.map Nat.succ (List.range l.length)).filterMap (fun i => (x :: l)[i]?) = (List.range l.length).filterMap (fun i => l[i]?) := by
      rw [List.filterMap_map]
      rfl
    rw [z, fm_range l]
    rfl
/-- the table laid anew -/
theorem tt_relay (obj : s.heap.get? S = some (sObj "set" T)) (ent : T.1.toList = tEnt P w L) (sz : T.2.2.place.size = L.length) (dm : T.2.2.dummies = #[]) (ml : L.length ≤ T.2.2.mask) (dif : (L.map (·.2)).Nodup) (tps : ∀ q ∈ L, Tx P w s.heap q.2 q.1)
    (mk : w.params.followText "set-order" = true ∨ T.2.2.led = true) (few : L.length < 64) {n M : Nat} (nM : SetTable.sizeAbove n - 1 = M) (hM : MaskOk M) (n128 : SetTable.sizeAbove n ≤ 128) (hn : L.length * 5 < M * 3) {Q : Unit → Shared → Prop}
    (q : ∀ h' L' T', Heap.SameBut S s.heap h' → TtS P w h' S L' T' → L'.Perm L → Q () { s with heap := h' }) : wpAny (model P w) A (setRelay S n) Q E s := by
  obtain ⟨es, ep, t⟩ := T
  dsimp only at ent sz dm ml mk
  have dat : (sObj "set" (es, ep, t)).data = .set es ep t := rfl
  have num : es.size = L.length := by
    have e := congrArg List.length ent
    rw [Array.length_toList] at e
    rw [e]
    exact List.length_map _
  have fit : t.fits es.size = true := by
    unfold SetTable.fits SetTable.fill
    rw [dm, Bool.and_eq_true, beq_iff_eq, decide_eq_true_eq]
    refine ⟨sz.trans num.symm, ?_⟩
    rw [sz]
    exact ml
  obtain ⟨t', ord, e, pm, tb, em, el, ep', ed⟩ := relaid_ok t (hs := es.map (·.1)) (wanted := n) nM hM (by rw [Array.size_map]; omega)
  rw [Array.size_map, num] at pm
  obtain ⟨L', eL⟩ : ∃ L', L' = ord.toList.filterMap fun i => L[i]? := ⟨_, rfl⟩
  have pL : L'.Perm L := by
    have z := pm.filterMap fun i => L[i]?
    rw [fm_range] at z
    rw [eL]; exact z
  have ent' : (ord.filterMap (es[·]?)).toList = tEnt P w L' := by
    rw [Array.toList_filterMap, eL]
    have z : (fun i : Nat => es[i]?) = fun i : Nat => (L[i]?).map fun (q : Addr × List Key) => (tsh P w q.2, Value.ref q.1) := by
      funext i
      rw [← Array.getElem?_toList, ent, tEnt_get]
    rw [z, fm_map]
    rfl
  have hs' : (ord.toList.map fun i => (es.map (·.1)).getD i 0) = L'.map fun q => tsh P w q.2 := by
    have all : ∀ i ∈ ord.toList, i < L.length := fun i hi => List.mem_range.mp (pm.mem_iff.mp hi)
    rw [eL]
    clear pL ent' eL tb e pm
    generalize ord.toList = l at all ⊢
    induction l with
    | nil => rfl
    | cons i l ih =>
      have hi := all i List.mem_cons_self
      have g : L[i]? = some L[i] := List.getElem?_eq_getElem hi
      have g2 : es[i]? = some (tsh P w (L[i]).2, Value.ref (L[i]).1) := by rw [← Array.getElem?_toList, ent, tEnt_get, g]; rfl
      rw [List.map_cons, List.filterMap_cons_some g, List.map_cons, ih fun j hj => all j (List.mem_cons_of_mem _ hj)]
      congr 1
      simp [Array.getD_eq_getD_getElem?, g2]
  rw [hs'] at tb
  have num' : (ord.filterMap (es[·]?)).size = es.size := by
    have z := congrArg List.length ent'
    rw [Array.length_toList] at z
    rw [z, num, ← pL.length_eq]
    exact List.length_map _
  rw [setRelay_eq]
  refine wpAny_bind (wpAny_setState_of obj dat fit ?_)
  dsimp only
  refine wp_if_neg (by rw [sizeLine_eq]; omega) ?_
  try refine wpAny_bind (wpAny_pure ?_)
  rw [e]
  dsimp only
  refine wpAny_bind ?_
  refine wp_if_neg (by rw [num']; simp) ?_
  try refine wpAny_bind (wpAny_pure ?_)
  refine wpAny_pure ?_
  dsimp only
  refine wpAny_storeSet_of obj dat ?_ (by rw [num', num, sizeLine_eq]; omega)
  have sb : Heap.SameBut S s.heap (s.heap.update S (Obj.putSet (ord.filterMap (es[·]?)) t')) := Heap.SameBut.update ..
  refine q _ L' (ord.filterMap (es[·]?), ep + 1, t') sb ⟨store_at obj dat, ent', tb, (pL.map (·.2)).nodup_iff.mpr dif, fun r hr => tx_off (tps r (pL.mem_iff.mp hr)) obj sb, ?_, ?_, by rw [pL.length_eq]; exact few⟩ pL
  · show _ ∨ t'.led = true
    rw [el]; exact mk
  · show L'.length * 5 < t'.mask * 3
    rw [pL.length_eq, em]; exact hn
end
end FD
/-! sets of tuples of texts: one put in, made of a list or a tuple -/
namespace FD
open PySem PySem.Spec L2 PyProof.Rows PySem.W PySem.Froz
theorem grown5 : SetTable.sizeAbove (SetTable.grown 5) = 32 := by decide +kernel
theorem grown19 : SetTable.sizeAbove (SetTable.grown 19) = 128 := by decide +kernel
section
variable {P : Program} {w : World} {A : Around} {E : Value → Shared → Prop} {s : Shared} {S : Addr} {L : Mbs} {T : SD}
theorem tt_add (R : TtS P w s.heap S L T) {x : Addr} {k : List Key} (hx : Tx P w s.heap k x) (hu : A.units < cLine) (room : L.length + 1 < 64) {Q : Bool → Shared → Prop}
    (q : ∀ b h' L' T', Heap.SameBut S s.heap h' → TtS P w h' S L' T' → (k ∈ L.map (·.2) → L' = L) → (k ∉ L.map (·.2) → L'.Perm ((x, k) :: L)) → Q b { s with heap := h' }) :
    wpAny (model P w) A (setAddHashed S (.ref x) (tsh P w k)) Q E s := by
  unfold setAddHashed
  refine wpAny_holding ?_
  rw [show (100000 : Nat) = 99999 + 1 from rfl, setAddHashedIn_succ]
  have num := R.num
  have rm := R.rm
  refine wpAny_bind (wpAny_setState_of R.obj rfl R.fit ?_)
  dsimp only
  refine wp_if_neg (by simp [byScan, Value.scannable]) ?_
  try refine wpAny_bind (wpAny_pure ?_)
  refine wpAny_bind (tt_search R hx hu (fun hm => ?_) fun N hm n2 n3 => ?_)
  · dsimp only
    exact wpAny_pure (q false s.heap L T (Heap.SameBut.refl S s.heap) R (fun _ => rfl) fun z => absurd hm z)
  dsimp only
  refine wpAny_bind (wpAny_setState_of R.obj rfl R.fit ?_)
  dsimp only
  obtain ⟨p1, p2, tb, p4, p5, p6, p7, p8, p9⟩ := R.tab.put n2 n3
  have mk := R.mar
  have obj := R.obj
  have ent := R.ent
  have dif := R.dif
  have tps := R.tps
  have mok := R.tab.mok
  clear R
  obtain ⟨es, ep, t⟩ := T
  dsimp only at p1 p2 tb p4 p5 p6 p7 p8 p9 mk ent num rm mok n2 n3 ⊢
  have dat : (sObj "set" (es, ep, t)).data = .set es ep t := rfl
  generalize hP : t.put (way t.mask (tsh P w k) N) = PT at p1 tb p4 p5 p6 p7 p8 p9 ⊢
  obtain ⟨t1, at1⟩ := PT
  dsimp only at p1 tb p4 p5 p6 p7 p8 p9 ⊢
  subst p1
  suffices fin : ∀ t2 : SetTable, TabOk t2 ((L.map fun q => tsh P w q.2).take (SetTable.below t.place (way t.mask (tsh P w k) N)) ++ tsh P w k :: (L.map fun q => tsh P w q.2).drop (SetTable.below t.place (way t.mask (tsh P w k) N))) → t2.mask = t.mask → t2.led = t.led → t2.fill = (L.map fun q => tsh P w q.2).length + 1 →
      wpAny (model P w) A (do
        storeSet S (SetTable.insertAt es (SetTable.below t.place (way t.mask (tsh P w k) N)) (tsh P w k, Value.ref x)) t2
        if (!false && t2.tooFull) = true then setRelay S (SetTable.grown (es.size + 1))
        return true) Q E s by
    by_cases pl : t1.plain = true
    · first
        | (refine wpAny_bind ?_; refine wp_if_pos pl ?_; refine tx_byv hx fun c => ?_)
        | refine wp_if_pos pl (wpAny_bind (tx_byv hx fun c => ?_))
      cases c with
      | true => exact fin t1 tb p4 p5 p9
      | false => exact fin { t1 with plain := false } ⟨tb.ris, tb.dm, tb.sz, tb.mok, tb.bd, tb.reach⟩ p4 p5 p9
    · first
        | (refine wpAny_bind ?_; refine wp_if_neg pl ?_; refine wpAny_pure ?_)
        | refine wp_if_neg pl (wpAny_bind (wpAny_pure ?_))
      exact fin t1 tb p4 p5 p9
  clear tb p4 p5 p6 p7 p8 p9 hP t1
  intro t2 tb p4 p5 p9
  generalize eP : SetTable.below t.place (way t.mask (tsh P w k) N) = p at p2 tb ⊢
  have ent1 : (SetTable.insertAt es p (tsh P w k, Value.ref x)).toList = tEnt P w (L.take p ++ (x, k) :: L.drop p) := by
    rw [SetTable.toList_insertAt, tEnt_cut, ent]
  have pm := put_perm L p (x, k)
  have l1 : (L.take p ++ (x, k) :: L.drop p).length = L.length + 1 := pm.length_eq
  have hs1 : (L.map fun q => tsh P w q.2).take p ++ tsh P w k :: (L.map fun q => tsh P w q.2).drop p = (L.take p ++ (x, k) :: L.drop p).map fun q => tsh P w q.2 := by simp
  rw [hs1] at tb
  have dif1 : ((L.take p ++ (x, k) :: L.drop p).map (·.2)).Nodup := (pm.map (·.2)).nodup_iff.mpr (List.nodup_cons.mpr ⟨hm, dif⟩)
  generalize SetTable.insertAt es p (tsh P w k, Value.ref x) = es1 at ent1 ⊢
  generalize L.take p ++ (x, k) :: L.drop p = L1 at pm l1 tb dif1 ent1
  have num1 : es1.size = L.length + 1 := by
    have z := congrArg List.length ent1
    rw [Array.length_toList] at z
    rw [z, ← l1]
    exact List.length_map _
  refine wpAny_bind (wpAny_storeSet_of obj dat ?_ (by rw [num1, sizeLine_eq]; omega))
  have sb : Heap.SameBut S s.heap (s.heap.update S (Obj.putSet es1 t2)) := Heap.SameBut.update ..
  have obj1 : (s.heap.update S (Obj.putSet es1 t2)).get? S = some (sObj "set" (es1, ep + 1, t2)) := store_at obj dat
  generalize s.heap.update S (Obj.putSet es1 t2) = h1 at sb obj1 ⊢
  have tps1 : ∀ r ∈ L1, Tx P w h1 r.2 r.1 := fun r hr => by
    rcases List.mem_cons.mp (pm.mem_iff.mp hr) with e | hr
    · rw [e]; exact tx_off hx obj sb
    · exact tx_off (tps r hr) obj sb
  have mk1 : w.params.followText "set-order" = true ∨ t2.led = true := by rw [p5]; exact mk
  have fill : t2.tooFull = decide ((L.length + 1) * 5 ≥ t.mask * 3) := by
    unfold SetTable.tooFull
    rw [p9, p4, List.length_map]
  by_cases full : t2.tooFull = true
  · first
      | (refine wpAny_bind ?_; refine wp_if_pos (by simp [full]) ?_)
      | (refine wp_if_pos (by simp [full]) ?_; refine wpAny_bind ?_)
    have big : (L.length + 1) * 5 ≥ t.mask * 3 := by
      rw [fill] at full
      exact of_decide_eq_true full
    rw [num]
    have sz1 : t2.place.size = L1.length := by
      have z := tb.sz
      rw [List.length_map] at z
      exact z
    have go : ∀ M, SetTable.sizeAbove (SetTable.grown (L.length + 1)) = M + 1 → MaskOk M → M + 1 ≤ 128 → (L.length + 1) * 5 < M * 3 → L.length + 1 ≤ t.mask →
        wpAny (model P w) A (setRelay S (SetTable.grown (L.length + 1))) (fun _ s' => wpAny (model P w) A (pure true) Q E s') E { s with heap := h1 } := fun M g1 g2 g3 g4 g5 => by
      refine tt_relay (s := { s with heap := h1 }) (T := (es1, ep + 1, t2)) (L := L1) (M := M) obj1 ent1 sz1 tb.dm (by show L1.length ≤ t2.mask; rw [l1, p4]; exact g5) dif1 tps1 mk1 (by rw [l1]; exact room) (by rw [g1]; rfl) g2 (by rw [g1]; exact g3) (by rw [l1]; exact g4) ?_
      intro h2 L2 T2 sb2 R2 pm2
      exact wpAny_pure (q true h2 L2 T2 (sb.trans sb2) R2 (fun z => absurd z hm) fun _ => pm2.trans pm)
    rcases mok with e | e | e
    · have z : L.length = 4 := by rw [e] at big rm; omega
      exact go 31 (by rw [z, grown5]) (.inr (.inl rfl)) (by decide) (by omega) (by omega)
    · have z : L.length = 18 := by rw [e] at big rm; omega
      exact go 127 (by rw [z, grown19]) (.inr (.inr rfl)) (by decide) (by omega) (by omega)
    · exfalso; rw [e] at big; omega
  · first
      | refine wp_if_neg (by simp [full]) ?_
      | (refine wpAny_bind ?_; refine wp_if_neg (by simp [full]) ?_; refine wpAny_pure ?_)
    refine wpAny_pure (q true h1 L1 (es1, ep + 1, t2) sb ⟨obj1, ent1, tb, dif1, tps1, mk1, ?_, by rw [l1]; exact room⟩ (fun z => absurd z hm) fun _ => pm)
    rw [fill, decide_eq_true_eq] at full
    show L1.length * 5 < t2.mask * 3
    rw [l1, p4]
    omega
/-- what was put in of the first i -/
structure Ins (ks : Mbs) (i : Nat) (L : Mbs) : Prop where
  sub : ∀ q ∈ L, q ∈ ks.take i
  all : ∀ q ∈ ks.take i, q.2 ∈ L.map (·.2)
  len : L.length ≤ i
theorem Ins.next {ks L L' : Mbs} {i : Nat} {q : Addr × List Key} (g : Ins ks i L) (e : ks[i]? = some q) (h1 : q.2 ∈ L.map (·.2) → L' = L) (h2 : q.2 ∉ L.map (·.2) → L'.Perm (q :: L)) : Ins ks (i + 1) L' := by
  have e2 : ks.take (i + 1) = ks.take i ++ [q] := by rw [List.take_add_one, e]; rfl
  by_cases c : q.2 ∈ L.map (·.2)
  · rw [h1 c]
    refine ⟨fun r hr => ?_, fun r hr => ?_, Nat.le_succ_of_le g.len⟩
    · rw [e2]; exact List.mem_append_left _ (g.sub r hr)
    · rw [e2, List.mem_append, List.mem_singleton] at hr
      rcases hr with hr | hr
      · exact g.all r hr
      · rw [hr]; exact c
  · have pm := h2 c
    refine ⟨fun r hr => ?_, fun r hr => ?_, by rw [pm.length_eq]; exact Nat.succ_le_succ g.len⟩
    · rw [e2, List.mem_append, List.mem_singleton]
      exact (List.mem_cons.mp (pm.mem_iff.mp hr)).elim .inr fun z => .inl (g.sub r z)
    · rw [(pm.map (·.2)).mem_iff, List.map_cons, List.mem_cons]
      rw [e2, List.mem_append, List.mem_singleton] at hr
      exact hr.elim (fun z => .inr (g.all r z)) fun z => .inl (by rw [z])
/-- the loop that fills the set -/
theorem tt_fill {I : Addr} {fp wr : List Addr} {G : Array GenState → Array GenState → Prop} {n : Nat} {Pv : Nat → Value → Prop} {St : Nat → Shared → Prop} {R : Result → Shared → Prop}
    (W : WalksS P w A.in1 I fp wr G n Pv St) (S : Addr) (hSf : S ∉ fp) (ks : Mbs) (hn : n = ks.length) (hb : ks.length < 64) (hval : ∀ i v, Pv i v → ∃ q, ks[i]? = some q ∧ v = .ref q.1) (h0 : Heap)
    (tp : ∀ q ∈ ks, Tx P w h0 q.2 q.1) (S0 : h0.get? S = none) (w0 : ∀ b ∈ wr, h0.get? b = none) (hu : A.in1.units < cLine) :
    ∀ (k i : Nat) (sh : Shared), n - i = k → i ≤ n → St i sh → (∀ b o, h0.get? b = some o → sh.heap.get? b = some o) → (∃ L T, TtS P w sh.heap S L T ∧ Ins ks i L) →
      (∀ s' L T, Moved (S :: wr) G sh s' → TtS P w s'.heap S L T → Ins ks n L → (∀ b o, h0.get? b = some o → s'.heap.get? b = some o) → R (.ok (.ret .none)) s') →
      codeAny (model P w) A (.builtin "set.update.loop" ⟨[.ref S, .ref I], []⟩) R sh := by
  have nw : S ∉ wr := fun h => hSf (W.sub _ h)
  have up : ∀ b ∈ wr, b ∈ S :: wr := fun b hb => List.mem_cons_of_mem _ hb
  have old : ∀ {a b : Shared}, Moved wr G a b → (∀ c o, h0.get? c = some o → a.heap.get? c = some o) → ∀ c o, h0.get? c = some o → b.heap.get? c = some o := fun mv k c o e =>
    mv.heap c o (fun z => by rw [w0 c z] at e; cases e) (k c o e)
  have same : ∀ {a b : Shared} {L : Mbs} {T : SD} {i : Nat}, Moved wr G a b → (∀ c o, h0.get? c = some o → b.heap.get? c = some o) → TtS P w a.heap S L T → Ins ks i L → TtS P w b.heap S L T := fun mv k R g =>
    ⟨mv.heap S _ nw R.obj, R.ent, R.tab, R.dif, fun q hq => tx_keep (tp q (List.mem_of_mem_take (g.sub q hq))) k, R.mar, R.rm, R.few⟩
  intro k
  induction k with
  | zero =>
    intro i sh ek hi st0 kp ⟨L, T, hT, g⟩ hR
    obtain rfl : i = n := by omega
    refine codeAny_builtin F.entry_set_update_loop ?_
    rw [Around.under_plainId F.plain_set_update_loop _]
    show wpAny _ A.in1 (pyNext (.ref I) >>= _) _ _ sh
    refine wpAny_bind (W.done sh _ _ st0 fun s' mv => ?_)
    show wpAny _ A.in1 (ret Value.none) _ _ s'
    have kp' := old mv kp
    exact wpAny_pure (hR s' L T (mv.mono up) (same mv kp' hT g) g kp')
  | succ k ih =>
    intro i sh ek hi st0 kp ⟨L, T, hT, g⟩ hR
    have lt0 : i < n := by omega
    refine codeAny_builtin F.entry_set_update_loop ?_
    rw [Around.under_plainId F.plain_set_update_loop _]
    show wpAny _ A.in1 (pyNext (.ref I) >>= _) _ _ sh
    refine wpAny_bind (W.item i sh _ _ lt0 st0 fun v s1 pv st1 mv => ?_)
    obtain ⟨q, hq, rfl⟩ := hval i v pv
    have kp1 := old mv kp
    have hT1 := same mv kp1 hT g
    have hx : Tx P w s1.heap q.2 q.1 := tx_keep (tp q (List.mem_of_getElem? hq)) kp1
    show wpAny _ A.in1 (holding [Value.ref q.1] (setAdd S (.ref q.1)) >>= _) _ _ s1
    refine wpAny_bind (wpAny_holding ?_)
    unfold setAdd
    refine wpAny_holding ?_
    refine wpAny_bind (wpAny_pyHash_tuple hu hx ?_)
    have gl := g.len
    refine tt_add (s := { s1 with toks := s1.toks + (q.2.length + 1) }) hT1 hx hu (by omega) fun b g1 L1 T1 sb hT2 c1 c2 => ?_
    have kp2 : ∀ c o, h0.get? c = some o → g1.get? c = some o := fun c o e => (sb.2 c (fun z => by rw [z, S0] at e; cases e)).trans (kp1 c o e)
    refine wpAny_pure ⟨plainId_quiet F.plain_set_update_loop _, ih (i + 1) _ (by omega) lt0 (W.frame _ s1 _ _ st1 (Nat.le_add_right _ _) fun b hb o z => ?_) kp2 ⟨L1, T1, hT2, g.next hq c1 c2⟩ fun s2 L2 T2 mv2 hT3 g3 kp3 => ?_⟩
    · rw [sb.2 b (fun z : b = S => hSf (by rw [← z]; exact hb))]; exact z
    · refine hR s2 L2 T2 (Moved.trans W.gtrans ((mv.mono up).then_heap (Nat.le_add_right _ _) fun b o hb z => ?_) mv2) hT3 g3 kp3
      rw [sb.2 b (fun z : b = S => hb (by rw [z]; exact List.mem_cons_self))]; exact z
theorem tt_new {h : Heap} (g : h.get? S = some { cls := .type "set", dict := none, data := .set #[] 0 (.fresh 0 0 (!w.params.followText "set-order")) }) : TtS P w h S [] (#[], 0, .fresh 0 0 (!w.params.followText "set-order")) where
  obj := g
  ent := rfl
  tab := ⟨List.Pairwise.nil, rfl, rfl, .inl rfl, fun x hx => absurd hx (by simp [SetTable.fresh]), fun i h j e => by simp at e⟩
  dif := List.nodup_nil
  tps := fun q hq => absurd hq (by simp)
  mar := by
    cases z : w.params.followText "set-order"
    · exact .inr rfl
    · exact .inl rfl
  rm := by show 0 * 5 < 7 * 3; decide
  few := by decide
set_option maxHeartbeats 24000000 in
/-- set(xs), xs a list of tuples of texts -/
theorem call_setTl {l : Addr} {its : Array Value} (ks : Mbs) {Q : Value → Shared → Prop} (hh : A.handled = none) (hl : s.heap.IsList l its) (hit : its.toList = ks.map fun q => Value.ref q.1) (tp : ∀ q ∈ ks, Tx P w s.heap q.2 q.1) (hb : ks.length < 64) (hu : A.units + 3 < cLine)
    (q : ∀ (h' : Heap) (tk : Nat) L T, TtS P w h' s.heap.objs.size L T → Ins ks ks.length L → (∀ b o, s.heap.get? b = some o → h'.get? b = some o) → Q (.ref s.heap.objs.size) { s with heap := h', toks := tk }) :
    wpAny (model P w) A (call (.type "set") [.ref l]) Q E s := by
  have eN : its.size = ks.length := by
    have z := congrArg List.length hit
    rw [Array.length_toList, List.length_map] at z
    exact z
  have hval : ∀ (i : Nat) (v : Value), its[i]? = some v → ∃ q, ks[i]? = some q ∧ v = .ref q.1 := fun i v hv => by
    have z : its.toList[i]? = some v := by rw [Array.getElem?_toList]; exact hv
    rw [hit, List.getElem?_map] at z
    cases e : ks[i]? with
    | none => rw [e] at z; cases z
    | some r => rw [e] at z; exact ⟨r, rfl, (Option.some.inj z).symm⟩
  have no : ∀ b, s.heap.objs.size ≤ b → s.heap.get? b = none := fun b hb => by
    cases e : s.heap.get? b with
    | none => rfl
    | some o => exact absurd (Heap.lt_size e) (Nat.not_lt.mpr hb)
  obtain ⟨c, tl, hmro⟩ := F.called_set.mro
  have hmade := F.called_set.made
  have hsub := F.called_set.sub
  refine wpAny_call (codeAny_of_tree ?_)
  show wpAny _ _ (callAny (.type "set") _) _ _ _
  refine wpAny_pure ⟨Code.quiet_builtin _ (by decide +kernel), codeAny_builtin F.entry_type_call ?_⟩
  rw [Around.under_plain (weight_type_call_type "set" [.ref l] []) rfl]
  have h1 := F.called_set.notType
  have h2 := F.called_set.canCreate
  have hct := F.typeCall_set_1 (.ref l)
  repeat (any_goals (first | assumption | wp_step))
  generalize eS : ({ cls := .type "set", dict := none, data := .set #[] 0 (.fresh 0 0 (!w.params.followText "set-order")) } : Obj) = o0
  refine codeAny_mono (code_set_led1 (.ref l) (E := E) (Q₁ := fun obj t => obj = .ref s.heap.objs.size ∧ t = { s with heap := s.heap.push o0 }) ⟨rfl, by rw [eS]⟩) fun r t hr => ?_
  cases r with
  | error e => exact hr
  | ok fl =>
    cases fl with
    | ret obj =>
      obtain ⟨rfl, rfl⟩ := hr
      have hS : (s.heap.push o0).get? s.heap.objs.size = some o0 := Heap.get?_push_size _ (by rw [← eS]; rfl)
      have hT : Shared.TypeIs { s with heap := s.heap.push o0 } (.ref s.heap.objs.size) "set" := ⟨_, hS, by rw [← eS]⟩
      have hli := F.called_set.init.lookup
      have hbi := F.called_set.init.bind (.ref s.heap.objs.size)
      repeat (any_goals (first | assumption | wp_step))
      refine codeAny_mono (codeAny_call_builtin (R := wants (fun r s₂ => r = .none ∧ ∃ h' tk L T, s₂ = { s with heap := h', toks := tk } ∧ TtS P w h' s.heap.objs.size L T ∧ Ins ks ks.length L ∧
          (∀ b o, s.heap.get? b = some o → h'.get? b = some o)) E) F.called_set.init.plain F.entry_set_init (check_set_init_1 hT ?_)) fun r₂ s₂ hr₂ => ?_
      · obtain ⟨ol, hol, hcl, nl, hdl⟩ := hl
        obtain ⟨ocls, odict, odata, oslots⟩ := ol
        simp only at hcl hdl
        subst hcl; subst hdl
        have hol' : (s.heap.push o0).get? l = some { cls := .type "list", dict := odict, data := .seq its nl, slots := oslots } := Heap.get?_push_of_some _ hol
        have hsls := F.sub_list_set
        have hslf := F.sub_list_frozenset
        have hne : (Value.type "list" == Value.type "dict") = false := by decide
        have tl1 : (s.heap.push o0).IsList l its := ⟨_, hol', rfl, nl, rfl⟩
        subst eS
        unfold Builtin.«set.__init__» noKeywords Builtin.Frozenset.updateFrom
        generalize hPI : pyIter = PI
        wp_walk
        subst hPI
        refine wpAny_pyIter_list tl1 ?_
        refine wpAny_bind (wpAny_runValue ?_)
        have ltl : l < s.heap.objs.size := Heap.lt_size hol
        have hh3 : A.in1.in1.in1.handled = none := by simp [hh]
        have eP : ∀ o : Obj, (s.heap.push o).objs.size = s.heap.objs.size + 1 := fun o => Heap.size_push ..
        have neI : l ≠ (s.heap.push { cls := .type "set", dict := none, data := .set #[] 0 (.fresh 0 0 (!w.params.followText "set-order")) }).objs.size := by rw [eP]; exact Nat.ne_of_lt (Nat.lt_succ_of_lt ltl)
        have outS : s.heap.objs.size ∉ [(s.heap.push { cls := .type "set", dict := none, data := .set #[] 0 (.fresh 0 0 (!w.params.followText "set-order")) }).objs.size, l] := by
          rw [eP]; simp only [List.mem_cons, List.not_mem_nil, or_false, not_or]
          exact ⟨Nat.ne_of_lt (Nat.lt_succ_self _), Nat.ne_of_gt ltl⟩
        refine tt_fill ((Walks.list hh3 _ l neI its).toS) s.heap.objs.size outS ks eN hb hval s.heap tp (no _ (Nat.le_refl _)) (fun b hb => no b (by rw [List.mem_singleton.mp hb, eP]; exact Nat.le_succ _)) hu (its.size - 0) 0 _ (by omega) (Nat.zero_le _)
          ⟨⟨_, Heap.get?_push_size _ rfl, rfl, rfl⟩, (tl1.push _)⟩ (fun b o e => Heap.get?_push_of_some _ (Heap.get?_push_of_some _ e)) ?_ ?_
        · exact ⟨[], _, tt_new (Heap.get?_push_of_some _ hS), fun q hq => absurd hq (by simp), fun q hq => absurd hq (by simp), Nat.zero_le _⟩
        · intro s' L T mv hT' g' k'
          obtain ⟨h', gg, d', tk', os'⟩ := s'
          have eg : gg = s.gens := mv.gens
          have ed : d' = s.drawn := mv.drawn
          have eo : os' = s.os := mv.os
          subst eg; subst ed; subst eo
          show wpAny _ _ _ _ _ _
          refine wpAny_pure ?_
          show wpAny _ _ (ret Value.none) _ _ _
          rw [eN] at g'
          exact wpAny_pure ⟨rfl, h', tk', L, T, rfl, hT', g', k'⟩
      · cases r₂ with
        | error e => exact hr₂
        | ok fl₂ =>
          cases fl₂ with
          | ret r =>
            obtain ⟨rfl, h', tk, L, T, rfl, a1, a2, a3⟩ := hr₂
            repeat (any_goals (first | assumption | wp_step))
            exact q _ _ _ _ a1 a2 a3
          | _ => exact hr₂.elim
    | _ => exact hr.elim
set_option maxHeartbeats 24000000 in
/-- set(xs), xs a tuple of tuples of texts -/
theorem call_setTt {l : Addr} {its : Array Value} (ks : Mbs) {Q : Value → Shared → Prop} (hh : A.handled = none) (hl : s.heap.IsTuple l its) (hit : its.toList = ks.map fun q => Value.ref q.1) (tp : ∀ q ∈ ks, Tx P w s.heap q.2 q.1) (hb : ks.length < 64) (hu : A.units + 3 < cLine)
    (q : ∀ (h' : Heap) (tk : Nat) L T, TtS P w h' s.heap.objs.size L T → Ins ks ks.length L → (∀ b o, s.heap.get? b = some o → h'.get? b = some o) → Q (.ref s.heap.objs.size) { s with heap := h', toks := tk }) :
    wpAny (model P w) A (call (.type "set") [.ref l]) Q E s := by
  have eN : its.size = ks.length := by
    have z := congrArg List.length hit
    rw [Array.length_toList, List.length_map] at z
    exact z
  have hval : ∀ (i : Nat) (v : Value), its[i]? = some v → ∃ q, ks[i]? = some q ∧ v = .ref q.1 := fun i v hv => by
    have z : its.toList[i]? = some v := by rw [Array.getElem?_toList]; exact hv
    rw [hit, List.getElem?_map] at z
    cases e : ks[i]? with
    | none => rw [e] at z; cases z
    | some r => rw [e] at z; exact ⟨r, rfl, (Option.some.inj z).symm⟩
  have no : ∀ b, s.heap.objs.size ≤ b → s.heap.get? b = none := fun b hb => by
    cases e : s.heap.get? b with
    | none => rfl
    | some o => exact absurd (Heap.lt_size e) (Nat.not_lt.mpr hb)
  obtain ⟨c, tl, hmro⟩ := F.called_set.mro
  have hmade := F.called_set.made
  have hsub := F.called_set.sub
  refine wpAny_call (codeAny_of_tree ?_)
  show wpAny _ _ (callAny (.type "set") _) _ _ _
  refine wpAny_pure ⟨Code.quiet_builtin _ (by decide +kernel), codeAny_builtin F.entry_type_call ?_⟩
  rw [Around.under_plain (weight_type_call_type "set" [.ref l] []) rfl]
  have h1 := F.called_set.notType
  have h2 := F.called_set.canCreate
  have hct := F.typeCall_set_1 (.ref l)
  repeat (any_goals (first | assumption | wp_step))
  generalize eS : ({ cls := .type "set", dict := none, data := .set #[] 0 (.fresh 0 0 (!w.params.followText "set-order")) } : Obj) = o0
  refine codeAny_mono (code_set_led1 (.ref l) (E := E) (Q₁ := fun obj t => obj = .ref s.heap.objs.size ∧ t = { s with heap := s.heap.push o0 }) ⟨rfl, by rw [eS]⟩) fun r t hr => ?_
  cases r with
  | error e => exact hr
  | ok fl =>
    cases fl with
    | ret obj =>
      obtain ⟨rfl, rfl⟩ := hr
      have hS : (s.heap.push o0).get? s.heap.objs.size = some o0 := Heap.get?_push_size _ (by rw [← eS]; rfl)
      have hT : Shared.TypeIs { s with heap := s.heap.push o0 } (.ref s.heap.objs.size) "set" := ⟨_, hS, by rw [← eS]⟩
      have hli := F.called_set.init.lookup
      have hbi := F.called_set.init.bind (.ref s.heap.objs.size)
      repeat (any_goals (first | assumption | wp_step))
      refine codeAny_mono (codeAny_call_builtin (R := wants (fun r s₂ => r = .none ∧ ∃ h' tk L T, s₂ = { s with heap := h', toks := tk } ∧ TtS P w h' s.heap.objs.size L T ∧ Ins ks ks.length L ∧
          (∀ b o, s.heap.get? b = some o → h'.get? b = some o)) E) F.called_set.init.plain F.entry_set_init (check_set_init_1 hT ?_)) fun r₂ s₂ hr₂ => ?_
      · obtain ⟨ol, hol, hcl, nl, hdl⟩ := hl
        obtain ⟨ocls, odict, odata, oslots⟩ := ol
        simp only at hcl hdl
        subst hcl; subst hdl
        have hol' : (s.heap.push o0).get? l = some { cls := .type "tuple", dict := odict, data := .seq its nl, slots := oslots } := Heap.get?_push_of_some _ hol
        have hsls := F.sub_tuple_set
        have hslf := F.sub_tuple_frozenset
        have hne : (Value.type "tuple" == Value.type "dict") = false := by decide
        have tl1 : (s.heap.push o0).IsTuple l its := ⟨_, hol', rfl, nl, rfl⟩
        subst eS
        unfold Builtin.«set.__init__» noKeywords Builtin.Frozenset.updateFrom
        generalize hPI : pyIter = PI
        wp_walk
        subst hPI
        refine wpAny_pyIter_tuple tl1 ?_
        refine wpAny_bind (wpAny_runValue ?_)
        have ltl : l < s.heap.objs.size := Heap.lt_size hol
        have hh3 : A.in1.in1.in1.handled = none := by simp [hh]
        have eP : ∀ o : Obj, (s.heap.push o).objs.size = s.heap.objs.size + 1 := fun o => Heap.size_push ..
        have neI : l ≠ (s.heap.push { cls := .type "set", dict := none, data := .set #[] 0 (.fresh 0 0 (!w.params.followText "set-order")) }).objs.size := by rw [eP]; exact Nat.ne_of_lt (Nat.lt_succ_of_lt ltl)
        have outS : s.heap.objs.size ∉ [(s.heap.push { cls := .type "set", dict := none, data := .set #[] 0 (.fresh 0 0 (!w.params.followText "set-order")) }).objs.size, l] := by
          rw [eP]; simp only [List.mem_cons, List.not_mem_nil, or_false, not_or]
          exact ⟨Nat.ne_of_lt (Nat.lt_succ_self _), Nat.ne_of_gt ltl⟩
        refine tt_fill ((Walks.tuple hh3 _ l neI its).toS) s.heap.objs.size outS ks eN hb hval s.heap tp (no _ (Nat.le_refl _)) (fun b hb => no b (by rw [List.mem_singleton.mp hb, eP]; exact Nat.le_succ _)) hu (its.size - 0) 0 _ (by omega) (Nat.zero_le _)
          ⟨⟨_, Heap.get?_push_size _ rfl, rfl, rfl⟩, (tl1.push _)⟩ (fun b o e => Heap.get?_push_of_some _ (Heap.get?_push_of_some _ e)) ?_ ?_
        · exact ⟨[], _, tt_new (Heap.get?_push_of_some _ hS), fun q hq => absurd hq (by simp), fun q hq => absurd hq (by simp), Nat.zero_le _⟩
        · intro s' L T mv hT' g' k'
          obtain ⟨h', gg, d', tk', os'⟩ := s'
          have eg : gg = s.gens := mv.gens
          have ed : d' = s.drawn := mv.drawn
          have eo : os' = s.os := mv.os
          subst eg; subst ed; subst eo
          show wpAny _ _ _ _ _ _
          refine wpAny_pure ?_
          show wpAny _ _ (ret Value.none) _ _ _
          rw [eN] at g'
          exact wpAny_pure ⟨rfl, h', tk', L, T, rfl, hT', g', k'⟩
      · cases r₂ with
        | error e => exact hr₂
        | ok fl₂ =>
          cases fl₂ with
          | ret r =>
            obtain ⟨rfl, h', tk, L, T, rfl, a1, a2, a3⟩ := hr₂
            repeat (any_goals (first | assumption | wp_step))
            exact q _ _ _ _ a1 a2 a3
          | _ => exact hr₂.elim
    | _ => exact hr.elim
end
end FD
/-! tuples of ints and texts sorted; sets of them -/
namespace FD
open PySem PySem.Spec L2 PyProof.Rows PySem.W PySem.Froz
def kyD : Key → PyData
  | .inl i => .int i
  | .inr x => .str x
/-- a tuple of ints and texts as data -/
def rowK (k : List Key) : PyData := .tuple (k.map kyD)
theorem reads_keys {h : Heap} {P : Program} {w : World} : ∀ {k : List Key} {vs : List Value}, ItemsAre (mixKind P w) k vs → PySem.ReadsAll h vs (k.map kyD) []
  | [], _, .nil => .nil
  | z :: k, _, .cons (v := v) q t => by
    have q : keyIs z v = true := q
    rcases keyIs_shape q with ⟨i, u, rfl, rfl⟩ | ⟨x, u, rfl, rfl⟩
    · exact .cons (as := []) (bs := []) (.int i u) (reads_keys t)
    · exact .cons (as := []) (bs := []) (.str x u) (reads_keys t)
theorem tx_reads {h : Heap} {P : Program} {w : World} {k : List Key} {b : Addr} (x : Tx P w h k b) : PySem.Reads h (.ref b) (rowK k) [] := by
  obtain ⟨u, its, m, g, c, dt, is⟩ := x
  exact .tuple g c dt (reads_keys is)
def isI : Key → Bool
  | .inl _ => true
  | .inr _ => false
theorem alike_keys : ∀ k l : List Key, k.map isI = l.map isI → alikeAll (k.map kyD) (l.map kyD) = true
  | [], [], _ => by simp [alikeAll]
  | [], _ :: _, _ => by simp [alikeAll]
  | _ :: _, [], _ => by simp [alikeAll]
  | x :: k, y :: l, h => by
    rw [List.map_cons, List.map_cons] at h
    have := alike_keys k l (List.cons.inj h).2
    have e := (List.cons.inj h).1
    cases x <;> cases y
    · simp [alikeAll, alike, kyD, this]
    · exact absurd e (by simp [isI])
    · exact absurd e (by simp [isI])
    · simp [alikeAll, alike, kyD, this]
theorem alike_rows {k l : List Key} (h : k.map isI = l.map isI) : alike (rowK k) (rowK l) = true := by
  have := alike_keys k l h
  simpa [rowK, alike] using this
theorem depth_keys : ∀ k : List Key, PyData.depthAll (k.map kyD) = 0
  | [] => by simp [PyData.depthAll]
  | x :: k => by cases x <;> simp [PyData.depthAll, PyData.depth, kyD, depth_keys k]
theorem depth_row (k : List Key) : (rowK k).depth = 1 := by
  simp [rowK, PyData.depth, depth_keys]
/-- the order of such tuples -/
def leK (k l : List Key) : Bool := dataLe false rowK k l
def refsOf (L : Mbs) : List Value := L.map fun q => Value.ref q.1
/-- of one shape, none empty -/
def OneShape (l : List (List Key)) : Prop := ∃ sh : List Bool, sh ≠ [] ∧ ∀ k ∈ l, k.map isI = sh
section
variable {P : Program} {w : World} {A : Around} {E : Value → Shared → Prop} {s : Shared}
theorem rows_each {h : Heap} : ∀ {L : Mbs}, (∀ q ∈ L, Tx P w h q.2 q.1) → EachIs (fun v d => ∃ as, PySem.Reads h v d as) (refsOf L) (L.map fun q => rowK q.2)
  | [], _ => .nil
  | q :: L, t => .cons ⟨[], tx_reads (t q List.mem_cons_self)⟩ (rows_each fun r hr => t r (List.mem_cons_of_mem _ hr))
theorem rows_each2 {h : Heap} : ∀ {L : Mbs}, (∀ q ∈ L, Tx P w h q.2 q.1) → EachIs (fun v (q : Addr × List Key) => ∃ as, PySem.Reads h v (rowK q.2) as) (refsOf L) L
  | [], _ => .nil
  | q :: L, t => .cons ⟨[], tx_reads (t q List.mem_cons_self)⟩ (rows_each2 fun r hr => t r (List.mem_cons_of_mem _ hr))
theorem refs_each : ∀ L : Mbs, EachIs (fun v (q : Addr × List Key) => v = Value.ref q.1) (refsOf L) L
  | [] => .nil
  | _ :: L => .cons rfl (refs_each L)
theorem each_refs : ∀ {L : Mbs} {vs : List Value}, EachIs (fun v (q : Addr × List Key) => v = Value.ref q.1) vs L → vs = refsOf L
  | [], _, .nil => rfl
  | q :: L, _, .cons h t => by rw [each_refs t, h]; rfl
theorem rows_alike {L : Mbs} (h : OneShape (L.map (·.2))) : AllAlike (L.map fun q => rowK q.2) := fun d hd d' hd' => by
  obtain ⟨q, hq, rfl⟩ := List.mem_map.mp hd
  obtain ⟨r, hr, rfl⟩ := List.mem_map.mp hd'
  obtain ⟨sh, _, h⟩ := h
  exact alike_rows ((h _ (List.mem_map_of_mem hq)).trans (h _ (List.mem_map_of_mem hr)).symm)
theorem shape_ne {l : List (List Key)} (h : OneShape l) {k : List Key} (hk : k ∈ l) : ∃ a b, k = a :: b := by
  obtain ⟨sh, ne, h⟩ := h
  cases k with
  | nil => exact absurd (h _ hk).symm ne
  | cons a b => exact ⟨a, b, rfl⟩
theorem shape_sub {l m : List (List Key)} (h : OneShape l) (s : ∀ k ∈ m, k ∈ l) : OneShape m := let ⟨sh, ne, h⟩ := h; ⟨sh, ne, fun k hk => h k (s k hk)⟩
theorem rows_sort {L : Mbs} (hs : OneShape (L.map (·.2))) (t : ∀ q ∈ L, Tx P w s.heap q.2 q.1) (hu : A.units + 1 < cLine) : SortsAt P w A s (dataKind s.heap (L.map fun q => rowK q.2)) (refsOf L) := by
  refine SortsAt.data (rows_each t) (rows_alike hs) (.inl fun d hd => ?_) fun d hd => ?_
  · obtain ⟨q, hq, rfl⟩ := List.mem_map.mp hd
    obtain ⟨a, b, z⟩ := shape_ne hs (List.mem_map_of_mem (f := (·.2)) hq)
    exact ⟨kyD a, b.map kyD, by simp [rowK, z]⟩
  · obtain ⟨q, hq, rfl⟩ := List.mem_map.mp hd
    rw [depth_row]; exact hu
theorem sorted_setTt {a : Addr} {L : Mbs} {T : SD} {Q : Value → Shared → Prop} (R : TtS P w s.heap a L T) (hs : OneShape (L.map (·.2))) (hh : A.handled = none) (hu : A.units + 3 < cLine)
    (hQ : ∀ s' p (out : Array Value) (c : Nat) (L' : Mbs), (∀ b o, s.heap.get? b = some o → s'.heap.get? b = some o) → s'.gens = s.gens → s'.os = s.os → s.heap.objs.size ≤ p →
      s'.heap.get? p = some (seqObj "list" out c) → out.toList = refsOf L' → L'.Perm L → L'.Pairwise (fun q r => leK q.2 r.2 = true) → Q (.ref p) s') :
    wpAny (model P w) A (call (.builtin "sorted") [.ref a]) Q E s := by
  have num := R.num
  have few := R.few
  refine Calls.call_function_entry kind_sorted plain_sorted entry_sorted (args_sorted1 _) ?_
  unfold Builtin.«sorted»
  refine wpAny_bind (m := checkCount "sorted" 1 1 _) (wpAny_pure ?_)
  refine wpAny_bind (collect_set (A := A.in1) hh ⟨_, R.obj, rfl, rfl⟩ R.fit (by unfold scanBound; omega) R.tab.ris R.mar fun s1 vs k1 hz g1 o1 pm => ?_)
  have he : T.1.toList.map (·.2) = refsOf L := by
    rw [R.ent]
    simp [tEnt, refsOf]
  rw [he] at pm
  have ord : ∀ l : List Value, (∀ v ∈ l, v ∈ refsOf L) → ∃ L1 : Mbs, l = refsOf L1 ∧ ∀ q ∈ L1, q ∈ L := by
    intro l
    induction l with
    | nil => exact fun _ => ⟨[], rfl, fun q hq => absurd hq (by simp)⟩
    | cons v l ih =>
      intro hv
      obtain ⟨q, hq, e⟩ := List.mem_map.mp (hv v List.mem_cons_self)
      obtain ⟨L1, e1, h1⟩ := ih fun u hu => hv u (List.mem_cons_of_mem _ hu)
      exact ⟨q :: L1, by rw [e1, ← e]; rfl, fun r hr => (List.mem_cons.mp hr).elim (fun z => by rw [z]; exact hq) (h1 r)⟩
  have one : ∀ q ∈ L, ∀ r ∈ L, q.1 = r.1 → q = r := fun q hq r hr e => by
    have a1 := R.tps q hq
    rw [e] at a1
    exact Prod.ext e (a1.inj (R.tps r hr))
  have back : ∀ L1 : Mbs, (∀ q ∈ L1, q ∈ L) → (refsOf L1).Perm (refsOf L) → L1.Perm L := fun L1 h1 p1 => by
    have nL : L.Nodup := List.Pairwise.of_map (·.2) (fun _ _ ne e => ne (congrArg _ e)) R.dif
    have nr : (refsOf L).Nodup := List.pairwise_map.mpr (List.Pairwise.imp_of_mem (fun {q r} hq hr ne e => ne (one q hq r hr (by injection e))) nL)
    have n1 : L1.Nodup := List.Pairwise.of_map _ (fun _ _ ne e => ne (congrArg (fun q : Addr × List Key => Value.ref q.1) e)) (p1.nodup_iff.mpr nr)
    refine (List.perm_ext_iff_of_nodup n1 nL).mpr fun q => ⟨h1 q, fun hq => ?_⟩
    obtain ⟨r, hr, e⟩ := List.mem_map.mp (p1.mem_iff.mpr (List.mem_map.mpr ⟨q, hq, rfl⟩))
    injection e with e
    rw [← one r (h1 r hr) q hq e]
    exact hr
  obtain ⟨L1, e1, sub1⟩ := ord vs fun v hv => pm.mem_iff.mp hv
  have p1 : L1.Perm L := back L1 sub1 (by rw [← e1]; exact pm)
  have hvl : vs.length < 64 := by rw [pm.length_eq]; unfold refsOf; rw [List.length_map]; exact few
  refine wpAny_bind (wpAny_newList ?_ (by rw [sizeLine_eq]; omega))
  have hoL : (s1.heap.push (seqObj "list" vs.toArray 0)).get? s1.heap.objs.size = some (seqObj "list" vs.toArray 0) := Heap.get?_push_size _ rfl
  have nt : ∀ q ∈ L, ∀ h2 : Heap, Tx P w h2 q.2 q.1 → True := fun _ _ _ _ => trivial
  refine wpAny_bind (wpAny_holding (wpAny_call_entry slot_list_sort ⟨_, hoL, rfl⟩ entry_list_sort (list_sort_vals (s := { s1 with heap := s1.heap.push (seqObj "list" vs.toArray 0) }) (κ := dataKind (sortingHeap (s1.heap.push (seqObj "list" vs.toArray 0)) s1.heap.objs.size vs) (L1.map fun q => rowK q.2)) hoL ?_ (by rw [sizeLine_eq]; omega) ?_) (args_list_sort _)))
  · rw [e1]
    refine rows_sort (shape_sub hs fun k hk => by obtain ⟨q, hq, rfl⟩ := List.mem_map.mp hk; exact List.mem_map_of_mem (sub1 q hq)) (s := { s1 with heap := sortingHeap (s1.heap.push (seqObj "list" (refsOf L1).toArray 0)) s1.heap.objs.size (refsOf L1) }) (fun q hq => ?_) (by show A.units + 1 + 1 + 1 < cLine; omega)
    refine tx_keep (tx_keep (R.tps q (sub1 q hq)) k1) fun c u e => ?_
    exact sortingHeap_old (Nat.ne_of_lt (Heap.lt_size e)) (Heap.get?_push_of_some _ e)
  · refine ⟨_, rfl, ?_⟩
    generalize hO : sortVals (dataKind (sortingHeap (s1.heap.push (seqObj "list" vs.toArray 0)) s1.heap.objs.size vs) (L1.map fun q => rowK q.2)) false vs vs = out
    have po : out.Perm vs := by
      rw [← hO]
      unfold sortVals
      have z := (List.mergeSort_perm (vs.zip vs) (sortLe (dataKind (sortingHeap (s1.heap.push (seqObj "list" vs.toArray 0)) s1.heap.objs.size vs) (L1.map fun q => rowK q.2)).toKeyOrd false fun p : Keyed => keyD (dataKind (sortingHeap (s1.heap.push (seqObj "list" vs.toArray 0)) s1.heap.objs.size vs) (L1.map fun q => rowK q.2)) p.1)).map Prod.snd
      rw [List.map_snd_zip (Nat.le_refl _)] at z
      exact z
    have tL1 : ∀ q ∈ L1, Tx P w (sortingHeap (s1.heap.push (seqObj "list" vs.toArray 0)) s1.heap.objs.size vs) q.2 q.1 := fun q hq => by
      refine tx_keep (tx_keep (R.tps q (sub1 q hq)) k1) fun c u e => ?_
      exact sortingHeap_old (Nat.ne_of_lt (Heap.lt_size e)) (Heap.get?_push_of_some _ e)
    have eo : EachIs (fun v (q : Addr × List Key) => v = Value.ref q.1) out (L1.mergeSort (dataLe false fun q : Addr × List Key => rowK q.2)) := by
      rw [← hO]
      have z1 : EachIs (fun v (q : Addr × List Key) => v = Value.ref q.1) vs L1 := by rw [e1]; exact refs_each L1
      have z2 : EachIs (fun v (q : Addr × List Key) => ∃ as, PySem.Reads (sortingHeap (s1.heap.push (seqObj "list" vs.toArray 0)) s1.heap.objs.size vs) v (rowK q.2) as) vs L1 := by
        have z := rows_each2 tL1
        rw [← e1] at z
        exact z
      exact sortVals_data false z1 z2 (rows_alike (shape_sub hs fun k hk => by obtain ⟨q, hq, rfl⟩ := List.mem_map.mp hk; exact List.mem_map_of_mem (sub1 q hq)))
    have e2 := each_refs eo
    have p2 : (L1.mergeSort (dataLe false fun q : Addr × List Key => rowK q.2)).Perm L := (List.mergeSort_perm _ _).trans p1
    have w2 : (L1.mergeSort (dataLe false fun q : Addr × List Key => rowK q.2)).Pairwise (fun q r => leK q.2 r.2 = true) := by
      have tot := sortLe_total (listOrd itemOrd) false (fun q : Addr × List Key => keyToks (rowK q.2))
      exact List.pairwise_mergeSort (fun a b c => tot.trans a b c) (fun a b => by rw [Bool.or_eq_true]; exact tot.total a b) L1
    generalize L1.mergeSort (dataLe false fun q : Addr × List Key => rowK q.2) = L2 at e2 p2 w2
    obtain ⟨c, hc⟩ := sortedHeap_at (vs := vs) (out := out.toArray) hoL
    refine wpAny_pure ⟨_, rfl, hQ _ s1.heap.objs.size out.toArray c L2 (fun b u e => ?_) g1 o1 hz hc (by simpa using e2) p2 w2⟩
    have q := k1 b u e
    have hlt := Heap.lt_size q
    show (sortedHeap (s1.heap.push (seqObj "list" vs.toArray 0)) s1.heap.objs.size vs out.toArray).get? b = some u
    rw [sortedHeap_old (Nat.ne_of_lt hlt) (by rw [size_push']; exact Nat.lt_succ_of_lt hlt)]
    exact Heap.get?_push_of_some _ q
end
/-! ### the rules -/
def tSTt (K : PySem.W.Frag) (ta : TE) : TE := fun σ H Q => ta σ H fun x H1 => ∃ (l : Addr) (ks : Mbs), x = .ref l ∧ (SqL K H1 l (ks.map fun q => V.ref q.1) ∨ SqT K H1 l (ks.map fun q => V.ref q.1)) ∧ (∀ q ∈ ks, SqT K H1 q.1 (q.2.map kV)) ∧ OneShape (ks.map (·.2)) ∧ ks.length < 64 ∧
  ∀ (p : Addr) (L : Mbs), (∀ q ∈ L, q ∈ ks) → (∀ q ∈ ks, q.2 ∈ L.map (·.2)) → (L.map (·.2)).Nodup → (L.map (·.2)).Pairwise (fun k l => leK k l = true) → H1 p = none → Q (.ref p) (upd H1 p (.lst (L.map fun q => V.ref q.1)))
section
variable {X : Cx}
theorem vals_refs : ∀ L : Mbs, Vals (L.map fun q => V.ref q.1) (refsOf L)
  | [] => .nil
  | _ :: L => .cons rfl (vals_refs L)
theorem refs_vals : ∀ {L : Mbs} {us : List Value}, Vals (L.map fun q => V.ref q.1) us → us = refsOf L
  | [], _, .nil => rfl
  | q :: L, _, .cons r t => by
    cases r
    rw [refs_vals t]
    rfl
theorem inv_tx {pins : List (Addr × Obj)} {σ : L2.St} {H : Hp} {s : Shared} (I : Inv X pins σ H s) {b : Addr} {k : List Key} (h : SqT X.K H b (k.map kV)) : Tx X.prog X.w s.heap k b := by
  obtain ⟨its, r, ⟨o, ho, hc, n, hd⟩, _⟩ := I.tuple h
  exact ⟨o, its.toArray, n, ho, hc, hd, by simpa using items_are r⟩
theorem pe_STt {a : Expr} {ta : TE} {p p2 q pos : Pos} (hc : X.calm = true) (hu : X.A.units + 64 < cLine) (hg : Gl X "sorted") (hm : X.mg "sorted" = none) (hg2 : Gl X "set") (hm2 : X.mg "set" = none) (ha : PE X a ta)
    (na : starEach [a] X.env = (false, eval a X.env) :: starEach [] X.env := by rfl) : PE X (.Call (.Name "sorted" p) [.Call (.Name "set" p2) [a] [] q] [] pos) (tSTt X.K ta) := by
  refine ⟨fun pins s σ H Q I h => ?_⟩
  refine Call_ (ld_blt I hg hm (show _ = some (.builtin "sorted") by decide +kernel) ?_)
  refine PyProof.Rows.callWith_builtin1 (PyProof.Rows.args_cons ?_ rfl) rfl rfl
  refine Call_ (ld_blt I hg2 hm2 boot_set ?_)
  refine PyProof.Rows.callWith_type1 (PyProof.Rows.args_cons (thn (ha.run pins s σ H _ I h) fun v s1 ⟨x, H1, I1, r1, q1⟩ => PyProof.Rows.args_nil ?_) na) na rfl
  obtain ⟨l, ks, rfl, hq, hk, hsh, hf, q1⟩ := q1
  cases r1
  have tp : ∀ r ∈ ks, Tx X.prog X.w s1.heap r.2 r.1 := fun r hr => inv_tx I1 (hk r hr)
  have fin : ∀ (h' : Heap) (tk : Nat) (L : Mbs) (T : SD), TtS X.prog X.w h' s1.heap.objs.size L T → Ins ks ks.length L → (∀ b o, s1.heap.get? b = some o → h'.get? b = some o) →
      wpAny (model X.prog X.w) X.A (call (.builtin "sorted") [.ref s1.heap.objs.size]) (EP X pins σ Q) X.xe { s1 with heap := h', toks := tk } := fun h' tk L T R g k => by
    have I2 : Inv X pins σ H1 { s1 with heap := h', toks := tk } := I1.kept fun b o e => k b o e
    refine sorted_setTt (s := { s1 with heap := h', toks := tk }) R (shape_sub hsh fun k hk => by obtain ⟨q, hq, rfl⟩ := List.mem_map.mp hk; exact List.mem_map_of_mem (List.mem_of_mem_take (g.sub q hq))) (I2.ok.hd hc) (by omega) fun s2 p2 out c L' k2 g2 o2 hp hob hout pm pw => ?_
    have hlen : (L'.map fun q => V.ref q.1).length ≤ sizeLine := by rw [List.length_map, sizeLine_eq, pm.length_eq]; have := R.few; omega
    have hn : H1 p2 = none := I2.hok.fresh hp
    have J : Inv X pins σ (upd H1 p2 (.lst (L'.map fun q => V.ref q.1))) { ({ s1 with heap := h', toks := tk } : Shared) with heap := s2.heap, gens := s2.gens, drawn := s2.drawn, toks := s2.toks } :=
      I2.call (ch := []) (Un.laid k2 hp hn) (I2.hok.laid k2 hp ⟨hlen, out.toList, c, by rw [hout]; exact vals_refs L', hob⟩) (by rw [g2]; exact I2.bare) (fun _ z => nomatch z)
    have e : s2 = { s1 with heap := s2.heap, gens := s2.gens, drawn := s2.drawn, toks := s2.toks } := by
      obtain ⟨x1, x2, x3, x4, x5⟩ := s2
      have o2 : x5 = s1.os := o2
      subst o2
      rfl
    rw [e]
    refine ⟨.ref p2, _, J, rfl, q1 p2 L' (fun r hr => ?_) (fun r hr => ?_) ((pm.map (·.2)).nodup_iff.mpr R.dif) (List.pairwise_map.mpr pw) hn⟩
    · exact List.mem_of_mem_take (g.sub r (pm.mem_iff.mp hr))
    · rw [(pm.map (·.2)).mem_iff]
      exact g.all r (by rw [List.take_length]; exact hr)
  rcases hq with hq | hq
  · obtain ⟨its, r, pl, hz⟩ := I1.list hq
    refine call_setTl ks (I1.ok.hd hc) pl.isList (by show its = refsOf ks; exact refs_vals r) tp hf (by omega) fun h' tk L T R g k => ?_
    exact PyProof.Rows.args_nil (fin h' tk L T R g k)
  · obtain ⟨its, r, pl, hz⟩ := I1.tuple hq
    refine call_setTt ks (I1.ok.hd hc) pl (by show its = refsOf ks; exact refs_vals r) tp hf (by omega) fun h' tk L T R g k => ?_
    exact PyProof.Rows.args_nil (fin h' tk L T R g k)
end
end FD
/-! len(set(rows)), sorted(set(ints)), sorted(set(rows)) -/
namespace FD
open PySem PySem.Spec L2 PyProof.Rows PySem.W PySem.Froz
def tLenSK (K : PySem.W.Frag) (ta : TE) : TE := fun σ H Q => ta σ H fun x H1 => ∃ (l : Addr) (ks : Mbs), x = .ref l ∧ (SqL K H1 l (ks.map fun q => V.ref q.1) ∨ SqT K H1 l (ks.map fun q => V.ref q.1)) ∧ (∀ q ∈ ks, SqT K H1 q.1 (q.2.map kV)) ∧ ks.length < 64 ∧
  ∀ L : Mbs, (∀ q ∈ L, q ∈ ks) → (∀ q ∈ ks, q.2 ∈ L.map (·.2)) → (L.map (·.2)).Nodup → Q (.int L.length) H1
def tSTi (K : PySem.W.Frag) (ta : TE) : TE := fun σ H Q => ta σ H fun x H1 => ∃ (l : Addr) (ns : List Int), x = .ref l ∧ SqT K H1 l (ns.map V.int) ∧ ns.length < 64 ∧
  ∀ (p : Addr) (ms : List Int), ms.Pairwise (· < ·) → (∀ k, k ∈ ms ↔ k ∈ ns) → H1 p = none → Q (.ref p) (upd H1 p (.lst (ms.map V.int)))
section
variable {X : Cx}
theorem pe_lenSK {a : Expr} {ta : TE} {p p2 q pos : Pos} (hc : X.calm = true) (hu : X.A.units + 64 < cLine) (hg : Gl X "len") (hm : X.mg "len" = none) (hg2 : Gl X "set") (hm2 : X.mg "set" = none) (ha : PE X a ta)
    (na : starEach [a] X.env = (false, eval a X.env) :: starEach [] X.env := by rfl) : PE X (.Call (.Name "len" p) [.Call (.Name "set" p2) [a] [] q] [] pos) (tLenSK X.K ta) :=
  ⟨fun pins s σ H Q I h => by
    refine Call_ (ld_blt I hg hm PySem.boot_len (PyProof.Rows.callWith_builtin1 (PyProof.Rows.args_cons (Call_ (ld_blt I hg2 hm2 boot_set (PyProof.Rows.callWith_type1 (PyProof.Rows.args_cons (thn (ha.run pins s σ H _ I h) fun v s1 hv => PyProof.Rows.args_nil ?_) na) na rfl))) rfl) rfl rfl))
    obtain ⟨x, H1, I1, r1, l, ks, rfl, hq, hk, hf, q1⟩ := hv
    cases r1
    have tp : ∀ r ∈ ks, Tx X.prog X.w s1.heap r.2 r.1 := fun r hr => inv_tx I1 (hk r hr)
    have fin : ∀ (h' : Heap) (tk : Nat) (L : Mbs) (T : SD), TtS X.prog X.w h' s1.heap.objs.size L T → Ins ks ks.length L → (∀ b o, s1.heap.get? b = some o → h'.get? b = some o) →
        wpAny (model X.prog X.w) X.A (call (.builtin "len") [.ref s1.heap.objs.size]) (EP X pins σ Q) X.xe { s1 with heap := h', toks := tk } := fun h' tk L T R g k => by
      have I2 : Inv X pins σ H1 { s1 with heap := h', toks := tk } := I1.kept fun b o e => k b o e
      have num := R.num
      have few := R.few
      refine call_len_set R.obj ⟨rfl, rfl, rfl⟩ rfl R.fit (by rw [num]; omega) ⟨.int L.length, H1, I2.tok _, ⟨_, by rw [num]⟩, q1 L (fun r hr => ?_) (fun r hr => ?_) R.dif⟩
      · exact List.mem_of_mem_take (g.sub r hr)
      · exact g.all r (by rw [List.take_length]; exact hr)
    rcases hq with hq | hq
    · obtain ⟨its, r, pl, hz⟩ := I1.list hq
      exact call_setTl ks (I1.ok.hd hc) pl.isList (by show its = refsOf ks; exact refs_vals r) tp hf (by omega) fun h' tk L T R g k => PyProof.Rows.args_nil (fin h' tk L T R g k)
    · obtain ⟨its, r, pl, hz⟩ := I1.tuple hq
      exact call_setTt ks (I1.ok.hd hc) pl (by show its = refsOf ks; exact refs_vals r) tp hf (by omega) fun h' tk L T R g k => PyProof.Rows.args_nil (fin h' tk L T R g k)⟩
theorem pe_STi {a : Expr} {ta : TE} {p p2 q pos : Pos} (hc : X.calm = true) (hg : Gl X "sorted") (hm : X.mg "sorted" = none) (hg2 : Gl X "set") (hm2 : X.mg "set" = none) (ha : PE X a ta)
    (na : starEach [a] X.env = (false, eval a X.env) :: starEach [] X.env := by rfl) : PE X (.Call (.Name "sorted" p) [.Call (.Name "set" p2) [a] [] q] [] pos) (tSTi X.K ta) :=
  ⟨fun pins s σ H Q I h => by
    refine Call_ (ld_blt I hg hm (show _ = some (.builtin "sorted") by decide +kernel) (PyProof.Rows.callWith_builtin1 (PyProof.Rows.args_cons (Call_ (ld_blt I hg2 hm2 boot_set (PyProof.Rows.callWith_type1 (PyProof.Rows.args_cons (thn (ha.run pins s σ H _ I h) fun v s1 hv => PyProof.Rows.args_nil ?_) na) na rfl))) rfl) rfl rfl))
    obtain ⟨x, H1, I1, r1, l, ns, rfl, hq, hf, q1⟩ := hv
    cases r1
    obtain ⟨its, r, pl, hz⟩ := I1.tuple hq
    refine call_set_tupI ns (I1.ok.hd hc) pl (by simpa using r.ints) (by unfold scanBound; omega) fun h' tk c R hcn k => PyProof.Rows.args_nil ?_
    have I2 : Inv X pins σ H1 { s1 with heap := h', toks := tk } := I1.kept fun b o e => k b o e
    refine sorted_set (s := { s1 with heap := h', toks := tk }) R (I2.ok.hd hc) (by omega) fun s2 p2 out c2 ms k2 g2 o2 hp hob hi hpw hmm hl => ?_
    have hlen : (ms.map V.int).length ≤ sizeLine := by rw [List.length_map, hl, sizeLine_eq]; omega
    have hn : H1 p2 = none := I2.hok.fresh hp
    have J : Inv X pins σ (upd H1 p2 (.lst (ms.map V.int))) { ({ s1 with heap := h', toks := tk } : Shared) with heap := s2.heap, gens := s2.gens, drawn := s2.drawn, toks := s2.toks } :=
      I2.call (ch := []) (Un.laid k2 hp hn) (I2.hok.laid k2 hp ⟨hlen, out.toList, c2, vals_of_ints hi, hob⟩) (by rw [g2]; exact I2.bare) (fun _ z => nomatch z)
    have e : s2 = { s1 with heap := s2.heap, gens := s2.gens, drawn := s2.drawn, toks := s2.toks } := by
      obtain ⟨x1, x2, x3, x4, x5⟩ := s2
      exact congrArg _ (show x5 = s1.os from o2)
    rw [e]
    exact ⟨.ref p2, _, J, rfl, q1 p2 ms hpw (fun z => (hmm z).trans decide_eq_true_iff) hn⟩⟩
end
/-! ### .. over the layer -/
section
open Evl
variable {C : Cfg} {M : List Addr} {δ : List Ent} {μ μ1 : Mem} {ta : TE} {e : Ent}
theorem keys_vals {K : PySem.W.Frag} {H : Hp} : ∀ {k : List Key} {vs : List V}, DpAll K H vs (k.map kyD) → vs = k.map kV
  | [], _, h => by cases h; rfl
  | z :: k, _, h => by
    rw [List.map_cons] at h
    cases h with
    | cons h1 h2 =>
      rw [keys_vals h2]
      cases z <;> (cases h1; rfl)
theorem vals_keys {K : PySem.W.Frag} {H : Hp} : ∀ k : List Key, DpAll K H (k.map kV) (k.map kyD)
  | [] => .nil
  | .inl i :: k => .cons (.int i) (vals_keys k)
  | .inr x :: k => .cons (.str x) (vals_keys k)
/-- a tuple of ints and texts that stands as data -/
theorem rowK_at {K : PySem.W.Frag} {H : Hp} {v : V} {k : List Key} (h : Dp K H v (rowK k)) : ∃ a, v = .ref a ∧ H a = some (.tup (k.map kV)) := by
  obtain ⟨a, vs, e1, e2, e3⟩ := Dp.tupH_of (show Dp K H v (.tuple (k.map kyD)) from h)
  exact ⟨a, e1, by rw [e2, keys_vals e3]⟩
theorem at_rowK {K : PySem.W.Frag} {H : Hp} {a : Addr} {k : List Key} (h : H a = some (.tup (k.map kV))) : Dp K H (.ref a) (rowK k) := .tup h (vals_keys k)
theorem rowKs_at {K : PySem.W.Frag} {H : Hp} : ∀ {l : List (List Key)} {vs : List V}, DpAll K H vs (l.map rowK) → ∃ ks : Mbs, vs = (ks.map fun q => V.ref q.1) ∧ ks.map (·.2) = l ∧ ∀ q ∈ ks, H q.1 = some (.tup (q.2.map kV))
  | [], _, h => by cases h; exact ⟨[], rfl, rfl, fun q hq => absurd hq (by simp)⟩
  | k :: l, _, h => by
    rw [List.map_cons] at h
    cases h with
    | cons h1 h2 =>
      obtain ⟨a, rfl, ha⟩ := rowK_at h1
      obtain ⟨ks, e1, e2, e3⟩ := rowKs_at h2
      exact ⟨(a, k) :: ks, by rw [e1]; rfl, by rw [List.map_cons, e2], fun q hq => by
        rcases List.mem_cons.mp hq with z | hq
        · rw [z]; exact ha
        · exact e3 q hq⟩
theorem at_rowKs {K : PySem.W.Frag} {H : Hp} : ∀ {ks : Mbs}, (∀ q ∈ ks, H q.1 = some (.tup (q.2.map kV))) → DpAll K H (ks.map fun q => V.ref q.1) ((ks.map (·.2)).map rowK)
  | [], _ => .nil
  | q :: ks, h => .cons (at_rowK (h q (by simp))) (at_rowKs fun r hr => h r (by simp [hr]))
/-- a list or tuple of such -/
theorem rows_in {l : List (List Key)} {σ : L2.St} {H : Hp} (o : Ok C M δ μ σ H) {v : V} (h : EntOk C.K (hide M H) e v) (r : Rdd μ e (.list (l.map rowK)) ∨ e = .d (.tuple (l.map rowK))) :
    ∃ (a : Addr) (ks : Mbs), v = .ref a ∧ (SqL C.K H a (ks.map fun q => V.ref q.1) ∨ SqT C.K H a (ks.map fun q => V.ref q.1)) ∧ ks.map (·.2) = l ∧ ∀ q ∈ ks, hide M H q.1 = some (.tup (q.2.map kV)) := by
  rcases r with r | r
  · obtain ⟨a, vs, e1, e2, e3⟩ := r.lst o h
    obtain ⟨ks, k1, k2, k3⟩ := rowKs_at e3
    exact ⟨a, ks, e1, .inl (by rw [← k1]; exact e2), k2, k3⟩
  · subst r
    obtain ⟨a, vs, e1, e2, e3⟩ := Dp.tupH_of h
    obtain ⟨ks, k1, k2, k3⟩ := rowKs_at e3
    exact ⟨a, ks, e1, .inr (by rw [← k1]; exact ex_t hide_le (st_of e2)), k2, k3⟩
theorem x_lenSK {l : List (List Key)} (h : EvX C ta M δ μ μ1 e) (r : Rdd μ1 e (.list (l.map rowK)) ∨ e = .d (.tuple (l.map rowK))) (hl : l.length < 64) (nd : l.Nodup) : EvX C (tLenSK C.K ta) M δ μ μ1 (.d (.int (l.length : Int))) := fun σ H o Q kk => h σ H o _ fun v H1 o1 x1 r1 => by
  obtain ⟨a, ks, e1, e2, e3, e4⟩ := rows_in o1 r1 r
  refine ⟨a, ks, e1, e2, fun q hq => ex_t hide_le (st_of (e4 q hq)), by rw [← List.length_map (f := (·.2)), e3]; exact hl, fun L h1 h2 h3 => ?_⟩
  have p : (L.map (·.2)).Perm l := (List.perm_ext_iff_of_nodup h3 nd).mpr fun k => by
    rw [← e3]
    exact ⟨fun z => let ⟨q, hq, e⟩ := List.mem_map.mp z; e ▸ List.mem_map_of_mem (h1 q hq), fun z => let ⟨q, hq, e⟩ := List.mem_map.mp z; e ▸ h2 q hq⟩
  have := p.length_eq
  rw [List.length_map] at this
  rw [this]
  exact kk _ H1 o1 x1 (.int _)
theorem asc_one {α : Type} {le : α → α → Bool} (anti : ∀ a b, le a b = true → le b a = true → a = b) : ∀ {l m : List α}, l.Pairwise (fun a b => le a b = true) → m.Pairwise (fun a b => le a b = true) → l.Perm m → l = m
  | [], m, _, _, p => (List.nil_perm.mp p).symm
  | a :: l, [], _, _, p => absurd p.symm (by intro z; have := List.nil_perm.mp z; cases this)
  | a :: l, b :: m, hl, hm, p => by
    obtain ⟨l1, l2⟩ := List.pairwise_cons.mp hl
    obtain ⟨m1, m2⟩ := List.pairwise_cons.mp hm
    have e : a = b := by
      rcases List.mem_cons.mp (p.mem_iff.mp List.mem_cons_self : a ∈ b :: m) with h | h
      · exact h
      rcases List.mem_cons.mp (p.mem_iff.mpr List.mem_cons_self : b ∈ a :: l) with k | k
      · exact k.symm
      · exact anti _ _ (l1 b k) (m1 a h)
    subst e
    rw [asc_one anti l2 m2 (List.Perm.cons_inv p)]
/-- sorted(set(xs)), xs tuples of one shape: the one rising list of these -/
theorem x_STt {l m : List (List Key)} (h : EvX C ta M δ μ μ1 e) (r : Rdd μ1 e (.list (l.map rowK)) ∨ e = .d (.tuple (l.map rowK))) (hl : l.length < 64) (hsh : OneShape l)
    (hm : ∀ L : List (List Key), L.Nodup → L.Pairwise (fun a b => leK a b = true) → (∀ k, k ∈ L ↔ k ∈ l) → L = m) : EvX C (tSTt C.K ta) M δ μ μ1 (.d (.list (m.map rowK))) := fun σ H o Q kk => h σ H o _ fun v H1 o1 x1 r1 => by
  obtain ⟨a, ks, e1, e2, e3, e4⟩ := rows_in o1 r1 r
  refine ⟨a, ks, e1, e2, fun q hq => ex_t hide_le (st_of (e4 q hq)), by rw [e3]; exact hsh, by rw [← List.length_map (f := (·.2)), e3]; exact hl, fun p L h1 h2 h3 h4 hp => ?_⟩
  have em : L.map (·.2) = m := hm _ h3 (List.pairwise_map.mpr (List.pairwise_map.mp h4)) fun k => by
    rw [← e3]
    exact ⟨fun z => let ⟨q, hq, e⟩ := List.mem_map.mp z; e ▸ List.mem_map_of_mem (h1 q hq), fun z => let ⟨q, hq, e⟩ := List.mem_map.mp z; e ▸ h2 q hq⟩
  obtain ⟨o', x', d'⟩ := o1.lst hp (at_rowKs (K := C.K) (ks := L) fun q hq => e4 q (h1 q hq))
  rw [em] at d'
  exact kk _ _ o' (x1.trans x') d'
theorem x_STi {ns ms : List Int} (h : EvX C ta M δ μ μ1 (.d (.tuple (ns.map .int)))) (hl : ns.length < 64) (h1 : ms.Pairwise (· < ·)) (h2 : ∀ k, k ∈ ms ↔ k ∈ ns) : EvX C (tSTi C.K ta) M δ μ μ1 (.d (.list (ms.map .int))) := fun σ H o Q kk => h σ H o _ fun v H1 o1 x1 r1 => by
  obtain ⟨a, vs, e1, e2, e3⟩ := Dp.tupH_of r1
  refine ⟨a, ns, e1, by rw [← DpAll.ints e3]; exact ex_t hide_le (st_of e2), hl, fun p ms' k1 k2 hp => ?_⟩
  have e : ms' = ms := by
    have n1 : ms'.Nodup := k1.imp fun q z => by omega
    have n2 : ms.Nodup := h1.imp fun q z => by omega
    refine asc_one (le := fun a b => decide (a ≤ b)) (fun a b z1 z2 => Int.le_antisymm (of_decide_eq_true z1) (of_decide_eq_true z2)) (k1.imp fun q => decide_eq_true (Int.le_of_lt q)) (h1.imp fun q => decide_eq_true (Int.le_of_lt q)) ((List.perm_ext_iff_of_nodup n1 n2).mpr fun k => (k2 k).trans (h2 k).symm)
  rw [e]
  obtain ⟨o', x', d'⟩ := o1.lst hp (DpAll.of_ints (K := C.K) (H := hide M H1) ms)
  exact kk _ _ o' (x1.trans x') d'
end
end FD
/-! dicts whose keys are tuples of ints and texts -/
namespace FD
open PySem L2 Evl
abbrev GTab := List (List Key × GP)
def valG (l : GTab) (k : List Key) : Option GP := (l.find? fun p => decide (p.1 = k)).map (·.2)
def putG (l : GTab) (k : List Key) (φ : GP) : GTab := if (valG l k).isSome = true then l.map (fun p => if p.1 = k then (p.1, φ) else p) else l ++ [(k, φ)]
theorem valG_nil (k : List Key) : valG [] k = none := rfl
theorem valG_cons (p : List Key × GP) (l : GTab) (k : List Key) : valG (p :: l) k = if p.1 = k then some p.2 else valG l k := by
  unfold valG
  rw [List.find?_cons]
  by_cases h : p.1 = k
  · rw [if_pos h, decide_eq_true h]; rfl
  · rw [if_neg h, decide_eq_false h]
theorem valG_mem {l : GTab} {k : List Key} : (valG l k).isSome = true ↔ k ∈ l.map (·.1) := by
  induction l with
  | nil => simp [valG_nil]
  | cons p l ih =>
    rw [valG_cons, List.map_cons, List.mem_cons]
    by_cases h : p.1 = k
    · simp [h]
    · rw [if_neg h, ih]
      exact ⟨.inr, fun z => z.resolve_left fun q => h q.symm⟩
def RelG (K : PySem.W.Frag) (Hh : Hp) : Option V → Option GP → Prop
  | none, none => True
  | some v, some φ => φ.p K Hh v
  | _, _ => False
section
variable {K : PySem.W.Frag} {Hh : Hp}
theorem gt_val {ws : List (List Key × V)} {l : GTab} (g : GtOk K Hh ws l) (k : List Key) : RelG K Hh (valV ws k) (valG l k) := by
  induction g with
  | nil => exact trivial
  | @cons p q ps qs h _ ih =>
    rw [valG_cons]
    by_cases e : q.1 = k
    · rw [if_pos e, valV_pos (h.1.trans e)]; exact h.2
    · rw [if_neg e, valV_neg fun z => e (h.1.symm.trans z)]; exact ih
theorem gt_some {ws : List (List Key × V)} {l : GTab} (g : GtOk K Hh ws l) {k : List Key} {φ : GP} (h : valG l k = some φ) : ∃ v, valV ws k = some v ∧ φ.p K Hh v := by
  have r := gt_val g k
  rw [h] at r
  cases z : valV ws k with
  | none => rw [z] at r; exact r.elim
  | some v => rw [z] at r; exact ⟨v, rfl, r⟩
theorem gt_is {ws : List (List Key × V)} {l : GTab} (g : GtOk K Hh ws l) (k : List Key) : (valV ws k).isSome = (valG l k).isSome := by
  have r := gt_val g k
  cases z : valV ws k <;> cases y : valG l k <;> first | rfl | (rw [z, y] at r; exact r.elim)
theorem gt_len {ws : List (List Key × V)} {l : GTab} (g : GtOk K Hh ws l) : ws.length = l.length := paired_len g
theorem gt_keys {ws : List (List Key × V)} {l : GTab} (g : GtOk K Hh ws l) : ws.map (·.1) = l.map (·.1) := by
  induction g with
  | nil => rfl
  | cons h _ ih => rw [List.map_cons, List.map_cons, h.1, ih]
theorem gt_put {ws : List (List Key × V)} {l : GTab} (g : GtOk K Hh ws l) (k : List Key) {v : V} {φ : GP} (h : φ.p K Hh v) : GtOk K Hh (putK ws k v) (putG l k φ) := by
  unfold putK putG
  rw [valV_any, gt_is g k]
  by_cases z : (valG l k).isSome = true
  · rw [if_pos z, if_pos z]
    clear z
    induction g with
    | nil => exact .nil
    | @cons p q ps qs hq _ ih =>
      rw [List.map_cons, List.map_cons]
      refine .cons ?_ ih
      by_cases e : q.1 = k
      · rw [if_pos (hq.1.trans e), if_pos e]; exact ⟨hq.1, h⟩
      · rw [if_neg fun y => e (hq.1.symm.trans y), if_neg e]; exact hq
  · rw [if_neg z, if_neg z]
    clear z
    induction g with
    | nil => exact .cons ⟨rfl, h⟩ .nil
    | cons hq _ ih => exact .cons hq ih
end
/-- such a dict that stays as it is -/
def gDT (l : GTab) : GP := ⟨fun K H v => ∃ a ws, v = .ref a ∧ H a = some (.dT ws) ∧ GtOk K H ws l, fun _ _ _ _ x h => let ⟨a, ws, e1, e2, e3⟩ := h; ⟨a, ws, e1, x a _ e2, gt_mono x e3⟩⟩
inductive TD (μ : Mem) : Ent → GTab → Prop
  | m {a : Addr} {l : GTab} : (a, .dT l) ∈ μ → TD μ (.m a) l
  | f {a : Addr} {od : Obj} {ws : List (List Key × V)} {l : GTab} : (a, .fT od ws l) ∈ μ → TD μ (.m a) l
  | g (l : GTab) : TD μ (.g (gDT l)) l
/-- how a value of an entry is one of a predicate -/
def EntG (e : Ent) (φ : GP) : Prop := ∀ (K : PySem.W.Frag) (Hh : Hp) (v : V), EntOk K Hh e v → φ.p K Hh v
theorem entG_d (d : PyData) : EntG (.d d) (gD d) := fun _ _ _ h => h
theorem entG_g (φ : GP) : EntG (.g φ) φ := fun _ _ _ h => h
theorem entG_m (a : Addr) : EntG (.m a) (gRef a) := fun _ _ _ h => h
section
variable {C : Cfg} {M : List Addr} {δ : List Ent} {μ μ1 μ2 μ3 : Mem} {td ty te ta tb : TE} {e e1 e2 : Ent} {l : GTab} {k : List Key} {i j : Nat} {a : Addr} {D : Ends} {t t2 : TS} {od : Obj} {ws : List (List Key × V)}
theorem TD.rd {σ : L2.St} {H : Hp} (t : TD μ e l) (o : Ok C M δ μ σ H) {v : V} (h : EntOk C.K (hide M H) e v) : ∃ a ws, v = .ref a ∧ Rd H a (.dT ws) ∧ GtOk C.K (hide M H) ws l := by
  cases t with
  | m hm => obtain ⟨_, _, ws, e1, q⟩ := o.mem _ hm; exact ⟨_, ws, h, .inl e1, q⟩
  | f hm => obtain ⟨_, _, e1, q⟩ := o.mem _ hm; exact ⟨_, _, h, .inr ⟨_, e1⟩, q⟩
  | g _ => obtain ⟨a, ws, e1, e2, q⟩ := h; exact ⟨a, ws, e1, .inl ((hide_some e2).2), q⟩
theorem x_gd {d : PyData} (h : EvX C te M δ μ μ1 (.g (gD d))) : EvX C te M δ μ μ1 (.d d) := fun σ H o Q kk => h σ H o Q fun v H1 o1 x1 r1 => kk v H1 o1 x1 r1
theorem x_dg {d : PyData} (h : EvX C te M δ μ μ1 (.d d)) : EvX C te M δ μ μ1 (.g (gD d)) := fun σ H o Q kk => h σ H o Q fun v H1 o1 x1 r1 => kk v H1 o1 x1 r1
theorem x_gref (h : EvX C te M δ μ μ1 (.g (gRef a))) : EvX C te M δ μ μ1 (.m a) := fun σ H o Q kk => h σ H o Q fun v H1 o1 x1 r1 => kk v H1 o1 x1 r1
theorem x_vg {φ : GP} (h : δ[i]? = some (.g φ)) : EvX C (tVar i) M δ μ μ (.g φ) := x_var h (fun z => nomatch z)
/-- d[k] -/
theorem x_tget {φ : GP} (hx : EvX C td M δ μ μ1 e) (hk : EvX C ty M δ μ1 μ2 (.d (rowK k))) (ht : ∀ σ H v, Ok C M δ μ1 σ H → EntOk C.K (hide M H) e v → EntOk C.K (hide M H) e v) (hm : TD μ2 e l) (hv : valG l k = some φ) : EvX C (tDGet td ty) M δ μ μ2 (.g φ) := fun σ H o Q kk =>
  hx σ H o _ fun x H1 o1 x1 r1 => hk σ H1 o1 _ fun y H2 o2 x2 r2 => by
    obtain ⟨b, e3, e4⟩ := rowK_at r2
    obtain ⟨a, ws, e1, rd, g⟩ := hm.rd o2 (r1.mono x2)
    obtain ⟨v, q1, q2⟩ := gt_some g hv
    exact ⟨a, v, e1, .inr ⟨ws, k, b, rd, e3, (hide_some e4).2, q1.symm⟩, kk v H2 o2 (x1.trans x2) q2⟩
theorem x_tgetD {d : PyData} (hx : EvX C td M δ μ μ1 e) (hk : EvX C ty M δ μ1 μ2 (.d (rowK k))) (hm : TD μ2 e l) (hv : valG l k = some (gD d)) : EvX C (tDGet td ty) M δ μ μ2 (.d d) := x_gd (x_tget hx hk (fun _ _ _ _ h => h) hm hv)
/-- k in d, k not in d -/
theorem x_tin (hk : EvX C ty M δ μ μ1 (.d (rowK k))) (hx : EvX C td M δ μ1 μ2 e) (hm : TD μ2 e l) : EvX C (tDIn ty td) M δ μ μ2 (.d (.bool (valG l k).isSome)) := fun σ H o Q kk =>
  hk σ H o _ fun y H1 o1 x1 r1 => hx σ H1 o1 _ fun x H2 o2 x2 r2 => by
    obtain ⟨b, e3, e4⟩ := rowK_at (Dp.w r1 |> fun _ => dp_mono x2 _ _ r1)
    obtain ⟨a, ws, e1, rd, g⟩ := hm.rd o2 r2
    refine ⟨a, _, e1, .inr ⟨ws, k, b, rd, e3, (hide_some e4).2, rfl⟩, ?_⟩
    rw [gt_is g k]
    exact kk _ H2 o2 (x1.trans x2) (.bl _)
theorem x_tnotin (hk : EvX C ty M δ μ μ1 (.d (rowK k))) (hx : EvX C td M δ μ1 μ2 e) (hm : TD μ2 e l) : EvX C (tDNotIn ty td) M δ μ μ2 (.d (.bool (!(valG l k).isSome))) := fun σ H o Q kk =>
  hk σ H o _ fun y H1 o1 x1 r1 => hx σ H1 o1 _ fun x H2 o2 x2 r2 => by
    obtain ⟨b, e3, e4⟩ := rowK_at (dp_mono x2 _ _ r1)
    obtain ⟨a, ws, e1, rd, g⟩ := hm.rd o2 r2
    refine ⟨a, _, e1, .inr ⟨ws, k, b, rd, e3, (hide_some e4).2, rfl⟩, ?_⟩
    rw [gt_is g k]
    exact kk _ H2 o2 (x1.trans x2) (.bl _)
/-- d = {} -/
theorem r_newT (kk : ∀ p, p ∉ M → Nx C D (p :: M) (δ.set i (.m p)) ((p, .dT []) :: μ)) : Run C (tAsg tDNewT (gName i)) D M δ μ := fun σ H o p hp => by
  have o' := o.new hp (ho := .dT []) (mo := .dT []) ⟨[], upd_same, .nil⟩
  exact kk p (o.fresh hp) _ _ (o'.set i (e := .m p) rfl)
theorem q_newT (kk : ∀ p, p ∉ M → Run C t2 D (p :: M) (δ.set i (.m p)) ((p, .dT []) :: μ)) : Run C (tSeq (tAsg tDNewT (gName i)) t2) D M δ μ := r_newT (D := { D with nx := t2 D }) kk
/-- d[k] = e -/
theorem r_tput {φ : GP} (h : EvX C te M δ μ μ1 e) (hx : EvX C ta M δ μ1 μ2 (.m a)) (hi : EvX C tb M δ μ2 μ3 (.d (rowK k))) (hg : EntG e φ) (hj : μ3[j]? = some (a, .dT l)) (hl : l.length < 1000) (kk : Nx C D M δ (μ3.set j (a, .dT (putG l k φ)))) :
    Run C (tAsg te (gSub ta tb rSetD)) D M δ μ := fun σ H o => h σ H o _ fun v H1 o1 x1 r1 => hx σ H1 o1 _ fun w H2 o2 x2 r2 => hi σ H2 o2 _ fun z H3 o3 x3 r3 => by
  have e1 : w = .ref a := r2
  obtain ⟨b, e2, e4⟩ := rowK_at r3
  obtain ⟨_, _, ws, q3, q4⟩ := o3.mem _ (List.mem_of_getElem? hj)
  show ∃ a' H', w = .ref a' ∧ DPut H3 a' z v H' ∧ D.nx σ H'
  refine ⟨a, _, e1, .inr ⟨ws, k, b, q3, e2, (hide_some e4).2, sz_lt (by rw [gt_len q4]; omega), rfl⟩, ?_⟩
  exact kk _ _ (o3.write hj ⟨_, upd_same, gt_put q4 k (hg _ _ _ (r1.mono (x2.trans x3)))⟩)
theorem q_tput {φ : GP} (h : EvX C te M δ μ μ1 e) (hx : EvX C ta M δ μ1 μ2 (.m a)) (hi : EvX C tb M δ μ2 μ3 (.d (rowK k))) (hg : EntG e φ) (hj : μ3[j]? = some (a, .dT l)) (hl : l.length < 1000) (kk : Run C t2 D M δ (μ3.set j (a, .dT (putG l k φ)))) :
    Run C (tSeq (tAsg te (gSub ta tb rSetD)) t2) D M δ μ := r_tput (D := { D with nx := t2 D }) h hx hi hg hj hl kk
/-- list(d) -/
abbrev rListDT : List V → Hp → VK → Prop := fun xs H Q => ∃ d kvs, xs = [V.ref d] ∧ Rd H d (.dT kvs) ∧ ∀ p bs, H p = none → IsKeys H kvs bs → Q (.ref p) (upd H p (.lst (bs.map V.ref)))
theorem keys_rows {K : PySem.W.Frag} {M : List Addr} {H : Hp} : ∀ {ws : List (List Key × V)} {bs : List Addr}, IsKeys H ws bs → DpAll K (hide M H) (bs.map V.ref) ((ws.map (·.1)).map rowK)
  | _, _, .nil => .nil
  | _, _, .cons h t => .cons (at_rowK (hide_tup h)) (keys_rows t)
theorem c_listT (ht : TD μ e l) : CallX C rListDT M δ μ μ [e] (.d (.list ((l.map (·.1)).map rowK))) := fun σ H vs o h Q kk => by
  obtain ⟨v, rfl, q⟩ := p1 h
  obtain ⟨a, ws, e1, rd, g⟩ := ht.rd o q
  refine ⟨a, ws, by rw [e1], rd, fun p bs hp hk => ?_⟩
  have d := keys_rows (K := C.K) (M := M) hk
  rw [gt_keys g] at d
  obtain ⟨o', x', d'⟩ := o.lst hp d
  exact kk _ _ o' x' d'
/-- the dict locked while it is walked -/
theorem ok_lockT {σ : L2.St} {H1 : Hp} (o : Ok C M δ μ σ H1) (hj : μ[j]? = some (a, .dT l)) : ∃ ws, H1 a = some (.dT ws) ∧ ∀ od, Ok C M δ (μ.set j (a, .fT od ws l)) σ (upd H1 a (.frz od (.dT ws))) := by
  obtain ⟨_, _, ws, e, c⟩ := o.mem _ (List.mem_of_getElem? hj)
  exact ⟨ws, e, fun od => o.write hj ⟨upd_same, c⟩⟩
theorem ok_unlockT {σ : L2.St} {H1 : Hp} (hj : μ[j]? = some (a, .dT l)) (o : Ok C M δ (μ.set j (a, .fT od ws l)) σ H1) : H1 a = some (.frz od (.dT ws)) ∧ a ∈ M ∧ Ok C M δ μ σ (upd H1 a (.dT ws)) := by
  have hj' : (μ.set j (a, MO.fT od ws l))[j]? = some (a, .fT od ws l) := List.getElem?_set_self (List.getElem?_eq_some_iff.mp hj).1
  obtain ⟨q0, _, e, c⟩ := o.mem _ (List.mem_of_getElem? hj')
  have := o.write hj' (mo' := .dT l) (ho := .dT ws) ⟨ws, upd_same, c⟩
  rw [set_back hj] at this
  exact ⟨e, q0, this⟩
theorem r_lockT (hj : μ[j]? = some (a, .dT l)) (h : ∀ od ws, Run C t (lkE D a (.dT ws) od) M δ (μ.set j (a, .fT od ws l))) : Run C (tLock t) D M δ μ := fun σ H o => by
  obtain ⟨ws, e, k⟩ := ok_lockT o hj
  exact ⟨a, .dT ws, e, trivial, fun od => h od ws _ _ (k od)⟩
theorem q_lockT (hj : μ[j]? = some (a, .dT l)) (h : ∀ od ws, Run C t (lkE { D with nx := t2 D } a (.dT ws) od) M δ (μ.set j (a, .fT od ws l))) : Run C (tSeq (tLock t) t2) D M δ μ := r_lockT (D := { D with nx := t2 D }) hj h
theorem lk_nxT (hj : μ[j]? = some (a, .dT l)) (kk : Nx C D M δ μ) : Nx C (lkE D a (.dT ws) od) M δ (μ.set j (a, .fT od ws l)) := fun σ H o => by
  obtain ⟨e, _, o'⟩ := ok_unlockT hj o
  exact ⟨e, kk _ _ o'⟩
theorem lk_retT {d : PyData} {μ' : Mem} (hj : μ1[j]? = some (a, .dT l)) (h : EvX C te M δ μ (μ1.set j (a, .fT od ws l)) (.d d)) (hs : ∀ p ∈ μ', p ∈ μ1) (kk : FinE C D d μ') : Run C (tRet te) (lkE D a (.dT ws) od) M δ μ := fun σ H o => h σ H o _ fun v H1 o1 x1 r => by
  obtain ⟨e, aM, o'⟩ := ok_unlockT hj o1
  exact ⟨e, kk v M _ o'.gr o'.sub (fun p hp => (o'.mem p (hs p hp)).2.2) (by rw [hide_upd aM (by rw [e]; rfl) rfl]; exact r)⟩
theorem x_lockT {e : Ent} (hj : μ[j]? = some (a, .dT l)) (h : ∀ od ws, EvX C te M δ (μ.set j (a, .fT od ws l)) (μ.set j (a, .fT od ws l)) e) : EvX C (tLockE te) M δ μ μ e := fun σ H o Q k => by
  obtain ⟨ws, e0, kk⟩ := ok_lockT o hj
  refine ⟨a, .dT ws, e0, trivial, fun od => h od ws _ _ (kk od) _ fun v H1 o1 x1 r => ?_⟩
  obtain ⟨e1, aM, o'⟩ := ok_unlockT hj o1
  rw [hide_upd aM (by rw [e0]; rfl) rfl] at x1
  exact ⟨e1, k v _ o' (by rw [hide_upd aM (by rw [e1]; rfl) rfl]; exact x1) (by rw [hide_upd aM (by rw [e1]; rfl) rfl]; exact r)⟩
theorem w_keysT {K : PySem.W.Frag} {Hx Hh : Hp} (c : GtOk K Hx ws l) : WalkN K (Itkt a od ws) Hh (fun H => H a = some (.frz od (.dT ws))) ((l.map (·.1)).map rowK) where
  go := fun M i H hi _ _ n => ⟨n, by rw [gt_len c]; simpa using hi⟩
  stop := fun M H _ _ n => ⟨n, by rw [gt_len c]; simp⟩
  yld := fun M i H x H' hi _ _ n ⟨e, k, v, q, h1, h2, h3⟩ => by
    subst e
    refine ⟨Ex.refl _, rowK k, ?_, ?_⟩
    · rw [← gt_keys c, List.getElem?_map, List.getElem?_map, h1]; rfl
    · rw [h2]; exact at_rowK (hide_tup h3)
theorem i_keysT (h : EvX C ta M δ μ μ1 (.m a)) (hm : (a, .fT od ws l) ∈ μ1) : EvIN C (iKeys ta) M δ μ μ1 (fun H => H a = some (.frz od (.dT ws))) ((l.map (·.1)).map rowK) := fun σ H o R k => h σ H o _ fun v H1 o1 x1 r1 => by
  obtain ⟨_, _, e, c⟩ := o1.mem _ hm
  have e1 : v = .ref a := r1
  exact ⟨a, od, e1, .inr ⟨ws, e, k _ H1 o1 x1 (w_keysT c)⟩⟩
theorem ok_frzT {σ : L2.St} {H1 : Hp} (hm : (a, .fT od ws l) ∈ μ) (o : Ok C M δ μ σ H1) : H1 a = some (.frz od (.dT ws)) := (o.mem _ hm).2.2.1
end
end FD
/-! own instances: their fields, making them, their methods -/
namespace FD
open PySem L2 Evl
abbrev Flds := List (Str × GP)
abbrev FsOk (K : PySem.W.Frag) (Hh : Hp) (ws : List (Str × V)) (fs : Flds) : Prop := Paired (fun (p : Str × V) (q : Str × GP) => p.1 = q.1 ∧ q.2.p K Hh p.2) ws fs
def putFG (f : Str) (φ : GP) : Flds → Flds
  | [] => [(f, φ)]
  | p :: r => if p.1 = f then (p.1, φ) :: r else p :: putFG f φ r
theorem fs_mono {K : PySem.W.Frag} {H H' : Hp} (x : Ex H H') {ws : List (Str × V)} {fs : Flds} (h : FsOk K H ws fs) : FsOk K H' ws fs := Paired.mapP h fun _ q z => ⟨z.1, q.2.mono _ _ _ _ x z.2⟩
theorem fs_put {K : PySem.W.Frag} {Hh : Hp} {ws : List (Str × V)} {fs : Flds} (h : FsOk K Hh ws fs) (f : Str) {v : V} {φ : GP} (hv : φ.p K Hh v) : FsOk K Hh (putF f v ws) (putFG f φ fs) := by
  induction h with
  | nil => exact .cons ⟨rfl, hv⟩ .nil
  | @cons p q ps qs hq t ih =>
    unfold putF putFG
    by_cases e : q.1 = f
    · rw [if_pos e]
      show FsOk K Hh (if p.1 = f then (p.1, v) :: ps else (p.1, p.2) :: putF f v ps) _
      rw [if_pos (hq.1.trans e)]
      exact .cons ⟨hq.1, hv⟩ t
    · rw [if_neg e]
      show FsOk K Hh (if p.1 = f then (p.1, v) :: ps else (p.1, p.2) :: putF f v ps) _
      rw [if_neg fun z => e (hq.1.symm.trans z)]
      exact .cons hq ih
theorem fs_at {K : PySem.W.Frag} {Hh : Hp} {ws : List (Str × V)} {fs : Flds} (h : FsOk K Hh ws fs) {f : Str} {φ : GP} (hv : fs.lookup f = some φ) : ∃ v, ws.lookup f = some v ∧ φ.p K Hh v := by
  induction h with
  | nil => cases hv
  | @cons p q ps qs hq t ih =>
    obtain ⟨qf, qφ⟩ := q
    obtain ⟨pf, pv⟩ := p
    obtain ⟨e1, e2⟩ := hq
    have e1 : pf = qf := e1
    subst e1
    rw [List.lookup_cons] at hv ⊢
    cases z : f == pf with
    | true =>
      rw [z] at hv
      cases hv
      exact ⟨pv, rfl, e2⟩
    | false =>
      rw [z] at hv
      exact ih hv
theorem fs_no {K : PySem.W.Frag} {Hh : Hp} {ws : List (Str × V)} {fs : Flds} (h : FsOk K Hh ws fs) {f : Str} (hv : fs.lookup f = none) : ws.lookup f = none := by
  induction h with
  | nil => rfl
  | @cons p q ps qs hq t ih =>
    obtain ⟨qf, qφ⟩ := q
    obtain ⟨pf, pv⟩ := p
    obtain ⟨e1, e2⟩ := hq
    have e1 : pf = qf := e1
    subst e1
    rw [List.lookup_cons] at hv ⊢
    cases z : f == pf with
    | true => rw [z] at hv; cases hv
    | false => rw [z] at hv; exact ih hv
/-- an instance that stays as it is -/
def gIns (Cc : Addr) (fs : Flds) : GP := ⟨fun K H v => ∃ a dx ws, v = .ref a ∧ H a = some (.ins Cc dx ws) ∧ FsOk K H ws fs, fun _ _ _ _ x h => let ⟨a, dx, ws, e1, e2, e3⟩ := h; ⟨a, dx, ws, e1, x a _ e2, fs_mono x e3⟩⟩
inductive TIn (μ : Mem) : Ent → Addr → Flds → Prop
  | m {a Cc : Addr} {fs : Flds} : (a, .ins Cc fs) ∈ μ → TIn μ (.m a) Cc fs
  | g (Cc : Addr) (fs : Flds) : TIn μ (.g (gIns Cc fs)) Cc fs
section
variable {C : Cfg} {M : List Addr} {δ : List Ent} {μ μ1 μ2 μ3 : Mem} {td ty te ta tb : TE} {t tr : TA} {e e1 e2 : Ent} {es : List Ent} {i j n : Nat} {a Cc : Addr} {D : Ends} {t2 : TS} {fs : Flds} {f m : Str} {φ : GP} {mo : MO}
theorem TIn.rd {σ : L2.St} {H : Hp} (t : TIn μ e Cc fs) (o : Ok C M δ μ σ H) {v : V} (h : EntOk C.K (hide M H) e v) : ∃ a dx ws, v = .ref a ∧ H a = some (.ins Cc dx ws) ∧ FsOk C.K (hide M H) ws fs := by
  cases t with
  | m hm => obtain ⟨_, _, dx, ws, e1, q⟩ := o.mem _ hm; exact ⟨_, dx, ws, h, e1, q⟩
  | g _ _ => obtain ⟨a, dx, ws, e1, e2, q⟩ := h; exact ⟨a, dx, ws, e1, (hide_some e2).2, q⟩
/-- e.f -/
theorem x_fld (hx : EvX C te M δ μ μ1 e) (ht : TIn μ1 e Cc fs) (cl : Cls C.K Cc) (na : NoAttr C.K Cc f) (hv : fs.lookup f = some φ) : EvX C (tFld C.K te f) M δ μ μ1 (.g φ) := fun σ H o Q kk => hx σ H o _ fun x H1 o1 x1 r1 => by
  obtain ⟨a, dx, ws, e1, e2, q⟩ := ht.rd o1 r1
  obtain ⟨v, q1, q2⟩ := fs_at q hv
  exact ⟨a, Cc, dx, ws, v, e1, e2, cl, na, q1, kk v H1 o1 x1 q2⟩
theorem x_fldD {d : PyData} (hx : EvX C te M δ μ μ1 e) (ht : TIn μ1 e Cc fs) (cl : Cls C.K Cc) (na : NoAttr C.K Cc f) (hv : fs.lookup f = some (gD d)) : EvX C (tFld C.K te f) M δ μ μ1 (.d d) := x_gd (x_fld hx ht cl na hv)
/-- e.f = value -/
theorem r_fset (h : EvX C tb M δ μ μ1 e) (hx : EvX C ta M δ μ1 μ2 (.m a)) (hg : EntG e φ) (hj : μ2[j]? = some (a, .ins Cc fs)) (cl : Cls C.K Cc) (na : NoAttr C.K Cc f) (hl : fs.length < 1000) (kk : Nx C D M δ (μ2.set j (a, .ins Cc (putFG f φ fs)))) :
    Run C (sFld C.K ta tb f) D M δ μ := fun σ H o => h σ H o _ fun y H1 o1 x1 r1 => hx σ H1 o1 _ fun x H2 o2 x2 r2 => by
  obtain ⟨_, _, dx, ws, q3, q4⟩ := o2.mem _ (List.mem_of_getElem? hj)
  refine ⟨a, Cc, dx, ws, r2, q3, cl, na, by rw [paired_len q4]; exact hl, ?_⟩
  exact kk _ _ (o2.write hj ⟨dx, _, upd_same, fs_put q4 f (hg _ _ _ (r1.mono x2))⟩)
theorem q_fset (h : EvX C tb M δ μ μ1 e) (hx : EvX C ta M δ μ1 μ2 (.m a)) (hg : EntG e φ) (hj : μ2[j]? = some (a, .ins Cc fs)) (cl : Cls C.K Cc) (na : NoAttr C.K Cc f) (hl : fs.length < 1000) (kk : Run C t2 D M δ (μ2.set j (a, .ins Cc (putFG f φ fs)))) :
    Run C (tSeq (sFld C.K ta tb f) t2) D M δ μ := r_fset (D := { D with nx := t2 D }) h hx hg hj cl na hl kk
/-- e.f = a new object of one's own -/
theorem r_fsetN (h : EvN C tb M δ μ μ1 mo) (hx : ∀ p, p ∉ M → EvX C ta (p :: M) δ ((p, mo) :: μ1) ((p, mo) :: μ1) (.m a)) (hj : μ1[j]? = some (a, .ins Cc fs)) (cl : Cls C.K Cc) (na : NoAttr C.K Cc f) (hl : fs.length < 1000)
    (kk : ∀ p, p ∉ M → Nx C D (p :: M) δ ((p, mo) :: μ1.set j (a, .ins Cc (putFG f (gRef p) fs)))) : Run C (sFld C.K ta tb f) D M δ μ := fun σ H o => h σ H o _ fun p H1 pM o1 x1 => hx p pM σ H1 o1 _ fun x H2 o2 x2 r2 => by
  have hj' : ((p, mo) :: μ1)[j + 1]? = some (a, .ins Cc fs) := hj
  obtain ⟨_, _, dx, ws, q3, q4⟩ := o2.mem _ (List.mem_of_getElem? hj')
  refine ⟨a, Cc, dx, ws, r2, q3, cl, na, by rw [paired_len q4]; exact hl, ?_⟩
  exact kk p pM _ _ (o2.write hj' ⟨dx, _, upd_same, fs_put q4 f (show (gRef p).p C.K _ (.ref p) from rfl)⟩)
theorem q_fsetN (h : EvN C tb M δ μ μ1 mo) (hx : ∀ p, p ∉ M → EvX C ta (p :: M) δ ((p, mo) :: μ1) ((p, mo) :: μ1) (.m a)) (hj : μ1[j]? = some (a, .ins Cc fs)) (cl : Cls C.K Cc) (na : NoAttr C.K Cc f) (hl : fs.length < 1000)
    (kk : ∀ p, p ∉ M → Run C t2 D (p :: M) δ ((p, mo) :: μ1.set j (a, .ins Cc (putFG f (gRef p) fs)))) : Run C (tSeq (sFld C.K ta tb f) t2) D M δ μ := r_fsetN (D := { D with nx := t2 D }) h hx hj cl na hl kk
theorem n_newT : EvN C tDNewT M δ μ μ (.dT []) := fun σ H o Q k p hp => by
  have o' := o.new hp (ho := .dT []) (mo := .dT []) ⟨[], upd_same, .nil⟩
  exact k p _ (o.fresh hp) o' (hide_new hp)
/-- what __init__ promises: the new instance is so -/
def spMk (K : PySem.W.Frag) (Cc : Addr) (n : Nat) (R : List Ent → GP → Prop) : Sp := fun vs H Q _ => vs.length = n + 1 ∧ ∃ x dx ws M es φ, vs = .ref x :: ws ∧ H x = some (.ins Cc dx []) ∧ x ∉ M ∧ (∀ a ∈ M, H a ≠ none) ∧ Paired (EntOk K (hide (x :: M) H)) es ws ∧ R es φ ∧
  ∀ H', Ex (hide [x] H) H' → φ.p K (hide M H') (.ref x) → Q .non H'
/-- C(..) -/
theorem x_make {R : List Ent → GP → Prop} {E : XK} (h : EvA C tr M δ μ μ1 es) (hR : R es φ) (hn : es.length = n := by rfl) : EvX C (tMake Cc (spMk C.K Cc n R) [] E tr) M δ μ μ1 (.g φ) := fun σ H o Q kk =>
  h σ H o _ fun vs H1 o1 x1 r1 x dx hx hd ne => by
    rw [List.append_nil]
    have e0 : Ex H1 (upd H1 dx (.own x)) := Ex.new hd
    have e2 : Ex H1 (upd (upd H1 dx (.own x)) x (.ins Cc dx [])) := e0.trans (Ex.new (by rw [upd_ne (fun z => ne z.symm)]; exact hx))
    refine ⟨by rw [List.length_cons, ← paired_len r1, hn], x, dx, vs, M, es, φ, rfl, upd_same, o1.fresh hx, (o1.grow e2).alloc, Paired.mapP r1 fun _ _ q => q.mono (fun b u z => ?_), hR, fun H' e3 r3 => ⟨rfl, ?_⟩⟩
    · obtain ⟨q, z⟩ := hide_some z
      exact hide_mk (e2 b u z) fun y => (List.mem_cons.mp y).elim (fun y => by rw [y, hx] at z; cases z) q
    · have e4 : Ex H1 H' := fun b u q => e3 b u (by
        rw [hide_out fun z => ?_]
        · exact e2 b u q
        · rw [List.mem_singleton.mp z] at q
          rw [hx] at q; cases q)
      exact kk _ H' (o1.grow e4) (x1.trans (hide_ex e4)) r3
/-- a method's call -/
theorem x_meth {sp : Sp} {E : XK} (hx : EvX C te M δ μ μ1 e) (ht : TIn μ1 e Cc fs) (hm : fs.lookup m = none) (ha : EvA C t M δ μ1 μ2 es) (hc : CallX C (fun vs H Q => sp vs H Q E) M δ μ2 μ3 (e :: es) e2) :
    EvX C (tMeth Cc m sp [] E te t) M δ μ μ3 e2 := fun σ H o Q kk => hx σ H o _ fun x H1 o1 x1 r1 => by
  obtain ⟨a, dx, ws, q1, q2, q⟩ := ht.rd o1 r1
  refine ⟨a, dx, ws, q1, q2, fs_no q hm, ha σ H1 o1 _ fun vs H2 o2 x2 r2 => ?_⟩
  rw [List.append_nil]
  exact hc σ H2 (x :: vs) o2 (.cons (r1.mono x2) r2) Q fun v H3 o3 x3 r3 => kk v H3 o3 ((x1.trans x2).trans x3) r3
theorem n_meth {sp : Sp} {E : XK} (hx : EvX C te M δ μ μ1 e) (ht : TIn μ1 e Cc fs) (hm : fs.lookup m = none) (ha : EvA C t M δ μ1 μ2 es)
    (hc : ∀ σ H vs, Ok C M δ μ2 σ H → Paired (EntOk C.K (hide M H)) (e :: es) vs → ∀ Q : VK, (∀ p H', p ∉ M → Ok C (p :: M) δ ((p, mo) :: μ3) σ H' → Ex (hide M H) (hide (p :: M) H') → Q (.ref p) H') → sp vs H Q E) : EvN C (tMeth Cc m sp [] E te t) M δ μ μ3 mo := fun σ H o Q kk => hx σ H o _ fun x H1 o1 x1 r1 => by
  obtain ⟨a, dx, ws, q1, q2, q⟩ := ht.rd o1 r1
  refine ⟨a, dx, ws, q1, q2, fs_no q hm, ha σ H1 o1 _ fun vs H2 o2 x2 r2 => ?_⟩
  rw [List.append_nil]
  exact hc σ H2 (x :: vs) o2 (.cons (r1.mono x2) r2) Q fun p H3 pM o3 x3 => kk p H3 pM o3 ((x1.trans x2).trans x3)
theorem swap_nil (μ : Mem) : Swap [] [] μ μ := ⟨fun p hp => absurd hp (by simp), rfl, rfl, fun p hp => .inr ⟨hp, by simp⟩⟩
theorem cX_E {μ0 μ0' : Mem} {R : List Ent → Mem → PyData → Mem → Prop} {E : XK} {d : PyData} (w : Swap μ0 μ0' μ1 μ2) (nd : (ad μ0).Nodup) (hR : R es μ0 d μ0') (hn : es.length = n := by rfl) : CallX C (fun vs H Q => spE C.K n R vs H Q E) M δ μ1 μ2 es (.d d) := fun σ H1 vs o1 r1 Q k => by
  refine ⟨by rw [← paired_len r1]; exact hn, M, es, μ0, d, μ0', o1.alloc, r1, fun p hp => let q := o1.mem p (w.sub p hp); ⟨q.1, q.2.2⟩, nd, w.ad0, hR, fun v H2 e2 m2 d2 => ?_⟩
  obtain ⟨o2, x2⟩ := after_E o1 w e2 m2
  exact k v H2 o2 x2 d2
theorem cX_E0 {R : List Ent → Mem → PyData → Mem → Prop} {E : XK} {d : PyData} (hR : R es [] d []) (hn : es.length = n := by rfl) : CallX C (fun vs H Q => spE C.K n R vs H Q E) M δ μ1 μ1 es (.d d) := cX_E (swap_nil μ1) (by simp) hR hn
theorem x_callE0 {R : List Ent → Mem → PyData → Mem → Prop} {E : XK} {d : PyData} (h : EvA C tr M δ μ μ1 es) (hR : R es [] d []) (hn : es.length = n := by rfl) : EvX C (tCall (spE C.K n R) [] E tr) M δ μ μ1 (.d d) := x_callE h (swap_nil μ1) (by simp) hR hn
/-- a call that hands back a new object -/
theorem n_callEN {μ0 μ0' : Mem} {R : List Ent → Mem → MO → Mem → Prop} {E : XK} (h : EvA C tr M δ μ μ1 es) (w : Swap μ0 μ0' μ1 μ2) (nd : (ad μ0).Nodup) (hR : R es μ0 mo μ0') (hn : es.length = n := by rfl) : EvN C (tCall (spEN C.K n R) [] E tr) M δ μ μ2 mo := fun σ H o Q k => h σ H o _ fun vs H1 o1 x1 r1 => by
  rw [List.append_nil]
  refine ⟨by rw [← paired_len r1]; exact hn, M, es, μ0, mo, μ0', o1.alloc, r1, fun p hp => let q := o1.mem p (w.sub p hp); ⟨q.1, q.2.2⟩, nd, w.ad0, hR, fun p H2 hp e2 m1 m2 => ?_⟩
  obtain ⟨pM, o2⟩ := ok_newE (G := []) o1 w hp e2 m1 m2
  refine k p H2 pM o2 (x1.trans fun b u z => ?_)
  obtain ⟨q, z⟩ := hide_some z
  have ne : b ≠ p := ne_of_none z hp
  refine hide_mk (e2 b u (hide_mk z fun y => q ?_)) fun y => (List.mem_cons.mp y).elim (fun y => absurd y ne) q
  obtain ⟨r, hr, er⟩ := List.mem_map.mp y
  rw [← er]; exact (o1.mem r (w.sub r hr)).1
end
section
variable {P : Program} {w : World} {K : PySem.W.Frag} {mg : Str → Option Value} {base : Heap}
/-- an __init__ -/
theorem def_Mk {Cc : Addr} {x qual : Str} {st : Stmt} {f : Addr} {fd : FuncData} {N ps : List Str} {k n : Nat} {R : List Ent → GP → Prop} (F : Fun K x qual st f fd) (S : FnScope N ps (defScope st)) (hN : ps.length ≤ N.length) (hp : ps.length = n + 1)
    (h : ∀ (cdv : Value) (A : Around) (outer : List Env) (s : Shared) (H : Hp) (E : XK), Room k (A.deeper (PyProof.Rows.envOfC qual (defScope st) s.heap.objs.size f cdv)) →
      ∃ t, PSs (cxOf CX0 P w K mg base N qual (defScope st) f cdv A outer s H E).nox (defBody st) t ∧
        ∀ (M : List Addr) (G B : Hp) (x : Addr) (es : List Ent) (φ : GP), R es φ → x ∉ M → ∀ D : Ends, (∀ M' δ μ' σ H', Ok ⟨K, M, G, B⟩ M' δ μ' σ H' → φ.p K (hide M H') (.ref x) → D.nx σ H') → Run ⟨K, M, G, B⟩ t D (x :: M) (startE N.length (es.length + 1) (.m x :: es)) [(x, .ins Cc [])]) :
    FnOk P w K mg base CX0 (k + 1) f fd ps (spMk K Cc n R) := by
  refine F.ok S (fun vs H Q E hs => hs.1.trans hp.symm) fun cdv A outer s H vs Q E hr hs => ?_
  obtain ⟨hn, x, dx, ws, M, es, φ, rfl, hx, xM, al, he, hR, kk⟩ := hs
  obtain ⟨t, ht, run⟩ := h cdv A outer s H E hr
  have he' : Paired (EntOk K (hide (x :: M) H)) (.m x :: es) (.ref x :: ws) := .cons rfl he
  have o := ok_startE (K := K) (H := H) (N := N) (M := x :: M) (es := .m x :: es) (vs := .ref x :: ws) (μ := [(x, .ins Cc [])]) (fun a ha => (List.mem_cons.mp ha).elim (fun z => by rw [z, hx]; exact fun z => nomatch z) (al a)) he' (fun p hp => by
    rw [List.mem_singleton.mp hp]
    exact ⟨List.mem_cons_self, dx, [], hx, .nil⟩) (by simp) (by rw [hn, ← hp]; exact hN)
  refine ⟨t, ht, run M (hide (ad [(x, MO.ins Cc [])]) H) (hide (x :: M) H) x es φ hR xM _ (fun M' δ μ' σ H' o' r => ?_) _ _ ⟨o.len, o.slot, o.mem, o.nd, o.alloc, fun a ha => List.mem_cons_of_mem _ ha, o.gr, o.base⟩⟩
  exact kk H' o'.gr r
end
end FD
/-! a dict whose keys are tuples, made by a comprehension -/
namespace FD
open PySem PySem.Spec L2 PyProof.Rows Evl
theorem wp_if_pos' {c p q : Prop} [Decidable c] (h : c) (hp : p) : if c then p else q := by rw [if_pos h]; exact hp
theorem wp_if_neg' {c p q : Prop} [Decidable c] (h : ¬ c) (hq : q) : if c then p else q := by rw [if_neg h]; exact hq
/-- what one stored pair does, in a frame of any kind -/
theorem dput_set {X : Cx} {pins : List (Addr × Obj)} {σ : L2.St} {H : Hp} {s : Shared} {E : Value → Shared → Prop} {D : Addr} {y v : V} {u r : Value} {Q : Unit → Shared → Prop} (hu : X.A.units < cLine) (I : Inv X pins σ H s) {ks : List (List Key × V)} {k : List Key} {b : Addr}
    (g : H D = some (.dT ks)) (ey : y = .ref b) (eb : H b = some (.tup (k.map kV))) (hz : ks.length < sizeLine) (ry : RelV y u) (rv : RelV v r) (h : ∀ s', Inv X pins σ (upd H D (.dT (putK ks k v))) s' → Q () s') : wpAny (model X.prog X.w) X.A (dictSet D u r) Q E s := by
  subst ey
  cases (show u = Value.ref b from ry)
  obtain ⟨z, hd, xs, rel, dd⟩ := dt_of I.hok g
  have lx : xs.length ≤ sizeLine := by rw [← Paired.length rel]; exact z
  have lp := length_putK ks k v
  refine wpAny_dictSet_heap (hsz := lx) (show (tupleKind (mixKind X.prog X.w)).room X.A from hu) (key_of I.hok eb) dd fun h' d2 sb => h _ ?_
  obtain ⟨ob, es, ep, q1, q2, q3, q4, _, q5⟩ := d2
  refine d_write I (by rw [g]; trivial) sb ⟨ob, q1⟩ ⟨by omega, hd, _, (rel.put k eb rv).keeps fun c ys ec => ?_, ob, es, ep, q1, q2, q3, q4, q5⟩
  exact (upd_ne (ne_of ec g fun e => nomatch e)).trans ec
def tDcT (wi : TI) (g : TG) (tt : TT) (tk tv : TE) (vs : List Nat) : TE := fun σ H Q => wi σ H fun J H1 => ∀ D, H1 D = none → ∃ W : Nat → Nat → Hp → Prop, (∃ m, W 0 m (upd H1 D (.dT []))) ∧ ∀ i m Hi, W i m Hi → (J.stop i Hi ∧ Q (.ref D) Hi) ∨ (J.go i Hi ∧ ∃ Nx : Hp → Prop, (∀ Hn, Nx Hn → ∃ m', m' < m ∧ W (i + 1) m' Hn) ∧ ∀ x Hn, J.yld i Hi x Hn → g x (wipe σ vs) Hn fun σ2 H2 => wipe σ2 vs = wipe σ vs ∧ tt σ2 H2 fun b H3 => if b = true then tk σ2 H3 fun y H4 => tv σ2 H4 fun z H5 => ∃ ks k a, y = .ref a ∧ H5 a = some (.tup (k.map kV)) ∧ H5 D = some (.dT ks) ∧ ks.length < sizeLine ∧ Nx (upd H5 D (.dT (putK ks k z))) else Nx H3)
/-- the frames of a comprehension's block -/
abbrev InBlk (X : Cx) (scope : Scope) (F : Cx → Prop) : Prop := ∀ (s : Shared) (H : Hp) (C : Addr) (cl : List (Str × Addr)) (fp : List Addr), F (X.blk s H scope (compEnvC scope cl C X.env) fp)
section
variable {X : Cx} {kx vx tg iter : Expr} {ifs : List Expr} {scope : Scope} {own : List (Str × Nat)} {pos pos' : Pos} {wi : TI} {g : TG} {tt : TT} {tk tv : TE}
theorem dct_core {pins : List (Addr × Obj)} {s : Shared} {σ : L2.St} {H : Hp} {Q : VK} {use : Option (Value → Sem Unit)} {Qf : Value → Shared → Prop} (hu : X.A.units < cLine) (calm : X.calm = true) (nd : X.N.Nodup) (I : Inv X pins σ H s) (hi : PI X tg iter wi) (ok : BlkOk X.N X.env.scope scope own)
    (hg : InBlk X scope fun Y => PG Y tg g) (ht : InBlk X scope fun Y => PTs Y ifs tt) (hk : InBlk X scope fun Y => PE Y kx tk) (he : InBlk X scope fun Y => PE Y vx tv) (fs : ∀ x, foldedSetIterable iter X.env x = pure x) (h : tDcT wi g tt tk tv (own.map (·.2)) σ H Q)
    (fin : ∀ D C s' m H', Inv X pins σ H' s' → Q (.ref D) H' → s'.heap.Ns C m → FpOk X pins H' C → compPost (model X.prog X.w) X.A X.xe use Qf (.ref D) C (.ok .next) s') : wpAny (model X.prog X.w) X.A (comprehension (.DictComp kx vx [⟨tg, iter, ifs, 0⟩] scope pos) scope X.env pos' newDict false (eval iter X.env) use) Qf X.xe s := by
  refine wpAny_comprehension_free (use := use) rfl fs (closure_ok fun y hy e => (ok.free y hy e).elim (fun k => I.ok.has _ (.inl k)) fun k => I.ok.has _ (.inr k)) ok.kind (fun y hy e => by rw [ok.uniq y hy, e]) (thn (hi.run pins s σ H _ I h) fun xv s1 hx => thn hx fun itv s2 ⟨it, fp, tn, J, H2, e, I2, T, st2, f2, q⟩ => ?_)
  subst e
  refine wpAny_newObj_type (newEnv_comp ?_)
  generalize hD : s2.heap.objs.size = D
  obtain ⟨W, ⟨m0, w0⟩, turn⟩ := q D (I2.hok.fresh (Nat.le_of_eq hD))
  generalize es3 : ({ s2 with heap := s2.heap.push { cls := .type "dict", data := .dict #[] } } : Shared) = s3
  have h3 : s3.heap = s2.heap.push { cls := .type "dict", data := .dict #[] } := by rw [← es3]
  have I3 : Inv X pins σ (upd H2 D (.dT [])) s3 := by
    subst es3 hD
    exact I2.laid (t' := s2.toks) (fun b o e => Heap.get?_push_of_some _ e) (Nat.le_refl _) (dt_empty s2.heap I2.big)
  have fpl : ∀ b ∈ fp, b < s2.heap.objs.size := fun b hb => let ⟨o, e, _⟩ := T.obj _ _ st2 b hb; Heap.lt_size e
  have f3 : ∀ b ∈ fp, FpOk X pins (upd H2 D (.dT [])) b ∧ b < s3.heap.objs.size := fun b hb => ⟨⟨(upd_ne (hD ▸ Nat.ne_of_lt (fpl b hb))).trans (f2 b hb).1, (f2 b hb).2⟩, by rw [h3, Heap.size_push]; exact Nat.lt_succ_of_lt (fpl b hb)⟩
  have st3 : tn 0 s3.heap := T.keep _ _ _ st2 fun b _ o e => by rw [h3]; exact Heap.get?_push_of_some _ e
  have I4 := block_start I3 ok nd f3
  generalize ecl : cellsFrom (s3.heap.objs.size + 1) scope.names (cloFrom X.env.cells scope.names []) = cl at I4
  have blk := fun (F : Cx → Prop) (a : InBlk X scope F) => a s3 (upd H2 D (.dT [])) s3.heap.objs.size cl fp
  have pg := blk _ hg
  have pt := blk _ ht
  have pk := blk _ hk
  have pv := blk _ he
  have fn3 : ∀ b ∈ fp, (upd H2 D (.dT [])) b = none := fun b hb => (f3 b hb).1.1
  generalize ece : compEnvC scope cl s3.heap.objs.size X.env = ce at I4 pg pt pk pv
  have loc : ce.locals = s3.heap.objs.size := by rw [← ece]; rfl
  generalize upd H2 D (.dT []) = H3 at I3 I4 pg pt pk pv w0 fn3 f3
  generalize es4 : ({ s3 with heap := pushCells (s3.heap.push { cls := .type "dict", data := .dict #[] }) scope.names } : Shared) = s4 at I4
  have st4 : tn 0 s4.heap := T.keep _ _ _ st3 fun b _ o e => by rw [← es4]; exact pushCells_keeps _ _ _ _ (Heap.get?_push_of_some _ e)
  generalize eY : X.blk s3 H3 scope ce fp = Y at I4 pg pt pk pv
  have stat : ∀ {σ' : L2.St} {H' : Hp} {s' : Shared}, Inv Y [] σ' H' s' → (∀ b ∈ fp, H' b = none) → ∀ b ∈ fp, FpOk Y [] H' b := fun {σ' H' s'} I' n b hb => by
    subst eY
    exact ⟨n b hb, (I'.ok.exf b hb).1, I'.ok.exfs b hb, .inl hb, fun x c e => (I'.ok.exf b hb).2 x c e, fun p hp => absurd (show p ∈ ([] : List (Addr × Obj)) ++ [] from hp) (by simp)⟩
  have eP : Y.prog = X.prog ∧ Y.w = X.w ∧ Y.K = X.K ∧ Y.A = X.A := by rw [← eY]; exact ⟨rfl, rfl, rfl, rfl⟩
  have loop : codeAny (model X.prog X.w) X.A (.compLoop (.DictComp kx vx [⟨tg, iter, ifs, 0⟩] scope pos) 0 (.ref it) (.ref D) ce) (compPost (model X.prog X.w) X.A X.xe use Qf (.ref D) s3.heap.objs.size) s4 := by
    refine compLoop_anyD (fun n s' => ∃ i Hc, Inv Y [] (wipe σ (own.map (·.2))) Hc s' ∧ tn i s'.heap ∧ (∀ b ∈ fp, Hc b = none) ∧ W i n Hc) ?_ m0 ⟨0, H3, I4, st4, fn3, w0⟩
    rintro n s5 ⟨i, H5, I5, st5, n5, w5⟩
    rcases turn i n H5 w5 with ⟨stop, qq⟩ | ⟨go, Nx, hN, step⟩
    · subst eY
      refine thnF (T.done (X.blk s3 H3 scope ce fp) rfl rfl rfl calm i [] s5 _ H5 (fun _ _ => False) I5 (stat I5 n5) st5 stop) fun r s6 ⟨hr, I6⟩ => ?_
      subst hr
      obtain ⟨m, hn, _⟩ := I6.loc
      have hn : s6.heap.Ns ce.locals m := hn
      have free : H5 ce.locals = none := I6.free
      rw [loc] at hn free
      exact fin D s3.heap.objs.size s6 m H5 (I3.call' (ch := fp) I6.os I6.base I6.hok I6.bare fun b hb => let z := (f3 b hb).1.2; ⟨z.2.2.1, z.1, z.2.2.2.1, z.2.2.2.2⟩) qq hn (I3.fpOk (Nat.le_refl _) free)
    · subst eY
      refine thnF (T.item (X.blk s3 H3 scope ce fp) rfl rfl rfl calm i [] s5 _ H5 (fun _ _ => False) I5 (stat I5 n5) st5 go) fun r s6 ⟨u, hr, h6⟩ => ?_
      subst hr
      refine thnF h6 fun _ s7 ⟨x, H7, I7, r7, y7, st7, n7⟩ => thnF (pg.run _ s7 _ H7 x u _ (I7.pinned (stat I7 n7) (T.obj _ _ st7)) r7 (step x H7 y7)) fun _ s8 ⟨σ8, H8, I8, hw8, q8⟩ => thnF (pt.run _ s8 σ8 H8 _ I8 q8) fun b s9 ⟨H9, I9, q9⟩ => ?_
      have back : ∀ {s' : Shared} {Hb : Hp}, Inv (X.blk s3 H3 scope ce fp) ([] ++ pinsAt fp s7.heap) σ8 Hb s' → Nx Hb → ∃ m, m < n ∧ ∃ i Hc, Inv (X.blk s3 H3 scope ce fp) [] (wipe σ (own.map (·.2))) Hc s' ∧ tn i s'.heap ∧ (∀ b ∈ fp, Hc b = none) ∧ W i m Hc := fun {s' Hb} Ib nx => by
        obtain ⟨m', hm, w'⟩ := hN Hb nx
        have pin : ∀ b ∈ fp, ∀ o, s7.heap.get? b = some o → s'.heap.get? b = some o ∧ Hb b = none := fun b hb o e => let z := Ib.pin (b, o) (List.mem_append_right _ (List.mem_append_right _ (mem_pinsAt hb e))); ⟨z.1, z.2.1⟩
        refine ⟨m', hm, i + 1, Hb, (Ib.unpinned (pins := [])).weak (by rw [← hw8, wipe_length]) (fun j v e => ?_), T.keep _ _ _ st7 fun b hb o e => (pin b hb o e).1, fun b hb => let ⟨o, e, _⟩ := T.obj _ _ st7 b hb; (pin b hb o e).2, w'⟩
        rw [← hw8] at e
        exact (wipe_some e).1
      cases b with
      | true =>
        have q9 : tk σ8 H9 _ := q9
        refine wp_if_pos' rfl ?_
        exact thnF (pk.run _ s9 σ8 H9 _ I9 q9) fun z s10 ⟨yk, H10, I10, r10, q10⟩ => thnF (pv.run _ s10 σ8 H10 _ I10 q10) fun z2 s11 ⟨yv, H11, I11, r11, ks, k, a, ea, ha, hD11, hz11, nx⟩ => dput_set (X := X.blk s3 H3 scope ce fp) hu I11 hD11 ea ha hz11 r10 r11 fun s12 I12 => back I12 nx
      | false =>
        have q9 : Nx H9 := q9
        exact wp_if_neg' (fun z => nomatch z) (back I9 q9)
  have := codeAny_compStart_dict loop (T.self X.A 0 _ _ _ st4 loop)
  subst ece ecl es4
  exact this
/-- as a value -/
theorem pe_dcT (hu : X.A.units < cLine) (calm : X.calm = true) (nd : X.N.Nodup) (hi : PI X tg iter wi) (ok : BlkOk X.N X.env.scope scope own) (hg : InBlk X scope fun Y => PG Y tg g) (ht : InBlk X scope fun Y => PTs Y ifs tt) (hk : InBlk X scope fun Y => PE Y kx tk) (he : InBlk X scope fun Y => PE Y vx tv) (fs : ∀ x, foldedSetIterable iter X.env x = pure x := by intro _; rfl) :
    PE X (.DictComp kx vx [⟨tg, iter, ifs, 0⟩] scope pos) (tDcT wi g tt tk tv (own.map (·.2))) := ⟨fun pins s σ H Q I h => by
  rw [arm_eval_DictComp]
  refine dct_core hu calm nd I hi ok hg ht hk he fs h fun D C s' m H' I' q hn f => ⟨m, hn, fun _ sb => ?_⟩
  obtain ⟨f0, f1, f2, f3, f4, f5⟩ := f
  exact ⟨.ref D, H', I'.turned (t' := s'.toks) (fun b o hb e => (sb.2 b hb).trans e) f0 f1 f3 f4 f5, rfl, q⟩⟩
end
end FD
/-! the same over the layer; new objects handed back, or handed on at once -/
namespace FD
open PySem L2 Evl
section
variable {C : Cfg} {M : List Addr} {δ : List Ent} {μ μ' μ1 μ2 μ3 : Mem} {te ten : TE} {tr : TA} {e e1 e2 : Ent} {es : List Ent} {i j n : Nat} {a : Addr} {D : Ends} {t2 : TS} {mo mo' : MO} {d : PyData} {wi : TI} {g : TG} {tt : TT} {tk tv : TE} {vs : List Nat} {xs : List PyData}
theorem x_dcT {N : Hp → Prop} (hi : EvIN C wi M δ μ μ' N xs) (hN : ∀ (B : Hp) (p : Addr) (q : MO) (σ : L2.St) (H : Hp), Ok { C with B := B } (p :: M) δ ((p, q) :: μ') σ H → N H) (T : Nat → GTab) (h0 : T 0 = []) (hl : ∀ i, i < xs.length → (T i).length < 1000)
    (hs : ∀ (i : Nat) (d : PyData), xs[i]? = some d → ∀ (B : Hp) (p : Addr), ∃ ts δ' b, TgX C.K g ts d (wipeE δ vs) δ' ∧ (∀ k ∈ ts, k ∈ vs) ∧ EvT { C with B := B } tt (p :: M) δ' ((p, .dT (T i)) :: μ') ((p, .dT (T i)) :: μ') b ∧ (b = false → T (i + 1) = T i) ∧
      (b = true → ∃ k e φ, EvX { C with B := B } tk (p :: M) δ' ((p, .dT (T i)) :: μ') ((p, .dT (T i)) :: μ') (.d (rowK k)) ∧ EvX { C with B := B } tv (p :: M) δ' ((p, .dT (T i)) :: μ') ((p, .dT (T i)) :: μ') e ∧ EntG e φ ∧ T (i + 1) = putG (T i) k φ)) :
    EvN C (tDcT wi g tt tk tv vs) M δ μ μ' (.dT (T xs.length)) := fun σ H o Q k => by
  refine hi σ H o _ fun J H1 o1 x1 W D hD => ?_
  have oB := o1.toB
  have hDM : D ∉ M := o1.fresh hD
  have o2 : Ok { C with B := hide M H1 } (D :: M) δ ((D, .dT (T 0)) :: μ') σ (upd H1 D (.dT [])) := oB.new hD (mo := .dT (T 0)) ⟨[], upd_same, by rw [h0]; exact .nil⟩
  refine ⟨fun i m H' => m = xs.length - i ∧ i ≤ xs.length ∧ Ok { C with B := hide M H1 } (D :: M) δ ((D, .dT (T i)) :: μ') σ H', ⟨xs.length, by simp, Nat.zero_le _, o2⟩, ?_⟩
  rintro i m H' ⟨rfl, hi', oi⟩
  by_cases hlt : i < xs.length
  · refine .inr ⟨W.go (D :: M) i H' hlt oi.alloc oi.base (hN _ _ _ _ _ oi), fun H'' => Ok { C with B := hide M H1 } (D :: M) δ ((D, .dT (T (i + 1))) :: μ') σ H'', fun H'' q => ⟨xs.length - (i + 1), by omega, rfl, hlt, q⟩, fun x H2 y => ?_⟩
    obtain ⟨e2, d, hd, dx⟩ := W.yld (D :: M) i H' x H2 hlt oi.alloc oi.base (hN _ _ _ _ _ oi) y
    have o3 := oi.grow e2
    obtain ⟨ts, δ', b, tg, hts, htt, hF, hT⟩ := hs i d hd (hide M H1) D
    refine tg { C with B := hide M H1 } _ _ _ _ _ rfl (o3.wiped vs) dx _ fun σ2 o5 hl2 hσ2 => ⟨wipe_eq (by rw [hl2, wipe_length]) hσ2 hts, ?_⟩
    refine htt σ2 H2 o5 _ fun H3 o6 x6 => ?_
    cases b with
    | false =>
      have := o3.swap o6 x6
      show Ok { C with B := hide M H1 } (D :: M) δ ((D, .dT (T (i + 1))) :: μ') σ H3
      rw [hF rfl]; exact this
    | true =>
      obtain ⟨kq, e, φ, hk, hv, hg, eT⟩ := hT rfl
      show tk σ2 H3 _
      refine hk σ2 H3 o6 _ fun y H4 o7 x7 r7 => ?_
      refine hv σ2 H4 o7 _ fun z H5 o8 x8 r8 => ?_
      have o9 : Ok { C with B := hide M H1 } (D :: M) δ ((D, .dT (T i)) :: μ') σ H5 := o3.swap o8 ((x6.trans x7).trans x8)
      obtain ⟨b, e4, e5⟩ := rowK_at r7
      obtain ⟨_, _, ws, q3, q4⟩ := o9.mem _ List.mem_cons_self
      refine ⟨ws, kq, b, e4, (hide_some (x8 _ _ e5)).2, q3, sz_lt (by rw [gt_len q4]; exact Nat.lt_of_lt_of_le (hl i hlt) (by decide)), ?_⟩
      rw [eT]
      exact o9.write (j := 0) rfl ⟨_, upd_same, gt_put q4 kq (hg _ _ _ r8)⟩
  · have ei : i = xs.length := by omega
    subst ei
    refine .inl ⟨W.stop (D :: M) H' oi.alloc oi.base (hN _ _ _ _ _ oi), ?_⟩
    exact k D H' hDM (oi.reB o1.base) (x1.trans oi.base)
/-- return {..} or f(..), a new object -/
theorem r_retNn (h : EvN C te M δ μ μ1 mo) (hs : ∀ p ∈ μ', p ∈ μ1) (kk : FinEN C D mo μ') : Run C (tRet te) D M δ μ := fun σ H o => h σ H o _ fun p H1 pM o1 x1 => by
  obtain ⟨q0, q1, q2⟩ := o1.mem (p, mo) List.mem_cons_self
  exact kk p (p :: M) H1 q1 (fun z => pM (o.sub p z)) o1.gr o1.sub q0 q2 fun r hr => (o1.mem r (List.mem_cons_of_mem _ (hs r hr))).2.2
/-- f(x, {..}): the new object is f's alone -/
theorem x_callTmp {R : List Ent → Mem → PyData → Mem → Prop} {E : XK} (h1 : EvX C te M δ μ μ1 e) (h2 : EvN C ten M δ μ1 μ2 mo) (hR : ∀ p, R [e, .m p] [(p, mo)] d [(p, mo')]) : EvX C (tCall (spE C.K 2 R) [] E (tCons te (tCons ten tNil))) M δ μ μ2 (.d d) := fun σ H o Q kk =>
  h1 σ H o _ fun v H1 o1 x1 r1 => h2 σ H1 o1 _ fun p H2 pM o2 x2 => by
    show spE C.K 2 R ([v, .ref p] ++ []) H2 Q E
    rw [List.append_nil]
    have hj : ((p, mo) :: μ2)[0]? = some (p, mo) := rfl
    refine ⟨rfl, p :: M, [e, .m p], [(p, mo)], d, [(p, mo')], o2.alloc, .cons (r1.mono x2) (.cons rfl .nil), fun q hq => ?_, by simp, rfl, hR p, fun u H4 e4 m4 d4 => ?_⟩
    · rw [List.mem_singleton.mp hq]
      exact ⟨(o2.mem _ List.mem_cons_self).1, (o2.mem _ List.mem_cons_self).2.2⟩
    · have w : Swap [(p, mo)] [(p, mo')] ((p, mo) :: μ2) ((p, mo') :: μ2) := swap_set hj o2.nd
      obtain ⟨o5, x5⟩ := after_E o2 w e4 m4
      have o6 : Ok C (p :: M) δ μ2 σ H4 := o5.mems (fun q hq => List.mem_cons_of_mem _ hq) (List.nodup_cons.mp o5.nd).2
      have pn : p ∉ ad μ2 := (List.nodup_cons.mp o5.nd).1
      have o7 : Ok C M δ μ2 σ H4 := o6.drop (fun a ha => List.mem_cons_of_mem _ ha) (fun q hq => ((List.mem_cons.mp (o6.mem q hq).1).resolve_left fun z => pn (by rw [← z]; exact List.mem_map_of_mem hq))) o.sub
      have back : Ex (hide (p :: M) H4) (hide M H4) := hide_sub fun a ha => List.mem_cons_of_mem _ ha
      exact kk u H4 o7 (((x1.trans x2).trans x5).trans back) (dp_mono back _ _ d4)
end
end FD
/-! sorted(d), the keys of d tuples of ints and texts of one shape; more reads of dicts that stay -/
namespace FD
open PySem PySem.Spec L2 PyProof.Rows PySem.W PySem.Froz
section
variable {P : Program} {w : World} {A : Around} {E : Value → Shared → Prop} {s : Shared}
theorem sorted_src {T : String} {d : Addr} {n : Nat} {Pv : Nat → Value → Prop} {OK : Heap → Prop} {L1 : Mbs} {Q : Value → Shared → Prop} (K : KdlSrc P w T d d n Pv OK) (hok : OK s.heap) (hn : n = L1.length) (hP : ∀ i v, Pv i v → (refsOf L1)[i]? = some v) (tps : ∀ q ∈ L1, Tx P w s.heap q.2 q.1) (few : L1.length < 64) (hs : OneShape (L1.map (·.2))) (hh : A.handled = none) (hu : A.units + 3 < cLine)
    (hQ : ∀ (h1 : Heap) s' p (out : Array Value) (c : Nat) (L' : Mbs), (∀ b o, s.heap.get? b = some o → h1.get? b = some o) → p = h1.objs.size → (∀ b o, h1.get? b = some o → s'.heap.get? b = some o) → s'.gens = s.gens → s'.os = s.os →
      s'.heap.get? p = some (seqObj "list" out c) → out.toList = refsOf L' → L'.Perm L1 → L'.Pairwise (fun q r => leK q.2 r.2 = true) → Q (.ref p) s') :
    wpAny (model P w) A (call (.builtin "sorted") [.ref d]) Q E s := by
  refine Calls.call_function_entry kind_sorted plain_sorted entry_sorted (args_sorted1 _) ?_
  unfold Builtin.«sorted»
  refine wpAny_bind (m := checkCount "sorted" 1 1 _) (wpAny_pure ?_)
  refine wpAny_bind (kdu_collect (A := A.in1) K hh hok (by rw [sizeLine_eq]; omega) fun h' tk acc k1 it => ?_)
  generalize es1 : ({ s with heap := h', toks := tk } : Shared) = s1
  generalize ev : acc.toList = vs
  have k1 : ∀ b o, s.heap.get? b = some o → s1.heap.get? b = some o := by rw [← es1]; exact k1
  have g1 : s1.gens = s.gens := by rw [← es1]
  have o1 : s1.os = s.os := by rw [← es1]
  have e1 : vs = refsOf L1 := by
    rw [← ev]
    have hl : acc.toList.length = (refsOf L1).length := by rw [Array.length_toList, it.1, hn]; unfold refsOf; rw [List.length_map]
    refine List.ext_getElem? fun j => ?_
    cases hj : acc.toList[j]? with
    | none =>
      have := List.getElem?_eq_none_iff.mp hj
      rw [List.getElem?_eq_none (by omega)]
    | some v => rw [hP j v (it.2 j v (by rw [← Array.getElem?_toList]; exact hj))]
  have hvl : vs.length < 64 := by rw [e1]; unfold refsOf; rw [List.length_map]; exact few
  refine wpAny_bind (wpAny_newList ?_ (by rw [sizeLine_eq]; omega))
  have hoL : (s1.heap.push (seqObj "list" vs.toArray 0)).get? s1.heap.objs.size = some (seqObj "list" vs.toArray 0) := Heap.get?_push_size _ rfl
  refine wpAny_bind (wpAny_holding (wpAny_call_entry slot_list_sort ⟨_, hoL, rfl⟩ entry_list_sort (list_sort_vals (s := { s1 with heap := s1.heap.push (seqObj "list" vs.toArray 0) }) (κ := dataKind (sortingHeap (s1.heap.push (seqObj "list" vs.toArray 0)) s1.heap.objs.size vs) (L1.map fun q => rowK q.2)) hoL ?_ (by rw [sizeLine_eq]; omega) ?_) (args_list_sort _)))
  · rw [e1]
    refine rows_sort hs (s := { s1 with heap := sortingHeap (s1.heap.push (seqObj "list" (refsOf L1).toArray 0)) s1.heap.objs.size (refsOf L1) }) (fun q hq => ?_) (by show A.units + 1 + 1 + 1 < cLine; omega)
    refine tx_keep (tx_keep (tps q hq) k1) fun c u e => ?_
    exact sortingHeap_old (Nat.ne_of_lt (Heap.lt_size e)) (Heap.get?_push_of_some _ e)
  · refine ⟨_, rfl, ?_⟩
    generalize hO : sortVals (dataKind (sortingHeap (s1.heap.push (seqObj "list" vs.toArray 0)) s1.heap.objs.size vs) (L1.map fun q => rowK q.2)) false vs vs = out
    have po : out.Perm vs := by
      rw [← hO]
      unfold sortVals
      have z := (List.mergeSort_perm (vs.zip vs) (sortLe (dataKind (sortingHeap (s1.heap.push (seqObj "list" vs.toArray 0)) s1.heap.objs.size vs) (L1.map fun q => rowK q.2)).toKeyOrd false fun p : Keyed => keyD (dataKind (sortingHeap (s1.heap.push (seqObj "list" vs.toArray 0)) s1.heap.objs.size vs) (L1.map fun q => rowK q.2)) p.1)).map Prod.snd
      rw [List.map_snd_zip (Nat.le_refl _)] at z
      exact z
    have tL1 : ∀ q ∈ L1, Tx P w (sortingHeap (s1.heap.push (seqObj "list" vs.toArray 0)) s1.heap.objs.size vs) q.2 q.1 := fun q hq => by
      refine tx_keep (tx_keep (tps q hq) k1) fun c u e => ?_
      exact sortingHeap_old (Nat.ne_of_lt (Heap.lt_size e)) (Heap.get?_push_of_some _ e)
    have eo : EachIs (fun v (q : Addr × List Key) => v = Value.ref q.1) out (L1.mergeSort (dataLe false fun q : Addr × List Key => rowK q.2)) := by
      rw [← hO]
      have z1 : EachIs (fun v (q : Addr × List Key) => v = Value.ref q.1) vs L1 := by rw [e1]; exact refs_each L1
      have z2 : EachIs (fun v (q : Addr × List Key) => ∃ as, PySem.Reads (sortingHeap (s1.heap.push (seqObj "list" vs.toArray 0)) s1.heap.objs.size vs) v (rowK q.2) as) vs L1 := by
        have z := rows_each2 tL1
        rw [← e1] at z
        exact z
      exact sortVals_data false z1 z2 (rows_alike hs)
    have e2 := each_refs eo
    have p2 : (L1.mergeSort (dataLe false fun q : Addr × List Key => rowK q.2)).Perm L1 := (List.mergeSort_perm _ _).trans (List.Perm.refl L1)
    have w2 : (L1.mergeSort (dataLe false fun q : Addr × List Key => rowK q.2)).Pairwise (fun q r => leK q.2 r.2 = true) := by
      have tot := sortLe_total (listOrd itemOrd) false (fun q : Addr × List Key => keyToks (rowK q.2))
      exact List.pairwise_mergeSort (fun a b c => tot.trans a b c) (fun a b => by rw [Bool.or_eq_true]; exact tot.total a b) L1
    generalize L1.mergeSort (dataLe false fun q : Addr × List Key => rowK q.2) = L2 at e2 p2 w2
    obtain ⟨c, hc⟩ := sortedHeap_at (vs := vs) (out := out.toArray) hoL
    refine wpAny_pure ⟨_, rfl, hQ s1.heap _ s1.heap.objs.size out.toArray c L2 k1 rfl (fun b u q => ?_) g1 o1 hc (by simpa using e2) p2 w2⟩
    have hlt := Heap.lt_size q
    show (sortedHeap (s1.heap.push (seqObj "list" vs.toArray 0)) s1.heap.objs.size vs out.toArray).get? b = some u
    rw [sortedHeap_old (Nat.ne_of_lt hlt) (by rw [size_push']; exact Nat.lt_succ_of_lt hlt)]
    exact Heap.get?_push_of_some _ q
end
end FD
namespace FD
open PySem PySem.Spec L2 PyProof.Rows Evl
abbrev rSortedT : List V → Hp → VK → Prop := fun xs H Q => ∃ d kvs, xs = [V.ref d] ∧ Rd H d (.dT kvs) ∧ OneShape (kvs.map (·.1)) ∧ kvs.length < 64 ∧ ∀ (p : Addr) (L : Mbs), (L.map (·.2)).Perm (kvs.map (·.1)) → (L.map (·.2)).Pairwise (fun a b => leK a b = true) → (∀ q ∈ L, H q.1 = some (.tup (q.2.map kV))) → H p = none → Q (.ref p) (upd H p (.lst (L.map fun q => V.ref q.1)))
section
variable {X : Cx}
theorem kt_tups {H : Hp} {kvs : List (List Key × V)} {xs : List (List Key × Addr × Value)} (h : Paired (fun (p : List Key × V) (q : List Key × Addr × Value) => p.1 = q.1 ∧ H q.2.1 = some (.tup (p.1.map kV)) ∧ RelV p.2 q.2.2) kvs xs) :
    (xs.map fun x => (x.2.1, x.1)).map (·.2) = kvs.map (·.1) ∧ ∀ q ∈ xs.map fun x => (x.2.1, x.1), H q.1 = some (.tup (q.2.map kV)) := by
  induction h with
  | nil => exact ⟨rfl, fun q hq => absurd hq (by simp)⟩
  | @cons p x ps xs h _ ih =>
    refine ⟨?_, fun q hq => ?_⟩
    · have := ih.1
      simp only [List.map_cons, List.map_map] at this ⊢
      rw [this, h.1]
    · rw [List.map_cons] at hq
      rcases List.mem_cons.mp hq with e | hq
      · rw [e]
        show H x.2.1 = some (.tup (x.1.map kV))
        rw [← h.1]; exact h.2.1
      · exact ih.2 q hq
theorem cr_sortedT (hc : X.calm = true) (hu : X.A.units + 64 < cLine) : CallR X (.builtin "sorted") rSortedT := by
  intro pins s σ H xs us Q I r h
  obtain ⟨d, kvs, rfl, hd, hsh, h64, q⟩ := h
  obtain ⟨u, rfl, rx⟩ := vals1 r
  cases rx
  obtain ⟨z, hs, ks, pr, o, es, ep, ho, hx, hdt, he, hn⟩ := (show ObjOk X.prog X.w H s.heap d (.dT kvs) from hd.ok I.hok)
  have l1 : es.size = ks.length := size_of_entries he
  have l2 : kvs.length = ks.length := Paired.length pr
  obtain ⟨k1, k2⟩ := kt_tups pr
  generalize eL : ks.map (fun x => (x.2.1, x.1)) = L1 at k1 k2
  have lL : L1.length = ks.length := by rw [← eL, List.length_map]
  refine sorted_src (L1 := L1) (kdl_raw hs hx hdt) ho (by omega) (fun i v ⟨en, hen, hv⟩ => ?_) (fun q hq => inv_tx I (st_of (k2 q hq))) (by omega) (by rw [k1]; exact hsh) (I.ok.hd hc) (by omega) fun h1 s' p out c L' kp ep' kp2 g2 o2 hob hout pm pw => ?_
  · have qe := entry_at he i
    rw [hen] at qe
    cases hb : ks[i]? with
    | none => rw [hb] at qe; cases qe
    | some b =>
      rw [hb] at qe
      have e2 : en = entryOfKey (tupleKind (mixKind X.prog X.w)) b := Option.some.inj qe
      unfold refsOf
      rw [← eL, List.map_map, List.getElem?_map, hb, hv, e2]
      rfl
  · subst ep'
    have I1 : Inv X pins σ H { s with heap := h1 } := I.kept fun b o e => kp b o e
    have hn : H h1.objs.size = none := I1.hok.fresh (Nat.le_refl _)
    have hlen : (L'.map fun q => V.ref q.1).length ≤ sizeLine := by rw [List.length_map, sizeLine_eq, pm.length_eq]; omega
    have J : Inv X pins σ (upd H h1.objs.size (.lst (L'.map fun q => V.ref q.1))) { ({ s with heap := h1 } : Shared) with heap := s'.heap, gens := s'.gens, drawn := s'.drawn, toks := s'.toks } :=
      I1.call (ch := []) (Un.laid kp2 (Nat.le_refl _) hn) (I1.hok.laid kp2 (Nat.le_refl _) ⟨hlen, out.toList, c, by rw [hout]; exact vals_refs L', hob⟩) (by rw [g2]; exact I1.bare) (fun _ z => nomatch z)
    have e : s' = { s with heap := s'.heap, gens := s'.gens, drawn := s'.drawn, toks := s'.toks } := by
      obtain ⟨x1, x2, x3, x4, x5⟩ := s'
      exact congrArg _ (show x5 = s.os from o2)
    rw [e]
    refine ⟨.ref h1.objs.size, _, J, rfl, q _ L' (by rw [← k1]; exact pm.map (·.2)) (List.pairwise_map.mpr pw) (fun r hr => k2 r (pm.mem_iff.mp hr)) hn⟩
end
section
variable {C : Cfg} {M : List Addr} {δ : List Ent} {μ μ1 μ2 : Mem} {ta tb td ty te : TE} {tr : TA} {e e' : Ent} {l : GTab}
theorem c_sortedT {m : List (List Key)} (ht : TD μ e l) (hsh : OneShape (l.map (·.1))) (hl : l.length < 64) (hm : ∀ L : List (List Key), L.Perm (l.map (·.1)) → L.Pairwise (fun a b => leK a b = true) → L = m) : CallX C rSortedT M δ μ μ [e] (.d (.list (m.map rowK))) := fun σ H vs o h Q kk => by
  obtain ⟨v, rfl, q⟩ := p1 h
  obtain ⟨a, ws, e1, rd, g⟩ := ht.rd o q
  refine ⟨a, ws, by rw [e1], rd, by rw [gt_keys g]; exact hsh, by rw [gt_len g]; exact hl, fun p L h1 h2 h3 hp => ?_⟩
  obtain ⟨o', x', d'⟩ := o.lst hp (at_rowKs (K := C.K) (H := hide M H) (ks := L) fun q hq => hide_tup (h3 q hq))
  rw [hm _ (by rw [← gt_keys g]; exact h1) h2] at d'
  exact kk _ _ o' x' d'
/-- a dict with text keys that stays as it is -/
def gDK (l : Dct) : GP := ⟨fun K H v => ∃ a ws, v = .ref a ∧ H a = some (.dK ws) ∧ DcOk K H ws (kd l), fun _ _ _ _ x h => let ⟨a, ws, e1, e2, e3⟩ := h; ⟨a, ws, e1, x a _ e2, Paired.mapP e3 fun _ _ z => ⟨z.1, z.2.mono x⟩⟩⟩
theorem x_kget {l : Dct} {k : Str} {d : PyData} (hx : EvX C td M δ μ μ1 (.g (gDK l))) (hk : EvX C ty M δ μ1 μ2 (.d (.str k))) (hv : valD l k = some d) : EvX C (tDGet td ty) M δ μ μ2 (.d d) := fun σ H o Q kk =>
  hx σ H o _ fun x H1 o1 x1 r1 => hk σ H1 o1 _ fun y H2 o2 x2 r2 => by
    obtain ⟨a, ws, e1, e2, c⟩ := r1
    have c2 : DcOk C.K (hide M H2) ws (kd l) := Paired.mapP c fun _ _ z => ⟨z.1, z.2.mono x2⟩
    obtain ⟨v, e3, e4⟩ := dc_val c2 hv
    exact ⟨a, v, e1, .inl ⟨ws, .inr k, .inl ((hide_some (x2 _ _ e2)).2), Dp.str_of r2, e3.symm⟩, kk v H2 o2 (x1.trans x2) e4⟩
/-- an int in a tuple of ints -/
theorem inV_ints (z : Int) (zs : List Int) : inV (.int z) (zs.map V.int) = decide (z ∈ zs) := by
  unfold inV
  rw [List.any_map, Bool.eq_iff_iff, List.any_eq_true, decide_eq_true_eq]
  exact ⟨fun ⟨y, hy, e⟩ => by have e : (y == z) = true := e; rw [← eq_of_beq e]; exact hy, fun h => ⟨z, h, (beq_self_eq_true z : (z == z) = true)⟩⟩
theorem flat_ints (zs : List Int) : (zs.map V.int).all flatV = true := by
  rw [List.all_map, List.all_eq_true]
  exact fun _ _ => rfl
theorem o_inTi {z : Int} {zs : List Int} : OpX C (rIn C.K false) M δ μ μ (.d (.int z)) (.d (.tuple (zs.map .int))) (.d (.bool (decide (z ∈ zs)))) := fun σ H u v o h1 h2 Q k => by
  obtain ⟨p, ws, q1, q2, q3⟩ := Dp.tup_of h2
  have e3 := DpAll.ints q3
  subst e3
  refine ⟨p, zs.map V.int, q1, .inr (ex_t hide_le q2), by rw [Dp.int_of h1]; rfl, flat_ints zs, ?_⟩
  rw [Dp.int_of h1, if_neg Bool.false_ne_true, inV_ints]
  exact k _ H o (Ex.refl _) (.bl _)
theorem o_inLi {z : Int} {zs : List Int} (r : Rdd μ e (.list (zs.map .int))) : OpX C (rIn C.K false) M δ μ μ (.d (.int z)) e (.d (.bool (decide (z ∈ zs)))) := fun σ H u v o h1 h2 Q k => by
  obtain ⟨p, ws, q1, q2, q3⟩ := r.lst o h2
  have e3 := DpAll.ints q3
  subst e3
  refine ⟨p, zs.map V.int, q1, .inl q2, by rw [Dp.int_of h1]; rfl, flat_ints zs, ?_⟩
  rw [Dp.int_of h1, if_neg Bool.false_ne_true, inV_ints]
  exact k _ H o (Ex.refl _) (.bl _)
theorem o_notInLi {z : Int} {zs : List Int} (r : Rdd μ e (.list (zs.map .int))) : OpX C (rIn C.K true) M δ μ μ (.d (.int z)) e (.d (.bool (!decide (z ∈ zs)))) := fun σ H u v o h1 h2 Q k => by
  obtain ⟨p, ws, q1, q2, q3⟩ := r.lst o h2
  have e3 := DpAll.ints q3
  subst e3
  refine ⟨p, zs.map V.int, q1, .inl q2, by rw [Dp.int_of h1]; rfl, flat_ints zs, ?_⟩
  rw [Dp.int_of h1, if_pos rfl, inV_ints]
  exact k _ H o (Ex.refl _) (.bl _)
/-- data in a list of data -/
theorem o_inD {d : PyData} {ds : List PyData} (r1 : Rdd μ e d) (r2 : Rdd μ e' (.list ds)) (s1 : SeqAt.shaped d = true) (s2 : SeqAt.shaped (.list ds) = true) : OpX C (rInD C.K) M δ μ μ e e' (.d (.bool (ds.any fun z => PyData.eqv z d))) := fun σ H x y o h1 h2 Q k =>
  ⟨d, ds, (r1.dp o h1).w, (r2.dp o h2).w, s1, s2, k _ H o (Ex.refl _) (.bl _)⟩
theorem o_notInD {d : PyData} {ds : List PyData} (r1 : Rdd μ e d) (r2 : Rdd μ e' (.list ds)) (s1 : SeqAt.shaped d = true) (s2 : SeqAt.shaped (.list ds) = true) : OpX C (rNotInD C.K) M δ μ μ e e' (.d (.bool (!ds.any fun z => PyData.eqv z d))) := fun σ H x y o h1 h2 Q k =>
  ⟨d, ds, (r1.dp o h1).w, (r2.dp o h2).w, s1, s2, k _ H o (Ex.refl _) (.bl _)⟩
end
end FD
/-! Small rules: x[i] += e, [..] + [..] as a list of one's own, signs of a text, chained comparisons, upper, `in` a list of data, `is` a bool. -/
namespace FD
open PySem L2 Evl
open PySem.Spec PyProof.Rows PySem.W
/-! ### x[i] of a list, for x[i] += e -/
def rGetL (K : PySem.W.Frag) : V → V → Hp → VK → Prop := fun o i H Q => ∃ p xs k z, o = .ref p ∧ i = .int k ∧ SqL K H p xs ∧ 0 ≤ k ∧ xs[k.toNat]? = some z ∧ Q z H
theorem get_list {X : Cx} : PGet X (rGetL X.K) := by
  intro pins s σ H o i ov iv Q I ro ri h
  obtain ⟨p, xs, k, z, rfl, rfl, hq, h0, hz, q⟩ := h
  cases ro
  obtain ⟨t, rfl⟩ := ri
  obtain ⟨its, r, pl, sz⟩ := I.list hq
  obtain ⟨w, ew, rw'⟩ := r.get hz
  have hl := r.length
  have hn := line63
  have hk := (List.getElem?_eq_some_iff.mp hz).1
  exact wpAny_getItem_list pl.isList h0 (by omega) (by simpa using ew) ⟨z, H, I, rw', q⟩
theorem rep_one {α : Type} (x : α) : ∀ n : Nat, (List.replicate n [x]).flatten = List.replicate n x
  | 0 => rfl
  | n + 1 => by rw [List.replicate_succ, List.flatten_cons, rep_one x n, List.replicate_succ]; rfl
section
variable {C : Cfg} {M : List Addr} {δ : List Ent} {μ μ1 μ2 μ3 μ4 : Mem} {ta tb te : TE} {D : Ends} {t2 : TS} {a : Addr} {j k : Nat} {ns : List Int} {m n : Int} {i : Nat} {e : Ent}
theorem r_augL {f : Int → Int → Int} (hx : EvX C ta M δ μ μ1 (.m a)) (hi : EvX C tb M δ μ1 μ2 (.d (.int (k : Nat)))) (h2 : μ2[j]? = some (a, .lst (ns.map .int))) (hk : ns[k]? = some m) (he : EvX C te M δ μ2 μ3 (.d (.int n))) (h3 : μ3[j]? = some (a, .lst (ns.map .int)))
    (kk : Nx C D M δ (μ3.set j (a, .lst ((ns.set k (f m n)).map .int)))) : Run C (tAugS ta tb te (rGetL C.K) (ipI f) rSetL) D M δ μ := fun σ H o => hx σ H o _ fun v H1 o1 x1 r1 => by
  have e1 : v = .ref a := r1
  subst e1
  refine hi σ H1 o1 _ fun w H2 o2 x2 r2 => ?_
  obtain ⟨_, _, vs, q1, q2⟩ := o2.mem _ (List.mem_of_getElem? h2)
  have ev := DpAll.ints q2
  subst ev
  have w1 := Dp.int_of r2
  refine ⟨a, _, (k : Nat), .int m, rfl, w1, SqL.of q1, by omega, by rw [Int.toNat_natCast, List.getElem?_map, hk]; rfl, ?_⟩
  refine he σ H2 o2 _ fun u H3 o3 x3 r3 => ?_
  refine ⟨m, n, rfl, Dp.int_of r3, ?_⟩
  obtain ⟨_, _, vs3, q3, q4⟩ := o3.mem _ (List.mem_of_getElem? h3)
  have ev := DpAll.ints q4
  subst ev
  have hl := (List.getElem?_eq_some_iff.mp hk).1
  refine ⟨a, _, (k : Nat), k, rfl, w1, q3, ?_, ?_⟩
  · unfold ixN
    rw [if_pos (by omega), if_pos (by rw [List.length_map]; omega), Int.toNat_natCast]
  · have e4 : (ns.map V.int).set k (V.int (f m n)) = (ns.set k (f m n)).map V.int := by rw [List.map_set]
    rw [e4]
    exact kk σ _ (o3.write h3 ⟨_, upd_same, DpAll.of_ints _⟩)
/-- [z] * n, data -/
theorem x_rep0 {z : Int} {n : Nat} (h : ∀ M' μ', EvX C tb M' δ μ' μ' (.d (.int (n : Int)))) (hn : n ≤ 100000) : EvX C (tOp rRep (tLst (tCons (tC (.int z)) tNil)) tb) M δ μ μ (.d (.list ((List.replicate n z).map .int))) := fun σ H o Q kk => ⟨sz_of (by simp), fun p hp => by
  have o1 : Ok C M δ μ σ (upd H p (.lst [.int z])) := o.grow (Ex.new hp)
  refine h M μ σ _ o1 _ fun v H1 o2 x1 r1 => ?_
  have hpM := o.fresh hp
  have q1 : hide M H1 p = some (.lst [.int z]) := x1 p _ (by rw [hide_out hpM, upd_same])
  refine ⟨p, n, [.int z], rfl, Dp.int_of r1, (hide_some q1).2, by omega, by omega, sz_of (by simp; omega), fun q hq => ?_⟩
  have e2 : (List.replicate ((n : Int)).toNat [V.int z]).flatten = (List.replicate n z).map V.int := by
    rw [Int.toNat_natCast, List.map_replicate]
    exact rep_one _ n
  rw [e2]
  obtain ⟨o3, x3, d3⟩ := o2.lst hq (DpAll.of_ints (K := C.K) (H := hide M H1) (List.replicate n z))
  exact kk _ _ o3 (((hide_ex (Ex.new hp)).trans x1).trans x3) d3⟩
/-- x = list + list, of one's own -/
theorem q_newCat {ds es : List PyData} (ha : EvX C ta M δ μ μ1 (.d (.list ds))) (hb : EvX C tb M δ μ1 μ2 (.d (.list es))) (hz : ds.length + es.length ≤ 100000) (kk : ∀ p, p ∉ M → Run C t2 D (p :: M) (δ.set i (.m p)) ((p, .lst (ds ++ es)) :: μ2)) : Run C (tSeq (tAsg (tOp (rCatL C.K) ta tb) (gName i)) t2) D M δ μ := fun σ H o =>
  ha σ H o _ fun v H1 o1 x1 r1 => hb σ H1 o1 _ fun w H2 o2 x2 r2 => by
    obtain ⟨a, vs, q1, q2, q3⟩ := Dp.lst_of r1
    obtain ⟨b, ws, p1, p2, p3⟩ := Dp.lst_of r2
    have q3' := dpAll_mono x2 _ _ q3
    refine ⟨a, b, vs, ws, q1, p1, ex_l hide_le (ex_l x2 q2), ex_l hide_le p2, by rw [q3.length, p3.length]; exact sz_of hz, fun p hp => ?_⟩
    have pM := o2.fresh hp
    have o3 := o2.new hp (mo := .lst (ds ++ es)) (ho := .lst (vs ++ ws)) ⟨_, upd_same, dpAll_mono (hide_new hp) _ _ (q3'.append p3)⟩
    exact kk p pM _ _ (o3.set i (e := .m p) rfl)
end
/-! ### texts -/
def signs (x : Str) : List PyData := x.cps.toList.map fun c => PyData.str ⟨#[c]⟩
section
variable {C : Cfg} {M : List Addr} {δ : List Ent} {μ μ1 μ2 μ3 : Mem} {ta tb tc te : TE} {D : Ends} {t2 : TS} {e : Ent} {x : Str} {b : Bool} {i j l : Nat} {tr : TA}
theorem w_str {K : PySem.W.Frag} {Hh : Hp} : WalkD K (Its x) Hh (signs x) where
  go := fun M i H hi _ _ => by
    have : i < x.cps.size := by unfold signs at hi; rw [List.length_map, Array.length_toList] at hi; exact hi
    exact this
  stop := fun M H _ _ => by
    show x.cps.size ≤ _
    unfold signs
    rw [List.length_map, Array.length_toList]
    exact Nat.le_refl _
  yld := fun M i H v H' hi al ex h => by
    obtain ⟨rfl, c, hc, rfl⟩ := h
    refine ⟨Ex.refl _, .str ⟨#[c]⟩, ?_, .str _⟩
    unfold signs
    rw [List.getElem?_map, Array.getElem?_toList, hc]; rfl
theorem i_str (h : EvX C te M δ μ μ1 (.d (.str x))) : EvI C (iStr te) M δ μ μ1 (signs x) := fun σ H o R k => h σ H o _ fun v H1 o1 x1 r1 => ⟨x, Dp.str_of r1, k _ H1 o1 x1 w_str⟩
theorem o_inSign {c : Nat} : OpX C (fun x y H Q => ∃ (c : Nat) (z : Str), x = .str ⟨#[c]⟩ ∧ y = .str z ∧ Q (.bl (decide (c ∈ z.cps.toList))) H) M δ μ μ (.d (.str ⟨#[c]⟩)) (.d (.str x)) (.d (.bool (decide (c ∈ x.cps.toList)))) := fun σ H u v o h1 h2 Q k => ⟨c, x, Dp.str_of h1, Dp.str_of h2, k _ H o (Ex.refl _) (.bl _)⟩
/-- a <= b <= c of ints -/
theorem x_chainI {g g' : Int → Int → Bool} {m n k : Int} (ha : EvX C ta M δ μ μ (.d (.int m))) (hb : EvX C tb M δ μ μ (.d (.int n))) (hc : EvX C tc M δ μ μ (.d (.int k))) : EvX C (tChain (rI0 fun i j => .bl (g i j)) (rI0 fun i j => .bl (g' i j)) ta tb tc) M δ μ μ (.d (.bool (g m n && g' n k))) := fun σ H o Q kk =>
  ha σ H o _ fun u H1 o1 x1 r1 => hb σ H1 o1 _ fun v H2 o2 x2 r2 => ⟨m, n, Dp.int_of r1, Dp.int_of r2, g m n, rfl, by
    cases h : g m n with
    | true =>
      rw [if_pos rfl]
      exact hc σ H2 o2 _ fun w H3 o3 x3 r3 => ⟨n, k, Dp.int_of r2, Dp.int_of r3, kk _ H3 o3 ((x1.trans x2).trans x3) (by rw [h]; exact .bl _)⟩
    | false =>
      rw [if_neg (by decide)]
      exact kk _ H2 o2 (x1.trans x2) (by rw [h]; exact .bl _)⟩
theorem x_upper (h : EvX C te M δ μ μ1 (.d (.str x))) (hz : x.length ≤ 5592405) : EvX C (tM0 (fun x xs H Q => ∃ a, x = .str a ∧ xs = [] ∧ a.length ≤ 5592405 ∧ Q (.str (Txt.upper a)) H) te) M δ μ μ1 (.d (.str (Txt.upper x))) := fun σ H o Q k => h σ H o _ fun v H1 o1 x1 r1 => ⟨⟨x, Dp.str_of r1⟩, x, Dp.str_of r1, rfl, hz, k _ H1 o1 x1 (.str _)⟩
theorem o_inDd {d : PyData} {ds : List PyData} {e' : Ent} (r1 : Rdd μ e d) (r2 : Rdd μ e' (.list ds)) (s1 : SeqAt.shaped d = true) (s2 : SeqAt.shaped (.list ds) = true) : OpX C (rInD C.K) M δ μ μ e e' (.d (.bool (ds.any fun z => PyData.eqv z d))) := fun σ H x y o h1 h2 Q k =>
  ⟨d, ds, (r1.dp o h1).w, (r2.dp o h2).w, s1, s2, k _ H o (Ex.refl _) (.bl _)⟩
theorem o_isB {b c : Bool} : OpX C rIsB M δ μ μ (.d (.bool b)) (.d (.bool c)) (.d (.bool (decide (b = c)))) := fun σ H x y o h1 h2 Q k => ⟨b, c, Dp.bool_of h1, Dp.bool_of h2, k _ H o (Ex.refl _) (.bl _)⟩
theorem o_notIsB {b c : Bool} : OpX C rNotB M δ μ μ (.d (.bool b)) (.d (.bool c)) (.d (.bool (!decide (b = c)))) := fun σ H x y o h1 h2 Q k => ⟨b, c, Dp.bool_of h1, Dp.bool_of h2, k _ H o (Ex.refl _) (.bl _)⟩
/-! ### list(..) as data; three values at once -/
theorem c_listTd {ds : List PyData} : CallX C (rListOf C.K) M δ μ μ [.d (.tuple ds)] (.d (.list ds)) := fun σ H vs o h Q k => by
  obtain ⟨v, rfl, q⟩ := p1 h
  obtain ⟨a, ws, q1, q2, q3⟩ := Dp.tup_of q
  refine ⟨a, ws, by rw [q1], .inr (ex_t hide_le q2), fun l hl => ?_⟩
  obtain ⟨o', x', d'⟩ := o.lst hl q3
  exact k _ _ o' x' d'
theorem c_listLd {ds : List PyData} (r : Rdd μ e (.list ds)) : CallX C (rListOf C.K) M δ μ μ [e] (.d (.list ds)) := fun σ H vs o h Q k => by
  obtain ⟨v, rfl, q⟩ := p1 h
  obtain ⟨a, ws, q1, q2, q3⟩ := r.lst o q
  refine ⟨a, ws, by rw [q1], .inl q2, fun l hl => ?_⟩
  obtain ⟨o', x', d'⟩ := o.lst hl q3
  exact k _ _ o' x' d'
theorem c_tupleTd {ds : List PyData} : CallX C (rTupleS C.K) M δ μ μ [.d (.tuple ds)] (.d (.tuple ds)) := fun σ H vs o h Q k => by
  obtain ⟨v, rfl, q⟩ := p1 h
  obtain ⟨a, ws, q1, q2, q3⟩ := Dp.tup_of q
  refine ⟨a, ws, by rw [q1], .inr ⟨ex_t hide_le q2, ?_⟩⟩
  refine k _ H o (Ex.refl _) ?_
  rw [← q1]; exact q
theorem q_par3 {e1 e2 e3 : Ent} (h : EvA C tr M δ μ μ1 [e1, e2, e3]) (k : Run C t2 D M (((δ.set i e1).set j e2).set l e3) μ1) : Run C (tSeq (tPar3 i j l tr) t2) D M δ μ := fun σ H o =>
  h σ H o _ fun vs H1 o1 x1 r1 => by
    cases r1 with
    | cons h1 r1 =>
      cases r1 with
      | cons h2 r1 =>
        cases r1 with
        | cons h3 r1 =>
          cases r1
          exact ⟨_, _, _, rfl, k _ H1 (((o1.set i h1).set j h2).set l h3)⟩
end
end FD
/-! small rules that laws share: joins behind an if, targets of three and four, defs without a return -/
namespace FD
open PySem L2 Evl
section
variable {C : Cfg} {M : List Addr} {δ δ' : List Ent} {μ μ' μ'' μ1 μ2 : Mem} {t u : TT} {t1 t2 t3 : TS} {D : Ends} {b c : Bool} {te : TE} {g : TG} {d : PyData} {i j k l : Nat}
theorem q_ifJ (δ' : List Ent) (μ'' : Mem) (h : EvT C t M δ μ μ' b) (h1 : b = true → ∀ D', Nx C D' M δ' μ'' → Run C t1 D' M δ μ') (h2 : b = false → ∀ D', Nx C D' M δ' μ'' → Run C t2 D' M δ μ') (k : Run C t3 D M δ' μ'') : Run C (tSeq (tIfS t t1 t2) t3) D M δ μ :=
  q_if h (fun hb => h1 hb { D with nx := t3 D } k) (fun hb => h2 hb { D with nx := t3 D } k)
theorem nx_to {δ1 : List Ent} {μ1 : Mem} (k : Nx C D M δ1 μ1) (e1 : δ = δ1) (e2 : μ = μ1) : Nx C D M δ μ := by rw [e1, e2]; exact k
theorem q_asgG {tl : List Nat} (h : EvX C te M δ μ μ' (.d d)) (tg : TgX C.K g tl d δ δ') (k : Run C t2 D M δ' μ') : Run C (tSeq (tAsg te g) t2) D M δ μ := fun σ H o =>
  h σ H o _ fun v H' o' x r => tg C M μ' σ H' v rfl o' r _ fun σ' o2 _ _ => k σ' H' o2
theorem q_whenJ (J : List Ent → Mem → Prop) (h : EvT C t M δ μ μ' b) (h1 : b = true → ∀ D', (∀ δ1 μ1, J δ1 μ1 → Nx C D' M δ1 μ1) → Run C t1 D' M δ μ') (h2 : b = false → J δ μ') (k : ∀ δ1 μ1, J δ1 μ1 → Run C t3 D M δ1 μ1) : Run C (tSeq (tIfS t t1 tNext) t3) D M δ μ :=
  q_when h (fun hb => h1 hb { D with nx := t3 D } k) (fun hb => k _ _ (h2 hb))
theorem q_ifJ2 (J : List Ent → Mem → Prop) (h : EvT C t M δ μ μ' b) (h1 : b = true → ∀ D', (∀ δ1 μ1, J δ1 μ1 → Nx C D' M δ1 μ1) → Run C t1 D' M δ μ') (h2 : b = false → ∀ D', (∀ δ1 μ1, J δ1 μ1 → Nx C D' M δ1 μ1) → Run C t2 D' M δ μ') (k : ∀ δ1 μ1, J δ1 μ1 → Run C t3 D M δ1 μ1) : Run C (tSeq (tIfS t t1 t2) t3) D M δ μ :=
  q_if h (fun hb => h1 hb { D with nx := t3 D } k) (fun hb => h2 hb { D with nx := t3 D } k)
/-- a test that is false: the suite is not gone through -/
theorem q_no (h : EvT C t M δ μ μ' false) (k : Run C t3 D M δ μ') : Run C (tSeq (tIfS t t1 tNext) t3) D M δ μ := q_when h (fun z => nomatch z) fun _ => k
theorem r_no (h : EvT C t M δ μ μ' false) (k : Nx C D M δ μ') : Run C (tIfS t t1 tNext) D M δ μ := r_if h (fun z => nomatch z) fun _ => r_next k
theorem t_orF (h1 : EvT C t M δ μ μ1 false) (h2 : EvT C u M δ μ1 μ2 false) : EvT C (tOr t u) M δ μ μ2 false := t_or (b := false) (c := false) h1 (fun _ => h2) fun z => nomatch z
theorem t_notT (h : EvT C t M δ μ μ1 true) : EvT C (tNot t) M δ μ μ1 false := t_not h
theorem t_andT (h1 : EvT C t M δ μ μ1 true) (h2 : EvT C u M δ μ1 μ2 true) : EvT C (tAnd t u) M δ μ μ2 true := t_and (b := true) (c := true) h1 (fun _ => h2) fun z => nomatch z
theorem x_andT {ta tb : TE} (h1 : EvX C ta M δ μ μ1 (.d (.bool true))) (h2 : EvX C tb M δ μ1 μ2 (.d (.bool c))) : EvX C (tAndV ta tb) M δ μ μ2 (.d (.bool c)) := x_andV (b := true) h1 (fun _ => h2) fun z => nomatch z
theorem tg_tup3 {K : PySem.W.Frag} {d1 d2 d3 : PyData} : TgX K (gTup K 3 (gCons (gName i) (gCons (gName j) (gCons (gName k) gNil)))) [i, j, k] (.tuple [d1, d2, d3]) δ (((δ.set i (.d d1)).set j (.d d2)).set k (.d d3)) := fun C M μ σ H v hK o h Q kk => by
  subst hK
  obtain ⟨a, vs, q1, q2, q3⟩ := Dp.tup_of h
  rcases q3 with _ | ⟨h1, q3⟩
  rcases q3 with _ | ⟨h2, q3⟩
  rcases q3 with _ | ⟨h3, q3⟩
  cases q3
  refine ⟨a, _, q1, ex_t hide_le q2, rfl, _, _, rfl, _, _, rfl, _, _, rfl, rfl, ?_⟩
  refine kk _ (((o.set i (e := .d d1) h1).set j (e := .d d2) h2).set k (e := .d d3) h3) (by simp only [List.length_set]) fun m hm => ?_
  rw [List.getElem?_set_ne (fun z => hm (by simp [z])), List.getElem?_set_ne (fun z => hm (by simp [z])), List.getElem?_set_ne (fun z => hm (by simp [z]))]
theorem tg_tup4 {K : PySem.W.Frag} {d1 d2 d3 d4 : PyData} : TgX K (gTup K 4 (gCons (gName i) (gCons (gName j) (gCons (gName k) (gCons (gName l) gNil))))) [i, j, k, l] (.tuple [d1, d2, d3, d4]) δ ((((δ.set i (.d d1)).set j (.d d2)).set k (.d d3)).set l (.d d4)) := fun C M μ σ H v hK o h Q kk => by
  subst hK
  obtain ⟨a, vs, q1, q2, q3⟩ := Dp.tup_of h
  rcases q3 with _ | ⟨h1, q3⟩
  rcases q3 with _ | ⟨h2, q3⟩
  rcases q3 with _ | ⟨h3, q3⟩
  rcases q3 with _ | ⟨h4, q3⟩
  cases q3
  refine ⟨a, _, q1, ex_t hide_le q2, rfl, _, _, rfl, _, _, rfl, _, _, rfl, _, _, rfl, rfl, ?_⟩
  refine kk _ ((((o.set i (e := .d d1) h1).set j (e := .d d2) h2).set k (e := .d d3) h3).set l (e := .d d4) h4) (by simp only [List.length_set]) fun m hm => ?_
  rw [List.getElem?_set_ne (fun z => hm (by simp [z])), List.getElem?_set_ne (fun z => hm (by simp [z])), List.getElem?_set_ne (fun z => hm (by simp [z])), List.getElem?_set_ne (fun z => hm (by simp [z]))]
end
section
variable {P : Program} {w : World} {K : PySem.W.Frag} {mg : Str → Option Value} {base : Heap}
/-- a def that may come to its end without a return -/
theorem def_En {x qual : Str} {st : Stmt} {f : Addr} {fd : FuncData} {N ps : List Str} {k n : Nat} {R : List Ent → Mem → PyData → Mem → Prop} (F : Fun K x qual st f fd) (S : FnScope N ps (defScope st)) (hN : ps.length ≤ N.length) (hp : ps.length = n)
    (h : ∀ (cdv : Value) (A : Around) (outer : List Env) (s : Shared) (H : Hp) (E : XK), Room k (A.deeper (PyProof.Rows.envOfC qual (defScope st) s.heap.objs.size f cdv)) →
      ∃ t, PSs (cxOf CX0 P w K mg base N qual (defScope st) f cdv A outer s H E).nox (defBody st) t ∧
        ∀ (M : List Addr) (G B : Hp) (es : List Ent) (μ : Mem) (d : PyData) (μ' : Mem), R es μ d μ' → ∀ D : Ends, (∀ σ H, D.rt .non H → D.nx σ H) → FinE ⟨K, M, G, B⟩ D d μ' → Run ⟨K, M, G, B⟩ t D M (startE N.length es.length es) μ) :
    FnOk P w K mg base CX0 (k + 1) f fd ps (spE K n R) := by
  refine F.ok S (fun vs H Q E hs => hs.1.trans hp.symm) fun cdv A outer s H vs Q E hr hs => ?_
  obtain ⟨hn, M, es, μ, d, μ', al, he, hm, nd, had, hR, kk⟩ := hs
  obtain ⟨t, ht, run⟩ := h cdv A outer s H E hr
  refine ⟨t, ht, run M (hide (ad μ) H) (hide M H) es μ d μ' hR _ (fun _ _ q => q) (fun v M' H' e s m r => kk v H' e (fun p hp => (m p hp).mono (hide_sub s) fun _ q => q) (dp_mono (hide_sub s) _ _ r)) _ _ (ok_startE al he hm nd (by rw [hn, ← hp]; exact hN))⟩
theorem nx_endE {C : Cfg} {M : List Addr} {δ : List Ent} {μ μ' : Mem} {D : Ends} (hn : ∀ σ H, D.rt .non H → D.nx σ H) (fin : FinE C D .none μ') (hs : ∀ p ∈ μ', p ∈ μ) : Nx C D M δ μ := fun σ H o => hn σ H (fin .non M H o.gr o.sub (fun p hp => (o.mem p (hs p hp)).2.2) .non)
end
end FD
/-! Ranks of stages: the plain law. -/
namespace RK
variable {σ : Type} [DecidableEq σ]
abbrev Tab (σ : Type) := List (σ × Int)
def val (T : Tab σ) (s : σ) : Option Int := (T.find? fun p => decide (p.1 = s)).map (·.2)
def has (T : Tab σ) (s : σ) : Bool := (val T s).isSome
def allIn (T : Tab σ) (ps : List σ) : Bool := ps.all (has T)
def sumV (T : Tab σ) (ps : List σ) : Int := (ps.map fun p => (val T p).getD 0).sum
def lrStep (T : Tab σ) (best : Option Int) (ps : List σ) : Option Int :=
  if allIn T ps = true then
    match best with
    | none => some (1 + sumV T ps)
    | some b => if 1 + sumV T ps < b then some (1 + sumV T ps) else some b
  else best
def lr (e : Bool) (lns : List (List σ)) (T : Tab σ) : Option Int := lns.foldl (lrStep T) (if e = true then some 1 else none)
def put (T : Tab σ) (s : σ) (v : Int) : Tab σ := if has T s = true then T.map (fun p => if p.1 = s then (p.1, v) else p) else T ++ [(s, v)]

theorem val_nil (s : σ) : val ([] : Tab σ) s = none := rfl
theorem val_cons (p : σ × Int) (T : Tab σ) (s : σ) : val (p :: T) s = if p.1 = s then some p.2 else val T s := by
  unfold val
  rw [List.find?_cons]
  by_cases h : p.1 = s
  · rw [if_pos h, decide_eq_true h]; rfl
  · rw [if_neg h, decide_eq_false h]
theorem val_mem {T : Tab σ} {s : σ} : (val T s).isSome = true ↔ s ∈ T.map (·.1) := by
  induction T with
  | nil => simp [val_nil]
  | cons p T ih =>
    rw [val_cons, List.map_cons, List.mem_cons]
    by_cases h : p.1 = s
    · simp [h]
    · rw [if_neg h, ih]
      exact ⟨.inr, fun z => z.resolve_left fun q => h q.symm⟩
theorem val_snoc (T : Tab σ) (s j : σ) (v : Int) (h : val T s = none) : val (T ++ [(s, v)]) j = if j = s then some v else val T j := by
  induction T with
  | nil =>
    rw [List.nil_append, val_cons]
    by_cases e : j = s
    · rw [if_pos e, if_pos e.symm]
    · rw [if_neg e, if_neg fun z => e z.symm]
  | cons p T ih =>
    rw [val_cons] at h
    have hp : ¬ p.1 = s := fun z => by rw [if_pos z] at h; cases h
    rw [if_neg hp] at h
    rw [List.cons_append, val_cons, val_cons, ih h]
    by_cases e : p.1 = j
    · rw [if_pos e, if_pos e, if_neg fun z => hp (e.trans z)]
    · rw [if_neg e, if_neg e]
theorem val_map (T : Tab σ) (s j : σ) (v : Int) : val (T.map fun p => if p.1 = s then (p.1, v) else p) j = (val T j).map fun x => if j = s then v else x := by
  induction T with
  | nil => rfl
  | cons p T ih =>
    rw [List.map_cons, val_cons, val_cons, ih]
    by_cases h : p.1 = s
    · rw [if_pos h]
      by_cases e : p.1 = j
      · rw [if_pos e, if_pos e, Option.map_some, if_pos (e.symm.trans h)]
      · rw [if_neg e, if_neg e]
    · rw [if_neg h]
      by_cases e : p.1 = j
      · rw [if_pos e, if_pos e, Option.map_some, if_neg fun z => h (e.trans z)]
      · rw [if_neg e, if_neg e]
theorem val_put (T : Tab σ) (s j : σ) (v : Int) : val (put T s v) j = if j = s then some v else val T j := by
  unfold put has
  by_cases h : (val T s).isSome = true
  · rw [if_pos h, val_map]
    by_cases e : j = s
    · subst e
      obtain ⟨x, hx⟩ := Option.isSome_iff_exists.mp h
      rw [hx]; simp
    · rw [if_neg e]
      cases val T j with
      | none => rfl
      | some x => simp [e]
  · rw [if_neg h]
    refine val_snoc T s j v ?_
    cases q : val T s with
    | none => rfl
    | some x => rw [q] at h; exact absurd rfl h
theorem put_keys (T : Tab σ) (s : σ) (v : Int) : (put T s v).map (·.1) = if has T s = true then T.map (·.1) else T.map (·.1) ++ [s] := by
  unfold put
  by_cases h : has T s = true
  · rw [if_pos h, if_pos h, List.map_map]
    refine List.map_congr_left fun p _ => ?_
    show (if p.1 = s then (p.1, v) else p).1 = p.1
    by_cases e : p.1 = s
    · rw [if_pos e]
    · rw [if_neg e]
  · rw [if_neg h, if_neg h, List.map_append]; rfl

/-! ### what the least rank is -/
theorem lr_mono_fold {T : Tab σ} : ∀ (lns : List (List σ)) (b : Option Int), (lns.foldl (lrStep T) b = none ↔ b = none ∧ ∀ ps ∈ lns, allIn T ps = false) ∧
    ∀ v, lns.foldl (lrStep T) b = some v → (b = some v ∨ ∃ ps ∈ lns, allIn T ps = true ∧ v = 1 + sumV T ps) ∧ (∀ x, b = some x → v ≤ x) ∧ ∀ ps ∈ lns, allIn T ps = true → v ≤ 1 + sumV T ps
  | [], b => ⟨by simp, fun v h => ⟨.inl h, fun x hx => by rw [List.foldl_nil, hx] at h; cases h; exact Int.le_refl _, fun ps hp => absurd hp (by simp)⟩⟩
  | ps :: lns, b => by
    rw [List.foldl_cons]
    obtain ⟨i1, i2⟩ := lr_mono_fold lns (lrStep T b ps)
    by_cases h : allIn T ps = true
    · have hs : ∃ x, lrStep T b ps = some x ∧ (b = some x ∨ x = 1 + sumV T ps) ∧ x ≤ 1 + sumV T ps ∧ ∀ y, b = some y → x ≤ y := by
        unfold lrStep
        rw [if_pos h]
        cases b with
        | none => exact ⟨_, rfl, .inr rfl, Int.le_refl _, fun y hy => by cases hy⟩
        | some z =>
          by_cases q : 1 + sumV T ps < z
          · exact ⟨_, if_pos q, .inr rfl, Int.le_refl _, fun y hy => by cases hy; omega⟩
          · exact ⟨z, if_neg q, .inl rfl, by omega, fun y hy => by cases hy; exact Int.le_refl _⟩
      obtain ⟨x, hx, hx1, hx2, hx3⟩ := hs
      rw [hx] at i1 i2 ⊢
      refine ⟨⟨fun z => absurd (i1.mp z).1 (by simp), fun ⟨_, z⟩ => ?_⟩, fun v hv => ?_⟩
      · rw [z ps (by simp)] at h; cases h
      · obtain ⟨k1, k2, k3⟩ := i2 v hv
        have hvx := k2 x rfl
        refine ⟨?_, fun y hy => Int.le_trans hvx (hx3 y hy), fun q hq ha => ?_⟩
        · rcases k1 with k1 | ⟨q, hq, ha, e⟩
          · cases k1
            rcases hx1 with hx1 | hx1
            · exact .inl hx1
            · exact .inr ⟨ps, by simp, h, hx1⟩
          · exact .inr ⟨q, by simp [hq], ha, e⟩
        · rcases List.mem_cons.mp hq with e | hq
          · rw [e]; exact Int.le_trans hvx hx2
          · exact k3 q hq ha
    · have hs : lrStep T b ps = b := by unfold lrStep; rw [if_neg h]
      have hf : allIn T ps = false := by simpa using h
      rw [hs] at i1 i2 ⊢
      refine ⟨i1.trans ⟨fun ⟨a, c⟩ => ⟨a, fun q hq => ?_⟩, fun ⟨a, c⟩ => ⟨a, fun q hq => c q (by simp [hq])⟩⟩, fun v hv => ?_⟩
      · rcases List.mem_cons.mp hq with e | hq
        · rw [e]; exact hf
        · exact c q hq
      · obtain ⟨k1, k2, k3⟩ := i2 v hv
        refine ⟨?_, k2, fun q hq ha => ?_⟩
        · rcases k1 with k1 | ⟨q, hq, ha, e⟩
          · exact .inl k1
          · exact .inr ⟨q, by simp [hq], ha, e⟩
        · rcases List.mem_cons.mp hq with e | hq
          · rw [e] at ha; rw [ha] at hf; cases hf
          · exact k3 q hq ha
theorem lr_none {e : Bool} {lns : List (List σ)} {T : Tab σ} : lr e lns T = none ↔ e = false ∧ ∀ ps ∈ lns, allIn T ps = false := by
  unfold lr
  rw [(lr_mono_fold lns _).1]
  cases e <;> simp
structure Least (e : Bool) (lns : List (List σ)) (T : Tab σ) (v : Int) : Prop where
  is : (e = true ∧ v = 1) ∨ ∃ ps ∈ lns, allIn T ps = true ∧ v = 1 + sumV T ps
  end_le : e = true → v ≤ 1
  le : ∀ ps ∈ lns, allIn T ps = true → v ≤ 1 + sumV T ps
theorem lr_some {e : Bool} {lns : List (List σ)} {T : Tab σ} {v : Int} (h : lr e lns T = some v) : Least e lns T v := by
  obtain ⟨k1, k2, k3⟩ := (lr_mono_fold lns _).2 v h
  refine ⟨?_, fun he => k2 1 (if_pos he), k3⟩
  rcases k1 with k1 | k1
  · cases e with
    | false => cases k1
    | true => exact .inl ⟨rfl, by cases k1; rfl⟩
  · exact .inr k1
theorem Least.lr {e : Bool} {lns : List (List σ)} {T : Tab σ} {v : Int} (h : Least e lns T v) : RK.lr e lns T = some v := by
  cases q : RK.lr e lns T with
  | none =>
    obtain ⟨h1, h2⟩ := lr_none.mp q
    rcases h.is with ⟨h3, _⟩ | ⟨ps, hp, ha, _⟩
    · rw [h3] at h1; cases h1
    · rw [h2 ps hp] at ha; cases ha
  | some u =>
    have k := lr_some q
    refine congrArg some (Int.le_antisymm ?_ ?_)
    · rcases h.is with ⟨h3, h4⟩ | ⟨ps, hp, ha, h4⟩
      · rw [h4]; exact k.end_le h3
      · rw [h4]; exact k.le ps hp ha
    · rcases k.is with ⟨h3, h4⟩ | ⟨ps, hp, ha, h4⟩
      · rw [h4]; exact h.end_le h3
      · rw [h4]; exact h.le ps hp ha

/-! ### a book of stages -/
structure Bk (σ : Type) where
  S : List σ
  isEnd : σ → Bool
  ln : σ → List (List σ)
def Bk.lr (B : Bk σ) (T : Tab σ) (s : σ) : Option Int := RK.lr (B.isEnd s) (B.ln s) T
structure Bk.Ok (B : Bk σ) : Prop where
  nd : B.S.Nodup
  parts : ∀ s ∈ B.S, ∀ ps ∈ B.ln s, ∀ p ∈ ps, p ∈ B.S
/-- a table that fits all lines -/
structure Fits (B : Bk σ) (T : Tab σ) : Prop where
  keys : ∀ s ∈ T.map (·.1), s ∈ B.S
  pos : ∀ s v, val T s = some v → 1 ≤ v
  val : ∀ s v, val T s = some v → B.lr T s = some v
  rest : ∀ s ∈ B.S, has T s = false → B.isEnd s = false ∧ ∀ ps ∈ B.ln s, allIn T ps = false
theorem has_of {T : Tab σ} {s : σ} {v : Int} (h : val T s = some v) : has T s = true := by unfold has; rw [h]; rfl
theorem has_val {T : Tab σ} {s : σ} (h : has T s = true) : ∃ v, val T s = some v := Option.isSome_iff_exists.mp h
theorem has_mem {T : Tab σ} {s : σ} : has T s = true ↔ s ∈ T.map (·.1) := val_mem
theorem has_false {T : Tab σ} {s : σ} : has T s = false ↔ val T s = none := by
  unfold has
  cases val T s <;> simp
theorem sum_nonneg {T : Tab σ} (pos : ∀ s v, val T s = some v → 1 ≤ v) : ∀ ps : List σ, 0 ≤ sumV T ps
  | [] => by simp [sumV]
  | p :: ps => by
    have ih := sum_nonneg pos ps
    unfold sumV at ih ⊢
    rw [List.map_cons, List.sum_cons]
    cases q : val T p with
    | none => rw [Option.getD_none]; omega
    | some v => rw [Option.getD_some]; have := pos p v q; omega
theorem part_le {T : Tab σ} (pos : ∀ s v, val T s = some v → 1 ≤ v) : ∀ {ps : List σ} {p : σ} {v : Int}, p ∈ ps → val T p = some v → v ≤ sumV T ps
  | q :: ps, p, v, h, hv => by
    have n := sum_nonneg pos ps
    unfold sumV at n ⊢
    rw [List.map_cons, List.sum_cons]
    rcases List.mem_cons.mp h with e | h
    · rw [← e, hv, Option.getD_some]; omega
    · have := part_le pos h hv
      unfold sumV at this
      have : 0 ≤ (val T q).getD 0 := by
        cases z : val T q with
        | none => exact Int.le_refl _
        | some u => rw [Option.getD_some]; have := pos q u z; omega
      omega
theorem sum_le {T U : Tab σ} : ∀ {ps : List σ}, (∀ p ∈ ps, ∀ v, val T p = some v → ∃ u, val U p = some u ∧ u ≤ v) → allIn T ps = true → allIn U ps = true ∧ sumV U ps ≤ sumV T ps
  | [], _, _ => ⟨rfl, Int.le_refl _⟩
  | p :: ps, h, ha => by
    unfold allIn at ha ⊢
    rw [List.all_cons, Bool.and_eq_true] at ha
    obtain ⟨v, hv⟩ := has_val ha.1
    obtain ⟨u, hu, le⟩ := h p (by simp) v hv
    obtain ⟨i1, i2⟩ := sum_le (ps := ps) (fun q hq => h q (by simp [hq])) ha.2
    refine ⟨by rw [List.all_cons, has_of hu, Bool.true_and]; exact i1, ?_⟩
    unfold sumV at i2 ⊢
    rw [List.map_cons, List.sum_cons, List.map_cons, List.sum_cons, hv, hu, Option.getD_some, Option.getD_some]
    omega
/-- lower tables have lower least ranks -/
theorem lr_anti {e : Bool} {lns : List (List σ)} {T U : Tab σ} {v : Int} (h : ∀ p v, val T p = some v → ∃ u, val U p = some u ∧ u ≤ v) (k : RK.lr e lns T = some v) : ∃ u, RK.lr e lns U = some u ∧ u ≤ v := by
  have l := lr_some k
  have ne : RK.lr e lns U ≠ none := fun z => by
    obtain ⟨z1, z2⟩ := lr_none.mp z
    rcases l.is with ⟨he, _⟩ | ⟨ps, hp, ha, _⟩
    · rw [he] at z1; cases z1
    · have := (sum_le (U := U) (fun p _ => h p) ha).1
      rw [z2 ps hp] at this; cases this
  obtain ⟨u, hu⟩ := Option.ne_none_iff_exists'.mp ne
  refine ⟨u, hu, ?_⟩
  have m := lr_some hu
  rcases l.is with ⟨he, e1⟩ | ⟨ps, hp, ha, e1⟩
  · rw [e1]; exact m.end_le he
  · obtain ⟨i1, i2⟩ := sum_le (U := U) (fun p _ => h p) ha
    have := m.le ps hp i1
    omega
theorem fits_le {B : Bk σ} {T U : Tab σ} (fT : Fits B T) (fU : Fits B U) : ∀ (n : Nat) (s : σ) (v : Int), v.toNat ≤ n → val T s = some v → ∃ u, val U s = some u ∧ u ≤ v
  | 0, s, v, hn, hv => by have := fT.pos s v hv; omega
  | n + 1, s, v, hn, hv => by
    have l := lr_some (fT.val s v hv)
    have sS := fT.keys s (val_mem.mp (has_of hv))
    have hU : has U s = true := by
      cases q : has U s with
      | true => rfl
      | false =>
        obtain ⟨q1, q2⟩ := fU.rest s sS q
        rcases l.is with ⟨he, _⟩ | ⟨ps, hp, ha, e1⟩
        · rw [he] at q1; cases q1
        · have := (sum_le (U := U) (fun p hp v' hv' => fits_le fT fU n p v' (by have := part_le fT.pos hp hv'; have := fT.pos p v' hv'; omega) hv') ha).1
          rw [q2 ps hp] at this; cases this
    obtain ⟨u, hu⟩ := has_val hU
    refine ⟨u, hu, ?_⟩
    have m := lr_some (fU.val s u hu)
    rcases l.is with ⟨he, e1⟩ | ⟨ps, hp, ha, e1⟩
    · rw [e1]; exact m.end_le he
    · obtain ⟨i1, i2⟩ := sum_le (U := U) (fun p hp v' hv' => fits_le fT fU n p v' (by have := part_le fT.pos hp hv'; have := fT.pos p v' hv'; omega) hv') ha
      have := m.le ps hp i1
      omega
/-- there is one such table -/
theorem fits_one {B : Bk σ} {T U : Tab σ} (fT : Fits B T) (fU : Fits B U) (s : σ) : val T s = val U s := by
  cases h : val T s with
  | none =>
    cases k : val U s with
    | none => rfl
    | some u =>
      obtain ⟨x, hx, _⟩ := fits_le fU fT _ s u (Nat.le_refl _) k
      rw [h] at hx; cases hx
  | some v =>
    obtain ⟨u, hu, l1⟩ := fits_le fT fU _ s v (Nat.le_refl _) h
    obtain ⟨x, hx, l2⟩ := fits_le fU fT _ s u (Nat.le_refl _) hu
    rw [h] at hx; cases hx
    rw [hu, Int.le_antisymm l2 l1]

/-! ### the rounds -/
structure Go (B : Bk σ) (T : Tab σ) : Prop where
  keys : ∀ s ∈ T.map (·.1), s ∈ B.S
  nd : (T.map (·.1)).Nodup
  pos : ∀ s v, val T s = some v → 1 ≤ v
  lrv : ∀ s v, val T s = some v → ∃ u, B.lr T s = some u ∧ u ≤ v
  max : ∀ s v, val T s = some v → v ≤ 3 ^ T.length
theorem go_nil (B : Bk σ) : Go B [] := ⟨fun s h => absurd h (by simp), List.Pairwise.nil, fun s v h => (nomatch h), fun s v h => (nomatch h), fun s v h => (nomatch h)⟩
/-- one stage's turn -/
def turn (B : Bk σ) (st : Tab σ × Bool) (s : σ) : Tab σ × Bool :=
  match B.lr st.1 s with
  | none => st
  | some v => if has st.1 s = false ∨ v < (val st.1 s).getD 0 then (put st.1 s v, true) else st
theorem turn_put {B : Bk σ} {st : Tab σ × Bool} {s : σ} {v : Int} (h : B.lr st.1 s = some v) (c : has st.1 s = false ∨ v < (val st.1 s).getD 0) : turn B st s = (put st.1 s v, true) := by
  unfold turn
  rw [h]; exact if_pos c
theorem turn_keep {B : Bk σ} {st : Tab σ × Bool} {s : σ} (h : B.lr st.1 s = none ∨ ∃ v, B.lr st.1 s = some v ∧ has st.1 s = true ∧ (val st.1 s).getD 0 ≤ v) : turn B st s = st := by
  unfold turn
  rcases h with h | ⟨v, h, h1, h2⟩
  · rw [h]
  · rw [h]
    refine if_neg fun z => ?_
    rcases z with z | z
    · rw [h1] at z; cases z
    · omega
def sumT (T : Tab σ) : Int := (T.map (·.2)).sum
def topM (B : Bk σ) : Nat := B.S.length * 3 ^ B.S.length + 1
def meas (B : Bk σ) (T : Tab σ) : Nat := (B.S.length - T.length) * topM B + (sumT T).toNat
theorem put_len (T : Tab σ) (s : σ) (v : Int) : (put T s v).length = if has T s = true then T.length else T.length + 1 := by
  unfold put
  split
  · rw [List.length_map]
  · rw [List.length_append]; rfl
theorem nd_len : ∀ {l m : List σ}, l.Nodup → (∀ x ∈ l, x ∈ m) → l.length ≤ m.length
  | [], m, _, _ => Nat.zero_le _
  | x :: l, m, nd, h => by
    obtain ⟨n1, n2⟩ := List.nodup_cons.mp nd
    have hx := h x (by simp)
    have : l.length ≤ (m.erase x).length := nd_len n2 fun y hy => (List.mem_erase_of_ne (fun e => n1 (by rw [← e]; exact hy))).mpr (h y (by simp [hy]))
    rw [List.length_erase_of_mem hx] at this
    have := List.length_pos_of_mem hx
    rw [List.length_cons]; omega
theorem Go.few {B : Bk σ} {T : Tab σ} (g : Go B T) : T.length ≤ B.S.length := by
  have := nd_len g.nd g.keys
  rwa [List.length_map] at this
theorem pow_mono {m n : Nat} (h : m ≤ n) : (3 : Int) ^ m ≤ 3 ^ n := by
  induction n with
  | zero => rw [Nat.le_zero.mp h]; exact Int.le_refl _
  | succ n ih =>
    rcases Nat.lt_or_ge n m with q | q
    · rw [Nat.le_antisymm h q]; exact Int.le_refl _
    · have := ih q
      rw [Int.pow_succ]
      have : (0 : Int) < 3 ^ n := Int.pow_pos (by decide)
      omega
theorem sum_bound {T : Tab σ} {M : Int} (h : ∀ s v, val T s = some v → v ≤ M) (h0 : 0 ≤ M) : ∀ ps : List σ, sumV T ps ≤ ps.length * M
  | [] => by simp [sumV]
  | p :: ps => by
    have ih := sum_bound h h0 ps
    unfold sumV at ih ⊢
    rw [List.map_cons, List.sum_cons, List.length_cons]
    have : (val T p).getD 0 ≤ M := by
      cases q : val T p with
      | none => exact h0
      | some v => exact h p v q
    have e : ((ps.length + 1 : Nat) : Int) * M = ps.length * M + M := by
      rw [Int.natCast_add, Int.add_mul]; simp
    omega
/-- what a stored rank does to what stands -/
theorem put_low {B : Bk σ} {T : Tab σ} {s : σ} {v : Int} (c : has T s = false ∨ v < (val T s).getD 0) : ∀ p x, val T p = some x → ∃ u, val (put T s v) p = some u ∧ u ≤ x := fun p x hx => by
  rw [val_put]
  by_cases e : p = s
  · subst e
    rw [if_pos rfl]
    refine ⟨v, rfl, ?_⟩
    rcases c with c | c
    · rw [has_of hx] at c; cases c
    · rw [hx, Option.getD_some] at c; omega
  · rw [if_neg e]; exact ⟨x, hx, Int.le_refl _⟩
theorem go_put {B : Bk σ} {T : Tab σ} {s : σ} {v : Int} (g : Go B T) (hs : s ∈ B.S) (two : ∀ ps ∈ B.ln s, ps.length ≤ 2) (h : B.lr T s = some v) (c : has T s = false ∨ v < (val T s).getD 0) : Go B (put T s v) := by
  have l := lr_some h
  have low := put_low (B := B) c
  have v1 : 1 ≤ v := by
    rcases l.is with ⟨_, e⟩ | ⟨ps, hp, _, e⟩
    · omega
    · have := sum_nonneg g.pos ps; omega
  have hl := put_len T s v
  have p0 : (0 : Int) < 3 ^ T.length := Int.pow_pos (by decide)
  refine ⟨?_, ?_, ?_, ?_, ?_⟩
  · intro x hx
    rw [put_keys] at hx
    split at hx
    · exact g.keys x hx
    · rcases List.mem_append.mp hx with hx | hx
      · exact g.keys x hx
      · rw [List.mem_singleton.mp hx]; exact hs
  · rw [put_keys]
    by_cases q : has T s = true
    · rw [if_pos q]; exact g.nd
    · rw [if_neg q]
      refine List.nodup_append.mpr ⟨g.nd, by simp, fun a ha b hb e => ?_⟩
      rw [List.mem_singleton.mp hb] at e
      exact q (has_mem.mpr (e ▸ ha))
  · intro p x hx
    rw [val_put] at hx
    split at hx
    · cases hx; exact v1
    · exact g.pos p x hx
  · intro p x hx
    rw [val_put] at hx
    by_cases e : p = s
    · subst e
      rw [if_pos rfl] at hx
      cases hx
      exact lr_anti low h
    · rw [if_neg e] at hx
      obtain ⟨u, h1, h2⟩ := g.lrv p x hx
      obtain ⟨u', h3, h4⟩ := lr_anti low h1
      exact ⟨u', h3, Int.le_trans h4 h2⟩
  · intro p x hx
    rw [val_put] at hx
    have up : (3 : Int) ^ T.length ≤ 3 ^ (put T s v).length := pow_mono (by rw [hl]; split <;> omega)
    by_cases e : p = s
    · rw [if_pos e] at hx
      cases hx
      by_cases q : has T s = true
      · obtain ⟨u, hu⟩ := has_val q
        rcases c with c | c
        · rw [q] at c; cases c
        · rw [hu, Option.getD_some] at c
          have := g.max s u hu
          omega
      · rw [hl, if_neg q, Int.pow_succ]
        rcases l.is with ⟨_, e⟩ | ⟨ps, hp, _, e⟩
        · omega
        · have b := sum_bound g.max (Int.le_of_lt p0) ps
          have t := two ps hp
          have : (ps.length : Int) * 3 ^ T.length ≤ 2 * 3 ^ T.length := Int.mul_le_mul_of_nonneg_right (by omega) (Int.le_of_lt p0)
          omega
    · rw [if_neg e] at hx
      exact Int.le_trans (g.max p x hx) up
theorem sumT_put : ∀ {T : Tab σ} {s : σ} {u v : Int}, (T.map (·.1)).Nodup → val T s = some u → sumT (T.map fun p => if p.1 = s then (p.1, v) else p) = sumT T - u + v
  | p :: T, s, u, v, nd, h => by
    rw [List.map_cons] at nd
    obtain ⟨n1, n2⟩ := List.nodup_cons.mp nd
    rw [val_cons] at h
    unfold sumT
    rw [List.map_cons, List.map_cons, List.sum_cons, List.map_cons, List.sum_cons]
    by_cases e : p.1 = s
    · rw [if_pos e] at h
      cases h
      rw [if_pos e]
      have : (T.map fun q => if q.1 = s then (q.1, v) else q) = T := by
        refine (List.map_congr_left fun q hq => ?_).trans (List.map_id _)
        refine if_neg fun z => n1 ?_
        rw [e, ← z]; exact List.mem_map_of_mem hq
      rw [this]
      show v + _ = _
      omega
    · rw [if_neg e] at h
      rw [if_neg e]
      have := sumT_put (v := v) n2 h
      unfold sumT at this
      rw [this]; omega
theorem sumT_snoc (T : Tab σ) (s : σ) (v : Int) : sumT (T ++ [(s, v)]) = sumT T + v := by
  unfold sumT
  rw [List.map_append, List.sum_append]; simp
theorem sumT_nonneg {T : Tab σ} (h : ∀ p ∈ T, 1 ≤ p.2) : 0 ≤ sumT T := by
  induction T with
  | nil => exact Int.le_refl _
  | cons p T ih =>
    have := ih fun q hq => h q (by simp [hq])
    have := h p (by simp)
    unfold sumT at *
    rw [List.map_cons, List.sum_cons]; omega
theorem val_of_mem : ∀ {T : Tab σ}, (T.map (·.1)).Nodup → ∀ p ∈ T, val T p.1 = some p.2
  | q :: T, nd, p, hp => by
    rw [List.map_cons] at nd
    obtain ⟨n1, n2⟩ := List.nodup_cons.mp nd
    rw [val_cons]
    rcases List.mem_cons.mp hp with e | hp
    · rw [e, if_pos rfl]
    · rw [if_neg fun z => n1 (by rw [z]; exact List.mem_map_of_mem hp)]
      exact val_of_mem n2 p hp
theorem sumT_le {T : Tab σ} {M : Int} (h : ∀ p ∈ T, p.2 ≤ M) : sumT T ≤ T.length * M := by
  induction T with
  | nil => simp [sumT]
  | cons p T ih =>
    have := ih fun q hq => h q (by simp [hq])
    have := h p (by simp)
    unfold sumT at *
    rw [List.map_cons, List.sum_cons, List.length_cons]
    have e : ((T.length + 1 : Nat) : Int) * M = T.length * M + M := by
      rw [Int.natCast_add, Int.add_mul]; simp
    omega
theorem Go.sum {B : Bk σ} {T : Tab σ} (g : Go B T) : 0 ≤ sumT T ∧ sumT T < topM B := by
  have few := g.few
  refine ⟨sumT_nonneg fun p hp => g.pos _ _ (val_of_mem g.nd p hp), ?_⟩
  have h1 := sumT_le (M := 3 ^ T.length) fun p hp => g.max _ _ (val_of_mem g.nd p hp)
  have h2 : (T.length : Int) * 3 ^ T.length ≤ B.S.length * 3 ^ B.S.length :=
    Int.le_trans (Int.mul_le_mul_of_nonneg_left (pow_mono few) (by omega)) (Int.mul_le_mul_of_nonneg_right (by omega) (Int.le_of_lt (Int.pow_pos (by decide))))
  have e : ((topM B : Nat) : Int) = B.S.length * 3 ^ B.S.length + 1 := by unfold topM; simp
  omega
theorem meas_put {B : Bk σ} {T : Tab σ} {s : σ} {v : Int} (g : Go B T) (g' : Go B (put T s v)) (c : has T s = false ∨ v < (val T s).getD 0) : meas B (put T s v) < meas B T := by
  have few := g'.few
  have s0 := g.sum
  have s1 := g'.sum
  unfold meas
  have hl := put_len T s v
  by_cases q : has T s = true
  · rw [if_pos q] at hl
    obtain ⟨u, hu⟩ := has_val q
    rcases c with c | c
    · rw [q] at c; cases c
    · rw [hu, Option.getD_some] at c
      have : sumT (put T s v) = sumT T - u + v := by
        unfold put
        rw [if_pos q]; exact sumT_put g.nd hu
      rw [hl]; omega
  · rw [if_neg q] at hl
    rw [hl] at few ⊢
    have : B.S.length - T.length = (B.S.length - (T.length + 1)) + 1 := by omega
    rw [this, Nat.add_mul]
    omega
/-- a round through some stages -/
def round (B : Bk σ) (T : Tab σ) (l : List σ) : Tab σ × Bool := l.foldl (turn B) (T, false)
structure Rd (B : Bk σ) (T : Tab σ) (l : List σ) (st : Tab σ × Bool) : Prop where
  go : Go B st.1
  less : st.2 = true → meas B st.1 < meas B T
  same : st.2 = false → st.1 = T ∧ ∀ s ∈ l, B.lr T s = none ∨ ∃ v, B.lr T s = some v ∧ has T s = true ∧ (val T s).getD 0 ≤ v
theorem rd_nil {B : Bk σ} {T : Tab σ} (g : Go B T) : Rd B T [] (T, false) := ⟨g, fun h => (nomatch h), fun _ => ⟨rfl, fun s h => absurd h (by simp)⟩⟩
theorem rd_turn {B : Bk σ} {T : Tab σ} {l : List σ} {st : Tab σ × Bool} {s : σ} (r : Rd B T l st) (hs : s ∈ B.S) (two : ∀ ps ∈ B.ln s, ps.length ≤ 2) : Rd B T (l ++ [s]) (turn B st s) := by
  have keep : (B.lr st.1 s = none ∨ ∃ v, B.lr st.1 s = some v ∧ has st.1 s = true ∧ (val st.1 s).getD 0 ≤ v) → Rd B T (l ++ [s]) (turn B st s) := fun h => by
    rw [turn_keep h]
    refine ⟨r.go, r.less, fun z => ?_⟩
    obtain ⟨z1, z2⟩ := r.same z
    refine ⟨z1, fun x hx => ?_⟩
    rcases List.mem_append.mp hx with hx | hx
    · exact z2 x hx
    · rw [List.mem_singleton.mp hx, ← z1]; exact h
  cases q : B.lr st.1 s with
  | none => exact keep (.inl q)
  | some v =>
    by_cases c : has st.1 s = false ∨ v < (val st.1 s).getD 0
    · rw [turn_put q c]
      have g' := go_put r.go hs two q c
      have m := meas_put r.go g' c
      refine ⟨g', fun _ => ?_, fun z => nomatch z⟩
      cases z : st.2 with
      | true => exact Nat.lt_trans m (r.less z)
      | false => rw [← (r.same z).1]; exact m
    · refine keep (.inr ⟨v, q, ?_, ?_⟩)
      · cases z : has st.1 s with
        | true => rfl
        | false => exact absurd (.inl z) c
      · exact Int.not_lt.mp fun z => c (.inr z)
/-- a round that changes nothing: the table fits -/
theorem go_fits {B : Bk σ} {T : Tab σ} (g : Go B T) (h : ∀ s ∈ B.S, B.lr T s = none ∨ ∃ v, B.lr T s = some v ∧ has T s = true ∧ (val T s).getD 0 ≤ v) : Fits B T where
  keys := g.keys
  pos := g.pos
  val := fun s v hv => by
    obtain ⟨u, h1, h2⟩ := g.lrv s v hv
    rcases h s (g.keys s (val_mem.mp (has_of hv))) with z | ⟨x, z1, z2, z3⟩
    · rw [h1] at z; cases z
    · rw [h1] at z1
      cases z1
      rw [hv, Option.getD_some] at z3
      rw [h1, Int.le_antisymm h2 z3]
  rest := fun s hs q => by
    rcases h s hs with z | ⟨x, z1, z2, z3⟩
    · exact lr_none.mp z
    · rw [q] at z2; cases z2
end RK
namespace FD
open PySem L2 Evl
theorem eqv_str (i j : Str) : PyData.eqv (.str i) (.str j) = (i == j) := by simp [PyData.eqv]
theorem eqv_key (a b : Key) : PyData.eqv (kyD a) (kyD b) = decide (a = b) := by
  cases a <;> cases b
  · rw [kyD, kyD, eqv_int, key_ll]
  · rw [key_lr]; simp [kyD, PyData.eqv]
  · rw [key_rl]; simp [kyD, PyData.eqv]
  · rw [kyD, kyD, eqv_str, key_rr]; rename_i x y
    by_cases e : x = y
    · subst e; simp
    · simp [e]
theorem eqv_keys : ∀ a b : List Key, PyData.eqvAll (a.map kyD) (b.map kyD) = decide (a = b)
  | [], [] => by simp [PyData.eqvAll]
  | [], _ :: _ => by simp [PyData.eqvAll]
  | _ :: _, [] => by simp [PyData.eqvAll]
  | x :: a, y :: b => by
    have ih := eqv_keys a b
    have h := eqv_key x y
    simp only [List.map_cons, PyData.eqvAll, h, ih]
    by_cases e : x = y
    · subst e; simp
    · simp [e]
theorem eqv_row (a b : List Key) : PyData.eqv (rowK a) (rowK b) = decide (a = b) := by
  have := eqv_keys a b
  simpa [rowK, PyData.eqv] using this
theorem eqv_rows : ∀ a b : List (List Key), PyData.eqvAll (a.map rowK) (b.map rowK) = decide (a = b)
  | [], [] => by simp [PyData.eqvAll]
  | [], _ :: _ => by simp [PyData.eqvAll]
  | _ :: _, [] => by simp [PyData.eqvAll]
  | x :: a, y :: b => by
    have ih := eqv_rows a b
    have h := eqv_row x y
    simp only [List.map_cons, PyData.eqvAll, h, ih]
    by_cases e : x = y
    · subst e; simp
    · simp [e]
def tok (x : Str) : Prop := PyData.canLay0 (.str x) = true
def tokK : Key → Prop
  | .inl _ => True
  | .inr x => tok x
theorem shp_str (n : Nat) {x : Str} (h : tok x) : Shp n (.str x) := ⟨h, by simp [PyData.depth]⟩
theorem sh_str {x : Str} (h : tok x) : SeqAt.shaped (.str x) = true := (shp_str 0 h).shaped (by decide)
theorem shp_row (n : Nat) {k : List Key} (h : ∀ x ∈ k, tokK x) : Shp (n + 1) (rowK k) := shp_tuple fun d hd => by
  obtain ⟨x, hx, rfl⟩ := List.mem_map.mp hd
  have := h x hx
  cases x with
  | inl i => exact shp_int n i
  | inr x => exact shp_str n this
theorem eqv_self : ∀ d : PyData, PyData.eqv d d = true → True := fun _ _ => trivial
end FD
namespace K09
open PySem L2 FD Evl
def top (i : Nat) : Stmt := PySem.Challenge.pw_stillowed_k34_looks_by_a_dealing.main.body.getD i (.Pass ⟨0, 0, 0, 0⟩)
abbrev sIi : Stmt := top 8
abbrev sIu : Stmt := top 9
abbrev sIl : Stmt := top 10
abbrev sIn : Stmt := top 11
abbrev sIs : Stmt := top 17
abbrev sIo : Stmt := top 18
abbrev sCc : Stmt := top 19
abbrev sCt : Stmt := top 20
abbrev sBi : Stmt := inClass (top 21) 0
abbrev sBs : Stmt := inClass (top 21) 6
abbrev sBe : Stmt := inClass (top 21) 8
abbrev sBf : Stmt := inClass (top 21) 9
abbrev sFf : Stmt := top 23
abbrev sWi : Stmt := top 24
abbrev sNd : Stmt := top 26
abbrev sPa : Stmt := top 27
abbrev sWb : Stmt := top 28
abbrev sPo : Stmt := top 30
abbrev sBr : Stmt := top 32
abbrev sLk : Stmt := top 33
abbrev sBx : Stmt := top 35
abbrev sTk : Stmt := top 36
abbrev sPk : Stmt := top 37
abbrev sNm : Stmt := top 38
abbrev sCo : Stmt := top 39
abbrev sBn : Stmt := top 40
abbrev sNg : Stmt := top 41
abbrev sOf : Stmt := top 42
abbrev sUs : Stmt := top 43
abbrev sLi : Stmt := top 44
abbrev sPt : Stmt := top 45
abbrev sBy : Stmt := top 46
abbrev sMe : Stmt := top 47
abbrev sJo : Stmt := top 48
abbrev sSh : Stmt := top 49
abbrev sRe : Stmt := top 50
abbrev sLo : Stmt := top 51
abbrev sMx : Stmt := top 52
abbrev sBt : Stmt := top 53
abbrev sLw : Stmt := top 54
def letters : Str := "abcdefghijklmnopqrstuvwxyz"
structure Txt (K : PySem.W.Frag) (mg : Str → Option Value) (Cb : Addr) : Prop where
  abs : mg "abs" = none
  all : mg "all" = none
  any : mg "any" = none
  bool : mg "bool" = none
  dict : mg "dict" = none
  enumerate : mg "enumerate" = none
  int : mg "int" = none
  isinstance : mg "isinstance" = none
  len : mg "len" = none
  list : mg "list" = none
  max : mg "max" = none
  min : mg "min" = none
  range : mg "range" = none
  reversed : mg "reversed" = none
  set : mg "set" = none
  sorted : mg "sorted" = none
  str : mg "str" = none
  sum : mg "sum" = none
  tuple : mg "tuple" = none
  zip : mg "zip" = none
  ltr : ∃ t, mg "LETTERS" = some (.str "abcdefghijklmnopqrstuvwxyz" t)
  ln : ∃ t, mg "LONGEST_NAME" = some (.int 5 t)
  mc : ∃ t, mg "MOST_COURSES" = some (.int 8 t)
  ms : ∃ t, mg "MOST_STAGES" = some (.int 20 t)
  mt : ∃ t, mg "MOST_TOGETHER" = some (.int 60 t)
  md : ∃ t, mg "MOST_DEEDS" = some (.int 12 t)
  cl : Cls K Cb
  nC : NoAttr K Cb "courses"
  nB : NoAttr K Cb "by_name"
  nL : NoAttr K Cb "leaving"
  mgC : mg "Book" = some (.ref Cb)
structure Has (K : PySem.W.Frag) (mg : Str → Option Value) (x : Str) (st : Stmt) (ps : List Str) (f : Addr) (fd : FuncData) : Prop where
  F : Fun K x x st f fd
  b : Binds K fd ps []
  m : mg x = some (.ref f)
/-- a method of Book -/
structure HasM (K : PySem.W.Frag) (Cb : Addr) (x q : Str) (st : Stmt) (ps : List Str) (f : Addr) (fd : FuncData) : Prop where
  F : Fun K x q st f fd
  b : Binds K fd ps []
  m : Meth K Cb x f
/-! ### books as data -/
structure Step where
  b : Nat
  call : Bool
  nm : Str
  e : Nat
  deriving DecidableEq
def wh (c : Bool) : Str := if c = true then "call" else "do"
theorem wh_inj {c d : Bool} (h : wh c = wh d) : c = d := by
  cases c <;> cases d <;> first | rfl | exact absurd h (by decide)
def stepK (s : Step) : List Key := [.inl (s.b : Int), .inr (wh s.call), .inr s.nm, .inl (s.e : Int)]
def stepD (s : Step) : PyData := rowK (stepK s)
theorem stepD_eq (s : Step) : stepD s = .tuple [.int (s.b : Int), .str (wh s.call), .str s.nm, .int (s.e : Int)] := rfl
theorem stepK_inj {s t : Step} (h : stepK s = stepK t) : s = t := by
  unfold stepK at h
  injection h with h1 h; injection h with h2 h; injection h with h3 h; injection h with h4 h
  have h1 := Sum.inl.inj h1
  have h2 := wh_inj (Sum.inr.inj h2)
  have h3 := Sum.inr.inj h3
  have h4 := Sum.inl.inj h4
  have h1 : s.b = t.b := by omega
  have h4 : s.e = t.e := by omega
  cases s; cases t
  simp only [Step.mk.injEq]
  exact ⟨h1, h2, h3, h4⟩
structure Crs where
  nm : Str
  n : Nat
  ends : List Nat
  steps : List Step
def endsD (l : List Nat) : PyData := .tuple ((l.map fun i : Nat => (i : Int)).map .int)
def stepsD (l : List Step) : PyData := .tuple (l.map stepD)
def crsD (c : Crs) : PyData := .tuple [.str c.nm, .int (c.n : Int), endsD c.ends, stepsD c.steps]
def bokD (cs : List Crs) : PyData := .tuple (cs.map crsD)
abbrev Stg := Str × Nat
def stK (s : Stg) : List Key := [.inr s.1, .inl (s.2 : Int)]
def stD (s : Stg) : PyData := rowK (stK s)
theorem stD_eq (s : Stg) : stD s = .tuple [.str s.1, .int (s.2 : Int)] := rfl
theorem stK_inj {s t : Stg} (h : stK s = stK t) : s = t := by
  unfold stK at h
  injection h with h1 h; injection h with h2 h
  have h1 := Sum.inr.inj h1
  have h2 := Sum.inl.inj h2
  exact Prod.ext h1 (by omega)
/-- a name -/
structure Nm (x : Str) : Prop where
  pos : 1 ≤ x.length
  small : x.length ≤ 5
  ltr : ∀ c ∈ x.cps.toList, c ∈ letters.cps.toList
structure CrsOk (names : List Str) (c : Crs) : Prop where
  nm : Nm c.nm
  n1 : 1 ≤ c.n
  n2 : c.n ≤ 20
  asc : c.ends.Pairwise (· < ·)
  ends : ∀ e ∈ c.ends, e < c.n
  few : c.steps.length < 64
  nd : c.steps.Nodup
  b : ∀ s ∈ c.steps, s.b < c.n
  e : ∀ s ∈ c.steps, s.e < c.n
  snm : ∀ s ∈ c.steps, Nm s.nm
  calls : ∀ s ∈ c.steps, s.call = true → s.nm ∈ names
structure BokOk (cs : List Crs) : Prop where
  ne : cs ≠ []
  few : cs.length ≤ 8
  nd : (cs.map (·.nm)).Nodup
  ok : ∀ c ∈ cs, CrsOk (cs.map (·.nm)) c
  tot : (cs.map (·.n)).sum ≤ 60
  deeds : ∃ ds : List Str, ds.length ≤ 12 ∧ ∀ c ∈ cs, ∀ s ∈ c.steps, s.call = false → s.nm ∈ ds
theorem asc_few {l : List Nat} {n : Nat} (h : l.Pairwise (· < ·)) (hn : ∀ e ∈ l, e < n) : l.length ≤ n := by
  have := RK.nd_len (l := l) (m := List.range n) (h.imp fun q e => by omega) fun x hx => List.mem_range.mpr (hn x hx)
  rwa [List.length_range] at this
theorem let_small : ∀ c ∈ letters.cps.toList, c < 0x110000 := by decide +kernel
theorem tok_iff {x : Str} : tok x ↔ ∀ c ∈ x.cps.toList, c < 0x110000 := by
  unfold tok
  rw [show PyData.canLay0 (.str x) = x.cps.all (· < 0x110000) by simp [PyData.canLay0, PyData.strOk]]
  rw [← Array.all_toList, List.all_eq_true]
  exact ⟨fun h c hc => of_decide_eq_true (h c hc), fun h c hc => decide_eq_true (h c hc)⟩
theorem Nm.tok {x : Str} (h : Nm x) : tok x := tok_iff.mpr fun c hc => let_small c (h.ltr c hc)
theorem wh_tok (c : Bool) : FD.tok (wh c) := by cases c <;> (unfold FD.tok; decide +kernel)
theorem shp_step (n : Nat) {s : Step} (h : Nm s.nm) : Shp (n + 1) (stepD s) := shp_row n fun x hx => by
  unfold stepK at hx
  simp only [List.mem_cons, List.not_mem_nil, or_false] at hx
  rcases hx with rfl | rfl | rfl | rfl
  · trivial
  · exact wh_tok _
  · exact h.tok
  · trivial
theorem shp_stg (n : Nat) {s : Stg} (h : Nm s.1) : Shp (n + 1) (stD s) := shp_row n fun x hx => by
  unfold stK at hx
  simp only [List.mem_cons, List.not_mem_nil, or_false] at hx
  rcases hx with rfl | rfl
  · exact h.tok
  · trivial
end K09
namespace K09
open PySem L2 FD Evl
def Rii (ds : List PyData) (d : PyData) : Prop := ∃ i : Int, ds = [.int i] ∧ d = .bool true
def Riu (ds : List PyData) (d : PyData) : Prop := ∃ i : Int, ds = [.int i] ∧ d = .bool (decide (0 ≤ i))
def Ril (ds : List PyData) (d : PyData) : Prop := ∃ c : Nat, ds = [.str ⟨#[c]⟩] ∧ d = .bool (decide (c ∈ letters.cps.toList))
def Rin (ds : List PyData) (d : PyData) : Prop := ∃ x, ds = [.str x] ∧ Nm x ∧ d = .bool true
def Ris (ds : List PyData) (d : PyData) : Prop := ∃ (s : Step) (n : Nat), ds = [stepD s, .int (n : Int)] ∧ s.b < n ∧ s.e < n ∧ Nm s.nm ∧ d = .bool true
theorem len_codes (x : Str) : x.length = x.cps.toList.length := by rw [Array.length_toList]; rfl
theorem kit_ii : kitB (tyD (.int 0)) "int" = some true := by decide +kernel
section
variable {P : Program} {w : World} {K : PySem.W.Frag} {mg : Str → Option Value} {base : Heap} {Cb : Addr}
abbrev nIi : List Str := ["value"]
theorem scIi : FnScope nIi ["value"] (defScope sIi) := ⟨rfl, rfl, rfl, by decide +kernel, rfl, by decide +kernel, by decide +kernel⟩
theorem ok_ii {f : Addr} {fd : FuncData} (T : Txt K mg Cb) (F : Fun K "is_integer" "is_integer" sIi f fd) : FnOk P w K mg base CX0 1 f fd ["value"] (spR K 1 Rii) := by
  refine def_R F scIi (by decide) fun cdv A outer s H E hr => ?_
  have nd := scIi.nd
  refine ⟨_, (pss_one (ps_ret (pe_and (pe_callB call_isi (by rfl) T.isinstance (by decide +kernel) (pa_cons (pv 0) (pa_cons (pe_bltn (v := .ty "int") (u := .type "int") (by rfl) T.int (by decide +kernel) rfl) pa_nil))) (pe_one (pe_not (pe_callB call_isi (by rfl) T.isinstance (by decide +kernel) (pa_cons (pv 0) (pa_cons (pe_bltn (v := .ty "bool") (u := .type "bool") (by rfl) T.bool (by decide +kernel) rfl) pa_nil)))))))), ?_⟩
  rintro M G B ds d _ ⟨i, rfl, rfl⟩ D fin
  show Run _ _ D M [.d (.int i)] []
  exact r_retP (x_andT (x_isi (x_vd rfl) (by show kitB "int" "int" = some true; decide +kernel)) (x_is (x_notV (x_isi (b := false) (x_vd rfl) (by show kitB "int" "bool" = some false; decide +kernel))) rfl)) fin
abbrev nIu : List Str := ["value"]
theorem scIu : FnScope nIu ["value"] (defScope sIu) := ⟨rfl, rfl, rfl, by decide +kernel, rfl, by decide +kernel, by decide +kernel⟩
theorem ok_iu {f : Addr} {fd : FuncData} (T : Txt K mg Cb) (F : Fun K "is_number" "is_number" sIu f fd) {f1 : Addr} {fd1 : FuncData} (H1 : Has K mg "is_integer" sIi ["value"] f1 fd1) : FnOk P w K mg base CX0 2 f fd ["value"] (spR K 1 Riu) := by
  have G1 : FnOk P w K mg base CX0 1 f1 fd1 ["value"] (spR K 1 Rii) := ok_ii T H1.F
  refine def_R F scIu (by decide) fun cdv A outer s H E hr => ?_
  have nd := scIu.nd
  refine ⟨_, (pss_one (ps_ret (pe_and (pe_call G1 hr rfl H1.m H1.F.kp H1.b .nil pass0 (pa_cons (pv 0) pa_nil)) (pe_one (pe_cmpR op_ge (pv 0) pe_int (nomark _)))))), ?_⟩
  rintro M G B ds d _ ⟨i, rfl, rfl⟩ D fin
  show Run _ _ D M [.d (.int i)] []
  exact r_retP (x_andT (x_callR (ds := [.int i]) (a_cons (x_vd rfl) a_nil) ⟨i, rfl, rfl⟩) (x_op (x_vd rfl) x_int o_B0)) fin
abbrev nIl : List Str := ["sign"]
theorem scIl : FnScope nIl ["sign"] (defScope sIl) := ⟨rfl, rfl, rfl, by decide +kernel, rfl, by decide +kernel, by decide +kernel⟩
theorem ok_il {f : Addr} {fd : FuncData} (T : Txt K mg Cb) (F : Fun K "is_letter" "is_letter" sIl f fd) : FnOk P w K mg base CX0 1 f fd ["sign"] (spR K 1 Ril) := by
  obtain ⟨tl, hl⟩ := T.ltr
  refine def_R F scIl (by decide) fun cdv A outer s H E hr => ?_
  have nd := scIl.nd
  refine ⟨_, (pss_one (ps_ret (pe_and (pe_cmpR (op_eqD hr.units) (pe_callB call_len_str (by rfl) T.len PySem.boot_len (pa_cons (pv 0) pa_nil)) pe_int (nomark _)) (pe_one (pe_cmpR op_in_sign (pv 0) (pe_glob (v := .str letters) rfl hl ⟨_, rfl⟩) (by with_unfolding_all rfl)))))), ?_⟩
  rintro M G B ds d _ ⟨c, rfl, rfl⟩ D fin
  show Run _ _ D M [.d (.str ⟨#[c]⟩)] []
  refine r_retP (x_is (x_andV (x_op (x_cbP (a_cons (x_vd rfl) a_nil) (c_lenS (by show 1 ≤ 100000; decide))) x_int (o_eqD (.d _) (.d _) ((shp_int 0 _).shaped (by decide)) ((shp_int 0 _).shaped (by decide)))) (fun _ => x_op (x_vd rfl) x_str o_inSign) (fun _ => rfl)) ?_) fin
  rw [eqv_int]
  have e : (⟨#[c]⟩ : Str).length = 1 := rfl
  rw [e]; rfl
abbrev nIn : List Str := ["value", "sign"]
theorem scIn : FnScope nIn ["value"] (defScope sIn) := ⟨rfl, rfl, rfl, by decide +kernel, rfl, by decide +kernel, by decide +kernel⟩
theorem ok_in {f : Addr} {fd : FuncData} (T : Txt K mg Cb) (F : Fun K "is_name" "is_name" sIn f fd) {f1 : Addr} {fd1 : FuncData} (H1 : Has K mg "is_letter" sIl ["sign"] f1 fd1) : FnOk P w K mg base CX0 2 f fd ["value"] (spR K 1 Rin) := by
  have G1 : FnOk P w K mg base CX0 1 f1 fd1 ["sign"] (spR K 1 Ril) := ok_il T H1.F
  obtain ⟨tl, hl⟩ := T.ln
  refine def_R F scIn (by decide) fun cdv A outer s H E hr => ?_
  have nd := scIn.nd
  refine ⟨_, (pss_cons (ps_if (PW.pt (pw_or (pt_not (pt_val (pe_callB call_isi (by rfl) T.isinstance (by decide +kernel) (pa_cons (pv 0) (pa_cons (pe_bltn (v := .ty "str") (u := .type "str") (by rfl) T.str (by decide +kernel) rfl) pa_nil))))) (pw_or1 (pt_not (pt_chain op_le op_le pe_int (pe_callB call_len_str (by rfl) T.len PySem.boot_len (pa_cons (pv 0) pa_nil)) (pe_glob (v := .int 5) rfl hl ⟨_, rfl⟩)))))) (pss_one (ps_ret pe_bl)) pss_nil)
 (pss_one (ps_ret (pe_callB (cr_all rfl) (by rfl) T.all (by decide +kernel) (pa_cons (pe_lc (own := [("sign", 1)]) (g := (gName 1)) (tt := tYes) rfl nd (pi_str (pv 0)) (blkOk_by (N := nIn) (sc := defScope sIn) (by decide +kernel)) (fun _ _ _ _ _ => (pg_name (i := 1) nd rfl (Or.inl rfl))) (fun _ _ _ _ _ => pts_nil) (fun _ _ _ _ _ => (pe_call G1 hr rfl H1.m H1.F.kp H1.b .nil pass0 (pa_cons (pv 1) pa_nil)))) pa_nil))))), ?_⟩
  rintro M G B ds d _ ⟨z, rfl, hz, rfl⟩ D fin
  show Run _ _ D M [.d (.str z), .u] []
  have h1 := hz.pos
  have h2 := hz.small
  refine q_no (t_orF (t_notT (t_B (x_isi (x_vd rfl) (by show kitB "str" "str" = some true; decide +kernel)))) (t_notT (t_test (x_is (x_chainI (m := 1) (n := (z.length : Int)) (k := 5) (g := fun i j => decide (i ≤ j)) (g' := fun i j => decide (i ≤ j)) x_int (x_cbP (a_cons (x_vd rfl) a_nil) (c_lenS (by omega))) x_int) ?_)))) ?_
  · rw [decide_eq_true (by omega), decide_eq_true (by omega)]; rfl
  have sl : (signs z).length = z.cps.toList.length := by unfold signs; rw [List.length_map]
  have zl : z.length = z.cps.toList.length := len_codes z
  refine r_retP (x_is (x_cbP (a_cons (e := .d (.list ((z.cps.toList.map fun _ => true).map .bool))) (x_is (x_lcP (ts := [1]) (fun i => .bool true) (i_str (x_vd rfl)) (by omega) (fun i => [.d (.str z), .d (.str ⟨#[z.cps.toList.getD i 0]⟩)]) (fun i d hd => ?_) (fun k hk => hk) fun i d hd G' B' D' => ?_) ?_) a_nil) (c_all (.d _))) ?_) fin
  · have hil := (List.getElem?_eq_some_iff.mp hd).1
    have e2 : d = .str ⟨#[z.cps.toList.getD i 0]⟩ := by
      unfold signs at hd
      rw [List.getElem?_map, List.getElem?_eq_getElem (by omega)] at hd
      rw [List.getD_eq_getElem?_getD, List.getElem?_eq_getElem (by omega)]
      exact (Option.some.inj hd).symm
    rw [e2]
    exact tg_name
  · have hil := (List.getElem?_eq_some_iff.mp hd).1
    refine x_is (x_callR (ds := [.str ⟨#[z.cps.toList.getD i 0]⟩]) (a_cons (x_vd rfl) a_nil) ⟨_, rfl, rfl⟩) ?_
    rw [decide_eq_true (hz.ltr _ (by rw [List.getD_eq_getElem?_getD, List.getElem?_eq_getElem (by omega)]; exact List.getElem_mem _))]
  · rw [sl]
    congr 2
    rw [List.map_map]
    refine List.ext_getElem? fun j => ?_
    rw [List.getElem?_map, List.getElem?_map]
    by_cases hj : j < z.cps.toList.length
    · rw [List.getElem?_range hj, List.getElem?_eq_getElem hj]; rfl
    · rw [List.getElem?_eq_none (by rw [List.length_range]; omega), List.getElem?_eq_none (by omega)]; rfl
  · rw [show (z.cps.toList.map fun _ => true).all id = true from by rw [List.all_map, List.all_eq_true]; exact fun _ _ => rfl]
abbrev nIs : List Str := ["step", "stages", "begin", "what", "name", "end"]
theorem scIs : FnScope nIs ["step", "stages"] (defScope sIs) := ⟨rfl, rfl, rfl, by decide +kernel, rfl, by decide +kernel, by decide +kernel⟩
theorem ok_is {f : Addr} {fd : FuncData} (T : Txt K mg Cb) (F : Fun K "is_step" "is_step" sIs f fd) {f1 f2 f3 f4 : Addr} {fd1 fd2 fd3 fd4 : FuncData} (H1 : Has K mg "is_number" sIu ["value"] f1 fd1) (H2 : Has K mg "is_name" sIn ["value"] f2 fd2) (H3 : Has K mg "is_integer" sIi ["value"] f3 fd3) (H4 : Has K mg "is_letter" sIl ["sign"] f4 fd4) : FnOk P w K mg base CX0 3 f fd ["step", "stages"] (spR K 2 Ris) := by
  have G1 : FnOk P w K mg base CX0 2 f1 fd1 ["value"] (spR K 1 Riu) := ok_iu T H1.F H3
  have G2 : FnOk P w K mg base CX0 2 f2 fd2 ["value"] (spR K 1 Rin) := ok_in T H2.F H4
  refine def_R F scIs (by decide) fun cdv A outer s H E hr => ?_
  have nd := scIs.nd
  refine ⟨_, (pss_cons (ps_if (PW.pt (pw_or (pt_not (pt_val (pe_callB call_isi (by rfl) T.isinstance (by decide +kernel) (pa_cons (pv 0) (pa_cons (pe_bltn (v := .ty "tuple") (u := .type "tuple") (by rfl) T.tuple (by decide +kernel) rfl) pa_nil))))) (pw_or1 (pt_cmpR (op_neD hr.units) (pe_callB call_len_seq (by rfl) T.len PySem.boot_len (pa_cons (pv 0) pa_nil)) pe_int (nomark _))))) (pss_one (ps_ret pe_bl)) pss_nil)
 (pss_cons (ps_asg (pv 0) (pg_tup rfl (pgs_cons (pg_name (i := 2) nd rfl (Or.inl rfl)) (pgs_cons (pg_name (i := 3) nd rfl (Or.inl rfl)) (pgs_cons (pg_name (i := 4) nd rfl (Or.inl rfl)) (pgs_cons (pg_name (i := 5) nd rfl (Or.inl rfl)) pgs_nil))))))
 (pss_cons (ps_if (PW.pt (pw_or (pt_not (pt_val (pe_call G1 hr rfl H1.m H1.F.kp H1.b .nil pass0 (pa_cons (pv 2) pa_nil)))) (pw_or (pt_not (pt_val (pe_call G1 hr rfl H1.m H1.F.kp H1.b .nil pass0 (pa_cons (pv 5) pa_nil)))) (pw_or (pt_cmpR op_ge (pv 2) (pv 1) (nomark _)) (pw_or1 (pt_cmpR op_ge (pv 5) (pv 1) (nomark _))))))) (pss_one (ps_ret pe_bl)) pss_nil)
 (pss_one (ps_ret (pe_and (pe_callB call_isi (by rfl) T.isinstance (by decide +kernel) (pa_cons (pv 3) (pa_cons (pe_bltn (v := .ty "str") (u := .type "str") (by rfl) T.str (by decide +kernel) rfl) pa_nil))) (pe_and (pe_cmpR op_in_seq (pv 3) (pe_tup (pa_cons pe_str (pa_cons pe_str pa_nil))) (by with_unfolding_all rfl)) (pe_one (pe_call G2 hr rfl H2.m H2.F.kp H2.b .nil pass0 (pa_cons (pv 4) pa_nil)))))))))), ?_⟩
  rintro M G B ds d _ ⟨s, n, rfl, hb, he, hn, rfl⟩ D fin
  show Run _ _ D M [.d (stepD s), .d (.int (n : Int)), .u, .u, .u, .u] []
  rw [stepD_eq]
  refine q_no (t_orF (t_notT (t_B (x_isi (x_vd rfl) (by show kitB "tuple" "tuple" = some true; decide +kernel)))) (t_test (x_is (x_op (x_cbP (a_cons (x_vd rfl) a_nil) c_lenT) x_int (o_neD (.d _) (.d _) ((shp_int 0 _).shaped (by decide)) ((shp_int 0 _).shaped (by decide)))) (by rw [eqv_int]; rfl)))) ?_
  refine q_asgG (x_vd rfl) tg_tup4 ?_
  show Run _ _ D M [.d (.tuple [.int (s.b : Int), .str (wh s.call), .str s.nm, .int (s.e : Int)]), .d (.int (n : Int)), .d (.int (s.b : Int)), .d (.str (wh s.call)), .d (.str s.nm), .d (.int (s.e : Int))] []
  have num : ∀ i : Nat, Riu [.int (i : Int)] (.bool true) := fun i => ⟨i, rfl, by rw [decide_eq_true (by omega)]⟩
  refine q_no (t_orF (t_notT (t_B (x_callR (ds := [.int (s.b : Int)]) (a_cons (x_vd rfl) a_nil) (num _)))) (t_orF (t_notT (t_B (x_callR (ds := [.int (s.e : Int)]) (a_cons (x_vd rfl) a_nil) (num _)))) (t_orF (t_test (x_is (x_op (x_vd rfl) (x_vd rfl) o_B0) (by rw [decide_eq_false (by omega)]))) (t_test (x_is (x_op (x_vd rfl) (x_vd rfl) o_B0) (by rw [decide_eq_false (by omega)])))))) ?_
  refine r_retP (x_andT (x_isi (x_vd rfl) (by show kitB "str" "str" = some true; decide +kernel)) (x_andT (x_is (x_op (x_vd rfl) (x_tup (ds := ([wh false, wh true] : List Str).map PyData.str) (a_cons x_str (a_cons x_str a_nil)) (by simp)) o_inT) ?_) (x_callR (ds := [.str s.nm]) (a_cons (x_vd rfl) a_nil) ⟨_, rfl, hn, rfl⟩))) fin
  rw [decide_eq_true (by cases s.call <;> decide)]
end
end K09
/-! comprehensions and loops over the data of a list -/
namespace FD
open PySem L2 Evl
section
variable {α : Type} {C : Cfg} {M : List Addr} {δ : List Ent} {μ μ' μ1 : Mem} {wi : TI} {g : TG} {tt : TT} {te : TE} {vs : List Nat} {l : List α} {enc : α → PyData} {D : Ends} {t2 ts : TS}
theorem lcD_list (p : α → Bool) (f : α → PyData) (a0 : α) : ∀ l : List α, lcD (fun i => p (l.getD i a0)) (fun i => f (l.getD i a0)) l.length = (l.filter p).map f := fun l => by
  have e : l = (List.range l.length).map fun i => l.getD i a0 := by
    refine List.ext_getElem? fun j => ?_
    rw [List.getElem?_map]
    by_cases hj : j < l.length
    · rw [List.getElem?_range hj, List.getElem?_eq_getElem hj]
      simp [List.getD_eq_getElem?_getD, List.getElem?_eq_getElem hj]
    · rw [List.getElem?_eq_none (by omega), List.getElem?_eq_none (by rw [List.length_range]; omega)]; rfl
  unfold lcD
  conv => rhs; rw [e]
  rw [List.filter_map, List.map_map]
  rfl
theorem x_lcF {p : α → Bool} {f : α → PyData} (hi : EvI C wi M δ μ μ' (l.map enc)) (hz : l.length ≤ 100000) {ts : List Nat} (dl : α → List Ent) (htg : ∀ a ∈ l, TgX C.K g ts (enc a) (wipeE δ vs) (dl a)) (hts : ∀ k ∈ ts, k ∈ vs)
    (ht : ∀ a ∈ l, ∀ (G B : Hp) (D : Addr), EvT { C with G := G, B := B } tt (D :: M) (dl a) μ' μ' (p a)) (he : ∀ a ∈ l, p a = true → ∀ (G B : Hp) (D : Addr), EvX { C with G := G, B := B } te (D :: M) (dl a) μ' μ' (.d (f a))) :
    EvX C (tLc wi g tt te vs) M δ μ μ' (.d (.list ((l.filter p).map f))) := by
  cases l with
  | nil =>
    have h := x_lc (t := tt) (g := g) (te := te) (vs := vs) (fun _ => μ') (fun _ => true) (fun _ => PyData.none) hi (Nat.zero_le _) fun i d hd => by simp at hd
    exact h
  | cons a0 r =>
    generalize hl : a0 :: r = l at hi hz htg ht he ⊢
    rw [← lcD_list p f a0 l]
    have e : (l.map enc).length = l.length := List.length_map ..
    rw [← e]
    have gt : ∀ {i : Nat} {d : PyData}, (l.map enc)[i]? = some d → d = enc (l.getD i a0) ∧ l.getD i a0 ∈ l := fun {i d} hd => by
      have hlt := (List.getElem?_eq_some_iff.mp hd).1
      rw [e] at hlt
      rw [List.getElem?_map, List.getElem?_eq_getElem hlt] at hd
      rw [List.getD_eq_getElem?_getD, List.getElem?_eq_getElem hlt]
      exact ⟨(Option.some.inj hd).symm, List.getElem_mem _⟩
    exact x_lc (fun _ => μ') (fun i => p (l.getD i a0)) (fun i => f (l.getD i a0)) hi (by rw [e]; exact hz) fun i d hd G B D => by
      obtain ⟨e1, hm⟩ := gt hd
      exact ⟨ts, dl (l.getD i a0), μ', by rw [e1]; exact htg _ hm, hts, ht _ hm G B D, fun q => he _ hm q G B D, fun _ => rfl⟩
theorem x_lcA {f : α → PyData} (hi : EvI C wi M δ μ μ' (l.map enc)) (hz : l.length ≤ 100000) {ts : List Nat} (dl : α → List Ent) (htg : ∀ a ∈ l, TgX C.K g ts (enc a) (wipeE δ vs) (dl a)) (hts : ∀ k ∈ ts, k ∈ vs)
    (he : ∀ a ∈ l, ∀ (G B : Hp) (D : Addr), EvX { C with G := G, B := B } te (D :: M) (dl a) μ' μ' (.d (f a))) :
    EvX C (tLc wi g tYes te vs) M δ μ μ' (.d (.list (l.map f))) := by
  have h := x_lcF (p := fun _ => true) (f := f) hi hz dl htg hts (fun _ _ _ _ _ => t_yes) fun a ha _ => he a ha
  rw [show l.filter (fun _ => true) = l from List.filter_eq_self.mpr fun _ _ => rfl] at h
  exact h
theorem enumD_map (l : List α) (enc : α → PyData) : enumD (l.map enc) = l.zipIdx.map fun q => PyData.tuple [.int (q.2 : Int), enc q.1] := by
  unfold enumD
  rw [List.zipIdx_map, List.map_map]
  rfl
theorem q_forA (hi : EvI C wi M δ μ μ1 (l.map enc)) (P : Nat → List Ent → Mem → Prop) (h0 : P 0 δ μ1)
    (hs : ∀ B, Ex C.B B → ∀ (i : Nat) (a : α) (δ1 : List Ent) (μ1 : Mem), l[i]? = some a → P i δ1 μ1 → ∃ tl δ2, TgX C.K g tl (enc a) δ1 δ2 ∧ Run { C with B := B } ts { D with nx := NX { C with B := B } M (P (i + 1)), ct := NX { C with B := B } M (P (i + 1)), bk := t2 D } M δ2 μ1)
    (hd : ∀ δ1 μ1, P l.length δ1 μ1 → Run C t2 D M δ1 μ1) : Run C (tSeq (tFor wi g ts) t2) D M δ μ :=
  q_for hi P h0 (fun B x i d δ1 μ1 e p => by
    rw [List.getElem?_map] at e
    cases q : l[i]? with
    | none => rw [q] at e; cases e
    | some a =>
      rw [q] at e
      rw [← Option.some.inj e]
      exact hs B x i a δ1 μ1 q p) fun δ1 μ1 p => hd δ1 μ1 (by rw [List.length_map] at p; exact p)
theorem r_forA (hi : EvI C wi M δ μ μ1 (l.map enc)) (P : Nat → List Ent → Mem → Prop) (h0 : P 0 δ μ1)
    (hs : ∀ B, Ex C.B B → ∀ (i : Nat) (a : α) (δ1 : List Ent) (μ1 : Mem), l[i]? = some a → P i δ1 μ1 → ∃ tl δ2, TgX C.K g tl (enc a) δ1 δ2 ∧ Run { C with B := B } ts { D with nx := NX { C with B := B } M (P (i + 1)), ct := NX { C with B := B } M (P (i + 1)), bk := D.nx } M δ2 μ1)
    (hd : ∀ δ1 μ1, P l.length δ1 μ1 → Nx C D M δ1 μ1) : Run C (tFor wi g ts) D M δ μ :=
  r_for hi P h0 (fun B x i d δ1 μ1 e p => by
    rw [List.getElem?_map] at e
    cases q : l[i]? with
    | none => rw [q] at e; cases e
    | some a =>
      rw [q] at e
      rw [← Option.some.inj e]
      exact hs B x i a δ1 μ1 q p) fun δ1 μ1 p => hd δ1 μ1 (by rw [List.length_map] at p; exact p)
theorem all_true (l : List α) : ((l.map fun _ => true).all id) = true := by rw [List.all_map, List.all_eq_true]; exact fun _ _ => rfl
end
end FD
namespace K09
open PySem L2 FD Evl
def Rio (ds : List PyData) (d : PyData) : Prop := ∃ (c : Crs) (names : List Str), ds = [crsD c] ∧ CrsOk names c ∧ d = .bool true
section
variable {P : Program} {w : World} {K : PySem.W.Frag} {mg : Str → Option Value} {base : Heap} {Cb : Addr}
abbrev nIo : List Str := ["course", "name", "stages", "ends", "steps", "end", "step"]
theorem scIo : FnScope nIo ["course"] (defScope sIo) := ⟨rfl, rfl, rfl, by decide +kernel, rfl, by decide +kernel, by decide +kernel⟩
theorem ok_io {f : Addr} {fd : FuncData} (T : Txt K mg Cb) (F : Fun K "is_course" "is_course" sIo f fd) {f1 f2 f3 f4 f5 : Addr} {fd1 fd2 fd3 fd4 fd5 : FuncData} (H1 : Has K mg "is_number" sIu ["value"] f1 fd1) (H2 : Has K mg "is_name" sIn ["value"] f2 fd2) (H3 : Has K mg "is_step" sIs ["step", "stages"] f3 fd3) (H4 : Has K mg "is_integer" sIi ["value"] f4 fd4) (H5 : Has K mg "is_letter" sIl ["sign"] f5 fd5) : FnOk P w K mg base CX0 4 f fd ["course"] (spR K 1 Rio) := by
  have G1 : FnOk P w K mg base CX0 2 f1 fd1 ["value"] (spR K 1 Riu) := ok_iu T H1.F H4
  have G2 : FnOk P w K mg base CX0 2 f2 fd2 ["value"] (spR K 1 Rin) := ok_in T H2.F H5
  have G3 : FnOk P w K mg base CX0 3 f3 fd3 ["step", "stages"] (spR K 2 Ris) := ok_is T H3.F H1 H2 H4 H5
  obtain ⟨tms, hms⟩ := T.ms
  refine def_R F scIo (by decide) fun cdv A outer s H E hr => ?_
  have nd := scIo.nd
  have hr2 : Room 2 _ := hr.mono (by decide)
  refine ⟨_, (pss_cons (ps_if (PW.pt (pw_or (pt_not (pt_val (pe_callB call_isi (by rfl) T.isinstance (by decide +kernel) (pa_cons (pv 0) (pa_cons (pe_bltn (v := .ty "tuple") (u := .type "tuple") (by rfl) T.tuple (by decide +kernel) rfl) pa_nil))))) (pw_or1 (pt_cmpR (op_neD hr.units) (pe_callB call_len_seq (by rfl) T.len PySem.boot_len (pa_cons (pv 0) pa_nil)) pe_int (nomark _))))) (pss_one (ps_ret pe_bl)) pss_nil)
 (pss_cons (ps_asg (pv 0) (pg_tup rfl (pgs_cons (pg_name (i := 1) nd rfl (Or.inl rfl)) (pgs_cons (pg_name (i := 2) nd rfl (Or.inr rfl)) (pgs_cons (pg_name (i := 3) nd rfl (Or.inl rfl)) (pgs_cons (pg_name (i := 4) nd rfl (Or.inl rfl)) pgs_nil))))))
 (pss_cons (ps_if (PW.pt (pw_or (pt_not (pt_val (pe_call G2 hr2 rfl H2.m H2.F.kp H2.b .nil pass0 (pa_cons (pv 1) pa_nil)))) (pw_or (pt_not (pt_val (pe_call G1 hr2 rfl H1.m H1.F.kp H1.b .nil pass0 (pa_cons (pv 2) pa_nil)))) (pw_or1 (pt_not (pt_chain op_le op_le pe_int (pv 2) (pe_glob (v := .int 20) rfl hms ⟨_, rfl⟩))))))) (pss_one (ps_ret pe_bl)) pss_nil)
 (pss_cons (ps_if (PW.pt (pw_or (pt_not (pt_val (pe_callB call_isi (by rfl) T.isinstance (by decide +kernel) (pa_cons (pv 3) (pa_cons (pe_bltn (v := .ty "tuple") (u := .type "tuple") (by rfl) T.tuple (by decide +kernel) rfl) pa_nil))))) (pw_or1 (pt_not (pt_val (pe_callB call_isi (by rfl) T.isinstance (by decide +kernel) (pa_cons (pv 4) (pa_cons (pe_bltn (v := .ty "tuple") (u := .type "tuple") (by rfl) T.tuple (by decide +kernel) rfl) pa_nil)))))))) (pss_one (ps_ret pe_bl)) pss_nil)
 (pss_cons (ps_if (pt_not (pt_val (pe_callB (cr_all rfl) (by rfl) T.all (by decide +kernel) (pa_cons (pe_lc (own := [("end", 5)]) (g := (gName 5)) (tt := tYes) rfl nd (pi_tup (pv 3)) (blkOk_by (N := nIo) (sc := defScope sIo) (by decide +kernel)) (fun _ _ _ _ _ => (pg_name (i := 5) nd rfl (Or.inl rfl))) (fun _ _ _ _ _ => pts_nil) (fun _ _ _ _ _ => (pe_and (pe_call G1 hr2 rfl H1.m H1.F.kp H1.b .nil pass0 (pa_cons (pv 5) pa_nil)) (pe_one (pe_cmpR op_lt (pv 5) (pv 2) (nomark _)))))) pa_nil)))) (pss_one (ps_ret pe_bl)) pss_nil)
 (pss_cons (ps_if (pt_not (pt_val (pe_callB (cr_all rfl) (by rfl) T.all (by decide +kernel) (pa_cons (pe_lc (own := [("step", 6)]) (g := (gName 6)) (tt := tYes) rfl nd (pi_tup (pv 4)) (blkOk_by (N := nIo) (sc := defScope sIo) (by decide +kernel)) (fun _ _ _ _ _ => (pg_name (i := 6) nd rfl (Or.inl rfl))) (fun _ _ _ _ _ => pts_nil) (fun _ _ _ _ _ => (pe_call G3 hr rfl H3.m H3.F.kp H3.b .nil pass0 (pa_cons (pv 6) (pa_cons (pv 2) pa_nil))))) pa_nil)))) (pss_one (ps_ret pe_bl)) pss_nil)
 (pss_one (ps_ret (pe_and (pe_cmpR (op_eqD hr.units) (pv 3) (pe_callTy call_tuple_of (by rfl) T.tuple (by decide +kernel) (pa_cons (pe_STi rfl (by rfl) T.sorted (by rfl) T.set (pv 3)) pa_nil)) (nomark _)) (pe_one (pe_cmpR (op_eqD hr.units) (pe_lenSK rfl hr.units (by rfl) T.len (by rfl) T.set (pv 4)) (pe_callB call_len_seq (by rfl) T.len PySem.boot_len (pa_cons (pv 4) pa_nil)) (nomark _)))))))))))), ?_⟩
  rintro M G B ds d _ ⟨c, names, rfl, ok, rfl⟩ D fin
  show FD.Run _ _ D M [.d (crsD c), .u, .u, .u, .u, .u, .u] []
  have sh1 := (shp_int 0 1).shaped (by decide)
  have num : ∀ i : Nat, Riu [.int (i : Int)] (.bool true) := fun i => ⟨i, rfl, by rw [decide_eq_true (by omega)]⟩
  have h1 := ok.n1
  have h2 := ok.n2
  unfold crsD
  refine q_no (t_orF (t_notT (t_B (x_isi (x_vd rfl) (by show kitB "tuple" "tuple" = some true; decide +kernel)))) (t_test (x_is (x_op (x_cbP (a_cons (x_vd rfl) a_nil) c_lenT) x_int (o_neD (.d _) (.d _) ((shp_int 0 _).shaped (by decide)) ((shp_int 0 _).shaped (by decide)))) (by rw [eqv_int]; rfl)))) ?_
  refine q_asgG (x_vd rfl) tg_tup4 ?_
  generalize PyData.tuple [.str c.nm, .int (c.n : Int), endsD c.ends, stepsD c.steps] = cD
  show FD.Run _ _ D M [.d cD, .d (.str c.nm), .d (.int (c.n : Int)), .d (endsD c.ends), .d (stepsD c.steps), .u, .u] []
  refine q_no (t_orF (t_notT (t_B (x_callR (ds := [.str c.nm]) (a_cons (x_vd rfl) a_nil) ⟨_, rfl, ok.nm, rfl⟩))) (t_orF (t_notT (t_B (x_callR (ds := [.int (c.n : Int)]) (a_cons (x_vd rfl) a_nil) (num _)))) (t_notT (t_test (x_is (x_chainI (m := 1) (n := (c.n : Int)) (k := 20) (g := fun i j => decide (i ≤ j)) (g' := fun i j => decide (i ≤ j)) x_int (x_vd rfl) x_int) (by rw [decide_eq_true (by omega), decide_eq_true (by omega)]; rfl)))))) ?_
  refine q_no (t_orF (t_notT (t_B (x_isi (x_vd rfl) (by show kitB "tuple" "tuple" = some true; decide +kernel)))) (t_notT (t_B (x_isi (x_vd rfl) (by show kitB "tuple" "tuple" = some true; decide +kernel))))) ?_
  have le := asc_few ok.asc ok.ends
  have ls := ok.few
  refine q_no (t_notT (t_B (x_is (x_cbP (a_cons (x_lcA (l := c.ends) (enc := fun i : Nat => PyData.int (i : Int)) (f := fun _ => PyData.bool true) (i_tup (x_is (x_vd rfl) (by unfold endsD; rw [List.map_map]; rfl))) (by omega) (ts := [5]) (fun i => [.d cD, .d (.str c.nm), .d (.int (c.n : Int)), .d (endsD c.ends), .d (stepsD c.steps), .d (.int (i : Int)), .u]) (fun i hi => tg_name) (fun k hk => hk) fun i hi G' B' D' => ?_) a_nil) (c_all (bs := c.ends.map fun _ => true) (by rw [List.map_map]; exact .d _))) (by rw [all_true])))) ?_
  · exact x_andT (x_callR (ds := [.int (i : Int)]) (a_cons (x_vd rfl) a_nil) (num _)) (x_is (x_op (x_vd rfl) (x_vd rfl) o_B0) (by rw [decide_eq_true (by have := ok.ends i hi; omega)]))
  refine q_no (t_notT (t_B (x_is (x_cbP (a_cons (x_lcA (l := c.steps) (enc := stepD) (f := fun _ => PyData.bool true) (i_tup (x_vd rfl)) (by omega) (ts := [6]) (fun st => [.d cD, .d (.str c.nm), .d (.int (c.n : Int)), .d (endsD c.ends), .d (stepsD c.steps), .u, .d (stepD st)]) (fun i hi => tg_name) (fun k hk => hk) fun st hs G' B' D' => ?_) a_nil) (c_all (bs := c.steps.map fun _ => true) (by rw [List.map_map]; exact .d _))) (by rw [all_true])))) ?_
  · exact x_callR (ds := [stepD st, .int (c.n : Int)]) (a_cons (x_vd rfl) (a_cons (x_vd rfl) a_nil)) ⟨st, c.n, rfl, ok.b st hs, ok.e st hs, ok.snm st hs, rfl⟩
  have sE : SeqAt.shaped (endsD c.ends) = true := (shp_tints 0 _).shaped (by decide)
  refine r_retP (x_andT (x_is (x_op (x_vd rfl) (x_cbP (a_cons (x_STi (ms := c.ends.map fun i : Nat => (i : Int)) (x_vd rfl) (by rw [List.length_map]; omega) (List.pairwise_map.mpr (ok.asc.imp fun q => by omega)) (fun k => Iff.rfl)) a_nil) (c_tupleL (.d _))) (o_eqD (.d _) (.d _) sE sE)) (by unfold endsD; simp only [PyData.eqv]; rw [eqv_ints]; simp)) (x_is (x_op (x_lenSK (l := c.steps.map stepK) (x_vd rfl) (.inr (by unfold stepsD; rw [List.map_map]; rfl)) (by rw [List.length_map]; exact ls) (List.Pairwise.map _ (fun a b ne e => ne (stepK_inj e)) ok.nd)) (x_cbP (a_cons (x_vd rfl) a_nil) c_lenT) (o_eqD (.d _) (.d _) ((shp_int 0 _).shaped (by decide)) ((shp_int 0 _).shaped (by decide)))) (by rw [eqv_int, List.length_map, List.length_map]; simp))) fin
end
end K09
/-! dicts with text keys: a key stored that may stand there already; len(d) -/
namespace FD
open PySem L2 Evl
/-- a statement that is not reached -/
theorem ps_no {X : Cx} {st : Stmt} : PS X st (fun _ _ _ => False) := ⟨fun _ _ _ _ _ _ h => h.elim⟩
def putDc (l : Dct) (k : Str) (d : PyData) : Dct := if k ∈ l.map (·.1) then l.map (fun p => if p.1 = k then (p.1, d) else p) else l ++ [(k, d)]
theorem putDc_keys (l : Dct) (k : Str) (d : PyData) : (putDc l k d).map (·.1) = if k ∈ l.map (·.1) then l.map (·.1) else l.map (·.1) ++ [k] := by
  unfold putDc
  by_cases h : k ∈ l.map (·.1)
  · rw [if_pos h, if_pos h, List.map_map]
    refine List.map_congr_left fun p _ => ?_
    show (if p.1 = k then (p.1, d) else p).1 = p.1
    split <;> rfl
  · rw [if_neg h, if_neg h, List.map_append]; rfl
theorem putDc_nd {l : Dct} {k : Str} {d : PyData} (h : (l.map (·.1)).Nodup) : ((putDc l k d).map (·.1)).Nodup := by
  rw [putDc_keys]
  by_cases q : k ∈ l.map (·.1)
  · rw [if_pos q]; exact h
  · rw [if_neg q]
    refine List.nodup_append.mpr ⟨h, by simp, fun a ha b hb e => ?_⟩
    rw [List.mem_singleton.mp hb] at e
    exact q (e ▸ ha)
theorem putDc_mem {l : Dct} {k x : Str} {d : PyData} : x ∈ (putDc l k d).map (·.1) ↔ x = k ∨ x ∈ l.map (·.1) := by
  rw [putDc_keys]
  by_cases q : k ∈ l.map (·.1)
  · rw [if_pos q]; exact ⟨.inr, fun h => h.elim (fun e => e ▸ q) id⟩
  · rw [if_neg q, List.mem_append, List.mem_singleton]; exact Or.comm
theorem dc_put {K : PySem.W.Frag} {Hh : Hp} {l : Dct} {ws : List (Key × V)} {k : Str} {v : V} {d : PyData} (c : DcOk K Hh ws (kd l)) (h : Dp K Hh v d) : DcOk K Hh (putK ws (.inr k) v) (kd (putDc l k d)) := by
  by_cases q : k ∈ l.map (·.1)
  · have e : (ws.any fun kv => decide (kv.1 = (Sum.inr k : Key))) = true := by
      rw [List.any_eq_true]
      have : (Sum.inr k : Key) ∈ ws.map (·.1) := by rw [dc_keys c]; exact List.mem_map_of_mem q
      obtain ⟨p, hp, e⟩ := List.mem_map.mp this
      exact ⟨p, hp, decide_eq_true e⟩
    unfold putK putDc
    rw [if_pos e, if_pos q]
    clear e q
    generalize hk : kd l = kl at c
    have : kd (l.map fun p => if p.1 = k then (p.1, d) else p) = kl.map fun p => if p.1 = (Sum.inr k : Key) then (p.1, d) else p := by
      rw [← hk]
      unfold kd
      rw [List.map_map, List.map_map]
      refine List.map_congr_left fun p _ => ?_
      show (Sum.inr (if p.1 = k then (p.1, d) else p).1, (if p.1 = k then (p.1, d) else p).2) = if (Sum.inr p.1 : Key) = Sum.inr k then ((Sum.inr p.1 : Key), d) else (Sum.inr p.1, p.2)
      by_cases e : p.1 = k
      · rw [if_pos e, if_pos (congrArg _ e)]
      · rw [if_neg e, if_neg fun z => e (Sum.inr.inj z)]
    rw [this]
    clear this hk
    induction c with
    | nil => exact .nil
    | @cons p q ps qs hq _ ih =>
      rw [List.map_cons, List.map_cons]
      refine .cons ?_ ih
      by_cases e : q.1 = (Sum.inr k : Key)
      · rw [if_pos (hq.1.trans e), if_pos e]; exact ⟨hq.1, h⟩
      · rw [if_neg fun z => e (hq.1.symm.trans z), if_neg e]; exact hq
  · unfold putDc
    rw [if_neg q]
    exact dc_snoc c q h
section
variable {C : Cfg} {M : List Addr} {δ : List Ent} {μ μ1 μ2 μ3 : Mem} {te ta tb : TE} {D : Ends} {t2 : TS} {i j : Nat} {a : Addr} {d : PyData} {k : Str} {l : Dct} {e : Ent} {mo : MO}
theorem r_dputA (h : EvX C te M δ μ μ1 (.d d)) (hx : EvX C ta M δ μ1 μ2 (.m a)) (hi : EvX C tb M δ μ2 μ3 (.d (.str k))) (hj : μ3[j]? = some (a, .dK (kd l))) (hl : l.length < 1000) (kk : Nx C D M δ (μ3.set j (a, .dK (kd (putDc l k d))))) :
    Run C (tAsg te (gSub ta tb rSetD)) D M δ μ := fun σ H o => h σ H o _ fun v H1 o1 x1 r1 => hx σ H1 o1 _ fun w H2 o2 x2 r2 => hi σ H2 o2 _ fun z H3 o3 x3 r3 => by
  have e1 : w = .ref a := r2
  have e2 : z = .str k := Dp.str_of r3
  obtain ⟨_, _, ws, q3, q4⟩ := o3.mem _ (List.mem_of_getElem? hj)
  show ∃ a' H', w = .ref a' ∧ DPut H3 a' z v H' ∧ D.nx σ H'
  refine ⟨a, _, e1, .inl ⟨ws, .inr k, q3, e2, sz_lt (by rw [dc_len q4]; omega), rfl⟩, ?_⟩
  exact kk _ _ (o3.write hj ⟨_, upd_same, dc_put q4 (EntOk.mono (e := .d d) (x2.trans x3) r1)⟩)
abbrev rLenDc : List V → Hp → VK → Prop := fun xs H Q => ∃ d kvs, xs = [V.ref d] ∧ H d = some (.dK kvs) ∧ Q (.int kvs.length) H
theorem c_lenDc (hm : (a, .dK (kd l)) ∈ μ) : CallX C rLenDc M δ μ μ [.m a] (.d (.int (l.length : Int))) := fun σ H vs o h Q kk => by
  obtain ⟨v, rfl, q⟩ := p1 h
  obtain ⟨_, _, ws, q3, q4⟩ := o.mem _ hm
  refine ⟨a, ws, by rw [show v = .ref a from q], q3, ?_⟩
  rw [dc_len q4]
  exact kk _ H o (Ex.refl _) (.int _)
/-- x, y = 0, {} -/
theorem q_parZD {z : Int} (kk : ∀ p, p ∉ M → Run C t2 D (p :: M) ((δ.set i (.d (.int z))).set j (.m p)) ((p, .dK (kd [])) :: μ)) : Run C (tSeq (tPar i j (tCons (tC (.int z)) (tCons tDNewK tNil))) t2) D M δ μ := fun σ H o => fun p hp => by
  have o2 := o.new hp (mo := .dK (kd [])) (ho := .dK []) ⟨[], upd_same, .nil⟩
  exact ⟨.int z, .ref p, rfl, kk p (o.fresh hp) _ _ ((o2.set i (e := .d (.int z)) (.int z)).set j (e := .m p) rfl)⟩
end
section
variable {μ0 μ1 : Mem}
theorem swap_id (hsub : ∀ p ∈ μ0, p ∈ μ1) (nd : (ad μ1).Nodup) : Swap μ0 μ0 μ1 μ1 where
  sub := hsub
  ad0 := rfl
  ad1 := rfl
  new := fun p hp => by
    by_cases h : p.1 ∈ ad μ0
    · left
      obtain ⟨q, hq, e⟩ := List.mem_map.mp h
      obtain ⟨i, hi⟩ := List.getElem?_of_mem hp
      obtain ⟨j, hj⟩ := List.getElem?_of_mem (hsub q hq)
      obtain ⟨a, y⟩ := p
      obtain ⟨b, z⟩ := q
      have e : b = a := e
      subst e
      have ij := nodup_fst nd hi hj
      subst ij
      rw [hi] at hj
      cases hj
      exact hq
    · exact .inr ⟨hp, h⟩
end
end FD
namespace K09
open PySem L2 FD Evl
theorem crs_at (c : Crs) {i : Int} {d : PyData} (h : atI [PyData.str c.nm, .int (c.n : Int), endsD c.ends, stepsD c.steps] i = some d) : atI [PyData.str c.nm, .int (c.n : Int), endsD c.ends, stepsD c.steps] i = some d := h
def sumN (cs : List Crs) (i : Nat) : Nat := ((cs.take i).map (·.n)).sum
theorem sumN_le (cs : List Crs) : ∀ i, sumN cs i ≤ (cs.map (·.n)).sum := fun i => by
  unfold sumN
  conv => rhs; rw [← List.take_append_drop i cs]
  rw [List.map_append, List.sum_append]; omega
theorem sumN_succ {cs : List Crs} {i : Nat} {c : Crs} (h : cs[i]? = some c) : sumN cs (i + 1) = sumN cs i + c.n := by
  unfold sumN
  rw [List.take_add_one, h]
  simp
theorem zip_at {α : Type} {l : List α} {i : Nat} {q : α × Nat} (h : l.zipIdx[i]? = some q) : l[i]? = some q.1 ∧ q.2 = i := by
  rw [List.getElem?_zipIdx] at h
  cases e : l[i]? with
  | none => rw [e] at h; cases h
  | some a => rw [e] at h; cases h; exact ⟨rfl, by simp⟩
def Rct (es : List Ent) (μ : Mem) (d : PyData) (μ' : Mem) : Prop := ∃ (cs : List Crs) (a : Addr), es = [.d (bokD cs), .m a] ∧ μ = [(a, .lst ((cs.map (·.nm)).map .str))] ∧ μ' = μ ∧ BokOk cs ∧ d = .none
def Rcc (es : List Ent) (μ : Mem) (d : PyData) (μ' : Mem) : Prop := ∃ cs : List Crs, es = [.d (bokD cs)] ∧ μ = [] ∧ μ' = [] ∧ BokOk cs ∧ d = .none
theorem shp_wh (c : Bool) : SeqAt.shaped (.str (wh c)) = true := sh_str (wh_tok c)
section
variable {P : Program} {w : World} {K : PySem.W.Frag} {mg : Str → Option Value} {base : Heap} {Cb : Addr}
abbrev nCt : List Str := ["courses", "names", "stages", "deeds", "at", "course", "begin", "what", "name", "end"]
theorem scCt : FnScope nCt ["courses", "names"] (defScope sCt) := ⟨rfl, rfl, rfl, by decide +kernel, rfl, by decide +kernel, by decide +kernel⟩
theorem ok_ct {f : Addr} {fd : FuncData} (T : Txt K mg Cb) (F : Fun K "check_together" "check_together" sCt f fd) : FnOk P w K mg base CX0 1 f fd ["courses", "names"] (spE K 2 Rct) := by
  obtain ⟨tmt, hmt⟩ := T.mt
  obtain ⟨tmd, hmd⟩ := T.md
  refine def_En F scCt (by decide) rfl fun cdv A outer s H E hr => ?_
  have nd := scCt.nd
  refine ⟨_, (pss_cons (ps_par (i := 2) (j := 3) (by rfl) nd rfl rfl (by decide) rfl rfl (pa_cons pe_int (pa_cons pe_dnewK pa_nil)) (by rfl))
 (pss_one (ps_for PassesOwn.never rfl (pi_enumT (by rfl) T.enumerate (pa_cons (pv 0) pa_nil)) (pg_tup rfl (pgs_cons (pg_name (i := 4) nd rfl (Or.inl rfl)) (pgs_cons (pg_name (i := 5) nd rfl (Or.inl rfl)) pgs_nil))) (pss_cons (ps_aug (i := 2) nd rfl (.inl rfl) (pe_ix ix_tup (pv 5) pe_int (fun _ _ => rfl)) ip_add)
 (pss_cons (ps_for PassesOwn.never rfl (pi_tup (pe_ix ix_tup (pv 5) pe_int (fun _ _ => rfl))) (pg_tup rfl (pgs_cons (pg_name (i := 6) nd rfl (Or.inl rfl)) (pgs_cons (pg_name (i := 7) nd rfl (Or.inl rfl)) (pgs_cons (pg_name (i := 8) nd rfl (Or.inl rfl)) (pgs_cons (pg_name (i := 9) nd rfl (Or.inl rfl)) pgs_nil))))) (pss_one (ps_if (pt_cmpR (op_eqD hr.units) (pv 7) pe_str (nomark _)) (pss_one (ps_asg pe_bl (pg_sub (pv 3) (pv 8) (set_dict (hu_of hr))))) (pss_one (ps_if (pt_cmpR op_notIn_seq (pv 8) (pv 1) (by with_unfolding_all rfl)) (pss_one ps_no) pss_nil)))))
 (pss_one (ps_if (PW.pt (pw_or (pt_cmpR op_gt (pv 2) (pe_glob (v := .int 60) rfl hmt ⟨_, rfl⟩) (nomark _)) (pw_or1 (pt_cmpR op_gt (pe_callB call_lenD (by rfl) T.len PySem.boot_len (pa_cons (pv 3) pa_nil)) (pe_glob (v := .int 12) rfl hmd ⟨_, rfl⟩) (nomark _))))) (pss_one ps_no) pss_nil))))))), ?_⟩
  rintro M G B es μ d μ' ⟨cs, a, rfl, rfl, rfl, ok, rfl⟩ D hn fin
  show FD.Run _ _ D M [.d (bokD cs), .m a, .u, .u, .u, .u, .u, .u, .u, .u] [(a, .lst ((cs.map (·.nm)).map .str))]
  obtain ⟨ds, hds, hdd⟩ := ok.deeds
  refine q_parZD fun p pM => ?_
  show FD.Run _ _ D (p :: M) [.d (bokD cs), .m a, .d (.int 0), .m p, .u, .u, .u, .u, .u, .u] [(p, .dK (kd [])), (a, .lst ((cs.map (·.nm)).map .str))]
  have few := ok.few
  have tot := ok.tot
  refine r_forA (l := cs.zipIdx) (enc := fun q => PyData.tuple [.int (q.2 : Int), crsD q.1]) (by
      have h := i_enumT (C := ⟨K, M, G, B⟩) (xs := cs.map crsD) (a_cons (x_vd (M := p :: M) (μ := [(p, .dK (kd [])), (a, .lst ((cs.map (·.nm)).map .str))]) (δ := [.d (bokD cs), .m a, .d (.int 0), .m p, .u, .u, .u, .u, .u, .u]) (i := 0) rfl) a_nil)
      rw [enumD_map] at h
      exact h)
    (fun i δ μ => ∃ (dl : Dct) (e4 e5 e6 e7 e8 e9 : Ent), δ = [.d (bokD cs), .m a, .d (.int (sumN cs i : Nat)), .m p, e4, e5, e6, e7, e8, e9] ∧ μ = [(p, .dK (kd dl)), (a, .lst ((cs.map (·.nm)).map .str))] ∧ (dl.map (·.1)).Nodup ∧ ∀ x ∈ dl.map (·.1), x ∈ ds)
    ⟨[], _, _, _, _, _, _, rfl, rfl, List.Pairwise.nil, fun x hx => absurd hx (by simp)⟩ ?_ ?_
  · rintro B' xB i ⟨c, j⟩ δ1 μ1 hq ⟨dl, e4, e5, e6, e7, e8, e9, rfl, rfl, dn, dm⟩
    obtain ⟨hc, rfl⟩ := zip_at hq
    have hc : cs[j]? = some c := hc
    have cm := List.mem_of_getElem? hc
    have cok := ok.ok c cm
    refine ⟨_, _, tg_tup2, ?_⟩
    show FD.Run _ _ _ (p :: M) [.d (bokD cs), .m a, .d (.int (sumN cs j : Nat)), .m p, .d (.int (j : Int)), .d (crsD c), e6, e7, e8, e9] [(p, .dK (kd dl)), (a, .lst ((cs.map (·.nm)).map .str))]
    refine r_seq (r_aug (f := fun m n => m + n) rfl (x_op (x_vd rfl) x_int (o_ixT (d := .int (c.n : Int)) rfl)) ?_)
    have es : ((sumN cs j : Nat) : Int) + (c.n : Int) = ((sumN cs (j + 1) : Nat) : Int) := by rw [sumN_succ hc]; omega
    show FD.Run _ _ _ (p :: M) [.d (bokD cs), .m a, .d (.int ((sumN cs j : Nat) + (c.n : Int))), .m p, .d (.int (j : Int)), .d (crsD c), e6, e7, e8, e9] [(p, .dK (kd dl)), (a, .lst ((cs.map (·.nm)).map .str))]
    rw [es]
    refine q_forA (l := c.steps) (enc := stepD) (i_tup (x_op (x_vd rfl) x_int (o_ixT (d := stepsD c.steps) rfl)))
      (fun i δ μ => ∃ (dl : Dct) (e6 e7 e8 e9 : Ent), δ = [.d (bokD cs), .m a, .d (.int (sumN cs (j + 1) : Nat)), .m p, .d (.int (j : Int)), .d (crsD c), e6, e7, e8, e9] ∧ μ = [(p, .dK (kd dl)), (a, .lst ((cs.map (·.nm)).map .str))] ∧ (dl.map (·.1)).Nodup ∧ ∀ x ∈ dl.map (·.1), x ∈ ds)
      ⟨dl, _, _, _, _, rfl, rfl, dn, dm⟩ ?_ ?_
    · rintro B2 xB2 i st δ1 μ1 hst ⟨dl, e6, e7, e8, e9, rfl, rfl, dn, dm⟩
      have sm := List.mem_of_getElem? hst
      refine ⟨_, _, tg_tup4, ?_⟩
      show FD.Run _ _ _ (p :: M) [.d (bokD cs), .m a, .d (.int (sumN cs (j + 1) : Nat)), .m p, .d (.int (j : Int)), .d (crsD c), .d (.int (st.b : Int)), .d (.str (wh st.call)), .d (.str st.nm), .d (.int (st.e : Int))] [(p, .dK (kd dl)), (a, .lst ((cs.map (·.nm)).map .str))]
      have hl : dl.length ≤ 12 := by
        have := RK.nd_len dn dm
        rw [List.length_map] at this; omega
      refine r_if (b := !st.call) (t_is (t_test (x_op (x_vd rfl) x_str (o_eqD (.d _) (.d _) (shp_wh _) (shp_wh false)))) (by rw [eqv_str]; cases st.call <;> decide)) (fun hb => ?_) (fun hb => ?_)
      · have hcall : st.call = false := by simpa using hb
        refine r_dputA (j := 0) x_bl (x_vm rfl) (x_vd rfl) rfl (by omega) ?_
        exact fun σ H o => ⟨_, _, ⟨_, _, _, _, _, rfl, rfl, putDc_nd dn, fun x hx => (putDc_mem.mp hx).elim (fun e => e ▸ hdd c cm st sm hcall) (dm x)⟩, o⟩
      · have hcall : st.call = true := by simpa using hb
        refine r_no (t_test (x_is (x_op (x_vd rfl) (x_vm rfl) (o_notInL (.m (j := 1) rfl))) (by rw [decide_eq_true (cok.calls st sm hcall)]; rfl))) ?_
        exact fun σ H o => ⟨_, _, ⟨_, _, _, _, _, rfl, rfl, dn, dm⟩, o⟩
    · rintro δ1 μ1 ⟨dl, e6, e7, e8, e9, rfl, rfl, dn, dm⟩
      have hl : dl.length ≤ 12 := by
        have := RK.nd_len dn dm
        rw [List.length_map] at this; omega
      have hs := sumN_le cs (j + 1)
      refine r_no (t_orF (t_test (x_is (x_op (x_vd rfl) x_int o_B0) (by rw [decide_eq_false (by omega)]))) (t_test (x_is (x_op (x_cbP (a_cons (x_vm rfl) a_nil) (c_lenDc List.mem_cons_self)) x_int o_B0) (by rw [decide_eq_false (by omega)])))) ?_
      exact fun σ H o => ⟨_, _, ⟨_, _, _, _, _, _, _, rfl, rfl, dn, dm⟩, o⟩
  · rintro δ1 μ1 ⟨dl, e4, e5, e6, e7, e8, e9, rfl, rfl, dn, dm⟩
    exact nx_endE hn fin fun q hq => List.mem_cons_of_mem _ hq
abbrev nCc : List Str := ["courses", "names", "at", "course"]
theorem scCc : FnScope nCc ["courses"] (defScope sCc) := ⟨rfl, rfl, rfl, by decide +kernel, rfl, by decide +kernel, by decide +kernel⟩
end
end K09
namespace FD
open PySem L2 Evl
theorem putG_new {l : GTab} {k : List Key} {φ : GP} (h : k ∉ l.map (·.1)) : putG l k φ = l ++ [(k, φ)] := by
  unfold putG
  rw [if_neg fun z => h (valG_mem.mp z)]
theorem r_dropX {C : Cfg} {M : List Addr} {δ : List Ent} {μ μ1 : Mem} {te : TE} {D : Ends} {t2 : TS} {e : Ent} (h : EvX C te M δ μ μ1 e) (k : Run C t2 D M δ μ1) : Run C (tSeq (tDrop te) t2) D M δ μ := q_drop h k
end FD
namespace K09
open PySem L2 FD Evl
def pos (c : Crs) (i : Nat) : List Nat := (c.steps.zipIdx.filter fun q => decide (q.1.b = i)).map (·.2)
def posD (c : Crs) (i : Nat) : PyData := .tuple ((pos c i).map fun j : Nat => .int (j : Int))
def byN (cs : List Crs) : Dct := cs.map fun c => (c.nm, crsD c)
def leavC (c : Crs) (m : Nat) : GTab := (List.range m).map fun i => (stK (c.nm, i), gD (posD c i))
def leavT (cs : List Crs) : GTab := cs.flatMap fun c => leavC c c.n
def stages (cs : List Crs) : List Stg := cs.flatMap fun c => (List.range c.n).map fun i => (c.nm, i)
theorem leavC_keys (c : Crs) (m : Nat) : (leavC c m).map (·.1) = ((List.range m).map fun i => (c.nm, i)).map stK := by
  unfold leavC
  rw [List.map_map, List.map_map]; rfl
theorem leavT_keys : ∀ cs : List Crs, (leavT cs).map (·.1) = (stages cs).map stK
  | [] => rfl
  | c :: cs => by
    have ih := leavT_keys cs
    unfold leavT stages at ih ⊢
    rw [List.flatMap_cons, List.flatMap_cons, List.map_append, List.map_append, ih, leavC_keys]
theorem stages_mem {cs : List Crs} {s : Stg} : s ∈ stages cs ↔ ∃ c ∈ cs, c.nm = s.1 ∧ s.2 < c.n := by
  unfold stages
  rw [List.mem_flatMap]
  constructor
  · rintro ⟨c, hc, h⟩
    obtain ⟨i, hi, rfl⟩ := List.mem_map.mp h
    exact ⟨c, hc, rfl, List.mem_range.mp hi⟩
  · rintro ⟨c, hc, h1, h2⟩
    exact ⟨c, hc, List.mem_map.mpr ⟨s.2, List.mem_range.mpr h2, Prod.ext h1 rfl⟩⟩
theorem leavT_len (cs : List Crs) : (leavT cs).length = (cs.map (·.n)).sum := by
  unfold leavT leavC
  induction cs with
  | nil => rfl
  | cons c cs ih => rw [List.flatMap_cons, List.length_append, ih, List.length_map, List.length_range, List.map_cons, List.sum_cons]
theorem leavT_take {cs : List Crs} {i : Nat} {c : Crs} (h : cs[i]? = some c) : leavT (cs.take (i + 1)) = leavT (cs.take i) ++ leavC c c.n := by
  unfold leavT
  rw [List.take_add_one, h, List.flatMap_append]
  simp
theorem leavC_succ (c : Crs) (m : Nat) : leavC c (m + 1) = leavC c m ++ [(stK (c.nm, m), gD (posD c m))] := by
  unfold leavC
  rw [List.range_succ, List.map_append]; rfl
theorem key_new {cs : List Crs} (nd : (cs.map (·.nm)).Nodup) {i : Nat} {c : Crs} (h : cs[i]? = some c) (j : Nat) : stK (c.nm, j) ∉ (leavT (cs.take i) ++ leavC c j).map (·.1) := fun z => by
  rw [List.map_append, List.mem_append, leavT_keys, leavC_keys] at z
  rcases z with z | z
  · obtain ⟨s, hs, e⟩ := List.mem_map.mp z
    have e := stK_inj e
    subst e
    obtain ⟨d, hd, e1, _⟩ := stages_mem.mp hs
    have e1 : d.nm = c.nm := e1
    obtain ⟨m, hm⟩ := List.getElem?_of_mem hd
    have ml := (List.getElem?_eq_some_iff.mp hm).1
    rw [List.length_take] at ml
    rw [List.getElem?_take, if_pos (by omega)] at hm
    have a1 : (cs.map (·.nm))[m]? = some d.nm := by rw [List.getElem?_map, hm]; rfl
    have a2 : (cs.map (·.nm))[i]? = some c.nm := by rw [List.getElem?_map, h]; rfl
    obtain ⟨l1, g1⟩ := List.getElem?_eq_some_iff.mp a1
    obtain ⟨l2, g2⟩ := List.getElem?_eq_some_iff.mp a2
    exact List.pairwise_iff_getElem.mp nd m i l1 l2 (by omega) (g1.trans (e1.trans g2.symm))
  · obtain ⟨s, hs, e⟩ := List.mem_map.mp z
    have e := stK_inj e
    subst e
    obtain ⟨m, hm, e2⟩ := List.mem_map.mp hs
    have := List.mem_range.mp hm
    have e2 : m = j := congrArg Prod.snd e2
    omega
def fC : Str := "courses"
def fB : Str := "by_name"
def fL : Str := "leaving"
def gBook (Cb : Addr) (cs : List Crs) : GP := gIns Cb [("courses", gD (bokD cs)), ("by_name", gDK (byN cs)), ("leaving", gDT (leavT cs))]
theorem nCB : ¬ ("courses" : Str) = "by_name" := by decide +kernel
theorem nCL : ¬ ("courses" : Str) = "leaving" := by decide +kernel
theorem nBL : ¬ ("by_name" : Str) = "leaving" := by decide +kernel
theorem flds3 (a b c : GP) : putFG "leaving" c (putFG "by_name" b (putFG "courses" a [])) = ([("courses", a), ("by_name", b), ("leaving", c)] : Flds) := by
  show (if ("courses" : Str) = "leaving" then _ else (("courses" : Str), a) :: (if ("by_name" : Str) = "leaving" then _ else (("by_name" : Str), b) :: putFG "leaving" c [])) = _
  rw [if_neg nCL, if_neg nBL]; rfl
theorem flds2 (a b : GP) : putFG "by_name" b (putFG "courses" a []) = ([("courses", a), ("by_name", b)] : Flds) := by
  show (if ("courses" : Str) = "by_name" then _ else (("courses" : Str), a) :: putFG "by_name" b []) = _
  rw [if_neg nCB]; rfl
theorem lk (a b c : GP) : ([("courses", a), ("by_name", b), ("leaving", c)] : Flds).lookup ("courses" : Str) = some a ∧ ([("courses", a), ("by_name", b), ("leaving", c)] : Flds).lookup ("by_name" : Str) = some b ∧ ([("courses", a), ("by_name", b), ("leaving", c)] : Flds).lookup ("leaving" : Str) = some c := by
  refine ⟨?_, ?_, ?_⟩
  · rw [List.lookup_cons, show (("courses" : Str) == "courses") = true by decide +kernel]
  · rw [List.lookup_cons, show (("by_name" : Str) == "courses") = false by decide +kernel]
    show List.lookup _ _ = _
    rw [List.lookup_cons, show (("by_name" : Str) == "by_name") = true by decide +kernel]
  · rw [List.lookup_cons, show (("leaving" : Str) == "courses") = false by decide +kernel]
    show List.lookup _ _ = _
    rw [List.lookup_cons, show (("leaving" : Str) == "by_name") = false by decide +kernel]
    show List.lookup _ _ = _
    rw [List.lookup_cons, show (("leaving" : Str) == "leaving") = true by decide +kernel]
section
variable {P : Program} {w : World} {K : PySem.W.Frag} {mg : Str → Option Value} {base : Heap} {Cb : Addr}
theorem ok_cc {f : Addr} {fd : FuncData} (T : Txt K mg Cb) (F : Fun K "check_courses" "check_courses" sCc f fd) {f1 f2 : Addr} {fd1 fd2 : FuncData} (H1 : Has K mg "is_course" sIo ["course"] f1 fd1) (H2 : Has K mg "check_together" sCt ["courses", "names"] f2 fd2) (G1 : FnOk P w K mg base CX0 4 f1 fd1 ["course"] (spR K 1 Rio)) : FnOk P w K mg base CX0 5 f fd ["courses"] (spE K 1 Rcc) := by
  have G2 : FnOk P w K mg base CX0 1 f2 fd2 ["courses", "names"] (spE K 2 Rct) := ok_ct T H2.F
  obtain ⟨tmc, hmc⟩ := T.mc
  refine def_En F scCc (by decide) rfl fun cdv A outer s H E hr => ?_
  have nd := scCc.nd
  have hr1 : Room 1 _ := hr.mono (by decide)
  refine ⟨_, (pss_cons (ps_if (pt_not (pt_val (pe_callB call_isi (by rfl) T.isinstance (by decide +kernel) (pa_cons (pv 0) (pa_cons (pe_bltn (v := .ty "tuple") (u := .type "tuple") (by rfl) T.tuple (by decide +kernel) rfl) pa_nil))))) (pss_one ps_no) pss_nil)
 (pss_cons (ps_set (i := 1) nd rfl (Or.inl rfl) (pe_lst pa_nil))
 (pss_cons (ps_for PassesOwn.never rfl (pi_enumT (by rfl) T.enumerate (pa_cons (pv 0) pa_nil)) (pg_tup rfl (pgs_cons (pg_name (i := 2) nd rfl (Or.inl rfl)) (pgs_cons (pg_name (i := 3) nd rfl (Or.inl rfl)) pgs_nil))) (pss_cons (ps_if (PW.pt (pw_or (pt_cmpR (op_eqD hr.units) (pv 2) (pe_glob (v := .int 8) rfl hmc ⟨_, rfl⟩) (nomark _)) (pw_or (pt_not (pt_val (pe_call G1 hr rfl H1.m H1.F.kp H1.b .nil pass0 (pa_cons (pv 3) pa_nil)))) (pw_or1 (pt_cmpR op_in_seq (pe_ix ix_tup (pv 3) pe_int (fun _ _ => rfl)) (pv 1) (by with_unfolding_all rfl)))))) (pss_one ps_no) pss_nil)
 (pss_one (ps_expr (pe_bm PySem.F.plainAttrs_list PySem.F.slot_list_append PySem.F.type_list_append mt_append (pv 1) (pa_cons (pe_ix ix_tup (pv 3) pe_int (fun _ _ => rfl)) pa_nil))))))
 (pss_cons (ps_if (pt_cmpR (op_eqD hr.units) (pv 1) (pe_lst pa_nil) (nomark _)) (pss_one ps_no) pss_nil)
 (pss_one (ps_expr (pe_call G2 hr1 rfl H2.m H2.F.kp H2.b .nil pass0 (pa_cons (pv 0) (pa_cons (pv 1) pa_nil))))))))), ?_⟩
  rintro M G B es μ d μ' ⟨cs, rfl, rfl, rfl, ok, rfl⟩ D hn fin
  show FD.Run _ _ D M [.d (bokD cs), .u, .u, .u] []
  have few := ok.few
  refine q_no (t_notT (t_B (x_isi (x_vd rfl) (by show kitB "tuple" "tuple" = some true; decide +kernel)))) ?_
  refine q_new (ds := []) a_nil (by simp) fun a aM => ?_
  show FD.Run _ _ D (a :: M) [.d (bokD cs), .m a, .u, .u] [(a, .lst [])]
  refine q_forA (l := cs.zipIdx) (enc := fun q => PyData.tuple [.int (q.2 : Int), crsD q.1]) (by
      have h := i_enumT (C := ⟨K, M, G, B⟩) (xs := cs.map crsD) (a_cons (x_vd (M := a :: M) (μ := [(a, .lst [])]) (δ := [.d (bokD cs), .m a, .u, .u]) (i := 0) rfl) a_nil)
      rw [enumD_map] at h
      exact h)
    (fun i δ μ => ∃ e2 e3 : Ent, δ = [.d (bokD cs), .m a, e2, e3] ∧ μ = [(a, .lst (((cs.take i).map (·.nm)).map .str))]) ⟨_, _, rfl, rfl⟩ ?_ ?_
  · rintro B' xB i ⟨c, j⟩ δ1 μ1 hq ⟨e2, e3, rfl, rfl⟩
    obtain ⟨hc, rfl⟩ := zip_at hq
    have hc : cs[j]? = some c := hc
    have cm := List.mem_of_getElem? hc
    have hj := (List.getElem?_eq_some_iff.mp hc).1
    have cok := ok.ok c cm
    refine ⟨_, _, tg_tup2, ?_⟩
    show FD.Run _ _ _ (a :: M) [.d (bokD cs), .m a, .d (.int (j : Int)), .d (crsD c)] [(a, .lst (((cs.take j).map (·.nm)).map .str))]
    have hni : c.nm ∉ (cs.take j).map (·.nm) := fun z => by
      obtain ⟨m, hm⟩ := List.getElem?_of_mem z
      have ml := (List.getElem?_eq_some_iff.mp hm).1
      rw [List.length_map, List.length_take] at ml
      rw [List.map_take, List.getElem?_take, if_pos (by omega)] at hm
      have a2 : (cs.map (·.nm))[j]? = some c.nm := by rw [List.getElem?_map, hc]; rfl
      obtain ⟨l1, g1⟩ := List.getElem?_eq_some_iff.mp hm
      obtain ⟨l2, g2⟩ := List.getElem?_eq_some_iff.mp a2
      exact List.pairwise_iff_getElem.mp ok.nd m j l1 l2 (by omega) (g1.trans g2.symm)
    refine q_no (t_orF (t_test (x_is (x_op (x_vd rfl) x_int (o_eqD (.d _) (.d _) ((shp_int 0 _).shaped (by decide)) ((shp_int 0 _).shaped (by decide)))) (by rw [eqv_int, beq_eq_false_iff_ne.mpr (by omega)]))) (t_orF (t_notT (t_B (x_callR (ds := [crsD c]) (a_cons (x_vd rfl) a_nil) ⟨c, _, rfl, cok, rfl⟩))) (t_test (x_is (x_op (x_op (x_vd rfl) x_int (o_ixT (d := .str c.nm) rfl)) (x_vm rfl) (o_inL (.m (j := 0) rfl))) (by rw [decide_eq_false hni]))))) ?_
    refine r_app (j := 0) (x_vm rfl) (x_op (x_vd rfl) x_int (o_ixT (d := .str c.nm) rfl)) rfl rfl (by rw [List.length_map, List.length_map, List.length_take]; omega) ?_
    exact fun σ H o => ⟨_, _, ⟨_, _, rfl, by rw [List.take_add_one, hc, List.map_append, List.map_append]; rfl⟩, o⟩
  · rintro δ1 μ1 ⟨e2, e3, rfl, rfl⟩
    rw [List.length_zipIdx, List.take_length]
    have ne : ¬ (cs.map (·.nm)).map PyData.str = [] := fun z => ok.ne (List.map_eq_nil_iff.mp (List.map_eq_nil_iff.mp z))
    refine q_no (t_test (x_is (x_op (x_vm rfl) (x_lst (ds := []) a_nil (by simp)) (o_eqD (.m (j := 0) rfl) (.d _) ((shp_list (n := 0) fun d hd => by
      obtain ⟨x, hx, rfl⟩ := List.mem_map.mp hd
      obtain ⟨c, hc, rfl⟩ := List.mem_map.mp hx
      exact shp_str 0 (ok.ok c hc).nm.tok).shaped (by decide)) ((shp_nil 0).shaped (by decide)))) (by
        cases q : (cs.map (·.nm)).map PyData.str with
        | nil => exact absurd q ne
        | cons x y => simp [PyData.eqv, PyData.eqvAll]))) ?_
    refine r_drop (e := .d .none) (x_callE (a_cons (x_vd rfl) (a_cons (x_vm rfl) a_nil)) (swap_id (fun p hp => hp) (by simp)) (by simp) ⟨cs, a, rfl, rfl, rfl, ok, rfl⟩) ?_
    exact nx_endE hn fin fun q hq => absurd hq (by simp)
end
end K09
namespace K09
open PySem L2 FD Evl
theorem byN_keys (cs : List Crs) : (byN cs).map (·.1) = cs.map (·.nm) := by
  unfold byN
  rw [List.map_map]; rfl
def Rbi (Cb : Addr) (es : List Ent) (φ : GP) : Prop := ∃ cs : List Crs, es = [.d (bokD cs)] ∧ BokOk cs ∧ φ = gBook Cb cs
section
variable {P : Program} {w : World} {K : PySem.W.Frag} {mg : Str → Option Value} {base : Heap} {Cb : Addr}
abbrev nBi : List Str := ["self", "courses", "name", "stages", "ends", "steps", "number", "course", "left", "at", "step"]
theorem scBi : FnScope nBi ["self", "courses"] (defScope sBi) := ⟨rfl, rfl, rfl, by decide +kernel, rfl, by decide +kernel, by decide +kernel⟩
theorem ok_bi {f : Addr} {fd : FuncData} (T : Txt K mg Cb) (F : Fun K "__init__" "Book.__init__" sBi f fd) {f1 : Addr} {fd1 : FuncData} (H1 : Has K mg "check_courses" sCc ["courses"] f1 fd1) (G1 : FnOk P w K mg base CX0 5 f1 fd1 ["courses"] (spE K 1 Rcc)) : FnOk P w K mg base CX0 6 f fd ["self", "courses"] (spMk K Cb 1 (Rbi Cb)) := by
  refine def_Mk F scBi (by decide) rfl fun cdv A outer s H E hr => ?_
  have nd := scBi.nd
  refine ⟨_, (pss_cons (ps_expr (pe_call G1 hr rfl H1.m H1.F.kp H1.b .nil pass0 (pa_cons (pv 1) pa_nil)))
 (pss_cons (ps_fld (pv 0) (pv 1) rfl)
 (pss_cons (ps_fld (pv 0) (pe_dc (own := [("course", 7)]) (g := (gName 7)) (tt := tYes) rfl nd (pi_tup (pv 1)) (blkOk_by (N := nBi) (sc := defScope sBi) (by decide +kernel)) (fun _ _ _ _ _ => (pg_name (i := 7) nd rfl (Or.inl rfl))) (fun _ _ _ _ _ => pts_nil) (fun _ _ _ _ _ => (pe_ix (kix_tup (K := K) rfl) (pv 7) pe_int (fun _ _ => rfl))) (fun _ _ _ _ _ => (pv 7))) rfl)
 (pss_cons (ps_fld (pv 0) pe_dnewT rfl)
 (pss_one (ps_for PassesOwn.never rfl (pi_tup (pv 1)) (pg_tup rfl (pgs_cons (pg_name (i := 2) nd rfl (Or.inl rfl)) (pgs_cons (pg_name (i := 3) nd rfl (Or.inl rfl)) (pgs_cons (pg_name (i := 4) nd rfl (Or.inl rfl)) (pgs_cons (pg_name (i := 5) nd rfl (Or.inl rfl)) pgs_nil))))) (pss_one (ps_for PassesOwn.never rfl (pi_range1 (by rfl) T.range (pa_cons (pv 3) pa_nil)) (pg_name (i := 6) nd rfl (Or.inr rfl)) (pss_cons (ps_setLc (i := 8) (own := [("at", 9), ("step", 10)]) (g := (gTup K 2 (gCons (gName 9) (gCons (gName 10) gNil)))) rfl nd rfl rfl (sw_true rfl rfl rfl (by decide +kernel)) (pi_enumT (by rfl) T.enumerate (pa_cons (pv 5) pa_nil)) (blkOk_by (N := nBi) (sc := defScope sBi) (by decide +kernel)) (fun _ _ _ _ _ => (pg_tup rfl (pgs_cons (pg_name (i := 9) nd rfl (Or.inl rfl)) (pgs_cons (pg_name (i := 10) nd rfl (Or.inl rfl)) pgs_nil)))) (fun _ _ _ _ _ => (pts_one (pt_cmpR (kop_eqD (K := K) rfl hr.units) (pe_ix (kix_tup (K := K) rfl) (pv 10) pe_int (fun _ _ => rfl)) (pv 6) (nomark _)))) (fun _ _ _ _ _ => (pv 9)))
 (pss_one (ps_asg (pe_callTy call_tuple_of (by rfl) T.tuple (by decide +kernel) (pa_cons (pv 8) pa_nil)) (pg_sub (pe_fld (pv 0) rfl) (pe_tup (pa_cons (pv 2) (pa_cons (pv 6) pa_nil))) (set_dict (hu_of hr)))))))))))))), ?_⟩
  rintro M G B x es φ ⟨cs, rfl, ok, rfl⟩ xM D fin
  show FD.Run _ _ D (x :: M) [.m x, .d (bokD cs), .u, .u, .u, .u, .u, .u, .u, .u, .u] [(x, .ins Cb [])]
  have few := ok.few
  have tot := ok.tot
  refine q_drop (e := .d .none) (x_callE0 (a_cons (x_vd rfl) a_nil) ⟨cs, rfl, rfl, rfl, ok, rfl⟩) ?_
  refine q_fset (j := 0) (x_vd rfl) (x_vm rfl) (entG_d _) rfl T.cl T.nC (by simp) ?_
  show FD.Run _ _ D (x :: M) [.m x, .d (bokD cs), .u, .u, .u, .u, .u, .u, .u, .u, .u] [(x, .ins Cb (putFG "courses" (gD (bokD cs)) []))]
  refine q_fsetN (j := 0) (x_dc (l := byN cs) (i_tup (xs := cs.map crsD) (x_vd rfl)).toN (fun _ _ _ _ _ _ => trivial) (by unfold byN; rw [List.length_map, List.length_map]) (by rw [List.length_map]; omega) (by rw [byN_keys]; exact ok.nd) fun i d q h1 h2 B' p => ?_) (fun p pM => x_vm rfl) rfl T.cl T.nB (by show 1 < 1000; decide) fun b1 b1M => ?_
  · unfold byN at h2
    rw [List.getElem?_map] at h1 h2
    cases hc : cs[i]? with
    | none => rw [hc] at h1; cases h1
    | some c =>
      rw [hc] at h1 h2
      have h1 := Option.some.inj h1
      have h2 := Option.some.inj h2
      subst h1 h2
      refine ⟨[7], _, tg_name, fun k hk => hk, x_is (x_op (x_vd rfl) x_int (o_ixT (d := .str c.nm) rfl)) rfl, x_vd rfl⟩
  show FD.Run _ _ D (b1 :: x :: M) [.m x, .d (bokD cs), .u, .u, .u, .u, .u, .u, .u, .u, .u] [(b1, .dK (kd (byN cs))), (x, .ins Cb (putFG "by_name" (gRef b1) (putFG "courses" (gD (bokD cs)) [])))]
  refine q_fsetN (j := 1) n_newT (fun p pM => x_vm rfl) rfl T.cl T.nL (by rw [flds2]; show 2 < 1000; decide) fun b2 b2M => ?_
  show FD.Run _ _ D (b2 :: b1 :: x :: M) [.m x, .d (bokD cs), .u, .u, .u, .u, .u, .u, .u, .u, .u] [(b2, .dT []), (b1, .dK (kd (byN cs))), (x, .ins Cb (putFG "leaving" (gRef b2) (putFG "by_name" (gRef b1) (putFG "courses" (gD (bokD cs)) []))))]
  rw [flds3]
  generalize hfs : ([("courses", gD (bokD cs)), ("by_name", gRef b1), ("leaving", gRef b2)] : Flds) = fs
  have lk3 : fs.lookup ("leaving" : Str) = some (gRef b2) := by rw [← hfs]; exact (lk _ _ _).2.2
  refine r_forA (l := cs) (enc := crsD) (i_tup (x_vd rfl))
    (fun i δ μ => ∃ e2 e3 e4 e5 e6 e8 : Ent, δ = [.m x, .d (bokD cs), e2, e3, e4, e5, e6, .u, e8, .u, .u] ∧ μ = [(b2, .dT (leavT (cs.take i))), (b1, .dK (kd (byN cs))), (x, .ins Cb fs)]) ⟨_, _, _, _, _, _, rfl, rfl⟩ ?_ ?_
  · rintro B' xB i c δ1 μ1 hc ⟨e2, e3, e4, e5, e6, e8, rfl, rfl⟩
    have cm := List.mem_of_getElem? hc
    have cok := ok.ok c cm
    have h20 := cok.n2
    have ls := cok.few
    refine ⟨_, _, tg_tup4, ?_⟩
    show FD.Run _ _ _ (b2 :: b1 :: x :: M) [.m x, .d (bokD cs), .d (.str c.nm), .d (.int (c.n : Int)), .d (endsD c.ends), .d (stepsD c.steps), e6, .u, e8, .u, .u] [(b2, .dT (leavT (cs.take i))), (b1, .dK (kd (byN cs))), (x, .ins Cb fs)]
    refine r_for (i_rng1 (n := (c.n : Int)) (a_cons (x_vd rfl) a_nil) (by omega) (by omega))
      (fun j δ μ => ∃ e6 e8 : Ent, δ = [.m x, .d (bokD cs), .d (.str c.nm), .d (.int (c.n : Int)), .d (endsD c.ends), .d (stepsD c.steps), e6, .u, e8, .u, .u] ∧ μ = [(b2, .dT (leavT (cs.take i) ++ leavC c j)), (b1, .dK (kd (byN cs))), (x, .ins Cb fs)]) ⟨_, _, rfl, by rw [show leavC c 0 = [] from rfl, List.append_nil]⟩ ?_ ?_
    · rintro B2 xB2 j d δ1 μ1 hd ⟨e6, e8, rfl, rfl⟩
      have hj := (List.getElem?_eq_some_iff.mp hd).1
      rw [rngD_length] at hj
      rw [rngD_get hj, Int.zero_add] at hd
      have hd := (Option.some.inj hd).symm
      subst hd
      have hjn : j < c.n := by omega
      refine ⟨_, _, tg_name, ?_⟩
      show FD.Run _ _ _ (b2 :: b1 :: x :: M) [.m x, .d (bokD cs), .d (.str c.nm), .d (.int (c.n : Int)), .d (endsD c.ends), .d (stepsD c.steps), .d (.int (j : Int)), .u, e8, .u, .u] [(b2, .dT (leavT (cs.take i) ++ leavC c j)), (b1, .dK (kd (byN cs))), (x, .ins Cb fs)]
      refine q_asg (x_lcF (l := c.steps.zipIdx) (enc := fun q => PyData.tuple [.int (q.2 : Int), stepD q.1]) (p := fun q => decide (q.1.b = j)) (f := fun q => PyData.int (q.2 : Int)) (by
          have h := i_enumT (C := { ({ ({ K := K, M0 := M, G := G, B := B } : Cfg) with B := B' } : Cfg) with B := B2 }) (xs := c.steps.map stepD) (a_cons (x_vd (M := b2 :: b1 :: x :: M) (μ := [(b2, .dT (leavT (cs.take i) ++ leavC c j)), (b1, .dK (kd (byN cs))), (x, .ins Cb fs)]) (δ := [.m x, .d (bokD cs), .d (.str c.nm), .d (.int (c.n : Int)), .d (endsD c.ends), .d (stepsD c.steps), .d (.int (j : Int)), .u, e8, .u, .u]) (i := 5) rfl) a_nil)
          rw [enumD_map] at h
          exact h) (by rw [List.length_zipIdx]; omega) (ts := [9, 10]) (fun q => [.m x, .d (bokD cs), .d (.str c.nm), .d (.int (c.n : Int)), .d (endsD c.ends), .d (stepsD c.steps), .d (.int (j : Int)), .u, e8, .d (.int (q.2 : Int)), .d (stepD q.1)]) (fun q hq => tg_tup2) (fun k hk => hk) (fun q hq G' B3 D' => ?_) (fun q hq hp G' B3 D' => x_vd rfl)) ?_
      · refine t_test (x_is (x_op (x_op (x_vd rfl) x_int (o_ixT (d := .int (q.1.b : Int)) rfl)) (x_vd rfl) (o_eqD (.d _) (.d _) ((shp_int 0 _).shaped (by decide)) ((shp_int 0 _).shaped (by decide)))) ?_)
        rw [eqv_int]
        by_cases e : q.1.b = j
        · rw [decide_eq_true e, e]; simp
        · rw [decide_eq_false e, beq_eq_false_iff_ne.mpr (by omega)]
      refine r_tput (j := 0) (k := stK (c.nm, j)) (e := .d (posD c j)) (x_is (x_cbP (a_cons (x_vd rfl) a_nil) (c_tupleL (.d _))) (by unfold posD pos; rw [List.map_map]; rfl)) (x_gref (x_fld (x_vm rfl) (.m (by simp)) T.cl T.nL lk3)) (x_tup (ds := [.str c.nm, .int (j : Int)]) (a_cons (x_vd rfl) (a_cons (x_vd rfl) a_nil)) (by simp)) (entG_d _) rfl (by
        have h1 : leavT (cs.take i) ++ leavC c j = leavT (cs.take i) ++ leavC c j := rfl
        rw [List.length_append, leavT_len]
        have := sumN_le cs i
        unfold sumN at this
        unfold leavC
        rw [List.length_map, List.length_range]; omega) ?_
      exact fun σ H o => ⟨_, _, ⟨_, _, rfl, by rw [putG_new (key_new ok.nd hc j), List.append_assoc, leavC_succ]; rfl⟩, o⟩
    · rintro δ1 μ1 ⟨e6, e8, rfl, rfl⟩
      rw [rngD_length]
      exact fun σ H o => ⟨_, _, ⟨_, _, _, _, _, _, rfl, by rw [leavT_take hc, show ((c.n : Int)).toNat = c.n by omega]⟩, o⟩
  · rintro δ1 μ1 ⟨e2, e3, e4, e5, e6, e8, rfl, rfl⟩
    rw [List.take_length]
    intro σ H' o
    refine fin _ _ _ σ H' o ?_
    have hs : Ex (hide (b2 :: b1 :: x :: M) H') (hide M H') := hide_sub fun a ha => by simp [ha]
    obtain ⟨_, _, dx, ws, q1, q2⟩ := o.mem (x, .ins Cb fs) (by simp)
    obtain ⟨_, _, ws2, r1, r2⟩ := o.mem (b2, .dT (leavT cs)) (by simp)
    obtain ⟨_, _, ws1, s1, s2⟩ := o.mem (b1, .dK (kd (byN cs))) (by simp)
    have n1 : b1 ∉ M := fun z => b1M (by simp [z])
    have n2 : b2 ∉ M := fun z => b2M (by simp [z])
    refine ⟨x, dx, ws, rfl, by rw [hide_out xM]; exact q1, ?_⟩
    rw [← hfs] at q2
    rcases q2 with _ | ⟨u1, q2⟩
    rcases q2 with _ | ⟨u2, q2⟩
    rcases q2 with _ | ⟨u3, q2⟩
    cases q2
    refine .cons ⟨u1.1, dp_mono hs _ _ u1.2⟩ (.cons ⟨u2.1, b1, ws1, u2.2, by rw [hide_out n1]; exact s1, Paired.mapP s2 fun _ _ z => ⟨z.1, z.2.mono hs⟩⟩ (.cons ⟨u3.1, b2, ws2, u3.2, by rw [hide_out n2]; exact r1, gt_mono hs r2⟩ .nil))
end
end K09
namespace K09
open PySem L2 FD Evl
def noC : Crs := ⟨"", 0, [], []⟩
/-- the course of a name -/
def crs (cs : List Crs) (x : Str) : Crs := (cs.find? fun c => decide (c.nm = x)).getD noC
theorem crs_of {cs : List Crs} (nd : (cs.map (·.nm)).Nodup) {c : Crs} (h : c ∈ cs) : crs cs c.nm = c := by
  unfold crs
  induction cs with
  | nil => cases h
  | cons a cs ih =>
    rw [List.map_cons] at nd
    obtain ⟨n1, n2⟩ := List.nodup_cons.mp nd
    rw [List.find?_cons]
    by_cases e : a.nm = c.nm
    · rw [decide_eq_true e]
      rcases List.mem_cons.mp h with h | h
      · exact h.symm
      · exact absurd (by rw [e]; exact List.mem_map_of_mem h) n1
    · rw [decide_eq_false e]
      rcases List.mem_cons.mp h with h | h
      · exact absurd (by rw [h]) e
      · exact ih n2 h
theorem crs_mem {cs : List Crs} {x : Str} (h : x ∈ cs.map (·.nm)) : crs cs x ∈ cs ∧ (crs cs x).nm = x := by
  unfold crs
  cases q : cs.find? fun c => decide (c.nm = x) with
  | none =>
    obtain ⟨c, hc, e⟩ := List.mem_map.mp h
    have := List.find?_eq_none.mp q c hc
    exact absurd (decide_eq_true e) this
  | some c =>
    have h2 := List.find?_some q
    exact ⟨List.mem_of_find?_eq_some q, of_decide_eq_true h2⟩
theorem stg_crs {cs : List Crs} {s : Stg} (h : s ∈ stages cs) : s.1 ∈ cs.map (·.nm) := by
  obtain ⟨c, hc, e, _⟩ := stages_mem.mp h
  exact List.mem_map.mpr ⟨c, hc, e⟩
theorem stg_lt {cs : List Crs} (nd : (cs.map (·.nm)).Nodup) {s : Stg} (h : s ∈ stages cs) : s.2 < (crs cs s.1).n := by
  obtain ⟨c, hc, e, l⟩ := stages_mem.mp h
  rw [← e, crs_of nd hc]; exact l
theorem valD_crs {cs : List Crs} (nd : (cs.map (·.nm)).Nodup) {x : Str} (h : x ∈ cs.map (·.nm)) : valD (byN cs) x = some (crsD (crs cs x)) := by
  obtain ⟨h1, h2⟩ := crs_mem h
  have := valD_at (l := byN cs) (p := ((crs cs x).nm, crsD (crs cs x))) (by rw [byN_keys]; exact nd) (List.mem_map.mpr ⟨_, h1, rfl⟩)
  rwa [h2] at this
theorem valG_at {l : GTab} {k : List Key} {φ : GP} (nd : (l.map (·.1)).Nodup) (h : (k, φ) ∈ l) : valG l k = some φ := by
  induction l with
  | nil => cases h
  | cons p l ih =>
    rw [List.map_cons] at nd
    obtain ⟨n1, n2⟩ := List.nodup_cons.mp nd
    rw [valG_cons]
    rcases List.mem_cons.mp h with e | h
    · rw [← e, if_pos rfl]
    · rw [if_neg fun z => n1 (by rw [z]; exact List.mem_map_of_mem (f := (·.1)) h)]
      exact ih n2 h
theorem stages_nd {cs : List Crs} (nd : (cs.map (·.nm)).Nodup) : (stages cs).Nodup := by
  unfold stages
  induction cs with
  | nil => exact List.Pairwise.nil
  | cons c cs ih =>
    rw [List.map_cons] at nd
    obtain ⟨n1, n2⟩ := List.nodup_cons.mp nd
    rw [List.flatMap_cons]
    refine List.nodup_append.mpr ⟨List.Pairwise.map _ (fun a b ne e => ne (congrArg Prod.snd e)) List.nodup_range, ih n2, fun a ha b hb e => ?_⟩
    obtain ⟨i, _, rfl⟩ := List.mem_map.mp ha
    obtain ⟨d, hd, hb⟩ := List.mem_flatMap.mp hb
    obtain ⟨j, _, rfl⟩ := List.mem_map.mp hb
    have e : c.nm = d.nm := congrArg Prod.fst e
    exact n1 (by rw [e]; exact List.mem_map_of_mem hd)
theorem keys_nd {l : List Stg} (nd : l.Nodup) : (l.map stK).Nodup := List.Pairwise.map _ (fun a b ne e => ne (stK_inj e)) nd
theorem valG_leav {cs : List Crs} (nd : (cs.map (·.nm)).Nodup) {s : Stg} (h : s ∈ stages cs) : valG (leavT cs) (stK s) = some (gD (posD (crs cs s.1) s.2)) := by
  refine valG_at (by rw [leavT_keys]; exact keys_nd (stages_nd nd)) ?_
  obtain ⟨c, hc, e, l⟩ := stages_mem.mp h
  unfold leavT leavC
  refine List.mem_flatMap.mpr ⟨c, hc, List.mem_map.mpr ⟨s.2, List.mem_range.mpr l, ?_⟩⟩
  rw [← e, crs_of nd hc]
  refine Prod.ext ?_ rfl
  show stK (c.nm, s.2) = stK s
  rw [e]
/-- the order of stages -/
def leS (a b : Stg) : Bool := leK (stK a) (stK b)
def srt (l : List Stg) : List Stg := l.mergeSort leS
theorem srt_perm (l : List Stg) : (srt l).Perm l := List.mergeSort_perm l leS
/-- the stages in order -/
def S (cs : List Crs) : List Stg := srt (stages cs)
theorem S_mem {cs : List Crs} {s : Stg} : s ∈ S cs ↔ s ∈ stages cs := (srt_perm _).mem_iff
theorem S_nd {cs : List Crs} (nd : (cs.map (·.nm)).Nodup) : (S cs).Nodup := (srt_perm _).nodup_iff.mpr (stages_nd nd)
theorem S_len (cs : List Crs) : (S cs).length = (cs.map (·.n)).sum := by
  rw [show (S cs).length = (stages cs).length from (srt_perm _).length_eq, ← leavT_len]
  have := congrArg List.length (leavT_keys cs)
  rw [List.length_map, List.length_map] at this
  exact this.symm
theorem stg_nm {cs : List Crs} (ok : BokOk cs) {s : Stg} (h : s ∈ stages cs) : Nm s.1 := by
  obtain ⟨c, hc, e, _⟩ := stages_mem.mp h
  rw [← e]; exact (ok.ok c hc).nm
def Rbs (Cb : Addr) (es : List Ent) (μ : Mem) (d : PyData) (μ' : Mem) : Prop := ∃ (cs : List Crs) (x : Str), es = [.g (gBook Cb cs), .d (.str x)] ∧ μ = [] ∧ μ' = [] ∧ BokOk cs ∧ x ∈ cs.map (·.nm) ∧ d = stepsD (crs cs x).steps
def Rbe (Cb : Addr) (es : List Ent) (μ : Mem) (d : PyData) (μ' : Mem) : Prop := ∃ (cs : List Crs) (s : Stg), es = [.g (gBook Cb cs), .d (stD s)] ∧ μ = [] ∧ μ' = [] ∧ BokOk cs ∧ s ∈ stages cs ∧ d = .bool (decide (s.2 ∈ (crs cs s.1).ends))
def Rbf (Cb : Addr) (es : List Ent) (μ : Mem) (d : PyData) (μ' : Mem) : Prop := ∃ (cs : List Crs) (s : Stg), es = [.g (gBook Cb cs), .d (stD s)] ∧ μ = [] ∧ μ' = [] ∧ BokOk cs ∧ s ∈ stages cs ∧ d = posD (crs cs s.1) s.2
def Rbg (Cb : Addr) (es : List Ent) (μ : Mem) (d : PyData) (μ' : Mem) : Prop := ∃ cs : List Crs, es = [.g (gBook Cb cs)] ∧ μ = [] ∧ μ' = [] ∧ BokOk cs ∧ d = .tuple ((S cs).map stD)
section
variable {C : Cfg} {M : List Addr} {δ : List Ent} {μ μ1 : Mem} {te : TE} {K : PySem.W.Frag} {mg : Str → Option Value} {Cb : Addr} {cs : List Crs}
theorem x_fC (T : Txt C.K mg Cb) (h : EvX C te M δ μ μ1 (.g (gBook Cb cs))) : EvX C (tFld C.K te "courses") M δ μ μ1 (.d (bokD cs)) := x_fldD h (.g _ _) T.cl T.nC (lk _ _ _).1
theorem x_fB (T : Txt C.K mg Cb) (h : EvX C te M δ μ μ1 (.g (gBook Cb cs))) : EvX C (tFld C.K te "by_name") M δ μ μ1 (.g (gDK (byN cs))) := x_fld h (.g _ _) T.cl T.nB (lk _ _ _).2.1
theorem x_fL (T : Txt C.K mg Cb) (h : EvX C te M δ μ μ1 (.g (gBook Cb cs))) : EvX C (tFld C.K te "leaving") M δ μ μ1 (.g (gDT (leavT cs))) := x_fld h (.g _ _) T.cl T.nL (lk _ _ _).2.2
end
section
variable {P : Program} {w : World} {K : PySem.W.Frag} {mg : Str → Option Value} {base : Heap} {Cb : Addr}
abbrev nBs : List Str := ["self", "course"]
theorem scBs : FnScope nBs ["self", "course"] (defScope sBs) := ⟨rfl, rfl, rfl, by decide +kernel, rfl, by decide +kernel, by decide +kernel⟩
theorem ok_bs {f : Addr} {fd : FuncData} (T : Txt K mg Cb) (F : Fun K "steps" "Book.steps" sBs f fd) : FnOk P w K mg base CX0 1 f fd ["self", "course"] (spE K 2 (Rbs Cb)) := by
  refine def_E F scBs (by decide) rfl fun cdv A outer s H E hr => ?_
  have nd := scBs.nd
  refine ⟨_, (pss_one (ps_ret (pe_ix ix_tup (pe_dget (hu_of hr) (pe_fld (pv 0) rfl) (pv 1) (fun _ _ => rfl)) pe_int (fun _ _ => rfl)))), ?_⟩
  rintro M G B es μ d μ' ⟨cs, x, rfl, rfl, rfl, ok, hx, rfl⟩ D fin
  show FD.Run _ _ D M [.g (gBook Cb cs), .d (.str x)] []
  exact r_retE (x_op (x_kget (x_fB (C := ⟨K, M, G, B⟩) T (x_vg rfl)) (x_vd rfl) (valD_crs ok.nd hx)) x_int (o_ixT rfl)) (fun p hp => hp) fin
abbrev nBe : List Str := ["self", "stage"]
theorem scBe : FnScope nBe ["self", "stage"] (defScope sBe) := ⟨rfl, rfl, rfl, by decide +kernel, rfl, by decide +kernel, by decide +kernel⟩
theorem ok_be {f : Addr} {fd : FuncData} (T : Txt K mg Cb) (F : Fun K "is_end" "Book.is_end" sBe f fd) : FnOk P w K mg base CX0 1 f fd ["self", "stage"] (spE K 2 (Rbe Cb)) := by
  refine def_E F scBe (by decide) rfl fun cdv A outer s H E hr => ?_
  have nd := scBe.nd
  refine ⟨_, (pss_one (ps_ret (pe_cmpR op_in_seq (pe_ix ix_tup (pv 1) pe_int (fun _ _ => rfl)) (pe_ix ix_tup (pe_dget (hu_of hr) (pe_fld (pv 0) rfl) (pe_ix ix_tup (pv 1) pe_int (fun _ _ => rfl)) (fun _ _ => rfl)) pe_int (fun _ _ => rfl)) (by with_unfolding_all rfl)))), ?_⟩
  rintro M G B es μ d μ' ⟨cs, s, rfl, rfl, rfl, ok, hs, rfl⟩ D fin
  show FD.Run _ _ D M [.g (gBook Cb cs), .d (stD s)] []
  rw [stD_eq]
  refine r_retE (x_is (x_op (x_op (x_vd rfl) x_int (o_ixT (d := .int (s.2 : Int)) rfl)) (x_op (x_kget (x_fB (C := ⟨K, M, G, B⟩) T (x_vg rfl)) (x_op (x_vd rfl) x_int (o_ixT (d := .str s.1) rfl)) (valD_crs ok.nd (stg_crs hs))) x_int (o_ixT (d := endsD (crs cs s.1).ends) rfl)) o_inTi) ?_) (fun p hp => hp) fin
  congr 2
  by_cases e : s.2 ∈ (crs cs s.1).ends
  · rw [decide_eq_true e, decide_eq_true (List.mem_map.mpr ⟨_, e, rfl⟩)]
  · rw [decide_eq_false e, decide_eq_false fun z => ?_]
    obtain ⟨i, hi, q⟩ := List.mem_map.mp z
    have q : i = s.2 := by omega
    exact e (q ▸ hi)
abbrev nBf : List Str := ["self", "stage"]
theorem scBf : FnScope nBf ["self", "stage"] (defScope sBf) := ⟨rfl, rfl, rfl, by decide +kernel, rfl, by decide +kernel, by decide +kernel⟩
theorem ok_bf {f : Addr} {fd : FuncData} (T : Txt K mg Cb) (F : Fun K "steps_from" "Book.steps_from" sBf f fd) : FnOk P w K mg base CX0 1 f fd ["self", "stage"] (spE K 2 (Rbf Cb)) := by
  refine def_E F scBf (by decide) rfl fun cdv A outer s H E hr => ?_
  have nd := scBf.nd
  refine ⟨_, (pss_one (ps_ret (pe_dget (hu_of hr) (pe_fld (pv 0) rfl) (pv 1) (fun _ _ => rfl)))), ?_⟩
  rintro M G B es μ d μ' ⟨cs, s, rfl, rfl, rfl, ok, hs, rfl⟩ D fin
  show FD.Run _ _ D M [.g (gBook Cb cs), .d (stD s)] []
  exact r_retE (x_tgetD (x_fL (C := ⟨K, M, G, B⟩) T (x_vg rfl)) (x_vd rfl) (.g _) (valG_leav ok.nd hs)) (fun p hp => hp) fin
abbrev nBg : List Str := ["self"]
theorem one_shape (l : List Stg) : OneShape (l.map stK) := ⟨[false, true], by simp, fun k hk => by obtain ⟨s, _, rfl⟩ := List.mem_map.mp hk; rfl⟩
end
end K09
namespace K09
open PySem L2 FD Evl
theorem noM (a b c : GP) {m : Str} (h1 : ¬ m = ("courses" : Str)) (h2 : ¬ m = ("by_name" : Str)) (h3 : ¬ m = ("leaving" : Str)) : ([("courses", a), ("by_name", b), ("leaving", c)] : Flds).lookup m = none := by
  rw [List.lookup_cons, show (m == ("courses" : Str)) = false from beq_eq_false_iff_ne.mpr h1]
  show List.lookup _ _ = _
  rw [List.lookup_cons, show (m == ("by_name" : Str)) = false from beq_eq_false_iff_ne.mpr h2]
  show List.lookup _ _ = _
  rw [List.lookup_cons, show (m == ("leaving" : Str)) = false from beq_eq_false_iff_ne.mpr h3]
  rfl
def partsOf (x : Str) (st : Step) : List Stg := if st.call = true then [(st.nm, 0), (x, st.e)] else [(x, st.e)]
def exL (c : Crs) (i : Nat) : List (Step × Nat) := c.steps.zipIdx.filter fun q => decide (q.1.b = i)
def lineD (x : Str) (q : Step × Nat) : PyData := .tuple [.int (q.2 : Int), stepD q.1, .tuple ((partsOf x q.1).map stD)]
def exitD (cs : List Crs) (s : Stg) : PyData := .list ((exL (crs cs s.1) s.2).map (lineD s.1))
def exT (cs : List Crs) (l : List Stg) : GTab := l.map fun s => (stK s, gD (exitD cs s))
theorem exT_keys (cs : List Crs) (l : List Stg) : (exT cs l).map (·.1) = l.map stK := by
  unfold exT
  rw [List.map_map]; rfl
theorem exL_mem {c : Crs} {i : Nat} {q : Step × Nat} (h : q ∈ exL c i) : c.steps[q.2]? = some q.1 ∧ q.1.b = i := by
  unfold exL at h
  obtain ⟨h1, h2⟩ := List.mem_filter.mp h
  obtain ⟨j, hj⟩ := List.getElem?_of_mem h1
  obtain ⟨e1, e2⟩ := zip_at hj
  exact ⟨by rw [e2]; exact e1, of_decide_eq_true h2⟩
theorem exL_len {c : Crs} {i : Nat} (h : c.steps.length < 64) : (exL c i).length < 64 := by
  unfold exL
  have := List.length_filter_le (fun q : Step × Nat => decide (q.1.b = i)) c.steps.zipIdx
  rw [List.length_zipIdx] at this
  omega
def Rpo (ds : List PyData) (d : PyData) : Prop := ∃ (s : Stg) (st : Step), ds = [stD s, stepD st] ∧ d = .tuple ((partsOf s.1 st).map stD)
def Rex (Cb : Addr) (es : List Ent) (μ : Mem) (mo : MO) (μ' : Mem) : Prop := ∃ cs : List Crs, es = [.g (gBook Cb cs)] ∧ μ = [] ∧ μ' = [] ∧ BokOk cs ∧ mo = .dT (exT cs (S cs))
section
variable {P : Program} {w : World} {K : PySem.W.Frag} {mg : Str → Option Value} {base : Heap} {Cb : Addr}
abbrev nPo : List Str := ["stage", "step", "behind"]
theorem scPo : FnScope nPo ["stage", "step"] (defScope sPo) := ⟨rfl, rfl, rfl, by decide +kernel, rfl, by decide +kernel, by decide +kernel⟩
theorem ok_po {f : Addr} {fd : FuncData} (T : Txt K mg Cb) (F : Fun K "parts_of" "parts_of" sPo f fd) : FnOk P w K mg base CX0 1 f fd ["stage", "step"] (spR K 2 Rpo) := by
  refine def_R F scPo (by decide) fun cdv A outer s H E hr => ?_
  have nd := scPo.nd
  refine ⟨_, (pss_cons (ps_set (i := 2) nd rfl (Or.inl rfl) (pe_tup (pa_cons (pe_ix ix_tup (pv 0) pe_int (fun _ _ => rfl)) (pa_cons (pe_ix ix_tup (pv 1) pe_int (fun _ _ => rfl)) pa_nil))))
 (pss_cons (ps_if (pt_cmpR (op_eqD hr.units) (pe_ix ix_tup (pv 1) pe_int (fun _ _ => rfl)) pe_str (nomark _)) (pss_one (ps_ret (pe_tup (pa_cons (pv 2) pa_nil)))) pss_nil)
 (pss_one (ps_ret (pe_tup (pa_cons (pe_tup (pa_cons (pe_ix ix_tup (pv 1) pe_int (fun _ _ => rfl)) (pa_cons pe_int pa_nil))) (pa_cons (pv 2) pa_nil))))))), ?_⟩
  rintro M G B ds d _ ⟨s, st, rfl, rfl⟩ D fin
  show FD.Run _ _ D M [.d (stD s), .d (stepD st), .u] []
  rw [stepD_eq]
  refine q_asg (e := .d (stD (s.1, st.e))) (x_tup (ds := [.str s.1, .int (st.e : Int)]) (a_cons (x_op (x_vd rfl) x_int (o_ixT (d := .str s.1) rfl)) (a_cons (x_op (x_vd rfl) x_int (o_ixT (d := .int (st.e : Int)) rfl)) a_nil)) (by simp)) ?_
  show FD.Run _ _ D M [.d (stD s), .d (.tuple [.int (st.b : Int), .str (wh st.call), .str st.nm, .int (st.e : Int)]), .d (stD (s.1, st.e))] []
  refine q_when (b := !st.call) (t_is (t_test (x_op (x_op (x_vd rfl) x_int (o_ixT (d := .str (wh st.call)) rfl)) x_str (o_eqD (.d _) (.d _) (shp_wh _) (shp_wh false)))) (by rw [eqv_str]; cases st.call <;> decide)) (fun hb => ?_) fun hb => ?_
  · have hc : st.call = false := by simpa using hb
    refine r_retP (x_is (x_tup (ds := [stD (s.1, st.e)]) (a_cons (x_vd rfl) a_nil) (by simp)) ?_) fin
    unfold partsOf
    rw [hc]; rfl
  · have hc : st.call = true := by simpa using hb
    refine r_retP (x_is (x_tup (ds := [stD (st.nm, 0), stD (s.1, st.e)]) (a_cons (x_tup (ds := [.str st.nm, .int 0]) (a_cons (x_op (x_vd rfl) x_int (o_ixT (d := .str st.nm) rfl)) (a_cons x_int a_nil)) (by simp)) (a_cons (x_vd rfl) a_nil)) (by simp)) ?_) fin
    unfold partsOf
    rw [hc]; rfl
abbrev nEx : List Str := ["book", "leaving", "stage", "steps", "k"]
end
end K09
/-! reversed(list) walked -/
namespace FD
open PySem L2 Evl
theorem w_rev {K : PySem.W.Frag} {Hh : Hp} {a : Addr} {vs : List V} {xs : List PyData} (h : SqL K Hh a vs) (hd : DpAll K Hh vs xs) : WalkD K (Itv K a vs.length) Hh xs.reverse where
  go := fun M i H hi _ x => by
    rw [List.length_reverse, ← hd.length] at hi
    exact ⟨hi, vs, vs[vs.length - 1 - i], ex_l (x.trans hide_le) h, List.getElem?_eq_getElem (by omega)⟩
  stop := fun M H _ x => by
    show vs.length ≤ xs.reverse.length
    rw [List.length_reverse, hd.length]; exact Nat.le_refl _
  yld := fun M i H y H' hi _ x q => by
    obtain ⟨e, q⟩ := q
    subst e
    rw [List.length_reverse] at hi
    have hl := hd.length
    have hx : xs.reverse[i]? = xs[xs.length - 1 - i]? := List.getElem?_reverse hi
    refine ⟨Ex.refl _, xs[xs.length - 1 - i]'(by omega), by rw [hx]; exact List.getElem?_eq_getElem (by omega), ?_⟩
    obtain ⟨v, h1, h2⟩ := hd.get (i := xs.length - 1 - i) (d := xs[xs.length - 1 - i]'(by omega)) (List.getElem?_eq_getElem (by omega))
    have := q vs (ex_l (x.trans hide_le) h)
    rw [hl, h1] at this
    cases this
    exact dp_mono x _ _ h2
theorem i_rev {C : Cfg} {M : List Addr} {δ : List Ent} {μ μ' : Mem} {tr : TA} {xs : List PyData} (h : EvA C tr M δ μ μ' [.d (.list xs)]) : EvI C (iRev C.K tr) M δ μ μ' xs.reverse := fun σ H o R k => h σ H o _ fun vs H1 o1 x1 r => by
  obtain ⟨v, rfl, q⟩ := p1 r
  obtain ⟨a, ws, e1, e2, e3⟩ := Dp.lst_of q
  exact ⟨a, ws, by rw [e1], ex_l hide_le e2, k _ H1 o1 x1 (w_rev e2 e3)⟩
end FD
/-! the order of tuples of ints and texts is a total one -/
namespace FD
open PySem PySem.Spec L2 PyProof.Rows PySem.W PySem.Froz
theorem leK_tot : TotalLe leK := sortLe_total (listOrd itemOrd) false (fun q : List Key => keyToks (rowK q))
theorem toks_keys : ∀ {k l : List Key}, keyToksAll (k.map kyD) = keyToksAll (l.map kyD) → k = l
  | [], [], _ => rfl
  | [], y :: l, h => by cases y <;> simp [keyToksAll] at h
  | x :: k, [], h => by cases x <;> simp [keyToksAll] at h
  | x :: k, y :: l, h => by
    cases x <;> cases y
    · simp [kyD, keyToksAll, keyToks] at h
      rw [h.1, toks_keys h.2]
    · simp [kyD, keyToksAll, keyToks] at h
    · simp [kyD, keyToksAll, keyToks] at h
    · simp only [List.map_cons, kyD, keyToksAll, keyToks, List.cons_append, List.nil_append, List.cons.injEq, Sum.inr.injEq, true_and] at h
      rw [str_of_cps h.1, toks_keys h.2]
theorem leK_anti {k l : List Key} (h : leK k l = true) (q : leK l k = true) : k = l := by
  have h : (!(listOrd itemOrd).blt (keyToks (rowK l)) (keyToks (rowK k))) = true := h
  have q : (!(listOrd itemOrd).blt (keyToks (rowK k)) (keyToks (rowK l))) = true := q
  have e := (listOrd itemOrd).total (keyToks (rowK k)) (keyToks (rowK l)) (by simpa using q) (by simpa using h)
  simp only [rowK, keyToks] at e
  exact toks_keys e
theorem leK_asc (l : List (List Key)) : (l.mergeSort leK).Pairwise fun a b => leK a b = true :=
  List.pairwise_mergeSort (fun a b c => leK_tot.trans a b c) (fun a b => by rw [Bool.or_eq_true]; exact leK_tot.total a b) _
/-- the one rising list of some -/
theorem asc_is {l m : List (List Key)} (h : l.Pairwise fun a b => leK a b = true) (p : l.Perm m) : l = m.mergeSort leK :=
  asc_one (fun a b => leK_anti) h (leK_asc m) (p.trans (List.mergeSort_perm m leK).symm)
end FD
/-! lists of one's own: made, popped from, handed back as data; loops in which new objects come up -/
namespace FD
open PySem L2 Evl
section
variable {C : Cfg} {M : List Addr} {δ : List Ent} {μ μ' μ1 μ2 μ3 : Mem} {te ta tb : TE} {tr : TA} {e : Ent} {es : List Ent} {i j n : Nat} {a p : Addr} {D : Ends} {t2 ts : TS} {mo : MO} {d : PyData} {ds : List PyData} {wi : TI} {g : TG} {tt : TT} {k : List Key} {l : GTab} {t : TT} {σ : L2.St} {H : Hp}
theorem n_newL {tr : TA} (h : EvA C tr M δ μ μ' (ds.map Ent.d)) (hl : ds.length ≤ 100000) : EvN C (tLst tr) M δ μ μ' (.lst ds) := fun σ H o Q kk =>
  h σ H o _ fun vs H1 o1 x1 r => ⟨by have := (dpAll_of r).length; rw [this]; exact sz_of hl, fun p hp => by
    have o2 := o1.new hp (mo := .lst ds) (ho := .lst vs) ⟨vs, upd_same, dpAll_mono (hide_new hp) _ _ (dpAll_of r)⟩
    exact kk p _ (o1.fresh hp) o2 (x1.trans (hide_new hp))⟩
theorem n_lcN {N : Hp → Prop} {wi : TI} {g : TG} {vs : List Nat} {xs : List PyData} (S : Nat → Mem) (b : Nat → Bool) (f : Nat → PyData) (hi : EvIN C wi M δ μ (S 0) N xs) (hN : ∀ (i : Nat) (B : Hp) (D : Addr) (σ : L2.St) (H : Hp), i ≤ xs.length → Ok { C with B := B } (D :: M) δ (S i) σ H → N H) (hz : xs.length ≤ 100000)
    (hs : ∀ (i : Nat) (d : PyData), xs[i]? = some d → ∀ (G B : Hp) (D : Addr), LcTurn { C with G := G, B := B } g t te vs (D :: M) δ (S i) (S (i + 1)) d (b i) (f i)) :
    EvN C (tLc wi g t te vs) M δ μ (S xs.length) (.lst (lcD b f xs.length)) := fun σ H o Q k => by
  refine hi σ H o _ fun J H1 o1 x1 W D hD => ?_
  have oB := o1.toB
  have hDM : D ∉ M := o1.fresh hD
  have o2 : Ok { C with B := hide M H1 } (D :: M) δ (S 0) σ (upd H1 D (.lst [])) :=
    (oB.new hD (mo := .lst []) ⟨[], upd_same, .nil⟩).mems (fun p hp => List.mem_cons_of_mem _ hp) o1.nd
  have hS : ∀ {i : Nat} {H'}, Ok { C with B := hide M H1 } (D :: M) δ (S i) σ H' → (∀ p ∈ S i, p.1 ∈ M) → ∀ p ∈ S i, p.1 ≠ D := fun o' h p hp z => hDM (z ▸ h p hp)
  have gD : C.G D = none := by
    cases z : C.G D with
    | none => rfl
    | some u => have := o1.gr D u z; rw [hD] at this; cases this
  refine ⟨fun i m H' => m = xs.length - i ∧ i ≤ xs.length ∧ (∀ p ∈ S i, p.1 ∈ M) ∧ Ok { C with B := hide M H1 } (D :: M) δ (S i) σ H' ∧ ∃ acc, H' D = some (.lst acc) ∧ DpAll C.K (hide (D :: M) H') acc (lcD b f i),
    ⟨xs.length, by simp, Nat.zero_le _, fun p hp => (o1.mem p hp).1, o2, [], upd_same, .nil⟩, ?_⟩
  rintro i m H' ⟨rfl, hi', hSM, oi, acc, hacc, dacc⟩
  by_cases hlt : i < xs.length
  · refine .inr ⟨W.go (D :: M) i H' hlt oi.alloc oi.base (hN i _ _ _ _ hi' oi), fun H'' => (∀ p ∈ S (i + 1), p.1 ∈ M) ∧ Ok { C with B := hide M H1 } (D :: M) δ (S (i + 1)) σ H'' ∧ ∃ acc, H'' D = some (.lst acc) ∧ DpAll C.K (hide (D :: M) H'') acc (lcD b f (i + 1)),
      fun H'' q => ⟨xs.length - (i + 1), by omega, rfl, hlt, q⟩, fun x H2 y => ?_⟩
    obtain ⟨e2, d, hd, dx⟩ := W.yld (D :: M) i H' x H2 hlt oi.alloc oi.base (hN i _ _ _ _ hi' oi) y
    have o3 := oi.grow e2
    have nD : ∀ p ∈ S i, p.1 ≠ D := hS oi hSM
    -- all that is hidden and not spoken of stays: the list at D
    have o4 := o3.toG
    obtain ⟨ts, δ', μ1, tg, hts, ht, he, hno⟩ := (hs i d hd (hide ((S i).map (·.1)) H2) (hide M H1) D).go
    have hD2 : H2 D = some (.lst acc) := e2 D _ hacc
    have gD2 : hide ((S i).map (·.1)) H2 D = some (.lst acc) := by
      rw [hide_out (fun z => ?_)]
      · exact hD2
      · obtain ⟨r, hr, er⟩ := List.mem_map.mp z
        exact nD r hr er
    refine tg _ _ _ _ _ _ rfl (o4.wiped vs) dx _ fun σ2 o5 hl2 hσ2 => ⟨wipe_eq (by rw [hl2, wipe_length]) hσ2 hts, ?_⟩
    refine ht σ2 H2 o5 _ fun H3 o6 x6 => ?_
    have memM : ∀ {μ9 : Mem} {δ9 : List Ent} {σ9 : L2.St} {H9 : Hp}, Ok { C with G := hide ((S i).map (·.1)) H2, B := hide M H1 } (D :: M) δ9 μ9 σ9 H9 → ∀ p ∈ μ9, p.1 ∈ M := fun o9 p hp => by
      have a := (o9.mem p hp).1
      have g9 : hide ((S i).map (·.1)) H2 p.1 = none := (o9.mem p hp).2.1
      rcases List.mem_cons.mp a with z | z
      · rw [z, gD2] at g9; cases g9
      · exact z
    cases hb : b i with
    | true =>
      rw [if_pos rfl]
      refine he hb σ2 H3 o6 _ fun v H4 o7 x7 r7 => ?_
      have hD4 : H4 D = some (.lst acc) := o7.gr D _ gD2
      have o8 : Ok { C with B := hide M H1 } (D :: M) δ (S (i + 1)) σ H4 := o3.swap (o3.ofG o7) (x6.trans x7)
      have hSM' : ∀ p ∈ S (i + 1), p.1 ∈ M := memM o7
      have hlen : acc.length ≤ i := by rw [dacc.length]; exact lcD_len b f i
      refine ⟨acc, hD4, sz_lt (by omega), hSM', o8.writeH List.mem_cons_self (fun p hp z => hDM (z ▸ hSM' p hp)) gD (by rw [hD4]; rfl), _, upd_same, ?_⟩
      rw [hide_upd List.mem_cons_self (by rw [hD4]; rfl) rfl, lcD_yes hb]
      exact (dpAll_mono ((hide_ex e2).trans (x6.trans x7)) _ _ dacc).append (.cons r7 .nil)
    | false =>
      rw [if_neg Bool.false_ne_true]
      have hm := hno hb
      subst hm
      refine ⟨memM o6, o3.swap (o3.ofG o6) x6, acc, o6.gr D _ gD2, ?_⟩
      rw [lcD_no hb]
      exact dpAll_mono ((hide_ex e2).trans x6) _ _ dacc
  · have ei : i = xs.length := by omega
    subst ei
    refine .inl ⟨W.stop (D :: M) H' oi.alloc oi.base (hN _ _ _ _ _ hi' oi), ?_⟩
    have oE : Ok C (D :: M) δ (S xs.length) σ H' := oi.reB o1.base
    have nDS : D ∉ (S xs.length).map (·.1) := fun z => by
      obtain ⟨r, hr, er⟩ := List.mem_map.mp z
      exact hDM (er ▸ hSM r hr)
    have xE : Ex (hide M H) (hide (D :: M) H') := x1.trans oi.base
    exact k D H' hDM ⟨oE.len, oE.slot, fun p hp => (List.mem_cons.mp hp).elim (fun z => by rw [z]; exact ⟨List.mem_cons_self, gD, acc, hacc, dacc⟩) (fun z => oE.mem p z), List.nodup_cons.mpr ⟨nDS, oE.nd⟩, oE.alloc, oE.sub, oE.gr, oE.base⟩ xE
/-- a new list that nobody holds is data -/
theorem x_newD (h : EvN C te M δ μ μ1 (.lst ds)) : EvX C te M δ μ μ1 (.d (.list ds)) := fun σ H o Q kk => h σ H o _ fun p H1 pM o1 x1 => by
  have s1 : ∀ a ∈ M, a ∈ p :: M := fun a ha => List.mem_cons_of_mem _ ha
  have nd := List.nodup_cons.mp o1.nd
  have o2 : Ok C (p :: M) δ μ1 σ H1 := o1.mems (fun q hq => List.mem_cons_of_mem _ hq) nd.2
  have o3 : Ok C M δ μ1 σ H1 := o2.drop s1 (fun q hq => (List.mem_cons.mp (o2.mem q hq).1).elim (fun z => absurd (List.mem_map.mpr ⟨q, hq, z⟩) nd.1) id) o.sub
  obtain ⟨_, _, vs, q1, q2⟩ := o1.mem _ List.mem_cons_self
  exact kk _ H1 o3 (x1.trans (hide_sub s1)) (.lst (sq_of (by rw [hide_out pM]; exact q1)) (dpAll_mono (hide_sub s1) _ _ q2))
/-- a list of one's own handed back as data -/
theorem r_retEL (h : EvX C te M δ μ μ1 (.m a)) (hj : (a, .lst ds) ∈ μ1) (ha : a ∉ C.M0) (hs : ∀ p ∈ μ', p ∈ μ1) (kk : FinE C D (.list ds) μ') : Run C (tRet te) D M δ μ := fun σ H o => h σ H o _ fun v H1 o1 x1 r => by
  have r' : v = .ref a := r
  subst r'
  obtain ⟨q0, q1, vs, q2, q3⟩ := o1.mem _ hj
  have s1 : ∀ b ∈ M.filter (fun b => decide (b ≠ a)), b ∈ M := fun b hb => (List.mem_filter.mp hb).1
  have na : a ∉ M.filter (fun b => decide (b ≠ a)) := fun z => of_decide_eq_true (List.mem_filter.mp z).2 rfl
  refine kk (.ref a) (M.filter fun b => decide (b ≠ a)) H1 o1.gr (fun b hb => List.mem_filter.mpr ⟨o1.sub b hb, decide_eq_true fun z => ha (z ▸ hb)⟩) (fun p hp => (o1.mem p (hs p hp)).2.2.mono (hide_sub s1) fun _ q => q) ?_
  exact .lst (sq_of (by rw [hide_out na]; exact q2)) (dpAll_mono (hide_sub s1) _ _ q3)
/-- a list that nobody changes any more is data -/
theorem Ok.settle (o : Ok C (p :: M) δ ((p, .lst ds) :: μ) σ H) (pM : p ∉ M) (h0 : ∀ a ∈ C.M0, a ∈ M) (hi : δ[i]? = some (.m p)) : Ok C M (δ.set i (.d (.list ds))) μ σ H := by
  have nd : p ∉ μ.map (·.1) ∧ (μ.map (·.1)).Nodup := List.nodup_cons.mp o.nd
  have o1 : Ok C (p :: M) δ μ σ H := o.mems (fun q hq => List.mem_cons_of_mem _ hq) nd.2
  have o2 : Ok C M δ μ σ H := o1.drop (fun a ha => List.mem_cons_of_mem _ ha) (fun q hq => (List.mem_cons.mp (o.mem q (List.mem_cons_of_mem _ hq)).1).elim (fun z => absurd (List.mem_map.mpr ⟨q, hq, z⟩) nd.1) id) h0
  obtain ⟨_, _, vs, q1, q2⟩ := o.mem _ List.mem_cons_self
  obtain ⟨v, hv, ev⟩ := o.slot i _ hi (fun z => nomatch z)
  have ev : v = .ref p := ev
  subst ev
  have dp : EntOk C.K (hide M H) (.d (.list ds)) (.ref p) := .lst (sq_of (by rw [hide_out pM]; exact q1)) (dpAll_mono (hide_sub fun a ha => List.mem_cons_of_mem _ ha) _ _ q2)
  have o3 := o2.set i dp
  have e : σ.set i (some (.ref p)) = σ := by
    refine List.ext_getElem? fun j => ?_
    by_cases ej : i = j
    · subst ej
      rw [List.getElem?_set_self (List.getElem?_eq_some_iff.mp hv).1, hv]
    · rw [List.getElem?_set_ne ej]
  rwa [e] at o3
theorem run_settle (pM : p ∉ M) (h0 : ∀ a ∈ C.M0, a ∈ M) (hi : δ[i]? = some (.m p)) (h : FD.Run C ts D M (δ.set i (.d (.list ds))) μ) : FD.Run C ts D (p :: M) δ ((p, .lst ds) :: μ) := fun σ H o => h σ H (o.settle pM h0 hi)
theorem run_forget (h0 : ∀ a ∈ C.M0, a ∈ M) (h : FD.Run C ts D M δ μ) : FD.Run C ts D (p :: M) δ ((p, mo) :: μ) := fun σ H o => by
  have nd : p ∉ μ.map (·.1) ∧ (μ.map (·.1)).Nodup := List.nodup_cons.mp o.nd
  have o1 : Ok C (p :: M) δ μ σ H := o.mems (fun q hq => List.mem_cons_of_mem _ hq) nd.2
  exact h σ H (o1.drop (fun a ha => List.mem_cons_of_mem _ ha) (fun q hq => (List.mem_cons.mp (o.mem q (List.mem_cons_of_mem _ hq)).1).elim (fun z => absurd (List.mem_map.mpr ⟨q, hq, z⟩) nd.1) id) h0)
theorem dp_erase {K : PySem.W.Frag} {Hh : Hp} : ∀ {vs : List V} {ds : List PyData}, DpAll K Hh vs ds → ∀ m : Nat, DpAll K Hh (vs.eraseIdx m) (ds.eraseIdx m)
  | _, _, .nil, _ => .nil
  | _, _, .cons h t, 0 => t
  | _, _, .cons h t, m + 1 => .cons h (dp_erase t m)
/-- x.pop(k), a value -/
theorem x_popAt {m : Nat} (hx : EvX C ta M δ μ μ1 (.m a)) (h1 : μ1[j]? = some (a, .lst ds)) (h : EvX C te M δ μ1 μ2 (.d (.int (m : Int)))) (hj : μ2[j]? = some (a, .lst ds)) (hm : ds[m]? = some d) (hz : ds.length < 100000) :
    EvX C (tBM C.K "list" rPopAt ta (tCons te tNil)) M δ μ (μ2.set j (a, .lst (ds.eraseIdx m))) (.d d) := fun σ H o Q kk => hx σ H o _ fun v H1 o1 x1 r1 => by
  have e1 : v = .ref a := r1
  subst e1
  obtain ⟨_, _, vs1, q1, q2⟩ := o1.mem _ (List.mem_of_getElem? h1)
  refine ⟨.inl ⟨rfl, _, SqL.of q1⟩, ?_⟩
  refine h σ H1 o1 _ fun w H2 o2 x2 r2 => ?_
  obtain ⟨aM, _, vs, q3, q4⟩ := o2.mem _ (List.mem_of_getElem? hj)
  have ml : m < ds.length := (List.getElem?_eq_some_iff.mp hm).1
  obtain ⟨y, hy, dy⟩ := q4.get hm
  refine ⟨a, vs, (m : Int), m, y, rfl, by rw [Dp.int_of r2], q3, by omega, by omega, ?_, hy, ?_⟩
  · unfold seqIndex?
    rw [q4.length]
    simp only []
    split <;> first | omega | (simp; try omega)
  · have o3 := o2.write hj (mo' := .lst (ds.eraseIdx m)) (ho := .lst (vs.eraseIdx m)) ⟨_, upd_same, dp_erase q4 m⟩
    have back : Ex (hide M H2) (hide M (upd H2 a (.lst (vs.eraseIdx m)))) := by rw [hide_upd aM (by rw [q3]; rfl) rfl]; exact Ex.refl _
    exact kk y _ o3 ((x1.trans x2).trans back) (dp_mono back _ _ dy)
/-- d[k] = a new object -/
theorem r_tputN (h : EvN C te M δ μ μ1 mo) (hx : ∀ p, p ∉ M → EvX C ta (p :: M) δ ((p, mo) :: μ1) ((p, mo) :: μ1) (.m a)) (hi : ∀ p, p ∉ M → EvX C tb (p :: M) δ ((p, mo) :: μ1) ((p, mo) :: μ1) (.d (rowK k))) (hj : μ1[j]? = some (a, .dT l)) (hl : l.length < 1000)
    (kk : ∀ p, p ∉ M → Nx C D (p :: M) δ ((p, mo) :: μ1.set j (a, .dT (putG l k (gRef p))))) : Run C (tAsg te (gSub ta tb rSetD)) D M δ μ := fun σ H o => h σ H o _ fun p H1 pM o1 x1 => hx p pM σ H1 o1 _ fun w H2 o2 x2 r2 => hi p pM σ H2 o2 _ fun z H3 o3 x3 r3 => by
  have hj' : ((p, mo) :: μ1)[j + 1]? = some (a, .dT l) := hj
  have e1 : w = .ref a := r2
  obtain ⟨b, e2, e4⟩ := rowK_at r3
  obtain ⟨_, _, ws, q3, q4⟩ := o3.mem _ (List.mem_of_getElem? hj')
  refine ⟨a, _, e1, .inr ⟨ws, k, b, q3, e2, (hide_some e4).2, sz_lt (by rw [gt_len q4]; omega), rfl⟩, ?_⟩
  exact kk p pM _ _ (o3.write hj' ⟨_, upd_same, gt_put q4 k (show (gRef p).p C.K _ (.ref p) from rfl)⟩)
/-! ### loops in which new objects come up -/
def NXM (C : Cfg) (P : List Addr → List Ent → Mem → Prop) : L2.St → Hp → Prop := fun σ H => ∃ M δ μ, P M δ μ ∧ Ok C M δ μ σ H
theorem r_forNM {xs : List PyData} (hi : EvI C wi M δ μ μ1 xs) (P : Nat → List Addr → List Ent → Mem → Prop) (h0 : P 0 M δ μ1)
    (hs : ∀ B, Ex C.B B → ∀ (i : Nat) (d : PyData) (M1 : List Addr) (δ1 : List Ent) (μ1 : Mem), xs[i]? = some d → P i M1 δ1 μ1 → ∃ tl δ2, TgX C.K g tl d δ1 δ2 ∧
      Run { C with B := B } ts { D with nx := NXM { C with B := B } (P (i + 1)), ct := NXM { C with B := B } (P (i + 1)), bk := D.nx } M1 δ2 μ1)
    (hd : ∀ M1 δ1 μ1, P xs.length M1 δ1 μ1 → Nx C D M1 δ1 μ1) : Run C (tFor wi g ts) D M δ μ := fun σ H o => by
  refine hi σ H o _ fun J H1 o1 x1 W => ?_
  refine ⟨fun i m σ' H' => m = xs.length - i ∧ i ≤ xs.length ∧ NXM { C with B := hide M H1 } (P i) σ' H', ⟨xs.length, by simp, Nat.zero_le _, M, δ, μ1, h0, o1.toB⟩, ?_⟩
  rintro i m σ' H' ⟨rfl, hi', M1, δ1, μ1, hP, oi⟩
  by_cases hlt : i < xs.length
  · refine .inr ⟨W.go M1 i H' hlt oi.alloc oi.base, NXM { C with B := hide M H1 } (P (i + 1)), fun σ2 H2 q => ⟨xs.length - (i + 1), by omega, rfl, hlt, q⟩, fun x H2 y => ?_⟩
    obtain ⟨e2, d, hd, dx⟩ := W.yld M1 i H' x H2 hlt oi.alloc oi.base y
    obtain ⟨tl, δ2, tg, run⟩ := hs (hide M H1) o1.base i d M1 δ1 μ1 hd hP
    exact tg { C with B := hide M H1 } _ _ _ _ _ rfl (oi.grow e2) dx _ fun σ3 o3 _ _ => run σ3 H2 o3
  · have ei : i = xs.length := by omega
    subst ei
    exact .inl ⟨W.stop M1 H' oi.alloc oi.base, hd M1 δ1 μ1 hP σ' H' (oi.reB o1.base)⟩
theorem q_forNM {xs : List PyData} (hi : EvI C wi M δ μ μ1 xs) (P : Nat → List Addr → List Ent → Mem → Prop) (h0 : P 0 M δ μ1)
    (hs : ∀ B, Ex C.B B → ∀ (i : Nat) (d : PyData) (M1 : List Addr) (δ1 : List Ent) (μ1 : Mem), xs[i]? = some d → P i M1 δ1 μ1 → ∃ tl δ2, TgX C.K g tl d δ1 δ2 ∧
      Run { C with B := B } ts { D with nx := NXM { C with B := B } (P (i + 1)), ct := NXM { C with B := B } (P (i + 1)), bk := t2 D } M1 δ2 μ1)
    (hd : ∀ M1 δ1 μ1, P xs.length M1 δ1 μ1 → Run C t2 D M1 δ1 μ1) : Run C (tSeq (tFor wi g ts) t2) D M δ μ := r_forNM (D := { D with nx := t2 D }) hi P h0 hs hd
/-- lists held by a dict, that nobody changes any more -/
theorem gt_settle {K : PySem.W.Frag} {Hh Hh2 : Hp} (x : Ex Hh Hh2) {ws : List (List Key × V)} {l l2 : GTab} (g : GtOk K Hh ws l) (h : Paired (fun (q r : List Key × GP) => q.1 = r.1 ∧ ∀ v, q.2.p K Hh v → r.2.p K Hh2 v) l l2) : GtOk K Hh2 ws l2 := by
  induction g generalizing l2 with
  | nil => cases h; exact .nil
  | @cons p q ps qs hq _ ih =>
    cases h with
    | cons h1 h2 => exact .cons ⟨hq.1.trans h1.1, h1.2 _ hq.2⟩ (ih h2)
end
end FD
/-! Dicts with stages as keys, compared, whatever the order of their keys. -/
namespace FD
open PySem L2 Evl PySem.Spec
section
variable {prog : Program} {w : World} {κ : Type} [DecidableEq κ] {kk : HeapKind prog w κ} {A : Around} {E : Value → Shared → Prop} {s : Shared}
/-- how the entries of one dict fare in another one -/
inductive HitsH {κ : Type} [DecidableEq κ] (A : Around) (s : Shared) (ys : List (κ × Addr × Value)) : List (κ × Addr × Value) → Bool → Prop
  | nil : HitsH A s ys [] true
  | miss {x : κ × Addr × Value} {r : List (κ × Addr × Value)} : atKey ys x.1 = none → HitsH A s ys (x :: r) false
  | hit {x : κ × Addr × Value} {r : List (κ × Addr × Value)} {p : Addr × Value} {e b : Bool} : atKey ys x.1 = some p → SeqAt.EqAt A s x.2.2 p.2 e → HitsH A s ys r b → HitsH A s ys (x :: r) (e && b)
theorem HitsH.back {ys r : List (κ × Addr × Value)} {x : κ × Addr × Value} {b : Bool} (h : HitsH A s ys (x :: r) b) :
    (atKey ys x.1 = none ∧ b = false) ∨ ∃ p e b2, atKey ys x.1 = some p ∧ SeqAt.EqAt A s x.2.2 p.2 e ∧ HitsH A s ys r b2 ∧ b = (e && b2) := by
  cases h with
  | miss q => exact .inl ⟨q, rfl⟩
  | hit q1 q2 q3 => exact .inr ⟨_, _, _, q1, q2, q3, rfl⟩
theorem rng_split {i n x : Nat} {rest : List Nat} (h : x :: rest = List.range' i (n - i)) : i < n ∧ x = i ∧ rest = List.range' (i + 1) (n - (i + 1)) := by
  have lt : i < n := by
    by_cases q : i < n
    · exact q
    · rw [show n - i = 0 by omega] at h; cases h
  rw [show n - i = (n - (i + 1)) + 1 by omega, List.range'_succ] at h
  injection h with h1 h2
  exact ⟨lt, h1, h2⟩
theorem pairsH {nm : String} {c d : Addr} {xs ys : List (κ × Addr × Value)} {r : Bool} {Q : Bool → Shared → Prop} (hc : (c == sysModules) = false) (hd : (d == sysModules) = false)
    (X : s.heap.DictOfH kk c xs) (Y : s.heap.DictOfH kk d ys) (hu : kk.room A) (hh : xs.length = ys.length → HitsH A s ys xs r) (h : Q (xs.length == ys.length && r) s) :
    wpAny (model prog w) A (Builtin.Dict.samePairs nm c d) Q E s := by
  obtain ⟨o1, es, p1, g1, _, t1, l1, k1, n1⟩ := X
  obtain ⟨o2, fs, p2, g2, _, t2, l2, k2, n2⟩ := Y
  have z1 : es.size = xs.length := size_of_entries l1
  have z2 : fs.size = ys.length := size_of_entries l2
  rw [← z1, ← z2] at h
  unfold Builtin.Dict.samePairs; unfold Builtin.Dict.showsAll
  rw [if_neg (by rw [hc]; decide), if_neg (by rw [hd]; decide)]
  refine wpAny_bind (wpAny_pure (wpAny_bind (wpAny_pure (wpAny_bind (wpAny_dictEntries g1 t1 ?_)))))
  dsimp only
  refine wpAny_bind (wpAny_dictEntries g2 t2 ?_)
  by_cases sz : es.size = fs.size
  case neg =>
    rw [show (es.size == fs.size) = false from beq_eq_false_iff_ne.mpr sz, Bool.false_and] at h
    rw [if_pos (bne_iff_ne.mpr sz)]
    exact wpAny_bind (wpAny_rule (wpAny_pure h))
  case pos =>
    rw [sz, beq_self_eq_true, Bool.true_and] at h
    have hits := hh (by omega)
    rw [if_neg (by rw [sz, bne_self_eq_false]; decide)]
    refine wpAny_bind (wpAny_dictEpoch g1 t1 (wpAny_bind ?_))
    rw [Std.Legacy.Range.forIn_eq_forIn_range']; simp only [Std.Legacy.Range.size, Nat.sub_zero, Nat.add_sub_cancel, Nat.div_one]
    refine wpAny_forIn_list _ (fun rest q s2 => s2 = s ∧ q = (none, ()) ∧ ∃ i, rest = List.range' i (es.size - i) ∧ i ≤ es.size ∧ HitsH A s ys (xs.drop i) r) _ ?_ ?_ _ _ ⟨rfl, rfl, 0, by simp, Nat.zero_le _, hits⟩
    · rintro x rest q s2 ⟨rfl, rfl, i, hr, hi, pre⟩
      obtain ⟨lt, rfl, hrest⟩ := rng_split hr
      have ltx : x < xs.length := by omega
      obtain ⟨y, hy⟩ : ∃ y, xs[x]? = some y := ⟨_, List.getElem?_eq_getElem ltx⟩
      have hd2 : xs.drop x = y :: xs.drop (x + 1) := by
        rw [List.drop_eq_getElem_cons ltx]
        rw [List.getElem?_eq_getElem ltx] at hy
        rw [Option.some.inj hy]
      rw [hd2] at pre
      have he : es[x]? = some (entryOfKey kk y) := by rw [entry_at l1 x, hy]; rfl
      refine wpAny_bind (wpAny_dictEntries g1 t1 ?_); rw [he]
      show wpAny _ _ (holding [Value.ref y.2.1, y.2.2] _ >>= _) _ _ _
      have ky : kk.is s2.heap y.1 y.2.1 := k1 y (List.mem_of_getElem? hy)
      refine wpAny_bind (wpAny_holding (wpAny_bind (wpAny_dictFind_heap hu ky g2 t2 l2 k2 n2 (fun no => ?_) fun j p hj => ?_)))
      · rcases pre.back with ⟨_, e⟩ | ⟨p, _, _, q, _⟩
        · rw [e] at h
          refine wpAny_pure ?_
          show wpAny _ _ (if (!false) = true then _ else _) _ _ _
          rw [if_pos (by decide)]; exact wpAny_pure (wpAny_pure h)
        · rw [atKey_none_of_get no] at q; cases q
      · have hp := atKey_of_get n2 hj
        have hf : fs[j]? = some (entryOfKey kk (y.1, p)) := by rw [entry_at l2 j, hj]; rfl
        refine wpAny_bind (wpAny_dictEntries g2 t2 ?_); rw [hf]
        rcases pre.back with ⟨q, _⟩ | ⟨p2, e, b2, q, E2, rr, e2⟩
        · rw [hp] at q; cases q
        · have ep : p = p2 := Option.some.inj (hp.symm.trans q)
          rw [← ep] at E2
          refine wpAny_holding (E2 _ _ _ _ ?_)
          cases e with
          | false =>
            rw [e2, Bool.false_and] at h
            show wpAny _ _ (if (!false) = true then _ else _) _ _ _
            rw [if_pos (by decide)]; exact wpAny_pure (wpAny_pure h)
          | true =>
            rw [Bool.true_and] at e2
            rw [← e2] at rr
            show wpAny _ _ (if (!true) = true then _ else _) _ _ _
            rw [if_neg (by decide)]; refine wpAny_bind (wpAny_dictEpoch g1 t1 ?_)
            rw [if_neg (by simp)]; exact wpAny_pure ⟨rfl, rfl, x + 1, hrest, lt, rr⟩
    · rintro q s2 ⟨rfl, rfl, i, hr, hi, pre⟩
      have hin : i = es.size := by
        rcases Nat.lt_or_ge i es.size with y | y
        · rw [show es.size - i = (es.size - (i + 1)) + 1 by omega, List.range'_succ] at hr; cases hr
        · omega
      rw [hin, z1, List.drop_length] at pre
      cases pre
      exact wpAny_pure h
/-- d == e, d != e -/
theorem eqH {c d : Addr} {xs ys : List (κ × Addr × Value)} {r : Bool} {Q : Value → Shared → Prop} (hc : (c == sysModules) = false) (hd : (d == sysModules) = false)
    (X : s.heap.DictOfH kk c xs) (Y : s.heap.DictOfH kk d ys) (hu : kk.room A.in1) (hz : A.units < cLine) (hh : xs.length = ys.length → HitsH A.in1 s ys xs r) (h : Q (.bool (xs.length == ys.length && r)) s) :
    wpAny (model prog w) A (compareOp .Eq (.ref c) (.ref d)) Q E s := by
  refine wpAny_richCompare_same_room (op := .Eq) X.typeIs Y.typeIs PySem.F.slot_dict_eq (wpAny_call_entry PySem.F.slot_dict_eq X.typeIs PySem.F.entry_dict_eq ?_ (PySem.F.args_dict_eq_2 _ _)) hz
  show wpAny _ _ (Builtin.Dict.dictSlotArgs "__eq__" ⟨[.ref c, .ref d], []⟩ >>= _) _ _ s
  refine wpAny_bind ?_
  unfold Builtin.Dict.dictSlotArgs; refine wpAny_bind (wpAny_notOrdered_dict X.typeIs ?_)
  show wpAny _ _ (pure (Value.ref c, Value.ref d)) _ _ s
  refine wpAny_pure (wpAny_bind (wpAny_isInstance (T := "dict") Y.typeIs PySem.F.sub_dict_dict ?_))
  rw [if_neg (by decide)]
  refine wpAny_bind (wpAny_pure (wpAny_bind (wpAny_pure (wpAny_bind (pairsH hc hd X Y hu hh (wpAny_pure ⟨_, rfl, (fun x => nomatch x), ?_⟩))))))
  simpa using h
theorem neH {c d : Addr} {xs ys : List (κ × Addr × Value)} {r : Bool} {Q : Value → Shared → Prop} (hc : (c == sysModules) = false) (hd : (d == sysModules) = false)
    (X : s.heap.DictOfH kk c xs) (Y : s.heap.DictOfH kk d ys) (hu : kk.room A.in1) (hz : A.units < cLine) (hh : xs.length = ys.length → HitsH A.in1 s ys xs r) (h : Q (.bool (!(xs.length == ys.length && r))) s) :
    wpAny (model prog w) A (compareOp .NotEq (.ref c) (.ref d)) Q E s := by
  refine wpAny_richCompare_same_room (op := .NotEq) X.typeIs Y.typeIs PySem.F.slot_dict_ne (wpAny_call_entry PySem.F.slot_dict_ne X.typeIs PySem.F.entry_dict_ne ?_ (PySem.F.args_dict_ne_2 _ _)) hz
  show wpAny _ _ (Builtin.Dict.dictSlotArgs "__ne__" ⟨[.ref c, .ref d], []⟩ >>= _) _ _ s
  refine wpAny_bind ?_
  unfold Builtin.Dict.dictSlotArgs; refine wpAny_bind (wpAny_notOrdered_dict X.typeIs ?_)
  show wpAny _ _ (pure (Value.ref c, Value.ref d)) _ _ s
  refine wpAny_pure (wpAny_bind (wpAny_isInstance (T := "dict") Y.typeIs PySem.F.sub_dict_dict ?_))
  rw [if_neg (by decide)]
  refine wpAny_bind (wpAny_pure (wpAny_bind (wpAny_pure (wpAny_bind (pairsH hc hd X Y hu hh (wpAny_pure ⟨_, rfl, (fun x => nomatch x), ?_⟩))))))
  simpa using h
end
end FD
namespace FD
open PySem L2 Evl PySem.Spec
abbrev TDat := List (List Key × PyData)
def tD (l : TDat) : GTab := l.map fun p => (p.1, gD p.2)
def valT (l : TDat) (k : List Key) : Option PyData := (l.find? fun p => decide (p.1 = k)).map (·.2)
def eqvT (l m : TDat) : Bool := l.length == m.length && l.all fun p => match valT m p.1 with
  | none => false
  | some d => PyData.eqv p.2 d
def RelT (K : PySem.W.Frag) (H : Hp) : Option (Addr × Value) → Option PyData → Prop
  | none, none => True
  | some p, some d => ∃ v, Dp K H v d ∧ RelV v p.2
  | _, _ => False
theorem kt_at {K : PySem.W.Frag} {H : Hp} {k : List Key} : ∀ {ws : List (List Key × V)} {xs : List (List Key × Addr × Value)} {l : TDat}, KT H ws xs → GtOk K H ws (tD l) → RelT K H (atKey xs k) (valT l k)
  | _, _, [], .nil, .nil => trivial
  | _, _, p :: l, .cons (a := q) (b := x) h t, .cons g u => by
    have ih := kt_at (k := k) t u
    have e1 : q.1 = p.1 := g.1
    have e2 : q.1 = x.1 := h.1
    unfold atKey valT at ih ⊢
    rw [List.find?_cons, List.find?_cons]
    by_cases e : p.1 = k
    · rw [decide_eq_true e, decide_eq_true (e2.symm.trans (e1.trans e))]
      exact ⟨q.2, g.2, h.2.2⟩
    · rw [decide_eq_false e, decide_eq_false fun z => e (e1.symm.trans (e2.trans z))]
      exact ih
def rEqDT (K : PySem.W.Frag) (neg : Bool) : R2 := fun x y H Q => ∃ (a b : Addr) (ks ls : List (List Key × V)) (l m : TDat), x = .ref a ∧ y = .ref b ∧ Rd H a (.dT ks) ∧ Rd H b (.dT ls) ∧ GtOk K H ks (tD l) ∧ GtOk K H ls (tD m) ∧
  (∀ p ∈ l, SeqAt.shaped p.2 = true) ∧ (∀ p ∈ m, SeqAt.shaped p.2 = true) ∧ Q (.bl (if neg = true then !eqvT l m else eqvT l m)) H
section
variable {X : Cx}
theorem valT_mem {m : TDat} {k : List Key} {d : PyData} (h : valT m k = some d) : ∃ p ∈ m, p.2 = d := by
  unfold valT at h
  cases q : m.find? fun p => decide (p.1 = k) with
  | none => rw [q] at h; cases h
  | some p => rw [q] at h; exact ⟨p, List.mem_of_find?_eq_some q, Option.some.inj h⟩
theorem dt_hits {pins : List (Addr × Obj)} {σ : L2.St} {H : Hp} {s : Shared} (I : Inv X pins σ H s) (hu : X.A.in1.units + 64 < cLine) {ys : List (List Key × Addr × Value)} {ls : List (List Key × V)} {m : TDat} (hy : KT H ls ys) (gy : GtOk X.K H ls (tD m)) (hm : ∀ p ∈ m, SeqAt.shaped p.2 = true) :
    ∀ {l : TDat} {ks : List (List Key × V)} {xs : List (List Key × Addr × Value)}, GtOk X.K H ks (tD l) → KT H ks xs → (∀ p ∈ l, SeqAt.shaped p.2 = true) →
      HitsH X.A.in1 s ys xs (l.all fun p => match valT m p.1 with
        | none => false
        | some d => PyData.eqv p.2 d)
  | [], _, _, .nil, .nil, _ => .nil
  | p :: l, _, _, .cons (a := q) g u, .cons (b := x) h t, hs => by
    have ih := dt_hits I hu hy gy hm u t fun p hp => hs p (List.mem_cons_of_mem _ hp)
    have e1 : q.1 = p.1 := g.1
    have e2 : q.1 = x.1 := h.1
    have r := kt_at (k := p.1) hy gy
    rw [List.all_cons]
    cases c : atKey ys p.1 with
    | none =>
      rw [c] at r
      cases d : valT m p.1 with
      | some d => rw [d] at r; exact r.elim
      | none => exact .miss (by rw [← e2, e1]; exact c)
    | some y =>
      rw [c] at r
      cases d : valT m p.1 with
      | none => rw [d] at r; exact r.elim
      | some d2 =>
        rw [d] at r
        obtain ⟨v, d3, rv⟩ := r
        obtain ⟨as, a1⟩ := Dp.reads I _ _ _ (Dp.w g.2) h.2.2
        obtain ⟨bs, a2⟩ := Dp.reads I _ _ _ (Dp.w d3) rv
        obtain ⟨p2, hp2, ep2⟩ := valT_mem d
        have E := PySem.W.keq_at (A := X.A) a1 a2 (hs p List.mem_cons_self) (by rw [← ep2]; exact hm p2 hp2) hu
        exact .hit (by rw [← e2, e1]; exact c) E ih
theorem op_eqDT (hu : X.A.units + 65 < cLine) : OpR X (compareOp .Eq) (rEqDT X.K false) := by
  intro pins s σ H x y v u Q I rx ry h
  obtain ⟨a, b, ks, ls, l, m, rfl, rfl, ea, eb, ga, gb, sa, sb, q⟩ := h
  obtain rfl : v = Value.ref a := rx
  obtain rfl : u = Value.ref b := ry
  obtain ⟨_, ya, xs, ra, da⟩ := dt_rd I.hok ea
  obtain ⟨_, yb, ys, rb, db⟩ := dt_rd I.hok eb
  have l1 : xs.length = l.length := by rw [← Paired.length ra, Paired.length ga]; unfold tD; rw [List.length_map]
  have l2 : ys.length = m.length := by rw [← Paired.length rb, Paired.length gb]; unfold tD; rw [List.length_map]
  have hz : X.A.in1.units + 64 < cLine := by show X.A.units + 1 + 64 < cLine; omega
  exact eqH (kk := tupleKind (mixKind X.prog X.w)) ya yb da db (show X.A.in1.units < cLine by omega) (by omega) (fun _ => dt_hits I hz rb gb sb ga ra sa) (fin_bl I q (by rw [l1, l2]; rfl))
theorem op_neDT (hu : X.A.units + 65 < cLine) : OpR X (compareOp .NotEq) (rEqDT X.K true) := by
  intro pins s σ H x y v u Q I rx ry h
  obtain ⟨a, b, ks, ls, l, m, rfl, rfl, ea, eb, ga, gb, sa, sb, q⟩ := h
  obtain rfl : v = Value.ref a := rx
  obtain rfl : u = Value.ref b := ry
  obtain ⟨_, ya, xs, ra, da⟩ := dt_rd I.hok ea
  obtain ⟨_, yb, ys, rb, db⟩ := dt_rd I.hok eb
  have l1 : xs.length = l.length := by rw [← Paired.length ra, Paired.length ga]; unfold tD; rw [List.length_map]
  have l2 : ys.length = m.length := by rw [← Paired.length rb, Paired.length gb]; unfold tD; rw [List.length_map]
  have hz : X.A.in1.units + 64 < cLine := by show X.A.units + 1 + 64 < cLine; omega
  exact neH (kk := tupleKind (mixKind X.prog X.w)) ya yb da db (show X.A.in1.units < cLine by omega) (by omega) (fun _ => dt_hits I hz rb gb sb ga ra sa) (fin_bl I q (by rw [l1, l2]; rfl))
end
section
variable {C : Cfg} {M : List Addr} {δ : List Ent} {μ : Mem} {e1 e2 : Ent} {l m : TDat}
theorem o_eqDT {neg : Bool} (t1 : TD μ e1 (tD l)) (t2 : TD μ e2 (tD m)) (s1 : ∀ p ∈ l, SeqAt.shaped p.2 = true) (s2 : ∀ p ∈ m, SeqAt.shaped p.2 = true) : OpX C (rEqDT C.K neg) M δ μ μ e1 e2 (.d (.bool (if neg = true then !eqvT l m else eqvT l m))) := fun σ H x y o h1 h2 Q k => by
  obtain ⟨a, ks, q1, q2, q3⟩ := t1.rd o h1
  obtain ⟨b, ls, p1, p2, p3⟩ := t2.rd o h2
  exact ⟨a, b, ks, ls, l, m, q1, p1, q2, p2, gt_mono hide_le q3, gt_mono hide_le p3, s1, s2, k _ H o (Ex.refl _) (.bl _)⟩
end
end FD
/-! Dicts made of pairs, the values of a dict, tuples that are known to be plain. -/
namespace FD
open PySem L2 Evl PySem.Spec PySem.Calls PyProof.Rows
def plT (o : Obj) : Prop := o.cls = .type "tuple" ∧ o.dict = none
/-- a plain tuple of data -/
def gFD (ds : List PyData) : GP := ⟨fun K H v => ∃ p o vs, v = .ref p ∧ H p = some (.frz o (.tup vs)) ∧ plT o ∧ DpAll K H vs ds, fun _ _ _ _ x h => let ⟨p, o, vs, e1, e2, e3, e4⟩ := h; ⟨p, o, vs, e1, x p _ e2, e3, dpAll_mono x _ _ e4⟩⟩
def prD (p : Str × PyData) : PyData := .tuple [.str p.1, p.2]
def rTupFz (K : PySem.W.Frag) : List V → Hp → VK → Prop := fun xs H Q => ∃ p ys, xs = [V.ref p] ∧ SqL K H p ys ∧ ∀ q o, plT o → H q = none → Q (.ref q) (upd H q (.frz o (.tup ys)))
def rDictTu (K : PySem.W.Frag) : List V → Hp → VK → Prop := fun xs H Q => ∃ (a : Addr) (o : Obj) (ps : List Addr) (kvs : List (Key × V)), xs = [.ref a] ∧ H a = some (.frz o (.tup (ps.map V.ref))) ∧ plT o ∧ Paired (fun p kv => SqT K H p [kV kv.1, kv.2]) ps kvs ∧
  ∀ p, H p = none → Q (.ref p) (upd H p (.dK (mergeK [] kvs)))
def rDictL (K : PySem.W.Frag) : List V → Hp → VK → Prop := fun xs H Q => ∃ (a : Addr) (ps : List Addr) (kvs : List (Key × V)), xs = [.ref a] ∧ SqL K H a (ps.map V.ref) ∧ Paired (fun p kv => SqT K H p [kV kv.1, kv.2]) ps kvs ∧
  ∀ p, H p = none → Q (.ref p) (upd H p (.dK (mergeK [] kvs)))
/-- pairs of a key that is a tuple -/
def rDictLT (K : PySem.W.Frag) : List V → Hp → VK → Prop := fun xs H Q => ∃ (a : Addr) (ps : List Addr) (kvs : List (List Key × Addr × V)), xs = [.ref a] ∧ SqL K H a (ps.map V.ref) ∧
  Paired (fun p q => SqT K H p [.ref q.2.1, q.2.2] ∧ H q.2.1 = some (.tup (q.1.map kV))) ps kvs ∧ (kvs.map (·.1)).Nodup ∧ ∀ p, H p = none → Q (.ref p) (upd H p (.dT (kvs.map fun q => (q.1, q.2.2))))
section
variable {X : Cx}
theorem cr_tupFz : CallR X (.type "tuple") (rTupFz X.K) := by
  intro pins s σ H xs us Q I r h
  obtain ⟨p, ys, rfl, hq, q⟩ := h
  obtain rfl := Vals.ref1 r
  obtain ⟨its, r', pl, hz⟩ := I.list hq
  have hlen := r'.length
  refine call_tuple_list pl.isList (fun h' kp => ?_) (by simp only [List.size_toArray] <;> omega)
  have I1 : Inv X pins σ H { s with heap := h' } := I.kept (t' := s.toks) kp
  have I2 : Inv X pins σ (upd H h'.objs.size (.frz { cls := .type "tuple", data := .seq its.toArray } (.tup ys))) { s with heap := h'.push { cls := .type "tuple", data := .seq its.toArray } } :=
    I1.laid (t' := s.toks) (fun b o e => Heap.get?_push_of_some _ e) (Nat.le_refl _) (show ObjOk X.prog X.w _ _ _ (.frz _ (.tup ys)) from ⟨Heap.get?_push_size _ rfl, hz, its, r', IsTup.new _ _⟩)
  exact ⟨.ref h'.objs.size, _, I2, rfl, q _ _ ⟨rfl, rfl⟩ (I1.hok.fresh (Nat.le_refl _))⟩
/-- the pairs as the walk over them wants them -/
theorem pair_items {pins : List (Addr × Obj)} {σ : L2.St} {H : Hp} {s : Shared} (I : Inv X pins σ H s) : ∀ {ps : List Addr} {kvs : List (V × V)}, Paired (fun p q => SqT X.K H p [q.1, q.2]) ps kvs →
    ∃ prs : List (Value × Value), Paired (fun (q : V × V) (r : Value × Value) => RelV q.1 r.1 ∧ RelV q.2 r.2) kvs prs ∧ ps.length = prs.length ∧ ∀ j k v, prs[j]? = some (k, v) → PairAt s.heap (ps.getD j 0) k v
  | _, _, .nil => ⟨[], .nil, rfl, fun j k v e => by simp at e⟩
  | _, _, .cons (a := p) (b := q) h t => by
    obtain ⟨prs, r, hl, hp⟩ := pair_items I t
    obtain ⟨its, rv, ht, _⟩ := I.tuple h
    obtain ⟨u, y, ei, ru, ry⟩ := vals2 rv
    subst ei
    obtain ⟨o, ho, hc, n, hd⟩ := ht
    refine ⟨(u, y) :: prs, .cons ⟨ru, ry⟩ r, by rw [List.length_cons, List.length_cons, hl], fun j k v e => ?_⟩
    cases j with
    | zero =>
      cases Option.some.inj e
      exact .inl ⟨o, ho, hc, n, hd⟩
    | succ j => exact hp j k v (by simpa using e)
theorem refs_list : ∀ {ps : List Addr} {us : List Value}, Vals (ps.map V.ref) us → us = ps.map Value.ref
  | [], _, .nil => rfl
  | p :: ps, _, .cons h t => by
    cases (show _ = Value.ref p from h)
    rw [refs_list t]; rfl
theorem at_getD {ps : List Addr} {j : Nat} (h : j < ps.length) : (ps.map Value.ref).toArray[j]? = some (.ref (ps.getD j 0)) := by
  rw [List.getElem?_toArray, List.getElem?_map, List.getElem?_eq_getElem h, List.getD_eq_getElem?_getD, List.getElem?_eq_getElem h]; rfl
theorem kv_of (X : Cx) {kvs : List (Key × V)} {prs : List (Value × Value)} (r : Paired (fun (q : V × V) (r : Value × Value) => RelV q.1 r.1 ∧ RelV q.2 r.2) (kvs.map fun kv => (kV kv.1, kv.2)) prs) : ∃ vs : List (Key × Value), KV kvs vs ∧ vs.length = prs.length ∧ ∀ (i : Nat) (key v : Value), prs[i]? = some (key, v) → ∃ k : Key, vs[i]? = some (k, v) ∧ keyIs k key = true := by
  induction kvs generalizing prs with
  | nil => cases r; exact ⟨[], .nil, rfl, fun i key v e => by simp at e⟩
  | cons kv kvs ih =>
    cases r with
    | @cons _ q _ qs h t =>
      obtain ⟨vs, a, b, c⟩ := ih t
      refine ⟨(kv.1, q.2) :: vs, .cons ⟨rfl, h.2⟩ a, by rw [List.length_cons, List.length_cons, b], fun i key v e => ?_⟩
      cases i with
      | zero =>
        cases Option.some.inj e
        exact ⟨kv.1, rfl, kV_is (P := X.prog) (w := X.w) h.1⟩
      | succ i =>
        obtain ⟨k, e1, e2⟩ := c i key v (by simpa using e)
        exact ⟨k, by simpa using e1, e2⟩
theorem paired_map {α β γ : Type} {F : α → γ → Prop} {f : β → γ} : ∀ {as : List α} {bs : List β}, Paired (fun a b => F a (f b)) as bs → Paired F as (bs.map f)
  | _, _, .nil => .nil
  | _, _, .cons h t => .cons h (paired_map t)
theorem call_dictTu (calm : X.calm = true) : CallR X (.type "dict") (rDictTu X.K) := by
  intro pins s σ H xs us Q I r h
  obtain ⟨a, ob, ps, kvs, rfl, hq, pt, hp, q⟩ := h
  obtain rfl := Vals.ref1 r
  obtain ⟨ho, hz, its, rv, o2, g1, g2, n, g3⟩ := (show ObjOk X.prog X.w H s.heap a (.frz ob (.tup (ps.map V.ref))) from I.hok a _ hq)
  have eo : o2 = ob := Option.some.inj (g1.symm.trans ho)
  subst eo
  have ei := refs_list rv
  subst ei
  rw [List.length_map] at hz
  obtain ⟨prs, pr, hl, hpr⟩ := pair_items (X := X) I (kvs := kvs.map fun kv => (kV kv.1, kv.2)) (paired_map (f := fun kv : Key × V => (kV kv.1, kv.2)) hp)
  obtain ⟨vs, kv, vl, hv⟩ := kv_of X pr
  have P := PairArg.tuple (prog := X.prog) (w := X.w) a (ps.map Value.ref).toArray (fun j => ps.getD j 0) prs
  have ok : PlainSeq "tuple" s.heap a (ps.map Value.ref).toArray ∧ PairItems s.heap (ps.map Value.ref).toArray (fun j => ps.getD j 0) prs :=
    ⟨⟨o2, n, ho, pt.1, pt.2, g3⟩, by rw [List.size_toArray, List.length_map, hl], fun j k v e => ⟨at_getD (by rw [hl]; exact (List.getElem?_eq_some_iff.mp e).1), hpr j k v e⟩⟩
  refine PySem.call_dict_pairs (knd := mixKind X.prog X.w) (kvs := vs) P (I.ok.hd calm) ok ⟨vl, fun i key v e => hv i key v e⟩ (by rw [← hl]; exact hz) fun h' tk hd' k => ?_
  have hm : (s.heap.objs.size == sysModules) = false := beq_eq_false_iff_ne.mpr (Nat.ne_of_gt I.big)
  have len : (mergeK [] kvs).length ≤ sizeLine := by
    have := length_mergeK kvs []
    rw [List.length_nil, Nat.zero_add, kv.length, vl, ← hl] at this
    omega
  exact ⟨.ref s.heap.objs.size, _, I.laid (t' := tk) (fun b o e => k b o (fun z => nomatch z) e) (Nat.le_refl _) (show ObjOk X.prog X.w _ _ _ (.dK (mergeK [] kvs)) from ⟨len, hm, _, KV.merge kv .nil, hd'⟩), rfl, q _ (I.hok.fresh (Nat.le_refl _))⟩
theorem call_dictL (calm : X.calm = true) : CallR X (.type "dict") (rDictL X.K) := call_dictP calm
/-- the pairs' keys, tuples -/
theorem kt_of {H : Hp} {kvs : List (List Key × Addr × V)} : ∀ {prs : List (Value × Value)}, Paired (fun (q : V × V) (r : Value × Value) => RelV q.1 r.1 ∧ RelV q.2 r.2) (kvs.map fun q => (V.ref q.2.1, q.2.2)) prs → (∀ q ∈ kvs, H q.2.1 = some (.tup (q.1.map kV))) →
    ∃ xs : List (List Key × Addr × Value), KT H (kvs.map fun q => (q.1, q.2.2)) xs ∧ xs.length = prs.length ∧ xs.map (·.1) = kvs.map (·.1) ∧ ∀ (i : Nat) (key v : Value), prs[i]? = some (key, v) → ∃ (k : List Key) (b : Addr), xs[i]? = some (k, b, v) ∧ key = Value.ref b := by
  induction kvs with
  | nil => intro prs r _; cases r; exact ⟨[], .nil, rfl, rfl, fun i key v e => by simp at e⟩
  | cons kv kvs ih =>
    intro prs r hk
    cases r with
    | @cons _ q _ qs h t =>
      obtain ⟨xs, a, b, c, d⟩ := ih t fun q hq => hk q (List.mem_cons_of_mem _ hq)
      refine ⟨(kv.1, kv.2.1, q.2) :: xs, .cons ⟨rfl, hk kv List.mem_cons_self, h.2⟩ a, by rw [List.length_cons, List.length_cons, b], by rw [List.map_cons, List.map_cons, c], fun i key v e => ?_⟩
      cases i with
      | zero =>
        cases Option.some.inj e
        exact ⟨_, _, rfl, h.1⟩
      | succ i =>
        obtain ⟨k, b, e1, e2⟩ := d i key v (by simpa using e)
        exact ⟨k, b, by simpa using e1, e2⟩
theorem paired_all {α β : Type} {F : α → β → Prop} {G : β → Prop} (hg : ∀ a b, F a b → G b) : ∀ {as : List α} {bs : List β}, Paired F as bs → ∀ b ∈ bs, G b
  | _, _, .nil, b, h => nomatch h
  | _, _, .cons h t, b, hb => by
    rcases List.mem_cons.mp hb with rfl | hb
    · exact hg _ _ h
    · exact paired_all hg t b hb
theorem call_dictLT (calm : X.calm = true) (hu : X.A.units + 65 < cLine) : CallR X (.type "dict") (rDictLT X.K) := by
  intro pins s σ H xs us Q I r h
  obtain ⟨a, ps, kvs, rfl, hq, hp, nd, q⟩ := h
  obtain rfl := Vals.ref1 r
  obtain ⟨its, rv, pl, hz⟩ := I.list hq
  have ei := refs_list rv
  subst ei
  rw [List.length_map] at hz
  have hk : ∀ q ∈ kvs, H q.2.1 = some (.tup (q.1.map kV)) := paired_all (fun _ _ z => z.2) hp
  obtain ⟨prs, pr, hl, hpr⟩ := pair_items (X := X) I (kvs := kvs.map fun q => (V.ref q.2.1, q.2.2)) (paired_map (f := fun q : List Key × Addr × V => (V.ref q.2.1, q.2.2)) (Paired.mapP hp fun _ _ z => z.1))
  obtain ⟨xs, kt, xl, xk, hx⟩ := kt_of pr hk
  obtain ⟨o, n, ho, hc, hd, hdat⟩ := pl
  have P := PairArg.list (prog := X.prog) (w := X.w) a (ps.map Value.ref).toArray (fun j => ps.getD j 0) prs
  have ok : PlainSeq "list" s.heap a (ps.map Value.ref).toArray ∧ PairItems s.heap (ps.map Value.ref).toArray (fun j => ps.getD j 0) prs :=
    ⟨⟨o, n, ho, hc, hd, hdat⟩, by rw [List.size_toArray, List.length_map, hl], fun j k v e => ⟨at_getD (by rw [hl]; exact (List.getElem?_eq_some_iff.mp e).1), hpr j k v e⟩⟩
  have xn : (xs.map (·.1)).Nodup := by rw [xk]; exact nd
  have keys : ∀ x ∈ xs, H x.2.1 = some (.tup (x.1.map kV)) := paired_all (fun p x z => by rw [← z.1]; exact z.2.1) kt
  refine PySem.call_dict_pairsH (knd := tupleKind (mixKind X.prog X.w)) (ps := xs) P (I.ok.hd calm) (show X.A.in1.in1.units < cLine by show X.A.units + 1 + 1 < cLine; omega) ok ⟨xl, fun i key v e => hx i key v e⟩ (fun h' hk' x hx' => ?_) (by rw [← hl]; exact hz) fun h' tk hd' k => ?_
  · have := key_of I.hok (keys x hx')
    obtain ⟨o2, items, m, b1, b2, b3, b4⟩ := this
    exact ⟨o2, items, m, hk' _ _ (Nat.ne_of_lt (Heap.lt_size b1)) (fun z => nomatch z) b1, b2, b3, b4⟩
  · rw [storedAllH_nil_of_nodup xs xn] at hd'
    have hm : (s.heap.objs.size == sysModules) = false := beq_eq_false_iff_ne.mpr (Nat.ne_of_gt I.big)
    have len : (kvs.map fun q => (q.1, q.2.2)).length ≤ sizeLine := by rw [kt.length, xl, ← hl]; exact hz
    obtain ⟨o3, es, ep, c1, c2, c3, c4, _, c5⟩ := hd'
    have hfr := I.hok.fresh (Nat.le_refl s.heap.objs.size)
    exact ⟨.ref s.heap.objs.size, _, I.laid (t' := tk) (fun b o e => k b o (fun z => nomatch z) e) (Nat.le_refl _) (show ObjOk X.prog X.w _ _ _ (.dT _) from ⟨len, hm, xs, kt.keeps fun b ys e => (upd_ne (fun z => by rw [z, hfr] at e; cases e)).trans e, o3, es, ep, c1, c2, c3, c4, c5⟩), rfl, q _ hfr⟩
end
end FD
/-! list(zip(x, y)) of two tuples: the tuples that zip makes are kept by the list. -/
namespace PySem
open Sem (wp)
namespace LZ
theorem no_len : typeLookup (.type "zip") "__len__" = pure none := am_miss_of_fast (by decide +kernel)
theorem no_hint : typeLookup (.type "zip") "__length_hint__" = pure none := am_miss_of_fast (by decide +kernel)
section
variable {prog : Program} {w : World} {A : Around} {E : Value → Shared → Prop} {s : Shared} {z TI TO T i1 i2 : Addr} {f : Bool} {oT : Obj} {fp1 fp2 : List Addr} {n1 n2 i : Nat} {P1 P2 : Nat → Value → Prop} {St1 St2 : Nat → Heap → Prop}
/-- one more item while an earlier one is still about -/
theorem next_held {Q : Value → Shared → Prop} (S : ZipSep2 z TI TO i1 i2 fp1 fp2) (D1 : Draws prog w A i1 fp1 n1 P1 St1) (D2 : Draws prog w A i2 fp2 n2 P2 St2)
    (hz : IsZipHeld s.heap z TI TO T f) (hT : s.heap.get? T = some oT) (hI : IsTupOf2 s.heap TI (.ref i1) (.ref i2)) (st1 : St1 i s.heap) (st2 : St2 i s.heap) (lt1 : i < n1) (lt2 : i < n2)
    (hQ : ∀ x y g k, P1 i x → P2 i y → IsZipHeld g z TI TO T true → St1 (i + 1) g → St2 (i + 1) g → IsTupOf2 g s.heap.objs.size x y → g.objs.size = s.heap.objs.size + 1 →
      (∀ c o, c ≠ z → c ≠ i1 → c ≠ i2 → s.heap.get? c = some o → g.get? c = some o) → Q (.ref s.heap.objs.size) { s with heap := g, toks := k }) :
    wpAny (model prog w) A (Builtin.«zip.__next__» ⟨[.ref z], []⟩) (fun fin s2 => ∃ v, fin = .done (.ret v) ∧ Q v s2) E s := by
  obtain ⟨hp, gn, dr, tk, os⟩ := s
  show wpAny _ _ (field (.ref z) 2 >>= _) _ _ _
  refine wpAny_bind (wpAny_field hz rfl (x := .bool false) rfl ?_); show wpAny _ _ (field (.ref z) 3 >>= _) _ _ _
  refine wpAny_bind (wpAny_field hz rfl (x := .ref TI) rfl (wpAny_bind (wpAny_seqItems hI rfl ?_)))
  show wpAny _ _ (Builtin.SmallTypes.ownedTupleIsFree (.ref z) >>= _) _ _ _; refine wpAny_bind (wpAny_tupleHeld_zip hz hT fun g0 y0 b0 => ?_)
  replace b0 : Heap.SameBut z hp g0 := b0
  rw [if_neg Bool.false_ne_true]; refine wpAny_bind ?_
  rw [← Array.forIn_toList]; simp only [List.forIn_cons, List.forIn_nil]
  refine wpAny_bind (wpAny_bind (wpAny_holding ?_)); show wpAny _ _ (Builtin.SmallTypes.nextOf (.ref i1) >>= _) _ _ ⟨g0, gn, dr, tk, os⟩
  refine wpAny_bind (D1.item i _ _ _ lt1 (D1.over st1 b0 S.zf1) fun x g1 k1 px sx b1 => wpAny_pure (wpAny_pure ?_))
  replace b1 : Heap.SameBut i1 g0 g1 := b1
  refine wpAny_bind (wpAny_bind (wpAny_holding ?_)); show wpAny _ _ (Builtin.SmallTypes.nextOf (.ref i2) >>= _) _ _ ⟨g1, gn, dr, k1, os⟩
  refine wpAny_bind (D2.item i _ _ _ lt2 (D2.over (D2.over st2 b0 S.zf2) b1 S.sep1_2) fun y g2 k2 py sy b2 => wpAny_pure (wpAny_pure (wpAny_pure ?_)))
  replace b2 : Heap.SameBut i2 g1 g2 := b2
  show wpAny _ _ (newTuple [x, y] >>= _) _ _ ⟨g2, gn, dr, k2, os⟩; refine wpAny_bind (wpAny_newTuple (wpAny_pure ⟨_, rfl, ?_⟩))
  have sz : g2.objs.size = hp.objs.size := by rw [b2.1, b1.1, b0.1]
  have zz : IsZipHeld g2 z TI TO T true := b2.extBut _ _ S.zi2 (b1.extBut _ _ S.zi1 y0)
  have kk : ∀ c o, c ≠ z → c ≠ i1 → c ≠ i2 → hp.get? c = some o → g2.get? c = some o := fun c o q1 q2 q3 e => b2.extBut _ _ q3 (b1.extBut _ _ q2 (b0.extBut _ _ q1 e))
  have pp : IsTupOf2 (g2.push { cls := .type "tuple", data := .seq #[x, y] }) g2.objs.size x y := Heap.get?_push_size _ rfl
  have up : ∀ c o, g2.get? c = some o → (g2.push { cls := .type "tuple", data := .seq #[x, y] }).get? c = some o := fun c o e => Heap.get?_push_of_some _ e
  show Q (.ref g2.objs.size) ⟨_, gn, dr, k2, os⟩
  rw [sz] at pp ⊢
  exact hQ x y _ k2 px py (up _ _ zz) (D1.frame _ _ _ (D1.over sx b2 S.sep2_1) fun b _ o e => up b o e) (D2.frame _ _ _ sy fun b _ o e => up b o e) pp (by rw [Heap.size_push, sz]) fun c o q1 q2 q3 e => up _ _ (kk c o q1 q2 q3 e)
theorem end_held {Q : Fin → Shared → Prop} (S : ZipSep2 z TI TO i1 i2 fp1 fp2) (D1 : Draws prog w A i1 fp1 n1 P1 St1) (D2 : Draws prog w A i2 fp2 n2 P2 St2)
    (hz : IsZipHeld s.heap z TI TO T f) (hT : s.heap.get? T = some oT) (hI : IsTupOf2 s.heap TI (.ref i1) (.ref i2)) (st1 : St1 i s.heap) (st2 : St2 i s.heap) (le1 : i ≤ n1) (le2 : i ≤ n2) (he : i = n1 ∨ i = n2)
    (hE : ∀ g k e, (∀ c o, c ≠ z → c ≠ i1 → c ≠ i2 → s.heap.get? c = some o → g.get? c = some o) → (∃ o, g.get? e = some o ∧ o.cls = .type "StopIteration") → E (.ref e) { s with heap := g, toks := k }) :
    wpAny (model prog w) A (Builtin.«zip.__next__» ⟨[.ref z], []⟩) Q E s := by
  obtain ⟨hp, gn, dr, tk, os⟩ := s
  show wpAny _ _ (field (.ref z) 2 >>= _) _ _ _
  refine wpAny_bind (wpAny_field hz rfl (x := .bool false) rfl ?_); show wpAny _ _ (field (.ref z) 3 >>= _) _ _ _
  refine wpAny_bind (wpAny_field hz rfl (x := .ref TI) rfl (wpAny_bind (wpAny_seqItems hI rfl ?_)))
  show wpAny _ _ (Builtin.SmallTypes.ownedTupleIsFree (.ref z) >>= _) _ _ _; refine wpAny_bind (wpAny_tupleHeld_zip hz hT fun g0 y0 b0 => ?_)
  replace b0 : Heap.SameBut z hp g0 := b0
  rw [if_neg Bool.false_ne_true]; refine wpAny_bind ?_
  rw [← Array.forIn_toList]; simp only [List.forIn_cons, List.forIn_nil]
  refine wpAny_bind (wpAny_bind (wpAny_holding ?_)); show wpAny _ _ (Builtin.SmallTypes.nextOf (.ref i1) >>= _) _ _ ⟨g0, gn, dr, tk, os⟩
  by_cases lt1 : i < n1
  · refine wpAny_bind (D1.item i _ _ _ lt1 (D1.over st1 b0 S.zf1) fun x g1 k1 px sx b1 => wpAny_pure (wpAny_pure ?_))
    replace b1 : Heap.SameBut i1 g0 g1 := b1
    have e2 : i = n2 := by omega
    refine wpAny_bind (wpAny_bind (wpAny_holding ?_)); show wpAny _ _ (Builtin.SmallTypes.nextOf (.ref i2) >>= _) _ _ ⟨g1, gn, dr, k1, os⟩
    refine wpAny_bind (D2.done ⟨g1, gn, dr, k1, os⟩ _ _ (by rw [← e2]; exact D2.over (D2.over st2 b0 S.zf2) b1 S.sep1_2) fun q e b2 hx => ?_)
    exact hE q k1 e (fun c o q1 q2 q3 x => b2 _ _ q3 (b1.extBut _ _ q2 (b0.extBut _ _ q1 x))) hx
  · have e1 : i = n1 := by omega
    refine wpAny_bind (D1.done ⟨g0, gn, dr, tk, os⟩ _ _ (by rw [← e1]; exact D1.over st1 b0 S.zf1) fun q e b2 hx => ?_)
    exact hE q tk e (fun c o q1 q2 q3 x => b2 _ _ q2 (b0.extBut _ _ q1 x)) hx
theorem pyNext_held {Q : Option Value → Shared → Prop} (S : ZipSep2 z TI TO i1 i2 fp1 fp2) (D1 : Draws prog w A.in1 i1 fp1 n1 P1 St1) (D2 : Draws prog w A.in1 i2 fp2 n2 P2 St2)
    (hz : IsZipHeld s.heap z TI TO T f) (hT : s.heap.get? T = some oT) (hI : IsTupOf2 s.heap TI (.ref i1) (.ref i2)) (st1 : St1 i s.heap) (st2 : St2 i s.heap) (lt1 : i < n1) (lt2 : i < n2)
    (hQ : ∀ x y g k, P1 i x → P2 i y → IsZipHeld g z TI TO T true → St1 (i + 1) g → St2 (i + 1) g → IsTupOf2 g s.heap.objs.size x y → g.objs.size = s.heap.objs.size + 1 →
      (∀ c o, c ≠ z → c ≠ i1 → c ≠ i2 → s.heap.get? c = some o → g.get? c = some o) → Q (some (.ref s.heap.objs.size)) { s with heap := g, toks := k }) :
    wpAny (model prog w) A (pyNext (.ref z)) Q E s := by
  have ty : s.TypeIs (.ref z) "zip" := ⟨_, hz, rfl⟩
  unfold pyNext
  exact wpAny_bind (wpAny_attempt (wpAny_callSpecial?_slot (name := Str.ofString "__next__") ty F.slot_zip_next (wpAny_call_entry F.slot_zip_next ty F.entry_zip_next
    (next_held S D1 D2 hz hT hI st1 st2 lt1 lt2 fun x y g k a1 a2 a3 a4 a5 a6 a7 a8 => wpAny_pure (hQ x y g k a1 a2 a3 a4 a5 a6 a7 a8)) (F.args_zip_next_1 _))))
theorem pyEnd_held {Q : Option Value → Shared → Prop} (S : ZipSep2 z TI TO i1 i2 fp1 fp2) (D1 : Draws prog w A.in1 i1 fp1 n1 P1 St1) (D2 : Draws prog w A.in1 i2 fp2 n2 P2 St2)
    (hz : IsZipHeld s.heap z TI TO T f) (hT : s.heap.get? T = some oT) (hI : IsTupOf2 s.heap TI (.ref i1) (.ref i2)) (st1 : St1 i s.heap) (st2 : St2 i s.heap) (le1 : i ≤ n1) (le2 : i ≤ n2) (he : i = n1 ∨ i = n2)
    (hQ : ∀ g k, (∀ c o, c ≠ z → c ≠ i1 → c ≠ i2 → s.heap.get? c = some o → g.get? c = some o) → Q none { s with heap := g, toks := k }) : wpAny (model prog w) A (pyNext (.ref z)) Q E s := by
  have ty : s.TypeIs (.ref z) "zip" := ⟨_, hz, rfl⟩
  unfold pyNext
  refine wpAny_bind (wpAny_attempt (wpAny_callSpecial?_slot (name := Str.ofString "__next__") ty F.slot_zip_next (wpAny_call_entry F.slot_zip_next ty F.entry_zip_next
    (end_held S D1 D2 hz hT hI st1 st2 le1 le2 he fun g k e hk hx => ?_) (F.args_zip_next_1 _))))
  obtain ⟨o, ho, hc⟩ := hx
  exact wpAny_bind (wpAny_isInstance (T := "StopIteration") (b := true) ⟨o, ho, hc⟩ isSubtype_stop (wpAny_pure (hQ _ _ hk)))
end
end LZ
end PySem
namespace PySem
open Sem (wp)
namespace LZ
/-- the pairs that stand in the list so far -/
structure Out (P1 P2 : Nat → Value → Prop) (b0 : Nat) (acc : Array Value) (i : Nat) (h : Heap) : Prop where
  n : acc.size = i
  at_ : ∀ j, j < i → ∃ (T : Addr) (x y : Value), acc[j]? = some (Value.ref T) ∧ b0 ≤ T ∧ IsTupOf2 h T x y ∧ P1 j x ∧ P2 j y
  inc : ∀ (j j' : Nat) (T T' : Addr), j' < j → acc[j]? = some (Value.ref T) → acc[j']? = some (Value.ref T') → T' < T
structure Far (S z TI TO i1 i2 b0 : Nat) (fp1 fp2 : List Addr) : Prop where
  cS : S < b0
  cz : z < b0
  cTI : TI < b0
  cTO : TO < b0
  ci1 : i1 < b0
  ci2 : i2 < b0
  Sz : S ≠ z
  STI : S ≠ TI
  STO : S ≠ TO
  Si1 : S ≠ i1
  Si2 : S ≠ i2
  Sf1 : S ∉ fp1
  Sf2 : S ∉ fp2
abbrev Lst (h : Heap) (S : Addr) (acc : Array Value) (c : Nat) : Prop := h.get? S = some { cls := .type "list", dict := none, data := .seq acc c, slots := #[] }
section
variable {prog : Program} {w : World} {A : Around} {R : Result → Shared → Prop} {z TI TO i1 i2 S b0 : Nat} {fp1 fp2 : List Addr} {n1 n2 : Nat} {P1 P2 : Nat → Value → Prop} {St1 St2 : Nat → Heap → Prop}
theorem far {a b c : Nat} (h1 : a < b) (h2 : b ≤ c) : c ≠ a := by omega
def ZS (z TI TO b0 : Nat) (i : Nat) (h : Heap) : Prop := (i = 0 ∧ IsZip h z TI TO .none ∧ ∃ a1 a2, IsTupOf2 h TO a1 a2) ∨ ∃ T f oT, IsZipHeld h z TI TO T f ∧ h.get? T = some oT ∧ b0 ≤ T
theorem ext_loop (Z : ZipSep2 z TI TO i1 i2 fp1 fp2) (F : Far S z TI TO i1 i2 b0 fp1 fp2) (D1 : Draws prog w A.in1.in1 i1 fp1 n1 P1 St1) (D2 : Draws prog w A.in1.in1 i2 fp2 n2 P2 St2) (hn : min n1 n2 ≤ sizeLine) (res : Value) :
    ∀ (k i : Nat) (s : Shared) (acc : Array Value) (c : Nat), min n1 n2 - i = k → i ≤ min n1 n2 → b0 ≤ s.heap.objs.size → ZS z TI TO b0 i s.heap → IsTupOf2 s.heap TI (.ref i1) (.ref i2) → St1 i s.heap → St2 i s.heap → Lst s.heap S acc c → Out P1 P2 b0 acc i s.heap →
      (∀ h tk acc' c', (∀ b o, b ≠ S → b ≠ z → b ≠ TO → b ≠ i1 → b ≠ i2 → s.heap.get? b = some o → h.get? b = some o) → Lst h S acc' c' → Out P1 P2 b0 acc' (min n1 n2) h → R (.ok (.ret res)) { s with heap := h, toks := tk }) →
      codeAny (model prog w) A (.builtin "list.extend.loop" ⟨[.ref S, .ref z, res], []⟩) R s := by
  intro k
  induction k with
  | zero =>
    intro i s acc c hk hi hb zs hI st1 st2 hS out hR
    have hin : i = min n1 n2 := by omega
    refine codeAny_builtin PySem.F.entry_extend_loop ?_; rw [Around.under_plainId PySem.F.plain_extend_loop _]
    show wpAny _ A.in1 (pyNext (.ref z) >>= _) _ _ s
    rcases zs with ⟨_, hz, a1, a2, hO⟩ | ⟨T, f, oT, hz, hT, bT⟩
    · refine wpAny_bind (wpAny_pyNext_zipD2_end Z D1 D2 hz hI hO st1 st2 (by omega) (by omega) (by omega) fun g tk hk => ?_)
      refine wpAny_pure (hR g tk acc c (fun b o _ q1 q2 q3 q4 e => hk b o q1 q2 q3 q4 e) (hk _ _ F.Sz F.STO F.Si1 F.Si2 hS) ?_)
      rw [← hin]
      refine ⟨out.n, fun j hj => ?_, out.inc⟩
      obtain ⟨T, x, y, e1, e2, e3, e4⟩ := out.at_ j hj
      have q1 := F.cz; have q2 := F.cTO; have q3 := F.ci1; have q4 := F.ci2
      exact ⟨T, x, y, e1, e2, hk T _ (far F.cz e2) (far F.cTO e2) (far F.ci1 e2) (far F.ci2 e2) e3, e4⟩
    · refine wpAny_bind (pyEnd_held Z D1 D2 hz hT hI st1 st2 (by omega) (by omega) (by omega) fun g tk hk => ?_)
      refine wpAny_pure (hR g tk acc c (fun b o _ q1 _ q3 q4 e => hk b o q1 q3 q4 e) (hk _ _ F.Sz F.Si1 F.Si2 hS) ?_)
      rw [← hin]
      refine ⟨out.n, fun j hj => ?_, out.inc⟩
      obtain ⟨T, x, y, e1, e2, e3, e4⟩ := out.at_ j hj
      have q1 := F.cz; have q3 := F.ci1; have q4 := F.ci2
      exact ⟨T, x, y, e1, e2, hk T _ (far F.cz e2) (far F.ci1 e2) (far F.ci2 e2) e3, e4⟩
  | succ k ih =>
    intro i s acc c hk hi hb zs hI st1 st2 hS out hR
    have lt1 : i < n1 := by omega
    have lt2 : i < n2 := by omega
    have q1 := F.cz; have q2 := F.cTO; have q3 := F.ci1; have q4 := F.ci2; have q5 := F.cS; have q6 := F.cTI
    refine codeAny_builtin PySem.F.entry_extend_loop ?_; rw [Around.under_plainId PySem.F.plain_extend_loop _]
    show wpAny _ A.in1 (pyNext (.ref z) >>= _) _ _ s
    have step : ∀ (x y : Value) (g : Heap) (tk : Nat), P1 i x → P2 i y → (∃ T f oT, IsZipHeld g z TI TO T f ∧ g.get? T = some oT ∧ b0 ≤ T) → St1 (i + 1) g → St2 (i + 1) g → IsTupOf2 g s.heap.objs.size x y → g.objs.size = s.heap.objs.size + 1 →
        (∀ c o, c ≠ z → c ≠ TO → c ≠ i1 → c ≠ i2 → s.heap.get? c = some o → g.get? c = some o) →
        wpAny (model prog w) A.in1 (updateSeq S (·.push (.ref s.heap.objs.size)) >>= fun _ => again (.builtin "list.extend.loop" ⟨[.ref S, .ref z, res], []⟩))
          (fun fin s' => match fin with
            | .done f => R (.ok f) s'
            | .again c' => c'.quiet = true ∧ codeAny (model prog w) A c' R s') (fun e s' => R (.error e) s') { s with heap := g, toks := tk } := by
      intro x y g tk px py zh sx sy tt gs kp
      have hS1 : Lst g S acc c := kp _ _ F.Sz F.STO F.Si1 F.Si2 hS
      refine wpAny_bind (wpAny_updateSeq (s := { s with heap := g, toks := tk }) hS1 rfl ?_ (by rw [out.n]; omega) (by show (acc.push _).size ≤ sizeLine + 1; rw [Array.size_push, out.n]; omega))
      obtain ⟨T, f, oT, zh1, zh2, zh3⟩ := zh
      have oth : ∀ b o, b ≠ S → g.get? b = some o → (g.update S (Obj.mapSeq (·.push (Value.ref s.heap.objs.size)))).get? b = some o := fun b o ne e => (Heap.get?_update_other _ _ (Ne.symm ne)).trans e
      have out2 : Out P1 P2 b0 (acc.push (.ref s.heap.objs.size)) (i + 1) (g.update S (Obj.mapSeq (·.push (Value.ref s.heap.objs.size)))) := by
        refine ⟨by rw [Array.size_push, out.n], fun j hj => ?_, fun j j' T1 T2 lt e1 e2 => ?_⟩
        · by_cases e : j = i
          · subst e
            exact ⟨_, x, y, by rw [Array.getElem?_push, if_pos out.n.symm], hb, oth s.heap.objs.size _ (far F.cS hb) tt, px, py⟩
          · obtain ⟨T1, x1, y1, e1, e2, e3, e4⟩ := out.at_ j (by omega)
            exact ⟨T1, x1, y1, by rw [Array.getElem?_push, if_neg (by rw [out.n]; exact e)]; exact e1, e2, oth T1 _ (far F.cS e2) (kp T1 _ (far F.cz e2) (far F.cTO e2) (far F.ci1 e2) (far F.ci2 e2) e3), e4⟩
        · rw [Array.getElem?_push] at e1 e2
          by_cases a : j = acc.size
          · rw [if_pos a] at e1
            have b : j' ≠ acc.size := by omega
            rw [if_neg b] at e2
            obtain ⟨T3, _, _, e3, _, e4, _⟩ := out.at_ j' (by have := out.n; omega)
            rw [e3] at e2
            cases Option.some.inj e1
            cases Option.some.inj e2
            exact Heap.lt_size e4
          · rw [if_neg a] at e1
            have b : j' ≠ acc.size := by
              intro z
              have := (Array.getElem?_eq_some_iff.mp e1).1
              omega
            rw [if_neg b] at e2
            exact out.inc j j' T1 T2 lt e1 e2
      refine wpAny_pure ⟨plainId_quiet PySem.F.plain_extend_loop _, ih (i + 1) { s with heap := _, toks := tk } _ _ (by omega) (by omega) ?_ (.inr ⟨T, f, oT, oth _ _ F.Sz.symm zh1, oth T _ (far F.cS zh3) zh2, zh3⟩) (oth _ _ F.STI.symm (kp _ _ Z.TIz Z.TITO Z.TIi1 Z.TIi2 hI)) (D1.frame _ _ _ sx fun b hm o e => oth b o (fun v => F.Sf1 (v ▸ hm)) e) (D2.frame _ _ _ sy fun b hm o e => oth b o (fun v => F.Sf2 (v ▸ hm)) e) (Heap.get?_update_self _ hS1 rfl) out2 fun h tk' acc' c' kp2 l o2 => ?_⟩
      · show b0 ≤ (g.update S _).objs.size
        rw [Heap.size_update, gs]; omega
      · exact hR h tk' acc' c' (fun b o y1 y2 y3 y4 y5 e => kp2 b o y1 y2 y3 y4 y5 (oth b o y1 (kp b o y2 y3 y4 y5 e))) l o2
    rcases zs with ⟨_, hz, a1, a2, hO⟩ | ⟨T, f, oT, hz, hT, bT⟩
    · refine wpAny_bind (wpAny_pyNext_zipD2_item Z D1 D2 hz hI hO st1 st2 lt1 lt2 fun x y g tk p1 p2 b1 b2 c1 c2 b5 b6 b7 => ?_)
      exact step x y g tk p1 p2 ⟨_, false, _, b1, b5, hb⟩ c1 c2 b5 b6 b7
    · refine wpAny_bind (pyNext_held Z D1 D2 hz hT hI st1 st2 lt1 lt2 fun x y g tk p1 p2 b1 c1 c2 b5 b6 b7 => ?_)
      exact step x y g tk p1 p2 ⟨T, true, oT, b1, b7 T _ (far F.cz bT) (far F.ci1 bT) (far F.ci2 bT) hT, bT⟩ c1 c2 b5 b6 fun c o v1 _ v3 v4 e => b7 c o v1 v3 v4 e
end
end LZ
end PySem
namespace PySem
open Sem (wp)
open PySem.Calls PyProof.Rows PyProof.V PySem.Spec
namespace LZ
section
variable {prog : Program} {w : World} {A : Around} {E : Value → Shared → Prop} {s : Shared} {z TI TO i1 i2 t1 t2 : Addr} {xs ys : Array Value} {a1 a2 : Value}
theorem no_room (ty : s.TypeIs (.ref z) "zip") {Q : Bool → Shared → Prop} (h : Q true s) : wpAny (model prog w) A (Builtin.List.listLengthHint (.ref z)) Q E s := by
  unfold Builtin.List.listLengthHint; refine wpAny_bind (wpAny_specialOf ty no_len ?_)
  exact wpAny_bind (wpAny_specialOf ty no_hint (wpAny_pure h))
theorem call_list (hh : A.handled = none) (h1 : s.heap.IsTuple t1 xs) (h2 : s.heap.IsTuple t2 ys) (hz : IsZip s.heap z TI TO .none) (hI : IsTupOf2 s.heap TI (.ref i1) (.ref i2)) (hO : IsTupOf2 s.heap TO a1 a2)
    (g1 : s.heap.IsTupleIter i1 t1 0) (g2 : s.heap.IsTupleIter i2 t2 0) (Z : ZipSep2 z TI TO i1 i2 [i1, t1] [i2, t2]) (hn : min xs.size ys.size ≤ sizeLine) {Q : Value → Shared → Prop}
    (hQ : ∀ h tk acc c, (∀ b o, b ≠ z → b ≠ TO → b ≠ i1 → b ≠ i2 → s.heap.get? b = some o → h.get? b = some o) → Lst h s.heap.objs.size acc c →
      Out (fun i v => xs[i]? = some v) (fun i v => ys[i]? = some v) (s.heap.objs.size + 1) acc (min xs.size ys.size) h → Q (.ref s.heap.objs.size) { s with heap := h, toks := tk }) :
    wpAny (model prog w) A (call (.type "list") [.ref z]) Q E s := by
  have lz : z < s.heap.objs.size := Heap.lt_size hz
  have lI : TI < s.heap.objs.size := Heap.lt_size hI
  have lO : TO < s.heap.objs.size := Heap.lt_size hO
  have l1 : i1 < s.heap.objs.size := let ⟨_, e, _⟩ := g1; Heap.lt_size e
  have l2 : i2 < s.heap.objs.size := let ⟨_, e, _⟩ := g2; Heap.lt_size e
  have k1 : t1 < s.heap.objs.size := let ⟨_, e, _⟩ := h1; Heap.lt_size e
  have k2 : t2 < s.heap.objs.size := let ⟨_, e, _⟩ := h2; Heap.lt_size e
  have nt1 : t1 ≠ i1 := fun e => by
    obtain ⟨o, c1, c2, _⟩ := g1
    obtain ⟨o', c3, c4, _⟩ := h1
    rw [e, c1] at c3
    cases c3
    rw [c2] at c4; injection c4 with q
    exact absurd q (by decide)
  have nt2 : t2 ≠ i2 := fun e => by
    obtain ⟨o, c1, c2, _⟩ := g2
    obtain ⟨o', c3, c4, _⟩ := h2
    rw [e, c1] at c3
    cases c3
    rw [c2] at c4; injection c4 with q
    exact absurd q (by decide)
  refine callType_codes (Q₁ := fun v s2 => v = .ref s.heap.objs.size ∧ s2 = { s with heap := s.heap.push { cls := .type "list", data := .seq #[] } }) PySem.F.called_list (PySem.F.typeCall_list_1 _) PySem.F.entry_list_init (code_list_new _ ⟨rfl, rfl⟩) ?_
  rintro v s2 ⟨rfl, rfl⟩
  have S0 : (s.heap.push { cls := .type "list", data := .seq #[] }).get? s.heap.objs.size = some { cls := .type "list", data := .seq #[] } := Heap.get?_push_size _ rfl
  have up : ∀ b o, s.heap.get? b = some o → (s.heap.push { cls := .type "list", data := .seq #[] }).get? b = some o := fun b o e => Heap.get?_push_of_some _ e
  refine ⟨⟨_, S0, rfl⟩, PySem.F.args_list_init_2 _ _, ?_⟩
  show wpAny _ _ (do
    let old ← Builtin.List.listItems (.ref s.heap.objs.size)
    Builtin.List.listUpdate (.ref s.heap.objs.size) (fun _ => #[])
    letGo old.toList.reverse
    Builtin.List.listExtendWith (.ref s.heap.objs.size) (.ref z) .none) _ _ _
  refine wpAny_bind ?_
  unfold Builtin.List.listItems; refine wpAny_bind (wpAny_seqItems S0 rfl (wpAny_pure (wpAny_bind (wpAny_updateSeq S0 rfl ?_))))
  have S1 := Heap.get?_update_self (Obj.mapSeq fun _ => (#[] : Array Value)) S0 rfl
  obtain ⟨H1, eH1⟩ : ∃ H1, H1 = (s.heap.push { cls := .type "list", data := .seq #[] }).update s.heap.objs.size (Obj.mapSeq fun _ => (#[] : Array Value)) := ⟨_, rfl⟩
  have up1 : ∀ b o, s.heap.get? b = some o → H1.get? b = some o := fun b o e => by
    rw [eH1]
    exact (Heap.get?_update_other _ _ (Ne.symm (Nat.ne_of_lt (Heap.lt_size e)))).trans (up b o e)
  have sz1 : H1.objs.size = s.heap.objs.size + 1 := by rw [eH1, Heap.size_update, Heap.size_push]
  refine wpAny_bind (wpAny_letGo ?_)
  unfold Builtin.List.listExtendWith
  show wpAny _ _ _ _ _ { s with heap := (s.heap.push { cls := .type "list", data := .seq #[] }).update s.heap.objs.size (Obj.mapSeq fun _ => (#[] : Array Value)) }
  rw [← eH1] at S1 ⊢
  have ty : ({ s with heap := H1 } : Shared).TypeIs (.ref z) "zip" := ⟨_, up1 _ _ hz, rfl⟩
  refine wpAny_bind (wpAny_typeOf (T := "zip") ty ?_)
  have n1 : Builtin.List.listSameRef (.ref s.heap.objs.size) (.ref z) = false := by simp [Builtin.List.listSameRef]; exact Nat.ne_of_gt lz
  have n2 : (Value.type "zip" == Value.type "list") = false := by decide
  have n3 : (Value.type "zip" == Value.type "tuple") = false := by decide
  rw [n1, n2, n3]; simp only [Bool.or_false, Bool.false_eq_true, if_false]
  refine wpAny_bind (wpAny_pyIter_zip (s := { s with heap := H1 }) (up1 _ _ hz) (wpAny_bind (wpAny_holding (no_room ty ?_))))
  have Fz : Far s.heap.objs.size z TI TO i1 i2 (s.heap.objs.size + 1) [i1, t1] [i2, t2] := ⟨Nat.lt_succ_self _, Nat.lt_succ_of_lt lz, Nat.lt_succ_of_lt lI, Nat.lt_succ_of_lt lO, Nat.lt_succ_of_lt l1, Nat.lt_succ_of_lt l2, Nat.ne_of_gt lz, Nat.ne_of_gt lI, Nat.ne_of_gt lO, Nat.ne_of_gt l1, Nat.ne_of_gt l2,
    by simp only [List.mem_cons, List.not_mem_nil, or_false, not_or]; exact ⟨Nat.ne_of_gt l1, Nat.ne_of_gt k1⟩, by simp only [List.mem_cons, List.not_mem_nil, or_false, not_or]; exact ⟨Nat.ne_of_gt l2, Nat.ne_of_gt k2⟩⟩
  have key : ∀ (h : Heap) (c tk : Nat), (∀ b o, b ≠ s.heap.objs.size → s.heap.get? b = some o → h.get? b = some o) → s.heap.objs.size + 1 ≤ h.objs.size → Lst h s.heap.objs.size #[] c →
      codeAny (model prog w) A.in1 (.builtin "list.extend.loop" ⟨[.ref s.heap.objs.size, .ref z, .none], []⟩) (wants (fun r s2 => r = .none ∧ Q (.ref s.heap.objs.size) s2) E) { s with heap := h, toks := tk } := fun h c tk hk hs hL => by
    refine ext_loop (prog := prog) (w := w) (A := A.in1) Z Fz (Draws.tuple (A := A.in1.in1.in1) hh i1 t1 nt1 xs) (Draws.tuple (A := A.in1.in1.in1) hh i2 t2 nt2 ys) hn .none _ 0 { s with heap := h, toks := tk } #[] c rfl (Nat.zero_le _) hs ?_ (hk _ _ (Nat.ne_of_lt lI) hI) ?_ ?_ hL ⟨rfl, (fun j hj => absurd hj (Nat.not_lt_zero j)), fun j j' T T' lt e => by simp at e⟩ fun h' tk' acc' c' kp l o => ⟨rfl, ?_⟩
    · exact .inl ⟨rfl, hk _ _ (Nat.ne_of_lt lz) hz, _, _, hk _ _ (Nat.ne_of_lt lO) hO⟩
    · exact ⟨g1.at fun o e => hk _ o (Nat.ne_of_lt l1) e, h1.at fun o e => hk _ o (Nat.ne_of_lt k1) e⟩
    · exact ⟨g2.at fun o e => hk _ o (Nat.ne_of_lt l2) e, h2.at fun o e => hk _ o (Nat.ne_of_lt k2) e⟩
    · exact hQ h' tk' acc' c' (fun b o q1 q2 q3 q4 e => kp b o (Nat.ne_of_lt (Heap.lt_size e)) q1 q2 q3 q4 (hk b o (Nat.ne_of_lt (Heap.lt_size e)) e)) l o
  have S1' : Lst H1 s.heap.objs.size #[] _ := S1
  refine wpAny_ite_split (fun _ => ?_) fun _ => ?_
  · refine wpAny_bind (wpAny_rule (wpAny_bind ?_))
    show wpAny _ _ (updateSeq s.heap.objs.size (·.push .none) >>= fun _ => updateSeq s.heap.objs.size (·.pop)) _ _ _
    refine wpAny_bind (wpAny_updateSeq (s := { s with heap := H1 }) S1' rfl ?_)
    have S2 := Heap.get?_update_self (Obj.mapSeq (·.push Value.none)) S1' rfl
    refine wpAny_updateSeq (hz := by seq_fits) S2 rfl (wpAny_pure ⟨plainId_quiet PySem.F.plain_extend_loop _, key _ _ _ (fun b o ne e => ?_) ?_ (Heap.get?_update_self (Obj.mapSeq (·.pop)) S2 rfl)⟩)
    · exact (Heap.get?_update_other _ _ (Ne.symm ne)).trans ((Heap.get?_update_other _ _ (Ne.symm ne)).trans (up1 b o e))
    · show _ ≤ ((H1.update s.heap.objs.size _).update s.heap.objs.size _).objs.size
      rw [Heap.size_update, Heap.size_update, sz1]; exact Nat.le_refl _
  · exact wpAny_pure ⟨plainId_quiet PySem.F.plain_extend_loop _, key _ _ _ (fun b o ne e => up1 b o e) (by rw [sz1]; exact Nat.le_refl _) S1'⟩
end
end LZ
end PySem
namespace FD
open PySem L2 Evl PySem.Spec PySem.Calls PyProof.Rows
/-- pairs laid, one after another -/
def layT (H : Hp) : List Addr → List (V × V) → Hp
  | t :: ts, z :: zs => layT (upd H t (.tup [z.1, z.2])) ts zs
  | _, _ => H
theorem lay_out : ∀ {ts : List Addr} {zs : List (V × V)} {H : Hp} {b : Addr}, b ∉ ts → layT H ts zs b = H b
  | [], _, _, _, _ => rfl
  | t :: ts, [], _, _, _ => rfl
  | t :: ts, z :: zs, H, b, h => by
    show layT (upd H t _) ts zs b = H b
    rw [lay_out fun q => h (List.mem_cons_of_mem _ q), upd_ne fun q => h (by rw [q]; exact List.mem_cons_self)]
theorem lay_ok {P : Program} {w : World} {h : Heap} : ∀ {ts : List Addr} {zs : List (V × V)} {H : Hp}, HOk P w H h → (∀ t ∈ ts, H t = none) → ts.Nodup → Paired (fun t (z : V × V) => ∃ u v, IsTup h t #[u, v] ∧ RelV z.1 u ∧ RelV z.2 v) ts zs →
    HOk P w (layT H ts zs) h ∧ Paired (fun t (z : V × V) => layT H ts zs t = some (.tup [z.1, z.2])) ts zs
  | [], _, _, x, _, _, .nil => ⟨x, .nil⟩
  | t :: ts, z :: zs, H, x, hn, nd, .cons p r => by
    obtain ⟨u, v, q1, q2, q3⟩ := p
    obtain ⟨nt, nd2⟩ := List.nodup_cons.mp nd
    have x1 : HOk P w (upd H t (.tup [z.1, z.2])) h := x.laidN (fun _ _ e => e) (hn t List.mem_cons_self) ⟨by rw [sizeLine_eq]; simp, [u, v], .cons q2 (.cons q3 .nil), q1⟩
    obtain ⟨y1, y2⟩ := lay_ok x1 (fun s hs => by rw [upd_ne fun q : s = t => nt (by rw [← q]; exact hs)]; exact hn s (List.mem_cons_of_mem _ hs)) nd2 r
    refine ⟨y1, .cons ?_ y2⟩
    show layT (upd H t _) ts zs t = _
    rw [lay_out nt, upd_same]
def tListZip (K : PySem.W.Frag) (ta : TA) : TE := fun σ H Q => ta σ H fun vs H1 => ∃ a b xs ys, vs = [V.ref a, .ref b] ∧ SqT K H1 a xs ∧ SqT K H1 b ys ∧ xs.length ≤ 4000 ∧
  ∀ (p : Addr) (ts : List Addr) (H2 : Hp), H1 p = none → (∀ t ∈ ts, H1 t = none) → (∀ b, b ≠ p → b ∉ ts → H2 b = H1 b) → Paired (fun t (z : V × V) => H2 t = some (.tup [z.1, z.2])) ts (xs.zip ys) → H2 p = some (.lst (ts.map V.ref)) → Q (.ref p) H2
theorem boot_list2 : bootBuiltins "list" = some (.type "list") := by decide +kernel
theorem boot_zip2 : bootBuiltins "zip" = some (.type "zip") := by decide +kernel
theorem zip_rel : ∀ {xs ys : List V} {us vs : List Value} {j : Nat} {u v : Value}, Vals xs us → Vals ys vs → us[j]? = some u → vs[j]? = some v → ∃ z, (xs.zip ys)[j]? = some z ∧ RelV z.1 u ∧ RelV z.2 v
  | _, _, _, _, 0, u, v, .cons h1 _, .cons h2 _, e1, e2 => by
    cases Option.some.inj e1
    cases Option.some.inj e2
    exact ⟨_, rfl, h1, h2⟩
  | _, _, _, _, j + 1, u, v, .cons _ t1, .cons _ t2, e1, e2 => by
    obtain ⟨z, e, r⟩ := zip_rel (j := j) t1 t2 (by simpa using e1) (by simpa using e2)
    exact ⟨z, by simpa using e, r⟩
theorem paired_of_get {α β : Type} {F : α → β → Prop} : ∀ {as : List α} {bs : List β}, as.length = bs.length → (∀ (j : Nat) (a : α) (b : β), as[j]? = some a → bs[j]? = some b → F a b) → Paired F as bs
  | [], [], _, _ => .nil
  | a :: as, b :: bs, hl, h => .cons (h 0 a b rfl rfl) (paired_of_get (by simpa using hl) fun j x y e1 e2 => h (j + 1) x y (by simpa using e1) (by simpa using e2))
theorem vals_refsT : ∀ ts : List Addr, Vals (ts.map V.ref) (ts.map Value.ref)
  | [] => .nil
  | t :: ts => .cons rfl (vals_refsT ts)
section
variable {X : Cx}
theorem pe_listZip {a b : Expr} {ta : TA} {p p2 q pos : Pos} (hc : X.calm = true) (hg : Gl X "list") (hm : X.mg "list" = none) (hg2 : Gl X "zip") (hm2 : X.mg "zip" = none) (ha : PA X [a, b] ta)
    (na : starEach [a, b] X.env = (false, eval a X.env) :: starEach [b] X.env := by rfl) (hpl : (backTo q (starEach [b] X.env)).any (·.1) = false := by rfl) : PE X (.Call (.Name "list" p) [.Call (.Name "zip" p2) [a, b] [] q] [] pos) (tListZip X.K ta) := by
  refine ⟨fun pins s σ H Q I h => ?_⟩
  refine wpAny_Call_Name_kw (ld_blt I hg hm boot_list2 ?_)
  refine PyProof.Rows.callWith_type1 (PyProof.Rows.args_cons ?_ rfl) rfl rfl
  refine wpAny_Call_Name_kw (ld_blt I hg2 hm2 boot_zip2 ?_)
  refine PyProof.Rows.callWith_type1 (thn (ha.run q pins s σ H _ I h) fun us s1 ⟨vs, H1, I1, r1, q1⟩ => ?_) na hpl
  obtain ⟨a1, b1, xs, ys, rfl, h1, h2, hl, q1⟩ := q1
  obtain ⟨u1, u2, rfl, ru1, ru2⟩ := vals2 r1
  cases ru1; cases ru2
  obtain ⟨it1, v1, g1, z1⟩ := I1.tuple h1
  obtain ⟨it2, v2, g2, z2⟩ := I1.tuple h2
  have la : a1 < s1.heap.objs.size := let ⟨_, e, _⟩ := g1; Heap.lt_size e
  have lb : b1 < s1.heap.objs.size := let ⟨_, e, _⟩ := g2; Heap.lt_size e
  refine zip_begins2 (begins_tuple a1 it1.toArray) (begins_tuple b1 it2.toArray) g1 g2 fun h' hz hI hO o1 o2 sz k => ?_
  refine PyProof.Rows.args_nil ?_
  have len1 : it1.length = xs.length := v1.length.symm
  have len2 : it2.length = ys.length := v2.length.symm
  have mn : min it1.toArray.size it2.toArray.size = (xs.zip ys).length := by rw [List.size_toArray, List.size_toArray, len1, len2, List.length_zip]
  have Z : ZipSep2 (s1.heap.objs.size + 4) (s1.heap.objs.size + 2) (s1.heap.objs.size + 3) s1.heap.objs.size (s1.heap.objs.size + 1) [s1.heap.objs.size, a1] [s1.heap.objs.size + 1, b1] := by
    have ne : ∀ {x y : Nat}, x < y → x ≠ y := fun h => Nat.ne_of_lt h
    refine ⟨?_, ?_, ?_, ?_, List.mem_cons_self, ?_, ?_, ?_, List.mem_cons_self, ?_, ?_, ?_, ?_⟩
    all_goals (simp only [List.mem_cons, List.not_mem_nil, or_false, not_or, ne_eq])
    · exact fun e : s1.heap.objs.size + 2 = s1.heap.objs.size + 4 => absurd e (by omega)
    · exact fun e : s1.heap.objs.size + 3 = s1.heap.objs.size + 4 => absurd e (by omega)
    · exact fun e : s1.heap.objs.size + 2 = s1.heap.objs.size + 3 => absurd e (by omega)
    · exact fun e : s1.heap.objs.size + 2 = s1.heap.objs.size => absurd e (by omega)
    · exact ⟨fun e : s1.heap.objs.size + 4 = s1.heap.objs.size => absurd e (by omega), fun e => absurd la (by rw [← e]; exact Nat.not_lt.mpr (Nat.le_add_right _ _))⟩
    · exact ⟨fun e : s1.heap.objs.size + 3 = s1.heap.objs.size => absurd e (by omega), fun e => absurd la (by rw [← e]; exact Nat.not_lt.mpr (Nat.le_add_right _ _))⟩
    · exact fun e : s1.heap.objs.size + 2 = s1.heap.objs.size + 1 => absurd e (by omega)
    · exact ⟨fun e : s1.heap.objs.size + 4 = s1.heap.objs.size + 1 => absurd e (by omega), fun e => absurd lb (by rw [← e]; exact Nat.not_lt.mpr (Nat.le_add_right _ _))⟩
    · exact ⟨fun e : s1.heap.objs.size + 3 = s1.heap.objs.size + 1 => absurd e (by omega), fun e => absurd lb (by rw [← e]; exact Nat.not_lt.mpr (Nat.le_add_right _ _))⟩
    · exact ⟨fun e : s1.heap.objs.size = s1.heap.objs.size + 1 => absurd e (by omega), fun e => absurd lb (by rw [← e]; exact Nat.lt_irrefl _)⟩
    · exact ⟨fun e : s1.heap.objs.size + 1 = s1.heap.objs.size => absurd e (by omega), fun e => absurd la (by rw [← e]; exact Nat.not_lt.mpr (Nat.le_add_right _ _))⟩
  have g1' : h'.IsTuple a1 it1.toArray := let ⟨o, e1, e2, n, e3⟩ := g1; ⟨o, k _ _ e1, e2, n, e3⟩
  have g2' : h'.IsTuple b1 it2.toArray := let ⟨o, e1, e2, n, e3⟩ := g2; ⟨o, k _ _ e1, e2, n, e3⟩
  refine LZ.call_list (s := { s1 with heap := h' }) (I1.ok.hd hc) g1' g2' hz hI hO ⟨_, o1, rfl, rfl⟩ ⟨_, o2, rfl, rfl⟩ Z (by rw [mn, List.length_zip, sizeLine_eq]; omega) fun h2 tk acc c kp hL out => ?_
  have sz' : h'.objs.size = s1.heap.objs.size + 5 := sz
  have kk : ∀ b o, s1.heap.get? b = some o → h2.get? b = some o := fun b o e => by
    have lt := Heap.lt_size e
    exact kp b o (Nat.ne_of_lt (Nat.lt_add_right _ lt)) (Nat.ne_of_lt (Nat.lt_add_right _ lt)) (Nat.ne_of_lt lt) (Nat.ne_of_lt (Nat.lt_add_right _ lt)) (k b o e)
  obtain ⟨ts, hts⟩ : ∃ ts : List Addr, ts = acc.toList.map fun v => match v with
    | .ref t => t
    | _ => 0 := ⟨_, rfl⟩
  have tl : ts.length = (xs.zip ys).length := by rw [hts, List.length_map, Array.length_toList, out.n, mn]
  have tj : ∀ (j : Nat) (t : Addr), ts[j]? = some t → acc[j]? = some (.ref t) := fun j t e => by
    have jl := (List.getElem?_eq_some_iff.mp e).1
    obtain ⟨T, x, y, e1, _⟩ := out.at_ j (by rw [mn, ← tl]; exact jl)
    rw [hts, List.getElem?_map, Array.getElem?_toList, e1] at e
    rw [e1, ← Option.some.inj e]
  have accE : acc.toList = ts.map Value.ref := by
    refine List.ext_getElem? fun j => ?_
    rw [List.getElem?_map, Array.getElem?_toList]
    by_cases jl : j < ts.length
    · rw [List.getElem?_eq_getElem jl, tj j _ (List.getElem?_eq_getElem jl)]; rfl
    · rw [List.getElem?_eq_none (by omega), Array.getElem?_eq_none (by rw [out.n, mn, ← tl]; omega)]; rfl
  have nd : ts.Nodup := by
    rw [List.nodup_iff_pairwise_ne, List.pairwise_iff_getElem]
    intro i j hi hj lt e
    have := out.inc j i _ _ lt (tj j _ (List.getElem?_eq_getElem hj)) (tj i _ (List.getElem?_eq_getElem hi))
    rw [e] at this
    exact Nat.lt_irrefl _ this
  have big : ∀ t ∈ ts, h'.objs.size + 1 ≤ t := fun t ht => by
    obtain ⟨j, hj⟩ := List.getElem?_of_mem ht
    obtain ⟨T, x, y, e1, e2, _⟩ := out.at_ j (by rw [mn, ← tl]; exact (List.getElem?_eq_some_iff.mp hj).1)
    rw [tj j t hj] at e1
    cases Option.some.inj e1
    exact e2
  have none1 : ∀ b, s1.heap.objs.size ≤ b → H1 b = none := fun b hb => I1.hok.fresh hb
  have prd : Paired (fun t (z : V × V) => ∃ u v, IsTup h2 t #[u, v] ∧ RelV z.1 u ∧ RelV z.2 v) ts (xs.zip ys) := by
    refine paired_of_get tl fun j t z e1 e2 => ?_
    obtain ⟨T, x, y, a1', _, a3, a4, a5⟩ := out.at_ j (by rw [mn, ← tl]; exact (List.getElem?_eq_some_iff.mp e1).1)
    rw [tj j t e1] at a1'
    cases Option.some.inj a1'
    obtain ⟨z', e3, r1, r2⟩ := zip_rel v1 v2 (by simpa using a4) (by simpa using a5)
    rw [e2] at e3
    cases Option.some.inj e3
    exact ⟨x, y, ⟨_, a3, rfl, _, rfl⟩, r1, r2⟩
  have hok1 : HOk X.prog X.w H1 h2 := I1.hok.kept kk
  obtain ⟨L1, L2⟩ := lay_ok hok1 (fun t ht => none1 t (Nat.le_trans (by rw [sz']; exact Nat.le_add_right _ _) (Nat.le_trans (Nat.le_succ _) (big t ht)))) nd prd
  have pn : h'.objs.size ∉ ts := fun z => absurd (big _ z) (Nat.not_succ_le_self _)
  have pnone : H1 h'.objs.size = none := none1 _ (by rw [sz']; exact Nat.le_add_right _ _)
  have L3 : HOk X.prog X.w (upd (layT H1 ts (xs.zip ys)) h'.objs.size (.lst (ts.map V.ref))) h2 := by
    refine L1.laidN (fun _ _ e => e) (by rw [lay_out pn]; exact pnone) ⟨by rw [List.length_map, tl, List.length_zip, sizeLine_eq]; omega, ts.map Value.ref, c, vals_refsT ts, ?_⟩
    have : h2.get? h'.objs.size = some { cls := .type "list", dict := none, data := .seq acc c, slots := #[] } := hL
    rw [this, ← accE, Array.toArray_toList]
  have same : ∀ b, b ≠ h'.objs.size → b ∉ ts → upd (layT H1 ts (xs.zip ys)) h'.objs.size (.lst (ts.map V.ref)) b = H1 b := fun b n1 n2 => by rw [upd_ne n1, lay_out n2]
  have old : ∀ b, b < s1.heap.objs.size → upd (layT H1 ts (xs.zip ys)) h'.objs.size (.lst (ts.map V.ref)) b = H1 b := fun b hb => same b (Nat.ne_of_lt (by rw [sz']; exact Nat.lt_add_right _ hb)) fun z => by
    have := big b z
    rw [sz'] at this
    exact absurd hb (Nat.not_lt.mpr (Nat.le_trans (Nat.le_add_right _ 6) this))
  have oldS : ∀ b u, H1 b = some u → upd (layT H1 ts (xs.zip ys)) h'.objs.size (.lst (ts.map V.ref)) b = some u := fun b u e => by
    have lt : b < s1.heap.objs.size := Nat.lt_of_not_le fun z => by rw [none1 b z] at e; cases e
    rw [old b lt]; exact e
  have U : Un X.fs [] H1 (upd (layT H1 ts (xs.zip ys)) h'.objs.size (.lst (ts.map V.ref))) s1.heap h2 :=
    ⟨fun b o e _ _ _ => kk b o e, fun b o e _ _ _ => ⟨o.slots, kk b o e⟩, fun b o e n _ => by rw [old b (Heap.lt_size e)]; exact n, fun b o e _ => ⟨o, kk b o e⟩, fun b xs e => oldS b _ e, fun b o u e => oldS b _ e, fun b ps e => ⟨#[], by rw [oldS b _ e]; simp⟩⟩
  have J := I1.un (t' := tk) U L3
  exact ⟨.ref h'.objs.size, _, J, rfl, q1 _ ts _ pnone (fun t ht => none1 t (Nat.le_trans (by rw [sz']; exact Nat.le_add_right _ _) (Nat.le_trans (Nat.le_succ _) (big t ht)))) same (Paired.mapP L2 fun t z e => by
    rw [upd_ne (fun q => ?_)]
    · exact e
    · rw [q, lay_out pn, pnone] at e; cases e) upd_same⟩
end
end FD
namespace FD
open PySem L2 Evl PySem.Spec PySem.Calls PyProof.Rows
/-- list(d.values()), the keys names or numbers -/
def tListVals (td : TE) : TE := fun σ H Q => td σ H fun x H1 => ∃ (d : Addr) (kvs : List (Key × V)), x = .ref d ∧ Rd H1 d (.dK kvs) ∧ ∀ p, H1 p = none → Q (.ref p) (upd H1 p (.lst (kvs.map (·.2))))
section
variable {X : Cx}
theorem kv_vals : ∀ {kvs : List (Key × V)} {vs : List (Key × Value)}, KV kvs vs → Vals (kvs.map (·.2)) (vs.map (·.2))
  | _, _, .nil => .nil
  | _, _, .cons h t => .cons h.2 (kv_vals t)
theorem pe_listVals {e : Expr} {td : TE} {p apos cpos pos : Pos} (hc : X.calm = true) (hg : Gl X "list") (hm : X.mg "list" = none) (he : PE X e td)
    (hbase : attributeBase e "values" X.env (eval e X.env) = eval e X.env := by rfl) (hline : (apos.endLine == cpos.line) = true := by rfl) : PE X (.Call (.Name "list" p) [.Call (.Attribute e "values" apos) [] [] cpos] [] pos) (tListVals td) := by
  refine ⟨fun pins s σ H Q I h => ?_⟩
  refine wpAny_Call_Name_kw (ld_blt I hg hm boot_list2 ?_)
  refine PyProof.Rows.callWith_type1 (PyProof.Rows.args_cons ?_ rfl) rfl rfl
  refine wpAny_Call_method (T := "dict") (id := "dict.values") hbase rfl hline F.plainAttrs_dict F.slot_dict_values F.type_dict_values (thn (he.run pins s σ H _ I h) fun u s1 q => ?_)
  obtain ⟨x, H1, I1, rx, d, kvs, rfl, hd, q⟩ := q
  cases (show u = Value.ref d from rx)
  obtain ⟨hz, sm, vs, kv, dd⟩ := (show ObjOk X.prog X.w H1 s1.heap d (.dK kvs) from rd_of I1.hok hd)
  have hl : kvs.length = vs.length := Paired.length kv
  obtain ⟨ep, da⟩ := dd.dictAt
  refine ⟨dd.typeIs, dd.mapOf.noDict, ?_⟩
  have up : ∀ b o, s1.heap.get? b = some o → (s1.heap.push { cls := .type "dict_values", data := .fields #[.ref d] }).get? b = some o := fun b o e => Heap.get?_push_of_some _ e
  show wpAny _ _ (callWith cpos (.builtin "dict.values") [.ref d] [] []) _ _ s1
  refine method_meetsIn F.slot_dict_values F.entry_dict_values rfl (PySem.evalArgs_none ⟨rfl, dd.typeIs, F.args_dict_values_1 _, _, meets_dict_values (mixKind X.prog X.w) d sm, ⟨vs, dd⟩, PyProof.Rows.args_nil ?_⟩)
  refine PySem.W.kdl_call (s := { s1 with heap := s1.heap.push { cls := .type "dict_values", data := .fields #[.ref d] } }) (PySem.W.kdl_values (knd := mixKind X.prog X.w) (kvs := vs) (ep := ep) (d := d) (r := s1.heap.objs.size)) (I1.ok.hd hc) ⟨⟨_, Heap.get?_push_size _ rfl, rfl, rfl⟩, da.keep up⟩ (by rw [← hl]; exact hz) fun h' tk acc c k hL it => ?_
  have ev : acc.toList = vs.map (·.2) := PySem.W.kdl_vals_eq acc.toList (by rw [Array.length_toList]; exact it.1) fun j v e => it.2 j v (by rw [← Array.getElem?_toList]; exact e)
  have kk : ∀ b o, s1.heap.get? b = some o → h'.get? b = some o := fun b o e => k b o (up b o e)
  have big : s1.heap.objs.size ≤ (s1.heap.push { cls := .type "dict_values", data := .fields #[.ref d] }).objs.size := by rw [Heap.size_push]; exact Nat.le_succ _
  refine ⟨.ref _, _, I1.laid (t' := tk) kk big (show ObjOk X.prog X.w _ _ _ (.lst (kvs.map (·.2))) from ⟨by rw [List.length_map]; exact hz, vs.map (·.2), c, kv_vals kv, ?_⟩), rfl, q _ (I1.hok.fresh big)⟩
  rw [← ev, Array.toArray_toList]; exact hL
end
section
variable {C : Cfg} {M : List Addr} {δ : List Ent} {μ μ1 μ2 μ3 : Mem} {ta tb te td : TE} {tr : TA} {e e1 e2 : Ent} {D : Ends} {t2 : TS} {i j m : Nat} {a : Addr} {d : PyData} {l : Dct} {ds es : List PyData} {mo : MO}
def zipD (ds es : List PyData) : List PyData := List.zipWith (fun d e => .tuple [d, e]) ds es
theorem zip_dp {K : PySem.W.Frag} {Hh : Hp} : ∀ {vs ws : List V} {ds es : List PyData} {ts : List Addr}, DpAll K Hh vs ds → DpAll K Hh ws es → Paired (fun t (z : V × V) => Hh t = some (.tup [z.1, z.2])) ts (vs.zip ws) → DpAll K Hh (ts.map V.ref) (zipD ds es)
  | _, _, _, _, _, .nil, _, .nil => .nil
  | _, _, _, _, _, .cons _ _, .nil, .nil => .nil
  | _, _, _, _, _, .cons h1 t1, .cons h2 t2, .cons q r => .cons (.tup q (.cons h1 (.cons h2 .nil))) (zip_dp t1 t2 r)
theorem x_listZip (h : EvA C tr M δ μ μ1 [.d (.tuple ds), .d (.tuple es)]) (hl : ds.length ≤ 4000) : EvX C (tListZip C.K tr) M δ μ μ1 (.d (.list (zipD ds es))) := fun σ H o Q kk => h σ H o _ fun vs H1 o1 x1 r1 => by
  match vs, r1 with
  | _, .cons (b := v1) q1 (.cons (b := v2) q2 .nil) =>
    obtain ⟨a, xs, rfl, s1, d1⟩ := Dp.tup_of q1
    obtain ⟨b, ys, rfl, s2, d2⟩ := Dp.tup_of q2
    refine ⟨a, b, xs, ys, rfl, ex_t hide_le s1, ex_t hide_le s2, by rw [d1.length]; exact hl, fun p ts H2 hp ht same pr pl => ?_⟩
    have ex : Ex H1 H2 := fun b u e => by
      rw [same b (fun z => by rw [z, hp] at e; cases e) (fun z => by rw [ht b z] at e; cases e)]
      exact e
    have o2 := o1.grow ex
    have x2 : Ex (hide M H1) (hide M H2) := hide_ex ex
    refine kk _ H2 o2 (x1.trans x2) (.lst (xs := ts.map V.ref) (sq_of ?_) ?_)
    · rw [hide_out (o1.fresh hp)]; exact pl
    · exact zip_dp (dpAll_mono x2 _ _ d1) (dpAll_mono x2 _ _ d2) (Paired.mapP pr fun t z e => hide_tup e)
theorem dc_valsD {K : PySem.W.Frag} {Hh : Hp} : ∀ {l : Dct} {ws : List (Key × V)}, DcOk K Hh ws (kd l) → DpAll K Hh (ws.map (·.2)) (l.map (·.2))
  | [], _, .nil => .nil
  | p :: l, _, .cons h t => .cons h.2 (dc_valsD t)
theorem x_listVals (h : EvX C td M δ μ μ1 (.m a)) (hm : (a, mo) ∈ μ1) (hd : IsDct mo l) : EvX C (tListVals td) M δ μ μ1 (.d (.list (l.map (·.2)))) := fun σ H o Q kk => h σ H o _ fun v H1 o1 x1 r1 => by
  have e1 : v = .ref a := r1
  obtain ⟨ws, rd, dc⟩ := dct_rd (o1.mem _ hm).2.2 hd
  refine ⟨a, ws, e1, rd, fun p hp => ?_⟩
  obtain ⟨o', x', d'⟩ := o1.lst hp (dc_valsD dc)
  exact kk _ _ o' (x1.trans x') d'
/-! ### dicts made of pairs -/
theorem pairs_dp {K : PySem.W.Frag} {M : List Addr} {H : Hp} (l : Dct) : ∀ (vs : List V), DpAll K (hide M H) vs (l.map prD) → ∃ (ps : List Addr) (kvs : List (Key × V)), vs = ps.map V.ref ∧ Paired (fun p (kv : Key × V) => SqT K H p [kV kv.1, kv.2]) ps kvs ∧ DcOk K (hide M H) kvs (kd l) := by
  induction l with
  | nil =>
    intro vs h
    have h : DpAll K (hide M H) vs [] := h
    cases h
    exact ⟨[], [], rfl, .nil, .nil⟩
  | cons p l ih =>
    intro vs h
    have h : DpAll K (hide M H) vs (.tuple [.str p.1, p.2] :: l.map prD) := h
    cases h with
    | @cons v vs _ _ h t =>
      obtain ⟨ps, kvs, e1, e2, e3⟩ := ih vs t
      obtain ⟨b, ws, e4, s1, d1⟩ := Dp.tup_of h
      cases d1 with
      | @cons w1 ws _ _ h1 d1 =>
        cases d1 with
        | @cons w2 ws _ _ h2 d1 =>
          cases d1
          have q := Dp.str_of h1
          subst q
          exact ⟨b :: ps, (.inr p.1, w2) :: kvs, by rw [e1, e4]; rfl, .cons (ex_t hide_le s1) e2, .cons ⟨rfl, h2⟩ e3⟩
theorem merge_dc {K : PySem.W.Frag} {Hh : Hp} : ∀ {l : Dct} {acc : Dct} {ws kvs : List (Key × V)}, DcOk K Hh ws (kd acc) → DcOk K Hh kvs (kd l) → ((acc ++ l).map (·.1)).Nodup → DcOk K Hh (mergeK ws kvs) (kd (acc ++ l))
  | [], acc, ws, _, h, .nil, _ => by rw [List.append_nil]; exact h
  | p :: l, acc, ws, _, h, .cons (a := q) g t, nd => by
    have hk : p.1 ∉ acc.map (·.1) := fun z => by
      rw [List.map_append, List.nodup_append] at nd
      exact nd.2.2 _ z _ List.mem_cons_self rfl
    have e1 : q.1 = Sum.inr p.1 := g.1
    have h2 := dc_snoc h hk g.2
    have ih := merge_dc (acc := acc ++ [(p.1, p.2)]) h2 t (by rw [List.append_assoc]; exact nd)
    rw [List.append_assoc] at ih
    show DcOk K Hh (mergeK (putK ws q.1 q.2) _) _
    rw [e1]; exact ih
theorem n_dictL (h : EvA C tr M δ μ μ1 [e]) (r : Rdd μ1 e (.list (l.map prD))) (nd : (l.map (·.1)).Nodup) : EvN C (tCB (rDictL C.K) tr) M δ μ μ1 (.dK (kd l)) := fun σ H o Q k => h σ H o _ fun vs H1 o1 x1 r1 => by
  obtain ⟨v, rfl, q⟩ := p1 r1
  obtain ⟨a, ws, e1, e2, e3⟩ := r.lst o1 q
  obtain ⟨ps, kvs, rfl, f2, f3⟩ := pairs_dp _ _ e3
  have dc := merge_dc (acc := []) (ws := []) .nil f3 nd
  refine ⟨a, ps, kvs, by rw [e1], e2, f2, fun p hp => ?_⟩
  have o2 := o1.new hp (mo := .dK (kd l)) (ho := .dK (mergeK [] kvs)) ⟨_, upd_same, Paired.mapP dc fun p q z => ⟨z.1, z.2.mono (hide_new hp)⟩⟩
  exact k p _ (o1.fresh hp) o2 (x1.trans (hide_new hp))
theorem c_tupFz (r : Rdd μ e (.list ds)) : CallX C (rTupFz C.K) M δ μ μ [e] (.g (gFD ds)) := fun σ H vs o h Q k => by
  obtain ⟨v, rfl, q⟩ := p1 h
  obtain ⟨a, ws, e1, e2, e3⟩ := r.lst o q
  refine ⟨a, ws, by rw [e1], e2, fun p ob pt hp => ?_⟩
  have ex : Ex H (upd H p (.frz ob (.tup ws))) := Ex.new hp
  exact k _ _ (o.grow ex) (hide_ex ex) ⟨p, ob, ws, rfl, by rw [hide_out (o.fresh hp), upd_same], pt, dpAll_mono (hide_ex ex) _ _ e3⟩
theorem n_dictTu (h : EvA C tr M δ μ μ1 [.g (gFD (l.map prD))]) (nd : (l.map (·.1)).Nodup) : EvN C (tCB (rDictTu C.K) tr) M δ μ μ1 (.dK (kd l)) := fun σ H o Q k => h σ H o _ fun vs H1 o1 x1 r1 => by
  obtain ⟨v, rfl, q⟩ := p1 r1
  obtain ⟨a, ob, ws, e1, e2, pt, e3⟩ := (show (gFD (l.map prD)).p C.K (hide M H1) v from q)
  obtain ⟨ps, kvs, rfl, f2, f3⟩ := pairs_dp _ _ e3
  have dc := merge_dc (acc := []) (ws := []) .nil f3 nd
  refine ⟨a, ob, ps, kvs, by rw [e1], (hide_some e2).2, pt, f2, fun p hp => ?_⟩
  have o2 := o1.new hp (mo := .dK (kd l)) (ho := .dK (mergeK [] kvs)) ⟨_, upd_same, Paired.mapP dc fun p q z => ⟨z.1, z.2.mono (hide_new hp)⟩⟩
  exact k p _ (o1.fresh hp) o2 (x1.trans (hide_new hp))
def rowP (p : List Key × PyData) : PyData := .tuple [rowK p.1, p.2]
theorem rows_dp {K : PySem.W.Frag} {M : List Addr} {H : Hp} (l : TDat) : ∀ (vs : List V), DpAll K (hide M H) vs (l.map rowP) → ∃ (ps : List Addr) (kvs : List (List Key × Addr × V)), vs = ps.map V.ref ∧ Paired (fun p (q : List Key × Addr × V) => SqT K H p [.ref q.2.1, q.2.2] ∧ H q.2.1 = some (.tup (q.1.map kV))) ps kvs ∧
    kvs.map (·.1) = l.map (·.1) ∧ GtOk K (hide M H) (kvs.map fun q => (q.1, q.2.2)) (tD l) := by
  induction l with
  | nil =>
    intro vs h
    have h : DpAll K (hide M H) vs [] := h
    cases h
    exact ⟨[], [], rfl, .nil, rfl, .nil⟩
  | cons p l ih =>
    intro vs h
    have h : DpAll K (hide M H) vs (.tuple [rowK p.1, p.2] :: l.map rowP) := h
    cases h with
    | @cons v vs _ _ h t =>
      obtain ⟨ps, kvs, e1, e2, e3, e4⟩ := ih vs t
      obtain ⟨b, ws, e7, s1, d1⟩ := Dp.tup_of h
      cases d1 with
      | @cons w1 ws _ _ h1 d1 =>
        cases d1 with
        | @cons w2 ws _ _ h2 d1 =>
          cases d1
          obtain ⟨c, e5, e6⟩ := rowK_at h1
          subst e5
          exact ⟨b :: ps, (p.1, c, w2) :: kvs, by rw [e1, e7]; rfl, .cons ⟨ex_t hide_le s1, (hide_some e6).2⟩ e2, by rw [List.map_cons, List.map_cons, e3], .cons ⟨rfl, h2⟩ e4⟩
theorem n_dictLT {l : TDat} (h : EvA C tr M δ μ μ1 [e]) (r : Rdd μ1 e (.list (l.map rowP))) (nd : (l.map (·.1)).Nodup) : EvN C (tCB (rDictLT C.K) tr) M δ μ μ1 (.dT (tD l)) := fun σ H o Q k => h σ H o _ fun vs H1 o1 x1 r1 => by
  obtain ⟨v, rfl, q⟩ := p1 r1
  obtain ⟨a, ws, e1, e2, e3⟩ := r.lst o1 q
  obtain ⟨ps, kvs, rfl, f2, f3, f4⟩ := rows_dp _ _ e3
  refine ⟨a, ps, kvs, by rw [e1], e2, f2, by rw [f3]; exact nd, fun p hp => ?_⟩
  have o2 := o1.new hp (mo := .dT (tD l)) (ho := .dT (kvs.map fun q => (q.1, q.2.2))) ⟨_, upd_same, gt_mono (hide_new hp) f4⟩
  exact k p _ (o1.fresh hp) o2 (x1.trans (hide_new hp))
/-! ### texts, lists -/
theorem x_strs {r : Hp → VK → Prop} {zs : List Str} {σ : L2.St} {H : Hp} {Q : VK} (o : Ok C M δ μ σ H) (kk : ∀ v H', Ok C M δ μ σ H' → Ex (hide M H) (hide M H') → Dp C.K (hide M H') v (.list (zs.map .str)) → Q v H') : rNewStrs zs H Q := fun p hp => by
  obtain ⟨o', x', d'⟩ := o.lst hp (dp_strs (K := C.K) (H := hide M H) zs)
  exact kk _ _ o' x' d'
end
end FD
namespace FD
open PySem L2 Evl PySem.Spec PySem.Calls PyProof.Rows
section
variable {C : Cfg} {M : List Addr} {δ : List Ent} {μ μ1 μ2 μ3 : Mem} {ta tb te td : TE} {tr : TA} {e e1 e2 : Ent} {D : Ends} {t2 ts : TS} {i j m : Nat} {a : Addr} {d : PyData} {l : Dct} {ds es : List PyData} {mo : MO} {od : Obj} {ws : List (Key × V)} {x y : Str}
/-- for v in d.values(), d locked -/
theorem w_vals {K : PySem.W.Frag} {Hh : Hp} (c : DcOk K Hh ws (kd l)) : WalkN K (Itd a od ws) Hh (fun H => H a = some (.frz od (.dK ws))) (l.map (·.2)) where
  go := fun M i H hi _ _ n => ⟨n, by rw [dc_len c]; simpa using hi⟩
  stop := fun M H _ _ n => ⟨n, by rw [dc_len c]; simp⟩
  yld := fun M i H x H' hi al ex n y => by
    obtain ⟨rfl, k, e1⟩ := y
    obtain ⟨d, hd⟩ : ∃ d, (l.map (·.2))[i]? = some d := ⟨_, List.getElem?_eq_getElem hi⟩
    obtain ⟨v, e2, e3⟩ := DpAll.get (dc_valsD c) hd
    rw [List.getElem?_map, e1] at e2
    cases Option.some.inj e2
    exact ⟨Ex.refl _, d, hd, dp_mono ex _ _ e3⟩
theorem i_vals (h : EvX C ta M δ μ μ1 (.m a)) (hm : (a, .fz od ws (kd l)) ∈ μ1) : EvIN C (iVals ta) M δ μ μ1 (fun H => H a = some (.frz od (.dK ws))) (l.map (·.2)) := fun σ H o R k => h σ H o _ fun v H1 o1 x1 r => by
  have r' : v = .ref a := r
  obtain ⟨_, _, e, c⟩ := o1.mem _ hm
  exact ⟨a, od, ws, r', e, k _ H1 o1 x1 (w_vals c)⟩
/-! ### texts -/
abbrev rSplit : V → List V → Hp → VK → Prop := fun x xs H Q => ∃ a b, x = .str a ∧ xs = [.str b] ∧ (b.length == 0) = false ∧ a.length + 2 ≤ sizeLine ∧ rNewStrs (Txt.split a b) H Q
abbrev rFind : V → List V → Hp → VK → Prop := fun x xs H Q => ∃ a b, x = .str a ∧ xs = [.str b] ∧ Q (.int (Txt.find a b)) H
theorem x_split (h : EvX C ta M δ μ μ1 (.d (.str x))) (h2 : EvX C tb M δ μ1 μ2 (.d (.str y))) (hy : (y.length == 0) = false) (hx : x.length ≤ 1000) : EvX C (tBM C.K "str" rSplit ta (tCons tb tNil)) M δ μ μ2 (.d (.list ((Txt.split x y).map .str))) := fun σ H o Q kk =>
  h σ H o _ fun v H1 o1 x1 r1 => by
    cases Dp.str_of r1
    refine ⟨rfl, h2 σ H1 o1 _ fun w H2 o2 x2 r2 => ?_⟩
    cases Dp.str_of r2
    refine ⟨x, y, rfl, rfl, hy, by rw [sizeLine_eq]; omega, fun p hp => ?_⟩
    obtain ⟨o', x', d'⟩ := o2.lst hp (dp_strs (K := C.K) (H := hide M H2) (Txt.split x y))
    exact kk _ _ o' ((x1.trans x2).trans x') d'
theorem x_find (h : EvX C ta M δ μ μ1 (.d (.str x))) (h2 : EvX C tb M δ μ1 μ2 (.d (.str y))) : EvX C (tBM C.K "str" rFind ta (tCons tb tNil)) M δ μ μ2 (.d (.int (Txt.find x y))) := fun σ H o Q kk =>
  h σ H o _ fun v H1 o1 x1 r1 => by
    cases Dp.str_of r1
    refine ⟨rfl, h2 σ H1 o1 _ fun w H2 o2 x2 r2 => ?_⟩
    cases Dp.str_of r2
    exact ⟨x, y, rfl, rfl, kk _ H2 o2 (x1.trans x2) (.int _)⟩
theorem o_inC {c : Nat} : OpX C rInS M δ μ μ (.d (.str ⟨#[c]⟩)) (.d (.str y)) (.d (.bool (decide (c ∈ y.cps.toList)))) := fun σ H u v o h1 h2 Q k => by
  cases Dp.str_of h1
  cases Dp.str_of h2
  exact ⟨c, y, rfl, rfl, k _ H o (Ex.refl _) (.bl _)⟩
/-- x.extend([..]), the list made anew -/
theorem r_ext (hx : EvX C ta M δ μ μ1 (.m a)) (h : EvN C tb M δ μ1 μ2 (.lst es)) (h1 : μ1[i]? = some (a, .lst ds)) (hj : μ2[j]? = some (a, .lst ds)) (hz : ds.length + es.length ≤ 100000)
    (k : Nx C D M δ (μ2.set j (a, .lst (ds ++ es)))) : Run C (tDrop (tBM C.K "list" rExtend ta (tCons tb tNil))) D M δ μ := fun σ H o => hx σ H o _ fun v H1 o1 x1 r1 => by
  have e1 : v = .ref a := r1
  subst e1
  obtain ⟨_, _, vs1, q1, q2⟩ := o1.mem _ (List.mem_of_getElem? h1)
  refine ⟨.inl ⟨rfl, _, SqL.of q1⟩, ?_⟩
  refine h σ H1 o1 _ fun p H2 pM o2 x2 => ?_
  have hj' : ((p, MO.lst es) :: μ2)[j + 1]? = some (a, .lst ds) := by simpa using hj
  obtain ⟨_, _, vs, q3, q4⟩ := o2.mem _ (List.mem_of_getElem? hj')
  obtain ⟨_, _, ws, q5, q6⟩ := o2.mem _ List.mem_cons_self
  refine ⟨a, p, vs, ws, rfl, rfl, q3, q5, by rw [q4.length, q6.length]; exact sz_of hz, ?_⟩
  have o3 := o2.write hj' (mo' := .lst (ds ++ es)) (ho := .lst (vs ++ ws)) ⟨_, upd_same, q4.append q6⟩
  have nd := List.nodup_cons.mp o3.nd
  have o4 : Ok C (p :: M) δ (μ2.set j (a, .lst (ds ++ es))) σ (upd H2 a (.lst (vs ++ ws))) := o3.mems (fun q hq => List.mem_cons_of_mem _ hq) nd.2
  refine k _ _ (o4.drop (fun b hb => List.mem_cons_of_mem _ hb) (fun q hq => ?_) o.sub)
  rcases List.mem_or_eq_of_mem_set hq with hq | hq
  · have n2 := List.nodup_cons.mp o2.nd
    exact (List.mem_cons.mp (o2.mem q (List.mem_cons_of_mem _ hq)).1).resolve_left fun z => n2.1 (z ▸ List.mem_map_of_mem (f := (·.1)) hq)
  · rw [hq]; exact (o1.mem _ (List.mem_of_getElem? h1)).1
theorem q_ext (hx : EvX C ta M δ μ μ1 (.m a)) (h : EvN C tb M δ μ1 μ2 (.lst es)) (h1 : μ1[i]? = some (a, .lst ds)) (hj : μ2[j]? = some (a, .lst ds)) (hz : ds.length + es.length ≤ 100000)
    (k : Run C t2 D M δ (μ2.set j (a, .lst (ds ++ es)))) : Run C (tSeq (tDrop (tBM C.K "list" rExtend ta (tCons tb tNil))) t2) D M δ μ := r_ext (D := { D with nx := t2 D }) hx h h1 hj hz k
end
end FD
/-! Least costs of stages: the plain law. -/
namespace CK
variable {σ : Type} [DecidableEq σ] {α : Type}
abbrev Tab (σ α : Type) := List (σ × α)
def val (T : Tab σ α) (s : σ) : Option α := (T.find? fun p => decide (p.1 = s)).map (·.2)
def has (T : Tab σ α) (s : σ) : Bool := (val T s).isSome
def allIn (T : Tab σ α) (ps : List σ) : Bool := ps.all (has T)
def put (T : Tab σ α) (s : σ) (v : α) : Tab σ α := if has T s = true then T.map (fun p => if p.1 = s then (p.1, v) else p) else T ++ [(s, v)]
theorem val_nil (s : σ) : val ([] : Tab σ α) s = none := rfl
theorem val_cons (p : σ × α) (T : Tab σ α) (s : σ) : val (p :: T) s = if p.1 = s then some p.2 else val T s := by
  unfold val
  rw [List.find?_cons]
  by_cases h : p.1 = s
  · rw [if_pos h, decide_eq_true h]; rfl
  · rw [if_neg h, decide_eq_false h]
theorem val_mem {T : Tab σ α} {s : σ} : (val T s).isSome = true ↔ s ∈ T.map (·.1) := by
  induction T with
  | nil => simp [val_nil]
  | cons p T ih =>
    rw [val_cons, List.map_cons, List.mem_cons]
    by_cases h : p.1 = s
    · simp [h]
    · rw [if_neg h, ih]
      exact ⟨.inr, fun z => z.resolve_left fun q => h q.symm⟩
theorem val_snoc (T : Tab σ α) (s j : σ) (v : α) (h : val T s = none) : val (T ++ [(s, v)]) j = if j = s then some v else val T j := by
  induction T with
  | nil =>
    rw [List.nil_append, val_cons]
    by_cases e : j = s
    · rw [if_pos e, if_pos e.symm]
    · rw [if_neg e, if_neg fun z => e z.symm]
  | cons p T ih =>
    rw [val_cons] at h
    have hp : ¬ p.1 = s := fun z => by rw [if_pos z] at h; cases h
    rw [if_neg hp] at h
    rw [List.cons_append, val_cons, val_cons, ih h]
    by_cases e : p.1 = j
    · rw [if_pos e, if_pos e, if_neg fun z => hp (e.trans z)]
    · rw [if_neg e, if_neg e]
theorem val_map (T : Tab σ α) (s j : σ) (v : α) : val (T.map fun p => if p.1 = s then (p.1, v) else p) j = (val T j).map fun x => if j = s then v else x := by
  induction T with
  | nil => rfl
  | cons p T ih =>
    rw [List.map_cons, val_cons, val_cons, ih]
    by_cases h : p.1 = s
    · rw [if_pos h]
      by_cases e : p.1 = j
      · rw [if_pos e, if_pos e, Option.map_some, if_pos (e.symm.trans h)]
      · rw [if_neg e, if_neg e]
    · rw [if_neg h]
      by_cases e : p.1 = j
      · rw [if_pos e, if_pos e, Option.map_some, if_neg fun z => h (e.trans z)]
      · rw [if_neg e, if_neg e]
theorem val_put (T : Tab σ α) (s j : σ) (v : α) : val (put T s v) j = if j = s then some v else val T j := by
  unfold put has
  by_cases h : (val T s).isSome = true
  · rw [if_pos h, val_map]
    by_cases e : j = s
    · subst e
      obtain ⟨x, hx⟩ := Option.isSome_iff_exists.mp h
      rw [hx]; simp
    · rw [if_neg e]
      cases val T j with
      | none => rfl
      | some x => simp [e]
  · rw [if_neg h]
    refine val_snoc T s j v ?_
    cases q : val T s with
    | none => rfl
    | some x => rw [q] at h; exact absurd rfl h
theorem put_keys (T : Tab σ α) (s : σ) (v : α) : (put T s v).map (·.1) = if has T s = true then T.map (·.1) else T.map (·.1) ++ [s] := by
  unfold put
  by_cases h : has T s = true
  · rw [if_pos h, if_pos h, List.map_map]
    refine List.map_congr_left fun p _ => ?_
    show (if p.1 = s then (p.1, v) else p).1 = p.1
    by_cases e : p.1 = s
    · rw [if_pos e]
    · rw [if_neg e]
  · rw [if_neg h, if_neg h, List.map_append]; rfl
theorem put_len (T : Tab σ α) (s : σ) (v : α) : (put T s v).length = if has T s = true then T.length else T.length + 1 := by
  unfold put
  split
  · rw [List.length_map]
  · rw [List.length_append]; rfl
theorem has_of {T : Tab σ α} {s : σ} {v : α} (h : val T s = some v) : has T s = true := by unfold has; rw [h]; rfl
theorem has_val {T : Tab σ α} {s : σ} (h : has T s = true) : ∃ v, val T s = some v := Option.isSome_iff_exists.mp h
theorem has_mem {T : Tab σ α} {s : σ} : has T s = true ↔ s ∈ T.map (·.1) := val_mem
theorem has_false {T : Tab σ α} {s : σ} : has T s = false ↔ val T s = none := by
  unfold has
  cases val T s <;> simp
theorem put_nd {T : Tab σ α} {s : σ} {v : α} (h : (T.map (·.1)).Nodup) : ((put T s v).map (·.1)).Nodup := by
  rw [put_keys]
  by_cases q : has T s = true
  · rw [if_pos q]; exact h
  · rw [if_neg q]
    refine List.nodup_append.mpr ⟨h, by simp, fun a ha b hb e => ?_⟩
    rw [List.mem_singleton.mp hb] at e
    exact q (has_mem.mpr (e ▸ ha))
theorem val_of_mem {T : Tab σ α} (nd : (T.map (·.1)).Nodup) : ∀ p ∈ T, val T p.1 = some p.2 := by
  induction T with
  | nil => intro p hp; cases hp
  | cons q T ih =>
    intro p hp
    rw [List.map_cons, List.nodup_cons] at nd
    rw [val_cons]
    rcases List.mem_cons.mp hp with e | hp
    · rw [e, if_pos rfl]
    · rw [if_neg fun z => nd.1 (by rw [z]; exact List.mem_map.mpr ⟨p, hp, rfl⟩)]
      exact ih nd.2 p hp
theorem val_map2 {β : Type} (T : Tab σ α) (f : α → β) (s : σ) : val (T.map fun p => (p.1, f p.2)) s = (val T s).map f := by
  induction T with
  | nil => rfl
  | cons p T ih =>
    rw [List.map_cons, val_cons, val_cons, ih]
    by_cases e : p.1 = s
    · rw [if_pos e, if_pos e]; rfl
    · rw [if_neg e, if_neg e]
theorem val_keys {α : Type} (f : σ → α) : ∀ (l : List σ) (s : σ), val (l.map fun x => (x, f x)) s = if s ∈ l then some (f s) else none
  | [], s => by simp [val_nil]
  | a :: l, s => by
    rw [List.map_cons, val_cons, val_keys f l s]
    by_cases e : a = s
    · subst e; rw [if_pos rfl, if_pos (by simp)]
    · rw [if_neg e]
      by_cases m : s ∈ l
      · rw [if_pos m, if_pos (List.mem_cons_of_mem _ m)]
      · rw [if_neg m, if_neg fun z => (List.mem_cons.mp z).elim (fun z => e z.symm) m]

/-! ### costs -/
abbrev Cost := Nat × Nat
def clt (a b : Cost) : Bool := decide (a.1 < b.1 ∨ (a.1 = b.1 ∧ a.2 < b.2))
def Cle (a b : Cost) : Prop := a.1 < b.1 ∨ (a.1 = b.1 ∧ a.2 ≤ b.2)
theorem cle_of {a b : Cost} (h : clt b a = false) : Cle a b := by
  have h := of_decide_eq_false h
  unfold Cle; omega
theorem clt_of {a b : Cost} (h : clt a b = true) : a.1 < b.1 ∨ (a.1 = b.1 ∧ a.2 < b.2) := of_decide_eq_true h
theorem cle_refl (a : Cost) : Cle a a := .inr ⟨rfl, Nat.le_refl _⟩
theorem cle_trans {a b c : Cost} (h : Cle a b) (k : Cle b c) : Cle a c := by unfold Cle at *; omega
theorem cle_lt {a b : Cost} (h : clt a b = true) : Cle a b := by have := clt_of h; unfold Cle; omega
structure Line (σ δ : Type) where
  num : Nat
  deed : Option δ
  ps : List σ
variable {δ : Type} [DecidableEq δ]
def own (w : δ → Nat) (l : Line σ δ) : Nat := match l.deed with
  | none => 0
  | some d => w d
def g (T : Tab σ Cost) (p : σ) : Cost := (val T p).getD (0, 0)
def wsum (T : Tab σ Cost) (ps : List σ) : Nat := (ps.map fun p => (g T p).1).sum
def msum (T : Tab σ Cost) (ps : List σ) : Nat := (ps.map fun p => (g T p).2).sum
def costOf (w : δ → Nat) (T : Tab σ Cost) (l : Line σ δ) : Cost := (own w l + wsum T l.ps, 1 + msum T l.ps)
def lcStep (w : δ → Nat) (T : Tab σ Cost) (best : Option (Cost × Nat)) (l : Line σ δ) : Option (Cost × Nat) :=
  if allIn T l.ps = true then
    match best with
    | none => some (costOf w T l, l.num)
    | some b => if clt (costOf w T l) b.1 = true then some (costOf w T l, l.num) else some b
  else best
def lc (w : δ → Nat) (lns : List (Line σ δ)) (T : Tab σ Cost) : Option (Cost × Nat) := lns.foldl (lcStep w T) none
theorem lc_fold {w : δ → Nat} {T : Tab σ Cost} : ∀ (lns : List (Line σ δ)) (b : Option (Cost × Nat)), (lns.foldl (lcStep w T) b = none ↔ b = none ∧ ∀ l ∈ lns, allIn T l.ps = false) ∧
    ∀ v, lns.foldl (lcStep w T) b = some v → (b = some v ∨ ∃ l ∈ lns, allIn T l.ps = true ∧ v = (costOf w T l, l.num)) ∧ (∀ x, b = some x → Cle v.1 x.1) ∧ ∀ l ∈ lns, allIn T l.ps = true → Cle v.1 (costOf w T l)
  | [], b => ⟨by simp, fun v h => ⟨.inl h, fun x hx => by rw [List.foldl_nil, hx] at h; cases h; exact cle_refl _, fun ps hp => absurd hp (by simp)⟩⟩
  | l :: lns, b => by
    rw [List.foldl_cons]
    obtain ⟨i1, i2⟩ := lc_fold lns (lcStep w T b l)
    by_cases h : allIn T l.ps = true
    · have hs : ∃ x, lcStep w T b l = some x ∧ (b = some x ∨ x = (costOf w T l, l.num)) ∧ Cle x.1 (costOf w T l) ∧ ∀ y, b = some y → Cle x.1 y.1 := by
        unfold lcStep
        rw [if_pos h]
        cases b with
        | none => exact ⟨_, rfl, .inr rfl, cle_refl _, fun y hy => by cases hy⟩
        | some z =>
          by_cases q : clt (costOf w T l) z.1 = true
          · exact ⟨_, if_pos q, .inr rfl, cle_refl _, fun y hy => by cases hy; exact cle_lt q⟩
          · exact ⟨z, if_neg q, .inl rfl, cle_of (by simpa using q), fun y hy => by cases hy; exact cle_refl _⟩
      obtain ⟨x, hx, hx1, hx2, hx3⟩ := hs
      rw [hx] at i1 i2 ⊢
      refine ⟨⟨fun z => absurd (i1.mp z).1 (by simp), fun ⟨_, z⟩ => ?_⟩, fun v hv => ?_⟩
      · rw [z l (by simp)] at h; cases h
      · obtain ⟨k1, k2, k3⟩ := i2 v hv
        have hvx := k2 x rfl
        refine ⟨?_, fun y hy => cle_trans hvx (hx3 y hy), fun q hq ha => ?_⟩
        · rcases k1 with k1 | ⟨q, hq, ha, e⟩
          · cases k1
            rcases hx1 with hx1 | hx1
            · exact .inl hx1
            · exact .inr ⟨l, by simp, h, hx1⟩
          · exact .inr ⟨q, by simp [hq], ha, e⟩
        · rcases List.mem_cons.mp hq with e | hq
          · rw [e]; exact cle_trans hvx hx2
          · exact k3 q hq ha
    · have hs : lcStep w T b l = b := by unfold lcStep; rw [if_neg h]
      have hf : allIn T l.ps = false := by simpa using h
      rw [hs] at i1 i2 ⊢
      refine ⟨i1.trans ⟨fun ⟨a, c⟩ => ⟨a, fun q hq => ?_⟩, fun ⟨a, c⟩ => ⟨a, fun q hq => c q (by simp [hq])⟩⟩, fun v hv => ?_⟩
      · rcases List.mem_cons.mp hq with e | hq
        · rw [e]; exact hf
        · exact c q hq
      · obtain ⟨k1, k2, k3⟩ := i2 v hv
        refine ⟨?_, k2, fun q hq ha => ?_⟩
        · rcases k1 with k1 | ⟨q, hq, ha, e⟩
          · exact .inl k1
          · exact .inr ⟨q, by simp [hq], ha, e⟩
        · rcases List.mem_cons.mp hq with e | hq
          · rw [e] at ha; rw [ha] at hf; cases hf
          · exact k3 q hq ha
theorem lc_none {w : δ → Nat} {lns : List (Line σ δ)} {T : Tab σ Cost} : lc w lns T = none ↔ ∀ l ∈ lns, allIn T l.ps = false := by
  unfold lc
  rw [(lc_fold lns none).1]
  simp
theorem lc_some {w : δ → Nat} {lns : List (Line σ δ)} {T : Tab σ Cost} {v : Cost × Nat} (h : lc w lns T = some v) : (∃ l ∈ lns, allIn T l.ps = true ∧ v = (costOf w T l, l.num)) ∧ ∀ l ∈ lns, allIn T l.ps = true → Cle v.1 (costOf w T l) := by
  obtain ⟨k1, _, k3⟩ := (lc_fold lns none).2 v h
  exact ⟨k1.resolve_left fun z => (nomatch z), k3⟩
theorem sum_le {T U : Tab σ Cost} : ∀ {ps : List σ}, (∀ p ∈ ps, ∀ v, val T p = some v → ∃ u, val U p = some u ∧ Cle u v) → allIn T ps = true → allIn U ps = true ∧ (wsum U ps < wsum T ps ∨ (wsum U ps = wsum T ps ∧ msum U ps ≤ msum T ps))
  | [], _, _ => ⟨rfl, .inr ⟨rfl, Nat.le_refl _⟩⟩
  | p :: ps, h, ha => by
    unfold allIn at ha ⊢
    rw [List.all_cons, Bool.and_eq_true] at ha
    obtain ⟨v, hv⟩ := has_val ha.1
    obtain ⟨u, hu, le⟩ := h p (by simp) v hv
    obtain ⟨i1, i2⟩ := sum_le (ps := ps) (fun q hq => h q (by simp [hq])) ha.2
    refine ⟨by rw [List.all_cons, has_of hu, Bool.true_and]; exact i1, ?_⟩
    have g1 : g T p = v := by unfold g; rw [hv]; rfl
    have g2 : g U p = u := by unfold g; rw [hu]; rfl
    unfold wsum msum at i2 ⊢
    rw [List.map_cons, List.sum_cons, List.map_cons, List.sum_cons, List.map_cons, List.sum_cons, List.map_cons, List.sum_cons, g1, g2]
    unfold Cle at le
    omega
/-- lower tables have lower least costs -/
theorem lc_anti {w : δ → Nat} {lns : List (Line σ δ)} {T U : Tab σ Cost} {v : Cost × Nat} (h : ∀ p v, val T p = some v → ∃ u, val U p = some u ∧ Cle u v) (k : lc w lns T = some v) : ∃ u, lc w lns U = some u ∧ Cle u.1 v.1 := by
  obtain ⟨⟨l, hl, ha, e⟩, _⟩ := lc_some k
  obtain ⟨i1, i2⟩ := sum_le (U := U) (fun p _ => h p) ha
  have ne : lc w lns U ≠ none := fun z => by
    have := lc_none.mp z l hl
    rw [i1] at this; cases this
  obtain ⟨u, hu⟩ := Option.ne_none_iff_exists'.mp ne
  refine ⟨u, hu, cle_trans ((lc_some hu).2 l hl i1) ?_⟩
  rw [e]
  show Cle (own w l + wsum U l.ps, 1 + msum U l.ps) (own w l + wsum T l.ps, 1 + msum T l.ps)
  unfold Cle
  show own w l + wsum U l.ps < own w l + wsum T l.ps ∨ own w l + wsum U l.ps = own w l + wsum T l.ps ∧ 1 + msum U l.ps ≤ 1 + msum T l.ps
  omega

/-! ### a book of stages, the rounds -/
structure Bk (σ δ : Type) where
  S : List σ
  isEnd : σ → Bool
  ln : σ → List (Line σ δ)
def T0 (B : Bk σ δ) : Tab σ Cost := (B.S.filter B.isEnd).map fun s => (s, (0, 0))
structure Go (w : δ → Nat) (B : Bk σ δ) (T : Tab σ Cost) : Prop where
  keys : ∀ s ∈ T.map (·.1), s ∈ B.S
  nd : (T.map (·.1)).Nodup
  endz : ∀ s ∈ B.S, B.isEnd s = true → val T s = some (0, 0)
  lrv : ∀ s v, val T s = some v → B.isEnd s = false → ∃ u, lc w (B.ln s) T = some u ∧ Cle u.1 v
theorem t0_keys (B : Bk σ δ) : (T0 B).map (·.1) = B.S.filter B.isEnd := by
  unfold T0
  rw [List.map_map]
  exact List.map_id' _
theorem go_t0 (w : δ → Nat) {B : Bk σ δ} (nd : B.S.Nodup) : Go w B (T0 B) := by
  refine ⟨fun s h => ?_, by rw [t0_keys]; exact nd.filter _, fun s hs he => ?_, fun s v h he => ?_⟩
  · rw [t0_keys] at h
    exact (List.mem_filter.mp h).1
  · unfold T0
    rw [val_keys (fun _ => ((0, 0) : Cost)), if_pos (List.mem_filter.mpr ⟨hs, he⟩)]
  · have : s ∈ (T0 B).map (·.1) := val_mem.mp (has_of h)
    rw [t0_keys] at this
    have := (List.mem_filter.mp this).2
    rw [he] at this; cases this
theorem nd_len : ∀ {l m : List σ}, l.Nodup → (∀ x ∈ l, x ∈ m) → l.length ≤ m.length
  | [], m, _, _ => Nat.zero_le _
  | x :: l, m, nd, h => by
    obtain ⟨n1, n2⟩ := List.nodup_cons.mp nd
    have hx := h x (by simp)
    have : l.length ≤ (m.erase x).length := nd_len n2 fun y hy => (List.mem_erase_of_ne (fun e => n1 (by rw [← e]; exact hy))).mpr (h y (by simp [hy]))
    rw [List.length_erase_of_mem hx] at this
    have := List.length_pos_of_mem hx
    rw [List.length_cons]; omega
theorem Go.few {w : δ → Nat} {B : Bk σ δ} {T : Tab σ Cost} (g : Go w B T) : T.length ≤ B.S.length := by
  have := nd_len g.nd g.keys
  rwa [List.length_map] at this
def turn (w : δ → Nat) (B : Bk σ δ) (st : Tab σ Cost × Bool) (s : σ) : Tab σ Cost × Bool :=
  match lc w (B.ln s) st.1 with
  | none => st
  | some v => if has st.1 s = false ∨ clt v.1 (g st.1 s) = true then (put st.1 s v.1, true) else st
theorem turn_put {w : δ → Nat} {B : Bk σ δ} {st : Tab σ Cost × Bool} {s : σ} {v : Cost × Nat} (h : lc w (B.ln s) st.1 = some v) (c : has st.1 s = false ∨ clt v.1 (g st.1 s) = true) : turn w B st s = (put st.1 s v.1, true) := by
  unfold turn
  rw [h]; exact if_pos c
theorem turn_none {w : δ → Nat} {B : Bk σ δ} {st : Tab σ Cost × Bool} {s : σ} (h : lc w (B.ln s) st.1 = none) : turn w B st s = st := by
  unfold turn
  rw [h]
theorem turn_keep {w : δ → Nat} {B : Bk σ δ} {st : Tab σ Cost × Bool} {s : σ} {v : Cost × Nat} (h : lc w (B.ln s) st.1 = some v) (h1 : has st.1 s = true) (h2 : clt v.1 (g st.1 s) = false) : turn w B st s = st := by
  unfold turn
  rw [h]
  refine if_neg fun z => ?_
  rcases z with z | z
  · rw [h1] at z; cases z
  · rw [h2] at z; cases z
theorem g_val {T : Tab σ Cost} {s : σ} {v : Cost} (h : val T s = some v) : g T s = v := by unfold g; rw [h]; rfl
theorem put_low {T : Tab σ Cost} {s : σ} {v : Cost} (c : has T s = false ∨ clt v (g T s) = true) : ∀ p x, val T p = some x → ∃ u, val (put T s v) p = some u ∧ Cle u x := fun p x hx => by
  rw [val_put]
  by_cases e : p = s
  · subst e
    rw [if_pos rfl]
    refine ⟨v, rfl, ?_⟩
    rcases c with c | c
    · rw [has_of hx] at c; cases c
    · rw [g_val hx] at c; exact cle_lt c
  · rw [if_neg e]; exact ⟨x, hx, cle_refl _⟩
theorem go_put {w : δ → Nat} {B : Bk σ δ} {T : Tab σ Cost} {s : σ} {v : Cost × Nat} (gg : Go w B T) (hs : s ∈ B.S) (h : lc w (B.ln s) T = some v) (c : has T s = false ∨ clt v.1 (g T s) = true) : Go w B (put T s v.1) := by
  have low := put_low c
  refine ⟨?_, put_nd gg.nd, ?_, ?_⟩
  · intro x hx
    rw [put_keys] at hx
    split at hx
    · exact gg.keys x hx
    · rcases List.mem_append.mp hx with hx | hx
      · exact gg.keys x hx
      · rw [List.mem_singleton.mp hx]; exact hs
  · intro x hx he
    have := gg.endz x hx he
    rw [val_put]
    by_cases e : x = s
    · subst e
      rcases c with c | c
      · rw [has_of this] at c; cases c
      · rw [g_val this] at c
        have := clt_of c
        simp at this
    · rw [if_neg e]; exact this
  · intro p x hx he
    rw [val_put] at hx
    by_cases e : p = s
    · subst e
      rw [if_pos rfl] at hx
      cases hx
      exact lc_anti low h
    · rw [if_neg e] at hx
      obtain ⟨u, h1, h2⟩ := gg.lrv p x hx he
      obtain ⟨u', h3, h4⟩ := lc_anti low h1
      exact ⟨u', h3, cle_trans h4 h2⟩
def s1 (T : Tab σ Cost) : Nat := (T.map (·.2.1)).sum
def s2 (T : Tab σ Cost) : Nat := (T.map (·.2.2)).sum
def lt3 (a b : Nat × Nat × Nat) : Prop := a.1 < b.1 ∨ (a.1 = b.1 ∧ (a.2.1 < b.2.1 ∨ (a.2.1 = b.2.1 ∧ a.2.2 < b.2.2)))
theorem lt3_trans {a b c : Nat × Nat × Nat} (h : lt3 a b) (k : lt3 b c) : lt3 a c := by unfold lt3 at *; omega
theorem ind3 (P : Nat × Nat × Nat → Prop) (h : ∀ x, (∀ y, lt3 y x → P y) → P x) : ∀ a b c, P (a, b, c) := by
  intro a
  induction a using Nat.strongRecOn with
  | _ a iha =>
    intro b
    induction b using Nat.strongRecOn with
    | _ b ihb =>
      intro c
      induction c using Nat.strongRecOn with
      | _ c ihc =>
        refine h _ fun ⟨a', b', c'⟩ hy => ?_
        have hy : a' < a ∨ (a' = a ∧ (b' < b ∨ (b' = b ∧ c' < c))) := hy
        rcases hy with q | ⟨e, q | ⟨e2, q⟩⟩
        · exact iha a' q b' c'
        · subst e; exact ihb b' q c'
        · subst e; subst e2; exact ihc c' q
def meas (B : Bk σ δ) (T : Tab σ Cost) : Nat × Nat × Nat := (B.S.length - T.length, s1 T, s2 T)
theorem sum_map_put (f : Cost → Nat) {s : σ} {v : Cost} : ∀ {T : Tab σ Cost} {u : Cost}, (T.map (·.1)).Nodup → val T s = some u → ((T.map fun p => if p.1 = s then (p.1, v) else p).map fun p => f p.2).sum + f u = (T.map fun p => f p.2).sum + f v
  | [], u, _, h => nomatch h
  | p :: T, u, nd, h => by
    rw [List.map_cons, List.nodup_cons] at nd
    rw [val_cons] at h
    by_cases e : p.1 = s
    · rw [if_pos e] at h
      cases h
      have same : (T.map fun p => if p.1 = s then (p.1, v) else p) = T := by
        refine (List.map_congr_left fun q hq => ?_).trans (List.map_id' T)
        exact if_neg fun z => nd.1 (by rw [e, ← z]; exact List.mem_map.mpr ⟨q, hq, rfl⟩)
      rw [List.map_cons, same, if_pos e, List.map_cons, List.sum_cons, List.map_cons, List.sum_cons]
      show f v + _ + f p.2 = f p.2 + _ + f v
      omega
    · rw [if_neg e] at h
      have ih := sum_map_put f (v := v) nd.2 h
      rw [List.map_cons, if_neg e, List.map_cons, List.sum_cons, List.map_cons, List.sum_cons]
      omega
theorem put_less {w : δ → Nat} {B : Bk σ δ} {T : Tab σ Cost} {s : σ} {v : Cost} (gg : Go w B T) (g2 : Go w B (put T s v)) (c : has T s = false ∨ clt v (g T s) = true) : lt3 (meas B (put T s v)) (meas B T) := by
  have few := g2.few
  have hl := put_len T s v
  show B.S.length - (put T s v).length < B.S.length - T.length ∨ (B.S.length - (put T s v).length = B.S.length - T.length ∧ (s1 (put T s v) < s1 T ∨ (s1 (put T s v) = s1 T ∧ s2 (put T s v) < s2 T)))
  by_cases q : has T s = true
  · rw [if_pos q] at hl
    obtain ⟨u, hu⟩ := has_val q
    rcases c with c | c
    · rw [q] at c; cases c
    · rw [g_val hu] at c
      have c := clt_of c
      have e1 := sum_map_put (·.1) (v := v) gg.nd hu
      have e2 := sum_map_put (·.2) (v := v) gg.nd hu
      have ep : put T s v = T.map (fun p => if p.1 = s then (p.1, v) else p) := by unfold put; rw [if_pos q]
      rw [hl, ep]
      unfold s1 s2
      refine .inr ⟨rfl, ?_⟩
      have e1 : ((T.map fun p => if p.1 = s then (p.1, v) else p).map (·.2.1)).sum + u.1 = (T.map (·.2.1)).sum + v.1 := e1
      have e2 : ((T.map fun p => if p.1 = s then (p.1, v) else p).map (·.2.2)).sum + u.2 = (T.map (·.2.2)).sum + v.2 := e2
      omega
  · rw [if_neg q] at hl
    omega
/-- a part of a round -/
structure Rd (w : δ → Nat) (B : Bk σ δ) (T : Tab σ Cost) (l : List σ) (st : Tab σ Cost × Bool) : Prop where
  eq : st = l.foldl (turn w B) (T, false)
  go : Go w B st.1
  less : st.2 = true → lt3 (meas B st.1) (meas B T)
  same : st.2 = false → st.1 = T ∧ ∀ s ∈ l, turn w B (T, false) s = (T, false)
theorem rd_nil {w : δ → Nat} {B : Bk σ δ} {T : Tab σ Cost} (h : Go w B T) : Rd w B T [] (T, false) := ⟨rfl, h, fun z => (nomatch z), fun _ => ⟨rfl, fun s hs => absurd hs (by simp)⟩⟩
theorem rd_turn {w : δ → Nat} {B : Bk σ δ} {T : Tab σ Cost} {l : List σ} {st : Tab σ Cost × Bool} (r : Rd w B T l st) {s : σ} (hs : s ∈ B.S) : Rd w B T (l ++ [s]) (turn w B st s) := by
  have keep : turn w B st s = st → Rd w B T (l ++ [s]) (turn w B st s) := fun e => by
    refine ⟨by rw [List.foldl_append, ← r.eq]; rfl, by rw [e]; exact r.go, by rw [e]; exact r.less, fun z => ?_⟩
    rw [e] at z
    obtain ⟨h1, h2⟩ := r.same z
    refine ⟨by rw [e]; exact h1, fun x hx => ?_⟩
    rcases List.mem_append.mp hx with hx | hx
    · exact h2 x hx
    · rw [List.mem_singleton.mp hx]
      have es : st = (T, false) := Prod.ext h1 z
      rw [es] at e; exact e
  cases hv : lc w (B.ln s) st.1 with
  | none => exact keep (turn_none hv)
  | some v =>
    by_cases c : has st.1 s = false ∨ clt v.1 (g st.1 s) = true
    · have e := turn_put hv c
      have g2 := go_put r.go hs hv c
      have ls := put_less r.go g2 c
      refine ⟨by rw [List.foldl_append, ← r.eq]; rfl, by rw [e]; exact g2, fun _ => ?_, fun z => by rw [e] at z; cases z⟩
      rw [e]
      cases q : st.2 with
      | true => exact lt3_trans ls (r.less q)
      | false => rw [(r.same q).1] at ls ⊢; exact ls
    · refine keep (turn_keep hv ?_ ?_)
      · cases q : has st.1 s with
        | true => rfl
        | false => exact absurd (.inl q) c
      · cases q : clt v.1 (g st.1 s) with
        | false => rfl
        | true => exact absurd (.inr q) c
def round (w : δ → Nat) (B : Bk σ δ) (T : Tab σ Cost) : Tab σ Cost × Bool := B.S.reverse.foldl (turn w B) (T, false)
theorem rd_list {w : δ → Nat} {B : Bk σ δ} {T : Tab σ Cost} : ∀ (l l' : List σ) (st : Tab σ Cost × Bool), (∀ s ∈ l, s ∈ B.S) → Rd w B T l' st → Rd w B T (l' ++ l) (l.foldl (turn w B) st)
  | [], l', st, _, r => by rw [List.append_nil]; exact r
  | s :: l, l', st, hs, r => by
    have := rd_list l (l' ++ [s]) (turn w B st s) (fun x hx => hs x (by simp [hx])) (rd_turn r (hs s (by simp)))
    rw [List.append_assoc] at this
    exact this
theorem rd_round {w : δ → Nat} {B : Bk σ δ} {T : Tab σ Cost} (h : Go w B T) : Rd w B T B.S.reverse (round w B T) := by
  have r := rd_list B.S.reverse [] (T, false) (fun s hs => List.mem_reverse.mp hs) (rd_nil h)
  rwa [List.nil_append] at r
def it (w : δ → Nat) (B : Bk σ δ) : Nat → Tab σ Cost
  | 0 => T0 B
  | n + 1 => (round w B (it w B n)).1
theorem go_it (w : δ → Nat) {B : Bk σ δ} (nd : B.S.Nodup) : ∀ n, Go w B (it w B n)
  | 0 => go_t0 w nd
  | n + 1 => (rd_round (go_it w nd n)).go
theorem ex_stop (w : δ → Nat) {B : Bk σ δ} (nd : B.S.Nodup) : ∃ N, (round w B (it w B N)).2 = false := by
  have h := ind3 (fun m => ∀ n, meas B (it w B n) = m → ∃ N, (round w B (it w B N)).2 = false) (fun m ih n hn => by
    cases q : (round w B (it w B n)).2 with
    | false => exact ⟨n, q⟩
    | true =>
      have ls := (rd_round (go_it w nd n)).less q
      rw [hn] at ls
      exact ih _ ls (n + 1) rfl)
  exact h _ _ _ 0 rfl
theorem ex_min {p : Nat → Bool} : ∀ n, p n = false → ∃ N, p N = false ∧ ∀ m, m < N → p m = true := by
  intro n
  induction n using Nat.strongRecOn with
  | _ n ih =>
    intro h
    by_cases q : ∃ m, m < n ∧ p m = false
    · obtain ⟨m, hm, hp⟩ := q
      exact ih m hm hp
    · refine ⟨n, h, fun m hm => ?_⟩
      cases z : p m with
      | true => rfl
      | false => exact absurd ⟨m, hm, z⟩ q
theorem ex_first (w : δ → Nat) {B : Bk σ δ} (nd : B.S.Nodup) : ∃ N, (round w B (it w B N)).2 = false ∧ ∀ m, m < N → (round w B (it w B m)).2 = true :=
  let ⟨n, h⟩ := ex_stop w nd
  ex_min (p := fun n => (round w B (it w B n)).2) n h
open Classical in
noncomputable def stop (w : δ → Nat) (B : Bk σ δ) : Nat := if h : ∃ N, (round w B (it w B N)).2 = false ∧ ∀ m, m < N → (round w B (it w B m)).2 = true then h.choose else 0
theorem stop_ok (w : δ → Nat) {B : Bk σ δ} (nd : B.S.Nodup) : (round w B (it w B (stop w B))).2 = false ∧ ∀ m, m < stop w B → (round w B (it w B m)).2 = true := by
  have h := ex_first w nd
  unfold stop
  rw [dif_pos h]
  exact h.choose_spec
/-- the table of costs -/
noncomputable def fin (w : δ → Nat) (B : Bk σ δ) : Tab σ Cost := it w B (stop w B)
def way (w : δ → Nat) (B : Bk σ δ) (T : Tab σ Cost) (s : σ) : Option Nat := if B.isEnd s = true then none else (lc w (B.ln s) T).map (·.2)
structure Right (w : δ → Nat) (B : Bk σ δ) (T : Tab σ Cost) (wy : σ → Option Nat) : Prop where
  keys : ∀ s, has T s = true → s ∈ B.S
  nd : (T.map (·.1)).Nodup
  endz : ∀ s ∈ B.S, B.isEnd s = true → val T s = some (0, 0)
  le : ∀ s ∈ B.S, ∀ l ∈ B.ln s, allIn T l.ps = true → has T s = true ∧ (g T s).1 ≤ own w l + wsum T l.ps
  is : ∀ s, has T s = true → (B.isEnd s = true ∧ wy s = none) ∨ (B.isEnd s = false ∧ ∃ l ∈ B.ln s, wy s = some l.num ∧ allIn T l.ps = true ∧ g T s = costOf w T l)
theorem right (w : δ → Nat) {B : Bk σ δ} (nd : B.S.Nodup) : Right w B (fin w B) (way w B (fin w B)) := by
  have gg : Go w B (fin w B) := go_it w nd _
  have rd := rd_round gg
  have st : ∀ s ∈ B.S, turn w B (fin w B, false) s = (fin w B, false) := fun s hs => (rd.same (stop_ok w nd).1).2 s (List.mem_reverse.mpr hs)
  have keep : ∀ s ∈ B.S, ∀ v, lc w (B.ln s) (fin w B) = some v → has (fin w B) s = true ∧ clt v.1 (g (fin w B) s) = false := fun s hs v hv => by
    have c : ¬ (has (fin w B) s = false ∨ clt v.1 (g (fin w B) s) = true) := fun c => by
      have := (turn_put (st := (fin w B, false)) hv c).symm.trans (st s hs)
      exact absurd (congrArg (·.2) this) (by simp)
    refine ⟨?_, ?_⟩
    · cases q : has (fin w B) s with
      | true => rfl
      | false => exact absurd (.inl q) c
    · cases q : clt v.1 (g (fin w B) s) with
      | false => rfl
      | true => exact absurd (.inr q) c
  refine ⟨fun s hs => gg.keys s (has_mem.mp hs), gg.nd, gg.endz, fun s hs l hl ha => ?_, fun s hs => ?_⟩
  · have ne : lc w (B.ln s) (fin w B) ≠ none := fun z => by
      have := lc_none.mp z l hl
      rw [ha] at this; cases this
    obtain ⟨v, hv⟩ := Option.ne_none_iff_exists'.mp ne
    obtain ⟨h1, h2⟩ := keep s hs v hv
    refine ⟨h1, ?_⟩
    have a := cle_of h2
    have b := (lc_some hv).2 l hl ha
    have c := cle_trans a b
    unfold Cle costOf at c
    simp only at c
    omega
  · cases he : B.isEnd s with
    | true => exact .inl ⟨rfl, by unfold way; rw [if_pos he]⟩
    | false =>
      refine .inr ⟨rfl, ?_⟩
      obtain ⟨v, hv⟩ := has_val hs
      obtain ⟨u, h1, h2⟩ := gg.lrv s v hv he
      obtain ⟨_, h4⟩ := keep s (gg.keys s (has_mem.mp hs)) u h1
      rw [g_val hv] at h4 ⊢
      obtain ⟨⟨l, hl, ha, e⟩, _⟩ := lc_some h1
      refine ⟨l, hl, ?_, ha, ?_⟩
      · unfold way
        rw [if_neg (by rw [he]; simp), h1, e]; rfl
      · have a := cle_of h4
        rw [e] at a h2
        unfold Cle at a h2
        refine Prod.ext ?_ ?_
        · simp only at a h2; omega
        · simp only at a h2; omega
theorem right_round (w : δ → Nat) {B : Bk σ δ} (nd : B.S.Nodup) : (round w B (fin w B)).2 = false := (stop_ok w nd).1
end CK
/-! sorted(set(xs)), xs a list of texts -/
namespace FD
open PySem PySem.Spec L2 PyProof.Rows PySem.W PySem.Froz
section
variable {P : Program} {w : World} {A : Around} {E : Value → Shared → Prop} {s : Shared}
set_option maxHeartbeats 12000000 in
/-- set(xs), xs a list of texts -/
theorem call_setL {l : Addr} {items : Array Value} (zs : List Str) {Q : Value → Shared → Prop} (hh : A.handled = none) (hl : s.heap.IsList l items) (hit : StrsAre items.toList zs) (hb : zs.length + 1 < scanBound)
    (h : ∀ (h' : Heap) (tk : Nat) (ks : List Str), TxS P w h' s.heap.objs.size ks → (∀ y, y ∈ ks ↔ y ∈ zs) → ks.length ≤ zs.length → (∀ b o, s.heap.get? b = some o → h'.get? b = some o) → Q (.ref s.heap.objs.size) { s with heap := h', toks := tk }) :
    wpAny (model P w) A (call (.type "set") [.ref l]) Q E s := by
  have eN : items.size = zs.length := by rw [← StrsAre.length hit, Array.length_toList]
  obtain ⟨c, tl, hmro⟩ := F.called_set.mro
  have hmade := F.called_set.made
  have hsub := F.called_set.sub
  refine wpAny_call (codeAny_of_tree ?_)
  show wpAny _ _ (callAny (.type "set") _) _ _ _
  refine wpAny_pure ⟨Code.quiet_builtin _ (by decide +kernel), codeAny_builtin F.entry_type_call ?_⟩
  rw [Around.under_plain (weight_type_call_type "set" [.ref l] []) rfl]
  have h1 := F.called_set.notType
  have h2 := F.called_set.canCreate
  have hct := F.typeCall_set_1 (.ref l)
  repeat (any_goals (first | assumption | wp_step))
  generalize eS : ({ cls := .type "set", dict := none, data := .set #[] 0 (.fresh 0 0 (!w.params.followText "set-order")) } : Obj) = o0
  refine codeAny_mono (code_set_led1 (.ref l) (E := E) (Q₁ := fun obj t => obj = .ref s.heap.objs.size ∧ t = { s with heap := s.heap.push o0 }) ⟨rfl, by rw [eS]⟩) fun r t hr => ?_
  cases r with
  | error e => exact hr
  | ok fl =>
    cases fl with
    | ret obj =>
      obtain ⟨rfl, rfl⟩ := hr
      have hS : (s.heap.push o0).get? s.heap.objs.size = some o0 := Heap.get?_push_size _ (by rw [← eS]; rfl)
      have hT : Shared.TypeIs { s with heap := s.heap.push o0 } (.ref s.heap.objs.size) "set" := ⟨_, hS, by rw [← eS]⟩
      have hli := F.called_set.init.lookup
      have hbi := F.called_set.init.bind (.ref s.heap.objs.size)
      repeat (any_goals (first | assumption | wp_step))
      refine codeAny_mono (codeAny_call_builtin (R := wants (fun r s₂ => r = .none ∧ ∃ h' tk ks, s₂ = { s with heap := h', toks := tk } ∧ TxS P w h' s.heap.objs.size ks ∧ (∀ y, y ∈ ks ↔ y ∈ zs) ∧ ks.length ≤ zs.length ∧
          (∀ b o, s.heap.get? b = some o → h'.get? b = some o)) E) F.called_set.init.plain F.entry_set_init (check_set_init_1 hT ?_)) fun r₂ s₂ hr₂ => ?_
      · obtain ⟨ol, hol, hcl, nl, hdl⟩ := hl
        obtain ⟨ocls, odict, odata, oslots⟩ := ol
        simp only at hcl hdl
        subst hcl; subst hdl
        have hol' : (s.heap.push o0).get? l = some { cls := .type "list", dict := odict, data := .seq items nl, slots := oslots } := Heap.get?_push_of_some _ hol
        have hsls := F.sub_list_set
        have hslf := F.sub_list_frozenset
        have hne : (Value.type "list" == Value.type "dict") = false := by decide
        have tl1 : (s.heap.push o0).IsList l items := ⟨_, hol', rfl, nl, rfl⟩
        subst eS
        unfold Builtin.«set.__init__» noKeywords Builtin.Frozenset.updateFrom
        generalize hPI : pyIter = PI
        wp_walk
        subst hPI
        refine wpAny_pyIter_list tl1 ?_
        refine wpAny_bind (wpAny_runValue ?_)
        have ltl : l < s.heap.objs.size := Heap.lt_size hol
        have hh3 : A.in1.in1.in1.handled = none := by simp [hh]
        have eP : ∀ o : Obj, (s.heap.push o).objs.size = s.heap.objs.size + 1 := fun o => Heap.size_push ..
        have neI : l ≠ (s.heap.push { cls := .type "set", dict := none, data := .set #[] 0 (.fresh 0 0 (!w.params.followText "set-order")) }).objs.size := by rw [eP]; exact Nat.ne_of_lt (Nat.lt_succ_of_lt ltl)
        have outS : s.heap.objs.size ∉ [(s.heap.push { cls := .type "set", dict := none, data := .set #[] 0 (.fresh 0 0 (!w.params.followText "set-order")) }).objs.size, l] := by
          rw [eP]; simp only [List.mem_cons, List.not_mem_nil, or_false, not_or]
          exact ⟨Nat.ne_of_lt (Nat.lt_succ_self _), Nat.ne_of_gt ltl⟩
        have hval : ∀ (i : Nat) (v : Value), items[i]? = some v → ∃ k t, zs[i]? = some k ∧ v = .str k t := fun i v hv => by
          have hi : i < zs.length := by rw [← eN]; exact (Array.getElem?_eq_some_iff.mp hv).1
          obtain ⟨t, e⟩ := SS.strs_at hit i v (by rw [Array.getElem?_toList]; exact hv)
          refine ⟨zs[i], t, List.getElem?_eq_getElem hi, ?_⟩
          rw [e, List.getD_eq_getElem?_getD, List.getElem?_eq_getElem hi] <;> rfl
        refine ts_fill ((Walks.list hh3 _ l neI items).toS) s.heap.objs.size outS zs eN hb hval (items.size - 0) 0 _ (by omega) (Nat.zero_le _)
          ⟨⟨_, Heap.get?_push_size _ rfl, rfl, rfl⟩, (tl1.push _)⟩ ?_ ?_
        · refine ⟨[], Nat.le_refl 0, ⟨(#[], 0, .fresh 0 0 (!w.params.followText "set-order")), ?_, TxOk.nil (by rfl), List.nodup_nil, List.Pairwise.nil, ?_⟩, fun y => by simp⟩
          · refine (Heap.get?_push_of_some _ hS).trans ?_
            rfl
          · show _ ∨ (!w.params.followText "set-order") = true
            cases w.params.followText "set-order"
            · exact .inr rfl
            · exact .inl rfl
        · intro s' ks mv hl' hT' hm'
          obtain ⟨h', gg, d', tk', os'⟩ := s'
          have eg : gg = s.gens := mv.gens
          have ed : d' = s.drawn := mv.drawn
          have eo : os' = s.os := mv.os
          subst eg; subst ed; subst eo
          show wpAny _ _ _ _ _ _
          refine wpAny_pure ?_
          show wpAny _ _ (ret Value.none) _ _ _
          refine wpAny_pure ⟨rfl, h', tk', ks, rfl, hT', hm', by omega, fun b o e => ?_⟩
          have b0 : b < s.heap.objs.size := Heap.lt_size e
          have b1 : b ≠ s.heap.objs.size := Nat.ne_of_lt b0
          have b2 : b ≠ (s.heap.push { cls := .type "set", dict := none, data := .set #[] 0 (.fresh 0 0 (!w.params.followText "set-order")) }).objs.size := by rw [eP]; exact Nat.ne_of_lt (Nat.lt_succ_of_lt b0)
          exact mv.heap b o (by simp only [List.mem_cons, List.not_mem_nil, or_false, not_or]; exact ⟨b1, b2⟩) (Heap.get?_push_of_some _ (Heap.get?_push_of_some _ e))
      · cases r₂ with
        | error e => exact hr₂
        | ok fl₂ =>
          cases fl₂ with
          | ret r =>
            obtain ⟨rfl, h', tk, ks, rfl, a1, a2, a3, a4⟩ := hr₂
            repeat (any_goals (first | assumption | wp_step))
            exact h _ _ _ a1 a2 a3 a4
          | _ => exact hr₂.elim
    | _ => exact hr.elim
end
/-- sorted(set(xs)) -/
def tSSetL (K : PySem.W.Frag) (ta : TE) : TE := fun σ H Q => ta σ H fun x H1 => ∃ (l : Addr) (xs : List Str), x = .ref l ∧ SqL K H1 l (xs.map V.str) ∧ xs.length ≤ 4000 ∧ ∀ p, H1 p = none → Q (.ref p) (upd H1 p (.lst ((setT xs).map V.str)))
section
variable {X : Cx}
theorem pe_ssetL {a : Expr} {ta : TE} {p p2 q pos : Pos} (hc : X.calm = true) (hg : Gl X "sorted") (hm : X.mg "sorted" = none) (hg2 : Gl X "set") (hm2 : X.mg "set" = none) (ha : PE X a ta)
    (na : starEach [a] X.env = (false, eval a X.env) :: starEach [] X.env := by rfl) : PE X (.Call (.Name "sorted" p) [.Call (.Name "set" p2) [a] [] q] [] pos) (tSSetL X.K ta) := by
  refine ⟨fun pins s σ H Q I h => ?_⟩
  refine Call_ (ld_blt I hg hm (show _ = some (.builtin "sorted") by decide +kernel) ?_)
  refine PyProof.Rows.callWith_builtin1 (PyProof.Rows.args_cons ?_ rfl) rfl rfl
  refine Call_ (ld_blt I hg2 hm2 boot_set ?_)
  refine PyProof.Rows.callWith_type1 (PyProof.Rows.args_cons (thn (ha.run pins s σ H _ I h) fun v s1 ⟨x, H1, I1, r1, q1⟩ => PyProof.Rows.args_nil ?_) na) na rfl
  obtain ⟨l, xs, rfl, hq, h1, q1⟩ := q1
  cases r1
  obtain ⟨its, r, pl, hz⟩ := I1.list hq
  have hb : scanBound = 4096 := rfl
  refine call_setL xs (I1.ok.hd hc) pl.isList (by simpa using strsAre_of r) (by omega) fun h' tk ks hT hm' hl hk => ?_
  refine PyProof.Rows.args_nil ?_
  have I2 : Inv X pins σ H1 { s1 with heap := h', toks := tk } := I1.kept fun b o e => hk b o e
  have nk : ks.Nodup := let ⟨_, _, _, n, _⟩ := hT; n
  have ek : sortT ks = setT xs := sortT_congr (perm_of_nodup nk (onceT_nodup xs) fun y => (hm' y).trans onceT_mem.symm)
  refine sorted_setT hT (I2.ok.hd hc) (by omega) fun s2 p2 out c k2 g2 o2 hp hob hS => ?_
  rw [ek] at hS
  have hlen : ((setT xs).map V.str).length ≤ sizeLine := by rw [List.length_map, sizeLine_eq]; have := setT_len xs; omega
  have hn : H1 p2 = none := I2.hok.fresh hp
  have J : Inv X pins σ (upd H1 p2 (.lst ((setT xs).map V.str))) { ({ s1 with heap := h', toks := tk } : Shared) with heap := s2.heap, gens := s2.gens, drawn := s2.drawn, toks := s2.toks } :=
    I2.call (ch := []) (Un.laid k2 hp hn) (I2.hok.laid k2 hp ⟨hlen, out.toList, c, vals_of_strs hS, hob⟩) (by rw [g2]; exact I2.bare) (fun _ z => nomatch z)
  have e : s2 = { s1 with heap := s2.heap, gens := s2.gens, drawn := s2.drawn, toks := s2.toks } := by
    obtain ⟨x1, x2, x3, x4, x5⟩ := s2
    have o2 : x5 = s1.os := o2
    subst o2
    rfl
  rw [e]
  exact ⟨.ref p2, _, J, rfl, q1 p2 hn⟩
end
section
open Evl
variable {C : Cfg} {M : List Addr} {δ : List Ent} {μ μ1 : Mem} {ta : TE} {e : Ent}
theorem x_ssetL {zs : List Str} (h : EvX C ta M δ μ μ1 e) (r : Rdd μ1 e (.list (zs.map .str))) (hl : zs.length ≤ 4000) : EvX C (tSSetL C.K ta) M δ μ μ1 (.d (.list ((setT zs).map .str))) := fun σ H o Q kk =>
  h σ H o _ fun v H1 o1 x1 r1 => by
    obtain ⟨p, vs, e1, e2, e3⟩ := r.lst o1 r1
    refine ⟨p, zs, e1, (DpAll.strs e3) ▸ e2, hl, fun q hn => ?_⟩
    obtain ⟨o', x', d'⟩ := o1.lst hn (dp_strs (K := C.K) (H := hide M H1) (setT zs))
    exact kk _ _ o' (x1.trans x') d'
end
end FD
namespace FD
open PySem L2 Evl
section
variable {C : Cfg} {M : List Addr} {δ : List Ent} {μ μ1 : Mem} {te ten : TE} {tr : TA} {e : Ent} {ds : List PyData} {mo1 mo2 : MO} {i j : Nat} {D : Ends} {t2 : TS}
theorem n_listL (h : EvA C tr M δ μ μ1 [e]) (r : Rdd μ1 e (.list ds)) : EvN C (tCB (rListOf C.K) tr) M δ μ μ1 (.lst ds) := fun σ H o Q kk => h σ H o _ fun vs H1 o1 x1 r1 => by
  obtain ⟨v, rfl, q⟩ := p1 r1
  obtain ⟨a, ws, q1, q2, q3⟩ := r.lst o1 q
  refine ⟨a, ws, by rw [q1], .inl q2, fun l hl => ?_⟩
  exact kk l _ (o1.fresh hl) (o1.new hl (mo := .lst ds) (ho := .lst ws) ⟨ws, upd_same, dpAll_mono (hide_new hl) _ _ q3⟩) (x1.trans (hide_new hl))
theorem q_parNN (h1 : EvN C te M δ μ μ1 mo1) (h2 : ∀ p, p ∉ M → EvN C ten (p :: M) δ ((p, mo1) :: μ1) ((p, mo1) :: μ1) mo2) (k : ∀ p q, p ∉ M → q ∉ p :: M → Run C t2 D (q :: p :: M) ((δ.set i (.m p)).set j (.m q)) ((q, mo2) :: (p, mo1) :: μ1)) : Run C (tSeq (tPar i j (tCons te (tCons ten tNil))) t2) D M δ μ := fun σ H o =>
  h1 σ H o _ fun p H1 pM o1 x1 => h2 p pM σ H1 o1 _ fun q H2 qM o2 x2 => ⟨.ref p, .ref q, rfl, k p q pM qM _ _ ((o2.set i (e := .m p) rfl).set j (e := .m q) rfl)⟩
theorem eqv_nil (ds : List PyData) : PyData.eqv (.list ds) (.list []) = ds.isEmpty := by
  cases ds <;> simp [PyData.eqv, PyData.eqvAll]
end
end FD
namespace K09
open PySem L2 FD Evl
/-! ### the law's draws -/
abbrev Box := Int × Int
def Box.ds (b : Box) : List PyData := [.int b.1, .int b.2]
def rawOf (y : Int) : Int := (y * 40014 + 73) % 2147483563
def nextOf (r : Int) : Int := (r * 40692 + 4513) % 2147483629 + 1
def tkB (b : Box) (n : Int) : Box := if 0 < b.1 then (b.1 / n, b.2) else (b.1, nextOf (rawOf b.2))
def tkV (b : Box) (n : Int) : Int := if 0 < b.1 then b.1 % n else (rawOf b.2 * 2147483647 + nextOf (rawOf b.2)) / 8191 % n
theorem tkV_lt {b : Box} {n : Int} (h : 0 < n) : 0 ≤ tkV b n ∧ tkV b n < n := by
  unfold tkV
  split
  · exact ⟨Int.emod_nonneg _ (by omega), Int.emod_lt_of_pos _ h⟩
  · exact ⟨Int.emod_nonneg _ (by omega), Int.emod_lt_of_pos _ h⟩
def Rtk (bs ds : List PyData) (d : PyData) (bs' : List PyData) : Prop := ∃ (b : Box) (n : Int), bs = b.ds ∧ ds = [.int n] ∧ 0 < n ∧ n < 2 ^ 64 ∧ d = .int (tkV b n) ∧ bs' = (tkB b n).ds
section
variable {P : Program} {w : World} {K : PySem.W.Frag} {mg : Str → Option Value} {base : Heap} {Cb : Addr}
abbrev nTk : List Str := ["_law_box_here", "_law_many", "_law_raw", "_law_digit"]
theorem scTk : FnScope nTk ["_law_box_here", "_law_many"] (defScope sTk) := ⟨rfl, rfl, rfl, by decide +kernel, rfl, by decide +kernel, by decide +kernel⟩
theorem ok_tk {f : Addr} {fd : FuncData} (T : Txt K mg Cb) (F : Fun K "_law_take" "_law_take" sTk f fd) : FnOk P w K mg base CX0 1 f fd ["_law_box_here", "_law_many"] (spW K 2 Rtk) := by
  refine def_W F scTk (by decide) rfl fun cdv A outer s H E hr => ?_
  have nd := scTk.nd
  refine ⟨_, (pss_cons (ps_if (pt_cmpR op_gt (pe_ix ix_list (pv 0) pe_int (fun _ _ => rfl)) pe_int (nomark _)) (pss_cons (ps_set (i := 3) nd rfl (Or.inl rfl) (pe_op op_mod (pe_callTy call_int1 (by rfl) T.int (by decide +kernel) (pa_cons (pe_ix ix_list (pv 0) pe_int (fun _ _ => rfl)) pa_nil)) (pv 1)))
 (pss_cons (ps_asg (pe_op op_fdivW (pe_ix ix_list (pv 0) pe_int (fun _ _ => rfl)) (pv 1)) (pg_sub (pv 0) pe_int set_list))
 (pss_one (ps_ret (pv 3))))) pss_nil)
 (pss_cons (ps_set (i := 2) nd rfl (Or.inl rfl) (pe_op op_mod (pe_callTy call_int1 (by rfl) T.int (by decide +kernel) (pa_cons (pe_op op_add (pe_op op_mul (pe_ix ix_list (pv 0) pe_int (fun _ _ => rfl)) pe_int) pe_int) pa_nil)) pe_int))
 (pss_cons (ps_asg (pe_op op_add (pe_op op_mod (pe_callTy call_int1 (by rfl) T.int (by decide +kernel) (pa_cons (pe_op op_add (pe_op op_mul (pv 2) pe_int) pe_int) pa_nil)) pe_int) pe_int) (pg_sub (pv 0) pe_int set_list))
 (pss_one (ps_ret (pe_op op_mod (pe_callTy call_int1 (by rfl) T.int (by decide +kernel) (pa_cons (pe_op op_fdivW (pe_op op_add (pe_op op_mul (pv 2) pe_int) (pe_ix ix_list (pv 0) pe_int (fun _ _ => rfl))) pe_int) pa_nil)) (pv 1))))))), ?_⟩
  rintro M G B b bs ds d bs' _ ⟨⟨x, y⟩, n, rfl, rfl, h0, h1, rfl, rfl⟩ D fin
  show FD.Run _ _ D M [.m b, .d (.int n), .u, .u] [(b, .lst [.int x, .int y])]
  have hR : Rdd [(b, .lst [.int x, .int y])] (.m b) (.list [.int x, .int y]) := .m (j := 0) rfl
  refine q_when (t_test (x_op (x_op (x_vm rfl) x_int (o_ixL hR rfl)) x_int o_B0)) (fun hb => ?_) fun hb => ?_
  · have hx : 0 < x := of_decide_eq_true hb
    refine q_asg (x_op (x_cbP (a_cons (x_op (x_vm rfl) x_int (o_ixL hR rfl)) a_nil) c_intI) (x_vd rfl) (o_I h0)) ?_
    refine q_setL (j := 0) (n := 0) (x_op (x_op (x_vm rfl) x_int (o_ixL hR rfl)) (x_vd rfl) (o_I (wide_div h0 (b := 64) (by omega) (by decide) (by decide)))) (x_vm rfl) x_int rfl rfl ?_
    refine r_retW (j := 0) (x_vd rfl) rfl fun v M' H' e s m r => fin v M' H' e s ?_ ?_
    · have e1 : (tkB (x, y) n).ds = [.int (x / n), .int y] := by unfold tkB; rw [if_pos hx]; rfl
      rw [e1]; exact m
    · have e1 : tkV (x, y) n = x % n := by unfold tkV; rw [if_pos hx]
      rw [e1]; exact r
  · have hx : ¬ 0 < x := of_decide_eq_false hb
    refine q_asg (x_op (x_cbP (a_cons (x_op (x_op (x_op (x_vm rfl) x_int (o_ixL hR rfl)) x_int (o_I (.inr ⟨by decide, by decide⟩))) x_int o_I0) a_nil) c_intI) x_int (o_I (by decide))) ?_
    show FD.Run _ _ D M [.m b, .d (.int n), .d (.int (rawOf y)), .u] [(b, .lst [.int x, .int y])]
    refine q_setL (j := 0) (n := 1) (x_op (x_op (x_cbP (a_cons (x_op (x_op (x_vd rfl) x_int (o_I (.inr ⟨by decide, by decide⟩))) x_int o_I0) a_nil) c_intI) x_int (o_I (by decide))) x_int o_I0) (x_vm rfl) x_int rfl rfl ?_
    have hR3 : Rdd [(b, .lst [.int x, .int (nextOf (rawOf y))])] (.m b) (.list [.int x, .int (nextOf (rawOf y))]) := .m (j := 0) rfl
    show FD.Run _ _ D M [.m b, .d (.int n), .d (.int (rawOf y)), .u] [(b, .lst [.int x, .int (nextOf (rawOf y))])]
    refine r_retW (j := 0) (x_op (x_cbP (a_cons (x_op (x_op (x_op (x_vd rfl) x_int (o_I (.inr ⟨by decide, by decide⟩))) (x_op (x_vm rfl) x_int (o_ixL hR3 rfl)) o_I0) x_int (o_I (wide_div (by decide) (b := 64) (by decide) (by decide) (by decide)))) a_nil) c_intI) (x_vd rfl) (o_I h0)) rfl fun v M' H' e s m r => fin v M' H' e s ?_ ?_
    · have e1 : (tkB (x, y) n).ds = [.int x, .int (nextOf (rawOf y))] := by unfold tkB; rw [if_neg hx]; rfl
      rw [e1]; exact m
    · have e1 : tkV (x, y) n = (rawOf y * 2147483647 + nextOf (rawOf y)) / 8191 % n := by unfold tkV; rw [if_neg hx]
      rw [e1]; exact r
theorem at_nat {α : Type} {xs : List α} {i : Int} {v : α} (h0 : 0 ≤ i) (h : xs[i.toNat]? = some v) : atI xs i = some v := by
  have e : i = (i.toNat : Int) := by omega
  rw [e]; exact atI_nat h
end
def absI (i : Int) : Int := if i < 0 then -i else i
def cellOf (ns : List Int) (k : Nat) : Int := if k < ns.length then absI (ns.getD k 0) else if 0 < ns.length then 8731 * (k : Int) + 6247 + absI (ns.getD (k % ns.length) 0) % 2147483629 * 57089 else 8731 * (k : Int) + 6247
def bxOf (ns : List Int) (k : Nat) : Box := (if (10 : Int) ^ (18 : Int).toNat ≤ cellOf ns k then cellOf ns k else 0, (cellOf ns k % 2147483629 * 48271 + 30011 * (k : Int) + 5) % 2147483629 + 1)
section
variable {P : Program} {w : World} {K : PySem.W.Frag} {mg : Str → Option Value} {base : Heap} {Cb : Addr}
def Rbx (ds es : List PyData) : Prop := ∃ (ns : List Int) (k : Nat), ds = [.list (ns.map .int), .int (k : Int)] ∧ k < 64 ∧ es = (bxOf ns k).ds
abbrev nBx : List Str := ["_law_script", "_law_k", "_law_cell", "_law_great"]
theorem scBx : FnScope nBx ["_law_script", "_law_k"] (defScope sBx) := ⟨rfl, rfl, rfl, by decide +kernel, rfl, by decide +kernel, by decide +kernel⟩
theorem ti_get {xs : List Int} {i : Nat} {x : Int} (h : xs[i]? = some x) : (xs.map PyData.int)[i]? = some (.int x) := by rw [List.getElem?_map, h]; rfl
theorem getD_get {xs : List Int} {i : Nat} (h : i < xs.length) : xs[i]? = some (xs.getD i 0) := by simp [h]
theorem ok_bx {f : Addr} {fd : FuncData} (T : Txt K mg Cb) (F : Fun K "_law_box" "_law_box" sBx f fd) : FnOk P w K mg base CX0 1 f fd ["_law_script", "_law_k"] (spN K 2 Rbx) := by
  refine def_N F scBx (by decide) fun cdv A outer s H E hr => ?_
  have nd := scBx.nd
  refine ⟨_, (pss_cons (ps_set (i := 2) nd rfl (Or.inl rfl) (pe_op op_add (pe_op op_mul pe_int (pv 1)) pe_int))
 (pss_cons (ps_if (pt_cmpR op_lt (pv 1) (pe_callB call_len_seq (by rfl) T.len PySem.boot_len (pa_cons (pv 0) pa_nil)) (nomark _)) (pss_one (ps_set (i := 2) nd rfl (Or.inl rfl) (pe_callB call_abs (by rfl) T.abs (by decide +kernel) (pa_cons (pe_callTy call_int1 (by rfl) T.int (by decide +kernel) (pa_cons (pe_ix ix_list (pv 0) (pv 1) (fun _ _ => rfl)) pa_nil)) pa_nil)))) (pss_one (ps_if (pt_cmpR op_gt (pe_callB call_len_seq (by rfl) T.len PySem.boot_len (pa_cons (pv 0) pa_nil)) pe_int (nomark _)) (pss_one (ps_set (i := 2) nd rfl (Or.inl rfl) (pe_op op_add (pv 2) (pe_op op_mul (pe_op op_mod (pe_callTy call_int1 (by rfl) T.int (by decide +kernel) (pa_cons (pe_callB call_abs (by rfl) T.abs (by decide +kernel) (pa_cons (pe_callTy call_int1 (by rfl) T.int (by decide +kernel) (pa_cons (pe_ix ix_list (pv 0) (pe_op op_mod (pe_callTy call_int1 (by rfl) T.int (by decide +kernel) (pa_cons (pv 1) pa_nil)) (pe_callB call_len_seq (by rfl) T.len PySem.boot_len (pa_cons (pv 0) pa_nil))) (fun _ _ => rfl)) pa_nil)) pa_nil)) pa_nil)) pe_int) pe_int)))) pss_nil)))
 (pss_cons (ps_set (i := 3) nd rfl (Or.inl rfl) (pe_ifExp (pt_cmpR op_ge (pv 2) (pe_op op_pow pe_int pe_int) (nomark _)) (pv 2) pe_int))
 (pss_one (ps_ret (pe_lst (pa_cons (pv 3) (pa_cons (pe_op op_add (pe_op op_mod (pe_callTy call_int1 (by rfl) T.int (by decide +kernel) (pa_cons (pe_op op_add (pe_op op_add (pe_op op_mul (pe_op op_mod (pe_callTy call_int1 (by rfl) T.int (by decide +kernel) (pa_cons (pv 2) pa_nil)) pe_int) pe_int) (pe_op op_mul pe_int (pv 1))) pe_int) pa_nil)) pe_int) pe_int) pa_nil)))))))), ?_⟩
  rintro M G B ds es _ ⟨ns, k, rfl, hk, rfl⟩ D fin
  show FD.Run _ _ D M [.d (.list (ns.map .int)), .d (.int (k : Int)), .u, .u] []
  refine q_asg (x_op (x_op x_int (x_vd rfl) (o_I (.inl ⟨by decide, by decide⟩))) x_int o_I0) ?_
  refine q_ifJ [.d (.list (ns.map .int)), .d (.int (k : Int)), .d (.int (cellOf ns k)), .u] [] (t_test (x_op (x_vd rfl) (x_cbP (a_cons (x_vd rfl) a_nil) (c_lenL (.d _))) o_B0)) (fun hb D' kk => ?_) (fun hb D' kk => ?_) ?_
  · have h : k < ns.length := by have := of_decide_eq_true hb; rw [List.length_map] at this; omega
    refine r_asg (x_cbP (a_cons (x_cbP (a_cons (x_op (x_vd rfl) (x_vd rfl) (o_ixL (.d _) (atI_nat (ti_get (getD_get h))))) a_nil) c_intI) a_nil) c_abs) (nx_to kk ?_ rfl)
    unfold cellOf
    rw [if_pos h]; rfl
  · have h : ¬ k < ns.length := by have := of_decide_eq_false hb; rw [List.length_map] at this; omega
    refine r_if (t_test (x_op (x_cbP (a_cons (x_vd rfl) a_nil) (c_lenL (.d _))) x_int o_B0)) (fun hb => ?_) fun hb => ?_
    · have h0 : 0 < ns.length := by have := of_decide_eq_true hb; rw [List.length_map] at this; omega
      have e : ((k : Int) % ((ns.map PyData.int).length : Int)) = ((k % ns.length : Nat) : Int) := by rw [List.length_map]; omega
      refine r_asg (x_op (x_vd rfl) (x_op (x_op (x_cbP (a_cons (x_cbP (a_cons (x_cbP (a_cons (x_op (x_vd rfl) (x_op (x_cbP (a_cons (x_vd rfl) a_nil) c_intI) (x_cbP (a_cons (x_vd rfl) a_nil) (c_lenL (.d _))) (o_I (by rw [List.length_map]; omega))) (o_ixL (.d _) (by rw [e]; exact atI_nat (ti_get (getD_get (Nat.mod_lt _ h0)))))) a_nil) c_intI) a_nil) c_abs) a_nil) c_intI) x_int (o_I (by decide))) x_int (o_I (.inr ⟨by decide, by decide⟩))) o_I0) (nx_to kk ?_ rfl)
      unfold cellOf
      rw [if_neg h, if_pos h0]; rfl
    · have h0 : ¬ 0 < ns.length := by have := of_decide_eq_false hb; rw [List.length_map] at this; omega
      refine r_next (nx_to kk ?_ rfl)
      unfold cellOf
      rw [if_neg h, if_neg h0]; rfl
  · refine q_asg (x_is (x_if2 (t_test (x_op (x_vd rfl) (x_op x_int x_int (o_I ⟨by decide, by decide, by decide⟩)) o_B0)) (x_vd rfl) x_int) (e1 := .d (.int (bxOf ns k).1)) ?_) ?_
    · unfold bxOf
      by_cases hc : (10 : Int) ^ (18 : Int).toNat ≤ cellOf ns k
      · rw [decide_eq_true hc]; simp only [hc, if_true]
      · rw [decide_eq_false hc]; simp only [hc, if_false]; rfl
    refine r_retN (μ' := []) (es := (bxOf ns k).ds) ?_ (by simp [Box.ds]) fin
    exact a_cons (x_vd rfl) (a_cons (x_op (x_op (x_cbP (a_cons (x_op (x_op (x_op (x_op (x_cbP (a_cons (x_vd rfl) a_nil) c_intI) x_int (o_I (by decide))) x_int (o_I (.inr ⟨by decide, by decide⟩))) (x_op x_int (x_vd rfl) (o_I (.inl ⟨by decide, by decide⟩))) o_I0) x_int o_I0) a_nil) c_intI) x_int (o_I (by decide))) x_int o_I0) a_nil)
end
section
variable {C : Cfg} {M : List Addr} {δ : List Ent} {μ μ' : Mem} {tb tn : TE} {E : XK} {p : Addr} {b : Box} {n : Int}
theorem x_take (h1 : EvX C tb M δ [(p, .lst b.ds)] [(p, .lst b.ds)] (.m p)) (h2 : EvX C tn M δ [(p, .lst b.ds)] [(p, .lst b.ds)] (.d (.int n))) (h0 : 0 < n) (h3 : n < 2 ^ 64) :
    EvX C (tCall (spW C.K 2 Rtk) [] E (tCons tb (tCons tn tNil))) M δ [(p, .lst b.ds)] [(p, .lst (tkB b n).ds)] (.d (.int (tkV b n))) :=
  x_callW 0 (ds := [.int n]) (a_cons h1 (a_cons h2 a_nil)) ⟨b, n, rfl, rfl, h0, h3, rfl, rfl⟩
theorem x_takeJ (j : Nat) (h1 : EvX C tb M δ μ μ (.m p)) (h2 : EvX C tn M δ μ μ (.d (.int n))) (hj : μ[j]? = some (p, .lst b.ds)) (h0 : 0 < n) (h3 : n < 2 ^ 64) :
    EvX C (tCall (spW C.K 2 Rtk) [] E (tCons tb (tCons tn tNil))) M δ μ (μ.set j (p, .lst (tkB b n).ds)) (.d (.int (tkV b n))) :=
  x_callW j (ds := [.int n]) (a_cons h1 (a_cons h2 a_nil)) ⟨b, n, rfl, rfl, h0, h3, rfl, rfl⟩ hj
end
/-! ### _law_pick -/
def Rpk (es : List Ent) (μ : Mem) (d : PyData) (μ' : Mem) : Prop := ∃ (b : Addr) (bx : Box) (xs : List PyData), 0 < xs.length ∧ xs.length < 100000 ∧ xs[(tkV bx xs.length).toNat]? = some d ∧
  ((es = [.m b, .d (.list xs)] ∧ μ = [(b, .lst bx.ds)] ∧ μ' = [(b, .lst (tkB bx xs.length).ds)]) ∨ ∃ f : Addr, es = [.m b, .m f] ∧ μ = [(f, .lst xs), (b, .lst bx.ds)] ∧ μ' = [(f, .lst xs), (b, .lst (tkB bx xs.length).ds)])
theorem swap_all {μ μ' : Mem} (h : ad μ' = ad μ) : Swap μ μ' μ μ' := ⟨fun _ h => h, h, h, fun _ h => .inl h⟩
section
variable {C : Cfg} {M : List Addr} {δ : List Ent} {μ μ' : Mem} {tb tn : TE} {E : XK} {p f : Addr} {b : Box} {xs : List PyData} {d : PyData}
theorem x_pickD (h1 : EvX C tb M δ [(p, .lst b.ds)] [(p, .lst b.ds)] (.m p)) (h2 : EvX C tn M δ [(p, .lst b.ds)] [(p, .lst b.ds)] (.d (.list xs))) (h0 : 0 < xs.length) (h3 : xs.length < 100000)
    (hx : xs[(tkV b xs.length).toNat]? = some d) : EvX C (tCall (spE C.K 2 Rpk) [] E (tCons tb (tCons tn tNil))) M δ [(p, .lst b.ds)] [(p, .lst (tkB b xs.length).ds)] (.d d) :=
  x_callE (a_cons h1 (a_cons h2 a_nil)) (swap_all rfl) (by simp [ad]) ⟨p, b, xs, h0, h3, hx, .inl ⟨rfl, rfl, rfl⟩⟩
theorem x_pickM (h1 : EvX C tb M δ [(f, .lst xs), (p, .lst b.ds)] [(f, .lst xs), (p, .lst b.ds)] (.m p)) (h2 : EvX C tn M δ [(f, .lst xs), (p, .lst b.ds)] [(f, .lst xs), (p, .lst b.ds)] (.m f)) (h0 : 0 < xs.length) (h3 : xs.length < 100000)
    (hx : xs[(tkV b xs.length).toNat]? = some d) : EvX C (tCall (spE C.K 2 Rpk) [] E (tCons tb (tCons tn tNil))) M δ [(f, .lst xs), (p, .lst b.ds)] [(f, .lst xs), (p, .lst (tkB b xs.length).ds)] (.d d) :=
  fun σ H o Q k => x_callE (μ0' := [(f, .lst xs), (p, .lst (tkB b xs.length).ds)]) (a_cons h1 (a_cons h2 a_nil)) (swap_all rfl) o.nd ⟨p, b, xs, h0, h3, hx, .inr ⟨f, rfl, rfl, rfl⟩⟩ rfl σ H o Q k
end
section
variable {P : Program} {w : World} {K : PySem.W.Frag} {mg : Str → Option Value} {base : Heap} {Cb : Addr}
abbrev nPk : List Str := ["_law_box_here", "_law_some"]
theorem scPk : FnScope nPk ["_law_box_here", "_law_some"] (defScope sPk) := ⟨rfl, rfl, rfl, by decide +kernel, rfl, by decide +kernel, by decide +kernel⟩
theorem ok_pk {f : Addr} {fd : FuncData} (T : Txt K mg Cb) (F : Fun K "_law_pick" "_law_pick" sPk f fd) {f1 : Addr} {fd1 : FuncData} (H1 : Has K mg "_law_take" sTk ["_law_box_here", "_law_many"] f1 fd1) : FnOk P w K mg base CX0 2 f fd ["_law_box_here", "_law_some"] (spE K 2 Rpk) := by
  have G1 : FnOk P w K mg base CX0 1 f1 fd1 ["_law_box_here", "_law_many"] (spW K 2 Rtk) := ok_tk T H1.F
  refine def_E F scPk (by decide) rfl fun cdv A outer s H E hr => ?_
  have nd := scPk.nd
  refine ⟨_, (pss_one (ps_ret (pe_ix ix_list (pv 1) (pe_call G1 hr rfl H1.m H1.F.kp H1.b .nil pass0 (pa_cons (pv 0) (pa_cons (pe_callB call_len_seq (by rfl) T.len PySem.boot_len (pa_cons (pv 1) pa_nil)) pa_nil))) (fun _ _ => rfl)))), ?_⟩
  rintro M G B es μ d μ' ⟨b, bx, xs, h0, h1, hx, (⟨rfl, rfl, rfl⟩ | ⟨f, rfl, rfl, rfl⟩)⟩ D fin
  · have hv := tkV_lt (b := bx) (n := xs.length) (by omega)
    show FD.Run _ _ D M [.m b, .d (.list xs)] [(b, .lst bx.ds)]
    exact r_retE (x_op (x_vd rfl) (x_takeJ 0 (x_vm rfl) (x_cbP (a_cons (x_vd rfl) a_nil) (c_lenL (.d _))) rfl (by omega) (by omega)) (o_ixL (.d _) (at_nat hv.1 hx))) (fun z hz => hz) fin
  · have hv := tkV_lt (b := bx) (n := xs.length) (by omega)
    show FD.Run _ _ D M [.m b, .m f] [(f, .lst xs), (b, .lst bx.ds)]
    exact r_retE (x_op (x_vm rfl) (x_takeJ 1 (x_vm rfl) (x_cbP (a_cons (x_vm rfl) a_nil) (c_lenL (.m (j := 0) rfl))) rfl (by omega) (by omega)) (o_ixL (.m (j := 0) rfl) (at_nat hv.1 hx))) (fun z hz => hz) fin
end
theorem erase_map {α β : Type} (f : α → β) : ∀ (xs : List α) (m : Nat), (xs.map f).eraseIdx m = (xs.eraseIdx m).map f
  | [], _ => rfl
  | _ :: _, 0 => rfl
  | x :: xs, m + 1 => by
    show f x :: (xs.map f).eraseIdx m = f x :: (xs.eraseIdx m).map f
    rw [erase_map f xs m]
theorem erase_perm {α : Type} : ∀ {xs : List α} {m : Nat} (h : m < xs.length), (xs[m] :: xs.eraseIdx m).Perm xs
  | x :: xs, 0, _ => .refl _
  | x :: xs, m + 1, h => (List.Perm.swap _ _ _).trans (.cons x (erase_perm (xs := xs) (m := m) (by simpa using h)))
/-- things in a drawn order -/
def mix {α : Type} : Nat → Box → List α → List α × Box
  | 0, b, _ => ([], b)
  | n + 1, b, xs => match xs[(tkV b ((n : Int) + 1)).toNat]? with
    | none => ([], b)
    | some x => (x :: (mix n (tkB b ((n : Int) + 1)) (xs.eraseIdx (tkV b ((n : Int) + 1)).toNat)).1, (mix n (tkB b ((n : Int) + 1)) (xs.eraseIdx (tkV b ((n : Int) + 1)).toNat)).2)
theorem mix_map {α β : Type} (f : α → β) : ∀ (n : Nat) (b : Box) (xs : List α), mix n b (xs.map f) = ((mix n b xs).1.map f, (mix n b xs).2)
  | 0, b, xs => rfl
  | n + 1, b, xs => by
    unfold mix
    rw [List.getElem?_map]
    cases xs[(tkV b ((n : Int) + 1)).toNat]? with
    | none => rfl
    | some x =>
      show (_, _) = (_, _)
      rw [erase_map, mix_map f n]; rfl
theorem mix_perm {α : Type} : ∀ (n : Nat) (b : Box) (xs : List α), xs.length = n → (mix n b xs).1.Perm xs
  | 0, b, xs, h => by rw [List.length_eq_zero_iff.mp h]; exact .nil
  | n + 1, b, xs, h => by
    have hv := tkV_lt (b := b) (n := (n : Int) + 1) (by omega)
    have hl : (tkV b ((n : Int) + 1)).toNat < xs.length := by omega
    unfold mix
    rw [List.getElem?_eq_getElem hl]
    refine (List.Perm.cons _ (mix_perm n _ _ (by rw [List.length_eraseIdx, if_pos hl]; omega))).trans ?_
    exact erase_perm hl
theorem x_pickJ {C : Cfg} {M : List Addr} {δ : List Ent} {μ : Mem} {tb tn : TE} {E : XK} {p : Addr} {b : Box} {xs : List PyData} {d : PyData} (j : Nat) (h1 : EvX C tb M δ μ μ (.m p)) (h2 : EvX C tn M δ μ μ (.d (.list xs))) (hj : μ[j]? = some (p, .lst b.ds)) (h0 : 0 < xs.length) (h3 : xs.length < 100000)
    (hx : xs[(tkV b xs.length).toNat]? = some d) : EvX C (tCall (spE C.K 2 Rpk) [] E (tCons tb (tCons tn tNil))) M δ μ (μ.set j (p, .lst (tkB b xs.length).ds)) (.d d) := fun σ H o Q k =>
  x_callE (a_cons h1 (a_cons h2 a_nil)) (swap_set hj o.nd) (by simp [ad]) ⟨p, b, xs, h0, h3, hx, .inl ⟨rfl, rfl, rfl⟩⟩ rfl σ H o Q k
def Rmx (es : List Ent) (μ : Mem) (d : PyData) (μ' : Mem) : Prop := ∃ (b : Addr) (bx : Box) (xs : List PyData), xs.length < 100 ∧ d = .list (mix xs.length bx xs).1 ∧ es = [.m b, .d (.list xs)] ∧ μ = [(b, .lst bx.ds)] ∧ μ' = [(b, .lst (mix xs.length bx xs).2.ds)]
section
variable {P : Program} {w : World} {K : PySem.W.Frag} {mg : Str → Option Value} {base : Heap} {Cb : Addr}
abbrev nMx : List Str := ["_law_box_here", "_law_some", "_law_turn", "_law_left", "_law_found"]
theorem scMx : FnScope nMx ["_law_box_here", "_law_some"] (defScope sMx) := ⟨rfl, rfl, rfl, by decide +kernel, rfl, by decide +kernel, by decide +kernel⟩
theorem ok_mx {f : Addr} {fd : FuncData} (T : Txt K mg Cb) (F : Fun K "_law_mixed" "_law_mixed" sMx f fd) {f1 : Addr} {fd1 : FuncData} (H1 : Has K mg "_law_take" sTk ["_law_box_here", "_law_many"] f1 fd1) : FnOk P w K mg base CX0 2 f fd ["_law_box_here", "_law_some"] (spE K 2 Rmx) := by
  have G1 : FnOk P w K mg base CX0 1 f1 fd1 ["_law_box_here", "_law_many"] (spW K 2 Rtk) := ok_tk T H1.F
  refine def_E F scMx (by decide) rfl fun cdv A outer s H E hr => ?_
  have nd := scMx.nd
  refine ⟨_, (pss_cons (ps_par (i := 3) (j := 4) (by rfl) nd rfl rfl (by decide) rfl rfl (pa_cons (pe_callTy call_list_of (by rfl) T.list (by decide +kernel) (pa_cons (pv 1) pa_nil)) (pa_cons (pe_lst pa_nil) pa_nil)) (by rfl))
 (pss_cons (ps_for PassesOwn.never rfl (pi_range1 (by rfl) T.range (pa_cons (pe_callB call_len_seq (by rfl) T.len PySem.boot_len (pa_cons (pv 1) pa_nil)) pa_nil)) (pg_name (i := 2) nd rfl (Or.inl rfl)) (pss_one (ps_expr (pe_bm PySem.F.plainAttrs_list PySem.F.slot_list_append PySem.F.type_list_append mt_append (pv 4) (pa_cons (pe_bm PySem.F.plainAttrs_list PySem.F.slot_list_pop PySem.F.type_list_pop mt_popAt (pv 3) (pa_cons (pe_call G1 hr rfl H1.m H1.F.kp H1.b .nil pass0 (pa_cons (pv 0) (pa_cons (pe_callB call_len_seq (by rfl) T.len PySem.boot_len (pa_cons (pv 3) pa_nil)) pa_nil))) pa_nil)) pa_nil)))))
 (pss_one (ps_ret (pv 4))))), ?_⟩
  rintro M G B es μ d μ' ⟨b, bx, xs, hl, rfl, rfl, rfl, rfl⟩ D fin
  show FD.Run _ _ D M [.m b, .d (.list xs), .u, .u, .u] [(b, .lst bx.ds)]
  refine q_parNN (n_listL (a_cons (x_vd rfl) a_nil) (.d _)) (fun p pM => n_newL (ds := []) a_nil (by simp)) fun p q pM qM => ?_
  show FD.Run _ _ D (q :: p :: M) [.m b, .d (.list xs), .u, .m p, .m q] [(q, .lst []), (p, .lst xs), (b, .lst bx.ds)]
  refine q_for (i_rng1 (a_cons (x_cbP (a_cons (x_vd rfl) a_nil) (c_lenL (.d _))) a_nil) (by omega) (by omega)) (fun i δ1 μ1 => ∃ (left found : List PyData) (b' : Box) (e2 : Ent), δ1 = [.m b, .d (.list xs), e2, .m p, .m q] ∧ μ1 = [(q, .lst found), (p, .lst left), (b, .lst b'.ds)] ∧ found.length + left.length = xs.length ∧ left.length + i = xs.length ∧ mix xs.length bx xs = (found ++ (mix left.length b' left).1, (mix left.length b' left).2)) ⟨xs, [], bx, .u, rfl, rfl, by simp, by simp, by simp⟩ ?_ ?_
  · rintro B2 - i d1 δ1 μ1 hx ⟨left, found, b', e2, rfl, rfl, hn, hi, hm⟩
    have hil : i < xs.length := by
      have := (List.getElem?_eq_some_iff.mp hx).1
      rw [rngD_length] at this; simpa using this
    rw [rngD_get (by simpa using hil)] at hx
    cases hx
    refine ⟨[2], _, tg_name, ?_⟩
    show FD.Run _ _ _ _ [.m b, .d (.list xs), .d (.int (0 + (i : Int))), .m p, .m q] _
    have ln : left.length = (left.length - 1) + 1 := by omega
    have e1 : ((left.length : Nat) : Int) = ((left.length - 1 : Nat) : Int) + 1 := by omega
    have hv := tkV_lt (b := b') (n := (left.length : Int)) (by omega)
    have hi2 : (tkV b' (left.length : Int)).toNat < left.length := by omega
    have ei : ((tkV b' (left.length : Int)).toNat : Int) = tkV b' (left.length : Int) := by omega
    have tkq := x_takeJ (E := E) (C := ⟨K, M, G, B2⟩) (M := q :: p :: M) (δ := [.m b, .d (.list xs), .d (.int (0 + (i : Int))), .m p, .m q]) (p := b) (b := b') (n := (left.length : Int)) (μ := [(q, .lst found), (p, .lst left), (b, .lst b'.ds)]) (tb := tVar 0) 2 (x_vm rfl) (x_cbP (a_cons (x_vm (i := 3) rfl) a_nil) (c_lenL (.m (j := 1) rfl))) rfl (by omega) (by omega)
    rw [← ei] at tkq
    refine r_app (j := 0) (ds := found) (x_vm rfl) (x_popAt (j := 1) (x_vm rfl) rfl tkq rfl (List.getElem?_eq_getElem hi2) (by omega)) rfl rfl (by omega) ?_
    show Nx _ _ _ _ [(q, .lst (found ++ [left[(tkV b' (left.length : Int)).toNat]])), (p, .lst (left.eraseIdx (tkV b' (left.length : Int)).toNat)), (b, .lst (tkB b' (left.length : Int)).ds)]
    have le : (left.eraseIdx (tkV b' (left.length : Int)).toNat).length = left.length - 1 := by rw [List.length_eraseIdx, if_pos hi2]
    refine fun σ H o => ⟨_, _, ⟨left.eraseIdx (tkV b' (left.length : Int)).toNat, _, tkB b' (left.length : Int), _, rfl, rfl, by rw [le, List.length_append, List.length_singleton]; omega, by rw [le]; omega, ?_⟩, o⟩
    rw [hm, le]
    have := mix.eq_2 (α := PyData) b' left (left.length - 1)
    rw [← e1, List.getElem?_eq_getElem hi2] at this
    rw [show mix left.length b' left = mix ((left.length - 1) + 1) b' left by rw [← ln], this, List.append_assoc]; rfl
  · rintro δ1 μ1 ⟨left, found, b', e2, rfl, rfl, hn, hi, hm⟩
    have hi : left.length = 0 := by rw [rngD_length, Int.toNat_natCast] at hi; omega
    have hb : left = [] := List.length_eq_zero_iff.mp hi
    subst hb
    rw [hm, show (mix ([] : List PyData).length b' []).2 = b' from rfl] at fin
    rw [show (found ++ (mix ([] : List PyData).length b' []).1, b').1 = found from List.append_nil _] at fin
    exact r_retEL (x_vm rfl) List.mem_cons_self (fun z => qM (List.mem_cons_of_mem _ z)) (fun r hr => List.mem_cons_of_mem _ (List.mem_cons_of_mem _ hr)) fin
end
end K09
/-! sorted(set(xs)), xs a list of whole numbers -/
namespace FD
open PySem PySem.Spec L2 PyProof.Rows PySem.W PySem.Froz
section
variable {P : Program} {w : World} {A : Around} {E : Value → Shared → Prop} {s : Shared}
set_option maxHeartbeats 12000000 in
/-- set(xs), xs a list of whole numbers -/
theorem call_setLi {l : Addr} {items : Array Value} (zs : List Int) {Q : Value → Shared → Prop} (hh : A.handled = none) (hl : s.heap.IsList l items) (hit : PyProof.Rows.IntsAre items.toList zs) (hb : zs.length + 1 < scanBound)
    (h : ∀ (h' : Heap) (tk n : Nat), SetR w h' s.heap.objs.size (fun j => decide (j ∈ zs)) n → n ≤ zs.length → (∀ b o, s.heap.get? b = some o → h'.get? b = some o) → Q (.ref s.heap.objs.size) { s with heap := h', toks := tk }) :
    wpAny (model P w) A (call (.type "set") [.ref l]) Q E s := by
  have eN : items.size = zs.length := by rw [← PyProof.Rows.IntsAre.length hit, Array.length_toList]
  obtain ⟨c, tl, hmro⟩ := F.called_set.mro
  have hmade := F.called_set.made
  have hsub := F.called_set.sub
  refine wpAny_call (codeAny_of_tree ?_)
  show wpAny _ _ (callAny (.type "set") _) _ _ _
  refine wpAny_pure ⟨Code.quiet_builtin _ (by decide +kernel), codeAny_builtin F.entry_type_call ?_⟩
  rw [Around.under_plain (weight_type_call_type "set" [.ref l] []) rfl]
  have h1 := F.called_set.notType
  have h2 := F.called_set.canCreate
  have hct := F.typeCall_set_1 (.ref l)
  repeat (any_goals (first | assumption | wp_step))
  generalize eS : ({ cls := .type "set", dict := none, data := .set #[] 0 (.fresh 0 0 (!w.params.followText "set-order")) } : Obj) = o0
  refine codeAny_mono (code_set_led1 (.ref l) (E := E) (Q₁ := fun obj t => obj = .ref s.heap.objs.size ∧ t = { s with heap := s.heap.push o0 }) ⟨rfl, by rw [eS]⟩) fun r t hr => ?_
  cases r with
  | error e => exact hr
  | ok fl =>
    cases fl with
    | ret obj =>
      obtain ⟨rfl, rfl⟩ := hr
      have hS : (s.heap.push o0).get? s.heap.objs.size = some o0 := Heap.get?_push_size _ (by rw [← eS]; rfl)
      have hT : Shared.TypeIs { s with heap := s.heap.push o0 } (.ref s.heap.objs.size) "set" := ⟨_, hS, by rw [← eS]⟩
      have hli := F.called_set.init.lookup
      have hbi := F.called_set.init.bind (.ref s.heap.objs.size)
      repeat (any_goals (first | assumption | wp_step))
      refine codeAny_mono (codeAny_call_builtin (R := wants (fun r s₂ => r = .none ∧ ∃ h' tk n, s₂ = { s with heap := h', toks := tk } ∧ SetR w h' s.heap.objs.size (fun j => decide (j ∈ zs)) n ∧ n ≤ zs.length ∧
          (∀ b o, s.heap.get? b = some o → h'.get? b = some o)) E) F.called_set.init.plain F.entry_set_init (check_set_init_1 hT ?_)) fun r₂ s₂ hr₂ => ?_
      · obtain ⟨ol, hol, hcl, nl, hdl⟩ := hl
        obtain ⟨ocls, odict, odata, oslots⟩ := ol
        simp only at hcl hdl
        subst hcl; subst hdl
        have hol' : (s.heap.push o0).get? l = some { cls := .type "list", dict := odict, data := .seq items nl, slots := oslots } := Heap.get?_push_of_some _ hol
        have hsls := F.sub_list_set
        have hslf := F.sub_list_frozenset
        have hne : (Value.type "list" == Value.type "dict") = false := by decide
        have tl1 : (s.heap.push o0).IsList l items := ⟨_, hol', rfl, nl, rfl⟩
        subst eS
        unfold Builtin.«set.__init__» noKeywords Builtin.Frozenset.updateFrom
        generalize hPI : pyIter = PI
        wp_walk
        subst hPI
        refine wpAny_pyIter_list tl1 ?_
        refine wpAny_bind (wpAny_runValue ?_)
        have ltl : l < s.heap.objs.size := Heap.lt_size hol
        have hh3 : A.in1.in1.in1.handled = none := by simp [hh]
        have eP : ∀ o : Obj, (s.heap.push o).objs.size = s.heap.objs.size + 1 := fun o => Heap.size_push ..
        have neI : l ≠ (s.heap.push { cls := .type "set", dict := none, data := .set #[] 0 (.fresh 0 0 (!w.params.followText "set-order")) }).objs.size := by rw [eP]; exact Nat.ne_of_lt (Nat.lt_succ_of_lt ltl)
        have outS : s.heap.objs.size ∉ [(s.heap.push { cls := .type "set", dict := none, data := .set #[] 0 (.fresh 0 0 (!w.params.followText "set-order")) }).objs.size, l] := by
          rw [eP]; simp only [List.mem_cons, List.not_mem_nil, or_false, not_or]
          exact ⟨Nat.ne_of_lt (Nat.lt_succ_self _), Nat.ne_of_gt ltl⟩
        have hval : ∀ (i : Nat) (v : Value), items[i]? = some v → ∃ k t, zs[i]? = some k ∧ v = .int k t := fun i v hv => by
          have hi : i < zs.length := by rw [← eN]; exact (Array.getElem?_eq_some_iff.mp hv).1
          obtain ⟨t, e⟩ := PyProof.Rows.IntsAre.int_at hit i v (by rw [Array.getElem?_toList]; exact hv)
          refine ⟨zs[i], t, List.getElem?_eq_getElem hi, ?_⟩
          rw [e, List.getD_eq_getElem?_getD, List.getElem?_eq_getElem hi] <;> rfl
        refine set_update_ints ((Walks.list hh3 _ l neI items).toS) s.heap.objs.size outS zs eN hb hval (items.size - 0) 0 _ (by omega) (Nat.zero_le _)
          ⟨⟨_, Heap.get?_push_size _ rfl, rfl, rfl⟩, (tl1.push _)⟩ ?_ ?_
        · exact ⟨0, Nat.le_refl 0, setR_new_at ((Heap.get?_push_of_some _ hS).trans rfl)⟩
        · intro s' ks mv hm' hT'
          obtain ⟨h', gg, d', tk', os'⟩ := s'
          have eg : gg = s.gens := mv.gens
          have ed : d' = s.drawn := mv.drawn
          have eo : os' = s.os := mv.os
          subst eg; subst ed; subst eo
          show wpAny _ _ _ _ _ _
          refine wpAny_pure ?_
          show wpAny _ _ (ret Value.none) _ _ _
          refine wpAny_pure ⟨rfl, h', tk', ks, rfl, hT', by omega, fun b o e => ?_⟩
          have b0 : b < s.heap.objs.size := Heap.lt_size e
          have b1 : b ≠ s.heap.objs.size := Nat.ne_of_lt b0
          have b2 : b ≠ (s.heap.push { cls := .type "set", dict := none, data := .set #[] 0 (.fresh 0 0 (!w.params.followText "set-order")) }).objs.size := by rw [eP]; exact Nat.ne_of_lt (Nat.lt_succ_of_lt b0)
          exact mv.heap b o (by simp only [List.mem_cons, List.not_mem_nil, or_false, not_or]; exact ⟨b1, b2⟩) (Heap.get?_push_of_some _ (Heap.get?_push_of_some _ e))
      · cases r₂ with
        | error e => exact hr₂
        | ok fl₂ =>
          cases fl₂ with
          | ret r =>
            obtain ⟨rfl, h', tk, ks, rfl, a1, a2, a3⟩ := hr₂
            repeat (any_goals (first | assumption | wp_step))
            exact h _ _ _ a1 a2 a3
          | _ => exact hr₂.elim
    | _ => exact hr.elim
end
/-- sorted(set(xs)) -/
def tSTli (K : PySem.W.Frag) (ta : TE) : TE := fun σ H Q => ta σ H fun x H1 => ∃ (l : Addr) (ns : List Int), x = .ref l ∧ SqL K H1 l (ns.map V.int) ∧ ns.length < 64 ∧
  ∀ (p : Addr) (ms : List Int), ms.Pairwise (· < ·) → (∀ k, k ∈ ms ↔ k ∈ ns) → H1 p = none → Q (.ref p) (upd H1 p (.lst (ms.map V.int)))
section
variable {X : Cx}
theorem pe_STli {a : Expr} {ta : TE} {p p2 q pos : Pos} (hc : X.calm = true) (hg : Gl X "sorted") (hm : X.mg "sorted" = none) (hg2 : Gl X "set") (hm2 : X.mg "set" = none) (ha : PE X a ta)
    (na : starEach [a] X.env = (false, eval a X.env) :: starEach [] X.env := by rfl) : PE X (.Call (.Name "sorted" p) [.Call (.Name "set" p2) [a] [] q] [] pos) (tSTli X.K ta) :=
  ⟨fun pins s σ H Q I h => by
    refine Call_ (ld_blt I hg hm (show _ = some (.builtin "sorted") by decide +kernel) (PyProof.Rows.callWith_builtin1 (PyProof.Rows.args_cons (Call_ (ld_blt I hg2 hm2 boot_set (PyProof.Rows.callWith_type1 (PyProof.Rows.args_cons (thn (ha.run pins s σ H _ I h) fun v s1 hv => PyProof.Rows.args_nil ?_) na) na rfl))) rfl) rfl rfl))
    obtain ⟨x, H1, I1, r1, l, ns, rfl, hq, hf, q1⟩ := hv
    cases r1
    obtain ⟨its, r, pl, hz⟩ := I1.list hq
    refine call_setLi ns (I1.ok.hd hc) pl.isList (by simpa using r.ints) (by unfold scanBound; omega) fun h' tk c R hcn k => PyProof.Rows.args_nil ?_
    have I2 : Inv X pins σ H1 { s1 with heap := h', toks := tk } := I1.kept fun b o e => k b o e
    refine sorted_set (s := { s1 with heap := h', toks := tk }) R (I2.ok.hd hc) (by omega) fun s2 p2 out c2 ms k2 g2 o2 hp hob hi hpw hmm hl => ?_
    have hlen : (ms.map V.int).length ≤ sizeLine := by rw [List.length_map, hl, sizeLine_eq]; omega
    have hn : H1 p2 = none := I2.hok.fresh hp
    have J : Inv X pins σ (upd H1 p2 (.lst (ms.map V.int))) { ({ s1 with heap := h', toks := tk } : Shared) with heap := s2.heap, gens := s2.gens, drawn := s2.drawn, toks := s2.toks } :=
      I2.call (ch := []) (Un.laid k2 hp hn) (I2.hok.laid k2 hp ⟨hlen, out.toList, c2, vals_of_ints hi, hob⟩) (by rw [g2]; exact I2.bare) (fun _ z => nomatch z)
    have e : s2 = { s1 with heap := s2.heap, gens := s2.gens, drawn := s2.drawn, toks := s2.toks } := by
      obtain ⟨x1, x2, x3, x4, x5⟩ := s2
      exact congrArg _ (show x5 = s1.os from o2)
    rw [e]
    exact ⟨.ref p2, _, J, rfl, q1 p2 ms hpw (fun z => (hmm z).trans decide_eq_true_iff) hn⟩⟩
end
section
open Evl
variable {C : Cfg} {M : List Addr} {δ : List Ent} {μ μ1 : Mem} {ta : TE} {e : Ent}
theorem x_STli {ns ms : List Int} (h : EvX C ta M δ μ μ1 e) (r : Rdd μ1 e (.list (ns.map .int))) (hl : ns.length < 64) (h1 : ms.Pairwise (· < ·)) (h2 : ∀ k, k ∈ ms ↔ k ∈ ns) : EvX C (tSTli C.K ta) M δ μ μ1 (.d (.list (ms.map .int))) := fun σ H o Q kk => h σ H o _ fun v H1 o1 x1 r1 => by
  obtain ⟨a, vs, e1, e2, e3⟩ := r.lst o1 r1
  refine ⟨a, ns, e1, by rw [← DpAll.ints e3]; exact e2, hl, fun p ms' k1 k2 hp => ?_⟩
  have e : ms' = ms := by
    have n1 : ms'.Nodup := k1.imp fun q z => by omega
    have n2 : ms.Nodup := h1.imp fun q z => by omega
    refine asc_one (le := fun a b => decide (a ≤ b)) (fun a b z1 z2 => Int.le_antisymm (of_decide_eq_true z1) (of_decide_eq_true z2)) (k1.imp fun q => decide_eq_true (Int.le_of_lt q)) (h1.imp fun q => decide_eq_true (Int.le_of_lt q)) ((List.perm_ext_iff_of_nodup n1 n2).mpr fun k => (k2 k).trans (h2 k).symm)
  rw [e]
  obtain ⟨o', x', d'⟩ := o1.lst hp (DpAll.of_ints (K := C.K) (H := hide M H1) ms)
  exact kk _ _ o' (x1.trans x') d'
end
end FD
namespace FD
open PySem L2 Evl
section
variable {C : Cfg} {M : List Addr} {δ : List Ent} {μ μ1 : Mem} {te td ty : TE} {k : Str} {d : PyData} {l : Dct}
/-- {..}[k]: the new dict is not kept -/
theorem x_dgetN (hx : EvN C td M δ μ μ1 (.dK (kd l))) (hk : ∀ p, p ∉ M → EvX C ty (p :: M) δ ((p, .dK (kd l)) :: μ1) ((p, .dK (kd l)) :: μ1) (.d (.str k))) (hv : valD l k = some d) : EvX C (tDGet td ty) M δ μ μ1 (.d d) := fun σ H o Q kk =>
  hx σ H o _ fun p H1 pM o1 x1 => hk p pM σ H1 o1 _ fun y H2 o2 x2 r2 => by
    have e2 : y = .str k := Dp.str_of r2
    obtain ⟨ws, rd, dc⟩ := dct_rd (o2.mem _ List.mem_cons_self).2.2 (l := l) (.inl rfl)
    obtain ⟨v, e3, e4⟩ := dc_val dc hv
    have o6 : Ok C (p :: M) δ μ1 σ H2 := o2.mems (fun q hq => List.mem_cons_of_mem _ hq) (List.nodup_cons.mp o2.nd).2
    have pn : p ∉ ad μ1 := (List.nodup_cons.mp o2.nd).1
    have o7 : Ok C M δ μ1 σ H2 := o6.drop (fun a ha => List.mem_cons_of_mem _ ha) (fun q hq => ((List.mem_cons.mp (o6.mem q hq).1).resolve_left fun z => pn (by rw [← z]; exact List.mem_map_of_mem hq))) o.sub
    have back : Ex (hide (p :: M) H2) (hide M H2) := hide_sub fun a ha => List.mem_cons_of_mem _ ha
    exact ⟨p, v, rfl, .inl ⟨ws, .inr k, rd, e2, e3.symm⟩, kk v H2 o7 ((x1.trans x2).trans back) (dp_mono back _ _ e4)⟩
theorem shp_strs (n : Nat) {l : List Str} (h : ∀ x ∈ l, tok x) : Shp (n + 1) (.tuple (l.map .str)) := shp_tuple fun d hd => by
  obtain ⟨x, hx, rfl⟩ := List.mem_map.mp hd
  exact shp_str n (h x hx)
theorem eqv_strs (a b : List Str) : PyData.eqv (.tuple (a.map .str)) (.tuple (b.map .str)) = decide (a = b) := by
  have h := eqv_keys (a.map .inr) (b.map .inr)
  rw [List.map_map, List.map_map] at h
  have e : PyData.eqv (.tuple (a.map .str)) (.tuple (b.map .str)) = PyData.eqvAll (a.map .str) (b.map .str) := by simp [PyData.eqv]
  rw [e]
  refine (show _ = _ from h).trans ?_
  by_cases q : a = b
  · subst q; simp
  · rw [decide_eq_false q, decide_eq_false]
    intro z
    exact q ((List.map_inj_right fun x y w => Sum.inr.inj w).mp z)
end
end FD
namespace K09
open PySem L2 FD Evl
abbrev Row := List Str
abbrev RT := CK.Tab Stg Row
def rowD (r : Row) : PyData := .tuple (r.map .str)
def TokR (r : Row) : Prop := ∀ x ∈ r, tok x
theorem sh_row {r : Row} (h : TokR r) : SeqAt.shaped (rowD r) = true := (shp_strs 0 h).shaped (by decide)
/-! ### tables with stages as keys -/
def encT {α : Type} (f : α → PyData) (T : CK.Tab Stg α) : GTab := T.map fun p => (stK p.1, gD (f p.2))
theorem encT_keys {α : Type} (f : α → PyData) (T : CK.Tab Stg α) : (encT f T).map (·.1) = (T.map (·.1)).map stK := by
  unfold encT
  rw [List.map_map, List.map_map]; rfl
theorem encT_len {α : Type} (f : α → PyData) (T : CK.Tab Stg α) : (encT f T).length = T.length := List.length_map _
theorem valG_enc {α : Type} (f : α → PyData) (T : CK.Tab Stg α) (s : Stg) : valG (encT f T) (stK s) = (CK.val T s).map fun v => gD (f v) := by
  induction T with
  | nil => rfl
  | cons p T ih =>
    show valG ((stK p.1, gD (f p.2)) :: encT f T) (stK s) = _
    rw [valG_cons, CK.val_cons]
    by_cases e : p.1 = s
    · rw [if_pos (congrArg stK e), if_pos e]; rfl
    · rw [if_neg fun z => e (stK_inj z), if_neg e]; exact ih
theorem isSome_enc {α : Type} (f : α → PyData) (T : CK.Tab Stg α) (s : Stg) : (valG (encT f T) (stK s)).isSome = CK.has T s := by
  rw [valG_enc, Option.isSome_map]; rfl
theorem enc_put {α : Type} (f : α → PyData) (T : CK.Tab Stg α) (s : Stg) (v : α) : putG (encT f T) (stK s) (gD (f v)) = encT f (CK.put T s v) := by
  unfold putG CK.put
  rw [isSome_enc]
  by_cases h : CK.has T s = true
  · rw [if_pos h, if_pos h]
    unfold encT
    rw [List.map_map, List.map_map]
    refine List.map_congr_left fun p _ => ?_
    show (if stK p.1 = stK s then (stK p.1, gD (f v)) else (stK p.1, gD (f p.2))) = (stK (if p.1 = s then (p.1, v) else p).1, gD (f (if p.1 = s then (p.1, v) else p).2))
    by_cases e : p.1 = s
    · rw [if_pos (congrArg stK e), if_pos e]
    · rw [if_neg fun z => e (stK_inj z), if_neg e]
  · rw [if_neg h, if_neg h]
    unfold encT
    rw [List.map_append]; rfl
/-- such a dict that nothing changes for now -/
def IsTab {α : Type} (f : α → PyData) (mo : MO) (T : CK.Tab Stg α) : Prop := mo = .dT (encT f T) ∨ ∃ od ws, mo = .fT od ws (encT f T)
theorem IsTab.td {α : Type} {f : α → PyData} {mo : MO} {T : CK.Tab Stg α} (h : IsTab f mo T) {a : Addr} {μ : Mem} (hm : (a, mo) ∈ μ) : TD μ (.m a) (encT f T) := by
  rcases h with h | ⟨od, ws, h⟩
  · subst h; exact .m hm
  · subst h; exact .f hm
/-! ### within, greedily -/
def adv (u v : Row) : Nat → Nat
  | 0 => 0
  | i + 1 => if adv u v i < u.length ∧ u[adv u v i]? = v[i]? then adv u v i + 1 else adv u v i
theorem adv_le (u v : Row) : ∀ i, adv u v i ≤ u.length
  | 0 => Nat.zero_le _
  | i + 1 => by
    have := adv_le u v i
    unfold adv
    split
    · omega
    · exact this
theorem adv_lei (u v : Row) : ∀ i, adv u v i ≤ i
  | 0 => Nat.zero_le _
  | i + 1 => by
    have := adv_lei u v i
    unfold adv
    split <;> omega
def pls (u v : Row) : Nat → List Int
  | 0 => []
  | i + 1 => if adv u v i < u.length ∧ u[adv u v i]? = v[i]? then pls u v i ++ [(i : Int)] else pls u v i
theorem adv_s (u v : Row) (i : Nat) : adv u v (i + 1) = if adv u v i < u.length ∧ u[adv u v i]? = v[i]? then adv u v i + 1 else adv u v i := rfl
theorem pls_s (u v : Row) (i : Nat) : pls u v (i + 1) = if adv u v i < u.length ∧ u[adv u v i]? = v[i]? then pls u v i ++ [(i : Int)] else pls u v i := rfl
theorem pls_len (u v : Row) : ∀ i, (pls u v i).length = adv u v i
  | 0 => rfl
  | i + 1 => by
    have := pls_len u v i
    rw [adv_s, pls_s]
    by_cases h : adv u v i < u.length ∧ u[adv u v i]? = v[i]?
    · rw [if_pos h, if_pos h, List.length_append, this]; rfl
    · rw [if_neg h, if_neg h, this]
theorem dlt (a b : Nat) : decide ((a : Int) < b) = decide (a < b) := decide_eq_decide.mpr (by omega)
theorem deq (a b : Nat) : ((a : Int) == b) = decide (a = b) := by
  by_cases h : a = b
  · subst h; simp
  · rw [decide_eq_false h]; simp; omega
def inB (u v : Row) : Bool := decide (adv u v v.length = u.length)
theorem inB_nil (v : Row) : inB [] v = true := by
  have := adv_le [] v v.length
  exact decide_eq_true (by simpa using this)
def Rff (ds : List PyData) (d : PyData) : Prop := ∃ u v : Row, ds = [rowD u, rowD v] ∧ TokR u ∧ TokR v ∧ v.length ≤ 90000 ∧ d = if inB u v = true then .tuple ((pls u v v.length).map .int) else .none
def Rwi (ds : List PyData) (d : PyData) : Prop := ∃ u v : Row, ds = [rowD u, rowD v] ∧ TokR u ∧ TokR v ∧ v.length ≤ 90000 ∧ d = .bool (inB u v)
section
variable {P : Program} {w : World} {K : PySem.W.Frag} {mg : Str → Option Value} {base : Heap} {Cb : Addr}
abbrev nFf : List Str := ["u", "v", "places", "at", "deed"]
theorem scFf : FnScope nFf ["u", "v"] (defScope sFf) := ⟨rfl, rfl, rfl, by decide +kernel, rfl, by decide +kernel, by decide +kernel⟩
theorem ok_ff {f : Addr} {fd : FuncData} (T : Txt K mg Cb) (F : Fun K "first_fit" "first_fit" sFf f fd) : FnOk P w K mg base CX0 1 f fd ["u", "v"] (spR K 2 Rff) := by
  refine def_R F scFf (by decide) fun cdv A outer s H E hr => ?_
  have nd := scFf.nd
  refine ⟨_, (pss_cons (ps_set (i := 2) nd rfl (Or.inl rfl) (pe_lst pa_nil))
 (pss_cons (ps_for PassesOwn.never rfl (pi_enumT (by rfl) T.enumerate (pa_cons (pv 1) pa_nil)) (pg_tup rfl (pgs_cons (pg_name (i := 3) nd rfl (Or.inl rfl)) (pgs_cons (pg_name (i := 4) nd rfl (Or.inl rfl)) pgs_nil))) (pss_one (ps_if (PW.pt (pw_and (pt_cmpR op_lt (pe_callB call_len_seq (by rfl) T.len PySem.boot_len (pa_cons (pv 2) pa_nil)) (pe_callB call_len_seq (by rfl) T.len PySem.boot_len (pa_cons (pv 0) pa_nil)) (nomark _)) (pw_and1 (pt_cmpR (op_eqD hr.units) (pe_ix ix_tup (pv 0) (pe_callB call_len_seq (by rfl) T.len PySem.boot_len (pa_cons (pv 2) pa_nil)) (fun _ _ => rfl)) (pv 4) (nomark _))))) (pss_one (ps_expr (pe_bm PySem.F.plainAttrs_list PySem.F.slot_list_append PySem.F.type_list_append mt_append (pv 2) (pa_cons (pv 3) pa_nil)))) pss_nil)))
 (pss_one (ps_ret (pe_ifExp (pt_cmpR (op_eqD hr.units) (pe_callB call_len_seq (by rfl) T.len PySem.boot_len (pa_cons (pv 2) pa_nil)) (pe_callB call_len_seq (by rfl) T.len PySem.boot_len (pa_cons (pv 0) pa_nil)) (nomark _)) (pe_callTy call_tuple_of (by rfl) T.tuple (by decide +kernel) (pa_cons (pv 2) pa_nil)) pe_non))))), ?_⟩
  rintro M G B ds d _ ⟨u, v, rfl, tu, tv, hv, rfl⟩ D fin
  have si : ∀ i : Int, SeqAt.shaped (.int i) = true := fun i => (shp_int 0 i).shaped (by decide)
  show FD.Run _ _ D M [.d (rowD u), .d (rowD v), .u, .u, .u] []
  refine q_new (ds := []) a_nil (by simp) fun p pM => ?_
  show FD.Run _ _ D (p :: M) [.d (rowD u), .d (rowD v), .m p, .u, .u] [(p, .lst [])]
  refine q_for (i_enumT (xs := v.map .str) (a_cons (x_vd rfl) a_nil)) (fun i δ1 μ1 => ∃ e3 e4 : Ent, δ1 = [.d (rowD u), .d (rowD v), .m p, e3, e4] ∧ μ1 = [(p, .lst ((pls u v i).map .int))]) ⟨_, _, rfl, rfl⟩ ?_ ?_
  · rintro B2 - i d1 δ1 μ1 hx ⟨e3, e4, rfl, rfl⟩
    have hi : i < v.length := by
      have := (List.getElem?_eq_some_iff.mp hx).1
      rwa [enumD_length, List.length_map] at this
    have hvi := List.getElem?_eq_getElem hi
    rw [enumD_get (x := .str v[i]) (by rw [List.getElem?_map, hvi]; rfl)] at hx
    cases hx
    refine ⟨[3, 4], _, tg_tup2, ?_⟩
    show FD.Run _ _ _ _ [.d (rowD u), .d (rowD v), .m p, .d (.int (i : Int)), .d (.str v[i])] _
    have hl := pls_len u v i
    have a1 := adv_le u v i
    have a2 := adv_lei u v i
    have L : ∀ G' B' M', EvX ⟨K, M', G', B'⟩ (tCB (FD.rLenS K) (tCons (tVar 2) tNil)) (p :: M) [.d (rowD u), .d (rowD v), .m p, .d (.int (i : Int)), .d (.str v[i])] [(p, .lst ((pls u v i).map .int))] [(p, .lst ((pls u v i).map .int))] (.d (.int (adv u v i : Nat))) := fun G' B' M' =>
      x_is (x_cbP (a_cons (x_vm rfl) a_nil) (c_lenL (.m (j := 0) rfl))) (by rw [List.length_map, hl])
    refine r_if (t_is (t_and (b := decide (adv u v i < u.length)) (c := decide (u[adv u v i]? = v[i]?)) (t_test (x_is (x_op (L _ _ _) (x_cbP (a_cons (x_vd rfl) a_nil) c_lenT) o_B0) ?_)) (fun hb => ?_) (fun _ => rfl)) (by rw [Bool.decide_and] : _ = decide (adv u v i < u.length ∧ u[adv u v i]? = v[i]?))) (fun hb => ?_) (fun hb => ?_)
    · rw [List.length_map, dlt]
    · have hb : adv u v i < u.length := of_decide_eq_true hb
      have hu := List.getElem?_eq_getElem hb
      refine t_test (x_is (x_op (x_op (x_vd rfl) (L _ _ _) (o_ixT (d := .str u[adv u v i]) (atI_nat (by rw [List.getElem?_map, hu]; rfl)))) (x_vd rfl) (o_eqD (.d _) (.d _) (sh_str (tu _ (List.getElem_mem hb))) (sh_str (tv _ (List.getElem_mem hi))))) ?_)
      rw [eqv_str, hu, hvi]
      congr 2
      by_cases q : u[adv u v i] = v[i]
      · rw [q]; simp
      · rw [decide_eq_false (fun z => q (Option.some.inj z))]; simpa using q
    · have hb := of_decide_eq_true hb
      refine r_app (j := 0) (x_vm rfl) (x_vd rfl) rfl rfl (by rw [List.length_map]; omega) (fun σ H o => ⟨_, _, ⟨_, _, rfl, ?_⟩, o⟩)
      show [(p, MO.lst ((pls u v i).map .int ++ [.int (i : Int)]))] = _
      rw [show pls u v (i + 1) = pls u v i ++ [(i : Int)] by rw [pls_s, if_pos hb], List.map_append]; rfl
    · have hb := of_decide_eq_false hb
      refine r_next (fun σ H o => ⟨_, _, ⟨_, _, rfl, ?_⟩, o⟩)
      rw [show pls u v (i + 1) = pls u v i by rw [pls_s, if_neg hb]]
  · rintro δ1 μ1 ⟨e3, e4, rfl, rfl⟩
    rw [enumD_length, List.length_map]
    have hl := pls_len u v v.length
    refine r_retP (x_if2 (t_test (x_is (x_op (x_cbP (a_cons (x_vm rfl) a_nil) (c_lenL (.m (j := 0) rfl))) (x_cbP (a_cons (x_vd rfl) a_nil) c_lenT) (o_eqD (.d _) (.d _) (si _) (si _))) ?_)) (x_cbP (a_cons (x_vm rfl) a_nil) (c_tupleL (.m (j := 0) rfl))) x_non) fin
    rw [eqv_int, List.length_map, List.length_map, hl]
    rw [deq]; rfl
abbrev nWi : List Str := ["u", "v"]
theorem scWi : FnScope nWi ["u", "v"] (defScope sWi) := ⟨rfl, rfl, rfl, by decide +kernel, rfl, by decide +kernel, by decide +kernel⟩
theorem ok_wi {f : Addr} {fd : FuncData} (T : Txt K mg Cb) (F : Fun K "within" "within" sWi f fd) {f1 : Addr} {fd1 : FuncData} (H1 : Has K mg "first_fit" sFf ["u", "v"] f1 fd1) : FnOk P w K mg base CX0 2 f fd ["u", "v"] (spR K 2 Rwi) := by
  have G1 : FnOk P w K mg base CX0 1 f1 fd1 ["u", "v"] (spR K 2 Rff) := ok_ff T H1.F
  refine def_R F scWi (by decide) fun cdv A outer s H E hr => ?_
  have nd := scWi.nd
  refine ⟨_, (pss_one (ps_ret (pe_cmpR op_notN (pe_call G1 hr rfl H1.m H1.F.kp H1.b .nil pass0 (pa_cons (pv 0) (pa_cons (pv 1) pa_nil))) pe_non (nomark _)))), ?_⟩
  rintro M G B ds d _ ⟨u, v, rfl, tu, tv, hv, rfl⟩ D fin
  show FD.Run _ _ D M [.d (rowD u), .d (rowD v)] []
  refine r_retP (x_is (x_op (x_callR (ds := [rowD u, rowD v]) (a_cons (x_vd rfl) (a_cons (x_vd rfl) a_nil)) ⟨u, v, rfl, tu, tv, hv, rfl⟩) x_non o_notN) ?_) fin
  by_cases h : inB u v = true
  · rw [h]; rfl
  · rw [if_neg h, Bool.eq_false_iff.mpr h]; rfl
abbrev nLi : List Str := ["_law_u", "_law_v", "_law_at", "_law_deed"]
theorem scLi : FnScope nLi ["_law_u", "_law_v"] (defScope sLi) := ⟨rfl, rfl, rfl, by decide +kernel, rfl, by decide +kernel, by decide +kernel⟩
theorem ok_li {f : Addr} {fd : FuncData} (T : Txt K mg Cb) (F : Fun K "_law_in" "_law_in" sLi f fd) : FnOk P w K mg base CX0 1 f fd ["_law_u", "_law_v"] (spR K 2 Rwi) := by
  refine def_R F scLi (by decide) fun cdv A outer s H E hr => ?_
  have nd := scLi.nd
  refine ⟨_, (pss_cons (ps_set (i := 2) nd rfl (Or.inl rfl) pe_int)
 (pss_cons (ps_for PassesOwn.never rfl (pi_tup (pv 1)) (pg_name (i := 3) nd rfl (Or.inl rfl)) (pss_one (ps_if (PW.pt (pw_and (pt_cmpR op_lt (pv 2) (pe_callB call_len_seq (by rfl) T.len PySem.boot_len (pa_cons (pv 0) pa_nil)) (nomark _)) (pw_and1 (pt_cmpR (op_eqD hr.units) (pe_ix ix_tup (pv 0) (pv 2) (fun _ _ => rfl)) (pv 3) (nomark _))))) (pss_one (ps_set (i := 2) nd rfl (Or.inl rfl) (pe_op op_add (pv 2) pe_int))) pss_nil)))
 (pss_one (ps_ret (pe_cmpR (op_eqD hr.units) (pv 2) (pe_callB call_len_seq (by rfl) T.len PySem.boot_len (pa_cons (pv 0) pa_nil)) (nomark _)))))), ?_⟩
  rintro M G B ds d _ ⟨u, v, rfl, tu, tv, hv, rfl⟩ D fin
  have si : ∀ i : Int, SeqAt.shaped (.int i) = true := fun i => (shp_int 0 i).shaped (by decide)
  show FD.Run _ _ D M [.d (rowD u), .d (rowD v), .u, .u] []
  refine q_asg x_int ?_
  refine q_forA (l := v) (enc := PyData.str) (i_tup (x_vd rfl)) (fun i δ1 μ1 => ∃ e3 : Ent, δ1 = [.d (rowD u), .d (rowD v), .d (.int (adv u v i : Nat)), e3] ∧ μ1 = []) ⟨_, rfl, rfl⟩ ?_ ?_
  · rintro B2 - i x δ1 μ1 hvi ⟨e3, rfl, rfl⟩
    refine ⟨[3], _, tg_name, ?_⟩
    show FD.Run _ _ _ _ [.d (rowD u), .d (rowD v), .d (.int (adv u v i : Nat)), .d (.str x)] _
    refine r_if (t_is (t_and (b := decide (adv u v i < u.length)) (c := decide (u[adv u v i]? = v[i]?)) (t_test (x_is (x_op (x_vd rfl) (x_cbP (a_cons (x_vd rfl) a_nil) c_lenT) o_B0) ?_)) (fun hb => ?_) (fun _ => rfl)) (by rw [Bool.decide_and] : _ = decide (adv u v i < u.length ∧ u[adv u v i]? = v[i]?))) (fun hb => ?_) (fun hb => ?_)
    · rw [List.length_map, dlt]
    · have hb : adv u v i < u.length := of_decide_eq_true hb
      have hu := List.getElem?_eq_getElem hb
      refine t_test (x_is (x_op (x_op (x_vd rfl) (x_vd rfl) (o_ixT (d := .str u[adv u v i]) (atI_nat (by rw [List.getElem?_map, hu]; rfl)))) (x_vd rfl) (o_eqD (.d _) (.d _) (sh_str (tu _ (List.getElem_mem hb))) (sh_str (tv _ (List.mem_of_getElem? hvi))))) ?_)
      rw [eqv_str, hu, hvi]
      congr 2
      by_cases q : u[adv u v i] = x
      · rw [q]; simp
      · rw [decide_eq_false (fun z => q (Option.some.inj z))]; simpa using q
    · have hb := of_decide_eq_true hb
      refine r_asg (x_op (x_vd rfl) x_int o_I0) (fun σ H o => ⟨_, _, ⟨.d (.str x), ?_, rfl⟩, o⟩)
      rw [show adv u v (i + 1) = adv u v i + 1 by rw [adv_s, if_pos hb]]
      rfl
    · have hb := of_decide_eq_false hb
      refine r_next (fun σ H o => ⟨_, _, ⟨.d (.str x), ?_, rfl⟩, o⟩)
      rw [show adv u v (i + 1) = adv u v i by rw [adv_s, if_neg hb]]
  · rintro δ1 μ1 ⟨e3, rfl, rfl⟩
    refine r_retP (x_is (x_op (x_vd rfl) (x_cbP (a_cons (x_vd rfl) a_nil) c_lenT) (o_eqD (.d _) (.d _) (si _) (si _))) ?_) fin
    rw [eqv_int, List.length_map]
    rw [deq]; rfl
end
end K09
namespace FD
open PySem L2 Evl
section
variable {α : Type} {C : Cfg} {M : List Addr} {δ : List Ent} {μ μ' : Mem} {te : TE} {wi : TI} {g : TG} {vs : List Nat} {enc : α → PyData} {l : List α}
/-- [.. for v in ..], what is walked must stay as it is -/
theorem x_lcAN {N : Hp → Prop} {f : α → PyData} (hi : EvIN C wi M δ μ μ' N (l.map enc)) (hN : ∀ (B : Hp) (D : Addr) (σ : L2.St) (H : Hp), Ok { C with B := B } (D :: M) δ μ' σ H → N H) (hz : l.length ≤ 100000) {ts : List Nat} (dl : α → List Ent) (htg : ∀ a ∈ l, TgX C.K g ts (enc a) (wipeE δ vs) (dl a)) (hts : ∀ k ∈ ts, k ∈ vs)
    (he : ∀ a ∈ l, ∀ (G B : Hp) (D : Addr), EvX { C with G := G, B := B } te (D :: M) (dl a) μ' μ' (.d (f a))) :
    EvX C (tLc wi g tYes te vs) M δ μ μ' (.d (.list (l.map f))) := by
  cases l with
  | nil =>
    have h := x_lcN (t := tYes) (g := g) (te := te) (vs := vs) (fun _ => μ') (fun _ => true) (fun _ => PyData.none) hi (fun i B D σ H _ o => hN B D σ H o) (Nat.zero_le _) fun i d hd => by simp at hd
    exact h
  | cons a0 r =>
    generalize hl : a0 :: r = l at *
    have e : (l.map enc).length = l.length := List.length_map _
    have gt : ∀ {i : Nat} {d : PyData}, (l.map enc)[i]? = some d → d = enc (l.getD i a0) ∧ l.getD i a0 ∈ l := fun {i d} hd => by
      rw [List.getElem?_map] at hd
      cases q : l[i]? with
      | none => rw [q] at hd; cases hd
      | some a =>
        rw [q] at hd
        have : l.getD i a0 = a := by rw [List.getD_eq_getElem?_getD, q]; rfl
        exact ⟨by rw [this]; exact (Option.some.inj hd).symm, by rw [this]; exact List.mem_of_getElem? q⟩
    have h := x_lcN (t := tYes) (g := g) (te := te) (vs := vs) (fun _ => μ') (fun _ => true) (fun i => f (l.getD i a0)) hi (fun i B D σ H _ o => hN B D σ H o) (by rw [e]; exact hz) fun i d hd G B D => by
      obtain ⟨e1, hm⟩ := gt hd
      exact ⟨ts, dl (l.getD i a0), μ', by rw [e1]; exact htg _ hm, hts, t_yes, fun q => he _ hm G B D, fun _ => rfl⟩
    rw [e, lcD_all] at h
    rw [show l.map f = (List.range l.length).map fun i => f (l.getD i a0) from ?_]
    · exact h
    · refine List.ext_getElem? fun i => ?_
      rw [List.getElem?_map, List.getElem?_map]
      by_cases hi : i < l.length
      · rw [List.getElem?_range hi, List.getElem?_eq_getElem hi]
        simp [List.getD_eq_getElem?_getD, List.getElem?_eq_getElem hi]
      · rw [List.getElem?_eq_none (by omega), List.getElem?_eq_none (by simp; omega)]; rfl
end
end FD
namespace K09
open PySem L2 FD Evl
theorem kpi_tup {X : Cx} {K : PySem.W.Frag} {e : Expr} {te : TE} {tg : Expr} (h : X.K = K) (he : PE X e te) : PI X tg e (iTup K te) := h ▸ pi_tup he
abbrev Deal := CK.Tab Str Str
structure DealOk (deal : Deal) : Prop where
  nd : (deal.map (·.1)).Nodup
  few : deal.length ≤ 12
  t1 : ∀ p ∈ deal, tok p.1
  t2 : ∀ p ∈ deal, tok p.2
def dlD (deal : Deal) : Dct := deal.map fun p => (p.1, PyData.str p.2)
theorem dlD_keys (deal : Deal) : (dlD deal).map (·.1) = deal.map (·.1) := by
  unfold dlD
  rw [List.map_map]; rfl
theorem dlD_vals (deal : Deal) : (dlD deal).map (·.2) = (deal.map (·.2)).map .str := by
  unfold dlD
  rw [List.map_map, List.map_map]; rfl
theorem valD_dl (deal : Deal) (d : Str) : valD (dlD deal) d = (CK.val deal d).map .str := by
  induction deal with
  | nil => rfl
  | cons p T ih =>
    show valD ((p.1, PyData.str p.2) :: dlD T) d = _
    rw [valD_cons, CK.val_cons]
    by_cases e : p.1 = d
    · rw [if_pos e, if_pos e]; rfl
    · rw [if_neg e, if_neg e]; exact ih
theorem deal_val {deal : Deal} (ok : DealOk deal) {d : Str} (h : d ∈ deal.map (·.1)) : ∃ k, CK.val deal d = some k ∧ k ∈ deal.map (·.2) := by
  obtain ⟨p, hp, rfl⟩ := List.mem_map.mp h
  exact ⟨p.2, CK.val_of_mem ok.nd p hp, List.mem_map.mpr ⟨p, hp, rfl⟩⟩
structure RowOk (deal : Deal) (r : Row) : Prop where
  deeds : ∀ d ∈ r, d ∈ deal.map (·.1)
  few : r.length ≤ 90000
theorem RowOk.tok {deal : Deal} {r : Row} (h : RowOk deal r) (ok : DealOk deal) : TokR r := fun d hd => by
  obtain ⟨p, hp, rfl⟩ := List.mem_map.mp (h.deeds d hd)
  exact ok.t1 p hp
theorem row_nil (deal : Deal) : RowOk deal [] := ⟨fun d hd => absurd hd (by simp), by simp⟩
def part (deal : Deal) (k : Str) (r : Row) : Row := r.filter fun d => decide (CK.val deal d = some k)
theorem part_tok {deal : Deal} {r : Row} (h : TokR r) (k : Str) : TokR (part deal k r) := fun d hd => h d (List.mem_filter.mp hd).1
theorem part_len (deal : Deal) (k : Str) (r : Row) : (part deal k r).length ≤ r.length := List.length_filter_le _ _
def byB (deal : Deal) (u v : Row) : Bool := (deal.map (·.2)).all fun k => inB (part deal k u) (part deal k v)
def desks (deal : Deal) : List Str := setT (deal.map (·.2))
theorem desks_all (deal : Deal) (p : Str → Bool) : (desks deal).all p = (deal.map (·.2)).all p := by
  rw [Bool.eq_iff_iff, List.all_eq_true, List.all_eq_true]
  exact ⟨fun h x hx => h x (setT_mem.mpr hx), fun h x hx => h x (setT_mem.mp hx)⟩
theorem byB_nil (deal : Deal) (v : Row) : byB deal [] v = true := by
  unfold byB
  rw [List.all_eq_true]
  exact fun k _ => inB_nil _
def gDl (deal : Deal) : GP := gFD ((dlD deal).map FD.prD)
def Rnd (es : List Ent) (μ : Mem) (d : PyData) (μ' : Mem) : Prop := ∃ (deal : Deal) (r : Row), es = [.g (gDl deal), .d (rowD r)] ∧ μ = [] ∧ μ' = [] ∧ DealOk deal ∧ RowOk deal r ∧ d = .none
def partsL (deal : Deal) (r : Row) : List PyData := (desks deal).map fun k => PyData.tuple [.str k, rowD (part deal k r)]
def Rpa (es : List Ent) (μ : Mem) (d : PyData) (μ' : Mem) : Prop := ∃ (deal : Deal) (r : Row), es = [.g (gDl deal), .d (rowD r)] ∧ μ = [] ∧ μ' = [] ∧ DealOk deal ∧ RowOk deal r ∧ d = .tuple (partsL deal r)
def Rwb (es : List Ent) (μ : Mem) (d : PyData) (μ' : Mem) : Prop := ∃ (deal : Deal) (u v : Row), es = [.g (gDl deal), .d (rowD u), .d (rowD v)] ∧ μ = [] ∧ μ' = [] ∧ DealOk deal ∧ RowOk deal u ∧ RowOk deal v ∧ d = .bool (byB deal u v)
def Rpt (es : List Ent) (μ : Mem) (d : PyData) (μ' : Mem) : Prop := ∃ (deal : Deal) (a : Addr) (mo : MO) (k : Str) (r : Row), es = [.m a, .d (.str k), .d (rowD r)] ∧ μ = [(a, mo)] ∧ μ' = μ ∧ IsDct mo (dlD deal) ∧ DealOk deal ∧ RowOk deal r ∧ tok k ∧ d = rowD (part deal k r)
def Rby (es : List Ent) (μ : Mem) (d : PyData) (μ' : Mem) : Prop := ∃ (deal : Deal) (a : Addr) (u v : Row), es = [.m a, .d (rowD u), .d (rowD v)] ∧ μ = [(a, .dK (kd (dlD deal)))] ∧ μ' = μ ∧ DealOk deal ∧ RowOk deal u ∧ RowOk deal v ∧ d = .bool (byB deal u v)
theorem dl_keys_nd {deal : Deal} (ok : DealOk deal) : ((dlD deal).map (·.1)).Nodup := by rw [dlD_keys]; exact ok.nd
theorem dl_val {deal : Deal} (ok : DealOk deal) {r : Row} (h : RowOk deal r) {d : Str} (hd : d ∈ r) : ∃ k, CK.val deal d = some k ∧ valD (dlD deal) d = some (.str k) ∧ tok k := by
  obtain ⟨k, h1, h2⟩ := deal_val ok (h.deeds d hd)
  refine ⟨k, h1, by rw [valD_dl, h1]; rfl, ?_⟩
  obtain ⟨p, hp, rfl⟩ := List.mem_map.mp h2
  exact ok.t2 p hp
theorem val_cond (o : Option Str) (k x : Str) (h : o = some x) : (x == k) = decide (o = some k) := by
  subst h
  by_cases e : x = k
  · subst e; simp
  · rw [decide_eq_false fun z => e (Option.some.inj z)]; simpa using e
section
variable {P : Program} {w : World} {K : PySem.W.Frag} {mg : Str → Option Value} {base : Heap} {Cb : Addr}
abbrev nNd : List Str := ["dealing", "row", "known", "at", "deed"]
theorem scNd : FnScope nNd ["dealing", "row"] (defScope sNd) := ⟨rfl, rfl, rfl, by decide +kernel, rfl, by decide +kernel, by decide +kernel⟩
theorem ok_nd {f : Addr} {fd : FuncData} (T : Txt K mg Cb) (F : Fun K "need_dealt" "need_dealt" sNd f fd) : FnOk P w K mg base CX0 1 f fd ["dealing", "row"] (spE K 2 Rnd) := by
  refine def_En F scNd (by decide) rfl fun cdv A outer s H E hr => ?_
  have nd := scNd.nd
  refine ⟨_, (pss_cons (ps_set (i := 2) nd rfl (Or.inl rfl) (pe_callTy (call_dictTu rfl) (by rfl) T.dict (by decide +kernel) (pa_cons (pv 0) pa_nil)))
 (pss_one (ps_for PassesOwn.never rfl (pi_enumT (by rfl) T.enumerate (pa_cons (pv 1) pa_nil)) (pg_tup rfl (pgs_cons (pg_name (i := 3) nd rfl (Or.inl rfl)) (pgs_cons (pg_name (i := 4) nd rfl (Or.inl rfl)) pgs_nil))) (pss_one (ps_if (pt_cmp (pc_dnotin (hu_of hr) (pv 4) (pv 2))) (pss_one ps_no) pss_nil))))), ?_⟩
  rintro M G B es μ d μ' ⟨deal, r, rfl, rfl, rfl, ok, ro, rfl⟩ D hn fin
  show FD.Run _ _ D M [.g (gDl deal), .d (rowD r), .u, .u, .u] []
  refine q_asgNw (n_dictTu (l := dlD deal) (a_cons (x_vg (φ := gDl deal) rfl) a_nil) (dl_keys_nd ok)) fun p pM => ?_
  show FD.Run _ _ D (p :: M) [.g (gDl deal), .d (rowD r), .m p, .u, .u] [(p, .dK (kd (dlD deal)))]
  refine r_for (i_enumT (xs := r.map .str) (a_cons (x_vd rfl) a_nil)) (fun i δ1 μ1 => ∃ e3 e4 : Ent, δ1 = [.g (gDl deal), .d (rowD r), .m p, e3, e4] ∧ μ1 = [(p, .dK (kd (dlD deal)))]) ⟨_, _, rfl, rfl⟩ ?_ ?_
  · rintro B2 - i d1 δ1 μ1 hx ⟨e3, e4, rfl, rfl⟩
    have hi : i < r.length := by
      have := (List.getElem?_eq_some_iff.mp hx).1
      rwa [enumD_length, List.length_map] at this
    have hvi := List.getElem?_eq_getElem hi
    rw [enumD_get (x := .str r[i]) (by rw [List.getElem?_map, hvi]; rfl)] at hx
    cases hx
    refine ⟨[3, 4], _, tg_tup2, ?_⟩
    show FD.Run _ _ _ _ [.g (gDl deal), .d (rowD r), .m p, .d (.int (i : Int)), .d (.str r[i])] _
    refine r_no (t_test (x_is (x_notinK (x_vd rfl) (x_vm rfl) List.mem_cons_self (.inl rfl)) ?_)) (fun σ H o => ⟨_, _, ⟨_, _, rfl, rfl⟩, o⟩)
    rw [dlD_keys, decide_eq_true (ro.deeds _ (List.getElem_mem hi))]; rfl
  · rintro δ1 μ1 ⟨e3, e4, rfl, rfl⟩
    exact nx_endE hn fin (fun q hq => absurd hq (by simp))
abbrev nPa : List Str := ["dealing", "row", "known", "desks", "desk", "deed"]
theorem scPa : FnScope nPa ["dealing", "row"] (defScope sPa) := ⟨rfl, rfl, rfl, by decide +kernel, rfl, by decide +kernel, by decide +kernel⟩
def scPaIn : Scope := { kind := .function, names := [(".0", .local), ("desk", .cell), ("tuple", .globalImplicit), ("known", .free), ("row", .free)], isGenerator := false, isCoroutine := false }
theorem ok_pa {f : Addr} {fd : FuncData} (T : Txt K mg Cb) (F : Fun K "parts" "parts" sPa f fd) {f1 : Addr} {fd1 : FuncData} (H1 : Has K mg "need_dealt" sNd ["dealing", "row"] f1 fd1) : FnOk P w K mg base CX0 2 f fd ["dealing", "row"] (spE K 2 Rpa) := by
  have G1 : FnOk P w K mg base CX0 1 f1 fd1 ["dealing", "row"] (spE K 2 Rnd) := ok_nd T H1.F
  refine def_E F scPa (by decide) rfl fun cdv A outer s H E hr => ?_
  have nd := scPa.nd
  refine ⟨_, (pss_cons (ps_expr (pe_call G1 hr rfl H1.m H1.F.kp H1.b .nil pass0 (pa_cons (pv 0) (pa_cons (pv 1) pa_nil))))
 (pss_cons (ps_set (i := 2) nd rfl (Or.inr rfl) (pe_callTy (call_dictTu rfl) (by rfl) T.dict (by decide +kernel) (pa_cons (pv 0) pa_nil)))
 (pss_cons (ps_set (i := 3) nd rfl (Or.inl rfl) (pe_ssetL rfl (by rfl) T.sorted (by rfl) T.set (pe_listVals rfl (by rfl) T.list (pv 2))))
 (pss_one (ps_ret (pe_callTy call_tuple_of (by rfl) T.tuple (by decide +kernel) (pa_cons (pe_lc (own := [("desk", 4)]) (g := (gName 4)) (tt := tYes) rfl nd (pi_list (pv 3)) (blkOk_by (N := nPa) (sc := defScope sPa) (by decide +kernel)) (fun _ _ _ _ _ => (pg_name (i := 4) nd rfl (Or.inr rfl))) (fun _ _ _ _ _ => pts_nil) (fun _ _ _ _ _ => (pe_tup (pa_cons (pv 4) (pa_cons (pe_callTy (ktuple (K := K) rfl) (by rfl) T.tuple (by decide +kernel) (pa_cons (pe_lc (own := [("deed", 5)]) (g := (gName 5)) rfl nd (kpi_tup (K := K) rfl (pv 1)) (blkOk_by (N := nPa) (sc := relS scPaIn (defScope sPa)) (by decide +kernel)) (fun _ _ _ _ _ => (pg_name (i := 5) nd rfl (Or.inl rfl))) (fun _ _ _ _ _ => (pts_one (pt_cmpR (kop_eqD (K := K) rfl hr.units) (pe_dget (hu_of hr) (pv 2) (pv 5) (fun _ _ => rfl)) (pv 4) (nomark _)))) (fun _ _ _ _ _ => (pv 5))) pa_nil)) pa_nil))))) pa_nil))))))), ?_⟩
  rintro M G B es μ d μ' ⟨deal, r, rfl, rfl, rfl, ok, ro, rfl⟩ D fin
  show FD.Run _ _ D M [.g (gDl deal), .d (rowD r), .u, .u, .u, .u] []
  refine q_drop (x_callE0 (a_cons (x_vg rfl) (a_cons (x_vd rfl) a_nil)) ⟨deal, r, rfl, rfl, rfl, ok, ro, rfl⟩) ?_
  refine q_asgNw (n_dictTu (l := dlD deal) (a_cons (x_vg (φ := gDl deal) rfl) a_nil) (dl_keys_nd ok)) fun p pM => ?_
  show FD.Run _ _ D (p :: M) [.g (gDl deal), .d (rowD r), .m p, .u, .u, .u] [(p, .dK (kd (dlD deal)))]
  have few := ok.few
  refine q_asg (x_ssetL (zs := deal.map (·.2)) (x_is (x_listVals (x_vm rfl) List.mem_cons_self (.inl rfl)) (by rw [dlD_vals])) (.d _) (by rw [List.length_map]; omega)) ?_
  show FD.Run _ _ D (p :: M) [.g (gDl deal), .d (rowD r), .m p, .d (.list ((desks deal).map .str)), .u, .u] [(p, .dK (kd (dlD deal)))]
  have ld : (desks deal).length ≤ 12 := by
    have := setT_len (deal.map (·.2))
    rw [List.length_map] at this
    exact Nat.le_trans this few
  have rt := ro.tok ok
  refine r_retE (x_cbP (a_cons (x_lcA (l := desks deal) (enc := PyData.str) (f := fun k => PyData.tuple [.str k, rowD (part deal k r)]) (i_list (x_vd rfl)) (by omega) (ts := [4]) (fun k => [.g (gDl deal), .d (rowD r), .m p, .d (.list ((desks deal).map .str)), .d (.str k), .u]) (fun k _ => tg_name) (fun k hk => hk) fun k hk G' B' D' => ?_) a_nil) (c_tupleL (.d _))) (fun q hq => absurd hq (by simp)) fin
  have tk : tok k := by
    obtain ⟨q, hq, rfl⟩ := List.mem_map.mp (setT_mem.mp hk)
    exact ok.t2 q hq
  refine x_tup (ds := [.str k, rowD (part deal k r)]) (a_cons (x_vd rfl) (a_cons (x_cbP (a_cons (x_lcF (l := r) (enc := PyData.str) (p := fun d => decide (CK.val deal d = some k)) (f := PyData.str) (i_tup (x_vd rfl)) (by have := ro.few; omega) (ts := [5]) (fun d => [.g (gDl deal), .d (rowD r), .m p, .d (.list ((desks deal).map .str)), .d (.str k), .d (.str d)]) (fun d _ => tg_name) (fun k hk => hk) (fun d hd G2 B2 D2 => ?_) fun d hd _ G2 B2 D2 => x_vd rfl) a_nil) (c_tupleL (.d _))) a_nil)) (by simp)
  obtain ⟨x, h1, h2, h3⟩ := dl_val ok ro hd
  refine t_test (x_is (x_op (x_dget (x_vm rfl) (x_vd rfl) List.mem_cons_self (.inl rfl) h2) (x_vd rfl) (o_eqD (.d _) (.d _) (sh_str h3) (sh_str tk))) ?_)
  rw [eqv_str, val_cond _ k x h1]
abbrev nWb : List Str := ["dealing", "u", "v", "pairs", "one", "other"]
theorem scWb : FnScope nWb ["dealing", "u", "v"] (defScope sWb) := ⟨rfl, rfl, rfl, by decide +kernel, rfl, by decide +kernel, by decide +kernel⟩
theorem zip_parts (deal : Deal) (u v : Row) : ∀ l : List Str, zipD (l.map fun k => PyData.tuple [.str k, rowD (part deal k u)]) (l.map fun k => PyData.tuple [.str k, rowD (part deal k v)]) = l.map fun k => PyData.tuple [.tuple [.str k, rowD (part deal k u)], .tuple [.str k, rowD (part deal k v)]]
  | [] => rfl
  | k :: l => congrArg (_ :: ·) (zip_parts deal u v l)
theorem ok_wb {f : Addr} {fd : FuncData} (T : Txt K mg Cb) (F : Fun K "within_by" "within_by" sWb f fd) {f1 f2 f3 f4 : Addr} {fd1 fd2 fd3 fd4 : FuncData} (H1 : Has K mg "parts" sPa ["dealing", "row"] f1 fd1) (H2 : Has K mg "within" sWi ["u", "v"] f2 fd2) (H3 : Has K mg "need_dealt" sNd ["dealing", "row"] f3 fd3) (H4 : Has K mg "first_fit" sFf ["u", "v"] f4 fd4) : FnOk P w K mg base CX0 3 f fd ["dealing", "u", "v"] (spE K 3 Rwb) := by
  have G1 : FnOk P w K mg base CX0 2 f1 fd1 ["dealing", "row"] (spE K 2 Rpa) := ok_pa T H1.F H3
  have G2 : FnOk P w K mg base CX0 2 f2 fd2 ["u", "v"] (spR K 2 Rwi) := ok_wi T H2.F H4
  refine def_E F scWb (by decide) rfl fun cdv A outer s H E hr => ?_
  have nd := scWb.nd
  refine ⟨_, (pss_cons (ps_set (i := 3) nd rfl (Or.inl rfl) (pe_listZip rfl (by rfl) T.list (by rfl) T.zip (pa_cons (pe_call G1 hr rfl H1.m H1.F.kp H1.b .nil pass0 (pa_cons (pv 0) (pa_cons (pv 1) pa_nil))) (pa_cons (pe_call G1 hr rfl H1.m H1.F.kp H1.b .nil pass0 (pa_cons (pv 0) (pa_cons (pv 2) pa_nil))) pa_nil))))
 (pss_one (ps_ret (pe_callB (cr_all rfl) (by rfl) T.all (by decide +kernel) (pa_cons (pe_lc (own := [("one", 4), ("other", 5)]) (g := (gTup K 2 (gCons (gName 4) (gCons (gName 5) gNil)))) (tt := tYes) rfl nd (pi_list (pv 3)) (blkOk_by (N := nWb) (sc := defScope sWb) (by decide +kernel)) (fun _ _ _ _ _ => (pg_tup rfl (pgs_cons (pg_name (i := 4) nd rfl (Or.inl rfl)) (pgs_cons (pg_name (i := 5) nd rfl (Or.inl rfl)) pgs_nil)))) (fun _ _ _ _ _ => pts_nil) (fun _ _ _ _ _ => (pe_call G2 hr rfl H2.m H2.F.kp H2.b .nil pass0 (pa_cons (pe_ix (kix_tup (K := K) rfl) (pv 4) pe_int (fun _ _ => rfl)) (pa_cons (pe_ix (kix_tup (K := K) rfl) (pv 5) pe_int (fun _ _ => rfl)) pa_nil))))) pa_nil))))), ?_⟩
  rintro M G B es μ d μ' ⟨deal, u, v, rfl, rfl, rfl, ok, ru, rv, rfl⟩ D fin
  show FD.Run _ _ D M [.g (gDl deal), .d (rowD u), .d (rowD v), .u, .u, .u] []
  have few := ok.few
  have ld : (desks deal).length ≤ 12 := by
    have := setT_len (deal.map (·.2))
    rw [List.length_map] at this
    exact Nat.le_trans this few
  refine q_asg (x_is (x_listZip (a_cons (x_callE0 (a_cons (x_vg rfl) (a_cons (x_vd rfl) a_nil)) ⟨deal, u, rfl, rfl, rfl, ok, ru, rfl⟩) (a_cons (x_callE0 (a_cons (x_vg rfl) (a_cons (x_vd rfl) a_nil)) ⟨deal, v, rfl, rfl, rfl, ok, rv, rfl⟩) a_nil)) (by unfold partsL; rw [List.length_map]; omega)) (by unfold partsL; rw [zip_parts])) ?_
  generalize hL : (desks deal).map (fun k => PyData.tuple [.tuple [.str k, rowD (part deal k u)], .tuple [.str k, rowD (part deal k v)]]) = L
  show FD.Run _ _ D M [.g (gDl deal), .d (rowD u), .d (rowD v), .d (.list L), .u, .u] []
  refine r_retE (x_is (x_cbP (a_cons (x_lcA (l := desks deal) (enc := fun k => PyData.tuple [.tuple [.str k, rowD (part deal k u)], .tuple [.str k, rowD (part deal k v)]]) (f := fun k => PyData.bool (inB (part deal k u) (part deal k v))) (i_list (x_is (x_vd rfl) (by rw [hL]))) (by omega) (ts := [4, 5]) (fun k => [.g (gDl deal), .d (rowD u), .d (rowD v), .d (.list L), .d (.tuple [.str k, rowD (part deal k u)]), .d (.tuple [.str k, rowD (part deal k v)])]) (fun k _ => tg_tup2) (fun k hk => hk) fun k hk G' B' D' => ?_) a_nil) (c_all (bs := (desks deal).map fun k => inB (part deal k u) (part deal k v)) (by rw [List.map_map]; exact .d _))) ?_) (fun q hq => absurd hq (by simp)) fin
  · have := part_len deal k v
    have := rv.few
    exact x_callR (ds := [rowD (part deal k u), rowD (part deal k v)]) (a_cons (x_op (x_vd rfl) x_int (o_ixT rfl)) (a_cons (x_op (x_vd rfl) x_int (o_ixT rfl)) a_nil)) ⟨_, _, rfl, part_tok (ru.tok ok) k, part_tok (rv.tok ok) k, by omega, rfl⟩
  · rw [List.all_map]
    unfold byB
    rw [← desks_all]; rfl
abbrev nPt : List Str := ["_law_deal", "_law_desk", "_law_row", "_law_deed"]
theorem scPt : FnScope nPt ["_law_deal", "_law_desk", "_law_row"] (defScope sPt) := ⟨rfl, rfl, rfl, by decide +kernel, rfl, by decide +kernel, by decide +kernel⟩
theorem ok_pt {f : Addr} {fd : FuncData} (T : Txt K mg Cb) (F : Fun K "_law_part" "_law_part" sPt f fd) : FnOk P w K mg base CX0 1 f fd ["_law_deal", "_law_desk", "_law_row"] (spE K 3 Rpt) := by
  refine def_E F scPt (by decide) rfl fun cdv A outer s H E hr => ?_
  have nd := scPt.nd
  refine ⟨_, (pss_one (ps_ret (pe_callTy call_tuple_of (by rfl) T.tuple (by decide +kernel) (pa_cons (pe_lc (own := [("_law_deed", 3)]) (g := (gName 3)) rfl nd (pi_tup (pv 2)) (blkOk_by (N := nPt) (sc := defScope sPt) (by decide +kernel)) (fun _ _ _ _ _ => (pg_name (i := 3) nd rfl (Or.inl rfl))) (fun _ _ _ _ _ => (pts_one (pt_cmpR (kop_eqD (K := K) rfl hr.units) (pe_dget (hu_of hr) (pv 0) (pv 3) (fun _ _ => rfl)) (pv 1) (nomark _)))) (fun _ _ _ _ _ => (pv 3))) pa_nil)))), ?_⟩
  rintro M G B es μ d μ' ⟨deal, a, mo, k, r, rfl, rfl, rfl, hmo, ok, ro, tk, rfl⟩ D fin
  show FD.Run _ _ D M [.m a, .d (.str k), .d (rowD r), .u] [(a, mo)]
  refine r_retE (x_cbP (a_cons (x_lcF (l := r) (enc := PyData.str) (p := fun d => decide (CK.val deal d = some k)) (f := PyData.str) (i_tup (x_vd rfl)) (by have := ro.few; omega) (ts := [3]) (fun d => [.m a, .d (.str k), .d (rowD r), .d (.str d)]) (fun d _ => tg_name) (fun k hk => hk) (fun d hd G2 B2 D2 => ?_) fun d hd _ G2 B2 D2 => x_vd rfl) a_nil) (c_tupleL (.d _))) (fun q hq => hq) fin
  obtain ⟨x, h1, h2, h3⟩ := dl_val ok ro hd
  refine t_test (x_is (x_op (x_dget (x_vm rfl) (x_vd rfl) List.mem_cons_self hmo h2) (x_vd rfl) (o_eqD (.d _) (.d _) (sh_str h3) (sh_str tk))) ?_)
  rw [eqv_str, val_cond _ k x h1]
abbrev nBy : List Str := ["_law_deal", "_law_u", "_law_v", "_law_desk"]
theorem scBy : FnScope nBy ["_law_deal", "_law_u", "_law_v"] (defScope sBy) := ⟨rfl, rfl, rfl, by decide +kernel, rfl, by decide +kernel, by decide +kernel⟩
theorem ok_by {f : Addr} {fd : FuncData} (T : Txt K mg Cb) (F : Fun K "_law_by" "_law_by" sBy f fd) {f1 f2 : Addr} {fd1 fd2 : FuncData} (H1 : Has K mg "_law_in" sLi ["_law_u", "_law_v"] f1 fd1) (H2 : Has K mg "_law_part" sPt ["_law_deal", "_law_desk", "_law_row"] f2 fd2) : FnOk P w K mg base CX0 2 f fd ["_law_deal", "_law_u", "_law_v"] (spE K 3 Rby) := by
  have G1 : FnOk P w K mg base CX0 1 f1 fd1 ["_law_u", "_law_v"] (spR K 2 Rwi) := ok_li T H1.F
  have G2 : FnOk P w K mg base CX0 1 f2 fd2 ["_law_deal", "_law_desk", "_law_row"] (spE K 3 Rpt) := ok_pt T H2.F
  refine def_E F scBy (by decide) rfl fun cdv A outer s H E hr => ?_
  have nd := scBy.nd
  refine ⟨_, (pss_one (ps_ret (pe_callB (cr_all rfl) (by rfl) T.all (by decide +kernel) (pa_cons (pe_lock (pe_lc (own := [("_law_desk", 3)]) (g := (gName 3)) (tt := tYes) rfl nd (pi_values (pv 0)) (blkOk_by (N := nBy) (sc := defScope sBy) (by decide +kernel)) (fun _ _ _ _ _ => (pg_name (i := 3) nd rfl (Or.inl rfl))) (fun _ _ _ _ _ => pts_nil) (fun _ _ _ _ _ => (pe_call G1 hr rfl H1.m H1.F.kp H1.b .nil pass0 (pa_cons (pe_call G2 hr rfl H2.m H2.F.kp H2.b .nil pass0 (pa_cons (pv 0) (pa_cons (pv 3) (pa_cons (pv 1) pa_nil)))) (pa_cons (pe_call G2 hr rfl H2.m H2.F.kp H2.b .nil pass0 (pa_cons (pv 0) (pa_cons (pv 3) (pa_cons (pv 2) pa_nil)))) pa_nil)))))) pa_nil)))), ?_⟩
  rintro M G B es μ d μ' ⟨deal, a, u, v, rfl, rfl, rfl, ok, ru, rv, rfl⟩ D fin
  show FD.Run _ _ D M [.m a, .d (rowD u), .d (rowD v), .u] [(a, .dK (kd (dlD deal)))]
  have few := ok.few
  refine r_retE (x_is (x_cbP (a_cons (x_lock (j := 0) (kvs := kd (dlD deal)) rfl fun od ws => x_lcAN (l := deal.map (·.2)) (enc := PyData.str) (f := fun k => PyData.bool (inB (part deal k u) (part deal k v))) (N := fun H => H a = some (.frz od (.dK ws))) (by rw [← dlD_vals]; exact i_vals (x_vm rfl) List.mem_cons_self) (fun B' D' σ H o => ok_frz List.mem_cons_self o) (by rw [List.length_map]; omega) (ts := [3]) (fun k => [.m a, .d (rowD u), .d (rowD v), .d (.str k)]) (fun k _ => tg_name) (fun k hk => hk) fun k hk G' B' D' => ?_) a_nil) (c_all (bs := (deal.map (·.2)).map fun k => inB (part deal k u) (part deal k v)) (by rw [List.map_map (g := PyData.bool)]; exact .d _))) ?_) (fun q hq => hq) fin
  · have tk : tok k := by
      obtain ⟨q, hq, rfl⟩ := List.mem_map.mp hk
      exact ok.t2 q hq
    have := part_len deal k v
    have := rv.few
    exact x_callR (ds := [rowD (part deal k u), rowD (part deal k v)]) (a_cons (x_callE1 (a_cons (x_vm rfl) (a_cons (x_vd rfl) (a_cons (x_vd rfl) a_nil))) List.mem_cons_self ⟨deal, a, _, k, u, rfl, rfl, rfl, .inr ⟨od, ws, rfl⟩, ok, ru, tk, rfl⟩) (a_cons (x_callE1 (a_cons (x_vm rfl) (a_cons (x_vd rfl) (a_cons (x_vd rfl) a_nil))) List.mem_cons_self ⟨deal, a, _, k, v, rfl, rfl, rfl, .inr ⟨od, ws, rfl⟩, ok, rv, tk, rfl⟩) a_nil)) ⟨_, _, rfl, part_tok (ru.tok ok) k, part_tok (rv.tok ok) k, by omega, rfl⟩
  · rw [List.all_map]; rfl
end
end K09
namespace FD
open PySem L2 Evl
section
variable {α : Type} {C : Cfg} {M : List Addr} {δ : List Ent} {μ μ' : Mem} {te : TE} {tt : TT} {wi : TI} {g : TG} {vs : List Nat} {enc : α → PyData} {l : List α}
theorem i_is {xs ys : List PyData} (h : EvI C wi M δ μ μ' xs) (q : xs = ys) : EvI C wi M δ μ μ' ys := q ▸ h
/-- [.. for .. in .. if ..], a new list of one's own -/
theorem n_lcF {p : α → Bool} {f : α → PyData} (hi : EvI C wi M δ μ μ' (l.map enc)) (hz : l.length ≤ 100000) {ts : List Nat} (dl : α → List Ent) (htg : ∀ a ∈ l, TgX C.K g ts (enc a) (wipeE δ vs) (dl a)) (hts : ∀ k ∈ ts, k ∈ vs)
    (ht : ∀ a ∈ l, ∀ (G B : Hp) (D : Addr), EvT { C with G := G, B := B } tt (D :: M) (dl a) μ' μ' (p a)) (he : ∀ a ∈ l, p a = true → ∀ (G B : Hp) (D : Addr), EvX { C with G := G, B := B } te (D :: M) (dl a) μ' μ' (.d (f a))) :
    EvN C (tLc wi g tt te vs) M δ μ μ' (.lst ((l.filter p).map f)) := by
  cases l with
  | nil =>
    have h := n_lcN (t := tt) (g := g) (te := te) (vs := vs) (fun _ => μ') (fun _ => true) (fun _ => PyData.none) hi.toN (fun _ _ _ _ _ _ _ => trivial) (Nat.zero_le _) fun i d hd => by simp at hd
    exact h
  | cons a0 r =>
    generalize hl : a0 :: r = l at hi hz htg ht he ⊢
    rw [← lcD_list p f a0 l]
    have e : (l.map enc).length = l.length := List.length_map ..
    rw [← e]
    have gt : ∀ {i : Nat} {d : PyData}, (l.map enc)[i]? = some d → d = enc (l.getD i a0) ∧ l.getD i a0 ∈ l := fun {i d} hd => by
      have hlt := (List.getElem?_eq_some_iff.mp hd).1
      rw [e] at hlt
      rw [List.getElem?_map, List.getElem?_eq_getElem hlt] at hd
      rw [List.getD_eq_getElem?_getD, List.getElem?_eq_getElem hlt]
      exact ⟨(Option.some.inj hd).symm, List.getElem_mem _⟩
    exact n_lcN (fun _ => μ') (fun i => p (l.getD i a0)) (fun i => f (l.getD i a0)) hi.toN (fun _ _ _ _ _ _ _ => trivial) (by rw [e]; exact hz) fun i d hd G B D => by
      obtain ⟨e1, hm⟩ := gt hd
      exact ⟨ts, dl (l.getD i a0), μ', by rw [e1]; exact htg _ hm, hts, ht _ hm G B D, fun q => he _ hm q G B D, fun _ => rfl⟩
end
end FD
namespace K09
open PySem L2 FD Evl
def own (st : Step) : Row := if st.call = true then [] else [st.nm]
def rowsOf (T : RT) (ps : List Stg) : Row := ps.flatMap fun p => (CK.val T p).getD []
def joinR (T : RT) (x : Str) (st : Step) : Option Row := if (partsOf x st).all (CK.has T) = true then some (own st ++ rowsOf T (partsOf x st)) else none
def joinD : Option Row → PyData
  | none => .none
  | some r => rowD r
structure TabOk (T : RT) : Prop where
  few : T.length < 64
  len : ∀ s r, CK.val T s = some r → r.length ≤ 20000
theorem parts_len2 (x : Str) (st : Step) : (partsOf x st).length ≤ 2 := by
  unfold partsOf
  split <;> simp
theorem rowsOf_len {T : RT} (ok : TabOk T) : ∀ ps : List Stg, (rowsOf T ps).length ≤ ps.length * 20000
  | [] => by simp [rowsOf]
  | p :: ps => by
    have ih := rowsOf_len ok ps
    have e : rowsOf T (p :: ps) = (CK.val T p).getD [] ++ rowsOf T ps := rfl
    rw [e, List.length_append, List.length_cons, Nat.succ_mul]
    cases h : CK.val T p with
    | none => simp; omega
    | some r => have := ok.len p r h; simp; omega
theorem rowsOf_snoc (T : RT) (ps : List Stg) (p : Stg) (r : Row) (h : CK.val T p = some r) : rowsOf T (ps ++ [p]) = rowsOf T ps ++ r := by
  unfold rowsOf
  rw [List.flatMap_append]
  simp [h]
theorem wh_do : wh false = "do" := rfl
theorem own_len (st : Step) : (own st).length ≤ 1 := by
  unfold own
  split <;> simp
def offD (q : Step × Nat) : PyData := .tuple [.int (q.2 : Int), stepD q.1]
def usedL (cs : List Crs) : List Str := setT (cs.flatMap fun c => (c.steps.filter fun s => !s.call).map (·.nm))
def Rbn (es : List Ent) (μ : Mem) (mo : MO) (μ' : Mem) : Prop := ∃ cs : List Crs, es = [.d (bokD cs)] ∧ μ = [] ∧ μ' = [] ∧ (cs.map (·.nm)).Nodup ∧ cs.length ≤ 8 ∧ mo = .dK (kd (byN cs))
def Rng (ds : List PyData) (d : PyData) : Prop := ∃ (s : Stg) (st : Step), ds = [stD s, stepD st] ∧ d = .list ((partsOf s.1 st).map stD)
def Rof (es : List Ent) (μ : Mem) (d : PyData) (μ' : Mem) : Prop := ∃ (cs : List Crs) (s : Stg), es = [.d (bokD cs), .d (stD s)] ∧ μ = [] ∧ μ' = [] ∧ BokOk cs ∧ s.1 ∈ cs.map (·.nm) ∧ d = .list ((exL (crs cs s.1) s.2).map offD)
def Rus (ds : List PyData) (d : PyData) : Prop := ∃ cs : List Crs, ds = [bokD cs] ∧ BokOk cs ∧ d = .list ((usedL cs).map .str)
def Rjo (es : List Ent) (μ : Mem) (d : PyData) (μ' : Mem) : Prop := ∃ (T : RT) (a : Addr) (s : Stg) (st : Step), es = [.m a, .d (stD s), .d (stepD st)] ∧ μ = [(a, .dT (encT rowD T))] ∧ μ' = μ ∧ TabOk T ∧ d = joinD (joinR T s.1 st)
def Rbr (Cb : Addr) (es : List Ent) (μ : Mem) (d : PyData) (μ' : Mem) : Prop := ∃ (cs : List Crs) (T : RT) (a : Addr) (s : Stg) (k : Nat) (st : Step), es = [.g (gBook Cb cs), .m a, .d (stD s), .d (.int (k : Int))] ∧ μ = [(a, .dT (encT rowD T))] ∧ μ' = μ ∧ BokOk cs ∧ s.1 ∈ cs.map (·.nm) ∧ (crs cs s.1).steps[k]? = some st ∧ TabOk T ∧ d = joinD (joinR T s.1 st)
section
variable {P : Program} {w : World} {K : PySem.W.Frag} {mg : Str → Option Value} {base : Heap} {Cb : Addr}
abbrev nBn : List Str := ["_law_courses", "_law_course_here"]
theorem scBn : FnScope nBn ["_law_courses"] (defScope sBn) := ⟨rfl, rfl, rfl, by decide +kernel, rfl, by decide +kernel, by decide +kernel⟩
theorem ok_bn {f : Addr} {fd : FuncData} (T : Txt K mg Cb) (F : Fun K "_law_by_name" "_law_by_name" sBn f fd) : FnOk P w K mg base CX0 1 f fd ["_law_courses"] (spEN K 1 Rbn) := by
  refine def_EN F scBn (by decide) rfl fun cdv A outer s H E hr => ?_
  have nd := scBn.nd
  refine ⟨_, (pss_one (ps_ret (pe_callTy (call_dictL rfl) (by rfl) T.dict (by decide +kernel) (pa_cons (pe_lc (own := [("_law_course_here", 1)]) (g := (gName 1)) (tt := tYes) rfl nd (pi_tup (pv 0)) (blkOk_by (N := nBn) (sc := defScope sBn) (by decide +kernel)) (fun _ _ _ _ _ => (pg_name (i := 1) nd rfl (Or.inl rfl))) (fun _ _ _ _ _ => pts_nil) (fun _ _ _ _ _ => (pe_tup (pa_cons (pe_ix (kix_tup (K := K) rfl) (pv 1) pe_int (fun _ _ => rfl)) (pa_cons (pv 1) pa_nil))))) pa_nil)))), ?_⟩
  rintro M G B es μ mo μ' ⟨cs, rfl, rfl, rfl, hn, hl, rfl⟩ D fin
  show FD.Run _ _ D M [.d (bokD cs), .u] []
  refine r_retNn (n_dictL (l := byN cs) (a_cons (x_lcA (l := cs) (enc := crsD) (f := fun c => FD.prD (c.nm, crsD c)) (i_tup (x_vd rfl)) (by omega) (ts := [1]) (fun c => [.d (bokD cs), .d (crsD c)]) (fun c _ => tg_name) (fun k hk => hk) fun c hc G' B' D' => ?_) a_nil) (by unfold byN; rw [List.map_map]; exact .d _) (by rw [byN_keys]; exact hn)) (fun q hq => hq) fin
  exact x_tup (ds := [.str c.nm, crsD c]) (a_cons (x_op (x_vd rfl) x_int (o_ixT rfl)) (a_cons (x_vd rfl) a_nil)) (by simp)
abbrev nNg : List Str := ["_law_stage", "_law_step"]
theorem scNg : FnScope nNg ["_law_stage", "_law_step"] (defScope sNg) := ⟨rfl, rfl, rfl, by decide +kernel, rfl, by decide +kernel, by decide +kernel⟩
theorem x_isDo {C : Cfg} {M : List Addr} {δ : List Ent} {μ : Mem} {i : Nat} {st : Step} (h : δ[i]? = some (.d (stepD st))) : EvX C (tOp (rEqD C.K) (tOp (rIxT C.K) (tVar i) (tC (.int 1))) (tC (.str "do"))) M δ μ μ (.d (.bool (!st.call))) :=
  x_is (x_op (x_op (x_vd h) x_int (o_ixT (d := .str (wh st.call)) rfl)) x_str (o_eqD (.d _) (.d _) (shp_wh _) (shp_wh false))) (by rw [eqv_str]; exact congrArg (fun b => Ent.d (.bool b)) (by cases st.call <;> decide))
theorem ok_ng {f : Addr} {fd : FuncData} (T : Txt K mg Cb) (F : Fun K "_law_named" "_law_named" sNg f fd) : FnOk P w K mg base CX0 1 f fd ["_law_stage", "_law_step"] (spR K 2 Rng) := by
  refine def_R F scNg (by decide) fun cdv A outer s H E hr => ?_
  have nd := scNg.nd
  refine ⟨_, (pss_one (ps_ret (pe_ifExp (pt_cmpR (op_eqD hr.units) (pe_ix ix_tup (pv 1) pe_int (fun _ _ => rfl)) pe_str (nomark _)) (pe_lst (pa_cons (pe_tup (pa_cons (pe_ix ix_tup (pv 0) pe_int (fun _ _ => rfl)) (pa_cons (pe_ix ix_tup (pv 1) pe_int (fun _ _ => rfl)) pa_nil))) pa_nil)) (pe_lst (pa_cons (pe_tup (pa_cons (pe_ix ix_tup (pv 1) pe_int (fun _ _ => rfl)) (pa_cons pe_int pa_nil))) (pa_cons (pe_tup (pa_cons (pe_ix ix_tup (pv 0) pe_int (fun _ _ => rfl)) (pa_cons (pe_ix ix_tup (pv 1) pe_int (fun _ _ => rfl)) pa_nil))) pa_nil)))))), ?_⟩
  rintro M G B ds d _ ⟨s, st, rfl, rfl⟩ D fin
  show FD.Run _ _ D M [.d (stD s), .d (stepD st)] []
  have xb : ∀ (G' B' : Hp), EvX ⟨K, M, G', B'⟩ (tTup (tCons (tOp (rIxT K) (tVar 0) (tC (.int 0))) (tCons (tOp (rIxT K) (tVar 1) (tC (.int 3))) tNil))) M [.d (stD s), .d (stepD st)] [] [] (.d (stD (s.1, st.e))) := fun G' B' =>
    x_tup (ds := [.str s.1, .int (st.e : Int)]) (a_cons (x_op (x_vd rfl) x_int (o_ixT (d := .str s.1) rfl)) (a_cons (x_op (x_vd rfl) x_int (o_ixT (d := .int (st.e : Int)) rfl)) a_nil)) (by simp)
  refine r_retP (x_is (x_if2 (t_test (x_isDo rfl)) (x_lst (ds := [stD (s.1, st.e)]) (a_cons (xb _ _) a_nil) (by simp)) (x_lst (ds := [stD (st.nm, 0), stD (s.1, st.e)]) (a_cons (x_tup (ds := [.str st.nm, .int 0]) (a_cons (x_op (x_vd rfl) x_int (o_ixT (d := .str st.nm) rfl)) (a_cons x_int a_nil)) (by simp)) (a_cons (xb _ _) a_nil)) (by simp))) ?_) fin
  unfold partsOf
  cases st.call <;> rfl
abbrev nOf : List Str := ["_law_courses", "_law_stage", "_law_steps", "_law_number"]
theorem scOf : FnScope nOf ["_law_courses", "_law_stage"] (defScope sOf) := ⟨rfl, rfl, rfl, by decide +kernel, rfl, by decide +kernel, by decide +kernel⟩
theorem rng_zip {α : Type} (l : List α) : rngD 0 l.length = l.zipIdx.map fun q => PyData.int (q.2 : Int) := by
  refine List.ext_getElem? fun i => ?_
  by_cases h : i < l.length
  · rw [rngD_get h, List.getElem?_map, List.getElem?_zipIdx, List.getElem?_eq_getElem h]
    simp
  · rw [List.getElem?_eq_none (by rw [rngD_length]; omega), List.getElem?_eq_none (by simp; omega)]
theorem zip_mem {α : Type} {l : List α} {q : α × Nat} (h : q ∈ l.zipIdx) : l[q.2]? = some q.1 := by
  obtain ⟨i, hi⟩ := List.getElem?_of_mem h
  obtain ⟨h1, rfl⟩ := zip_at hi
  exact h1
theorem ok_of {f : Addr} {fd : FuncData} (T : Txt K mg Cb) (F : Fun K "_law_off" "_law_off" sOf f fd) {f1 : Addr} {fd1 : FuncData} (H1 : Has K mg "_law_by_name" sBn ["_law_courses"] f1 fd1) : FnOk P w K mg base CX0 2 f fd ["_law_courses", "_law_stage"] (spE K 2 Rof) := by
  have G1 : FnOk P w K mg base CX0 1 f1 fd1 ["_law_courses"] (spEN K 1 Rbn) := ok_bn T H1.F
  refine def_E F scOf (by decide) rfl fun cdv A outer s H E hr => ?_
  have nd := scOf.nd
  refine ⟨_, (pss_cons (ps_set (i := 2) nd rfl (Or.inr rfl) (pe_ix ix_tup (pe_dget (hu_of hr) (pe_call G1 hr rfl H1.m H1.F.kp H1.b .nil pass0 (pa_cons (pv 0) pa_nil)) (pe_ix ix_tup (pv 1) pe_int (fun _ _ => rfl)) (fun _ _ => rfl)) pe_int (fun _ _ => rfl)))
 (pss_one (ps_ret (pe_lc (own := [("_law_number", 3)]) (g := (gName 3)) rfl nd (pi_range1 (by rfl) T.range (pa_cons (pe_callB call_len_seq (by rfl) T.len PySem.boot_len (pa_cons (pv 2) pa_nil)) pa_nil)) (blkOk_by (N := nOf) (sc := defScope sOf) (by decide +kernel)) (fun _ _ _ _ _ => (pg_name (i := 3) nd rfl (Or.inl rfl))) (fun _ _ _ _ _ => (pts_one (pt_cmpR (kop_eqD (K := K) rfl hr.units) (pe_ix (kix_tup (K := K) rfl) (pe_ix (kix_tup (K := K) rfl) (pv 2) (pv 3) (fun _ _ => rfl)) pe_int (fun _ _ => rfl)) (pe_ix (kix_tup (K := K) rfl) (pv 1) pe_int (fun _ _ => rfl)) (nomark _)))) (fun _ _ _ _ _ => (pe_tup (pa_cons (pv 3) (pa_cons (pe_ix (kix_tup (K := K) rfl) (pv 2) (pv 3) (fun _ _ => rfl)) pa_nil)))))))), ?_⟩
  rintro M G B es μ d μ' ⟨cs, s, rfl, rfl, rfl, ok, hs, rfl⟩ D fin
  have si : ∀ i : Int, SeqAt.shaped (.int i) = true := fun i => (shp_int 0 i).shaped (by decide)
  obtain ⟨cm, cn⟩ := crs_mem hs
  generalize hc : crs cs s.1 = c at cm cn fin
  have few := (ok.ok c cm).few
  show FD.Run _ _ D M [.d (bokD cs), .d (stD s), .u, .u] []
  refine q_asg (x_op (x_dgetN (l := byN cs) (n_callEN (a_cons (x_vd rfl) a_nil) (swap_nil _) (by simp) ⟨cs, rfl, rfl, rfl, ok.nd, ok.few, rfl⟩) (fun p pM => x_op (x_vd rfl) x_int (o_ixT (d := .str s.1) rfl)) (valD_crs ok.nd hs)) x_int (o_ixT (d := stepsD c.steps) (by rw [hc]; rfl))) ?_
  show FD.Run _ _ D M [.d (bokD cs), .d (stD s), .d (stepsD c.steps), .u] []
  refine r_retE (x_is (x_lcF (l := c.steps.zipIdx) (enc := fun q => PyData.int (q.2 : Int)) (p := fun q => decide (q.1.b = s.2)) (f := offD) (i_is (i_rng1 (a_cons (x_cbP (a_cons (x_vd rfl) a_nil) c_lenT) a_nil) (by omega) (by rw [List.length_map]; omega)) (by rw [Int.toNat_natCast, List.length_map, rng_zip])) (by rw [List.length_zipIdx]; omega) (ts := [3]) (fun q => [.d (bokD cs), .d (stD s), .d (stepsD c.steps), .d (.int (q.2 : Int))]) (fun q _ => tg_name) (fun k hk => hk) (fun q hq G2 B2 D2 => ?_) fun q hq _ G2 B2 D2 => ?_) (by rfl)) (fun q hq => hq) fin
  · have hz := zip_mem hq
    refine t_test (x_is (x_op (x_op (x_op (x_vd rfl) (x_vd rfl) (o_ixT (d := stepD q.1) (atI_nat (by rw [List.getElem?_map, hz]; rfl)))) x_int (o_ixT (d := .int (q.1.b : Int)) rfl)) (x_op (x_vd rfl) x_int (o_ixT (d := .int (s.2 : Int)) rfl)) (o_eqD (.d _) (.d _) (si _) (si _))) ?_)
    rw [eqv_int, deq]
  · have hz := zip_mem hq
    exact x_tup (ds := [.int (q.2 : Int), stepD q.1]) (a_cons (x_vd rfl) (a_cons (x_op (x_vd rfl) (x_vd rfl) (o_ixT (d := stepD q.1) (atI_nat (by rw [List.getElem?_map, hz]; rfl)))) a_nil)) (by simp)
abbrev nUs : List Str := ["_law_courses", "_law_found", "_law_course_here", "_law_step"]
theorem scUs : FnScope nUs ["_law_courses"] (defScope sUs) := ⟨rfl, rfl, rfl, by decide +kernel, rfl, by decide +kernel, by decide +kernel⟩
theorem ok_us {f : Addr} {fd : FuncData} (T : Txt K mg Cb) (F : Fun K "_law_used" "_law_used" sUs f fd) : FnOk P w K mg base CX0 1 f fd ["_law_courses"] (spR K 1 Rus) := by
  refine def_R F scUs (by decide) fun cdv A outer s H E hr => ?_
  have nd := scUs.nd
  refine ⟨_, (pss_cons (ps_set (i := 1) nd rfl (Or.inl rfl) (pe_lst pa_nil))
 (pss_cons (ps_for PassesOwn.never rfl (pi_tup (pv 0)) (pg_name (i := 2) nd rfl (Or.inl rfl)) (pss_one (ps_expr (pe_bm PySem.F.plainAttrs_list PySem.F.slot_list_extend PySem.F.type_list_extend mt_extend (pv 1) (pa_cons (pe_lc (own := [("_law_step", 3)]) (g := (gName 3)) rfl nd (pi_tup (pe_ix ix_tup (pv 2) pe_int (fun _ _ => rfl))) (blkOk_by (N := nUs) (sc := defScope sUs) (by decide +kernel)) (fun _ _ _ _ _ => (pg_name (i := 3) nd rfl (Or.inl rfl))) (fun _ _ _ _ _ => (pts_one (pt_cmpR (kop_eqD (K := K) rfl hr.units) (pe_ix (kix_tup (K := K) rfl) (pv 3) pe_int (fun _ _ => rfl)) pe_str (nomark _)))) (fun _ _ _ _ _ => (pe_ix (kix_tup (K := K) rfl) (pv 3) pe_int (fun _ _ => rfl)))) pa_nil)))))
 (pss_one (ps_ret (pe_ssetL rfl (by rfl) T.sorted (by rfl) T.set (pv 1)))))), ?_⟩
  rintro M G B ds d _ ⟨cs, rfl, ok, rfl⟩ D fin
  have few8 := ok.few
  show FD.Run _ _ D M [.d (bokD cs), .u, .u, .u] []
  refine q_new (ds := []) a_nil (by simp) fun p pM => ?_
  show FD.Run _ _ D (p :: M) [.d (bokD cs), .m p, .u, .u] [(p, .lst [])]
  let F : List Crs → List Str := fun l => l.flatMap fun c => (c.steps.filter fun s => !s.call).map (·.nm)
  have fl : ∀ l : List Crs, (∀ c ∈ l, c.steps.length < 64) → (F l).length ≤ l.length * 64 := by
    intro l
    induction l with
    | nil => intro _; simp [F]
    | cons c l ih =>
      intro h
      have h1 := h c List.mem_cons_self
      have h2 := ih fun x hx => h x (List.mem_cons_of_mem _ hx)
      have h3 : (c.steps.filter fun s => !s.call).length ≤ c.steps.length := List.length_filter_le _ _
      show ((c.steps.filter fun s => !s.call).map (·.nm) ++ F l).length ≤ _
      rw [List.length_append, List.length_map, List.length_cons, Nat.succ_mul]
      omega
  refine q_forA (l := cs) (enc := crsD) (i_tup (x_vd rfl)) (fun i δ1 μ1 => ∃ e2 e3 : Ent, δ1 = [.d (bokD cs), .m p, e2, e3] ∧ μ1 = [(p, .lst ((F (cs.take i)).map .str))]) ⟨_, _, rfl, rfl⟩ ?_ ?_
  · rintro B2 - i c δ1 μ1 hc ⟨e2, e3, rfl, rfl⟩
    refine ⟨[2], _, tg_name, ?_⟩
    show FD.Run _ _ _ _ [.d (bokD cs), .m p, .d (crsD c), e3] _
    have cm := List.mem_of_getElem? hc
    have few := (ok.ok c cm).few
    have hl : (F (cs.take i)).length ≤ 8 * 64 := by
      have := fl (cs.take i) fun x hx => (ok.ok x (List.mem_of_mem_take hx)).few
      have h8 : (cs.take i).length ≤ 8 := by rw [List.length_take]; omega
      exact Nat.le_trans this (Nat.mul_le_mul_right _ h8)
    refine r_ext (i := 0) (j := 0) (ds := (F (cs.take i)).map .str) (x_vm rfl) (n_lcF (l := c.steps) (enc := stepD) (p := fun st => !st.call) (f := fun st => PyData.str st.nm) (i_tup (x_op (x_vd rfl) x_int (o_ixT (d := stepsD c.steps) rfl))) (by omega) (ts := [3]) (fun st => [.d (bokD cs), .m p, .d (crsD c), .d (stepD st)]) (fun st _ => tg_name) (fun k hk => hk) (fun st _ G' B' D' => t_test (x_isDo (C := ⟨K, M, G', B'⟩) rfl)) fun st _ _ G' B' D' => x_op (x_vd rfl) x_int (o_ixT (d := .str st.nm) rfl)) rfl rfl ?_ fun σ H o => ⟨_, _, ⟨_, _, rfl, ?_⟩, o⟩
    · have h3 : (c.steps.filter fun s => !s.call).length ≤ c.steps.length := List.length_filter_le _ _
      rw [List.length_map, List.length_map]; omega
    · rw [List.take_add_one, hc]
      show [(p, MO.lst (_ ++ _))] = [(p, MO.lst ((F (cs.take i ++ [c])).map .str))]
      rw [show F (cs.take i ++ [c]) = F (cs.take i) ++ (c.steps.filter fun s => !s.call).map (·.nm) by show List.flatMap _ _ = _; rw [List.flatMap_append]; simp [F], List.map_append, List.map_map]
      rfl
  · rintro δ1 μ1 ⟨e2, e3, rfl, rfl⟩
    rw [List.take_length]
    have hl := fl cs fun x hx => (ok.ok x hx).few
    exact r_retP (x_ssetL (zs := F cs) (x_vm rfl) (.m (j := 0) rfl) (by omega)) fin
abbrev nJo : List Str := ["_law_rows", "_law_stage", "_law_step", "_law_found", "_law_goal"]
theorem scJo : FnScope nJo ["_law_rows", "_law_stage", "_law_step"] (defScope sJo) := ⟨rfl, rfl, rfl, by decide +kernel, rfl, by decide +kernel, by decide +kernel⟩
theorem x_own {C : Cfg} {M : List Addr} {δ : List Ent} {μ : Mem} {i : Nat} {st : Step} (h : δ[i]? = some (.d (stepD st))) : EvX C (tIf (tTest (tOp (rEqD C.K) (tOp (rIxT C.K) (tVar i) (tC (.int 1))) (tC (.str "do")))) (tTup (tCons (tOp (rIxT C.K) (tVar i) (tC (.int 2))) tNil)) (tTup tNil)) M δ μ μ (.d (rowD (own st))) :=
  x_is (x_if2 (t_test (x_isDo h)) (x_tup (ds := [.str st.nm]) (a_cons (x_op (x_vd h) x_int (o_ixT (d := .str st.nm) rfl)) a_nil) (by simp)) (x_tup (ds := []) a_nil (by simp))) (by unfold own; cases st.call <;> rfl)
theorem ok_jo {f : Addr} {fd : FuncData} (T : Txt K mg Cb) (F : Fun K "_law_joined" "_law_joined" sJo f fd) {f1 : Addr} {fd1 : FuncData} (H1 : Has K mg "_law_named" sNg ["_law_stage", "_law_step"] f1 fd1) : FnOk P w K mg base CX0 2 f fd ["_law_rows", "_law_stage", "_law_step"] (spE K 3 Rjo) := by
  have G1 : FnOk P w K mg base CX0 1 f1 fd1 ["_law_stage", "_law_step"] (spR K 2 Rng) := ok_ng T H1.F
  refine def_E F scJo (by decide) rfl fun cdv A outer s H E hr => ?_
  have nd := scJo.nd
  refine ⟨_, (pss_cons (ps_set (i := 3) nd rfl (Or.inl rfl) (pe_ifExp (pt_cmpR (op_eqD hr.units) (pe_ix ix_tup (pv 2) pe_int (fun _ _ => rfl)) pe_str (nomark _)) (pe_tup (pa_cons (pe_ix ix_tup (pv 2) pe_int (fun _ _ => rfl)) pa_nil)) (pe_tup pa_nil)))
 (pss_cons (ps_for PassesOwn.never rfl (pi_list (pe_call G1 hr rfl H1.m H1.F.kp H1.b .nil pass0 (pa_cons (pv 1) (pa_cons (pv 2) pa_nil)))) (pg_name (i := 4) nd rfl (Or.inl rfl)) (pss_cons (ps_if (pt_cmp (pc_dnotin (hu_of hr) (pv 4) (pv 0))) (pss_one (ps_ret pe_non)) pss_nil)
 (pss_one (ps_set (i := 3) nd rfl (Or.inl rfl) (pe_op op_catA (pv 3) (pe_dget (hu_of hr) (pv 0) (pv 4) (fun _ _ => rfl)))))))
 (pss_one (ps_ret (pv 3))))), ?_⟩
  rintro M G B es μ d μ' ⟨tb, a, s, st, rfl, rfl, rfl, tok, rfl⟩ D fin
  show FD.Run _ _ D M [.m a, .d (stD s), .d (stepD st), .u, .u] [(a, .dT (encT rowD tb))]
  refine q_asg (x_own rfl) ?_
  show FD.Run _ _ D M [.m a, .d (stD s), .d (stepD st), .d (rowD (own st)), .u] [(a, .dT (encT rowD tb))]
  have two := parts_len2 s.1 st
  have one := own_len st
  refine q_forA (l := partsOf s.1 st) (enc := stD) (i_list (x_callR (ds := [stD s, stepD st]) (a_cons (x_vd rfl) (a_cons (x_vd rfl) a_nil)) ⟨s, st, rfl, rfl⟩)) (fun i δ1 μ1 => ∃ e4 : Ent, δ1 = [.m a, .d (stD s), .d (stepD st), .d (rowD (own st ++ rowsOf tb ((partsOf s.1 st).take i))), e4] ∧ μ1 = [(a, .dT (encT rowD tb))] ∧ ((partsOf s.1 st).take i).all (CK.has tb) = true) ⟨.u, by simp [rowsOf], rfl, rfl⟩ ?_ ?_
  · rintro B2 - i p δ1 μ1 hp ⟨e4, rfl, rfl, hall⟩
    refine ⟨[4], _, tg_name, ?_⟩
    show FD.Run _ _ _ _ [.m a, .d (stD s), .d (stepD st), .d (rowD (own st ++ rowsOf tb ((partsOf s.1 st).take i))), .d (stD p)] _
    refine q_when (t_B (x_is (x_tnotin (x_vd rfl) (x_vm rfl) (.m List.mem_cons_self)) (by rw [isSome_enc]))) (fun hb => ?_) (fun hb => ?_)
    · have hb : CK.has tb p = false := by simpa using hb
      refine r_retE x_non (fun q hq => hq) ?_
      have : joinR tb s.1 st = none := by
        unfold joinR
        rw [if_neg]
        intro z
        have := List.all_eq_true.mp z p (List.mem_of_getElem? hp)
        rw [hb] at this; cases this
      rw [this] at fin
      exact fin
    · have hb : CK.has tb p = true := by simpa using hb
      obtain ⟨r, hr⟩ := CK.has_val hb
      have l1 := rowsOf_len tok ((partsOf s.1 st).take i)
      have l2 := tok.len p r hr
      have l3 : ((partsOf s.1 st).take i).length ≤ 2 := by rw [List.length_take]; omega
      have l4 : ((partsOf s.1 st).take i).length * 20000 ≤ 2 * 20000 := Nat.mul_le_mul_right _ l3
      refine r_asg (x_op (x_vd rfl) (x_tgetD (d := rowD r) (x_vm rfl) (x_vd rfl) (.m List.mem_cons_self) (by rw [valG_enc, hr]; rfl)) (o_catT (by simp; omega))) (fun σ H o => ⟨_, _, ⟨.d (stD p), ?_, rfl, ?_⟩, o⟩)
      · rw [List.take_add_one, hp]
        show [Ent.m a, .d (stD s), .d (stepD st), .d (.tuple (_ ++ _)), .d (stD p)] = [Ent.m a, .d (stD s), .d (stepD st), .d (rowD (own st ++ rowsOf tb ((partsOf s.1 st).take i ++ [p]))), .d (stD p)]
        rw [rowsOf_snoc _ _ _ _ hr, ← List.map_append, List.append_assoc]; rfl
      · rw [List.take_add_one, hp, List.all_append, hall]
        simpa using hb
  · rintro δ1 μ1 ⟨e4, rfl, rfl, hall⟩
    rw [List.take_length] at hall
    rw [List.take_length]
    refine r_retE (x_vd rfl) (fun q hq => hq) ?_
    have : joinR tb s.1 st = some (own st ++ rowsOf tb (partsOf s.1 st)) := by unfold joinR; rw [if_pos hall]
    rw [this] at fin
    exact fin
abbrev nBr : List Str := ["book", "rows", "stage", "number", "step", "named", "found", "goal"]
theorem scBr : FnScope nBr ["book", "rows", "stage", "number"] (defScope sBr) := ⟨rfl, rfl, rfl, by decide +kernel, rfl, by decide +kernel, by decide +kernel⟩
theorem ok_br {f : Addr} {fd : FuncData} (T : Txt K mg Cb) (F : Fun K "brought" "brought" sBr f fd) {f1 f2 : Addr} {fd1 fd2 : FuncData} (H1 : Has K mg "parts_of" sPo ["stage", "step"] f1 fd1) (M2 : HasM K Cb "steps" "Book.steps" sBs ["self", "course"] f2 fd2) : FnOk P w K mg base CX0 2 f fd ["book", "rows", "stage", "number"] (spE K 4 (Rbr Cb)) := by
  have G1 : FnOk P w K mg base CX0 1 f1 fd1 ["stage", "step"] (spR K 2 Rpo) := ok_po T H1.F
  have G2 : FnOk P w K mg base CX0 1 f2 fd2 ["self", "course"] (spE K 2 (Rbs Cb)) := ok_bs T M2.F
  refine def_E F scBr (by decide) rfl fun cdv A outer s H E hr => ?_
  have nd := scBr.nd
  refine ⟨_, (pss_cons (ps_set (i := 4) nd rfl (Or.inl rfl) (pe_ix ix_tup (pe_meth (pv 0) T.cl M2.m G2 hr M2.b .nil pass0 (pa_cons (pe_ix ix_tup (pv 2) pe_int (fun _ _ => rfl)) pa_nil)) (pv 3) (fun _ _ => rfl)))
 (pss_cons (ps_set (i := 5) nd rfl (Or.inl rfl) (pe_call G1 hr rfl H1.m H1.F.kp H1.b .nil pass0 (pa_cons (pv 2) (pa_cons (pv 4) pa_nil))))
 (pss_cons (ps_if (pt_not (pt_val (pe_callB (cr_all rfl) (by rfl) T.all (by decide +kernel) (pa_cons (pe_lc (own := [("goal", 7)]) (g := (gName 7)) (tt := tYes) rfl nd (pi_tup (pv 5)) (blkOk_by (N := nBr) (sc := defScope sBr) (by decide +kernel)) (fun _ _ _ _ _ => (pg_name (i := 7) nd rfl (Or.inl rfl))) (fun _ _ _ _ _ => pts_nil) (fun _ _ _ _ _ => (pe_cmp (pc_din (hu_of hr) (pv 7) (pv 1)) rfl))) pa_nil)))) (pss_one (ps_ret pe_non)) pss_nil)
 (pss_cons (ps_set (i := 6) nd rfl (Or.inl rfl) (pe_ifExp (pt_cmpR (op_eqD hr.units) (pe_ix ix_tup (pv 4) pe_int (fun _ _ => rfl)) pe_str (nomark _)) (pe_tup (pa_cons (pe_ix ix_tup (pv 4) pe_int (fun _ _ => rfl)) pa_nil)) (pe_tup pa_nil)))
 (pss_cons (ps_for PassesOwn.never rfl (pi_tup (pv 5)) (pg_name (i := 7) nd rfl (Or.inl rfl)) (pss_one (ps_set (i := 6) nd rfl (Or.inl rfl) (pe_op op_catA (pv 6) (pe_dget (hu_of hr) (pv 1) (pv 7) (fun _ _ => rfl))))))
 (pss_one (ps_ret (pv 6)))))))), ?_⟩
  rintro M G B es μ d μ' ⟨cs, tb, a, s, k, st, rfl, rfl, rfl, ok, hs, hk, tok, rfl⟩ D fin
  have fs := lk (gD (bokD cs)) (gDK (byN cs)) (gDT (leavT cs))
  show FD.Run _ _ D M [.g (gBook Cb cs), .m a, .d (stD s), .d (.int (k : Int)), .u, .u, .u, .u] [(a, .dT (encT rowD tb))]
  have two := parts_len2 s.1 st
  have one := own_len st
  refine q_asg (x_op (x_meth (x_vg rfl) (.g _ _) (noM _ _ _ (by decide +kernel) (by decide +kernel) (by decide +kernel)) (a_cons (x_op (x_vd rfl) x_int (o_ixT (d := .str s.1) rfl)) a_nil) (cX_E0 ⟨cs, s.1, rfl, rfl, rfl, ok, hs, rfl⟩)) (x_vd rfl) (o_ixT (d := stepD st) (atI_nat (by rw [List.getElem?_map, hk]; rfl)))) ?_
  refine q_asg (x_callR (ds := [stD s, stepD st]) (a_cons (x_vd rfl) (a_cons (x_vd rfl) a_nil)) ⟨s, st, rfl, rfl⟩) ?_
  generalize hps : partsOf s.1 st = ps at two fin
  show FD.Run _ _ D M [.g (gBook Cb cs), .m a, .d (stD s), .d (.int (k : Int)), .d (stepD st), .d (.tuple (ps.map stD)), .u, .u] [(a, .dT (encT rowD tb))]
  refine q_when (t_is (t_not (t_B (x_cbP (a_cons (x_lcA (l := ps) (enc := stD) (f := fun p => PyData.bool (CK.has tb p)) (i_tup (x_vd rfl)) (by omega) (ts := [7]) (fun p => [.g (gBook Cb cs), .m a, .d (stD s), .d (.int (k : Int)), .d (stepD st), .d (.tuple (ps.map stD)), .u, .d (stD p)]) (fun p _ => tg_name) (fun k hk => hk) fun p hp G' B' D' => x_is (x_tin (x_vd rfl) (x_vm rfl) (.m List.mem_cons_self)) (by rw [isSome_enc])) a_nil) (c_all (bs := ps.map (CK.has tb)) (by rw [List.map_map]; exact .d _))))) (by rw [List.all_map]; rfl : _ = !(ps.all (CK.has tb)))) (fun hb => ?_) (fun hb => ?_)
  · have hb : ps.all (CK.has tb) = false := by simpa using hb
    refine r_retE x_non (fun q hq => hq) ?_
    have : joinR tb s.1 st = none := by unfold joinR; rw [hps, hb]; rfl
    rw [this] at fin
    exact fin
  · have hb : ps.all (CK.has tb) = true := by simpa using hb
    refine q_asg (x_own rfl) ?_
    show FD.Run _ _ D M [.g (gBook Cb cs), .m a, .d (stD s), .d (.int (k : Int)), .d (stepD st), .d (.tuple (ps.map stD)), .d (rowD (own st)), .u] [(a, .dT (encT rowD tb))]
    refine q_forA (l := ps) (enc := stD) (i_tup (x_vd rfl)) (fun i δ1 μ1 => ∃ e7 : Ent, δ1 = [.g (gBook Cb cs), .m a, .d (stD s), .d (.int (k : Int)), .d (stepD st), .d (.tuple (ps.map stD)), .d (rowD (own st ++ rowsOf tb (ps.take i))), e7] ∧ μ1 = [(a, .dT (encT rowD tb))]) ⟨.u, by simp [rowsOf], rfl⟩ ?_ ?_
    · rintro B2 - i p δ1 μ1 hp ⟨e7, rfl, rfl⟩
      refine ⟨[7], _, tg_name, ?_⟩
      show FD.Run _ _ _ _ [.g (gBook Cb cs), .m a, .d (stD s), .d (.int (k : Int)), .d (stepD st), .d (.tuple (ps.map stD)), .d (rowD (own st ++ rowsOf tb (ps.take i))), .d (stD p)] _
      obtain ⟨r, hr⟩ := CK.has_val (List.all_eq_true.mp hb p (List.mem_of_getElem? hp))
      have l1 := rowsOf_len tok (ps.take i)
      have l2 := tok.len p r hr
      have l3 : (ps.take i).length ≤ 2 := by rw [List.length_take]; omega
      have l4 : (ps.take i).length * 20000 ≤ 2 * 20000 := Nat.mul_le_mul_right _ l3
      refine r_asg (x_op (x_vd rfl) (x_tgetD (d := rowD r) (x_vm rfl) (x_vd rfl) (.m List.mem_cons_self) (by rw [valG_enc, hr]; rfl)) (o_catT (by simp; omega))) (fun σ H o => ⟨_, _, ⟨.d (stD p), ?_, rfl⟩, o⟩)
      rw [List.take_add_one, hp]
      show [Ent.g (gBook Cb cs), .m a, .d (stD s), .d (.int (k : Int)), .d (stepD st), .d (.tuple (ps.map stD)), .d (.tuple (_ ++ _)), .d (stD p)] = [Ent.g (gBook Cb cs), .m a, .d (stD s), .d (.int (k : Int)), .d (stepD st), .d (.tuple (ps.map stD)), .d (rowD (own st ++ rowsOf tb (ps.take i ++ [p]))), .d (stD p)]
      rw [rowsOf_snoc _ _ _ _ hr, ← List.map_append, List.append_assoc]; rfl
    · rintro δ1 μ1 ⟨e7, rfl, rfl⟩
      rw [List.take_length]
      refine r_retE (x_vd rfl) (fun q hq => hq) ?_
      have : joinR tb s.1 st = some (own st ++ rowsOf tb ps) := by unfold joinR; rw [hps, if_pos hb]
      rw [this] at fin
      exact fin
end
end K09
namespace K09
open PySem L2 FD Evl
/-! ### sorted stages -/
theorem srt_keys (l : List Stg) : (srt l).map stK = (l.map stK).mergeSort leK := by
  unfold srt
  rw [List.map_mergeSort (s := leK)]
  intro a _ b _; rfl
section
variable {C : Cfg} {M : List Addr} {δ : List Ent} {μ : Mem} {e : Ent}
theorem c_srt {l : List Stg} (r : Rdd μ e (.list (l.map stD))) : CallX C (rSortedDat C.K) M δ μ μ [e] (.d (.list ((srt l).map stD))) := by
  have h := c_sortedDat (C := C) (M := M) (δ := δ) r (fun d hd d' hd' => by
    obtain ⟨s, _, rfl⟩ := List.mem_map.mp hd
    obtain ⟨s', _, rfl⟩ := List.mem_map.mp hd'
    exact alike_rows rfl) (.inl fun d hd => by
    obtain ⟨s, _, rfl⟩ := List.mem_map.mp hd
    exact ⟨_, _, rfl⟩) (fun d hd => by
    obtain ⟨s, _, rfl⟩ := List.mem_map.mp hd
    show (rowK (stK s)).depth ≤ 8
    rw [depth_row]; decide)
  have e1 : (l.map stD).mergeSort (PySem.W.dataLe false id) = (srt l).map stD := by
    unfold srt
    rw [List.map_mergeSort (s := PySem.W.dataLe false id)]
    intro a _ b _; rfl
  rw [e1] at h
  exact h
theorem c_srtT {T : RT} (ht : TD μ e (encT rowD T)) (hl : T.length < 64) : CallX C rSortedT M δ μ μ [e] (.d (.list ((srt (T.map (·.1))).map stD))) := by
  have h := c_sortedT (C := C) (M := M) (δ := δ) (m := (srt (T.map (·.1))).map stK) ht (by rw [encT_keys]; exact one_shape _) (by rw [encT_len]; exact hl) (fun L hp hs => by
    rw [srt_keys, ← encT_keys rowD]
    exact asc_is hs hp)
  rw [List.map_map] at h
  exact h
end
theorem srt_mem {l : List Stg} {s : Stg} : s ∈ srt l ↔ s ∈ l := (srt_perm l).mem_iff
theorem srt_congr {l m : List Stg} (p : l.Perm m) : srt l = srt m := by
  refine (List.map_inj_right (f := stK) fun a b h => stK_inj h).mp ?_
  rw [srt_keys, srt_keys]
  exact asc_is (leK_asc _) ((List.mergeSort_perm _ _).trans (p.map stK))
/-! ### the first stage and step that fails -/
def rowT (T : RT) (s : Stg) : Row := (CK.val T s).getD []
def bad (deal : Deal) (T : RT) (s : Stg) (q : Step × Nat) : Bool := match joinR T s.1 q.1 with
  | none => false
  | some r => !byB deal (rowT T s) r
def endBad (cs : List Crs) (T : RT) (s : Stg) : Bool := decide (s.2 ∈ (crs cs s.1).ends) && !decide (rowT T s = [])
def lookS (cs : List Crs) (deal : Deal) (T : RT) (s : Stg) : Option Int := if endBad cs T s = true then some (-1) else ((exL (crs cs s.1) s.2).find? (bad deal T s)).map fun q => (q.2 : Int)
def look (cs : List Crs) (deal : Deal) (T : RT) : List Stg → Option (Stg × Int)
  | [] => none
  | s :: l => match lookS cs deal T s with
    | some k => some (s, k)
    | none => look cs deal T l
def lookD : Option (Stg × Int) → PyData
  | none => .none
  | some q => .tuple [stD q.1, .int q.2]
structure LkOk (cs : List Crs) (deal : Deal) (T : RT) : Prop where
  bok : BokOk cs
  dok : DealOk deal
  tok : TabOk T
  nd : (T.map (·.1)).Nodup
  sub : ∀ s ∈ T.map (·.1), s ∈ stages cs
  rows : ∀ s r, CK.val T s = some r → ∀ d ∈ r, d ∈ deal.map (·.1)
  deeds : ∀ c ∈ cs, ∀ st ∈ c.steps, st.call = false → st.nm ∈ deal.map (·.1)
theorem LkOk.row {cs : List Crs} {deal : Deal} {T : RT} (h : LkOk cs deal T) (s : Stg) : RowOk deal (rowT T s) := by
  unfold rowT
  cases e : CK.val T s with
  | none => exact row_nil deal
  | some r => exact ⟨h.rows s r e, by have := h.tok.len s r e; show r.length ≤ 90000; omega⟩
theorem LkOk.rowsOf {cs : List Crs} {deal : Deal} {T : RT} (h : LkOk cs deal T) : ∀ ps : List Stg, ∀ d ∈ rowsOf T ps, d ∈ deal.map (·.1) := fun ps d hd => by
  obtain ⟨p, hp, hd⟩ := List.mem_flatMap.mp hd
  exact (h.row p).deeds d hd
theorem LkOk.joined {cs : List Crs} {deal : Deal} {T : RT} (h : LkOk cs deal T) {s : Stg} (hs : s.1 ∈ cs.map (·.nm)) {st : Step} (hst : st ∈ (crs cs s.1).steps) {r : Row} (e : joinR T s.1 st = some r) : RowOk deal r := by
  unfold joinR at e
  split at e
  · rw [← Option.some.inj e]
    refine ⟨fun d hd => ?_, ?_⟩
    · rcases List.mem_append.mp hd with hd | hd
      · unfold own at hd
        by_cases hc : st.call = true
        · rw [if_pos hc] at hd; cases hd
        · rw [if_neg hc] at hd
          rw [List.mem_singleton.mp hd]
          exact h.deeds _ (crs_mem hs).1 st hst (by simpa using hc)
      · exact h.rowsOf _ d hd
    · have l1 := rowsOf_len h.tok (partsOf s.1 st)
      have l2 := parts_len2 s.1 st
      have l3 : (partsOf s.1 st).length * 20000 ≤ 2 * 20000 := Nat.mul_le_mul_right _ l2
      have l4 := own_len st
      rw [List.length_append]; omega
  · cases e
theorem look_none {cs : List Crs} {deal : Deal} {T : RT} {s : Stg} {l : List Stg} (h : lookS cs deal T s = none) : look cs deal T (s :: l) = look cs deal T l := by
  show (match lookS cs deal T s with | some k => some (s, k) | none => look cs deal T l) = _
  rw [h]
theorem look_some {cs : List Crs} {deal : Deal} {T : RT} {s : Stg} {l : List Stg} {k : Int} (h : lookS cs deal T s = some k) : look cs deal T (s :: l) = some (s, k) := by
  show (match lookS cs deal T s with | some k => some (s, k) | none => look cs deal T l) = _
  rw [h]
theorem drop_at {α : Type} {l : List α} {i : Nat} {a : α} (h : l[i]? = some a) : l.drop i = a :: l.drop (i + 1) := by
  obtain ⟨hi, rfl⟩ := List.getElem?_eq_some_iff.mp h
  exact List.drop_eq_getElem_cons hi
theorem eqv_row0 {r : Row} : PyData.eqv (rowD r) (.tuple []) = decide (r = []) := by
  have := eqv_strs r []
  exact this
def Rlb (Cb : Addr) (es : List Ent) (μ : Mem) (d : PyData) (μ' : Mem) : Prop := ∃ (cs : List Crs) (deal : Deal) (T : RT) (a : Addr), es = [.g (gBook Cb cs), .g (gDl deal), .m a] ∧ μ = [(a, .dT (encT rowD T))] ∧ μ' = μ ∧ LkOk cs deal T ∧ d = lookD (look cs deal T (srt (T.map (·.1))))
def Rlo (es : List Ent) (μ : Mem) (d : PyData) (μ' : Mem) : Prop := ∃ (cs : List Crs) (deal : Deal) (T : RT) (a b : Addr), es = [.d (bokD cs), .m b, .m a] ∧ μ = [(a, .dT (encT rowD T)), (b, .dK (kd (dlD deal)))] ∧ μ' = μ ∧ LkOk cs deal T ∧ d = lookD (look cs deal T (srt (T.map (·.1))))
section
variable {P : Program} {w : World} {K : PySem.W.Frag} {mg : Str → Option Value} {base : Heap} {Cb : Addr}
theorem x_tgetR {C : Cfg} {M : List Addr} {δ : List Ent} {μ μ1 μ2 : Mem} {td ty : TE} {a : Addr} {T : RT} {s : Stg} (hx : EvX C td M δ μ μ1 (.m a)) (hk : EvX C ty M δ μ1 μ2 (.d (stD s))) (hm : (a, MO.dT (encT rowD T)) ∈ μ2) (hs : s ∈ T.map (·.1)) : EvX C (tDGet td ty) M δ μ μ2 (.d (rowD (rowT T s))) := by
  obtain ⟨r, hr⟩ := CK.has_val (CK.has_mem.mpr hs)
  refine x_tgetD hx hk (.m hm) ?_
  rw [valG_enc]
  unfold rowT
  rw [hr]; rfl
theorem isNon_join (o : Option Row) : isNon (joinD o) = o.isNone := by cases o <;> rfl
abbrev nLk : List Str := ["book", "dealing", "rows", "stage", "number", "row"]
theorem scLk : FnScope nLk ["book", "dealing", "rows"] (defScope sLk) := ⟨rfl, rfl, rfl, by decide +kernel, rfl, by decide +kernel, by decide +kernel⟩
theorem ok_lb {f : Addr} {fd : FuncData} (T : Txt K mg Cb) (F : Fun K "looks_by" "looks_by" sLk f fd) {f1 f2 f3 f4 : Addr} {fd1 fd2 fd3 fd4 : FuncData} (H1 : Has K mg "brought" sBr ["book", "rows", "stage", "number"] f1 fd1) (H2 : Has K mg "within_by" sWb ["dealing", "u", "v"] f2 fd2)
    (M3 : HasM K Cb "is_end" "Book.is_end" sBe ["self", "stage"] f3 fd3) (M4 : HasM K Cb "steps_from" "Book.steps_from" sBf ["self", "stage"] f4 fd4)
    (G1 : FnOk P w K mg base CX0 2 f1 fd1 ["book", "rows", "stage", "number"] (spE K 4 (Rbr Cb))) (G2 : FnOk P w K mg base CX0 3 f2 fd2 ["dealing", "u", "v"] (spE K 3 Rwb)) : FnOk P w K mg base CX0 4 f fd ["book", "dealing", "rows"] (spE K 3 (Rlb Cb)) := by
  have G3 : FnOk P w K mg base CX0 1 f3 fd3 ["self", "stage"] (spE K 2 (Rbe Cb)) := ok_be T M3.F
  have G4 : FnOk P w K mg base CX0 1 f4 fd4 ["self", "stage"] (spE K 2 (Rbf Cb)) := ok_bf T M4.F
  refine def_E F scLk (by decide) rfl fun cdv A outer s H E hr => ?_
  have nd := scLk.nd
  have hr1 : Room 1 _ := hr.mono (by decide)
  have hr2 : Room 2 _ := hr.mono (by decide)
  refine ⟨_, (pss_cons (ps_for PassesOwn.never rfl (pi_list (pe_callB (cr_sortedDat hr.units) (by rfl) T.sorted (by decide +kernel) (pa_cons (pe_callTy (call_list_dT rfl) (by rfl) T.list (by decide +kernel) (pa_cons (pv 2) pa_nil)) pa_nil))) (pg_name (i := 3) nd rfl (Or.inl rfl)) (pss_cons (ps_if (PW.pt (pw_and (pt_val (pe_meth (pv 0) T.cl M3.m G3 hr1 M3.b .nil pass0 (pa_cons (pv 3) pa_nil))) (pw_and1 (pt_cmpR (op_neD hr.units) (pe_dget (hu_of hr) (pv 2) (pv 3) (fun _ _ => rfl)) (pe_tup pa_nil) (nomark _))))) (pss_one (ps_ret (pe_tup (pa_cons (pv 3) (pa_cons (pe_un un_neg pe_int) pa_nil))))) pss_nil)
 (pss_one (ps_for PassesOwn.never rfl (pi_tup (pe_meth (pv 0) T.cl M4.m G4 hr1 M4.b .nil pass0 (pa_cons (pv 3) pa_nil))) (pg_name (i := 4) nd rfl (Or.inl rfl)) (pss_cons (ps_set (i := 5) nd rfl (Or.inl rfl) (pe_call G1 hr2 rfl H1.m H1.F.kp H1.b .nil pass0 (pa_cons (pv 0) (pa_cons (pv 2) (pa_cons (pv 3) (pa_cons (pv 4) pa_nil))))))
 (pss_one (ps_if (PW.pt (pw_and (pt_cmpR op_notN (pv 5) pe_non (nomark _)) (pw_and1 (pt_not (pt_val (pe_call G2 hr rfl H2.m H2.F.kp H2.b .nil pass0 (pa_cons (pv 1) (pa_cons (pe_dget (hu_of hr) (pv 2) (pv 3) (fun _ _ => rfl)) (pa_cons (pv 5) pa_nil))))))))) (pss_one (ps_ret (pe_tup (pa_cons (pv 3) (pa_cons (pv 4) pa_nil))))) pss_nil)))))))
 (pss_one (ps_ret pe_non))), ?_⟩
  rintro M G B es μ d μ' ⟨cs, deal, tb, a, rfl, rfl, rfl, ok, rfl⟩ D fin
  have few := ok.tok.few
  show FD.Run _ _ D M [.g (gBook Cb cs), .g (gDl deal), .m a, .u, .u, .u] [(a, .dT (encT rowD tb))]
  generalize hL : srt (tb.map (·.1)) = L at fin
  refine q_forA (l := L) (enc := stD) (i_list (x_is (x_cbP (a_cons (x_cbP (a_cons (x_vm rfl) a_nil) (c_listT (.m List.mem_cons_self))) a_nil) (c_srt (l := tb.map (·.1)) (by rw [encT_keys, List.map_map]; exact .d _))) (by rw [hL]))) (fun i δ1 μ1 => ∃ e3 e4 e5 : Ent, δ1 = [.g (gBook Cb cs), .g (gDl deal), .m a, e3, e4, e5] ∧ μ1 = [(a, .dT (encT rowD tb))] ∧ look cs deal tb L = look cs deal tb (L.drop i)) ⟨_, _, _, rfl, rfl, rfl⟩ ?_ ?_
  · rintro B2 - i st δ1 μ1 hst ⟨e3, e4, e5, rfl, rfl, hlk⟩
    have sm : st ∈ tb.map (·.1) := srt_mem.mp (hL ▸ List.mem_of_getElem? hst)
    have ss := ok.sub st sm
    have sn := stg_crs ss
    have ro := ok.row st
    have rt := ro.tok ok.dok
    rw [drop_at hst] at hlk
    refine ⟨[3], _, tg_name, ?_⟩
    show FD.Run _ _ _ _ [.g (gBook Cb cs), .g (gDl deal), .m a, .d (stD st), e4, e5] _
    refine q_when (b := endBad cs tb st) (t_and (t_B (x_meth (x_vg rfl) (.g _ _) (noM _ _ _ (by decide +kernel) (by decide +kernel) (by decide +kernel)) (a_cons (x_vd rfl) a_nil) (cX_E0 ⟨cs, st, rfl, rfl, rfl, ok.bok, ss, rfl⟩))) (fun _ => t_test (x_is (x_op (x_tgetR (x_vm rfl) (x_vd rfl) List.mem_cons_self sm) (x_tup (ds := []) a_nil (by simp)) (o_neD (.d _) (.d _) (sh_row rt) (sh_row (r := []) (fun x hx => absurd hx (by simp))))) (by rw [eqv_row0]))) (fun _ => rfl)) (fun hb => ?_) (fun hb => ?_)
    · refine r_retE (x_tup (ds := [stD st, .int (-1)]) (a_cons (x_vd rfl) (a_cons (x_neg x_int) a_nil)) (by simp)) (fun q hq => hq) ?_
      rw [hlk, look_some (k := -1) (by unfold lookS; rw [if_pos hb])] at fin
      exact fin
    · generalize hX : exL (crs cs st.1) st.2 = X
      have hF : lookS cs deal tb st = (X.find? (bad deal tb st)).map fun q => (q.2 : Int) := by unfold lookS; rw [hb, hX]; rfl
      refine r_forA (l := X) (enc := fun q => PyData.int (q.2 : Int)) (i_tup (x_is (x_meth (x_vg rfl) (.g _ _) (noM _ _ _ (by decide +kernel) (by decide +kernel) (by decide +kernel)) (a_cons (x_vd rfl) a_nil) (cX_E0 ⟨cs, st, rfl, rfl, rfl, ok.bok, ss, rfl⟩)) (by unfold posD pos; rw [← hX]; unfold exL; rw [List.map_map]; rfl))) (fun j δ1 μ1 => ∃ e4 e5 : Ent, δ1 = [.g (gBook Cb cs), .g (gDl deal), .m a, .d (stD st), e4, e5] ∧ μ1 = [(a, .dT (encT rowD tb))] ∧ X.find? (bad deal tb st) = (X.drop j).find? (bad deal tb st)) ⟨_, _, rfl, rfl, rfl⟩ ?_ ?_
      · rintro B3 - j q δ1 μ1 hq ⟨e4, e5, rfl, rfl, hfd⟩
        refine ⟨[4], _, tg_name, ?_⟩
        show FD.Run _ _ _ _ [.g (gBook Cb cs), .g (gDl deal), .m a, .d (stD st), .d (.int (q.2 : Int)), e5] _
        have hqm : q ∈ exL (crs cs st.1) st.2 := hX ▸ List.mem_of_getElem? hq
        obtain ⟨h1, h2⟩ := exL_mem hqm
        rw [drop_at hq] at hfd
        refine q_asg (x_callE1 (a_cons (x_vg rfl) (a_cons (x_vm rfl) (a_cons (x_vd rfl) (a_cons (x_vd rfl) a_nil)))) List.mem_cons_self ⟨cs, tb, a, st, q.2, q.1, rfl, rfl, rfl, ok.bok, sn, h1, ok.tok, rfl⟩) ?_
        show FD.Run _ _ _ _ [.g (gBook Cb cs), .g (gDl deal), .m a, .d (stD st), .d (.int (q.2 : Int)), .d (joinD (joinR tb st.1 q.1))] _
        refine r_if (μ' := [(a, .dT (encT rowD tb))]) (b := bad deal tb st q) ?_ (fun hb2 => ?_) (fun hb2 => ?_)
        · unfold bad
          cases hj : joinR tb st.1 q.1 with
          | none => exact t_and (b := false) (c := false) (t_test (x_op (x_vd rfl) x_non o_notN)) (fun z => nomatch z) (fun _ => rfl)
          | some r =>
            exact t_and (b := true) (t_test (x_op (x_vd rfl) x_non o_notN)) (fun _ => t_not (t_B (x_callE0 (a_cons (x_vg rfl) (a_cons (x_tgetR (x_vm rfl) (x_vd rfl) List.mem_cons_self sm) (a_cons (x_vd rfl) a_nil))) ⟨deal, rowT tb st, r, rfl, rfl, rfl, ok.dok, ro, ok.joined sn (List.mem_of_getElem? h1) hj, rfl⟩))) (fun _ => rfl)
        · refine r_retE (x_tup (ds := [stD st, .int (q.2 : Int)]) (a_cons (x_vd rfl) (a_cons (x_vd rfl) a_nil)) (by simp)) (fun q hq => hq) ?_
          rw [hlk, look_some (k := (q.2 : Int)) (by rw [hF, hfd, List.find?_cons_of_pos hb2]; rfl)] at fin
          exact fin
        · refine r_next fun σ H o => ⟨_, _, ⟨_, _, rfl, rfl, ?_⟩, o⟩
          rw [hfd, List.find?_cons_of_neg (by rw [hb2]; decide)]
      · rintro δ1 μ1 ⟨e4, e5, rfl, rfl, hfd⟩
        refine fun σ H o => ⟨_, _, ⟨_, _, _, rfl, rfl, ?_⟩, o⟩
        rw [hlk, look_none (by rw [hF, hfd, List.drop_length]; rfl)]
  · rintro δ1 μ1 ⟨e3, e4, e5, rfl, rfl, hlk⟩
    rw [hlk, List.drop_length] at fin
    exact r_retE x_non (fun q hq => hq) fin
abbrev nLo : List Str := ["_law_courses", "_law_deal", "_law_rows", "_law_stage", "_law_number", "_law_step", "_law_row"]
theorem scLo : FnScope nLo ["_law_courses", "_law_deal", "_law_rows"] (defScope sLo) := ⟨rfl, rfl, rfl, by decide +kernel, rfl, by decide +kernel, by decide +kernel⟩
theorem ok_lo {f : Addr} {fd : FuncData} (T : Txt K mg Cb) (F : Fun K "_law_looks" "_law_looks" sLo f fd) {f1 f2 f3 f4 : Addr} {fd1 fd2 fd3 fd4 : FuncData} (H1 : Has K mg "_law_by_name" sBn ["_law_courses"] f1 fd1) (H2 : Has K mg "_law_off" sOf ["_law_courses", "_law_stage"] f2 fd2) (H3 : Has K mg "_law_joined" sJo ["_law_rows", "_law_stage", "_law_step"] f3 fd3) (H4 : Has K mg "_law_by" sBy ["_law_deal", "_law_u", "_law_v"] f4 fd4)
    (G1 : FnOk P w K mg base CX0 1 f1 fd1 ["_law_courses"] (spEN K 1 Rbn)) (G2 : FnOk P w K mg base CX0 2 f2 fd2 ["_law_courses", "_law_stage"] (spE K 2 Rof)) (G3 : FnOk P w K mg base CX0 2 f3 fd3 ["_law_rows", "_law_stage", "_law_step"] (spE K 3 Rjo)) (G4 : FnOk P w K mg base CX0 2 f4 fd4 ["_law_deal", "_law_u", "_law_v"] (spE K 3 Rby)) : FnOk P w K mg base CX0 3 f fd ["_law_courses", "_law_deal", "_law_rows"] (spE K 3 Rlo) := by
  refine def_E F scLo (by decide) rfl fun cdv A outer s H E hr => ?_
  have nd := scLo.nd
  have hr1 : Room 1 _ := hr.mono (by decide)
  refine ⟨_, (pss_cons (ps_for PassesOwn.never rfl (pi_list (pe_callB (cr_sortedT rfl hr.units) (by rfl) T.sorted (by decide +kernel) (pa_cons (pv 2) pa_nil))) (pg_name (i := 3) nd rfl (Or.inl rfl)) (pss_cons (ps_if (PW.pt (pw_and (pt_cmpR op_in_seq (pe_ix ix_tup (pv 3) pe_int (fun _ _ => rfl)) (pe_ix ix_tup (pe_dget (hu_of hr) (pe_call G1 hr1 rfl H1.m H1.F.kp H1.b .nil pass0 (pa_cons (pv 0) pa_nil)) (pe_ix ix_tup (pv 3) pe_int (fun _ _ => rfl)) (fun _ _ => rfl)) pe_int (fun _ _ => rfl)) (by with_unfolding_all rfl)) (pw_and1 (pt_cmpR (op_neD hr.units) (pe_dget (hu_of hr) (pv 2) (pv 3) (fun _ _ => rfl)) (pe_tup pa_nil) (nomark _))))) (pss_one (ps_ret (pe_tup (pa_cons (pv 3) (pa_cons (pe_op op_sub pe_int pe_int) pa_nil))))) pss_nil)
 (pss_one (ps_for PassesOwn.never rfl (pi_list (pe_call G2 hr rfl H2.m H2.F.kp H2.b .nil pass0 (pa_cons (pv 0) (pa_cons (pv 3) pa_nil)))) (pg_tup rfl (pgs_cons (pg_name (i := 4) nd rfl (Or.inl rfl)) (pgs_cons (pg_name (i := 5) nd rfl (Or.inl rfl)) pgs_nil))) (pss_cons (ps_set (i := 6) nd rfl (Or.inl rfl) (pe_call G3 hr rfl H3.m H3.F.kp H3.b .nil pass0 (pa_cons (pv 2) (pa_cons (pv 3) (pa_cons (pv 5) pa_nil)))))
 (pss_one (ps_if (PW.pt (pw_and (pt_cmpR op_notN (pv 6) pe_non (nomark _)) (pw_and1 (pt_not (pt_val (pe_call G4 hr rfl H4.m H4.F.kp H4.b .nil pass0 (pa_cons (pv 1) (pa_cons (pe_dget (hu_of hr) (pv 2) (pv 3) (fun _ _ => rfl)) (pa_cons (pv 6) pa_nil))))))))) (pss_one (ps_ret (pe_tup (pa_cons (pv 3) (pa_cons (pv 4) pa_nil))))) pss_nil)))))))
 (pss_one (ps_ret pe_non))), ?_⟩
  rintro M G B es μ d μ' ⟨cs, deal, tb, a, b, rfl, rfl, rfl, ok, rfl⟩ D fin
  have few := ok.tok.few
  generalize hμ : [(a, MO.dT (encT rowD tb)), (b, .dK (kd (dlD deal)))] = μ at fin
  have ma : (a, MO.dT (encT rowD tb)) ∈ μ := by rw [← hμ]; exact List.mem_cons_self
  have mb : (b, MO.dK (kd (dlD deal))) ∈ μ := by rw [← hμ]; exact List.mem_cons_of_mem _ List.mem_cons_self
  show FD.Run _ _ D M [.d (bokD cs), .m b, .m a, .u, .u, .u, .u] μ
  generalize hL : srt (tb.map (·.1)) = L at fin
  refine q_forA (l := L) (enc := stD) (i_list (x_is (x_cbP (a_cons (x_vm rfl) a_nil) (c_srtT (.m ma) few)) (by rw [hL]))) (fun i δ1 μ1 => ∃ e3 e4 e5 e6 : Ent, δ1 = [.d (bokD cs), .m b, .m a, e3, e4, e5, e6] ∧ μ = μ1 ∧ look cs deal tb L = look cs deal tb (L.drop i)) ⟨_, _, _, _, rfl, rfl, rfl⟩ ?_ ?_
  · rintro B2 - i st δ1 μ1 hst ⟨e3, e4, e5, e6, rfl, rfl, hlk⟩
    have sm : st ∈ tb.map (·.1) := srt_mem.mp (hL ▸ List.mem_of_getElem? hst)
    have ss := ok.sub st sm
    have sn := stg_crs ss
    have ro := ok.row st
    have rt := ro.tok ok.dok
    rw [drop_at hst] at hlk
    refine ⟨[3], _, tg_name, ?_⟩
    show FD.Run _ _ _ _ [.d (bokD cs), .m b, .m a, .d (stD st), e4, e5, e6] _
    refine q_when (b := endBad cs tb st) (t_and (t_test (x_is (x_op (x_op (x_vd rfl) x_int (o_ixT (d := .int (st.2 : Int)) rfl)) (x_op (x_dgetN (l := byN cs) (n_callEN (a_cons (x_vd rfl) a_nil) (swap_nil _) (by simp) ⟨cs, rfl, rfl, rfl, ok.bok.nd, ok.bok.few, rfl⟩) (fun p pM => x_op (x_vd rfl) x_int (o_ixT (d := .str st.1) rfl)) (valD_crs ok.bok.nd sn)) x_int (o_ixT (d := endsD (crs cs st.1).ends) rfl)) o_inTi) ?_)) (fun _ => t_test (x_is (x_op (x_tgetR (x_vm rfl) (x_vd rfl) ma sm) (x_tup (ds := []) a_nil (by simp)) (o_neD (.d _) (.d _) (sh_row rt) (sh_row (r := []) (fun x hx => absurd hx (by simp))))) (by rw [eqv_row0]))) (fun _ => rfl)) (fun hb => ?_) (fun hb => ?_)
    · congr 2
      by_cases e : st.2 ∈ (crs cs st.1).ends
      · rw [decide_eq_true e, decide_eq_true (List.mem_map.mpr ⟨_, e, rfl⟩)]
      · rw [decide_eq_false e, decide_eq_false fun z => ?_]
        obtain ⟨i, hi, q⟩ := List.mem_map.mp z
        have q : i = st.2 := by omega
        exact e (q ▸ hi)
    · refine r_retE (x_tup (ds := [stD st, .int (-1)]) (a_cons (x_vd rfl) (a_cons (x_op x_int x_int o_I0) a_nil)) (by simp)) (fun q hq => hq) ?_
      rw [hlk, look_some (k := -1) (by unfold lookS; rw [if_pos hb])] at fin
      exact fin
    · generalize hX : exL (crs cs st.1) st.2 = X
      have hF : lookS cs deal tb st = (X.find? (bad deal tb st)).map fun q => (q.2 : Int) := by unfold lookS; rw [hb, hX]; rfl
      refine r_forA (l := X) (enc := offD) (i_list (x_is (x_callE0 (a_cons (x_vd rfl) (a_cons (x_vd rfl) a_nil)) ⟨cs, st, rfl, rfl, rfl, ok.bok, sn, rfl⟩) (by rw [hX]))) (fun j δ1 μ1 => ∃ e4 e5 e6 : Ent, δ1 = [.d (bokD cs), .m b, .m a, .d (stD st), e4, e5, e6] ∧ μ = μ1 ∧ X.find? (bad deal tb st) = (X.drop j).find? (bad deal tb st)) ⟨_, _, _, rfl, rfl, rfl⟩ ?_ ?_
      · rintro B3 - j q δ1 μ1 hq ⟨e4, e5, e6, rfl, rfl, hfd⟩
        refine ⟨[4, 5], _, tg_tup2, ?_⟩
        show FD.Run _ _ _ _ [.d (bokD cs), .m b, .m a, .d (stD st), .d (.int (q.2 : Int)), .d (stepD q.1), e6] _
        have hqm : q ∈ exL (crs cs st.1) st.2 := hX ▸ List.mem_of_getElem? hq
        obtain ⟨h1, h2⟩ := exL_mem hqm
        rw [drop_at hq] at hfd
        refine q_asg (x_callE1 (a_cons (x_vm rfl) (a_cons (x_vd rfl) (a_cons (x_vd rfl) a_nil))) ma ⟨tb, a, st, q.1, rfl, rfl, rfl, ok.tok, rfl⟩) ?_
        show FD.Run _ _ _ _ [.d (bokD cs), .m b, .m a, .d (stD st), .d (.int (q.2 : Int)), .d (stepD q.1), .d (joinD (joinR tb st.1 q.1))] _
        refine r_if (μ' := μ) (b := bad deal tb st q) ?_ (fun hb2 => ?_) (fun hb2 => ?_)
        · unfold bad
          cases hj : joinR tb st.1 q.1 with
          | none => exact t_and (b := false) (c := false) (t_test (x_op (x_vd rfl) x_non o_notN)) (fun z => nomatch z) (fun _ => rfl)
          | some r =>
            exact t_and (b := true) (t_test (x_op (x_vd rfl) x_non o_notN)) (fun _ => t_not (t_B (x_callE1 (a_cons (x_vm rfl) (a_cons (x_tgetR (x_vm rfl) (x_vd rfl) ma sm) (a_cons (x_vd rfl) a_nil))) mb ⟨deal, b, rowT tb st, r, rfl, rfl, rfl, ok.dok, ro, ok.joined sn (List.mem_of_getElem? h1) hj, rfl⟩))) (fun _ => rfl)
        · refine r_retE (x_tup (ds := [stD st, .int (q.2 : Int)]) (a_cons (x_vd rfl) (a_cons (x_vd rfl) a_nil)) (by simp)) (fun q hq => hq) ?_
          rw [hlk, look_some (k := (q.2 : Int)) (by rw [hF, hfd, List.find?_cons_of_pos hb2]; rfl)] at fin
          exact fin
        · refine r_next fun σ H o => ⟨_, _, ⟨_, _, _, rfl, rfl, ?_⟩, o⟩
          rw [hfd, List.find?_cons_of_neg (by rw [hb2]; decide)]
      · rintro δ1 μ1 ⟨e4, e5, e6, rfl, rfl, hfd⟩
        refine fun σ H o => ⟨_, _, ⟨_, _, _, _, rfl, rfl, ?_⟩, o⟩
        rw [hlk, look_none (by rw [hF, hfd, List.drop_length]; rfl)]
  · rintro δ1 μ1 ⟨e3, e4, e5, e6, rfl, rfl, hlk⟩
    rw [hlk, List.drop_length] at fin
    exact r_retE x_non (fun q hq => hq) fin
end
end K09
namespace K09
open PySem L2 FD Evl
/-! ### rows along short ways -/
theorem fold_take {α β : Type} (f : β → α → β) (b : β) {l : List α} {i : Nat} {a : α} (h : l[i]? = some a) : (l.take (i + 1)).foldl f b = f ((l.take i).foldl f b) a := by
  rw [List.take_add_one, h, List.foldl_append]; rfl
def putE (x : Str) (T : RT) (e : Nat) : RT := CK.put T (x, e) []
def t0 (cs : List Crs) : RT := cs.foldl (fun T c => c.ends.foldl (putE c.nm) T) []
def betterB (T : RT) (x : Stg) (r : Row) : Bool := !CK.has T x || decide (r.length < (rowT T x).length)
def shTurn (x : Str) (z : RT × Bool) (st : Step) : RT × Bool := match joinR z.1 x st with
  | none => z
  | some r => if betterB z.1 (x, st.b) r = true then (CK.put z.1 (x, st.b) r, false) else z
def shCrs (z : RT × Bool) (c : Crs) : RT × Bool := c.steps.foldl (shTurn c.nm) z
def shRound (cs : List Crs) (T : RT) : RT × Bool := cs.foldl shCrs (T, true)
def shN (cs : List Crs) : Nat → RT → RT
  | 0, T => T
  | n + 1, T => if (shRound cs T).2 = true then (shRound cs T).1 else shN cs n (shRound cs T).1
def shT (cs : List Crs) : RT := shN cs 30 (t0 cs)
structure Good (cs : List Crs) (T : RT) : Prop where
  nd : (T.map (·.1)).Nodup
  sub : ∀ s ∈ T.map (·.1), s ∈ stages cs
  len : ∀ s r, CK.val T s = some r → r.length + 1 ≤ 2 ^ T.length
  deeds : ∀ s r, CK.val T s = some r → ∀ d ∈ r, d ∈ usedL cs
structure BkS (cs : List Crs) : Prop where
  ok : BokOk cs
  few : (cs.map (·.n)).sum ≤ 14
  e1 : ∀ c ∈ cs, ∀ st ∈ c.steps, 1 ≤ st.e
theorem stages_len (cs : List Crs) : (stages cs).length = (cs.map (·.n)).sum := by
  unfold stages
  rw [List.length_flatMap]
  congr 1
  refine List.map_congr_left fun c _ => ?_
  simp
theorem Good.few {cs : List Crs} {T : RT} (g : Good cs T) (b : BkS cs) : T.length ≤ 14 := by
  have := CK.nd_len g.nd g.sub
  rw [List.length_map, stages_len] at this
  exact Nat.le_trans this b.few
theorem pow14 {n : Nat} (h : n ≤ 14) : 2 ^ n ≤ 16384 := Nat.le_trans (Nat.pow_le_pow_right (by omega) h) (by decide)
theorem Good.tok {cs : List Crs} {T : RT} (g : Good cs T) (b : BkS cs) : TabOk T := ⟨by have := g.few b; omega, fun s r h => by
  have h1 := g.len s r h
  have h2 := pow14 (g.few b)
  omega⟩
theorem used_mem {cs : List Crs} {c : Crs} (hc : c ∈ cs) {st : Step} (hs : st ∈ c.steps) (h : st.call = false) : st.nm ∈ usedL cs :=
  setT_mem.mpr (List.mem_flatMap.mpr ⟨c, hc, List.mem_map.mpr ⟨st, List.mem_filter.mpr ⟨hs, by rw [h]; rfl⟩, rfl⟩⟩)
theorem good_nil (cs : List Crs) : Good cs [] := ⟨List.Pairwise.nil, fun s h => absurd h (by simp), fun s r h => (nomatch h), fun s r h => (nomatch h)⟩
theorem put_sub {cs : List Crs} {T : RT} {x : Stg} {r : Row} (h : ∀ s ∈ T.map (·.1), s ∈ stages cs) (hx : x ∈ stages cs) : ∀ s ∈ (CK.put T x r).map (·.1), s ∈ stages cs := fun s hs => by
  rw [CK.put_keys] at hs
  split at hs
  · exact h s hs
  · rcases List.mem_append.mp hs with hs | hs
    · exact h s hs
    · rw [List.mem_singleton.mp hs]; exact hx
theorem good_put {cs : List Crs} {T : RT} (g : Good cs T) {x : Stg} {r : Row} (hx : x ∈ stages cs) (hd : ∀ d ∈ r, d ∈ usedL cs) (hl : r.length + 1 ≤ 2 ^ (T.length + 1)) (hb : CK.has T x = true → r.length + 1 ≤ 2 ^ T.length) : Good cs (CK.put T x r) := by
  refine ⟨CK.put_nd g.nd, put_sub g.sub hx, fun s q h => ?_, fun s q h => ?_⟩
  · rw [CK.val_put] at h
    rw [CK.put_len]
    have pw : 2 ^ T.length ≤ 2 ^ (T.length + 1) := Nat.pow_le_pow_right (by omega) (by omega)
    split at h
    · cases h
      split
      · rename_i hh; exact hb hh
      · exact hl
    · have := g.len s q h
      split
      · exact this
      · omega
  · rw [CK.val_put] at h
    split at h
    · cases h; exact hd
    · exact g.deeds s q h
theorem good_end {cs : List Crs} {T : RT} (g : Good cs T) {c : Crs} (hc : c ∈ cs) {e : Nat} (he : e < c.n) : Good cs (putE c.nm T e) := by
  have h2 : 0 < 2 ^ T.length := Nat.pow_pos (by omega)
  have h3 : 0 < 2 ^ (T.length + 1) := Nat.pow_pos (by omega)
  exact good_put g (stages_mem.mpr ⟨c, hc, rfl, he⟩) (fun d hd => absurd hd (by simp)) (by show 0 + 1 ≤ _; omega) fun _ => by show 0 + 1 ≤ _; omega
theorem join_good {cs : List Crs} {T : RT} (g : Good cs T) {c : Crs} (hc : c ∈ cs) {st : Step} (hs : st ∈ c.steps) {r : Row} (e : joinR T c.nm st = some r) : (∀ d ∈ r, d ∈ usedL cs) ∧ r.length + 1 ≤ 2 ^ (T.length + 1) := by
  have gd : ∀ p, (∀ d ∈ (CK.val T p).getD [], d ∈ usedL cs) ∧ ((CK.val T p).getD []).length + 1 ≤ 2 ^ T.length := fun p => by
    cases h : CK.val T p with
    | none => exact ⟨fun d hd => absurd hd (by simp), by have : 0 < 2 ^ T.length := Nat.pow_pos (by omega); show 0 + 1 ≤ _; omega⟩
    | some q => exact ⟨g.deeds p q h, g.len p q h⟩
  unfold joinR at e
  split at e
  · rw [← Option.some.inj e]
    refine ⟨fun d hd => ?_, ?_⟩
    · rcases List.mem_append.mp hd with hd | hd
      · unfold own at hd
        by_cases hc2 : st.call = true
        · rw [if_pos hc2] at hd; cases hd
        · rw [if_neg hc2] at hd
          rw [List.mem_singleton.mp hd]
          exact used_mem hc hs (by simpa using hc2)
      · obtain ⟨p, _, hd⟩ := List.mem_flatMap.mp hd
        exact (gd p).1 d hd
    · rw [Nat.pow_succ]
      unfold own rowsOf partsOf
      by_cases hc2 : st.call = true
      · rw [if_pos hc2, if_pos hc2]
        have h1 := (gd (st.nm, 0)).2
        have h2 := (gd (c.nm, st.e)).2
        simp only [List.flatMap_cons, List.flatMap_nil, List.length_append, List.nil_append, List.append_nil]
        omega
      · rw [if_neg hc2, if_neg hc2]
        have h2 := (gd (c.nm, st.e)).2
        simp only [List.flatMap_cons, List.flatMap_nil, List.length_append, List.append_nil, List.length_singleton]
        omega
  · cases e
theorem good_turn {cs : List Crs} (b : BkS cs) {z : RT × Bool} (g : Good cs z.1) {c : Crs} (hc : c ∈ cs) {st : Step} (hs : st ∈ c.steps) : Good cs (shTurn c.nm z st).1 := by
  unfold shTurn
  cases e : joinR z.1 c.nm st with
  | none => exact g
  | some r =>
    show Good cs (if betterB z.1 (c.nm, st.b) r = true then (CK.put z.1 (c.nm, st.b) r, false) else z).1
    obtain ⟨h1, h2⟩ := join_good g hc hs e
    split
    · rename_i hb
      refine good_put g (stages_mem.mpr ⟨c, hc, rfl, (b.ok.ok c hc).b st hs⟩) h1 h2 fun hh => ?_
      unfold betterB at hb
      rw [hh] at hb
      have hb : r.length < (rowT z.1 (c.nm, st.b)).length := by simpa using hb
      obtain ⟨q, hq⟩ := CK.has_val hh
      have := g.len _ q hq
      unfold rowT at hb
      rw [hq] at hb
      have hb : r.length < q.length := hb
      omega
    · exact g
theorem good_fold {cs : List Crs} (b : BkS cs) {c : Crs} (hc : c ∈ cs) : ∀ (l : List Step) (z : RT × Bool), (∀ st ∈ l, st ∈ c.steps) → Good cs z.1 → Good cs (l.foldl (shTurn c.nm) z).1
  | [], _, _, g => g
  | st :: l, z, h, g => good_fold b hc l _ (fun x hx => h x (List.mem_cons_of_mem _ hx)) (good_turn b g hc (h st List.mem_cons_self))
theorem good_crs {cs : List Crs} (b : BkS cs) : ∀ (l : List Crs) (z : RT × Bool), (∀ c ∈ l, c ∈ cs) → Good cs z.1 → Good cs (l.foldl shCrs z).1
  | [], _, _, g => g
  | c :: l, z, h, g => good_crs b l _ (fun x hx => h x (List.mem_cons_of_mem _ hx)) (good_fold b (h c List.mem_cons_self) _ z (fun _ h => h) g)
theorem good_round {cs : List Crs} (b : BkS cs) {T : RT} (g : Good cs T) : Good cs (shRound cs T).1 := good_crs b cs (T, true) (fun _ h => h) g
theorem good_ends {cs : List Crs} {c : Crs} (hc : c ∈ cs) : ∀ (l : List Nat) (T : RT), (∀ e ∈ l, e < c.n) → Good cs T → Good cs (l.foldl (putE c.nm) T)
  | [], _, _, g => g
  | e :: l, T, h, g => good_ends hc l _ (fun x hx => h x (List.mem_cons_of_mem _ hx)) (good_end g hc (h e List.mem_cons_self))
theorem good_t0 {cs : List Crs} (b : BkS cs) : ∀ (l : List Crs) (T : RT), (∀ c ∈ l, c ∈ cs) → Good cs T → Good cs (l.foldl (fun T c => c.ends.foldl (putE c.nm) T) T)
  | [], _, _, g => g
  | c :: l, T, h, g => good_t0 b l _ (fun x hx => h x (List.mem_cons_of_mem _ hx)) (good_ends (h c List.mem_cons_self) _ T (b.ok.ok c (h c List.mem_cons_self)).ends g)
theorem good_shN {cs : List Crs} (b : BkS cs) : ∀ (n : Nat) (T : RT), Good cs T → Good cs (shN cs n T)
  | 0, _, g => g
  | n + 1, T, g => by
    unfold shN
    split
    · exact good_round b g
    · exact good_shN b n _ (good_round b g)
theorem good_shT {cs : List Crs} (b : BkS cs) : Good cs (shT cs) := good_shN b 30 _ (good_t0 b cs [] (fun _ h => h) (good_nil cs))
def Rsh (es : List Ent) (μ : Mem) (mo : MO) (μ' : Mem) : Prop := ∃ cs : List Crs, es = [.d (bokD cs)] ∧ μ = [] ∧ μ' = [] ∧ BkS cs ∧ mo = .dT (encT rowD (shT cs))
theorem betterB_t {T : RT} {x : Stg} {r : Row} : betterB T x r = (!CK.has T x || decide (r.length < (rowT T x).length)) := rfl
section
variable {P : Program} {w : World} {K : PySem.W.Frag} {mg : Str → Option Value} {base : Heap} {Cb : Addr}
abbrev nSh : List Str := ["_law_courses", "_law_rows", "_law_course_here", "_law_turn", "_law_end", "_law_is_same", "_law_step", "_law_stage", "_law_row"]
theorem scSh : FnScope nSh ["_law_courses"] (defScope sSh) := ⟨rfl, rfl, rfl, by decide +kernel, rfl, by decide +kernel, by decide +kernel⟩
theorem ok_sh {f : Addr} {fd : FuncData} (T : Txt K mg Cb) (F : Fun K "_law_shortest" "_law_shortest" sSh f fd) {f1 : Addr} {fd1 : FuncData} (H1 : Has K mg "_law_joined" sJo ["_law_rows", "_law_stage", "_law_step"] f1 fd1) (G1 : FnOk P w K mg base CX0 2 f1 fd1 ["_law_rows", "_law_stage", "_law_step"] (spE K 3 Rjo)) : FnOk P w K mg base CX0 3 f fd ["_law_courses"] (spEN K 1 Rsh) := by
  refine def_EN F scSh (by decide) rfl fun cdv A outer s H E hr => ?_
  have nd := scSh.nd
  refine ⟨_, (pss_cons (ps_set (i := 1) nd rfl (Or.inl rfl) pe_dnewT)
 (pss_cons (ps_for PassesOwn.never rfl (pi_tup (pv 0)) (pg_name (i := 2) nd rfl (Or.inl rfl)) (pss_one (ps_for PassesOwn.never rfl (pi_tup (pe_ix ix_tup (pv 2) pe_int (fun _ _ => rfl))) (pg_name (i := 4) nd rfl (Or.inl rfl)) (pss_one (ps_asg (pe_tup pa_nil) (pg_sub (pv 1) (pe_tup (pa_cons (pe_ix ix_tup (pv 2) pe_int (fun _ _ => rfl)) (pa_cons (pv 4) pa_nil))) (set_dict (hu_of hr))))))))
 (pss_cons (ps_for PassesOwn.never rfl (pi_range1 (by rfl) T.range (pa_cons pe_int pa_nil)) (pg_name (i := 3) nd rfl (Or.inl rfl)) (pss_cons (ps_set (i := 5) nd rfl (Or.inl rfl) pe_bl)
 (pss_cons (ps_for PassesOwn.never rfl (pi_tup (pv 0)) (pg_name (i := 2) nd rfl (Or.inl rfl)) (pss_one (ps_for PassesOwn.never rfl (pi_tup (pe_ix ix_tup (pv 2) pe_int (fun _ _ => rfl))) (pg_name (i := 6) nd rfl (Or.inl rfl)) (pss_cons (ps_set (i := 7) nd rfl (Or.inl rfl) (pe_tup (pa_cons (pe_ix ix_tup (pv 2) pe_int (fun _ _ => rfl)) (pa_cons (pe_ix ix_tup (pv 6) pe_int (fun _ _ => rfl)) pa_nil))))
 (pss_cons (ps_set (i := 8) nd rfl (Or.inl rfl) (pe_call G1 hr rfl H1.m H1.F.kp H1.b .nil pass0 (pa_cons (pv 1) (pa_cons (pv 7) (pa_cons (pv 6) pa_nil)))))
 (pss_one (ps_if (PW.pt (pw_and (pt_cmpR op_notN (pv 8) pe_non (nomark _)) (pw_and1 (PW.pt (pw_or (pt_cmp (pc_dnotin (hu_of hr) (pv 7) (pv 1))) (pw_or1 (pt_cmpR op_lt (pe_callB call_len_seq (by rfl) T.len PySem.boot_len (pa_cons (pv 8) pa_nil)) (pe_callB call_len_seq (by rfl) T.len PySem.boot_len (pa_cons (pe_dget (hu_of hr) (pv 1) (pv 7) (fun _ _ => rfl)) pa_nil)) (nomark _)))))))) (pss_cons (ps_asg (pv 8) (pg_sub (pv 1) (pv 7) (set_dict (hu_of hr))))
 (pss_one (ps_set (i := 5) nd rfl (Or.inl rfl) pe_bl))) pss_nil)))))))
 (pss_one (ps_if (pt_val (pv 5)) (pss_one ps_break) pss_nil)))))
 (pss_one (ps_ret (pv 1)))))), ?_⟩
  rintro M G B es μ mo μ' ⟨cs, rfl, rfl, rfl, b, rfl⟩ D fin
  have ok := b.ok
  show FD.Run _ _ D M [.d (bokD cs), .u, .u, .u, .u, .u, .u, .u, .u] []
  refine q_newT fun p pM => ?_
  show FD.Run _ _ D (p :: M) [.d (bokD cs), .m p, .u, .u, .u, .u, .u, .u, .u] [(p, .dT (encT rowD []))]
  refine q_forA (l := cs) (enc := crsD) (i_tup (x_vd rfl)) (fun i δ1 μ1 => ∃ (e2 e4 : Ent) (tb : RT), δ1 = [.d (bokD cs), .m p, e2, .u, e4, .u, .u, .u, .u] ∧ μ1 = [(p, .dT (encT rowD tb))] ∧ tb = (cs.take i).foldl (fun T c => c.ends.foldl (putE c.nm) T) [] ∧ Good cs tb) ⟨_, _, [], rfl, rfl, rfl, good_nil cs⟩ ?_ ?_
  · rintro B2 - i c δ1 μ1 hc ⟨e2, e4, tb0, rfl, rfl, htb, g0⟩
    have cm := List.mem_of_getElem? hc
    refine ⟨[2], _, tg_name, ?_⟩
    show FD.Run _ _ _ _ [.d (bokD cs), .m p, .d (crsD c), .u, e4, .u, .u, .u, .u] _
    refine r_forA (l := c.ends) (enc := fun e : Nat => PyData.int (e : Int)) (i_tup (x_is (x_op (x_vd rfl) x_int (o_ixT (d := endsD c.ends) rfl)) (by unfold endsD; rw [List.map_map]; rfl))) (fun j δ1 μ1 => ∃ (e4 : Ent) (tb : RT), δ1 = [.d (bokD cs), .m p, .d (crsD c), .u, e4, .u, .u, .u, .u] ∧ μ1 = [(p, .dT (encT rowD tb))] ∧ tb = (c.ends.take j).foldl (putE c.nm) tb0 ∧ Good cs tb) ⟨_, tb0, rfl, rfl, rfl, g0⟩ ?_ ?_
    · rintro B3 - j e δ1 μ1 he ⟨e4, tb, rfl, rfl, hh, g⟩
      have em := (ok.ok c cm).ends e (List.mem_of_getElem? he)
      refine ⟨[4], _, tg_name, ?_⟩
      show FD.Run _ _ _ _ [.d (bokD cs), .m p, .d (crsD c), .u, .d (.int (e : Int)), .u, .u, .u, .u] _
      have few := g.few b
      refine r_tput (j := 0) (k := stK (c.nm, e)) (φ := gD (rowD [])) (e := .d (rowD [])) (x_tup (ds := []) a_nil (by simp)) (x_vm rfl) (x_tup (ds := [.str c.nm, .int (e : Int)]) (a_cons (x_op (x_vd rfl) x_int (o_ixT (d := .str c.nm) rfl)) (a_cons (x_vd rfl) a_nil)) (by simp)) (entG_d _) rfl (by rw [encT_len]; omega) ?_
      refine fun σ H o => ⟨_, _, ⟨_, putE c.nm tb e, rfl, ?_, ?_, good_end g cm em⟩, o⟩
      · show [(p, MO.dT (putG (encT rowD tb) (stK (c.nm, e)) (gD (rowD []))))] = _
        rw [enc_put]; rfl
      · rw [fold_take _ _ he, ← hh]
    · rintro δ1 μ1 ⟨e4, tb, rfl, rfl, hh, g⟩
      rw [List.take_length] at hh
      refine fun σ H o => ⟨_, _, ⟨_, _, tb, rfl, rfl, ?_, g⟩, o⟩
      rw [fold_take _ _ hc, ← htb, hh]
  rintro δ1 μ1 ⟨e2, e4, tb, rfl, rfl, htb, g⟩
  rw [List.take_length] at htb
  have htb : tb = t0 cs := htb
  have hfin : shT cs = shN cs 30 tb := by rw [htb]; rfl
  refine q_for (i_rng1 (n := 30) (a_cons x_int a_nil) (by decide) (by decide)) (fun i δ1 μ1 => ∃ (e2 e3 e5 e6 e7 e8 : Ent) (tb : RT), δ1 = [.d (bokD cs), .m p, e2, e3, e4, e5, e6, e7, e8] ∧ μ1 = [(p, .dT (encT rowD tb))] ∧ shT cs = shN cs (30 - i) tb ∧ Good cs tb) ⟨_, _, _, _, _, _, tb, rfl, rfl, hfin, g⟩ ?_ ?_
  · rintro B2 hB2 i d1 δ1 μ1 hx ⟨e2, e3, e5, e6, e7, e8, tb, rfl, rfl, hT, g⟩
    have hi : i < 30 := by
      have := (List.getElem?_eq_some_iff.mp hx).1
      rw [rngD_length] at this; exact this
    refine ⟨[3], _, tg_name, ?_⟩
    show FD.Run _ _ _ _ [.d (bokD cs), .m p, e2, .d d1, e4, e5, e6, e7, e8] _
    refine q_asg x_bl ?_
    show FD.Run _ _ _ _ [.d (bokD cs), .m p, e2, .d d1, e4, .d (.bool true), e6, e7, e8] _
    refine q_forA (l := cs) (enc := crsD) (i_tup (x_vd rfl)) (fun i δ1 μ1 => ∃ (e2 e6 e7 e8 : Ent) (z : RT × Bool), δ1 = [.d (bokD cs), .m p, e2, .d d1, e4, .d (.bool z.2), e6, e7, e8] ∧ μ1 = [(p, .dT (encT rowD z.1))] ∧ z = (cs.take i).foldl shCrs (tb, true) ∧ Good cs z.1) ⟨_, _, _, _, (tb, true), rfl, rfl, rfl, g⟩ ?_ ?_
    · rintro B3 - ci c δ1 μ1 hc ⟨e2, e6, e7, e8, z0, rfl, rfl, hz0, g0⟩
      have cm := List.mem_of_getElem? hc
      refine ⟨[2], _, tg_name, ?_⟩
      show FD.Run _ _ _ _ [.d (bokD cs), .m p, .d (crsD c), .d d1, e4, .d (.bool z0.2), e6, e7, e8] _
      refine r_forA (l := c.steps) (enc := stepD) (i_tup (x_op (x_vd rfl) x_int (o_ixT (d := stepsD c.steps) rfl))) (fun j δ1 μ1 => ∃ (e6 e7 e8 : Ent) (z : RT × Bool), δ1 = [.d (bokD cs), .m p, .d (crsD c), .d d1, e4, .d (.bool z.2), e6, e7, e8] ∧ μ1 = [(p, .dT (encT rowD z.1))] ∧ z = (c.steps.take j).foldl (shTurn c.nm) z0 ∧ Good cs z.1) ⟨_, _, _, z0, rfl, rfl, rfl, g0⟩ ?_ ?_
      · rintro B4 - j st δ1 μ1 hst ⟨e6, e7, e8, z, rfl, rfl, hz, g⟩
        have sm := List.mem_of_getElem? hst
        refine ⟨[6], _, tg_name, ?_⟩
        show FD.Run _ _ _ _ [.d (bokD cs), .m p, .d (crsD c), .d d1, e4, .d (.bool z.2), .d (stepD st), e7, e8] _
        refine q_asg (e := .d (stD (c.nm, st.b))) (x_tup (ds := [.str c.nm, .int (st.b : Int)]) (a_cons (x_op (x_vd rfl) x_int (o_ixT (d := .str c.nm) rfl)) (a_cons (x_op (x_vd rfl) x_int (o_ixT (d := .int (st.b : Int)) rfl)) a_nil)) (by simp)) ?_
        show FD.Run _ _ _ _ [.d (bokD cs), .m p, .d (crsD c), .d d1, e4, .d (.bool z.2), .d (stepD st), .d (stD (c.nm, st.b)), e8] _
        have few := g.few b
        refine q_asg (x_callE1 (a_cons (x_vm rfl) (a_cons (x_vd rfl) (a_cons (x_vd rfl) a_nil))) List.mem_cons_self ⟨z.1, p, (c.nm, st.b), st, rfl, rfl, rfl, g.tok b, rfl⟩) ?_
        show FD.Run _ _ _ _ [.d (bokD cs), .m p, .d (crsD c), .d d1, e4, .d (.bool z.2), .d (stepD st), .d (stD (c.nm, st.b)), .d (joinD (joinR z.1 c.nm st))] _
        have hnext : ∀ z' : RT × Bool, shTurn c.nm z st = z' → z' = (c.steps.take (j + 1)).foldl (shTurn c.nm) z0 := fun z' h => by rw [fold_take _ _ hst, ← hz, h]
        have gn := good_turn b g cm sm
        have hsT : shTurn c.nm z st = match joinR z.1 c.nm st with
          | none => z
          | some r => if betterB z.1 (c.nm, st.b) r = true then (CK.put z.1 (c.nm, st.b) r, false) else z := rfl
        cases hj : joinR z.1 c.nm st with
        | none =>
          rw [hj] at hsT
          refine r_if (μ' := [(p, .dT (encT rowD z.1))]) (b := false) (t_and (b := false) (c := false) (t_test (x_op (x_vd rfl) x_non o_notN)) (fun z => nomatch z) (fun _ => rfl)) (fun hb => nomatch hb) (fun _ => ?_)
          exact r_next fun σ H o => ⟨_, _, ⟨_, _, _, z, rfl, rfl, hnext z hsT, g⟩, o⟩
        | some r =>
          rw [hj] at hsT
          replace hsT : shTurn c.nm z st = if betterB z.1 (c.nm, st.b) r = true then (CK.put z.1 (c.nm, st.b) r, false) else z := hsT
          refine r_if (μ' := [(p, .dT (encT rowD z.1))]) (b := betterB z.1 (c.nm, st.b) r) (t_and (b := true) (t_test (x_op (x_vd rfl) x_non o_notN)) (fun _ => t_or (t_B (x_is (x_tnotin (x_vd rfl) (x_vm rfl) (.m List.mem_cons_self)) (by rw [isSome_enc]))) (fun hb => ?_) (fun _ => rfl)) (fun _ => rfl)) (fun hb => ?_) (fun hb => ?_)
          · have hb : CK.has z.1 (c.nm, st.b) = true := by simpa using hb
            refine t_test (x_is (x_op (x_cbP (a_cons (x_vd rfl) a_nil) c_lenT) (x_cbP (a_cons (x_tgetR (x_vm rfl) (x_vd rfl) List.mem_cons_self (CK.has_mem.mp hb)) a_nil) c_lenT) o_B0) ?_)
            rw [List.length_map, List.length_map, dlt]
          · rw [if_pos hb] at hsT
            rw [hsT] at gn
            refine q_tput (j := 0) (k := stK (c.nm, st.b)) (φ := gD (rowD r)) (e := .d (rowD r)) (x_vd rfl) (x_vm rfl) (x_vd rfl) (entG_d _) rfl (by rw [encT_len]; omega) ?_
            refine r_asg x_bl fun σ H o => ⟨_, _, ⟨_, _, _, (CK.put z.1 (c.nm, st.b) r, false), rfl, ?_, hnext _ hsT, gn⟩, o⟩
            show [(p, MO.dT (putG (encT rowD z.1) (stK (c.nm, st.b)) (gD (rowD r))))] = _
            rw [enc_put]
          · rw [if_neg (by rw [hb]; decide)] at hsT
            exact r_next fun σ H o => ⟨_, _, ⟨_, _, _, z, rfl, rfl, hnext z hsT, g⟩, o⟩
      · rintro δ1 μ1 ⟨e6, e7, e8, z, rfl, rfl, hz, g⟩
        rw [List.take_length] at hz
        refine fun σ H o => ⟨_, _, ⟨_, _, _, _, z, rfl, rfl, ?_, g⟩, o⟩
        rw [fold_take _ _ hc, ← hz0, hz]; rfl
    · rintro δ1 μ1 ⟨e2, e6, e7, e8, z, rfl, rfl, hz, g⟩
      rw [List.take_length] at hz
      have hz : z = shRound cs tb := hz
      have h30 : 30 - i = (30 - (i + 1)) + 1 := by omega
      rw [h30] at hT
      have hT2 : shT cs = if (shRound cs tb).2 = true then (shRound cs tb).1 else shN cs (30 - (i + 1)) (shRound cs tb).1 := hT
      rw [← hz] at hT2
      refine r_if (t_B (x_vd rfl)) (fun hb => ?_) (fun hb => ?_)
      · rw [if_pos hb] at hT2
        refine r_brk fun σ H o => ?_
        rw [hT2] at fin
        exact r_retEN (x_vm rfl) List.mem_cons_self pM (fun q hq => absurd hq (by simp)) fin σ H (o.reB hB2)
      · rw [if_neg (by rw [hb]; decide)] at hT2
        exact r_next fun σ H o => ⟨_, _, ⟨_, _, _, _, _, _, z.1, rfl, rfl, hT2, g⟩, o⟩
  · rintro δ1 μ1 ⟨e2, e3, e5, e6, e7, e8, tb, rfl, rfl, hT, g⟩
    have hT : shT cs = tb := hT
    rw [hT] at fin
    exact r_retEN (x_vm rfl) List.mem_cons_self pM (fun q hq => absurd hq (by simp)) fin
end
end K09
namespace K09
open PySem L2 FD Evl
theorem hu65_of {k : Nat} {A : Around} (hr : Room k A) : A.units + 65 < cLine := by have := hr.un; omega
theorem kop_notInD {X : Cx} {K : PySem.W.Frag} (h : X.K = K) (hu : X.A.units + 65 < cLine) : OpR X (compareOp .NotIn) (rNotInD K) := h ▸ op_notInD hu
theorem cutD_to' {α : Type} (f : α → PyData) {l : List α} {p : Nat} : cutD (l.map f) none (some (p : Int)) = (l.take p).map f := by
  unfold cutD
  have e1 : HT.sIx (l.map f).length 0 none = 0 := HT.sIx_none _ _
  have e2 : HT.sIx (l.map f).length (l.map f).length (some (p : Int)) = min p (l.map f).length := HT.sIx_nat _ _ _
  rw [e1, e2, List.drop_zero, Nat.sub_zero, List.map_take]
  by_cases h : p ≤ (l.map f).length
  · rw [Nat.min_eq_left h]
  · rw [Nat.min_eq_right (by omega), List.take_of_length_le (by omega), List.take_of_length_le (by omega)]
theorem cutD_from {α : Type} (f : α → PyData) (k : List α) (p : Nat) : cutD (k.map f) (some (p : Int)) none = (k.drop p).map f := by
  unfold cutD
  have e1 : HT.sIx (k.map f).length 0 (some (p : Int)) = min p (k.map f).length := HT.sIx_nat _ _ _
  have e2 : HT.sIx (k.map f).length (k.map f).length none = (k.map f).length := HT.sIx_none _ _
  rw [e1, e2, List.map_drop]
  by_cases h : p ≤ (k.map f).length
  · rw [Nat.min_eq_left h, List.take_of_length_le (by rw [List.length_drop]; omega)]
  · rw [Nat.min_eq_right (by omega), Nat.sub_self, List.take_zero, List.drop_eq_nil_of_le (by omega)]
/-! ### a row bent -/
def bentR (bx : Box) (r : Row) (ds : List Str) : Row × Box :=
  if tkV bx 5 = 0 then (r.reverse, tkB (tkB bx 5) (r.length + 1))
  else if tkV bx 5 = 1 then (r.take (tkV (tkB bx 5) (r.length + 1)).toNat ++ [ds.getD (tkV (tkB (tkB bx 5) (r.length + 1)) ds.length).toNat ""] ++ r.drop (tkV (tkB bx 5) (r.length + 1)).toNat, tkB (tkB (tkB bx 5) (r.length + 1)) ds.length)
  else if tkV bx 5 = 2 then (r.take (tkV (tkB bx 5) (r.length + 1)).toNat ++ r.drop ((tkV (tkB bx 5) (r.length + 1)).toNat + 1), tkB (tkB bx 5) (r.length + 1))
  else (r.take (tkV (tkB bx 5) (r.length + 1)).toNat ++ [ds.getD (tkV (tkB (tkB bx 5) (r.length + 1)) ds.length).toNat ""] ++ r.drop ((tkV (tkB bx 5) (r.length + 1)).toNat + 1), tkB (tkB (tkB bx 5) (r.length + 1)) ds.length)
theorem getD_mem {ds : List Str} {i : Nat} (h : i < ds.length) : ds.getD i "" ∈ ds := by
  rw [List.getD_eq_getElem?_getD, List.getElem?_eq_getElem h]
  exact List.getElem_mem h
theorem bent_mem {bx : Box} {r : Row} {ds : List Str} (h0 : 0 < ds.length) : ∀ d ∈ (bentR bx r ds).1, d ∈ r ∨ d ∈ ds := by
  have hv := tkV_lt (b := tkB (tkB bx 5) (r.length + 1)) (n := (ds.length : Int)) (by omega)
  have hx : ds.getD (tkV (tkB (tkB bx 5) (r.length + 1)) ds.length).toNat "" ∈ ds := getD_mem (by omega)
  generalize hX : ds.getD (tkV (tkB (tkB bx 5) (r.length + 1)) ds.length).toNat "" = x at hx
  intro d hd
  unfold bentR at hd
  rw [hX] at hd
  split at hd
  · exact .inl (List.mem_reverse.mp hd)
  · split at hd
    · rcases List.mem_append.mp hd with hd | hd
      · rcases List.mem_append.mp hd with hd | hd
        · exact .inl (List.mem_of_mem_take hd)
        · rw [List.mem_singleton.mp hd]; exact .inr hx
      · exact .inl (List.mem_of_mem_drop hd)
    · split at hd
      · rcases List.mem_append.mp hd with hd | hd
        · exact .inl (List.mem_of_mem_take hd)
        · exact .inl (List.mem_of_mem_drop hd)
      · rcases List.mem_append.mp hd with hd | hd
        · rcases List.mem_append.mp hd with hd | hd
          · exact .inl (List.mem_of_mem_take hd)
          · rw [List.mem_singleton.mp hd]; exact .inr hx
        · exact .inl (List.mem_of_mem_drop hd)
theorem bent_len (bx : Box) (r : Row) (ds : List Str) : (bentR bx r ds).1.length ≤ r.length + 1 := by
  unfold bentR
  split
  · show r.reverse.length ≤ _
    rw [List.length_reverse]; omega
  · split
    · show (List.take _ r ++ [_] ++ List.drop _ r).length ≤ _
      simp only [List.length_append, List.length_take, List.length_drop, List.length_singleton]; omega
    · split
      · show (List.take _ r ++ List.drop _ r).length ≤ _
        simp only [List.length_append, List.length_take, List.length_drop]; omega
      · show (List.take _ r ++ [_] ++ List.drop _ r).length ≤ _
        simp only [List.length_append, List.length_take, List.length_drop, List.length_singleton]; omega
def Rbt (es : List Ent) (μ : Mem) (d : PyData) (μ' : Mem) : Prop := ∃ (b : Addr) (bx : Box) (r : Row) (ds : List Str), es = [.m b, .d (rowD r), .d (.list (ds.map .str))] ∧ μ = [(b, .lst bx.ds)] ∧ r.length ≤ 30000 ∧ 0 < ds.length ∧ ds.length < 1000 ∧ d = rowD (bentR bx r ds).1 ∧ μ' = [(b, .lst (bentR bx r ds).2.ds)]
section
variable {P : Program} {w : World} {K : PySem.W.Frag} {mg : Str → Option Value} {base : Heap} {Cb : Addr}
abbrev nBt : List Str := ["_law_box_here", "_law_row", "_law_deeds", "_law_kind", "_law_at"]
theorem scBt : FnScope nBt ["_law_box_here", "_law_row", "_law_deeds"] (defScope sBt) := ⟨rfl, rfl, rfl, by decide +kernel, rfl, by decide +kernel, by decide +kernel⟩
theorem ok_bt {f : Addr} {fd : FuncData} (T : Txt K mg Cb) (F : Fun K "_law_bent" "_law_bent" sBt f fd) {f1 f2 : Addr} {fd1 fd2 : FuncData} (H1 : Has K mg "_law_take" sTk ["_law_box_here", "_law_many"] f1 fd1) (H2 : Has K mg "_law_pick" sPk ["_law_box_here", "_law_some"] f2 fd2) : FnOk P w K mg base CX0 3 f fd ["_law_box_here", "_law_row", "_law_deeds"] (spE K 3 Rbt) := by
  have G1 : FnOk P w K mg base CX0 1 f1 fd1 ["_law_box_here", "_law_many"] (spW K 2 Rtk) := ok_tk T H1.F
  have G2 : FnOk P w K mg base CX0 2 f2 fd2 ["_law_box_here", "_law_some"] (spE K 2 Rpk) := ok_pk T H2.F H1
  refine def_E F scBt (by decide) rfl fun cdv A outer s H E hr => ?_
  have nd := scBt.nd
  have hr1 : Room 1 _ := hr.mono (by decide)
  refine ⟨_, (pss_cons (ps_par (i := 3) (j := 4) (by rfl) nd rfl rfl (by decide) rfl rfl (pa_cons (pe_call G1 hr1 rfl H1.m H1.F.kp H1.b .nil pass0 (pa_cons (pv 0) (pa_cons pe_int pa_nil))) (pa_cons (pe_call G1 hr1 rfl H1.m H1.F.kp H1.b .nil pass0 (pa_cons (pv 0) (pa_cons (pe_op op_add (pe_callB call_len_seq (by rfl) T.len PySem.boot_len (pa_cons (pv 1) pa_nil)) pe_int) pa_nil))) pa_nil)) (by rfl))
 (pss_cons (ps_if (pt_cmpR (op_eqD hr.units) (pv 3) pe_int (nomark _)) (pss_one (ps_ret (pe_revT (pv 1)))) pss_nil)
 (pss_cons (ps_if (pt_cmpR (op_eqD hr.units) (pv 3) pe_int (nomark _)) (pss_one (ps_ret (pe_op op_catA (pe_op op_catA (pe_slice sl_tupA (pv 1) po_none (po_some (pv 4))) (pe_tup (pa_cons (pe_call G2 hr rfl H2.m H2.F.kp H2.b .nil pass0 (pa_cons (pv 0) (pa_cons (pv 2) pa_nil))) pa_nil))) (pe_slice sl_tupA (pv 1) (po_some (pv 4)) po_none)))) pss_nil)
 (pss_cons (ps_if (pt_cmpR (op_eqD hr.units) (pv 3) pe_int (nomark _)) (pss_one (ps_ret (pe_op op_catA (pe_slice sl_tupA (pv 1) po_none (po_some (pv 4))) (pe_slice sl_tupA (pv 1) (po_some (pe_op op_add (pv 4) pe_int)) po_none)))) pss_nil)
 (pss_one (ps_ret (pe_op op_catA (pe_op op_catA (pe_slice sl_tupA (pv 1) po_none (po_some (pv 4))) (pe_tup (pa_cons (pe_call G2 hr rfl H2.m H2.F.kp H2.b .nil pass0 (pa_cons (pv 0) (pa_cons (pv 2) pa_nil))) pa_nil))) (pe_slice sl_tupA (pv 1) (po_some (pe_op op_add (pv 4) pe_int)) po_none)))))))), ?_⟩
  rintro M G B es μ d μ' ⟨b, bx, r, ds, rfl, rfl, hl, h0, h1, rfl, rfl⟩ D fin
  have si : ∀ i : Int, SeqAt.shaped (.int i) = true := fun i => (shp_int 0 i).shaped (by decide)
  show FD.Run _ _ D M [.m b, .d (rowD r), .d (.list (ds.map .str)), .u, .u] [(b, .lst bx.ds)]
  have hb := bent_len bx r ds
  unfold bentR at fin
  refine q_par (a_cons (x_take (x_vm rfl) x_int (by decide) (by decide)) (a_cons (x_take (n := (r.length : Int) + 1) (x_vm rfl) (x_is (x_op (x_cbP (a_cons (x_vd rfl) a_nil) c_lenT) x_int o_I0) (by rw [List.length_map])) (by omega) (by omega)) a_nil)) ?_
  have ha := tkV_lt (b := tkB bx 5) (n := (r.length : Int) + 1) (by omega)
  have hv := tkV_lt (b := tkB (tkB bx 5) ((r.length : Int) + 1)) (n := (ds.length : Int)) (by omega)
  have hA : tkV (tkB bx 5) ((r.length : Int) + 1) = ((tkV (tkB bx 5) ((r.length : Int) + 1)).toNat : Int) := by omega
  generalize hx : (tkV (tkB (tkB bx 5) ((r.length : Int) + 1)) (ds.length : Int)) = v at fin hv
  generalize hb2 : tkB (tkB bx 5) ((r.length : Int) + 1) = b2 at fin hx
  generalize hn : (tkV (tkB bx 5) ((r.length : Int) + 1)).toNat = n at fin hA
  rw [hA]
  generalize tkV bx 5 = k at fin
  show FD.Run _ _ D M [.m b, .d (rowD r), .d (.list (ds.map .str)), .d (.int k), .d (.int (n : Int))] [(b, .lst b2.ds)]
  have pick : ∀ G' B', EvX ⟨K, M, G', B'⟩ (tCall (spE K 2 Rpk) [] E0 (tCons (tVar 0) (tCons (tVar 2) tNil))) M [.m b, .d (rowD r), .d (.list (ds.map .str)), .d (.int k), .d (.int (n : Int))] [(b, .lst b2.ds)] [(b, .lst (tkB b2 ds.length).ds)] (.d (.str (ds.getD v.toNat ""))) := fun G' B' => by
    have h := x_pickD (C := ⟨K, M, G', B'⟩) (E := E0) (M := M) (δ := [.m b, .d (rowD r), .d (.list (ds.map .str)), .d (.int k), .d (.int (n : Int))]) (p := b) (b := b2) (xs := ds.map PyData.str) (d := .str (ds.getD v.toNat "")) (tb := tVar 0) (tn := tVar 2) (x_vm rfl) (x_vd rfl) (by rw [List.length_map]; exact h0) (by rw [List.length_map]; omega) (by rw [List.length_map, hx, List.getElem?_map, List.getElem?_eq_getElem (by omega)]; simp [List.getD_eq_getElem?_getD, List.getElem?_eq_getElem (show v.toNat < ds.length by omega)])
    rw [List.length_map] at h
    exact h
  have lo : ∀ G' B' μ, EvX ⟨K, M, G', B'⟩ (tSl (rSlA K) (tVar 1) tNoPart (tPart (tVar 4))) M [.m b, .d (rowD r), .d (.list (ds.map .str)), .d (.int k), .d (.int (n : Int))] μ μ (.d (rowD (r.take n))) := fun G' B' μ => x_is (x_slT (x_vd rfl) p_none (p_some (x_vd rfl))) (by rw [cutD_to']; rfl)
  have hi0 : ∀ G' B' μ, EvX ⟨K, M, G', B'⟩ (tSl (rSlA K) (tVar 1) (tPart (tVar 4)) tNoPart) M [.m b, .d (rowD r), .d (.list (ds.map .str)), .d (.int k), .d (.int (n : Int))] μ μ (.d (rowD (r.drop n))) := fun G' B' μ => x_is (x_slT (x_vd rfl) (p_some (x_vd rfl)) p_none) (by rw [cutD_from]; rfl)
  have hi1 : ∀ G' B' μ, EvX ⟨K, M, G', B'⟩ (tSl (rSlA K) (tVar 1) (tPart (tOp (rI0 fun i j => .int (i + j)) (tVar 4) (tC (.int 1)))) tNoPart) M [.m b, .d (rowD r), .d (.list (ds.map .str)), .d (.int k), .d (.int (n : Int))] μ μ (.d (rowD (r.drop (n + 1)))) := fun G' B' μ => x_is (x_slT (x_vd rfl) (p_some (x_op (x_vd rfl) x_int o_I0)) p_none) (by rw [show ((n : Int) + 1) = ((n + 1 : Nat) : Int) by omega, cutD_from]; rfl)
  have t1 : (r.take n).length ≤ r.length := by rw [List.length_take]; omega
  have t2 : (r.drop n).length ≤ r.length := by rw [List.length_drop]; omega
  have t3 : (r.drop (n + 1)).length ≤ r.length := by rw [List.length_drop]; omega
  have cat2 : ∀ u v : Row, PyData.tuple (u.map .str ++ v.map .str) = rowD (u ++ v) := fun u v => by unfold rowD; rw [List.map_append]
  refine q_when (t_test (x_is (x_op (x_vd rfl) x_int (o_eqD (.d _) (.d _) (si _) (si _))) (by rw [eqv_int]))) (fun hb => ?_) (fun hb => ?_)
  · have hb : k = 0 := by simpa using hb
    rw [if_pos hb] at fin
    refine r_retE (x_is (x_revT (x_vd rfl)) ?_) (fun q hq => hq) fin
    rw [← List.map_reverse]; rfl
  have hb : ¬ k = 0 := by simpa using hb
  rw [if_neg hb] at fin
  refine q_when (t_test (x_is (x_op (x_vd rfl) x_int (o_eqD (.d _) (.d _) (si _) (si _))) (by rw [eqv_int]))) (fun hb => ?_) (fun hb => ?_)
  · have hb : k = 1 := by simpa using hb
    rw [if_pos hb] at fin
    refine r_retE (x_is (x_op (x_op (lo _ _ _) (x_tup (ds := [.str (ds.getD v.toNat "")]) (a_cons (pick _ _) a_nil) (by simp)) (o_catT (by simp; omega))) (hi0 _ _ _) (o_catT (by simp; omega))) ?_) (fun q hq => hq) fin
    show Ent.d (.tuple ((r.take n).map .str ++ ([ds.getD v.toNat ""] : Row).map .str ++ (r.drop n).map .str)) = _
    rw [← List.map_append, ← List.map_append]; rfl
  have hb : ¬ k = 1 := by simpa using hb
  rw [if_neg hb] at fin
  refine q_when (t_test (x_is (x_op (x_vd rfl) x_int (o_eqD (.d _) (.d _) (si _) (si _))) (by rw [eqv_int]))) (fun hb => ?_) (fun hb => ?_)
  · have hb : k = 2 := by simpa using hb
    rw [if_pos hb] at fin
    exact r_retE (x_is (x_op (lo _ _ _) (hi1 _ _ _) (o_catT (by simp; omega))) (by rw [cat2])) (fun q hq => hq) fin
  have hb : ¬ k = 2 := by simpa using hb
  rw [if_neg hb] at fin
  refine r_retE (x_is (x_op (x_op (lo _ _ _) (x_tup (ds := [.str (ds.getD v.toNat "")]) (a_cons (pick _ _) a_nil) (by simp)) (o_catT (by simp; omega))) (hi1 _ _ _) (o_catT (by simp; omega))) ?_) (fun q hq => hq) fin
  show Ent.d (.tuple ((r.take n).map .str ++ ([ds.getD v.toNat ""] : Row).map .str ++ (r.drop (n + 1)).map .str)) = _
  rw [← List.map_append, ← List.map_append]; rfl
end
/-! ### reached -/
def rcF (T : RT) (x : Stg) (found : List Stg) (q : Step × Nat) : List Stg := if (joinR T x.1 q.1).isSome = true then found ++ (partsOf x.1 q.1).filter (fun g => !decide (g ∈ found)) else found
def rcP (cs : List Crs) (T : RT) (found : List Stg) (i : Nat) : List Stg := match found[i]? with
  | none => found
  | some x => (exL (crs cs x.1) x.2).foldl (rcF T x) found
def reach (cs : List Crs) (T : RT) (s0 : Stg) : List Stg := (List.range 60).foldl (rcP cs T) [s0]
structure Rg (T : RT) (l : List Stg) : Prop where
  nd : l.Nodup
  sub : ∀ s ∈ l, s ∈ T.map (·.1)
theorem Rg.few {T : RT} {l : List Stg} (g : Rg T l) : l.length ≤ T.length := by
  have := CK.nd_len g.nd g.sub
  rwa [List.length_map] at this
theorem rg_step {T : RT} {l : List Stg} (g : Rg T l) {x : Stg} {q : Step × Nat} (h : 1 ≤ q.1.e) : Rg T (rcF T x l q) := by
  unfold rcF
  split
  · rename_i hj
    have hall : (partsOf x.1 q.1).all (CK.has T) = true := by
      unfold joinR at hj
      split at hj
      · assumption
      · cases hj
    have np : (partsOf x.1 q.1).Nodup := by
      unfold partsOf
      split
      · refine List.nodup_cons.mpr ⟨fun z => ?_, List.nodup_cons.mpr ⟨by simp, List.nodup_nil⟩⟩
        have := congrArg Prod.snd (List.mem_singleton.mp z)
        have : 0 = q.1.e := this
        omega
      · simp
    refine ⟨List.nodup_append.mpr ⟨g.nd, np.filter _, fun a ha b hb e => ?_⟩, fun s hs => ?_⟩
    · have := (List.mem_filter.mp hb).2
      rw [← e] at this
      simp [ha] at this
    · rcases List.mem_append.mp hs with hs | hs
      · exact g.sub s hs
      · exact CK.has_mem.mp (List.all_eq_true.mp hall s (List.mem_filter.mp hs).1)
  · exact g
theorem rc_pre {T : RT} {x : Stg} {l : List Stg} {q : Step × Nat} {i : Nat} {y : Stg} (h : l[i]? = some y) : (rcF T x l q)[i]? = some y := by
  unfold rcF
  split
  · rw [List.getElem?_append_left (List.getElem?_eq_some_iff.mp h).1]; exact h
  · exact h
theorem rg_fold {T : RT} {x : Stg} : ∀ (qs : List (Step × Nat)) (l : List Stg), (∀ q ∈ qs, 1 ≤ q.1.e) → Rg T l → Rg T (qs.foldl (rcF T x) l)
  | [], _, _, g => g
  | q :: qs, l, h, g => rg_fold qs _ (fun y hy => h y (List.mem_cons_of_mem _ hy)) (rg_step g (h q List.mem_cons_self))
theorem ex_e {cs : List Crs} (b : BkS cs) {s : Stg} (hs : s.1 ∈ cs.map (·.nm)) : ∀ q ∈ exL (crs cs s.1) s.2, 1 ≤ q.1.e := fun q hq => b.e1 _ (crs_mem hs).1 _ (List.mem_of_getElem? (exL_mem hq).1)
theorem rg_place {cs : List Crs} (b : BkS cs) {T : RT} (g0 : Good cs T) {l : List Stg} (g : Rg T l) (i : Nat) : Rg T (rcP cs T l i) := by
  unfold rcP
  cases h : l[i]? with
  | none => exact g
  | some x => exact rg_fold _ l (ex_e b (stg_crs (g0.sub _ (g.sub x (List.mem_of_getElem? h))))) g
theorem rg_all {cs : List Crs} (b : BkS cs) {T : RT} (g0 : Good cs T) : ∀ (is : List Nat) (l : List Stg), Rg T l → Rg T (is.foldl (rcP cs T) l)
  | [], _, g => g
  | i :: is, l, g => rg_all b g0 is _ (rg_place b g0 g i)
theorem rg_reach {cs : List Crs} (b : BkS cs) {T : RT} (g0 : Good cs T) {s0 : Stg} (h : s0 ∈ T.map (·.1)) : Rg T (reach cs T s0) := rg_all b g0 _ _ ⟨by simp, fun s hs => by rw [List.mem_singleton.mp hs]; exact h⟩
theorem pre_mem {cs : List Crs} {T : RT} {s0 : Stg} : s0 ∈ reach cs T s0 := by
  have st : ∀ (qs : List (Step × Nat)) (x : Stg) (l : List Stg), s0 ∈ l → s0 ∈ qs.foldl (rcF T x) l := fun qs x => by
    induction qs with
    | nil => exact fun l h => h
    | cons q qs ih =>
      intro l h
      refine ih _ ?_
      unfold rcF
      split
      · exact List.mem_append_left _ h
      · exact h
  have : ∀ (is : List Nat) (l : List Stg), s0 ∈ l → s0 ∈ is.foldl (rcP cs T) l := fun is => by
    induction is with
    | nil => exact fun l h => h
    | cons i is ih =>
      intro l h
      refine ih _ ?_
      unfold rcP
      cases l[i]? with
      | none => exact h
      | some x => exact st _ x l h
  exact this _ _ List.mem_cons_self
def Rrc (es : List Ent) (μ : Mem) (d : PyData) (μ' : Mem) : Prop := ∃ (c0 : Crs) (cr : List Crs) (T : RT) (a : Addr), es = [.d (bokD (c0 :: cr)), .m a] ∧ μ = [(a, .dT (encT rowD T))] ∧ μ' = μ ∧ BkS (c0 :: cr) ∧ Good (c0 :: cr) T ∧ (c0.nm, 0) ∈ T.map (·.1) ∧ d = .list ((srt (reach (c0 :: cr) T (c0.nm, 0))).map stD)
theorem eqv_st (a b : Stg) : PyData.eqv (stD a) (stD b) = decide (a = b) := by
  show PyData.eqv (rowK (stK a)) (rowK (stK b)) = _
  rw [eqv_row]
  by_cases h : a = b
  · subst h; simp
  · rw [decide_eq_false h, decide_eq_false fun z => h (stK_inj z)]
section
variable {P : Program} {w : World} {K : PySem.W.Frag} {mg : Str → Option Value} {base : Heap} {Cb : Addr}
abbrev nRe : List Str := ["_law_courses", "_law_rows", "_law_found", "_law_place", "_law_number", "_law_step", "_law_goal"]
theorem scRe : FnScope nRe ["_law_courses", "_law_rows"] (defScope sRe) := ⟨rfl, rfl, rfl, by decide +kernel, rfl, by decide +kernel, by decide +kernel⟩
theorem ok_re {f : Addr} {fd : FuncData} (T : Txt K mg Cb) (F : Fun K "_law_reached" "_law_reached" sRe f fd) {f1 f2 f3 : Addr} {fd1 fd2 fd3 : FuncData} (H1 : Has K mg "_law_off" sOf ["_law_courses", "_law_stage"] f1 fd1) (H2 : Has K mg "_law_joined" sJo ["_law_rows", "_law_stage", "_law_step"] f2 fd2) (H3 : Has K mg "_law_named" sNg ["_law_stage", "_law_step"] f3 fd3)
    (G1 : FnOk P w K mg base CX0 2 f1 fd1 ["_law_courses", "_law_stage"] (spE K 2 Rof)) (G2 : FnOk P w K mg base CX0 2 f2 fd2 ["_law_rows", "_law_stage", "_law_step"] (spE K 3 Rjo)) : FnOk P w K mg base CX0 3 f fd ["_law_courses", "_law_rows"] (spE K 2 Rrc) := by
  have G3 : FnOk P w K mg base CX0 1 f3 fd3 ["_law_stage", "_law_step"] (spR K 2 Rng) := ok_ng T H3.F
  refine def_E F scRe (by decide) rfl fun cdv A outer s H E hr => ?_
  have nd := scRe.nd
  have hr1 : Room 1 _ := hr.mono (by decide)
  refine ⟨_, (pss_cons (ps_set (i := 2) nd rfl (Or.inr rfl) (pe_lst (pa_cons (pe_tup (pa_cons (pe_ix ix_tup (pe_ix ix_tup (pv 0) pe_int (fun _ _ => rfl)) pe_int (fun _ _ => rfl)) (pa_cons pe_int pa_nil))) pa_nil)))
 (pss_cons (ps_for PassesOwn.never rfl (pi_range1 (by rfl) T.range (pa_cons pe_int pa_nil)) (pg_name (i := 3) nd rfl (Or.inl rfl)) (pss_one (ps_if (pt_cmpR op_lt (pv 3) (pe_callB call_len_seq (by rfl) T.len PySem.boot_len (pa_cons (pv 2) pa_nil)) (nomark _)) (pss_one (ps_for PassesOwn.never rfl (pi_list (pe_call G1 hr rfl H1.m H1.F.kp H1.b .nil pass0 (pa_cons (pv 0) (pa_cons (pe_ix ix_list (pv 2) (pv 3) (fun _ _ => rfl)) pa_nil)))) (pg_tup rfl (pgs_cons (pg_name (i := 4) nd rfl (Or.inl rfl)) (pgs_cons (pg_name (i := 5) nd rfl (Or.inl rfl)) pgs_nil))) (pss_one (ps_if (pt_cmpR op_notN (pe_call G2 hr rfl H2.m H2.F.kp H2.b .nil pass0 (pa_cons (pv 1) (pa_cons (pe_ix ix_list (pv 2) (pv 3) (fun _ _ => rfl)) (pa_cons (pv 5) pa_nil)))) pe_non (nomark _)) (pss_one (ps_expr (pe_bm PySem.F.plainAttrs_list PySem.F.slot_list_extend PySem.F.type_list_extend mt_extend (pv 2) (pa_cons (pe_lc (own := [("_law_goal", 6)]) (g := (gName 6)) rfl nd (pi_list (pe_call G3 hr1 rfl H3.m H3.F.kp H3.b .nil pass0 (pa_cons (pe_ix ix_list (pv 2) (pv 3) (fun _ _ => rfl)) (pa_cons (pv 5) pa_nil)))) (blkOk_by (N := nRe) (sc := defScope sRe) (by decide +kernel)) (fun _ _ _ _ _ => (pg_name (i := 6) nd rfl (Or.inl rfl))) (fun _ _ _ _ _ => (pts_one (pt_cmpR (kop_notInD (K := K) rfl (hu65_of hr)) (pv 6) (pv 2) (by with_unfolding_all rfl)))) (fun _ _ _ _ _ => (pv 6))) pa_nil)))) pss_nil)))) pss_nil)))
 (pss_one (ps_ret (pe_callB (cr_sortedDat hr.units) (by rfl) T.sorted (by decide +kernel) (pa_cons (pv 2) pa_nil)))))), ?_⟩
  rintro M G B es μ d μ' ⟨c0, cr, tb, a, rfl, rfl, rfl, b, g0, h0, rfl⟩ D fin
  generalize hcs : c0 :: cr = cs at b g0 fin
  have few := g0.few b
  show FD.Run _ _ D M [.d (bokD cs), .m a, .u, .u, .u, .u, .u] [(a, .dT (encT rowD tb))]
  refine q_new (ds := [stD (c0.nm, 0)]) (a_cons (x_tup (ds := [.str c0.nm, .int 0]) (a_cons (x_op (x_op (x_vd rfl) x_int (o_ixT (d := crsD c0) (by rw [← hcs]; exact atI_nat (j := 0) rfl))) x_int (o_ixT (d := .str c0.nm) rfl)) (a_cons x_int a_nil)) (by simp)) a_nil) (by simp) fun p pM => ?_
  show FD.Run _ _ D (p :: M) [.d (bokD cs), .m a, .m p, .u, .u, .u, .u] [(p, .lst (([(c0.nm, 0)] : List Stg).map stD)), (a, .dT (encT rowD tb))]
  refine q_for (i_rng1 (n := 60) (a_cons x_int a_nil) (by decide) (by decide)) (fun i δ1 μ1 => ∃ (e3 e4 e5 : Ent) (l : List Stg), δ1 = [.d (bokD cs), .m a, .m p, e3, e4, e5, .u] ∧ μ1 = [(p, .lst (l.map stD)), (a, .dT (encT rowD tb))] ∧ l = (List.range i).foldl (rcP cs tb) [(c0.nm, 0)] ∧ Rg tb l) ⟨_, _, _, [(c0.nm, 0)], rfl, rfl, rfl, ⟨by simp, fun s hs => by rw [List.mem_singleton.mp hs]; exact h0⟩⟩ ?_ ?_
  · rintro B2 hB2 i d1 δ1 μ1 hx ⟨e3, e4, e5, l, rfl, rfl, hl, g⟩
    have hi : i < 60 := by
      have := (List.getElem?_eq_some_iff.mp hx).1
      rw [rngD_length] at this; exact this
    rw [show (Int.toNat 60) = 60 from rfl, rngD_get hi] at hx
    cases hx
    refine ⟨[3], _, tg_name, ?_⟩
    show FD.Run _ _ _ _ [.d (bokD cs), .m a, .m p, .d (.int (0 + (i : Int))), e4, e5, .u] _
    rw [show (0 + (i : Int)) = (i : Int) by omega]
    have lf := g.few
    have hnx : (List.range (i + 1)).foldl (rcP cs tb) [(c0.nm, 0)] = rcP cs tb l i := by rw [List.range_succ, List.foldl_append, ← hl]; rfl
    refine r_if (t_test (x_is (x_op (x_vd rfl) (x_cbP (a_cons (x_vm rfl) a_nil) (c_lenL (.m (j := 0) rfl))) o_B0) (by rw [List.length_map, dlt]))) (fun hb => ?_) (fun hb => ?_)
    · have hil : i < l.length := of_decide_eq_true hb
      have hxi := List.getElem?_eq_getElem hil
      generalize l[i] = x at hxi
      have xs := g0.sub _ (g.sub x (List.mem_of_getElem? hxi))
      have xn := stg_crs xs
      have at_ : ∀ (C : Cfg) (M' : List Addr) (e4 e5 e6 : Ent) (l' : List Stg), l'[i]? = some x → EvX C (tOp (rIxL C.K) (tVar 2) (tVar 3)) M' [.d (bokD cs), .m a, .m p, .d (.int (i : Int)), e4, e5, e6] [(p, .lst (l'.map stD)), (a, .dT (encT rowD tb))] [(p, .lst (l'.map stD)), (a, .dT (encT rowD tb))] (.d (stD x)) := fun C M' e4 e5 e6 l' h => x_op (x_vm rfl) (x_vd rfl) (o_ixL (.m (j := 0) rfl) (atI_nat (by rw [List.getElem?_map, h]; rfl)))
      have ee := ex_e b xn
      generalize hX : exL (crs cs x.1) x.2 = X at ee
      refine r_forA (l := X) (enc := offD) (i_list (x_is (x_callE0 (a_cons (x_vd rfl) (a_cons (at_ _ _ _ _ _ l hxi) a_nil)) ⟨cs, x, rfl, rfl, rfl, b.ok, xn, rfl⟩) (by rw [hX]))) (fun j δ1 μ1 => ∃ (e4 e5 : Ent) (l' : List Stg), δ1 = [.d (bokD cs), .m a, .m p, .d (.int (i : Int)), e4, e5, .u] ∧ μ1 = [(p, .lst (l'.map stD)), (a, .dT (encT rowD tb))] ∧ l' = (X.take j).foldl (rcF tb x) l ∧ Rg tb l' ∧ l'[i]? = some x) ⟨_, _, l, rfl, rfl, rfl, g, hxi⟩ ?_ ?_
      · rintro B3 - j q δ1 μ1 hq ⟨e4, e5, l', rfl, rfl, hl', g', hx'⟩
        refine ⟨[4, 5], _, tg_tup2, ?_⟩
        show FD.Run _ _ _ _ [.d (bokD cs), .m a, .m p, .d (.int (i : Int)), .d (.int (q.2 : Int)), .d (stepD q.1), .u] _
        have lf' := g'.few
        have hnq : ∀ z, rcF tb x l' q = z → z = (X.take (j + 1)).foldl (rcF tb x) l := fun z h => by rw [fold_take _ _ hq, ← hl', h]
        have gq := rg_step g' (x := x) (ee q (List.mem_of_getElem? hq))
        have pq : (rcF tb x l' q)[i]? = some x := rc_pre hx'
        refine r_if (t_test (x_is (x_op (x_callE1 (a_cons (x_vm rfl) (a_cons (at_ _ _ _ _ _ l' hx') (a_cons (x_vd rfl) a_nil))) (List.mem_cons_of_mem _ List.mem_cons_self) ⟨tb, a, x, q.1, rfl, rfl, rfl, g0.tok b, rfl⟩) x_non o_notN) (by rw [isNon_join] : _ = Ent.d (.bool (!(joinR tb x.1 q.1).isNone))))) (fun hb => ?_) (fun hb => ?_)
        · have hb : (joinR tb x.1 q.1).isSome = true := by cases hj : joinR tb x.1 q.1 with
            | none => rw [hj] at hb; cases hb
            | some r => rfl
          have hstep : rcF tb x l' q = l' ++ (partsOf x.1 q.1).filter (fun g => !decide (g ∈ l')) := by unfold rcF; rw [if_pos hb]
          have two := parts_len2 x.1 q.1
          have tf : ((partsOf x.1 q.1).filter (fun g => !decide (g ∈ l'))).length ≤ 2 := Nat.le_trans (List.length_filter_le _ _) two
          have shl0 : Shp 2 (.list (l'.map stD)) := shp_list (n := 1) fun d hd => by
            obtain ⟨s, hs, rfl⟩ := List.mem_map.mp hd
            exact shp_stg 0 (stg_nm b.ok (g0.sub _ (g'.sub s hs)))
          have shl : SeqAt.shaped (.list (l'.map stD)) = true := shl0.shaped (by decide)
          have hallq : ∀ y ∈ partsOf x.1 q.1, y ∈ stages cs := fun y hy => by
            have : (partsOf x.1 q.1).all (CK.has tb) = true := by
              unfold joinR at hb
              split at hb
              · assumption
              · cases hb
            exact g0.sub _ (CK.has_mem.mp (List.all_eq_true.mp this y hy))
          refine r_ext (i := 0) (j := 0) (ds := l'.map stD) (x_vm rfl) (n_lcF (l := partsOf x.1 q.1) (enc := stD) (p := fun g => !decide (g ∈ l')) (f := stD) (i_list (x_callR (ds := [stD x, stepD q.1]) (a_cons (at_ _ _ _ _ _ l' hx') (a_cons (x_vd rfl) a_nil)) ⟨x, q.1, rfl, rfl⟩)) (by omega) (ts := [6]) (fun y => [.d (bokD cs), .m a, .m p, .d (.int (i : Int)), .d (.int (q.2 : Int)), .d (stepD q.1), .d (stD y)]) (fun y _ => tg_name) (fun k hk => hk) (fun y hy G' B' D' => ?_) fun y _ _ G' B' D' => x_vd rfl) rfl rfl ?_ fun σ H o => ⟨_, _, ⟨_, _, _, rfl, ?_, hnq _ rfl, gq, pq⟩, o⟩
          · refine t_test (x_is (x_op (x_vd rfl) (x_vm rfl) (o_notInD (.d _) (.m (j := 0) rfl) ((shp_stg 0 (stg_nm b.ok (hallq y hy))).shaped (by decide)) shl)) ?_)
            rw [List.any_map]
            congr 3
            rw [Bool.eq_iff_iff, List.any_eq_true, decide_eq_true_iff]
            refine ⟨fun ⟨z, hz, e⟩ => ?_, fun h => ⟨y, h, ?_⟩⟩
            · have e : PyData.eqv (stD z) (stD y) = true := e
              rw [eqv_st] at e
              rw [← of_decide_eq_true e]; exact hz
            · show PyData.eqv (stD y) (stD y) = true
              rw [eqv_st]; simp
          · rw [List.length_map, List.length_map]; omega
          · rw [hstep, List.map_append]; rfl
        · have hb : ¬ (joinR tb x.1 q.1).isSome = true := by cases hj : joinR tb x.1 q.1 with
            | none => decide
            | some r => rw [hj] at hb; cases hb
          have hstep : rcF tb x l' q = l' := by unfold rcF; rw [if_neg hb]
          exact r_next fun σ H o => ⟨_, _, ⟨_, _, l', rfl, rfl, hnq _ hstep, g', hx'⟩, o⟩
      · rintro δ1 μ1 ⟨e4, e5, l', rfl, rfl, hl', g', hx'⟩
        rw [List.take_length] at hl'
        refine fun σ H o => ⟨_, _, ⟨_, _, _, l', rfl, rfl, ?_, g'⟩, o⟩
        rw [hnx, hl']
        unfold rcP
        rw [hxi]
        show _ = (exL (crs cs x.1) x.2).foldl (rcF tb x) l
        rw [hX]
    · have hil : ¬ i < l.length := of_decide_eq_false hb
      refine r_next fun σ H o => ⟨_, _, ⟨_, _, _, l, rfl, rfl, ?_, g⟩, o⟩
      rw [hnx]
      unfold rcP
      rw [List.getElem?_eq_none (by omega)]
  · rintro δ1 μ1 ⟨e3, e4, e5, l, rfl, rfl, hl, g⟩
    have hl : l = reach cs tb (c0.nm, 0) := hl
    rw [← hl] at fin
    exact r_retE (x_cbP (a_cons (x_vm rfl) a_nil) (c_srt (.m (j := 0) rfl))) (fun q hq => List.mem_cons_of_mem _ hq) fin
end
end K09
namespace FD
open PySem L2 Evl
section
variable {C : Cfg} {M : List Addr} {δ : List Ent} {μ μ1 μ2 : Mem} {te ta tb : TE} {D : Ends} {t2 : TS} {a : Addr} {e : Ent} {x y : Str}
abbrev rJoinS (K : PySem.W.Frag) : V → List V → Hp → VK → Prop := fun x xs H Q => ∃ a p, ∃ ys : List Str, x = .str a ∧ xs = [.ref p] ∧ (SqL K H p (ys.map V.str) ∨ SqT K H p (ys.map V.str)) ∧
    (ys.map (·.length)).sum + ys.length * a.length ≤ 16777216 ∧ Q (.str (Txt.join a ys)) H
theorem x_join {ys : List Str} (hx : EvX C ta M δ μ μ1 (.d (.str x))) (h : EvX C te M δ μ1 μ2 e) (r : Rdd μ2 e (.list (ys.map .str))) (hz : (ys.map (·.length)).sum + ys.length * x.length ≤ 16777216) : EvX C (tBM C.K "str" (rJoinS C.K) ta (tCons te tNil)) M δ μ μ2 (.d (.str (Txt.join x ys))) := fun σ H o Q k =>
  hx σ H o _ fun v H1 o1 x1 r1 => by
    have e1 := Dp.str_of r1
    subst e1
    refine ⟨rfl, h σ H1 o1 _ fun w H2 o2 x2 r2 => ?_⟩
    obtain ⟨p, vs, q1, q2, q3⟩ := r.lst o2 r2
    have e3 := DpAll.strs q3
    subst e3
    exact ⟨x, p, ys, rfl, by rw [q1], .inl q2, hz, k _ H2 o2 (x1.trans x2) (.str _)⟩
theorem x_sindex {n : Nat} (hx : EvX C ta M δ μ μ1 (.d (.str x))) (h : EvX C te M δ μ1 μ2 (.d (.str y))) (hn : Txt.index0 x y = some n) : EvX C (tBMS C.K "str" (rIndexX fun _ _ _ _ => False) ta (tCons te tNil)) M δ μ μ2 (.d (.int (n : Nat))) := fun σ H o Q k =>
  hx σ H o _ fun v H1 o1 x1 r1 => by
    have e1 := Dp.str_of r1
    subst e1
    refine ⟨rfl, h σ H1 o1 _ fun w H2 o2 x2 r2 => ?_⟩
    refine ⟨x, y, rfl, by rw [Dp.str_of r2], fun m hm => ?_, fun z => by rw [hn] at z; cases z⟩
    rw [hn] at hm
    cases hm
    exact k _ H2 o2 (x1.trans x2) (.int _)
/-- x, y = "..", [] by way of a tuple -/
theorem q_parT {i j : Nat} (k : ∀ p, p ∉ M → Run C t2 D (p :: M) ((δ.set i (.d (.str x))).set j (.m p)) ((p, .lst []) :: μ)) : Run C (tSeq (tAsg (tTup (tCons (tC (.str x)) (tCons (tLst tNil) tNil))) (gTup C.K 2 (gCons (gName i) (gCons (gName j) gNil)))) t2) D M δ μ := fun σ H o =>
  ⟨sz_of (by simp), fun p hp => ⟨sz_of (by simp), fun q hq => by
    have o2 := o.new hp (mo := .lst []) (ho := .lst []) ⟨[], upd_same, .nil⟩
    have o3 := o2.grow (Ex.new (o := .tup [.str x, .ref p]) hq)
    exact ⟨q, [.str x, .ref p], rfl, st_of upd_same, rfl, _, _, rfl, _, _, rfl, rfl, k p (o.fresh hp) _ _ ((o3.set i (e := .d (.str x)) (.str x)).set j (e := .m p) rfl)⟩⟩⟩
/-- an if whose branches meet in J -/
theorem q_ifC {t : TS} {t3 : TS} (J : List Ent → Mem → Prop) (h : ∀ D', (∀ δ1 μ1, J δ1 μ1 → Nx C D' M δ1 μ1) → Run C t D' M δ μ) (k : ∀ δ1 μ1, J δ1 μ1 → Run C t3 D M δ1 μ1) : Run C (tSeq t t3) D M δ μ := h { D with nx := t3 D } k
theorem cut_neg1 (x : Str) (h : 1 ≤ x.length) : cutS x none (some (-1)) = cutS x none (some ((x.length - 1 : Nat) : Int)) := by
  unfold cutS
  have e : HT.sIx x.length x.length (some (-1)) = HT.sIx x.length x.length (some ((x.length - 1 : Nat) : Int)) := by
    rw [HT.sIx_nat]
    show (if (-1 : Int) < 0 then ((-1 : Int) + (x.length : Int)).toNat else min (-1 : Int).toNat x.length) = _
    rw [if_pos (by decide)]
    omega
  rw [e]
theorem atI_neg1 {α : Type} {xs : List α} {v : α} (h : xs[xs.length - 1]? = some v) : atI xs (-1) = some v := by
  have hl := (List.getElem?_eq_some_iff.mp h).1
  have e : xs = xs.take (xs.length - 1) ++ [v] := by
    have h3 := List.take_append_drop (xs.length - 1) xs
    rw [List.drop_eq_getElem_cons hl, List.drop_eq_nil_of_le (by omega)] at h3
    rw [List.getElem?_eq_getElem hl] at h
    rw [Option.some.inj h] at h3
    exact h3.symm
  rw [e]
  exact atI_last _ _
end
end FD
namespace K09
open PySem L2 FD Evl
theorem eqv_empty (xs : List PyData) : PyData.eqv (.list xs) (.list []) = xs.isEmpty := by
  cases xs <;> simp [PyData.eqv, PyData.eqvAll]
theorem beqI (a b : Int) : (a == b) = decide (a = b) := by
  by_cases h : a = b
  · subst h; simp
  · simp [h]
theorem ts_get {r : List Str} {i : Nat} {x : Str} (h : r[i]? = some x) : (r.map PyData.str)[i]? = some (.str x) := by rw [List.getElem?_map, h]; rfl
theorem nd_ixL {l : List Nat} (h : l.Nodup) {i j : Nat} {x : Nat} (hi : l[i]? = some x) (hj : l[j]? = some x) : i = j := by
  obtain ⟨li, ei⟩ := List.getElem?_eq_some_iff.mp hi
  obtain ⟨lj, ej⟩ := List.getElem?_eq_some_iff.mp hj
  refine Nat.le_antisymm (Nat.not_lt.mp fun q => ?_) (Nat.not_lt.mp fun q => ?_)
  · exact List.pairwise_iff_getElem.mp h j i lj li q (ej.trans ei.symm)
  · exact List.pairwise_iff_getElem.mp h i j li lj q (ei.trans ej.symm)
def letC (n : Nat) : Nat := letters.cps.toList.getD (n % 26) 0
def letS (n : Nat) : Str := ⟨#[letC n]⟩
theorem let_len : letters.cps.toList.length = 26 := by decide +kernel
theorem let_nodup : letters.cps.toList.Nodup := by decide +kernel
theorem letC_get (n : Nat) : letters.cps.toList[n % 26]? = some (letC n) := by
  unfold letC
  rw [List.getD_eq_getElem?_getD, List.getElem?_eq_getElem (by rw [let_len]; omega)]; rfl
theorem let_size : letters.length ≤ 100000 := by rw [len_codes, let_len]; omega
theorem x_let {C : Cfg} {M : List Addr} {δ : List Ent} {μ μ1 μ2 : Mem} {ta tb : TE} {n : Int} (hx : EvX C ta M δ μ μ1 (.d (.str letters))) (h : EvX C tb M δ μ1 μ2 (.d (.int n))) (h0 : 0 ≤ n) (h1 : n < 26) : EvX C (tOp rIxS ta tb) M δ μ μ2 (.d (.str (letS n.toNat))) :=
  x_op hx h (o_ixS let_size (at_nat h0 (by have := letC_get n.toNat; rwa [Nat.mod_eq_of_lt (by omega)] at this)))
theorem let_index : ∀ n < 26, Txt.index0 letters (letS n) = some n := by decide +kernel
/-! ### words -/
theorem app_codes (x y : Str) : (x ++ y).cps.toList = x.cps.toList ++ y.cps.toList := by
  show (x.cps ++ y.cps).toList = _
  simp
theorem app_len (x y : Str) : (x ++ y).length = x.length + y.length := by rw [len_codes, app_codes, List.length_append, ← len_codes, ← len_codes]
theorem cut_hi {x : Str} {p : Nat} (hp : p ≤ x.length) : (cutS x none (some (p : Int))).cps.toList = x.cps.toList.take p := by
  unfold cutS
  rw [HT.sIx_none, HT.sIx_nat, Nat.min_eq_left hp]
  simp
theorem cut_lo {x : Str} {p : Nat} (hp : p ≤ x.length) : (cutS x (some (p : Int)) none).cps.toList = x.cps.toList.drop p := by
  unfold cutS
  rw [HT.sIx_none, HT.sIx_nat, Nat.min_eq_left hp]
  have : (x.cps.toList.drop p).length = x.length - p := by rw [List.length_drop, ← len_codes]
  simp only []
  rw [List.take_of_length_le (by rw [this]; exact Nat.le_refl _)]
theorem letC_mem (n : Nat) : letC n ∈ letters.cps.toList := List.mem_of_getElem? (letC_get n)
theorem letS_codes (n : Nat) : (letS n).cps.toList = [letC n] := rfl
theorem letS_len (n : Nat) : (letS n).length = 1 := rfl
theorem let_back {c : Nat} (h : c ∈ letters.cps.toList) : ∃ n, n < 26 ∧ c = letC n := by
  obtain ⟨n, hn⟩ := List.getElem?_of_mem h
  have hl := (List.getElem?_eq_some_iff.mp hn).1
  rw [let_len] at hl
  have := letC_get n
  rw [Nat.mod_eq_of_lt hl, hn] at this
  exact ⟨n, hl, Option.some.inj this⟩
theorem join_codes : ∀ ys : List Str, (Str.join (Str.ofString "") ys).cps.toList = ys.flatMap fun y => y.cps.toList
  | [] => rfl
  | [x] => by simp [Str.join]
  | x :: y :: r => by
    show (x ++ Str.ofString "" ++ Str.join (Str.ofString "") (y :: r)).cps.toList = _
    rw [app_codes, app_codes, join_codes (y :: r)]
    have : (Str.ofString "").cps.toList = [] := by decide +kernel
    rw [this]; simp
theorem tjoin_codes (ys : List Str) : (Txt.join (Str.ofString "") ys).cps.toList = ys.flatMap fun y => y.cps.toList := by
  show (Builtin.Str.glued (Str.ofString "") ys).cps.toList = _
  rw [StrLaws.glued_eq_join, join_codes]
theorem wd_join {m : Nat} (f : Nat → Nat) (h0 : 0 < m) (h5 : m ≤ 5) : Nm (Txt.join (Str.ofString "") ((List.range m).map fun i => letS (f i))) := by
  have e : (Txt.join (Str.ofString "") ((List.range m).map fun i => letS (f i))).cps.toList = (List.range m).map fun i => letC (f i) := by
    rw [tjoin_codes, List.flatMap_map]
    induction List.range m with
    | nil => rfl
    | cons a l ih => rw [List.flatMap_cons, ih]; rfl
  have el : (Txt.join (Str.ofString "") ((List.range m).map fun i => letS (f i))).length = m := by rw [len_codes, e, List.length_map, List.length_range]
  refine ⟨by omega, by omega, fun c hc => ?_⟩
  rw [e] at hc
  obtain ⟨i, _, rfl⟩ := List.mem_map.mp hc
  exact letC_mem _
theorem wd_take {x : Str} (h : Nm x) {p : Nat} (hp : p < x.length) : Nm (cutS x none (some ((p + 1 : Nat) : Int))) := by
  have e := cut_hi (x := x) (p := p + 1) (by omega)
  have el : (cutS x none (some ((p + 1 : Nat) : Int))).length = p + 1 := by rw [len_codes, e, List.length_take, ← len_codes]; omega
  have := h.small
  refine ⟨by omega, by omega, fun c hc => ?_⟩
  rw [e] at hc
  exact h.ltr c (List.mem_of_mem_take hc)
theorem wd_put {x : Str} (h : Nm x) {p : Nat} (hp : p < x.length) (n : Nat) : Nm (cutS x none (some (p : Int)) ++ letS n ++ cutS x (some ((p + 1 : Nat) : Int)) none) := by
  have e1 := cut_hi (x := x) (p := p) (by omega)
  have e2 := cut_lo (x := x) (p := p + 1) (by omega)
  have e : (cutS x none (some (p : Int)) ++ letS n ++ cutS x (some ((p + 1 : Nat) : Int)) none).cps.toList = x.cps.toList.take p ++ [letC n] ++ x.cps.toList.drop (p + 1) := by rw [app_codes, app_codes, e1, e2, letS_codes]
  have el : (cutS x none (some (p : Int)) ++ letS n ++ cutS x (some ((p + 1 : Nat) : Int)) none).length = x.length := by
    have := len_codes x
    rw [len_codes, e, List.length_append, List.length_append, List.length_take, List.length_drop]
    simp only [List.length_cons, List.length_nil]
    omega
  refine ⟨by rw [el]; exact h.pos, by rw [el]; exact h.small, fun c hc => ?_⟩
  rw [e] at hc
  rcases List.mem_append.mp hc with q | q
  · rcases List.mem_append.mp q with q | q
    · exact h.ltr c (List.mem_of_mem_take q)
    · rw [List.mem_singleton.mp q]; exact letC_mem n
  · exact h.ltr c (List.mem_of_mem_drop q)
theorem wd_last {x : Str} (h : Nm x) (n : Nat) : Nm (cutS x none (some ((x.length - 1 : Nat) : Int)) ++ letS n) := by
  have e1 := cut_hi (x := x) (p := x.length - 1) (by omega)
  have e : (cutS x none (some ((x.length - 1 : Nat) : Int)) ++ letS n).cps.toList = x.cps.toList.take (x.length - 1) ++ [letC n] := by rw [app_codes, e1, letS_codes]
  have el : (cutS x none (some ((x.length - 1 : Nat) : Int)) ++ letS n).length = x.length := by
    have := len_codes x
    have := h.pos
    rw [len_codes, e, List.length_append, List.length_take]
    simp only [List.length_cons, List.length_nil]
    omega
  refine ⟨by rw [el]; exact h.pos, by rw [el]; exact h.small, fun c hc => ?_⟩
  rw [e] at hc
  rcases List.mem_append.mp hc with q | q
  · exact h.ltr c (List.mem_of_mem_take q)
  · rw [List.mem_singleton.mp q]; exact letC_mem n
theorem wd_end {x : Str} (h : Nm x) : ∃ n, n < 26 ∧ x.cps.toList[x.length - 1]? = some (letC n) := by
  have hl := len_codes x
  have hp := h.pos
  have e : x.cps.toList[x.length - 1]? = some (x.cps.toList[x.length - 1]'(by omega)) := List.getElem?_eq_getElem _
  obtain ⟨n, hn, en⟩ := let_back (h.ltr _ (List.mem_of_getElem? e))
  exact ⟨n, hn, by rw [e, en]⟩
/-! ### the names are unlike -/
theorem letC_inj {m n : Nat} (h : letC m = letC n) : m % 26 = n % 26 := nd_ixL let_nodup (letC_get m) (by rw [letC_get n, h])
/-- the name with its last letter so many letters on -/
def onC (x : Str) (c t : Nat) : List Nat := x.cps.toList.take (x.length - 1) ++ [letC (c + t)]
theorem onC_inj {x : Str} {c s t : Nat} (hs : s < 26) (ht : t < 26) (h : onC x c s = onC x c t) : s = t := by
  have h1 := List.append_cancel_left h
  have h2 := letC_inj (List.cons.inj h1).1
  omega
theorem onC_len {x : Str} (h : Nm x) (c t : Nat) : (onC x c t).length = x.length := by
  have := len_codes x
  have := h.pos
  unfold onC
  rw [List.length_append, List.length_take]
  simp only [List.length_cons, List.length_nil]
  omega
theorem onC_zero {x : Str} (h : Nm x) {c : Nat} (e : x.cps.toList[x.length - 1]? = some (letC c)) : x.cps.toList = onC x c 0 := by
  have hl := len_codes x
  have hp := h.pos
  have h2 : x.cps.toList.drop (x.length - 1) = [letC c] := by
    rw [List.drop_eq_getElem_cons (by omega)]
    have e2 : x.cps.toList[x.length - 1]'(by omega) = letC c := by
      have := List.getElem?_eq_getElem (l := x.cps.toList) (i := x.length - 1) (by omega)
      rw [this] at e
      exact Option.some.inj e
    rw [e2, List.drop_eq_nil_of_le (by omega)]
  have h3 := List.take_append_drop (x.length - 1) x.cps.toList
  rw [h2] at h3
  exact h3.symm
theorem onC_next {x nm : Str} {c t c2 : Nat} (hx : Nm x) (hn : Nm nm) (h : nm.cps.toList = onC x c t) (e : nm.cps.toList[nm.length - 1]? = some (letC c2)) : (cutS nm none (some ((nm.length - 1 : Nat) : Int)) ++ letS (c2 + 1)).cps.toList = onC x c (t + 1) := by
  have hl := onC_len hx c t
  have e1 : nm.length = x.length := by rw [len_codes, h, hl]
  have hp := hx.pos
  have e2 := cut_hi (x := nm) (p := nm.length - 1) (by omega)
  have tk : (x.cps.toList.take (x.length - 1)).length = x.length - 1 := by have := len_codes x; rw [List.length_take]; omega
  rw [app_codes, e2, letS_codes, e1, h]
  rw [e1, h] at e
  unfold onC at e ⊢
  rw [List.getElem?_append_right (by omega), tk, Nat.sub_self] at e
  have e3 : letC (c + t) = letC c2 := Option.some.inj e
  have e4 := letC_inj e3
  rw [List.take_append_of_le_length (by omega), List.take_of_length_le (by omega)]
  congr 2
  unfold letC
  rw [show (c2 + 1) % 26 = (c + (t + 1)) % 26 by omega]
theorem codes_eq {x y : Str} (h : x.cps.toList = y.cps.toList) : x = y := by
  cases x; cases y
  congr 1
  exact Array.toList_inj.mp h
theorem nodup_le0 {α : Type} [DecidableEq α] : ∀ {l k : List α}, l.Nodup → (∀ x ∈ l, x ∈ k) → l.length ≤ k.length
  | [], _, _, _ => Nat.zero_le _
  | x :: l, k, nd, h => by
    obtain ⟨h1, h2⟩ := List.nodup_cons.mp nd
    have hx := h x List.mem_cons_self
    have := nodup_le0 (l := l) (k := k.erase x) h2 fun y hy => (List.mem_erase_of_ne (fun z => h1 (by rw [← z]; exact hy))).mpr (h y (List.mem_cons_of_mem _ hy))
    rw [List.length_erase_of_mem hx] at this
    have := List.length_pos_of_mem hx
    rw [List.length_cons]; omega
theorem not_all {l : List Str} {x : Str} {c n : Nat} (hn : n ≤ 26) (hl : l.length < n) (h : ∀ s < n, ∃ y ∈ l, y.cps.toList = onC x c s) : False := by
  have nd : ((List.range n).map fun s => (⟨(onC x c s).toArray⟩ : Str)).Nodup := by
    refine List.pairwise_map.mpr (List.Pairwise.imp_of_mem ?_ (List.nodup_range (n := n)))
    intro a b ha hb ne e
    have ha := List.mem_range.mp ha
    have hb := List.mem_range.mp hb
    have e2 : onC x c a = onC x c b := by
      have := congrArg (fun z : Str => z.cps.toList) e
      simpa using this
    exact ne (onC_inj (by omega) (by omega) e2)
  have := nodup_le0 (k := l) nd fun y hy => by
    obtain ⟨s, hs, rfl⟩ := List.mem_map.mp hy
    obtain ⟨y, hy, ey⟩ := h s (List.mem_range.mp hs)
    have : y = ⟨(onC x c s).toArray⟩ := codes_eq (by rw [ey])
    rw [← this]; exact hy
  rw [List.length_map, List.length_range] at this
  omega

theorem cut_sub {x : Str} (a b : Nat) : ∀ c ∈ (cutS x (some (a : Int)) (some (b : Int))).cps.toList, c ∈ x.cps.toList := fun c hc => by
  unfold cutS at hc
  exact List.mem_of_mem_drop (List.mem_of_mem_take hc)
theorem cut_lenab {x : Str} (a b : Nat) : (cutS x (some (a : Int)) (some (b : Int))).length ≤ x.length - a := by
  rw [len_codes]
  unfold cutS
  rw [HT.sIx_nat, HT.sIx_nat]
  have := len_codes x
  simp only [List.length_take, List.length_drop]
  omega
theorem wd_mid {x : Str} (h : Nm x) {p : Nat} (hp : p < x.length) (n b : Nat) : Nm (cutS x none (some (p : Int)) ++ letS n ++ cutS x (some ((p + 1 : Nat) : Int)) (some (b : Int))) := by
  have e1 := cut_hi (x := x) (p := p) (by omega)
  have l2 := cut_lenab (x := x) (p + 1) b
  have l1 : (cutS x none (some (p : Int))).length = p := by rw [len_codes, e1, List.length_take, ← len_codes]; omega
  have el : (cutS x none (some (p : Int)) ++ letS n ++ cutS x (some ((p + 1 : Nat) : Int)) (some (b : Int))).length = p + 1 + (cutS x (some ((p + 1 : Nat) : Int)) (some (b : Int))).length := by
    rw [app_len, app_len, l1, letS_len]
  have h5 := h.small
  refine ⟨by rw [el]; omega, by rw [el]; omega, fun c hc => ?_⟩
  rw [app_codes, app_codes, e1, letS_codes] at hc
  rcases List.mem_append.mp hc with q | q
  · rcases List.mem_append.mp q with q | q
    · exact h.ltr c (List.mem_of_mem_take q)
    · rw [List.mem_singleton.mp q]; exact letC_mem n
  · exact h.ltr c (cut_sub _ _ c q)
def bxL (b : Box) : Nat → Box
  | 0 => b
  | i + 1 => tkB (bxL b i) 26
def Pna (es : List Ent) (μ : Mem) : Prop := ∃ (b : Addr) (n : Nat) (bx : Box), es = [.m b, .d (.int (n : Int))] ∧ μ = [(b, .lst bx.ds)] ∧ n ≤ 7
def Qna (es : List Ent) (μ : Mem) (d : PyData) (μ' : Mem) : Prop := ∀ (b : Addr) (n : Nat) (bx : Box), es = [.m b, .d (.int (n : Int))] → μ = [(b, .lst bx.ds)] → ∃ (l : List Str) (bx' : Box), d = .list (l.map .str) ∧ l.length = n ∧ (∀ x ∈ l, Nm x) ∧ l.Nodup ∧ μ' = [(b, .lst bx'.ds)]
section
variable {P : Program} {w : World} {K : PySem.W.Frag} {mg : Str → Option Value} {base : Heap} {Cb : Addr}
abbrev nNm : List Str := ["_law_box_here", "_law_many", "_law_turn", "_law_letters", "_law_found", "_law_step", "_law_name", "_law_place"]
theorem scNm : FnScope nNm ["_law_box_here", "_law_many"] (defScope sNm) := ⟨rfl, rfl, rfl, by decide +kernel, rfl, by decide +kernel, by decide +kernel⟩
theorem ok_nm {f : Addr} {fd : FuncData} (T : Txt K mg Cb) (F : Fun K "_law_names" "_law_names" sNm f fd) {f1 f2 : Addr} {fd1 fd2 : FuncData} (H1 : Has K mg "_law_take" sTk ["_law_box_here", "_law_many"] f1 fd1) (H2 : Has K mg "_law_pick" sPk ["_law_box_here", "_law_some"] f2 fd2) : FnOk P w K mg base CX0 3 f fd ["_law_box_here", "_law_many"] (spX K 2 Pna Qna) := by
  have G1 : FnOk P w K mg base CX0 1 f1 fd1 ["_law_box_here", "_law_many"] (spW K 2 Rtk) := ok_tk T H1.F
  have G2 : FnOk P w K mg base CX0 2 f2 fd2 ["_law_box_here", "_law_some"] (spE K 2 Rpk) := ok_pk T H2.F H1
  refine def_X F scNm (by decide) rfl fun cdv A outer s H E hr => ?_
  have nd := scNm.nd
  have hr1 : Room 1 _ := hr.mono (by decide)
  refine ⟨_, (pss_cons (ps_asg (pe_tup (pa_cons pe_str (pa_cons (pe_lst pa_nil) pa_nil))) (pg_tup rfl (pgs_cons (pg_name (i := 3) nd rfl (Or.inr rfl)) (pgs_cons (pg_name (i := 4) nd rfl (Or.inl rfl)) pgs_nil))))
 (pss_cons (ps_for PassesOwn.never rfl (pi_range1 (by rfl) T.range (pa_cons (pv 1) pa_nil)) (pg_name (i := 2) nd rfl (Or.inl rfl)) (pss_cons (ps_if (PW.pt (pw_or (pt_cmpR (op_eqD hr.units) (pv 4) (pe_lst pa_nil) (nomark _)) (pw_or1 (pt_cmpR (op_eqD hr.units) (pe_call G1 hr1 rfl H1.m H1.F.kp H1.b .nil pass0 (pa_cons (pv 0) (pa_cons pe_int pa_nil))) pe_int (nomark _))))) (pss_one (ps_set (i := 6) nd rfl (Or.inl rfl) (pe_bm PySem.F.plainAttrs_str PySem.F.slot_str_join PySem.F.type_str_join mt_join pe_str (pa_cons (pe_lc (own := [("_law_place", 7)]) (g := (gName 7)) (tt := tYes) rfl nd (pi_range1 (by rfl) T.range (pa_cons (pe_op op_add pe_int (pe_call G1 hr1 rfl H1.m H1.F.kp H1.b .nil pass0 (pa_cons (pv 0) (pa_cons pe_int pa_nil)))) pa_nil)) (blkOk_by (N := nNm) (sc := defScope sNm) (by decide +kernel)) (fun _ _ _ _ _ => (pg_name (i := 7) nd rfl (Or.inl rfl))) (fun _ _ _ _ _ => pts_nil) (fun _ _ _ _ _ => (pe_ix ix_str (pv 3) (pe_call G1 hr1 rfl H1.m H1.F.kp H1.b .nil pass0 (pa_cons (pv 0) (pa_cons pe_int pa_nil))) (fun _ _ => rfl)))) pa_nil)))) (pss_cons (ps_set (i := 6) nd rfl (Or.inl rfl) (pe_call G2 hr rfl H2.m H2.F.kp H2.b .nil pass0 (pa_cons (pv 0) (pa_cons (pv 4) pa_nil))))
 (pss_cons (ps_set (i := 7) nd rfl (Or.inl rfl) (pe_call G1 hr1 rfl H1.m H1.F.kp H1.b .nil pass0 (pa_cons (pv 0) (pa_cons (pe_callB call_len_str (by rfl) T.len PySem.boot_len (pa_cons (pv 6) pa_nil)) pa_nil))))
 (pss_one (ps_set (i := 6) nd rfl (Or.inl rfl) (pe_op op_add_str (pe_op op_add_str (pe_slice sl_str (pv 6) po_none (po_some (pv 7))) (pe_ix ix_str (pv 3) (pe_call G1 hr1 rfl H1.m H1.F.kp H1.b .nil pass0 (pa_cons (pv 0) (pa_cons pe_int pa_nil))) (fun _ _ => rfl))) (pe_slice sl_str (pv 6) (po_some (pe_op op_add (pv 7) pe_int)) (po_some (pe_op op_add pe_int (pe_call G1 hr1 rfl H1.m H1.F.kp H1.b .nil pass0 (pa_cons (pv 0) (pa_cons pe_int pa_nil))))))))))))
 (pss_cons (ps_for PassesOwn.never rfl (pi_range1 (by rfl) T.range (pa_cons (pv 1) pa_nil)) (pg_name (i := 5) nd rfl (Or.inl rfl)) (pss_one (ps_if (pt_cmpR op_in_seq (pv 6) (pv 4) (by with_unfolding_all rfl)) (pss_one (ps_set (i := 6) nd rfl (Or.inl rfl) (pe_op op_add_str (pe_slice sl_str (pv 6) po_none (po_some (pe_un un_neg pe_int))) (pe_ix ix_str (pv 3) (pe_op op_mod (pe_op op_add (pe_bmS PySem.F.plainAttrs_str PySem.F.slot_str_index PySem.F.type_str_index (mt_indexX rfl takes0) (pv 3) (pa_cons (pe_ix ix_str (pv 6) (pe_un un_neg pe_int) (fun _ _ => rfl)) pa_nil)) pe_int) pe_int) (fun _ _ => rfl))))) pss_nil)))
 (pss_one (ps_expr (pe_bm PySem.F.plainAttrs_list PySem.F.slot_list_append PySem.F.type_list_append mt_append (pv 4) (pa_cons (pv 6) pa_nil)))))))
 (pss_one (ps_ret (pv 4))))), ?_⟩
  rintro M G B es μ _ ⟨b, n, bx, rfl, rfl, hn⟩ D fin
  show FD.Run _ _ D M [.m b, .d (.int (n : Int)), .u, .u, .u, .u, .u, .u] [(b, .lst bx.ds)]
  refine q_parT fun f hfM => ?_
  show FD.Run _ _ D (f :: M) [.m b, .d (.int (n : Int)), .u, .d (.str letters), .m f, .u, .u, .u] [(f, .lst []), (b, .lst bx.ds)]
  refine q_for (i_rng1 (n := (n : Int)) (a_cons (x_vd rfl) a_nil) (by omega) (by omega))
    (fun i δ μ => ∃ (l : List Str) (bx' : Box) (e2 e5 e6 e7 : Ent), δ = [.m b, .d (.int (n : Int)), e2, .d (.str letters), .m f, e5, e6, e7] ∧ μ = [(f, .lst (l.map .str)), (b, .lst bx'.ds)] ∧ l.length = i ∧ l.Nodup ∧ ∀ x ∈ l, Nm x)
    ⟨[], bx, _, _, _, _, rfl, rfl, rfl, List.nodup_nil, fun x h => absurd h (by simp)⟩ ?_ ?_
  · rintro B' hB i d δ1 μ1 hi ⟨l, bx1, e2, e5, e6, e7, rfl, rfl, hl, hnd, hw⟩
    have hil := (List.getElem?_eq_some_iff.mp hi).1
    rw [rngD_length] at hil
    refine ⟨[2], _, tg_name, ?_⟩
    show FD.Run _ _ _ _ [.m b, .d (.int (n : Int)), .d d, .d (.str letters), .m f, e5, e6, e7] [(f, .lst (l.map .str)), (b, .lst bx1.ds)]
    have shl : SeqAt.shaped (.list (l.map .str)) = true := (show Shp 1 (.list (l.map .str)) from shp_list (n := 0) fun d hd => by
        obtain ⟨x, hx, rfl⟩ := List.mem_map.mp hd
        exact shp_str 0 (hw x hx).tok).shaped (by decide)
    have wordB : ∀ (bx2 : Box) (D' : Ends), (∀ δ1 μ1, (∃ (nm : Str) (bx' : Box) (e7 : Ent), δ1 = [.m b, .d (.int (n : Int)), .d d, .d (.str letters), .m f, e5, .d (.str nm), e7] ∧ μ1 = [(f, .lst (l.map .str)), (b, .lst bx'.ds)] ∧ Nm nm) → Nx ⟨K, M, G, B'⟩ D' (f :: M) δ1 μ1) →
        FD.Run ⟨K, M, G, B'⟩ (tAsg (tBM K "str" (rJoinS K) (tC (.str "")) (tCons (tLc (iRng1 (tCons (tOp (rI0 fun i j => .int (i + j)) (tC (.int 1)) (tCall (spW K 2 Rtk) [] E0 (tCons (tVar 0) (tCons (tC (.int 5)) tNil)))) tNil)) (gName 7) tYes (tOp rIxS (tVar 3) (tCall (spW K 2 Rtk) [] E0 (tCons (tVar 0) (tCons (tC (.int 26)) tNil)))) [7]) tNil)) (gName 6)) D' (f :: M) [.m b, .d (.int (n : Int)), .d d, .d (.str letters), .m f, e5, e6, e7] [(f, .lst (l.map .str)), (b, .lst bx2.ds)] := fun bx2 D' kk => by
      have hv5 := tkV_lt (b := bx2) (n := 5) (by decide)
      obtain ⟨m, hm⟩ : ∃ m : Nat, 1 + tkV bx2 5 = (m : Int) := ⟨(1 + tkV bx2 5).toNat, by omega⟩
      have hv26 : ∀ i, 0 ≤ tkV (bxL (tkB bx2 5) i) 26 ∧ tkV (bxL (tkB bx2 5) i) 26 < 26 := fun i => tkV_lt (by decide)
      refine r_asg (x_is (x_join (ys := (List.range m).map fun i => letS (tkV (bxL (tkB bx2 5) i) 26).toNat) x_str (x_lc (fun i => [(f, .lst (l.map .str)), (b, .lst (bxL (tkB bx2 5) i).ds)]) (fun _ => true) (fun i => .str (letS (tkV (bxL (tkB bx2 5) i) 26).toNat)) (i_rng1 (n := 1 + tkV bx2 5) (a_cons (x_op x_int (x_takeJ 1 (x_vm rfl) x_int rfl (by decide) (by decide)) o_I0) a_nil) (by omega) (by omega)) (by rw [rngD_length]; omega) fun i d hd G' B'' D'' => ?_) ?_ ?_) rfl) (kk _ _ ⟨_, _, _, rfl, rfl, wd_join _ (by omega) (by omega)⟩)
      · exact ⟨[7], _, _, tg_name, fun k hk => hk, t_yes, fun _ => x_let (x_vd rfl) (x_takeJ 1 (x_vm rfl) x_int rfl (by decide) (by decide)) (hv26 i).1 (hv26 i).2, fun z => nomatch z⟩
      · rw [lcD_all, rngD_length, hm, List.map_map]
        exact .d _
      · rw [List.map_map]
        have : ((List.range m).map ((fun x : Str => x.length) ∘ fun i => letS (tkV (bxL (tkB bx2 5) i) 26).toNat)).sum = m := by
          rw [show ((fun x : Str => x.length) ∘ fun i => letS (tkV (bxL (tkB bx2 5) i) 26).toNat) = fun _ => 1 from rfl]
          rw [List.map_const', List.length_range, List.sum_replicate_nat, Nat.mul_one]
        rw [this, List.length_map, List.length_range]
        have : (Str.ofString "").length = 0 := by decide
        rw [this]; omega
    have emp : ∀ (G' : Hp), EvX ⟨K, M, G', B'⟩ (tOp (rEqD K) (tVar 4) (tLst tNil)) (f :: M) [.m b, .d (.int (n : Int)), .d d, .d (.str letters), .m f, e5, e6, e7] [(f, .lst (l.map .str)), (b, .lst bx1.ds)] [(f, .lst (l.map .str)), (b, .lst bx1.ds)] (.d (.bool (decide (l = [])))) := fun G' =>
      x_is (x_op (x_vm rfl) (x_lst (ds := []) a_nil (by simp)) (o_eqD (.m (j := 0) rfl) (.d _) shl ((shp_nil 0).shaped (by decide)))) (by rw [eqv_empty]; cases l <;> simp)
    refine q_ifC (fun δ μ => ∃ (nm : Str) (bx' : Box) (e7 : Ent), δ = [.m b, .d (.int (n : Int)), .d d, .d (.str letters), .m f, e5, .d (.str nm), e7] ∧ μ = [(f, .lst (l.map .str)), (b, .lst bx'.ds)] ∧ Nm nm) (fun D' kk => ?_) ?_
    · by_cases hl0 : l = []
      · exact r_if (b := true) (μ' := [(f, .lst (l.map .str)), (b, .lst bx1.ds)]) (t_is (t_or (t_test (emp G)) (c := false) (fun z => absurd hl0 (of_decide_eq_false z)) (fun _ => rfl)) (by rw [decide_eq_true hl0]; rfl)) (fun _ => wordB bx1 D' kk) (fun z => nomatch z)
      · have hv3 := tkV_lt (b := bx1) (n := 3) (by decide)
        refine r_if (b := decide (tkV bx1 3 = 0)) (μ' := [(f, .lst (l.map .str)), (b, .lst (tkB bx1 3).ds)]) (t_is (t_or (t_test (emp G)) (fun _ => t_test (x_op (x_takeJ 1 (x_vm rfl) x_int rfl (by decide) (by decide)) x_int (o_eqD (.d _) (.d _) ((shp_int 0 _).shaped (by decide)) ((shp_int 0 _).shaped (by decide))))) (fun z => absurd (of_decide_eq_true z) hl0)) (by rw [decide_eq_false hl0, eqv_int, beqI]; rfl)) (fun _ => wordB (tkB bx1 3) D' kk) (fun hb => ?_)
        generalize tkB bx1 3 = bx2
        have l0 : 0 < l.length := List.length_pos_iff.mpr hl0
        have hvp := tkV_lt (b := bx2) (n := (l.map PyData.str).length) (by rw [List.length_map]; omega)
        rw [List.length_map] at hvp
        obtain ⟨x0, hx0⟩ : ∃ x0, l[(tkV bx2 (l.map PyData.str).length).toNat]? = some x0 := ⟨_, List.getElem?_eq_getElem (by rw [List.length_map]; omega)⟩
        have w0 := hw x0 (List.mem_of_getElem? hx0)
        refine q_asg (x_pickM (x_vm rfl) (x_vm rfl) (by rw [List.length_map]; exact l0) (by rw [List.length_map]; omega) (ts_get hx0)) ?_
        show FD.Run _ _ _ _ [.m b, .d (.int (n : Int)), .d d, .d (.str letters), .m f, e5, .d (.str x0), e7] [(f, .lst (l.map .str)), (b, .lst (tkB bx2 (l.map PyData.str).length).ds)]
        generalize tkB bx2 (l.map PyData.str).length = bx3
        have hvq := tkV_lt (b := bx3) (n := x0.length) (by have := w0.pos; omega)
        obtain ⟨p, hp⟩ : ∃ p : Nat, tkV bx3 x0.length = (p : Int) := ⟨(tkV bx3 x0.length).toNat, by omega⟩
        have z5 : x0.length ≤ 100000 := by have := w0.small; omega
        have z0 := w0.pos
        refine q_asg (e := .d (.int (p : Int))) (x_is (x_takeJ 1 (x_vm rfl) (x_cbP (a_cons (x_vd rfl) a_nil) (c_lenS z5)) rfl (by omega) (by omega)) (by rw [hp])) ?_
        show FD.Run _ _ _ _ [.m b, .d (.int (n : Int)), .d d, .d (.str letters), .m f, e5, .d (.str x0), .d (.int (p : Int))] [(f, .lst (l.map .str)), (b, .lst (tkB bx3 x0.length).ds)]
        generalize tkB bx3 x0.length = bx4
        have n1 : ((p : Int) + 1) = ((p + 1 : Nat) : Int) := by omega
        have hpl : p < x0.length := by omega
        have hv26 := tkV_lt (b := bx4) (n := 26) (by decide)
        have hv2 := tkV_lt (b := tkB bx4 26) (n := 2) (by decide)
        obtain ⟨h, hh⟩ : ∃ h : Nat, 4 + tkV (tkB bx4 26) 2 = (h : Int) := ⟨(4 + tkV (tkB bx4 26) 2).toNat, by omega⟩
        have w1 := wd_mid w0 hpl (tkV bx4 26).toNat h
        have lc1 : (cutS x0 none (some (p : Int))).length ≤ 5 := by have := w0.small; rw [len_codes, cut_hi (by omega), List.length_take, ← len_codes]; omega
        have lc2 : (cutS x0 (some ((p + 1 : Nat) : Int)) (some (h : Int))).length ≤ 5 := by have := w0.small; have := cut_lenab (x := x0) (p + 1) h; omega
        refine r_asg (x_op (x_op (x_slS (x_vd rfl) p_none (p_some (x_vd rfl)) z5) (x_let (x_vd rfl) (x_takeJ 1 (x_vm rfl) x_int rfl (by decide) (by decide)) hv26.1 hv26.2) (o_addS (by rw [letS_len]; omega))) (x_slS (hi := some (h : Int)) (x_vd rfl) (p_some (x_op (x_vd rfl) x_int o_I0)) (p_some (x_is (x_op x_int (x_takeJ 1 (x_vm rfl) x_int rfl (by decide) (by decide)) o_I0) (by rw [hh]))) z5) (o_addS (by rw [n1, app_len, letS_len]; omega))) (kk _ _ ⟨_, _, _, rfl, rfl, ?_⟩)
        rw [n1]; exact w1
    · rintro δ1 μ1 ⟨nm0, bx3, e7, rfl, rfl, hnm0⟩
      obtain ⟨c0, hc0, ec0⟩ := wd_end hnm0
      refine q_for (i_rng1 (n := (n : Int)) (a_cons (x_vd rfl) a_nil) (by omega) (by omega))
        (fun j δ μ => ∃ (nm : Str) (e5 : Ent) (t : Nat), δ = [.m b, .d (.int (n : Int)), .d d, .d (.str letters), .m f, e5, .d (.str nm), e7] ∧ μ = [(f, .lst (l.map .str)), (b, .lst bx3.ds)] ∧ Nm nm ∧ t ≤ j ∧ nm.cps.toList = onC nm0 c0 t ∧ (∀ s < t, ∃ y ∈ l, y.cps.toList = onC nm0 c0 s) ∧ (t < j → nm ∉ l)) ⟨nm0, _, 0, rfl, rfl, hnm0, Nat.le_refl _, onC_zero hnm0 ec0, fun s hs => absurd hs (Nat.not_lt_zero _), fun z => absurd z (Nat.lt_irrefl _)⟩ ?_ ?_
      · rintro B'' hB' j dj δ1 μ1 hj ⟨nm, e5, t, rfl, rfl, hnm, ht, hcd, hbefore, hout⟩
        refine ⟨[5], _, tg_name, ?_⟩
        show FD.Run _ _ _ _ [.m b, .d (.int (n : Int)), .d d, .d (.str letters), .m f, .d dj, .d (.str nm), e7] [(f, .lst (l.map .str)), (b, .lst bx3.ds)]
        refine r_if (t_test (x_op (x_vd rfl) (x_vm rfl) (o_inL (.m (j := 0) rfl)))) (fun hb => ?_) fun hb => ?_
        · have hin : nm ∈ l := of_decide_eq_true hb
          have htj : t = j := by
            rcases Nat.lt_or_ge t j with z | z
            · exact absurd hin (hout z)
            · omega
          subst htj
          obtain ⟨c, hc, ec⟩ := wd_end hnm
          have z5 : nm.length ≤ 100000 := by have := hnm.small; omega
          have hp := hnm.pos
          have lc1 : (cutS nm none (some ((nm.length - 1 : Nat) : Int))).length ≤ 5 := by have := hnm.small; rw [len_codes, cut_hi (by omega), List.length_take, ← len_codes]; omega
          have hnext := onC_next hnm0 hnm hcd ec
          have em : letS (((c : Int) + 1) % 26).toNat = letS (c + 1) := by
            unfold letS letC
            rw [show (((c : Int) + 1) % 26).toNat % 26 = (c + 1) % 26 by omega]
          refine r_asg (x_op (x_slS (x_vd rfl) p_none (p_some (x_neg x_int)) z5) (x_let (x_vd rfl) (x_op (x_op (x_sindex (y := letS c) (x_vd rfl) (x_op (x_vd rfl) (x_neg x_int) (o_ixS z5 (by rw [len_codes] at ec; exact atI_neg1 ec))) (let_index c hc)) x_int o_I0) x_int (o_I (by decide))) (by omega) (by omega)) (o_addS (by rw [cut_neg1 nm hp, letS_len]; omega))) fun σ H o => ⟨_, _, ⟨_, _, t + 1, rfl, rfl, ?_, Nat.le_refl _, ?_, ?_, fun z => absurd z (Nat.lt_irrefl _)⟩, o⟩
          · rw [cut_neg1 nm hp]; exact wd_last hnm _
          · rw [cut_neg1 nm hp, em]; exact hnext
          · intro s hs
            rcases Nat.lt_or_ge s t with z | z
            · exact hbefore s z
            · have : s = t := by omega
              subst this
              exact ⟨nm, hin, hcd⟩
        · have hno : nm ∉ l := of_decide_eq_false hb
          exact r_next fun σ H o => ⟨_, _, ⟨_, _, t, rfl, rfl, hnm, by omega, hcd, hbefore, fun _ => hno⟩, o⟩
      · rintro δ1 μ1 ⟨nm, e5, t, rfl, rfl, hnm, ht, hcd, hbefore, hout⟩
        rw [rngD_length] at ht hout
        have hno : nm ∉ l := by
          rcases Nat.lt_or_ge t ((n : Int)).toNat with z | z
          · exact hout z
          · exact (not_all (n := n) (by omega) (by omega) fun s hs => hbefore s (by omega)).elim
        refine r_app (j := 0) (d := .str nm) (x_vm rfl) (x_vd rfl) rfl rfl (by rw [List.length_map]; omega) fun σ H o => ⟨_, _, ⟨l ++ [nm], bx3, _, _, _, _, rfl, ?_, by rw [List.length_append, hl]; rfl, ?_, fun x hx => ?_⟩, o⟩
        · rw [List.map_append]; rfl
        · refine List.nodup_append.mpr ⟨hnd, List.nodup_cons.mpr ⟨by simp, List.nodup_nil⟩, fun a ha b hb e => ?_⟩
          rw [List.mem_singleton.mp hb] at e
          exact hno (by rw [← e]; exact ha)
        · rcases List.mem_append.mp hx with q | q
          · exact hw x q
          · rw [List.mem_singleton.mp q]; exact hnm
  · rintro δ1 μ1 ⟨l, bx1, e2, e5, e6, e7, rfl, rfl, hl, hnd, hw⟩
    rw [rngD_length] at hl
    refine r_retEL (μ' := [(b, .lst bx1.ds)]) (x_vm rfl) List.mem_cons_self hfM (fun z hz => List.mem_cons_of_mem _ hz) (fin _ _ (fun b' n' bx0 he hm => ?_) rfl)
    have e0 : Ent.m b = .m b' := (List.cons.inj he).1
    cases e0
    have e1 : Ent.d (.int (n : Int)) = .d (.int (n' : Int)) := (List.cons.inj (List.cons.inj he).2).1
    have e2 : (n : Int) = (n' : Int) := by cases e1; rfl
    exact ⟨l, bx1, rfl, by omega, hw, hnd, rfl⟩
end
end K09
namespace FD
open PySem L2 Evl
section
variable {C : Cfg} {M : List Addr} {δ : List Ent} {μ : Mem} {D : Ends} {t2 : TS} {i j l : Nat} {z : Int}
/-- i, j, l = z, [], [] -/
theorem q_par3NN (k : ∀ p q, p ∉ M → q ∉ p :: M → Run C t2 D (q :: p :: M) (((δ.set i (.d (.int z))).set j (.m p)).set l (.m q)) ((q, .lst []) :: (p, .lst []) :: μ)) : Run C (tSeq (tPar3 i j l (tCons (tC (.int z)) (tCons (tLst tNil) (tCons (tLst tNil) tNil)))) t2) D M δ μ := fun σ H o =>
  ⟨sz_of (by simp), fun p hp => ⟨sz_of (by simp), fun q hq => by
    have o2 := o.new hp (mo := .lst []) (ho := .lst []) ⟨[], upd_same, .nil⟩
    have o3 := o2.new hq (mo := .lst []) (ho := .lst []) ⟨[], upd_same, .nil⟩
    exact ⟨.int z, .ref p, .ref q, rfl, k p q (o.fresh hp) (o2.fresh hq) _ _ (((o3.set i (e := .d (.int z)) (.int z)).set j (e := .m p) rfl).set l (e := .m q) rfl)⟩⟩⟩
end
end FD
namespace K09
open PySem L2 FD Evl
/-! ### a course from its text -/
structure Sh where
  b : Nat
  call : Bool
  ix : Nat
  e : Nat
  deriving DecidableEq
structure Ps where
  n : Nat
  shs : List Sh
  at_ : Nat
  first : Option Sh
structure Cs where
  n : Nat
  ends : List Nat
  shs : List Sh
def doL : List Nat := [65, 66, 67, 68]
def caL : List Nat := [120, 121, 122]
def act (c : Nat) : Bool := decide (c ∈ doL) || decide (c ∈ caL)
def shOf (z : Ps) (c : Nat) : Sh := if c ∈ doL then ⟨z.at_, false, c - 65, z.n⟩ else ⟨z.at_, true, c - 120, z.n⟩
def itm (z : Ps) (c : Nat) : Ps := if act c = true then ⟨z.n + 1, z.shs ++ [shOf z c], z.n, some (z.first.getD (shOf z c))⟩ else z
def wrd (y : Cs) (w : List Nat) : Cs :=
  let z := w.foldl itm ⟨y.n, y.shs, 0, none⟩
  ⟨z.n, if 33 ∈ w then y.ends else y.ends ++ [z.at_], if 42 ∈ w then z.shs ++ [{ z.first.getD ⟨0, false, 0, 0⟩ with b := z.at_ }] else z.shs⟩
def parse (ws : List (List Nat)) : Cs := ws.foldl wrd ⟨1, [], []⟩
def chS (c : Nat) : Str := ⟨#[c]⟩
structure TxOk (text : Str) (ws : List (List Nat)) : Prop where
  len : text.length ≤ 1000
  wl : ∀ w ∈ Txt.split text "|", w.length ≤ 1000
  eq : (Txt.split text "|").map (fun w => Txt.split w " ") = ws.map (fun it => it.map chS)
  few : ws.length ≤ 20
  wf : ∀ w ∈ ws, w.length ≤ 20
  star : ∀ w ∈ ws, 42 ∈ w → w.any act = true
  ends : ∀ k ∈ (parse ws).ends, k < (parse ws).n
def inj (deeds calls : List Str) (s : Sh) : Step := ⟨s.b, s.call, (if s.call = true then calls else deeds).getD s.ix "", s.e⟩
def mkC (nm : Str) (deeds calls : List Str) (z : Cs) : Crs := ⟨nm, z.n, (List.range z.n).filter fun k => decide (k ∈ z.ends), z.shs.map (inj deeds calls)⟩
def firstD (deeds calls : List Str) : Option Sh → PyData
  | none => .tuple []
  | some s => .tuple [.str (wh s.call), .str (inj deeds calls s).nm, .int (s.e : Int)]
theorem stepD_first (deeds calls : List Str) (s : Sh) (b : Nat) : stepD (inj deeds calls { s with b := b }) = .tuple [.int (b : Int), .str (wh s.call), .str (inj deeds calls s).nm, .int (s.e : Int)] := rfl
theorem itm_len (z : Ps) (c : Nat) : (itm z c).shs.length ≤ z.shs.length + 1 := by
  unfold itm
  split
  · show (z.shs ++ [_]).length ≤ _
    simp
  · omega
theorem fold_len : ∀ (w : List Nat) (z : Ps), (w.foldl itm z).shs.length ≤ z.shs.length + w.length
  | [], z => Nat.le_refl _
  | c :: w, z => by
    have h1 := fold_len w (itm z c)
    have h2 := itm_len z c
    rw [List.length_cons, List.foldl_cons]; omega
theorem fold_some : ∀ (w : List Nat) (z : Ps), (z.first.isSome = true ∨ w.any act = true) → (w.foldl itm z).first.isSome = true
  | [], z, h => by
    rcases h with h | h
    · exact h
    · cases h
  | c :: w, z, h => by
    refine fold_some w (itm z c) ?_
    by_cases hc : act c = true
    · left; unfold itm; rw [if_pos hc]; rfl
    · unfold itm
      rw [if_neg hc]
      rcases h with h | h
      · exact .inl h
      · rw [List.any_cons] at h
        rcases Bool.or_eq_true _ _ |>.mp h with h | h
        · exact absurd h hc
        · exact .inr h
theorem wrd_len (y : Cs) (w : List Nat) : (wrd y w).shs.length ≤ y.shs.length + w.length + 1 := by
  have h := fold_len w ⟨y.n, y.shs, 0, none⟩
  unfold wrd
  simp only []
  split
  · rw [List.length_append]
    show _ + 1 ≤ _
    exact Nat.add_le_add_right h 1
  · exact Nat.le_succ_of_le h
theorem wrd_ends (y : Cs) (w : List Nat) : (wrd y w).ends.length ≤ y.ends.length + 1 := by
  unfold wrd
  simp only []
  split
  · omega
  · rw [List.length_append]; exact Nat.le_refl _
def Rco (ds : List PyData) (d : PyData) : Prop := ∃ (nm text : Str) (deeds calls : List Str) (ws : List (List Nat)), ds = [.str nm, .str text, .list (deeds.map .str), .list (calls.map .str)] ∧ TxOk text ws ∧ deeds.length = 4 ∧ calls.length = 3 ∧ (∀ x ∈ deeds, tok x) ∧ (∀ x ∈ calls, tok x) ∧ d = crsD (mkC nm deeds calls (parse ws))
theorem find_do : ∀ c ∈ doL, Txt.find "ABCD" (chS c) = ((c - 65 : Nat) : Int) := by decide +kernel
theorem find_ca : ∀ c ∈ caL, Txt.find "xyz" (chS c) = ((c - 120 : Nat) : Int) := by decide +kernel
theorem cps_do : ("ABCD" : Str).cps.toList = doL := by decide +kernel
theorem cps_ca : ("xyz" : Str).cps.toList = caL := by decide +kernel
theorem cps_all : ("ABCDxyz" : Str).cps.toList = doL ++ caL := by decide +kernel
theorem chS_star : ("*" : Str) = chS 42 := by decide +kernel
theorem chS_bang : ("!" : Str) = chS 33 := by decide +kernel
theorem chS_inj {a b : Nat} (h : chS a = chS b) : a = b := by
  have e : [a] = [b] := congrArg (fun x : Str => x.cps.toList) h
  exact (List.cons.inj e).1
theorem chS_mem (c : Nat) (w : List Nat) : decide (chS c ∈ w.map chS) = decide (c ∈ w) := by
  by_cases h : c ∈ w
  · rw [decide_eq_true h, decide_eq_true (List.mem_map_of_mem h)]
  · rw [decide_eq_false h, decide_eq_false]
    intro z
    obtain ⟨x, hx, e⟩ := List.mem_map.mp z
    exact h (chS_inj e ▸ hx)
theorem getD_gets {l : List Str} {i : Nat} (h : i < l.length) : l[i]? = some (l.getD i "") := by
  rw [List.getD_eq_getElem?_getD, List.getElem?_eq_getElem h]; rfl
section
variable {P : Program} {w : World} {K : PySem.W.Frag} {mg : Str → Option Value} {base : Heap} {Cb : Addr}
abbrev nCo : List Str := ["_law_name", "_law_text", "_law_deeds", "_law_calls", "_law_word", "_law_stages", "_law_ends", "_law_steps", "_law_item", "_law_items", "_law_at", "_law_first"]
theorem scCo : FnScope nCo ["_law_name", "_law_text", "_law_deeds", "_law_calls"] (defScope sCo) := ⟨rfl, rfl, rfl, by decide +kernel, rfl, by decide +kernel, by decide +kernel⟩
theorem ok_co {f : Addr} {fd : FuncData} (T : Txt K mg Cb) (F : Fun K "_law_course" "_law_course" sCo f fd) : FnOk P w K mg base CX0 1 f fd ["_law_name", "_law_text", "_law_deeds", "_law_calls"] (spR K 4 Rco) := by
  refine def_R F scCo (by decide) fun cdv A outer s H E hr => ?_
  have nd := scCo.nd
  refine ⟨_, (pss_cons (ps_par3 (i := 5) (j := 6) (l := 7) (by rfl) nd rfl rfl rfl (by decide) (by decide) (by decide) rfl rfl rfl (pa_cons pe_int (pa_cons (pe_lst pa_nil) (pa_cons (pe_lst pa_nil) pa_nil))) (by rfl))
 (pss_cons (ps_for PassesOwn.never rfl (pi_list (pe_bm PySem.F.plainAttrs_str PySem.F.slot_str_split PySem.F.type_str_split mt_split (pv 1) (pa_cons pe_str pa_nil))) (pg_name (i := 4) nd rfl (Or.inl rfl)) (pss_cons (ps_par3 (i := 9) (j := 10) (l := 11) (by rfl) nd rfl rfl rfl (by decide) (by decide) (by decide) rfl rfl rfl (pa_cons (pe_bm PySem.F.plainAttrs_str PySem.F.slot_str_split PySem.F.type_str_split mt_split (pv 4) (pa_cons pe_str pa_nil)) (pa_cons pe_int (pa_cons (pe_tup pa_nil) pa_nil))) (by rfl))
 (pss_cons (ps_for PassesOwn.never rfl (pi_list (pv 9)) (pg_name (i := 8) nd rfl (Or.inl rfl)) (pss_cons (ps_if (pt_cmpR op_inS (pv 8) pe_str (by with_unfolding_all rfl)) (pss_one (ps_expr (pe_bm PySem.F.plainAttrs_list PySem.F.slot_list_append PySem.F.type_list_append mt_append (pv 7) (pa_cons (pe_tup (pa_cons (pv 10) (pa_cons pe_str (pa_cons (pe_ix ix_list (pv 2) (pe_bm PySem.F.plainAttrs_str PySem.F.slot_str_find PySem.F.type_str_find mt_find pe_str (pa_cons (pv 8) pa_nil)) (fun _ _ => rfl)) (pa_cons (pv 5) pa_nil))))) pa_nil)))) (pss_one (ps_if (pt_cmpR op_inS (pv 8) pe_str (by with_unfolding_all rfl)) (pss_one (ps_expr (pe_bm PySem.F.plainAttrs_list PySem.F.slot_list_append PySem.F.type_list_append mt_append (pv 7) (pa_cons (pe_tup (pa_cons (pv 10) (pa_cons pe_str (pa_cons (pe_ix ix_list (pv 3) (pe_bm PySem.F.plainAttrs_str PySem.F.slot_str_find PySem.F.type_str_find mt_find pe_str (pa_cons (pv 8) pa_nil)) (fun _ _ => rfl)) (pa_cons (pv 5) pa_nil))))) pa_nil)))) pss_nil)))
 (pss_one (ps_if (pt_cmpR op_inS (pv 8) pe_str (by with_unfolding_all rfl)) (pss_cons (ps_set (i := 11) nd rfl (Or.inl rfl) (pe_ifExp (pt_cmpR (op_eqD hr.units) (pv 11) (pe_tup pa_nil) (nomark _)) (pe_slice sl_tupA (pe_ix ix_list (pv 7) (pe_un un_neg pe_int) (fun _ _ => rfl)) (po_some pe_int) po_none) (pv 11)))
 (pss_one (ps_par (i := 10) (j := 5) (by rfl) nd rfl rfl (by decide) rfl rfl (pa_cons (pv 5) (pa_cons (pe_op op_add (pv 5) pe_int) pa_nil)) (by rfl)))) pss_nil))))
 (pss_cons (ps_if (pt_cmpR op_in_seq pe_str (pv 9) (by with_unfolding_all rfl)) (pss_one (ps_expr (pe_bm PySem.F.plainAttrs_list PySem.F.slot_list_append PySem.F.type_list_append mt_append (pv 7) (pa_cons (pe_op op_catA (pe_tup (pa_cons (pv 10) pa_nil)) (pv 11)) pa_nil)))) pss_nil)
 (pss_one (ps_if (pt_cmpR op_notIn_seq pe_str (pv 9) (by with_unfolding_all rfl)) (pss_one (ps_expr (pe_bm PySem.F.plainAttrs_list PySem.F.slot_list_append PySem.F.type_list_append mt_append (pv 6) (pa_cons (pv 10) pa_nil)))) pss_nil))))))
 (pss_one (ps_ret (pe_tup (pa_cons (pv 0) (pa_cons (pv 5) (pa_cons (pe_callTy call_tuple_of (by rfl) T.tuple (by decide +kernel) (pa_cons (pe_STli rfl (by rfl) T.sorted (by rfl) T.set (pv 6)) pa_nil)) (pa_cons (pe_callTy call_tuple_of (by rfl) T.tuple (by decide +kernel) (pa_cons (pv 7) pa_nil)) pa_nil))))))))), ?_⟩
  rintro M G B ds d _ ⟨nm, text, deeds, calls, ws, rfl, tx, ld, lc, td, tc, rfl⟩ D fin
  generalize hD : PyData.list (deeds.map .str) = dD
  generalize hC : PyData.list (calls.map .str) = dC
  show FD.Run _ _ D M [.d (.str nm), .d (.str text), .d dD, .d dC, .u, .u, .u, .u, .u, .u, .u, .u] []
  have SD : ∀ l : List Sh, PyData.list (l.map fun s => stepD (inj deeds calls s)) = PyData.list ((l.map (inj deeds calls)).map stepD) := fun l => by rw [List.map_map]; rfl
  have tn : ∀ s : Sh, tok (inj deeds calls s).nm := fun s => by
    show tok ((if s.call = true then calls else deeds).getD s.ix "")
    have te : tok "" := by unfold tok; decide +kernel
    have gd : ∀ (l : List Str) (i : Nat), (∀ x ∈ l, tok x) → tok (l.getD i "") := fun l i h => by
      rw [List.getD_eq_getElem?_getD]
      cases e : l[i]? with
      | none => exact te
      | some x => exact h x (List.mem_of_getElem? e)
    split
    · exact gd _ _ tc
    · exact gd _ _ td
  have shF : ∀ o : Option Sh, SeqAt.shaped (firstD deeds calls o) = true := fun o => by
    cases o with
    | none => exact (shp_strs 0 (l := []) (fun x hx => absurd hx (by simp))).shaped (by decide)
    | some s => exact (show Shp 1 (firstD deeds calls (some s)) from shp_tuple fun d hd => by
        simp only [List.mem_cons, List.not_mem_nil, or_false] at hd
        rcases hd with rfl | rfl | rfl
        · exact shp_str 0 (wh_tok _)
        · exact shp_str 0 (tn s)
        · exact shp_int 0 _).shaped (by decide)
  refine q_par3NN fun pe ps peM psM => ?_
  have ne : ps ≠ pe := fun z => psM (z ▸ List.mem_cons_self)
  have few := tx.few
  have wlen : (Txt.split text "|").length = ws.length := by
    have := congrArg List.length tx.eq
    rwa [List.length_map, List.length_map] at this
  show FD.Run _ _ D (ps :: pe :: M) [.d (.str nm), .d (.str text), .d dD, .d dC, .u, .d (.int ((1 : Nat) : Int)), .m pe, .m ps, .u, .u, .u, .u] [(ps, .lst []), (pe, .lst [])]
  refine q_forA (l := Txt.split text "|") (enc := PyData.str) (i_list (x_split (x_vd rfl) x_str (by decide +kernel) tx.len)) (fun i δ1 μ1 => ∃ (e4 e8 e9 e10 e11 : Ent) (y : Cs), δ1 = [.d (.str nm), .d (.str text), .d dD, .d dC, e4, .d (.int (y.n : Int)), .m pe, .m ps, e8, e9, e10, e11] ∧ μ1 = [(ps, .lst ((y.shs.map (inj deeds calls)).map stepD)), (pe, .lst (y.ends.map fun k : Nat => .int (k : Int)))] ∧ y = (ws.take i).foldl wrd ⟨1, [], []⟩ ∧ y.shs.length ≤ 21 * i ∧ y.ends.length ≤ i) ⟨_, _, _, _, _, ⟨1, [], []⟩, rfl, rfl, rfl, by simp, by simp⟩ ?_ ?_
  · rintro B2 - i wt δ1 μ1 hwt ⟨e4, e8, e9, e10, e11, y, rfl, rfl, hy, hl1, hl2⟩
    have hil : i < ws.length := by rw [← wlen]; exact (List.getElem?_eq_some_iff.mp hwt).1
    obtain ⟨wd, hwd⟩ : ∃ wd, ws[i]? = some wd := ⟨_, List.getElem?_eq_getElem hil⟩
    have wm := List.mem_of_getElem? hwd
    have hsp : Txt.split wt " " = wd.map chS := by
      have := congrArg (fun l : List (List Str) => l[i]?) tx.eq
      simp only [List.getElem?_map, hwt, hwd, Option.map_some] at this
      exact Option.some.inj this
    have wlf := tx.wf wd wm
    refine ⟨[4], _, tg_name, ?_⟩
    show FD.Run _ _ _ _ [.d (.str nm), .d (.str text), .d dD, .d dC, .d (.str wt), .d (.int (y.n : Int)), .m pe, .m ps, e8, e9, e10, e11] _
    refine q_par3 (e1 := .d (.list ((wd.map chS).map .str))) (e2 := .d (.int ((0 : Nat) : Int))) (e3 := .d (firstD deeds calls none)) (a_cons (x_is (x_split (x_vd rfl) x_str (by decide +kernel) (tx.wl wt (List.mem_of_getElem? hwt))) (by rw [hsp])) (a_cons x_int (a_cons (x_tup (ds := []) a_nil (by simp)) a_nil))) ?_
    generalize hI : PyData.list ((wd.map chS).map .str) = dI
    show FD.Run _ _ _ _ [.d (.str nm), .d (.str text), .d dD, .d dC, .d (.str wt), .d (.int (y.n : Int)), .m pe, .m ps, e8, .d dI, .d (.int ((0 : Nat) : Int)), .d (firstD deeds calls none)] _
    refine q_forA (l := wd) (enc := fun c => PyData.str (chS c)) (i_list (x_is (x_vd rfl) (by rw [← hI, List.map_map]; rfl))) (fun j δ1 μ1 => ∃ (e8 : Ent) (z : Ps), δ1 = [.d (.str nm), .d (.str text), .d dD, .d dC, .d (.str wt), .d (.int (z.n : Int)), .m pe, .m ps, e8, .d dI, .d (.int (z.at_ : Int)), .d (firstD deeds calls z.first)] ∧ μ1 = [(ps, .lst ((z.shs.map (inj deeds calls)).map stepD)), (pe, .lst (y.ends.map fun k : Nat => .int (k : Int)))] ∧ z = (wd.take j).foldl itm ⟨y.n, y.shs, 0, none⟩ ∧ z.shs.length ≤ 21 * i + j) ⟨_, ⟨y.n, y.shs, 0, none⟩, rfl, rfl, rfl, hl1⟩ ?_ ?_
    · rintro B3 - j c δ1 μ1 hc ⟨e8, z, rfl, rfl, hz, hl3⟩
      have hjl : j < wd.length := (List.getElem?_eq_some_iff.mp hc).1
      refine ⟨[8], _, tg_name, ?_⟩
      show FD.Run _ _ _ _ [.d (.str nm), .d (.str text), .d dD, .d dC, .d (.str wt), .d (.int (z.n : Int)), .m pe, .m ps, .d (.str (chS c)), .d dI, .d (.int (z.at_ : Int)), .d (firstD deeds calls z.first)] _
      have hnx : itm z c = (wd.take (j + 1)).foldl itm ⟨y.n, y.shs, 0, none⟩ := by rw [fold_take _ _ hc, ← hz]
      have hil := itm_len z c
      have inC : ∀ (x : Str) (l : List Nat), x.cps.toList = l → EvX ⟨K, M, G, B3⟩ (tOp L2.rInS (tVar 8) (tC (.str x))) (ps :: pe :: M) [.d (.str nm), .d (.str text), .d dD, .d dC, .d (.str wt), .d (.int (z.n : Int)), .m pe, .m ps, .d (.str (chS c)), .d dI, .d (.int (z.at_ : Int)), .d (firstD deeds calls z.first)] [(ps, .lst ((z.shs.map (inj deeds calls)).map stepD)), (pe, .lst (y.ends.map fun k : Nat => .int (k : Int)))] [(ps, .lst ((z.shs.map (inj deeds calls)).map stepD)), (pe, .lst (y.ends.map fun k : Nat => .int (k : Int)))] (.d (.bool (decide (c ∈ l)))) := fun x l h => x_is (x_op (x_vd rfl) x_str o_inC) (by rw [h])
      refine q_ifJ [.d (.str nm), .d (.str text), .d dD, .d dC, .d (.str wt), .d (.int (z.n : Int)), .m pe, .m ps, .d (.str (chS c)), .d dI, .d (.int (z.at_ : Int)), .d (firstD deeds calls z.first)] [(ps, .lst (((if act c = true then z.shs ++ [shOf z c] else z.shs).map (inj deeds calls)).map stepD)), (pe, .lst (y.ends.map fun k : Nat => .int (k : Int)))] (t_test (inC "ABCD" doL cps_do)) (fun hb D' kk => ?_) (fun hb D' kk => ?_) ?_
      · have hb : c ∈ doL := of_decide_eq_true hb
        have ha : act c = true := by unfold act; rw [decide_eq_true hb]; rfl
        have hi4 : c - 65 < deeds.length := by
          rw [ld]
          have : ∀ c ∈ doL, c - 65 < 4 := by decide
          exact this c hb
        refine r_app (j := 0) (d := stepD (inj deeds calls (shOf z c))) (x_vm rfl) (x_is (x_tup (ds := [.int (z.at_ : Int), .str "do", .str (deeds.getD (c - 65) ""), .int (z.n : Int)]) (a_cons (x_vd rfl) (a_cons x_str (a_cons (x_op (x_is (e1 := .d (.list (deeds.map .str))) (x_vd rfl) (by rw [hD])) (x_is (x_find x_str (x_vd rfl)) (by rw [find_do c hb])) (o_ixL (.d _) (atI_nat (by rw [List.getElem?_map, getD_gets hi4]; rfl)))) (a_cons (x_vd rfl) a_nil)))) (by simp)) ?_) rfl rfl (by rw [List.length_map, List.length_map]; omega) (nx_to kk rfl ?_)
        · unfold shOf
          rw [if_pos hb]; rfl
        · rw [if_pos ha]
          show [(ps, MO.lst (_ ++ _)), _] = _
          rw [List.map_append, List.map_append]; rfl
      · have hb : ¬ c ∈ doL := of_decide_eq_false hb
        refine r_if (t_test (inC "xyz" caL cps_ca)) (fun hb2 => ?_) (fun hb2 => ?_)
        · have hb2 : c ∈ caL := of_decide_eq_true hb2
          have ha : act c = true := by unfold act; rw [decide_eq_true hb2]; simp
          have hi4 : c - 120 < calls.length := by
            rw [lc]
            have : ∀ c ∈ caL, c - 120 < 3 := by decide
            exact this c hb2
          refine r_app (j := 0) (d := stepD (inj deeds calls (shOf z c))) (x_vm rfl) (x_is (x_tup (ds := [.int (z.at_ : Int), .str "call", .str (calls.getD (c - 120) ""), .int (z.n : Int)]) (a_cons (x_vd rfl) (a_cons x_str (a_cons (x_op (x_is (e1 := .d (.list (calls.map .str))) (x_vd rfl) (by rw [hC])) (x_is (x_find x_str (x_vd rfl)) (by rw [find_ca c hb2])) (o_ixL (.d _) (atI_nat (by rw [List.getElem?_map, getD_gets hi4]; rfl)))) (a_cons (x_vd rfl) a_nil)))) (by simp)) ?_) rfl rfl (by rw [List.length_map, List.length_map]; omega) (nx_to kk rfl ?_)
          · unfold shOf
            rw [if_neg hb]; rfl
          · rw [if_pos ha]
            show [(ps, MO.lst (_ ++ _)), _] = _
            rw [List.map_append, List.map_append]; rfl
        · have hb2 : ¬ c ∈ caL := of_decide_eq_false hb2
          have ha : ¬ act c = true := by unfold act; rw [decide_eq_false hb, decide_eq_false hb2]; decide
          refine r_next (nx_to kk rfl ?_)
          rw [if_neg ha]
      · have hact : decide (c ∈ doL ++ caL) = act c := by
          unfold act
          rw [← Bool.decide_or]
          exact decide_eq_decide.mpr List.mem_append
        refine r_if (b := act c) (t_is (t_test (x_is (x_op (x_vd rfl) x_str o_inC) (by rw [cps_all, hact]))) rfl) (fun ha => ?_) (fun ha => ?_)
        · rw [if_pos ha]
          have hit : itm z c = ⟨z.n + 1, z.shs ++ [shOf z c], z.n, some (z.first.getD (shOf z c))⟩ := by unfold itm; rw [if_pos ha]
          refine q_asg (e := .d (firstD deeds calls (some (z.first.getD (shOf z c))))) (x_is (x_if2 (t_test (x_op (x_vd rfl) (x_tup (ds := []) a_nil (by simp)) (o_eqD (.d _) (.d _) (shF _) (shF none)))) (x_slT (ds := [.int ((inj deeds calls (shOf z c)).b : Int), .str (wh (shOf z c).call), .str (inj deeds calls (shOf z c)).nm, .int ((shOf z c).e : Int)]) (x_op (x_vm rfl) (x_neg x_int) (o_ixL (.m (j := 0) rfl) (by rw [List.map_append, List.map_append]; exact atI_last _ _))) (p_some x_int) p_none) (x_vd rfl)) ?_) ?_
          · have cut : cutD [.int ((inj deeds calls (shOf z c)).b : Int), .str (wh (shOf z c).call), .str (inj deeds calls (shOf z c)).nm, .int ((shOf z c).e : Int)] (some (1 : Int)) none = [.str (wh (shOf z c).call), .str (inj deeds calls (shOf z c)).nm, .int ((shOf z c).e : Int)] := cutD_from id [.int ((inj deeds calls (shOf z c)).b : Int), .str (wh (shOf z c).call), .str (inj deeds calls (shOf z c)).nm, .int ((shOf z c).e : Int)] 1
            rw [cut]
            cases hf : z.first with
            | none =>
              rw [show PyData.eqv (firstD deeds calls none) (.tuple []) = true by show PyData.eqv (.tuple []) (.tuple []) = true; simp [PyData.eqv, PyData.eqvAll]]
              rfl
            | some s =>
              rw [show PyData.eqv (firstD deeds calls (some s)) (.tuple []) = false by simp [firstD, PyData.eqv, PyData.eqvAll]]
              rfl
          · refine r_par (e1 := .d (.int (z.n : Int))) (e2 := .d (.int ((z.n + 1 : Nat) : Int))) (a_cons (x_vd rfl) (a_cons (x_is (x_op (x_vd rfl) x_int o_I0) (by rw [Int.natCast_add]; rfl)) a_nil)) fun σ H o => ⟨_, _, ⟨.d (.str (chS c)), itm z c, ?_, ?_, hnx, by omega⟩, o⟩
            · rw [hit]; rfl
            · rw [hit]
        · rw [if_neg (by rw [ha]; decide)]
          have hit : itm z c = z := by unfold itm; rw [if_neg (by rw [ha]; decide)]
          exact r_next fun σ H o => ⟨_, _, ⟨_, z, rfl, rfl, hit ▸ hnx, by omega⟩, o⟩
    · rintro δ1 μ1 ⟨e8, z, rfl, rfl, hz, hl3⟩
      rw [List.take_length] at hz
      have hny : wrd y wd = (ws.take (i + 1)).foldl wrd ⟨1, [], []⟩ := by rw [fold_take _ _ hwd, ← hy]
      have hw : wrd y wd = ⟨z.n, if 33 ∈ wd then y.ends else y.ends ++ [z.at_], if 42 ∈ wd then z.shs ++ [{ z.first.getD ⟨0, false, 0, 0⟩ with b := z.at_ }] else z.shs⟩ := by rw [hz]; rfl
      have wl1 := wrd_len y wd
      have wl2 := wrd_ends y wd
      refine q_ifJ [.d (.str nm), .d (.str text), .d dD, .d dC, .d (.str wt), .d (.int (z.n : Int)), .m pe, .m ps, e8, .d dI, .d (.int (z.at_ : Int)), .d (firstD deeds calls z.first)] [(ps, .lst (((wrd y wd).shs.map (inj deeds calls)).map stepD)), (pe, .lst (y.ends.map fun k : Nat => .int (k : Int)))] (t_test (x_is (x_op x_str (x_is (e1 := .d (.list ((wd.map chS).map .str))) (x_vd rfl) (by rw [hI])) (o_inL (.d _))) (by rw [chS_star, chS_mem]))) (fun hb D' kk => ?_) (fun hb D' kk => ?_) ?_
      · have hb : 42 ∈ wd := of_decide_eq_true hb
        have hs := fold_some wd ⟨y.n, y.shs, 0, none⟩ (.inr (tx.star wd wm hb))
        rw [← hz] at hs
        obtain ⟨s0, hs0⟩ := Option.isSome_iff_exists.mp hs
        refine r_app (j := 0) (d := stepD (inj deeds calls { s0 with b := z.at_ })) (x_vm rfl) (x_is (x_op (x_tup (ds := [.int (z.at_ : Int)]) (a_cons (x_vd rfl) a_nil) (by simp)) (x_is (e1 := .d (.tuple [.str (wh s0.call), .str (inj deeds calls s0).nm, .int (s0.e : Int)])) (x_vd rfl) (by rw [hs0]; rfl)) (o_catT (by simp))) rfl) rfl rfl (by rw [List.length_map, List.length_map]; omega) (nx_to kk rfl ?_)
        rw [hw]
        show [(ps, MO.lst (_ ++ _)), _] = _
        simp only [if_pos hb, hs0, Option.getD_some]
        rw [List.map_append, List.map_append]; rfl
      · have hb : ¬ 42 ∈ wd := of_decide_eq_false hb
        refine r_next (nx_to kk rfl ?_)
        rw [hw]
        simp only [if_neg hb]
      · refine r_if (t_test (x_is (x_op x_str (x_is (e1 := .d (.list ((wd.map chS).map .str))) (x_vd rfl) (by rw [hI])) (o_notInL (.d _))) (by rw [chS_bang, chS_mem]))) (fun hb => ?_) (fun hb => ?_)
        · have hb : ¬ 33 ∈ wd := by simpa using hb
          refine r_app (j := 1) (d := .int (z.at_ : Int)) (x_vm rfl) (x_vd rfl) rfl rfl (by rw [List.length_map]; omega) fun σ H o => ⟨_, _, ⟨.d (.str wt), e8, .d dI, .d (.int (z.at_ : Int)), .d (firstD deeds calls z.first), wrd y wd, ?_, ?_, hny, by omega, by omega⟩, o⟩
          · rw [hw]
          · have : (wrd y wd).ends = y.ends ++ [z.at_] := by rw [hw]; simp only [if_neg hb]
            rw [this, List.map_append]; rfl
        · have hb : 33 ∈ wd := by simpa using hb
          refine r_next fun σ H o => ⟨_, _, ⟨.d (.str wt), e8, .d dI, .d (.int (z.at_ : Int)), .d (firstD deeds calls z.first), wrd y wd, ?_, ?_, hny, by omega, by omega⟩, o⟩
          · rw [hw]
          · have : (wrd y wd).ends = y.ends := by rw [hw]; simp only [if_pos hb]
            rw [this]
  · rintro δ1 μ1 ⟨e4, e8, e9, e10, e11, y, rfl, rfl, hy, hl1, hl2⟩
    rw [wlen] at hl1 hl2
    rw [wlen, List.take_length] at hy
    have hy : y = parse ws := hy
    have he := tx.ends
    rw [← hy] at he fin
    have eE : (y.ends.map fun i : Nat => (i : Int)).map PyData.int = y.ends.map fun k : Nat => PyData.int (k : Int) := by rw [List.map_map]; rfl
    have sE : ∀ k : Int, k ∈ ((List.range y.n).filter fun k => decide (k ∈ y.ends)).map (fun i : Nat => (i : Int)) ↔ k ∈ y.ends.map fun i : Nat => (i : Int) := fun k => by
      constructor
      · intro h
        obtain ⟨i, hi, rfl⟩ := List.mem_map.mp h
        exact List.mem_map.mpr ⟨i, of_decide_eq_true (List.mem_filter.mp hi).2, rfl⟩
      · intro h
        obtain ⟨i, hi, rfl⟩ := List.mem_map.mp h
        exact List.mem_map.mpr ⟨i, List.mem_filter.mpr ⟨List.mem_range.mpr (he i hi), decide_eq_true hi⟩, rfl⟩
    have asc : (((List.range y.n).filter fun k => decide (k ∈ y.ends)).map (fun i : Nat => (i : Int))).Pairwise (· < ·) :=
      List.pairwise_map.mpr ((List.pairwise_lt_range.sublist List.filter_sublist).imp fun h => by omega)
    refine r_retP (x_is (x_tup (ds := [.str nm, .int (y.n : Int), endsD ((List.range y.n).filter fun k => decide (k ∈ y.ends)), stepsD (y.shs.map (inj deeds calls))]) (a_cons (x_vd rfl) (a_cons (x_vd rfl) (a_cons (x_cbP (a_cons (x_STli (ns := y.ends.map fun i : Nat => (i : Int)) (ms := ((List.range y.n).filter fun k => decide (k ∈ y.ends)).map (fun i : Nat => (i : Int))) (x_vm rfl) (by rw [eE]; exact .m (j := 1) rfl) (by rw [List.length_map]; omega) asc sE) a_nil) (c_tupleL (.d _))) (a_cons (x_cbP (a_cons (x_vm rfl) a_nil) (c_tupleL (.m (j := 0) rfl))) a_nil)))) (by simp)) rfl) fin
end
/-! ### the menu -/
def menuT : Nat → List Str
  | 0 => ["A B|B A", "A", "B"]
  | 1 => ["A y B|-", "B|B A|C !", "A"]
  | 2 => ["y z|z y", "A|A C *", "B|C B"]
  | 3 => ["A B *|y", "B y A|A B", "C"]
  | 4 => ["y A|A y", "z|B z C", "-|A D *"]
  | _ => ["A x B|y", "C|z", "B !"]
def Rme (ds : List PyData) (d : PyData) : Prop := ∃ k : Nat, k < 6 ∧ ds = [.int (k : Int)] ∧ d = .list ((menuT k).map .str)
section
variable {P : Program} {w : World} {K : PySem.W.Frag} {mg : Str → Option Value} {base : Heap} {Cb : Addr}
abbrev nMe : List Str := ["_law_kind"]
theorem scMe : FnScope nMe ["_law_kind"] (defScope sMe) := ⟨rfl, rfl, rfl, by decide +kernel, rfl, by decide +kernel, by decide +kernel⟩
theorem ok_me {f : Addr} {fd : FuncData} (T : Txt K mg Cb) (F : Fun K "_law_menu" "_law_menu" sMe f fd) : FnOk P w K mg base CX0 1 f fd ["_law_kind"] (spR K 1 Rme) := by
  refine def_R F scMe (by decide) fun cdv A outer s H E hr => ?_
  have nd := scMe.nd
  refine ⟨_, (pss_cons (ps_if (pt_cmpR (op_eqD hr.units) (pv 0) pe_int (nomark _)) (pss_one (ps_ret (pe_lst (pa_cons pe_str (pa_cons pe_str (pa_cons pe_str pa_nil)))))) pss_nil)
 (pss_cons (ps_if (pt_cmpR (op_eqD hr.units) (pv 0) pe_int (nomark _)) (pss_one (ps_ret (pe_lst (pa_cons pe_str (pa_cons pe_str (pa_cons pe_str pa_nil)))))) pss_nil)
 (pss_cons (ps_if (pt_cmpR (op_eqD hr.units) (pv 0) pe_int (nomark _)) (pss_one (ps_ret (pe_lst (pa_cons pe_str (pa_cons pe_str (pa_cons pe_str pa_nil)))))) pss_nil)
 (pss_cons (ps_if (pt_cmpR (op_eqD hr.units) (pv 0) pe_int (nomark _)) (pss_one (ps_ret (pe_lst (pa_cons pe_str (pa_cons pe_str (pa_cons pe_str pa_nil)))))) pss_nil)
 (pss_cons (ps_if (pt_cmpR (op_eqD hr.units) (pv 0) pe_int (nomark _)) (pss_one (ps_ret (pe_lst (pa_cons pe_str (pa_cons pe_str (pa_cons pe_str pa_nil)))))) pss_nil)
 (pss_one (ps_ret (pe_lst (pa_cons pe_str (pa_cons pe_str (pa_cons pe_str pa_nil))))))))))), ?_⟩
  rintro M G B ds d _ ⟨k, hk, rfl, rfl⟩ D fin
  have si : ∀ i : Int, SeqAt.shaped (.int i) = true := fun i => (shp_int 0 i).shaped (by decide)
  show FD.Run _ _ D M [.d (.int (k : Int))] []
  have tst : ∀ (n : Nat), EvT ⟨K, M, G, B⟩ (tTest (tOp (rEqD K) (tVar 0) (tC (.int (n : Int))))) M [.d (.int (k : Int))] [] [] (decide (k = n)) := fun n => t_test (x_is (x_op (x_vd rfl) x_int (o_eqD (.d _) (.d _) (si _) (si _))) (by rw [eqv_int, deq]))
  have lst : ∀ (a b c : Str), EvX ⟨K, M, G, B⟩ (tLst (tCons (tC (.str a)) (tCons (tC (.str b)) (tCons (tC (.str c)) tNil)))) M [.d (.int (k : Int))] [] [] (.d (.list (([a, b, c] : List Str).map .str))) := fun a b c => x_lst (ds := [.str a, .str b, .str c]) (a_cons x_str (a_cons x_str (a_cons x_str a_nil))) (by simp)
  refine q_when (tst 0) (fun hb => ?_) (fun h0 => ?_)
  · have hb : k = 0 := of_decide_eq_true hb
    subst hb; exact r_retP (lst _ _ _) fin
  refine q_when (tst 1) (fun hb => ?_) (fun h1 => ?_)
  · have hb : k = 1 := of_decide_eq_true hb
    subst hb; exact r_retP (lst _ _ _) fin
  refine q_when (tst 2) (fun hb => ?_) (fun h2 => ?_)
  · have hb : k = 2 := of_decide_eq_true hb
    subst hb; exact r_retP (lst _ _ _) fin
  refine q_when (tst 3) (fun hb => ?_) (fun h3 => ?_)
  · have hb : k = 3 := of_decide_eq_true hb
    subst hb; exact r_retP (lst _ _ _) fin
  refine q_when (tst 4) (fun hb => ?_) (fun h4 => ?_)
  · have hb : k = 4 := of_decide_eq_true hb
    subst hb; exact r_retP (lst _ _ _) fin
  have h5 : k = 5 := by
    have h0 := of_decide_eq_false h0
    have h1 := of_decide_eq_false h1
    have h2 := of_decide_eq_false h2
    have h3 := of_decide_eq_false h3
    have h4 := of_decide_eq_false h4
    omega
  subst h5
  exact r_retP (lst _ _ _) fin
end
end K09
namespace K09
open PySem L2 FD Evl
/-! ### the menu's courses -/
def menuW : Nat → List (List (List Nat))
  | 0 => [[[65, 66], [66, 65]], [[65]], [[66]]]
  | 1 => [[[65, 121, 66], [45]], [[66], [66, 65], [67, 33]], [[65]]]
  | 2 => [[[121, 122], [122, 121]], [[65], [65, 67, 42]], [[66], [67, 66]]]
  | 3 => [[[65, 66, 42], [121]], [[66, 121, 65], [65, 66]], [[67]]]
  | 4 => [[[121, 65], [65, 121]], [[122], [66, 122, 67]], [[45], [65, 68, 42]]]
  | _ => [[[65, 120, 66], [121]], [[67], [122]], [[66, 33]]]
def txB (text : Str) (ws : List (List Nat)) : Bool := decide (text.length ≤ 1000) && (Txt.split text "|").all (fun w => decide (w.length ≤ 1000)) && decide ((Txt.split text "|").map (fun w => Txt.split w " ") = ws.map (fun it => it.map chS)) &&
  decide (ws.length ≤ 20) && ws.all (fun w => decide (w.length ≤ 20)) && ws.all (fun w => !decide (42 ∈ w) || w.any act) && (parse ws).ends.all (fun k => decide (k < (parse ws).n))
theorem tx_of {text : Str} {ws : List (List Nat)} (h : txB text ws = true) : TxOk text ws := by
  unfold txB at h
  simp only [Bool.and_eq_true, decide_eq_true_eq, List.all_eq_true] at h
  obtain ⟨⟨⟨⟨⟨⟨h1, h2⟩, h3⟩, h4⟩, h5⟩, h6⟩, h7⟩ := h
  refine ⟨h1, h2, h3, h4, h5, fun w hw hs => ?_, h7⟩
  have := h6 w hw
  rw [decide_eq_true hs] at this
  exact this
theorem menu_tx : ∀ k < 6, ∀ a < 3, txB ((menuT k).getD a "") ((menuW k).getD a []) = true := by decide +kernel
def csB (z : Cs) : Bool := decide (1 ≤ z.n) && decide (z.n ≤ 20) && decide (z.shs.length < 64) && z.shs.all (fun s => decide (s.b < z.n) && decide (s.e < z.n) && decide (1 ≤ s.e) && decide (s.ix < if s.call then 3 else 4)) && decide ((z.shs.map fun s => (s.b, s.e)).Nodup)
theorem menu_cs : ∀ k < 6, ∀ a < 3, csB (parse ((menuW k).getD a [])) = true := by decide +kernel
theorem menu_sum : ∀ k < 6, ((List.range 3).map fun a => (parse ((menuW k).getD a [])).n).sum ≤ 14 := by decide +kernel
theorem menu_do : ∀ k < 6, ((List.range 3).any fun a => (parse ((menuW k).getD a [])).shs.any fun s => !s.call) = true := by decide +kernel
def mkCs (deeds calls : List Str) (k : Nat) : List Crs := (List.range 3).map fun a => mkC (calls.getD a "") deeds calls (parse ((menuW k).getD a []))
structure NmsOk (deeds calls : List Str) : Prop where
  ld : deeds.length = 4
  lc : calls.length = 3
  nd : ∀ x ∈ deeds, Nm x
  nc : ∀ x ∈ calls, Nm x
  dc : calls.Nodup
theorem mem3 {deeds calls : List Str} {k : Nat} {c : Crs} (h : c ∈ mkCs deeds calls k) : ∃ a < 3, c = mkC (calls.getD a "") deeds calls (parse ((menuW k).getD a [])) := by
  obtain ⟨a, ha, rfl⟩ := List.mem_map.mp h
  exact ⟨a, List.mem_range.mp ha, rfl⟩
theorem cs_nms {deeds calls : List Str} (o : NmsOk deeds calls) (k : Nat) : (mkCs deeds calls k).map (·.nm) = calls := by
  unfold mkCs
  rw [List.map_map]
  have lc := o.lc
  match calls, lc with
  | [x, y, z], _ => rfl
theorem cs_fact {k : Nat} (hk : k < 6) {a : Nat} (ha : a < 3) : 1 ≤ (parse ((menuW k).getD a [])).n ∧ (parse ((menuW k).getD a [])).n ≤ 20 ∧ (parse ((menuW k).getD a [])).shs.length < 64 ∧ (∀ s ∈ (parse ((menuW k).getD a [])).shs, s.b < (parse ((menuW k).getD a [])).n ∧ s.e < (parse ((menuW k).getD a [])).n ∧ 1 ≤ s.e ∧ s.ix < if s.call then 3 else 4) ∧ ((parse ((menuW k).getD a [])).shs.map fun s => (s.b, s.e)).Nodup := by
  have h := menu_cs k hk a ha
  unfold csB at h
  simp only [Bool.and_eq_true, decide_eq_true_eq, List.all_eq_true] at h
  obtain ⟨⟨⟨⟨h1, h2⟩, h3⟩, h4⟩, h5⟩ := h
  exact ⟨h1, h2, h3, fun s hs => by obtain ⟨⟨⟨p, q⟩, r⟩, t⟩ := h4 s hs; exact ⟨p, q, r, t⟩, h5⟩
theorem inj_nm {deeds calls : List Str} (o : NmsOk deeds calls) {s : Sh} (h : s.ix < if s.call then 3 else 4) : Nm (inj deeds calls s).nm ∧ (s.call = true → (inj deeds calls s).nm ∈ calls) ∧ (s.call = false → (inj deeds calls s).nm ∈ deeds) := by
  have e : (inj deeds calls s).nm = (if s.call = true then calls else deeds).getD s.ix "" := rfl
  by_cases hc : s.call = true
  · have hm : (inj deeds calls s).nm ∈ calls := by
      rw [e, if_pos hc]
      exact getD_mem (by rw [o.lc]; rw [if_pos hc] at h; exact h)
    exact ⟨o.nc _ hm, fun _ => hm, fun z => by rw [hc] at z; cases z⟩
  · have hm : (inj deeds calls s).nm ∈ deeds := by
      rw [e, if_neg hc]
      exact getD_mem (by rw [o.ld]; rw [if_neg hc] at h; exact h)
    exact ⟨o.nd _ hm, fun z => absurd z hc, fun _ => hm⟩
theorem bks {deeds calls : List Str} (o : NmsOk deeds calls) {k : Nat} (hk : k < 6) : BkS (mkCs deeds calls k) := by
  have sum : ((mkCs deeds calls k).map (·.n)).sum ≤ 14 := by
    unfold mkCs
    rw [List.map_map]
    exact menu_sum k hk
  refine ⟨⟨by unfold mkCs; simp, by unfold mkCs; simp, by rw [cs_nms o]; exact o.dc, fun c hc => ?_, by omega, deeds, by rw [o.ld]; decide, fun c hc s hs hcl => ?_⟩, sum, fun c hc st hst => ?_⟩
  · rw [cs_nms o]
    obtain ⟨a, ha, rfl⟩ := mem3 hc
    obtain ⟨h1, h2, h3, h4, h5⟩ := cs_fact hk ha
    have hS : ∀ st ∈ (mkC (calls.getD a "") deeds calls (parse ((menuW k).getD a []))).steps, ∃ s ∈ (parse ((menuW k).getD a [])).shs, st = inj deeds calls s := fun st hst => by
      obtain ⟨s, hs, rfl⟩ := List.mem_map.mp hst
      exact ⟨s, hs, rfl⟩
    refine ⟨o.nc _ (getD_mem (by rw [o.lc]; exact ha)), h1, h2, List.pairwise_lt_range.sublist List.filter_sublist, fun e he => List.mem_range.mp (List.mem_filter.mp he).1, by show (List.map _ _).length < 64; rw [List.length_map]; exact h3, ?_, fun st hst => ?_, fun st hst => ?_, fun st hst => ?_, fun st hst hc => ?_⟩
    · show (List.map (inj deeds calls) _).Nodup
      have h5' := List.pairwise_map.mp h5
      exact List.pairwise_map.mpr (h5'.imp fun {s t} ne e => ne (by
        have e1 : s.b = t.b := congrArg Step.b e
        have e2 : s.e = t.e := congrArg Step.e e
        rw [e1, e2]))
    · obtain ⟨s, hs, rfl⟩ := hS st hst
      exact (h4 s hs).1
    · obtain ⟨s, hs, rfl⟩ := hS st hst
      exact (h4 s hs).2.1
    · obtain ⟨s, hs, rfl⟩ := hS st hst
      exact (inj_nm o (h4 s hs).2.2.2).1
    · obtain ⟨s, hs, rfl⟩ := hS st hst
      exact (inj_nm o (h4 s hs).2.2.2).2.1 hc
  · obtain ⟨a, ha, rfl⟩ := mem3 hc
    obtain ⟨h1, h2, h3, h4, h5⟩ := cs_fact hk ha
    obtain ⟨t, ht, rfl⟩ := List.mem_map.mp hs
    exact (inj_nm o (h4 t ht).2.2.2).2.2 hcl
  · obtain ⟨a, ha, rfl⟩ := mem3 hc
    obtain ⟨h1, h2, h3, h4, h5⟩ := cs_fact hk ha
    obtain ⟨t, ht, rfl⟩ := List.mem_map.mp hst
    exact (h4 t ht).2.2.1
theorem used_sub {deeds calls : List Str} (o : NmsOk deeds calls) {k : Nat} (hk : k < 6) : ∀ x ∈ usedL (mkCs deeds calls k), x ∈ deeds := fun x hx => by
  obtain ⟨c, hc, hx⟩ := List.mem_flatMap.mp (setT_mem.mp hx)
  obtain ⟨st, hst, rfl⟩ := List.mem_map.mp hx
  obtain ⟨hs1, hs2⟩ := List.mem_filter.mp hst
  obtain ⟨a, ha, rfl⟩ := mem3 hc
  obtain ⟨h1, h2, h3, h4, h5⟩ := cs_fact hk ha
  obtain ⟨t, ht, rfl⟩ := List.mem_map.mp hs1
  exact (inj_nm o (h4 t ht).2.2.2).2.2 (Bool.not_eq_true' _ |>.mp hs2)
theorem used_nd (cs : List Crs) : (usedL cs).Nodup := setT_nodup _
theorem used_len {deeds calls : List Str} (o : NmsOk deeds calls) {k : Nat} (hk : k < 6) : (usedL (mkCs deeds calls k)).length ≤ 4 := by
  have := CK.nd_len (used_nd _) (used_sub o hk)
  rw [o.ld] at this; exact this
theorem used_pos {deeds calls : List Str} {k : Nat} (hk : k < 6) : 0 < (usedL (mkCs deeds calls k)).length := by
  obtain ⟨a, ha, h⟩ := List.any_eq_true.mp (menu_do k hk)
  obtain ⟨s, hs, hc⟩ := List.any_eq_true.mp h
  have hm : mkC (calls.getD a "") deeds calls (parse ((menuW k).getD a [])) ∈ mkCs deeds calls k := List.mem_map.mpr ⟨a, ha, rfl⟩
  have := used_mem hm (st := inj deeds calls s) (List.mem_map.mpr ⟨s, hs, rfl⟩) (Bool.not_eq_true' _ |>.mp hc)
  exact List.length_pos_of_mem this
/-! ### the dealing -/
def dlBox (b : Box) (m : Int) : Nat → Box
  | 0 => b
  | i + 1 => tkB (dlBox b m i) m
def dealOf (b : Box) (places used : List Str) : Deal := (List.range used.length).map fun i => (used.getD i "", places.getD (tkV (dlBox b places.length i) places.length).toNat "")
theorem deal_keys (b : Box) (places used : List Str) : (dealOf b places used).map (·.1) = used := by
  unfold dealOf
  rw [List.map_map]
  refine List.ext_getElem? fun i => ?_
  rw [List.getElem?_map]
  by_cases h : i < used.length
  · rw [List.getElem?_range h, List.getElem?_eq_getElem h]
    simp [List.getD_eq_getElem?_getD, List.getElem?_eq_getElem h]
  · rw [List.getElem?_eq_none (by rw [List.length_range]; omega), List.getElem?_eq_none (by omega)]; rfl
theorem deal_ok (b : Box) {places used : List Str} (nd : used.Nodup) (few : used.length ≤ 12) (h0 : 0 < places.length) (t1 : ∀ x ∈ used, tok x) (t2 : ∀ x ∈ places, tok x) : DealOk (dealOf b places used) := by
  refine ⟨by rw [deal_keys]; exact nd, ?_, fun p hp => ?_, fun p hp => ?_⟩
  · have := congrArg List.length (deal_keys b places used)
    rw [List.length_map] at this
    omega
  · have : p.1 ∈ (dealOf b places used).map (·.1) := List.mem_map_of_mem hp
    rw [deal_keys] at this
    exact t1 _ this
  · obtain ⟨i, hi, rfl⟩ := List.mem_map.mp hp
    have hv := tkV_lt (b := dlBox b places.length i) (n := (places.length : Int)) (by omega)
    exact t2 _ (getD_mem (by omega))
/-! ### the table that is kept, and the one that is handed -/
def sel (T : RT) (l : List Stg) : RT := l.map fun s => (s, rowT T s)
theorem sel_keys (T : RT) (l : List Stg) : (sel T l).map (·.1) = l := by
  unfold sel
  rw [List.map_map]
  exact List.map_id l
theorem sel_val (T : RT) (l : List Stg) (s : Stg) : CK.val (sel T l) s = if s ∈ l then some (rowT T s) else none := by
  rw [show CK.val (sel T l) s = _ from CK.val_keys (rowT T) l s]
  by_cases h : s ∈ l
  · simp only [if_pos h]
  · simp only [if_neg h]
def encR (T : RT) : TDat := T.map fun p => (stK p.1, rowD p.2)
theorem encT_tD (T : RT) : encT rowD T = tD (encR T) := by
  unfold encT tD encR
  rw [List.map_map]; rfl
theorem encR_keys (T : RT) : (encR T).map (·.1) = (T.map (·.1)).map stK := by
  unfold encR
  rw [List.map_map, List.map_map]; rfl
theorem valT_enc (T : RT) (s : Stg) : valT (encR T) (stK s) = (CK.val T s).map rowD := by
  induction T with
  | nil => rfl
  | cons p T ih =>
    unfold valT at ih ⊢
    show ((List.find? _ ((stK p.1, rowD p.2) :: encR T)).map _) = _
    rw [List.find?_cons, CK.val_cons]
    by_cases e : p.1 = s
    · rw [if_pos e, decide_eq_true (congrArg stK e)]; rfl
    · rw [if_neg e, decide_eq_false fun z => e (stK_inj z)]; exact ih
theorem row_of_val {T : RT} {s : Stg} (h : s ∈ T.map (·.1)) : CK.val T s = some (rowT T s) := by
  obtain ⟨r, hr⟩ := CK.has_val (CK.has_mem.mpr h)
  unfold rowT
  rw [hr]; rfl
theorem sel_same {T : RT} (nd : (T.map (·.1)).Nodup) {l : List Stg} (p : l.Perm (T.map (·.1))) (s : Stg) : CK.val (sel T l) s = CK.val T s := by
  rw [sel_val]
  by_cases h : s ∈ l
  · rw [if_pos h, row_of_val (p.mem_iff.mp h)]
  · rw [if_neg h]
    have : CK.has T s = false := by
      rw [Bool.eq_false_iff]
      exact fun z => h (p.mem_iff.mpr (CK.has_mem.mp z))
    exact (CK.has_false.mp this).symm
theorem eqv_rowD (r : Row) : PyData.eqv (rowD r) (rowD r) = true := by
  show PyData.eqv (.tuple (r.map .str)) (.tuple (r.map .str)) = true
  rw [eqv_strs]; simp
theorem sel_eqv {T : RT} (nd : (T.map (·.1)).Nodup) {l : List Stg} (p : l.Perm (T.map (·.1))) : eqvT (encR (sel T l)) (encR T) = true := by
  unfold eqvT
  rw [Bool.and_eq_true]
  constructor
  · have : (encR (sel T l)).length = (encR T).length := by
      unfold encR sel
      rw [List.length_map, List.length_map, List.length_map, p.length_eq, List.length_map]
    rw [this]; simp
  · rw [List.all_eq_true]
    intro q hq
    obtain ⟨y, hy, rfl⟩ := List.mem_map.mp hq
    obtain ⟨s, hs, rfl⟩ := List.mem_map.mp hy
    show (match valT (encR T) (stK s) with | none => false | some d => PyData.eqv (rowD (rowT T s)) d) = true
    rw [valT_enc, row_of_val (p.mem_iff.mp hs)]
    exact eqv_rowD _
theorem has_congr {T U : RT} (h : ∀ s, CK.val T s = CK.val U s) : CK.has T = CK.has U := by
  funext s
  unfold CK.has
  rw [h]
theorem look_congr {cs : List Crs} {deal : Deal} {T U : RT} (h : ∀ s, CK.val T s = CK.val U s) : ∀ l : List Stg, look cs deal T l = look cs deal U l := by
  have e1 := has_congr h
  have e2 : rowT T = rowT U := by
    funext s
    unfold rowT
    rw [h]
  have e3 : rowsOf T = rowsOf U := by
    funext ps
    have e : CK.val T = CK.val U := funext h
    unfold rowsOf
    rw [e]
  have e4 : joinR T = joinR U := by
    funext x st
    unfold joinR
    rw [e1, e3]
  have e5 : bad deal T = bad deal U := by
    funext s q
    unfold bad
    rw [e4, e2]
  have e6 : lookS cs deal T = lookS cs deal U := by
    funext s
    unfold lookS endBad
    rw [e2, e5]
  intro l
  induction l with
  | nil => rfl
  | cons s l ih =>
    show (match lookS cs deal T s with | some k => some (s, k) | none => look cs deal T l) = (match lookS cs deal U s with | some k => some (s, k) | none => look cs deal U l)
    rw [e6, ih]
structure Kp (cs : List Crs) (deal : Deal) (m : Nat) (T : RT) : Prop where
  nd : (T.map (·.1)).Nodup
  sub : ∀ s ∈ T.map (·.1), s ∈ stages cs
  few : T.length ≤ 14
  len : ∀ s r, CK.val T s = some r → r.length ≤ 16384 + m
  deeds : ∀ s r, CK.val T s = some r → ∀ d ∈ r, d ∈ deal.map (·.1)
theorem Kp.look {cs : List Crs} {deal : Deal} {m : Nat} {T : RT} (h : Kp cs deal m T) (b : BkS cs) (dok : DealOk deal) (hu : deal.map (·.1) = usedL cs) (hm : m ≤ 3) : LkOk cs deal T :=
  ⟨b.ok, dok, ⟨by have := h.few; omega, fun s r e => by have := h.len s r e; omega⟩, h.nd, h.sub, h.deeds, fun c hc st hst hcl => by rw [hu]; exact used_mem hc hst hcl⟩
theorem Kp.sel {cs : List Crs} {deal : Deal} {m : Nat} {T : RT} (h : Kp cs deal m T) {l : List Stg} (nd : l.Nodup) (s1 : ∀ s ∈ l, s ∈ T.map (·.1)) : Kp cs deal m (sel T l) := by
  have hv : ∀ s r, CK.val (K09.sel T l) s = some r → CK.val T s = some r := fun s r e => by
    rw [sel_val] at e
    by_cases hs : s ∈ l
    · rw [if_pos hs] at e
      rw [row_of_val (s1 s hs)]; exact e
    · rw [if_neg hs] at e; cases e
  refine ⟨by rw [sel_keys]; exact nd, fun s hs => ?_, ?_, fun s r e => h.len s r (hv s r e), fun s r e => h.deeds s r (hv s r e)⟩
  · rw [sel_keys] at hs
    exact h.sub s (s1 s hs)
  · have h1 : (K09.sel T l).length = l.length := List.length_map _
    have h2 := CK.nd_len nd s1
    rw [List.length_map] at h2
    have := h.few
    omega
theorem Kp.put {cs : List Crs} {deal : Deal} {m : Nat} {T : RT} (h : Kp cs deal m T) {s : Stg} (hs : s ∈ T.map (·.1)) {r : Row} (h1 : r.length ≤ 16384 + (m + 1)) (h2 : ∀ d ∈ r, d ∈ deal.map (·.1)) : Kp cs deal (m + 1) (CK.put T s r) ∧ (CK.put T s r).map (·.1) = T.map (·.1) := by
  have hk : (CK.put T s r).map (·.1) = T.map (·.1) := by rw [CK.put_keys, if_pos (CK.has_mem.mpr hs)]
  refine ⟨⟨by rw [hk]; exact h.nd, fun x hx => h.sub x (by rw [← hk]; exact hx), ?_, fun x q e => ?_, fun x q e => ?_⟩, hk⟩
  · rw [CK.put_len, if_pos (CK.has_mem.mpr hs)]; exact h.few
  · rw [CK.val_put] at e
    split at e
    · cases e; exact h1
    · have := h.len x q e; omega
  · rw [CK.val_put] at e
    split at e
    · cases e; exact h2
    · exact h.deeds x q e
theorem Good.kp {cs : List Crs} {T : RT} (g : Good cs T) (b : BkS cs) {deal : Deal} (hu : deal.map (·.1) = usedL cs) : Kp cs deal 0 T :=
  ⟨g.nd, g.sub, g.few b, fun s r e => by
    have h1 := g.len s r e
    have h2 := pow14 (g.few b)
    omega, fun s r e d hd => by rw [hu]; exact g.deeds s r e d hd⟩
theorem eqv_look (o : Option (Stg × Int)) : PyData.eqv (lookD o) (lookD o) = true := by
  cases o with
  | none => show PyData.eqv .none .none = true; simp [PyData.eqv]
  | some q =>
    show PyData.eqv (.tuple [stD q.1, .int q.2]) (.tuple [stD q.1, .int q.2]) = true
    have e1 := eqv_st q.1 q.1
    rw [decide_eq_true rfl] at e1
    simp [PyData.eqv, PyData.eqvAll, e1]
theorem sh_look {cs : List Crs} (ok : BokOk cs) {o : Option (Stg × Int)} (h : ∀ q, o = some q → q.1 ∈ stages cs) : SeqAt.shaped (lookD o) = true := by
  cases o with
  | none => decide
  | some q => exact (show Shp 2 (lookD (some q)) from shp_tuple fun d hd => by
      simp only [List.mem_cons, List.not_mem_nil, or_false] at hd
      rcases hd with rfl | rfl
      · exact shp_stg 0 (stg_nm ok (h q rfl))
      · exact shp_int 1 _).shaped (by decide)
theorem look_mem {cs : List Crs} {deal : Deal} {T : RT} : ∀ {l : List Stg} {q : Stg × Int}, look cs deal T l = some q → q.1 ∈ l
  | [], q, h => by cases h
  | s :: l, q, h => by
    cases e : lookS cs deal T s with
    | none => rw [look_none e] at h; exact List.mem_cons_of_mem _ (look_mem h)
    | some k => rw [look_some e] at h; cases h; exact List.mem_cons_self
end K09
namespace FD
open PySem L2 Evl
section
variable {C : Cfg} {M : List Addr} {δ : List Ent} {μ μ0 μ1 : Mem} {tr : TA} {n : Nat} {es : List Ent} {E : XK} {d : PyData}
theorem x_is' {te : TE} {e e' : Ent} {μ2 : Mem} (h : EvX C te M δ μ μ1 e) (q1 : μ1 = μ2) (q2 : e = e') : EvX C te M δ μ μ2 e' := by rw [← q1, ← q2]; exact h
theorem x_callES {R : List Ent → Mem → PyData → Mem → Prop} (h : EvA C tr M δ μ μ es) (hsub : ∀ p ∈ μ0, p ∈ μ) (hnd : (ad μ).Nodup → (ad μ0).Nodup) (hR : R es μ0 d μ0) (hn : es.length = n := by rfl) : EvX C (tCall (spE C.K n R) [] E tr) M δ μ μ (.d d) := fun σ H o Q k =>
  x_callE h (swap_id hsub o.nd) (hnd o.nd) hR hn σ H o Q k
theorem rot3 {K : PySem.W.Frag} {e1 e2 e3 : Ent} {H : Hp} {zs : List V} (r : Paired (EntOk K H) [e1, e2, e3] zs) : Paired (EntOk K H) [e2, e3, e1] (zs.drop 1 ++ zs.take 1) := match zs, r with
  | _, .cons h1 (.cons h2 (.cons h3 .nil)) => .cons h2 (.cons h3 (.cons h1 .nil))
end
theorem vals_app : ∀ {zs : List V} {ws : List Value} {z : V} {w : Value}, Vals zs ws → RelV z w → Vals (zs ++ [z]) (ws ++ [w])
  | _, _, _, _, .nil, h => .cons h .nil
  | _, _, _, _, .cons a t, h => .cons a (vals_app t h)
theorem vals_rot {zs : List V} {ws : List Value} (r : Vals zs ws) : Vals (zs.drop 1 ++ zs.take 1) (ws.drop 1 ++ ws.take 1) := by
  cases r with
  | nil => exact .nil
  | cons h t => exact vals_app t h
theorem kbn_rot {K : PySem.W.Frag} {x qual : Str} {st : Stmt} {f : Addr} {fd : FuncData} (F : Fun K x qual st f fd) {ps ks : List Str}
    (h : ∀ (kV doc pm : Value) (an : Option Addr) (cdv ct : Value) (ws : List Value), ws.length = ks.length → bindArgs (PySem.W.fnOf x qual (defArgs st) (defBody st) (defScope st) .none kV doc pm an cdv ct) ⟨[], ks.zip ws⟩ = pure (ps.zip (ws.drop 1 ++ ws.take 1))) : KBn K fd ps 0 ks (fun _ ws => ws.drop 1 ++ ws.take 1) (fun _ zs => zs.drop 1 ++ zs.take 1) := by
  obtain ⟨oc, od, kV, doc, pm, an, cdv, ct, osl, rfl, lk, hcd⟩ := F.ex
  refine ⟨fun s us ws _ h0 hl => ?_, fun {vs us zs ws} _ r => vals_rot r⟩
  cases us with
  | nil => exact .of_eq (h kV doc pm an cdv ct ws hl)
  | cons u us => cases h0
end FD
namespace K09
open PySem L2 FD Evl
section
variable {C : Cfg} {M : List Addr} {δ : List Ent} {μ μ1 : Mem} {tr : TA} {tb tn tm : TE} {E : XK} {p : Addr} {b : Box} {xs : List PyData} {e : Ent}
theorem x_mixJ (j : Nat) (h1 : EvX C tb M δ μ μ (.m p)) (h2 : EvX C tn M δ μ μ (.d (.list xs))) (hj : μ[j]? = some (p, .lst b.ds)) (hl : xs.length < 100) :
    EvX C (tCall (spE C.K 2 Rmx) [] E (tCons tb (tCons tn tNil))) M δ μ (μ.set j (p, .lst (mix xs.length b xs).2.ds)) (.d (.list (mix xs.length b xs).1)) := fun σ H o Q k =>
  x_callE (a_cons h1 (a_cons h2 a_nil)) (swap_set hj o.nd) (by simp [ad]) ⟨p, b, xs, hl, rfl, rfl, rfl, rfl⟩ rfl σ H o Q k
theorem x_bentJ (j : Nat) {r : Row} {ds : List Str} (h1 : EvX C tb M δ μ μ (.m p)) (h2 : EvX C tn M δ μ μ (.d (rowD r))) (h3 : EvX C tm M δ μ μ (.d (.list (ds.map .str)))) (hj : μ[j]? = some (p, .lst b.ds)) (hl : r.length ≤ 30000) (h0 : 0 < ds.length) (h4 : ds.length < 1000) :
    EvX C (tCall (spE C.K 3 Rbt) [] E (tCons tb (tCons tn (tCons tm tNil)))) M δ μ (μ.set j (p, .lst (bentR b r ds).2.ds)) (.d (rowD (bentR b r ds).1)) := fun σ H o Q k =>
  x_callE (a_cons h1 (a_cons h2 (a_cons h3 a_nil))) (swap_set hj o.nd) (by simp [ad]) ⟨p, b, r, ds, rfl, rfl, hl, h0, h4, rfl, rfl⟩ rfl σ H o Q k
theorem n_dictS {T : RT} {l : List Stg} (h : EvA C tr M δ μ μ1 [e]) (r : Rdd μ1 e (.list (l.map fun s => PyData.tuple [stD s, rowD (rowT T s)]))) (nd : l.Nodup) : EvN C (tCB (rDictLT C.K) tr) M δ μ μ1 (.dT (encT rowD (sel T l))) := by
  rw [encT_tD]
  refine n_dictLT h ?_ (by rw [encR_keys, sel_keys]; exact keys_nd nd)
  have e1 : (encR (sel T l)).map rowP = l.map fun s => PyData.tuple [stD s, rowD (rowT T s)] := by
    unfold encR sel
    rw [List.map_map, List.map_map]; rfl
  rw [e1]; exact r
end
theorem x_pickS {C : Cfg} {M : List Addr} {δ : List Ent} {μ : Mem} {tb tn : TE} {E : XK} {p : Addr} {b : Box} {ds : List Str} (j : Nat) (h1 : EvX C tb M δ μ μ (.m p)) (h2 : EvX C tn M δ μ μ (.d (.list (ds.map .str)))) (hj : μ[j]? = some (p, .lst b.ds)) (h0 : 0 < ds.length) (h3 : ds.length < 1000) :
    EvX C (tCall (spE C.K 2 Rpk) [] E (tCons tb (tCons tn tNil))) M δ μ (μ.set j (p, .lst (tkB b ds.length).ds)) (.d (.str (ds.getD (tkV b ds.length).toNat ""))) := by
  have hv := tkV_lt (b := b) (n := (ds.length : Int)) (by omega)
  have h := x_pickJ (xs := ds.map PyData.str) (d := .str (ds.getD (tkV b ds.length).toNat "")) (E := E) j h1 h2 hj (by rw [List.length_map]; exact h0) (by rw [List.length_map]; omega) (by rw [List.length_map]; exact ts_get (getD_gets (by omega)))
  rw [List.length_map] at h
  exact h
theorem x_mixS {C : Cfg} {M : List Addr} {δ : List Ent} {μ : Mem} {tb tn : TE} {E : XK} {p : Addr} {b b' : Box} {xs ys : List PyData} (j : Nat) (hm : mix xs.length b xs = (ys, b')) (h1 : EvX C tb M δ μ μ (.m p)) (h2 : EvX C tn M δ μ μ (.d (.list xs))) (hj : μ[j]? = some (p, .lst b.ds)) (hl : xs.length < 100) :
    EvX C (tCall (spE C.K 2 Rmx) [] E (tCons tb (tCons tn tNil))) M δ μ (μ.set j (p, .lst b'.ds)) (.d (.list ys)) := by
  have h := x_mixJ (E := E) j h1 h2 hj hl
  rw [hm] at h
  exact h
theorem rng_map (n : Nat) : rngD 0 n = (List.range n).map fun a : Nat => PyData.int (a : Int) := List.map_congr_left fun i _ => by rw [Int.zero_add]
theorem menu_len : ∀ k < 6, (menuT k).length = 3 := by decide
def spLaw (K : PySem.W.Frag) : Sp := fun vs H Q _ => ∃ (a : Addr) (ns : List Int), vs = [.ref a] ∧ SqL K H a (ns.map V.int) ∧ ns.length ≤ 63 ∧ ∀ H', Q (.bl true) H'
theorem dp_ints {K : PySem.W.Frag} {H : Hp} : ∀ ns : List Int, FD.DpAll K H (ns.map V.int) (ns.map PyData.int)
  | [] => .nil
  | n :: ns => .cons (.int n) (dp_ints ns)
section
variable {P : Program} {w : World} {K : PySem.W.Frag} {mg : Str → Option Value} {base : Heap} {Cb : Addr}
abbrev nLw : List Str := ["_law_script", "_law_k", "_law_box_here", "_law_menu_here", "_law_names_here", "_law_courses", "_law_rows", "_law_used_here", "_law_places", "_law_deal", "_law_pairs", "_law_book", "_law_deeds", "_law_calls", "_law_kept", "_law_turn", "_law_handed", "_law_stage", "_law_at", "_law_deed"]
theorem scLw : FnScope nLw ["_law_script"] (defScope sLw) := ⟨rfl, rfl, rfl, by decide +kernel, rfl, by decide +kernel, by decide +kernel⟩
theorem ok_lw {f : Addr} {fd : FuncData} (T : Txt K mg Cb) (F : Fun K "law" "law" sLw f fd) {aBx aTk aMe aNm aCo aSh aUs aPk aRe aMx aLk aLo aWb aBt aBi : Addr} {dBx dTk dMe dNm dCo dSh dUs dPk dRe dMx dLk dLo dWb dBt dBi : FuncData}
    (HBx : Has K mg "_law_box" sBx ["_law_script", "_law_k"] aBx dBx) (HTk : Has K mg "_law_take" sTk ["_law_box_here", "_law_many"] aTk dTk) (HMe : Has K mg "_law_menu" sMe ["_law_kind"] aMe dMe) (HNm : Has K mg "_law_names" sNm ["_law_box_here", "_law_many"] aNm dNm) (HCo : Has K mg "_law_course" sCo ["_law_name", "_law_text", "_law_deeds", "_law_calls"] aCo dCo) (HSh : Has K mg "_law_shortest" sSh ["_law_courses"] aSh dSh) (HUs : Has K mg "_law_used" sUs ["_law_courses"] aUs dUs) (HPk : Has K mg "_law_pick" sPk ["_law_box_here", "_law_some"] aPk dPk) (HRe : Has K mg "_law_reached" sRe ["_law_courses", "_law_rows"] aRe dRe) (HMx : Has K mg "_law_mixed" sMx ["_law_box_here", "_law_some"] aMx dMx) (HLk : Has K mg "looks_by" sLk ["book", "dealing", "rows"] aLk dLk) (KLk : KBn K dLk ["book", "dealing", "rows"] 0 ["rows", "book", "dealing"] (fun _ ws => ws.drop 1 ++ ws.take 1) (fun _ zs => zs.drop 1 ++ zs.take 1)) (HLo : Has K mg "_law_looks" sLo ["_law_courses", "_law_deal", "_law_rows"] aLo dLo) (HWb : Has K mg "within_by" sWb ["dealing", "u", "v"] aWb dWb) (HBt : Has K mg "_law_bent" sBt ["_law_box_here", "_law_row", "_law_deeds"] aBt dBt)
    (MkB : Mk K Cb aBi) (bBi : Binds K dBi ["self", "courses"] []) (GBi : FnOk P w K mg base CX0 6 aBi dBi ["self", "courses"] (spMk K Cb 1 (Rbi Cb)))
    (GSh : FnOk P w K mg base CX0 3 aSh dSh ["_law_courses"] (spEN K 1 Rsh)) (GRe : FnOk P w K mg base CX0 3 aRe dRe ["_law_courses", "_law_rows"] (spE K 2 Rrc)) (GLk : FnOk P w K mg base CX0 4 aLk dLk ["book", "dealing", "rows"] (spE K 3 (Rlb Cb))) (GLo : FnOk P w K mg base CX0 3 aLo dLo ["_law_courses", "_law_deal", "_law_rows"] (spE K 3 Rlo)) (GWb : FnOk P w K mg base CX0 3 aWb dWb ["dealing", "u", "v"] (spE K 3 Rwb)) :
    FnOk P w K mg base CX0 8 f fd ["_law_script"] (spLaw K) := by
  have GBx : FnOk P w K mg base CX0 1 aBx dBx ["_law_script", "_law_k"] (spN K 2 Rbx) := ok_bx T HBx.F
  have GTk : FnOk P w K mg base CX0 1 aTk dTk ["_law_box_here", "_law_many"] (spW K 2 Rtk) := ok_tk T HTk.F
  have GMe : FnOk P w K mg base CX0 1 aMe dMe ["_law_kind"] (spR K 1 Rme) := ok_me T HMe.F
  have GNm : FnOk P w K mg base CX0 3 aNm dNm ["_law_box_here", "_law_many"] (spX K 2 Pna Qna) := ok_nm T HNm.F HTk HPk
  have GCo : FnOk P w K mg base CX0 1 aCo dCo ["_law_name", "_law_text", "_law_deeds", "_law_calls"] (spR K 4 Rco) := ok_co T HCo.F
  have GUs : FnOk P w K mg base CX0 1 aUs dUs ["_law_courses"] (spR K 1 Rus) := ok_us T HUs.F
  have GPk : FnOk P w K mg base CX0 2 aPk dPk ["_law_box_here", "_law_some"] (spE K 2 Rpk) := ok_pk T HPk.F HTk
  have GMx : FnOk P w K mg base CX0 2 aMx dMx ["_law_box_here", "_law_some"] (spE K 2 Rmx) := ok_mx T HMx.F HTk
  have GBt : FnOk P w K mg base CX0 3 aBt dBt ["_law_box_here", "_law_row", "_law_deeds"] (spE K 3 Rbt) := ok_bt T HBt.F HTk HPk
  refine F.ok scLw (fun vs H Q E hs => ?_) fun cdv A outer s H vs Q E hr hs => ?_
  · obtain ⟨a, ns, rfl, _⟩ := hs
    rfl
  obtain ⟨a, ns, rfl, hS, hlen, kk⟩ := hs
  have nd := scLw.nd
  have hr1 : Room 1 _ := hr.mono (by decide)
  have hr2 : Room 2 _ := hr.mono (by decide)
  have hr3 : Room 3 _ := hr.mono (by decide)
  have hr4 : Room 4 _ := hr.mono (by decide)
  refine ⟨_, (pss_cons (ps_for PassesOwn.never rfl (pi_range1 (by rfl) T.range (pa_cons (pe_callB (call_max2 rfl) (by rfl) T.max (by decide +kernel) (pa_cons pe_int (pa_cons (pe_callB (call_min2 rfl) (by rfl) T.min (by decide +kernel) (pa_cons pe_int (pa_cons (pe_callB call_len_seq (by rfl) T.len PySem.boot_len (pa_cons (pv 0) pa_nil)) pa_nil))) pa_nil))) pa_nil)) (pg_name (i := 1) nd rfl (Or.inl rfl)) (pss_cons (ps_set (i := 2) nd rfl (Or.inr rfl) (pe_call GBx hr1 rfl HBx.m HBx.F.kp HBx.b .nil pass0 (pa_cons (pv 0) (pa_cons (pv 1) pa_nil))))
 (pss_cons (ps_set (i := 3) nd rfl (Or.inr rfl) (pe_call GMe hr1 rfl HMe.m HMe.F.kp HMe.b .nil pass0 (pa_cons (pe_call GTk hr1 rfl HTk.m HTk.F.kp HTk.b .nil pass0 (pa_cons (pv 2) (pa_cons pe_int pa_nil))) pa_nil)))
 (pss_cons (ps_set (i := 4) nd rfl (Or.inl rfl) (pe_call GNm hr3 rfl HNm.m HNm.F.kp HNm.b .nil pass0 (pa_cons (pv 2) (pa_cons pe_int pa_nil))))
 (pss_cons (ps_asg (pe_tup (pa_cons (pe_slice sl_list (pv 4) po_none (po_some pe_int)) (pa_cons (pe_slice sl_list (pv 4) (po_some pe_int) po_none) pa_nil))) (pg_tup rfl (pgs_cons (pg_name (i := 12) nd rfl (Or.inr rfl)) (pgs_cons (pg_name (i := 13) nd rfl (Or.inr rfl)) pgs_nil))))
 (pss_cons (ps_set (i := 5) nd rfl (Or.inl rfl) (pe_callTy call_tuple_of (by rfl) T.tuple (by decide +kernel) (pa_cons (pe_lc (own := [("_law_at", 18)]) (g := (gName 18)) (tt := tYes) rfl nd (pi_range1 (by rfl) T.range (pa_cons pe_int pa_nil)) (blkOk_by (N := nLw) (sc := defScope sLw) (by decide +kernel)) (fun _ _ _ _ _ => (pg_name (i := 18) nd rfl (Or.inl rfl))) (fun _ _ _ _ _ => pts_nil) (fun _ _ _ _ _ => (pe_call GCo hr1 rfl HCo.m HCo.F.kp HCo.b .nil pass0 (pa_cons (pe_ix (kix_list (K := K) rfl) (pv 13) (pv 18) (fun _ _ => rfl)) (pa_cons (pe_ix (kix_list (K := K) rfl) (pv 3) (pv 18) (fun _ _ => rfl)) (pa_cons (pv 12) (pa_cons (pv 13) pa_nil))))))) pa_nil)))
 (pss_cons (ps_set (i := 6) nd rfl (Or.inr rfl) (pe_call GSh hr3 rfl HSh.m HSh.F.kp HSh.b .nil pass0 (pa_cons (pv 5) pa_nil)))
 (pss_cons (ps_set (i := 7) nd rfl (Or.inl rfl) (pe_call GUs hr1 rfl HUs.m HUs.F.kp HUs.b .nil pass0 (pa_cons (pv 5) pa_nil)))
 (pss_cons (ps_set (i := 8) nd rfl (Or.inr rfl) (pe_call GNm hr3 rfl HNm.m HNm.F.kp HNm.b .nil pass0 (pa_cons (pv 2) (pa_cons (pe_op op_add pe_int (pe_call GTk hr1 rfl HTk.m HTk.F.kp HTk.b .nil pass0 (pa_cons (pv 2) (pa_cons pe_int pa_nil)))) pa_nil))))
 (pss_cons (ps_set (i := 9) nd rfl (Or.inr rfl) (pe_callTy (call_dictL rfl) (by rfl) T.dict (by decide +kernel) (pa_cons (pe_lc (own := [("_law_deed", 19)]) (g := (gName 19)) (tt := tYes) rfl nd (pi_list (pv 7)) (blkOk_by (N := nLw) (sc := defScope sLw) (by decide +kernel)) (fun _ _ _ _ _ => (pg_name (i := 19) nd rfl (Or.inl rfl))) (fun _ _ _ _ _ => pts_nil) (fun _ _ _ _ _ => (pe_tup (pa_cons (pv 19) (pa_cons (pe_call GPk hr2 rfl HPk.m HPk.F.kp HPk.b .nil pass0 (pa_cons (pv 2) (pa_cons (pv 8) pa_nil))) pa_nil))))) pa_nil)))
 (pss_cons (ps_set (i := 10) nd rfl (Or.inl rfl) (pe_callTy cr_tupFz (by rfl) T.tuple (by decide +kernel) (pa_cons (pe_lc (own := [("_law_deed", 19)]) (g := (gName 19)) (tt := tYes) rfl nd (pi_list (pv 7)) (blkOk_by (N := nLw) (sc := defScope sLw) (by decide +kernel)) (fun _ _ _ _ _ => (pg_name (i := 19) nd rfl (Or.inl rfl))) (fun _ _ _ _ _ => pts_nil) (fun _ _ _ _ _ => (pe_tup (pa_cons (pv 19) (pa_cons (pe_dget (hu_of hr) (pv 9) (pv 19) (fun _ _ => rfl)) pa_nil))))) pa_nil)))
 (pss_cons (ps_set (i := 11) nd rfl (Or.inl rfl) (pe_make MkB GBi hr rfl T.mgC bBi .nil pass0 (pa_cons (pv 5) pa_nil)))
 (pss_one (ps_if (pt_cmp (pc_din (hu_of hr) (pe_tup (pa_cons (pe_ix ix_tup (pe_ix ix_tup (pv 5) pe_int (fun _ _ => rfl)) pe_int (fun _ _ => rfl)) (pa_cons pe_int pa_nil))) (pv 6))) (pss_cons (ps_set (i := 14) nd rfl (Or.inr rfl) (pe_callTy (call_dictLT rfl (hu65_of hr)) (by rfl) T.dict (by decide +kernel) (pa_cons (pe_lc (own := [("_law_stage", 17)]) (g := (gName 17)) (tt := tYes) rfl nd (pi_list (pe_call GRe hr3 rfl HRe.m HRe.F.kp HRe.b .nil pass0 (pa_cons (pv 5) (pa_cons (pv 6) pa_nil)))) (blkOk_by (N := nLw) (sc := defScope sLw) (by decide +kernel)) (fun _ _ _ _ _ => (pg_name (i := 17) nd rfl (Or.inl rfl))) (fun _ _ _ _ _ => pts_nil) (fun _ _ _ _ _ => (pe_tup (pa_cons (pv 17) (pa_cons (pe_dget (hu_of hr) (pv 6) (pv 17) (fun _ _ => rfl)) pa_nil))))) pa_nil)))
 (pss_one (ps_for PassesOwn.never rfl (pi_range1 (by rfl) T.range (pa_cons pe_int pa_nil)) (pg_name (i := 15) nd rfl (Or.inl rfl)) (pss_cons (ps_set (i := 16) nd rfl (Or.inl rfl) (pe_callTy (call_dictLT rfl (hu65_of hr)) (by rfl) T.dict (by decide +kernel) (pa_cons (pe_lc (own := [("_law_stage", 17)]) (g := (gName 17)) (tt := tYes) rfl nd (pi_list (pe_call GMx hr2 rfl HMx.m HMx.F.kp HMx.b .nil pass0 (pa_cons (pv 2) (pa_cons (pe_callB (cr_sortedT rfl hr.units) (by rfl) T.sorted (by decide +kernel) (pa_cons (pv 14) pa_nil)) pa_nil)))) (blkOk_by (N := nLw) (sc := defScope sLw) (by decide +kernel)) (fun _ _ _ _ _ => (pg_name (i := 17) nd rfl (Or.inl rfl))) (fun _ _ _ _ _ => pts_nil) (fun _ _ _ _ _ => (pe_tup (pa_cons (pv 17) (pa_cons (pe_dget (hu_of hr) (pv 14) (pv 17) (fun _ _ => rfl)) pa_nil))))) pa_nil)))
 (pss_cons (ps_if (PW.pt (pw_or (pt_cmpR (op_neD hr.units) (pe_callN0 GLk hr4 rfl HLk.m HLk.F.kp KLk pass0 (pk_cons (pv 16) (pk_cons (pv 11) (pk_cons (pv 10) pk_nil)))) (pe_call GLo hr3 rfl HLo.m HLo.F.kp HLo.b .nil pass0 (pa_cons (pv 5) (pa_cons (pv 9) (pa_cons (pv 14) pa_nil)))) (nomark _)) (pw_or1 (pt_cmpR (op_neDT (hu65_of hr)) (pv 16) (pv 14) (nomark _))))) (pss_one (ps_ret pe_bl)) pss_nil)
 (pss_cons (ps_if (pt_not (pt_val (pe_call GWb hr3 rfl HWb.m HWb.F.kp HWb.b .nil pass0 (pa_cons (pv 10) (pa_cons (pe_tup pa_nil) (pa_cons (pe_dget (hu_of hr) (pv 14) (pe_tup (pa_cons (pe_ix ix_tup (pe_ix ix_tup (pv 5) pe_int (fun _ _ => rfl)) pe_int (fun _ _ => rfl)) (pa_cons pe_int pa_nil))) (fun _ _ => rfl)) pa_nil)))))) (pss_one (ps_ret pe_bl)) pss_nil)
 (pss_cons (ps_set (i := 17) nd rfl (Or.inl rfl) (pe_call GPk hr2 rfl HPk.m HPk.F.kp HPk.b .nil pass0 (pa_cons (pv 2) (pa_cons (pe_callB (cr_sortedT rfl hr.units) (by rfl) T.sorted (by decide +kernel) (pa_cons (pv 14) pa_nil)) pa_nil))))
 (pss_one (ps_asg (pe_call GBt hr3 rfl HBt.m HBt.F.kp HBt.b .nil pass0 (pa_cons (pv 2) (pa_cons (pe_dget (hu_of hr) (pv 14) (pv 17) (fun _ _ => rfl)) (pa_cons (pv 7) pa_nil)))) (pg_sub (pv 14) (pv 17) (set_dict (hu_of hr)))))))))))) pss_nil))))))))))))))
 (pss_one (ps_ret pe_bl))), ?_⟩
  have hd0 : FD.DpAll K (hide [] H) (ns.map V.int) (ns.map PyData.int) := dp_ints ns
  have hh : hide [] H = H := by funext a; exact hide_out (fun z => nomatch z)
  rw [hh] at hd0
  suffices hrun : ∀ D : Ends, Fin ⟨K, [], H, hide [] H⟩ D (.bool true) → FD.Run ⟨K, [], H, hide [] H⟩ _ D [] (startE nLw.length 1 [.d (.list (ns.map .int))]) [] by
    refine hrun _ (fun v H' _ r => ?_) _ _ (ok_startD (ds := [.list (ns.map .int)]) (fun _ z => nomatch z) (.cons (.lst (by rw [hh]; exact hS) (by rw [hh]; exact hd0)) .nil) (by show 1 ≤ 20; decide))
    rw [Dp.bool_of r]
    exact kk _
  intro D fin
  generalize hN : PyData.list (ns.map .int) = nsD
  show FD.Run _ _ D [] [.d nsD, .u, .u, .u, .u, .u, .u, .u, .u, .u, .u, .u, .u, .u, .u, .u, .u, .u, .u, .u] []
  refine q_for (i_rng1 (a_cons (x_cbP (a_cons x_int (a_cons (x_cbP (a_cons x_int (a_cons (x_cbP (a_cons (x_is (e1 := .d (.list (ns.map .int))) (x_vd rfl) (by rw [hN])) a_nil) (c_lenL (.d _))) a_nil)) c_min2) a_nil)) c_max2) a_nil) ?_ ?_)
    (fun i δ μ => ∃ e1 e2 e3 e4 e5 e6 e7 e8 e9 e10 e11 e12 e13 e14 e15 e16 e17 e18 e19 : Ent, δ = [.d nsD, e1, e2, e3, e4, e5, e6, e7, e8, e9, e10, e11, e12, e13, e14, e15, e16, e17, e18, e19] ∧ μ = []) ⟨_, _, _, _, _, _, _, _, _, _, _, _, _, _, _, _, _, _, _, rfl, rfl⟩ ?_ ?_
  · rw [List.length_map]; repeat' split <;> omega
  · rw [List.length_map]; repeat' split <;> omega
  · rintro B' hB kk0 d δ1 μ1 hi ⟨e1, e2, e3, e4, e5, e6, e7, e8, e9, e10, e11, e12, e13, e14, e15, e16, e17, e18, e19, rfl, rfl⟩
    obtain ⟨hi3, rfl⟩ : kk0 < 64 ∧ d = .int (kk0 : Int) := by
      have hl := (List.getElem?_eq_some_iff.mp hi).1
      rw [rngD_length] at hl
      rw [rngD_get hl, Int.zero_add] at hi
      refine ⟨?_, (Option.some.inj hi).symm⟩
      rw [List.length_map] at hl
      revert hl
      repeat' split
      all_goals omega
    refine ⟨[1], _, tg_name, ?_⟩
    show FD.Run _ _ _ [] [.d nsD, .d (.int (kk0 : Int)), e2, e3, e4, e5, e6, e7, e8, e9, e10, e11, e12, e13, e14, e15, e16, e17, e18, e19] []
    refine q_asgN (ds := [.list (ns.map .int), .int (kk0 : Int)]) (es := (bxOf ns kk0).ds) (a_cons (x_is (x_vd rfl) (by rw [hN])) (a_cons (x_vd rfl) a_nil)) ⟨ns, kk0, rfl, by omega, rfl⟩ fun bx hbx => ?_
    generalize bxOf ns kk0 = b0
    generalize PyData.int (kk0 : Int) = kD
    show FD.Run _ _ _ [bx] [.d nsD, .d kD, .m bx, e3, e4, e5, e6, e7, e8, e9, e10, e11, e12, e13, e14, e15, e16, e17, e18, e19] [(bx, .lst b0.ds)]
    have hv6 := tkV_lt (b := b0) (n := 6) (by decide)
    obtain ⟨k, hk⟩ : ∃ k : Nat, tkV b0 6 = (k : Int) := ⟨(tkV b0 6).toNat, by omega⟩
    have hk6 : k < 6 := by omega
    refine q_asg (x_callR (ds := [.int (k : Int)]) (a_cons (x_is (x_take (x_vm rfl) x_int (by decide) (by decide)) (by rw [hk])) a_nil) ⟨k, hk6, rfl, rfl⟩) ?_
    generalize tkB b0 6 = b1
    generalize hmD : PyData.list ((menuT k).map .str) = mD
    show FD.Run _ _ _ [bx] [.d nsD, .d kD, .m bx, .d mD, e4, e5, e6, e7, e8, e9, e10, e11, e12, e13, e14, e15, e16, e17, e18, e19] [(bx, .lst b1.ds)]
    refine q_asgXG (μ0 := [(bx, .lst b1.ds)]) (a_cons (x_vm rfl) (a_cons x_int a_nil)) (fun _ h => h) (fun h => h) ⟨bx, 7, b1, rfl, rfl, by decide⟩ fun nd1 d μ0' hq had => ?_
    obtain ⟨nl, b2, rfl, hl7, hnm, hnn, rfl⟩ := hq bx 7 b1 rfl rfl
    refine ⟨[(bx, .lst b2.ds)], [4], _, swap_all rfl, tg_name, ?_⟩
    show FD.Run _ _ _ [bx] [.d nsD, .d kD, .m bx, .d mD, .d (.list (nl.map .str)), e5, e6, e7, e8, e9, e10, e11, e12, e13, e14, e15, e16, e17, e18, e19] [(bx, .lst b2.ds)]
    obtain ⟨deeds, calls, hdc, o⟩ : ∃ deeds calls : List Str, (deeds = nl.take 4 ∧ calls = nl.drop 4) ∧ NmsOk deeds calls := ⟨_, _, ⟨rfl, rfl⟩, by rw [List.length_take]; omega, by rw [List.length_drop]; omega, fun x hx => hnm x (List.mem_of_mem_take hx), fun x hx => hnm x (List.mem_of_mem_drop hx), hnn.sublist (List.drop_sublist _ _)⟩
    refine q_asgG (d := .tuple [.list (deeds.map .str), .list (calls.map .str)]) (x_tup (ds := [.list (deeds.map .str), .list (calls.map .str)]) (a_cons (x_is (x_slL (x_vd rfl) p_none (p_some x_int) (.d _)) (by rw [show (4 : Int) = ((4 : Nat) : Int) from rfl, cutD_to', hdc.1])) (a_cons (x_is (x_slL (x_vd rfl) (p_some x_int) p_none (.d _)) (by rw [show (4 : Int) = ((4 : Nat) : Int) from rfl, cutD_from, hdc.2])) a_nil)) (by simp)) tg_tup2 ?_
    generalize PyData.list (nl.map .str) = nD
    generalize hdD : PyData.list (deeds.map .str) = dD
    generalize hcD : PyData.list (calls.map .str) = cD
    show FD.Run _ _ _ [bx] [.d nsD, .d kD, .m bx, .d mD, .d nD, e5, e6, e7, e8, e9, e10, e11, .d dD, .d cD, e14, e15, e16, e17, e18, e19] [(bx, .lst b2.ds)]
    refine q_asg (e := .d (bokD (mkCs deeds calls k))) (x_is (x_cbP (a_cons (x_lcA (l := List.range 3) (enc := fun a : Nat => PyData.int (a : Int)) (f := fun a => crsD (mkC (calls.getD a "") deeds calls (parse ((menuW k).getD a [])))) (i_is (i_rng1 (n := 3) (a_cons x_int a_nil) (by decide) (by decide)) (rng_map 3)) (by decide) (ts := [18]) (fun a => [.d nsD, .d kD, .m bx, .d mD, .d nD, e5, e6, e7, e8, e9, e10, e11, .d dD, .d cD, e14, e15, e16, e17, .d (.int (a : Int)), e19]) (fun a _ => tg_name) (fun k hk => hk) fun a ha G' B2 D2 => ?_) a_nil) (c_tupleL (.d _))) (by unfold bokD mkCs; rw [List.map_map]; rfl)) ?_
    · have ha : a < 3 := List.mem_range.mp ha
      exact x_callR (ds := [.str (calls.getD a ""), .str ((menuT k).getD a ""), .list (deeds.map .str), .list (calls.map .str)]) (a_cons (x_op (x_is (e1 := .d (.list (calls.map .str))) (x_vd rfl) (by rw [hcD])) (x_vd rfl) (o_ixL (.d _) (atI_nat (by rw [List.getElem?_map, getD_gets (by rw [o.lc]; exact ha)]; rfl)))) (a_cons (x_op (x_is (e1 := .d (.list ((menuT k).map .str))) (x_vd rfl) (by rw [hmD])) (x_vd rfl) (o_ixL (.d _) (atI_nat (by rw [List.getElem?_map, getD_gets (by rw [menu_len k hk6]; exact ha)]; rfl)))) (a_cons (x_is (x_vd rfl) (by rw [hdD])) (a_cons (x_is (x_vd rfl) (by rw [hcD])) a_nil)))) ⟨_, _, deeds, calls, (menuW k).getD a [], rfl, tx_of (menu_tx k hk6 a ha), o.ld, o.lc, fun x hx => (o.nd x hx).tok, fun x hx => (o.nc x hx).tok, rfl⟩
    have b := bks o hk6
    have usub := used_sub o hk6
    have ulen := used_len o hk6
    have upos := used_pos (deeds := deeds) (calls := calls) hk6
    generalize mkCs deeds calls k = cs at b usub ulen upos
    have g0 := good_shT b
    generalize hT : shT cs = tb at g0
    show FD.Run _ _ _ [bx] [.d nsD, .d kD, .m bx, .d mD, .d nD, .d (bokD cs), e6, e7, e8, e9, e10, e11, .d dD, .d cD, e14, e15, e16, e17, e18, e19] [(bx, .lst b2.ds)]
    refine q_asgNw (mo := .dT (encT rowD tb)) (n_callEN (a_cons (x_vd rfl) a_nil) (swap_nil _) (by simp) ⟨cs, rfl, rfl, rfl, b, by rw [hT]⟩) fun rw_ hrw => ?_
    show FD.Run _ _ _ [rw_, bx] [.d nsD, .d kD, .m bx, .d mD, .d nD, .d (bokD cs), .m rw_, e7, e8, e9, e10, e11, .d dD, .d cD, e14, e15, e16, e17, e18, e19] [(rw_, .dT (encT rowD tb)), (bx, .lst b2.ds)]
    refine q_asg (x_callR (ds := [bokD cs]) (a_cons (x_vd rfl) a_nil) ⟨cs, rfl, b.ok, rfl⟩) ?_
    have und := used_nd cs
    generalize hU : usedL cs = used at usub ulen upos und
    show FD.Run _ _ _ [rw_, bx] [.d nsD, .d kD, .m bx, .d mD, .d nD, .d (bokD cs), .m rw_, .d (.list (used.map .str)), e8, e9, e10, e11, .d dD, .d cD, e14, e15, e16, e17, e18, e19] [(rw_, .dT (encT rowD tb)), (bx, .lst b2.ds)]
    have hv3 := tkV_lt (b := b2) (n := 3) (by decide)
    obtain ⟨np, hnp⟩ : ∃ np : Nat, 1 + tkV b2 3 = (np : Int) := ⟨(1 + tkV b2 3).toNat, by omega⟩
    refine q_asgXG (μ0 := [(bx, .lst (tkB b2 3).ds)]) (μ1 := [(rw_, .dT (encT rowD tb)), (bx, .lst (tkB b2 3).ds)]) (es := [.m bx, .d (.int (np : Int))]) (a_cons (x_vm rfl) (a_cons (x_is (x_op x_int (x_takeJ 1 (x_vm rfl) x_int rfl (by decide) (by decide)) o_I0) (by rw [hnp])) a_nil)) (fun _ h => List.mem_cons_of_mem _ h) (fun _ => by simp [ad]) ⟨bx, np, tkB b2 3, rfl, rfl, by omega⟩ fun nd1 d μ0' hq had => ?_
    obtain ⟨places, b3, rfl, hpl, hpn, hpd, rfl⟩ := hq bx np (tkB b2 3) rfl rfl
    refine ⟨[(rw_, .dT (encT rowD tb)), (bx, .lst b3.ds)], [8], _, swap_set (j := 1) rfl nd1, tg_name, ?_⟩
    have pl0 : 0 < places.length := by omega
    have pl3 : places.length ≤ 3 := by omega
    show FD.Run _ _ _ [rw_, bx] [.d nsD, .d kD, .m bx, .d mD, .d nD, .d (bokD cs), .m rw_, .d (.list (used.map .str)), .d (.list (places.map .str)), e9, e10, e11, .d dD, .d cD, e14, e15, e16, e17, e18, e19] [(rw_, .dT (encT rowD tb)), (bx, .lst b3.ds)]
    have dok := deal_ok b3 und (by omega) pl0 (fun x hx => (o.nd x (usub x hx)).tok) (fun x hx => (hpn x hx).tok) (places := places)
    have dke := deal_keys b3 places used
    have dun : dealOf b3 places used = (List.range used.length).map fun i => (used.getD i "", places.getD (tkV (dlBox b3 places.length i) places.length).toNat "") := rfl
    generalize dealOf b3 places used = deal at dok dke dun
    have dlen : deal.length = used.length := by rw [← dke, List.length_map]
    refine q_asgNw (mo := .dK (kd (dlD deal))) (μ1 := [(rw_, .dT (encT rowD tb)), (bx, .lst (dlBox b3 places.length used.length).ds)]) (n_dictL (l := dlD deal) (e := .d (.list ((dlD deal).map FD.prD))) (a_cons (x_is' (x_lc (xs := used.map PyData.str) (fun i => [(rw_, .dT (encT rowD tb)), (bx, .lst (dlBox b3 places.length i).ds)]) (fun _ => true) (fun i => FD.prD (used.getD i "", .str (places.getD (tkV (dlBox b3 places.length i) places.length).toNat ""))) (i_list (x_vd rfl)) (by rw [List.length_map]; omega) fun i d hd G' B2 D2 => ?_) ?_ ?_) a_nil) (.d _) (dl_keys_nd dok)) fun dl hdl => ?_
    · have hi : i < used.length := by
        have := (List.getElem?_eq_some_iff.mp hd).1
        rwa [List.length_map] at this
      rw [List.getElem?_map, getD_gets hi] at hd
      cases hd
      have hv := tkV_lt (b := dlBox b3 places.length i) (n := (places.length : Int)) (by omega)
      refine ⟨[19], _, _, tg_name, fun k hk => hk, t_yes, fun _ => x_tup (ds := [.str (used.getD i ""), .str (places.getD (tkV (dlBox b3 places.length i) places.length).toNat "")]) (a_cons (x_vd rfl) (a_cons (x_pickS 1 (x_vm rfl) (x_vd rfl) rfl pl0 (by omega)) a_nil)) (by simp), fun z => nomatch z⟩
    · rw [List.length_map]
    · rw [List.length_map, lcD_all, dun]
      unfold dlD
      rw [List.map_map, List.map_map]; rfl
    generalize dlBox b3 places.length used.length = b4
    show FD.Run _ _ _ [dl, rw_, bx] [.d nsD, .d kD, .m bx, .d mD, .d nD, .d (bokD cs), .m rw_, .d (.list (used.map .str)), .d (.list (places.map .str)), .m dl, e10, e11, .d dD, .d cD, e14, e15, e16, e17, e18, e19] [(dl, .dK (kd (dlD deal))), (rw_, .dT (encT rowD tb)), (bx, .lst b4.ds)]
    generalize PyData.list (places.map .str) = plD
    refine q_asg (e := .g (gDl deal)) (x_is (x_cb (a_cons (x_lcA (l := deal) (enc := fun p => PyData.str p.1) (f := fun p => FD.prD (p.1, .str p.2)) (i_list (x_is (x_vd rfl) (by rw [← dke, List.map_map]; rfl))) (by omega) (ts := [19]) (fun p => [.d nsD, .d kD, .m bx, .d mD, .d nD, .d (bokD cs), .m rw_, .d (.list (used.map .str)), .d plD, .m dl, e10, e11, .d dD, .d cD, e14, e15, e16, e17, e18, .d (.str p.1)]) (fun p _ => tg_name) (fun k hk => hk) fun p hp G' B2 D2 => ?_) a_nil) (c_tupFz (.d _))) ?_) ?_
    · exact x_tup (ds := [.str p.1, .str p.2]) (a_cons (x_vd rfl) (a_cons (x_dget (x_vm rfl) (x_vd rfl) List.mem_cons_self (.inl rfl) (by rw [valD_dl, CK.val_of_mem dok.nd p hp]; rfl)) a_nil)) (by simp)
    · unfold gDl dlD
      rw [List.map_map]; rfl
    refine q_asg (e := .g (gBook Cb cs)) (x_make (a_cons (x_vd rfl) a_nil) ⟨cs, rfl, b.ok, rfl⟩) ?_
    show FD.Run _ _ _ [dl, rw_, bx] [.d nsD, .d kD, .m bx, .d mD, .d nD, .d (bokD cs), .m rw_, .d (.list (used.map .str)), .d plD, .m dl, .g (gDl deal), .g (gBook Cb cs), .d dD, .d cD, e14, e15, e16, e17, e18, e19] [(dl, .dK (kd (dlD deal))), (rw_, .dT (encT rowD tb)), (bx, .lst b4.ds)]
    obtain ⟨c0, cr, hcs⟩ : ∃ c0 cr, cs = c0 :: cr := by
      cases h : cs with
      | nil => exact absurd h b.ok.ne
      | cons c0 cr => exact ⟨c0, cr, rfl⟩
    have st0 : ∀ (C : Cfg) (M' : List Addr) (δ' : List Ent) (μ' : Mem), δ'[5]? = some (.d (bokD cs)) → EvX C (tTup (tCons (tOp (rIxT C.K) (tOp (rIxT C.K) (tVar 5) (tC (.int 0))) (tC (.int 0))) (tCons (tC (.int 0)) tNil))) M' δ' μ' μ' (.d (stD (c0.nm, 0))) := fun C M' δ' μ' h =>
      x_tup (ds := [.str c0.nm, .int 0]) (a_cons (x_op (x_op (x_vd h) x_int (o_ixT (d := crsD c0) (by rw [hcs]; exact atI_nat (j := 0) rfl))) x_int (o_ixT (d := .str c0.nm) rfl)) (a_cons x_int a_nil)) (by simp)
    have bye : ∀ {C' : Cfg} {M' : List Addr} {δ' : List Ent} {μ' : Mem} {σ : St} {H' : Hp}, C'.M0 = [] → Ok C' M' δ' μ' σ H' → Ok C' [] δ' [] σ H' := fun hM o => (o.mems (μ' := []) (fun _ h => nomatch h) .nil).drop (fun a h => nomatch h) (fun _ h => nomatch h) (fun a h => by rw [hM] at h; cases h)
    refine r_if (t_B (x_is (x_tin (st0 _ _ _ _ rfl) (x_vm rfl) (.m (List.mem_cons_of_mem _ List.mem_cons_self))) (by rw [isSome_enc]))) (fun hb => ?_) (fun hb => ?_)
    · have h0 : (c0.nm, 0) ∈ tb.map (·.1) := CK.has_mem.mp hb
      have rg := rg_reach b g0 h0
      have r0 : (c0.nm, 0) ∈ reach cs tb (c0.nm, 0) := pre_mem
      have kp0 := g0.kp b (deal := deal) (by rw [dke, hU])
      generalize hL : srt (reach cs tb (c0.nm, 0)) = L
      have lnd : L.Nodup := hL ▸ (srt_perm _).nodup_iff.mpr rg.nd
      have lsub : ∀ s ∈ L, s ∈ tb.map (·.1) := fun s hs => rg.sub s (srt_mem.mp (hL ▸ hs))
      have l0 : (c0.nm, 0) ∈ L := hL ▸ srt_mem.mpr r0
      have lfew : L.length ≤ 14 := by
        have h1 := CK.nd_len lnd lsub
        rw [List.length_map] at h1
        have := g0.few b
        omega
      have kp1 := kp0.sel lnd lsub
      refine q_asgNw (mo := .dT (encT rowD (sel tb L))) (n_dictS (T := tb) (l := L) (a_cons (x_lcA (l := L) (enc := stD) (f := fun s => PyData.tuple [stD s, rowD (rowT tb s)]) (i_list (x_is (x_callE1 (a_cons (x_is (e1 := .d (bokD (c0 :: cr))) (x_vd rfl) (by rw [hcs])) (a_cons (x_vm rfl) a_nil)) (List.mem_cons_of_mem _ List.mem_cons_self) ⟨c0, cr, tb, rw_, rfl, rfl, rfl, hcs ▸ b, hcs ▸ g0, h0, rfl⟩) (by rw [← hcs, hL]))) (by omega) (ts := [17]) (fun s => [.d nsD, .d kD, .m bx, .d mD, .d nD, .d (bokD cs), .m rw_, .d (.list (used.map .str)), .d plD, .m dl, .g (gDl deal), .g (gBook Cb cs), .d dD, .d cD, e14, e15, e16, .d (stD s), e18, e19]) (fun s _ => tg_name) (fun k hk => hk) fun s hs G' B2 D2 => ?_) a_nil) (.d _) lnd) fun kp hkp => ?_
      · exact x_tup (ds := [stD s, rowD (rowT tb s)]) (a_cons (x_vd rfl) (a_cons (x_tgetR (x_vm rfl) (x_vd rfl) (List.mem_cons_of_mem _ List.mem_cons_self) (lsub s hs)) a_nil)) (by simp)
      show FD.Run _ _ _ [kp, dl, rw_, bx] [.d nsD, .d kD, .m bx, .d mD, .d nD, .d (bokD cs), .m rw_, .d (.list (used.map .str)), .d plD, .m dl, .g (gDl deal), .g (gBook Cb cs), .d dD, .d cD, .m kp, e15, e16, e17, e18, e19] [(kp, .dT (encT rowD (sel tb L))), (dl, .dK (kd (dlD deal))), (rw_, .dT (encT rowD tb)), (bx, .lst b4.ds)]
      have hkeys : (sel tb L).map (·.1) = L := sel_keys _ _
      generalize sel tb L = k0 at kp1 hkeys
      refine r_for (i_rng1 (n := 3) (a_cons x_int a_nil) (by decide) (by decide)) (fun t δ μ => ∃ (e15 e16 e17 : Ent) (kt : RT) (bt : Box), δ = [.d nsD, .d kD, .m bx, .d mD, .d nD, .d (bokD cs), .m rw_, .d (.list (used.map .str)), .d plD, .m dl, .g (gDl deal), .g (gBook Cb cs), .d dD, .d cD, .m kp, e15, e16, e17, e18, e19] ∧ μ = [(kp, .dT (encT rowD kt)), (dl, .dK (kd (dlD deal))), (rw_, .dT (encT rowD tb)), (bx, .lst bt.ds)] ∧ Kp cs deal t kt ∧ kt.map (·.1) = L) ⟨_, _, _, k0, b4, rfl, rfl, kp1, hkeys⟩ ?_ ?_
      · rintro B2 hB2 t dt δ1 μ1 ht ⟨e15, e16, e17, kt, bt, rfl, rfl, kpt, hkt⟩
        have ht3 : t < 3 := by
          have := (List.getElem?_eq_some_iff.mp ht).1
          rw [rngD_length] at this; exact this
        refine ⟨[15], _, tg_name, ?_⟩
        show FD.Run _ _ _ [kp, dl, rw_, bx] [.d nsD, .d kD, .m bx, .d mD, .d nD, .d (bokD cs), .m rw_, .d (.list (used.map .str)), .d plD, .m dl, .g (gDl deal), .g (gBook Cb cs), .d dD, .d cD, .m kp, .d dt, e16, e17, e18, e19] [(kp, .dT (encT rowD kt)), (dl, .dK (kd (dlD deal))), (rw_, .dT (encT rowD tb)), (bx, .lst bt.ds)]
        have lkt := kpt.look b dok (by rw [dke, hU]) (by omega)
        have kfew := kpt.few
        have pL : (srt L).Perm L := srt_perm L
        have sl : (srt L).length = L.length := pL.length_eq
        have hmix : mix ((srt L).map stD).length bt ((srt L).map stD) = ((mix (srt L).length bt (srt L)).1.map stD, (mix (srt L).length bt (srt L)).2) := by rw [List.length_map, mix_map]
        have pm := (mix_perm (srt L).length bt (srt L) rfl).trans pL
        generalize (mix (srt L).length bt (srt L)).1 = ml at hmix pm
        generalize (mix (srt L).length bt (srt L)).2 = bm at hmix
        have mnd : ml.Nodup := pm.nodup_iff.mpr lnd
        have mlen : ml.length = L.length := pm.length_eq
        have msub : ∀ s ∈ ml, s ∈ kt.map (·.1) := fun s hs => by rw [hkt]; exact pm.mem_iff.mp hs
        have pmk : ml.Perm (kt.map (·.1)) := by rw [hkt]; exact pm
        refine q_asgNw (mo := .dT (encT rowD (sel kt ml))) (μ1 := [(kp, .dT (encT rowD kt)), (dl, .dK (kd (dlD deal))), (rw_, .dT (encT rowD tb)), (bx, .lst bm.ds)]) (n_dictS (T := kt) (l := ml) (a_cons (x_lcA (l := ml) (enc := stD) (f := fun s => PyData.tuple [stD s, rowD (rowT kt s)]) (i_list (x_mixS 3 hmix (x_vm rfl) (x_is (x_cbP (a_cons (x_vm rfl) a_nil) (c_srtT (.m List.mem_cons_self) (by omega))) (by rw [hkt])) rfl (by rw [List.length_map]; omega))) (by omega) (ts := [17]) (fun s => [.d nsD, .d kD, .m bx, .d mD, .d nD, .d (bokD cs), .m rw_, .d (.list (used.map .str)), .d plD, .m dl, .g (gDl deal), .g (gBook Cb cs), .d dD, .d cD, .m kp, .d dt, e16, .d (stD s), e18, e19]) (fun s _ => tg_name) (fun k hk => hk) fun s hs G' B3 D3 => ?_) a_nil) (.d _) mnd) fun hd hhd => ?_
        · exact x_tup (ds := [stD s, rowD (rowT kt s)]) (a_cons (x_vd rfl) (a_cons (x_tgetR (x_vm rfl) (x_vd rfl) List.mem_cons_self (msub s hs)) a_nil)) (by simp)
        show FD.Run _ _ _ [hd, kp, dl, rw_, bx] [.d nsD, .d kD, .m bx, .d mD, .d nD, .d (bokD cs), .m rw_, .d (.list (used.map .str)), .d plD, .m dl, .g (gDl deal), .g (gBook Cb cs), .d dD, .d cD, .m kp, .d dt, .m hd, e17, e18, e19] [(hd, .dT (encT rowD (sel kt ml))), (kp, .dT (encT rowD kt)), (dl, .dK (kd (dlD deal))), (rw_, .dT (encT rowD tb)), (bx, .lst bm.ds)]
        have kph := kpt.sel mnd msub
        have lkh := kph.look b dok (by rw [dke, hU]) (by omega)
        have hsame : look cs deal (sel kt ml) (srt ((sel kt ml).map (·.1))) = look cs deal kt (srt (kt.map (·.1))) := by
          rw [sel_keys, srt_congr pmk]
          exact look_congr (sel_same kpt.nd pmk) _
        have hev := sel_eqv kpt.nd pmk
        have shR : ∀ (T : RT), Kp cs deal t T → ∀ p ∈ encR T, SeqAt.shaped p.2 = true := fun T hT p hp => by
          obtain ⟨q, hq, rfl⟩ := List.mem_map.mp hp
          refine sh_row fun x hx => ?_
          have := hT.deeds q.1 q.2 (CK.val_of_mem hT.nd q hq) x hx
          obtain ⟨y, hy, rfl⟩ := List.mem_map.mp this
          exact dok.t1 y hy
        have shl : SeqAt.shaped (lookD (look cs deal kt (srt (kt.map (·.1))))) = true := sh_look b.ok fun q hq => kpt.sub _ (srt_mem.mp (look_mem hq))
        refine q_no (t_orF (t_test (x_is (x_op (x_callEK (es := [.m hd, .g (gBook Cb cs), .g (gDl deal)]) (es' := [.g (gBook Cb cs), .g (gDl deal), .m hd]) (a := hd) (mo := .dT (encT rowD (sel kt ml))) (a_cons (x_vm rfl) (a_cons (x_vg rfl) (a_cons (x_vg rfl) a_nil))) (fun H zs r => rot3 r) List.mem_cons_self ⟨cs, deal, sel kt ml, hd, rfl, rfl, rfl, lkh, rfl⟩) (x_callES (μ0 := [(kp, .dT (encT rowD kt)), (dl, .dK (kd (dlD deal)))]) (a_cons (x_vd rfl) (a_cons (x_vm rfl) (a_cons (x_vm rfl) a_nil))) (fun p hp => ?_) (fun n => ?_) ⟨cs, deal, kt, kp, dl, rfl, rfl, rfl, lkt, rfl⟩) (o_neD (.d _) (.d _) ?_ shl)) ?_)) (t_test (x_is (x_op (x_vm rfl) (x_vm rfl) (o_eqDT (neg := true) (l := encR (sel kt ml)) (m := encR kt) (by rw [← encT_tD]; exact .m List.mem_cons_self) (by rw [← encT_tD]; exact .m (List.mem_cons_of_mem _ List.mem_cons_self)) (shR _ kph) (shR _ kpt))) (by rw [hev]; rfl)))) ?_
        · simp only [List.mem_cons, List.not_mem_nil, or_false] at hp ⊢
          rcases hp with rfl | rfl
          · exact .inr (.inl rfl)
          · exact .inr (.inr (.inl rfl))
        · have n2 := (List.nodup_cons.mp n).2
          exact n2.sublist (by simp [ad])
        · rw [hsame]; exact shl
        · rw [hsame, eqv_look]; rfl
        refine run_forget (fun _ h => nomatch h) ?_
        have hr0 : (c0.nm, 0) ∈ kt.map (·.1) := by rw [hkt]; exact l0
        refine q_no (t_notT (t_B (x_is (x_callE0 (a_cons (x_vg rfl) (a_cons (x_tup (ds := []) a_nil (by simp)) (a_cons (x_tgetR (x_vm rfl) (st0 _ _ _ _ rfl) List.mem_cons_self hr0) a_nil))) ⟨deal, [], rowT kt (c0.nm, 0), rfl, rfl, rfl, dok, row_nil deal, lkt.row _, rfl⟩) (by rw [byB_nil])))) ?_
        have hvs := tkV_lt (b := bm) (n := ((srt L).length : Int)) (by have := List.length_pos_of_mem l0; omega)
        obtain ⟨st, hst⟩ : ∃ st, (srt L)[(tkV bm ((srt L).length : Int)).toNat]? = some st := ⟨_, List.getElem?_eq_getElem (by omega)⟩
        have stm : st ∈ kt.map (·.1) := by rw [hkt]; exact srt_mem.mp (List.mem_of_getElem? hst)
        refine q_asg (e := .d (stD st)) (x_pickJ (xs := (srt L).map stD) 3 (x_vm rfl) (x_is (x_cbP (a_cons (x_vm rfl) a_nil) (c_srtT (.m List.mem_cons_self) (by omega))) (by rw [hkt])) rfl (by rw [List.length_map]; omega) (by rw [List.length_map]; omega) (by rw [List.length_map, List.getElem?_map, hst]; rfl)) ?_
        generalize tkB bm ((srt L).map stD).length = bp
        show FD.Run _ _ _ [kp, dl, rw_, bx] [.d nsD, .d kD, .m bx, .d mD, .d nD, .d (bokD cs), .m rw_, .d (.list (used.map .str)), .d plD, .m dl, .g (gDl deal), .g (gBook Cb cs), .d dD, .d cD, .m kp, .d dt, .m hd, .d (stD st), e18, e19] [(kp, .dT (encT rowD kt)), (dl, .dK (kd (dlD deal))), (rw_, .dT (encT rowD tb)), (bx, .lst bp.ds)]
        have rl := kpt.len st (rowT kt st) (row_of_val stm)
        obtain ⟨kpn, hkn⟩ := kpt.put stm (r := (bentR bp (rowT kt st) used).1) (by have := bent_len bp (rowT kt st) used; omega) (fun d hd => by
          rcases bent_mem upos d hd with h | h
          · exact kpt.deeds st _ (row_of_val stm) d h
          · rw [dke]; exact h)
        refine r_tput (j := 0) (k := stK st) (φ := gD (rowD (bentR bp (rowT kt st) used).1)) (e := .d (rowD (bentR bp (rowT kt st) used).1)) (x_bentJ 3 (x_vm rfl) (x_tgetR (x_vm rfl) (x_vd rfl) List.mem_cons_self stm) (x_vd rfl) rfl (by omega) upos (by omega)) (x_vm rfl) (x_vd rfl) (entG_d _) rfl (by rw [encT_len]; omega) ?_
        refine fun σ H o => ⟨_, _, ⟨.d dt, .m hd, .d (stD st), CK.put kt st (bentR bp (rowT kt st) used).1, (bentR bp (rowT kt st) used).2, rfl, ?_, kpn, by rw [hkn, hkt]⟩, o⟩
        show [(kp, MO.dT (putG (encT rowD kt) (stK st) (gD (rowD (bentR bp (rowT kt st) used).1)))), _, _, _] = _
        rw [enc_put]
      · rintro δ1 μ1 ⟨e15, e16, e17, kt, bt, rfl, rfl, kpt, hkt⟩
        exact fun σ H o => ⟨_, _, ⟨_, _, _, _, _, _, _, _, _, _, _, _, _, _, _, _, _, _, _, rfl, rfl⟩, bye rfl o⟩
    · exact r_next fun σ H o => ⟨_, _, ⟨_, _, _, _, _, _, _, _, _, _, _, _, _, _, _, _, _, _, _, rfl, rfl⟩, bye rfl o⟩
  · rintro δ1 μ1 ⟨e1, e2, e3, e4, e5, e6, e7, e8, e9, e10, e11, e12, e13, e14, e15, e16, e17, e18, e19, rfl, rfl⟩
    exact r_retP x_bl fin
end
end K09
namespace K09
open PySem L2 FD Evl
theorem tops {l : PySem.W.OpenLaw} {w : World} {K : PySem.W.Frag} {h : Heap} {mg : Str → Option Value} {fa C f1 f2 f3 f4 f5 f6 f7 f8 f9 f10 f11 f12 f13 f14 f15 f16 f17 f18 f19 f20 f21 f22 f23 f24 f25 f26 f27 f28 f29 f30 f31 f32 f33 f34 f35 f36 g1 g2 g3 g4 : Addr} (X : K.In h) (G : h.Ns mainGlobals mg) (hfa : mg "law" = some (.ref fa))
    {od1 an1 od2 an2 od3 an3 od4 an4 od5 an5 od6 an6 od7 an7 od8 an8 od9 an9 od10 an10 od11 an11 od12 an12 od13 an13 od14 an14 od15 an15 od16 an16 od17 an17 od18 an18 od19 an19 od20 an20 od21 an21 od22 an22 od23 an23 od24 an24 od25 an25 od26 an26 od27 an27 od28 an28 od29 an29 od30 an30 od31 an31 od32 an32 od33 an33 od34 an34 od35 an35 od36 an36 god1 gan1 god2 gan2 god3 gan3 god4 gan4 : Option Addr} {sl1 sl2 sl3 sl4 sl5 sl6 sl7 sl8 sl9 sl10 sl11 sl12 sl13 sl14 sl15 sl16 sl17 sl18 sl19 sl20 sl21 sl22 sl23 sl24 sl25 sl26 sl27 sl28 sl29 sl30 sl31 sl32 sl33 sl34 sl35 sl36 gsl1 gsl2 gsl3 gsl4 : Array (Option Value)} {oc1 kV1 dc1 pm1 cd1 ct1 oc2 kV2 dc2 pm2 cd2 ct2 oc3 kV3 dc3 pm3 cd3 ct3 oc4 kV4 dc4 pm4 cd4 ct4 oc5 kV5 dc5 pm5 cd5 ct5 oc6 kV6 dc6 pm6 cd6 ct6 oc7 kV7 dc7 pm7 cd7 ct7 oc8 kV8 dc8 pm8 cd8 ct8 oc9 kV9 dc9 pm9 cd9 ct9 oc10 kV10 dc10 pm10 cd10 ct10 oc11 kV11 dc11 pm11 cd11 ct11 oc12 kV12 dc12 pm12 cd12 ct12 oc13 kV13 dc13 pm13 cd13 ct13 oc14 kV14 dc14 pm14 cd14 ct14 oc15 kV15 dc15 pm15 cd15 ct15 oc16 kV16 dc16 pm16 cd16 ct16 oc17 kV17 dc17 pm17 cd17 ct17 oc18 kV18 dc18 pm18 cd18 ct18 oc19 kV19 dc19 pm19 cd19 ct19 oc20 kV20 dc20 pm20 cd20 ct20 oc21 kV21 dc21 pm21 cd21 ct21 oc22 kV22 dc22 pm22 cd22 ct22 oc23 kV23 dc23 pm23 cd23 ct23 oc24 kV24 dc24 pm24 cd24 ct24 oc25 kV25 dc25 pm25 cd25 ct25 oc26 kV26 dc26 pm26 cd26 ct26 oc27 kV27 dc27 pm27 cd27 ct27 oc28 kV28 dc28 pm28 cd28 ct28 oc29 kV29 dc29 pm29 cd29 ct29 oc30 kV30 dc30 pm30 cd30 ct30 oc31 kV31 dc31 pm31 cd31 ct31 oc32 kV32 dc32 pm32 cd32 ct32 oc33 kV33 dc33 pm33 cd33 ct33 oc34 kV34 dc34 pm34 cd34 ct34 oc35 kV35 dc35 pm35 cd35 ct35 oc36 kV36 dc36 pm36 cd36 ct36 goc1 gkV1 gdc1 gpm1 gcd1 gct1 goc2 gkV2 gdc2 gpm2 gcd2 gct2 goc3 gkV3 gdc3 gpm3 gcd3 gct3 goc4 gkV4 gdc4 gpm4 gcd4 gct4 : Value}
    (a1 : PySem.W.nsIn K mainGlobals "parts_of" = some (some (.ref f1))) (l1 : K.lookup f1 = some ⟨oc1, od1, .func (PySem.W.fnOf "parts_of" "parts_of" (defArgs sPo) (defBody sPo) (defScope sPo) .none kV1 dc1 pm1 an1 cd1 ct1), sl1⟩) (c1 : PySem.W.codeIn K cd1 "parts_of" = true) (k1 : PySem.W.keepIn K (.ref f1) = true)
    (a2 : PySem.W.nsIn K mainGlobals "is_integer" = some (some (.ref f2))) (l2 : K.lookup f2 = some ⟨oc2, od2, .func (PySem.W.fnOf "is_integer" "is_integer" (defArgs sIi) (defBody sIi) (defScope sIi) .none kV2 dc2 pm2 an2 cd2 ct2), sl2⟩) (c2 : PySem.W.codeIn K cd2 "is_integer" = true) (k2 : PySem.W.keepIn K (.ref f2) = true)
    (a3 : PySem.W.nsIn K mainGlobals "is_number" = some (some (.ref f3))) (l3 : K.lookup f3 = some ⟨oc3, od3, .func (PySem.W.fnOf "is_number" "is_number" (defArgs sIu) (defBody sIu) (defScope sIu) .none kV3 dc3 pm3 an3 cd3 ct3), sl3⟩) (c3 : PySem.W.codeIn K cd3 "is_number" = true) (k3 : PySem.W.keepIn K (.ref f3) = true)
    (a4 : PySem.W.nsIn K mainGlobals "is_letter" = some (some (.ref f4))) (l4 : K.lookup f4 = some ⟨oc4, od4, .func (PySem.W.fnOf "is_letter" "is_letter" (defArgs sIl) (defBody sIl) (defScope sIl) .none kV4 dc4 pm4 an4 cd4 ct4), sl4⟩) (c4 : PySem.W.codeIn K cd4 "is_letter" = true) (k4 : PySem.W.keepIn K (.ref f4) = true)
    (a5 : PySem.W.nsIn K mainGlobals "is_name" = some (some (.ref f5))) (l5 : K.lookup f5 = some ⟨oc5, od5, .func (PySem.W.fnOf "is_name" "is_name" (defArgs sIn) (defBody sIn) (defScope sIn) .none kV5 dc5 pm5 an5 cd5 ct5), sl5⟩) (c5 : PySem.W.codeIn K cd5 "is_name" = true) (k5 : PySem.W.keepIn K (.ref f5) = true)
    (a6 : PySem.W.nsIn K mainGlobals "is_step" = some (some (.ref f6))) (l6 : K.lookup f6 = some ⟨oc6, od6, .func (PySem.W.fnOf "is_step" "is_step" (defArgs sIs) (defBody sIs) (defScope sIs) .none kV6 dc6 pm6 an6 cd6 ct6), sl6⟩) (c6 : PySem.W.codeIn K cd6 "is_step" = true) (k6 : PySem.W.keepIn K (.ref f6) = true)
    (a7 : PySem.W.nsIn K mainGlobals "is_course" = some (some (.ref f7))) (l7 : K.lookup f7 = some ⟨oc7, od7, .func (PySem.W.fnOf "is_course" "is_course" (defArgs sIo) (defBody sIo) (defScope sIo) .none kV7 dc7 pm7 an7 cd7 ct7), sl7⟩) (c7 : PySem.W.codeIn K cd7 "is_course" = true) (k7 : PySem.W.keepIn K (.ref f7) = true)
    (a8 : PySem.W.nsIn K mainGlobals "check_courses" = some (some (.ref f8))) (l8 : K.lookup f8 = some ⟨oc8, od8, .func (PySem.W.fnOf "check_courses" "check_courses" (defArgs sCc) (defBody sCc) (defScope sCc) .none kV8 dc8 pm8 an8 cd8 ct8), sl8⟩) (c8 : PySem.W.codeIn K cd8 "check_courses" = true) (k8 : PySem.W.keepIn K (.ref f8) = true)
    (a9 : PySem.W.nsIn K mainGlobals "check_together" = some (some (.ref f9))) (l9 : K.lookup f9 = some ⟨oc9, od9, .func (PySem.W.fnOf "check_together" "check_together" (defArgs sCt) (defBody sCt) (defScope sCt) .none kV9 dc9 pm9 an9 cd9 ct9), sl9⟩) (c9 : PySem.W.codeIn K cd9 "check_together" = true) (k9 : PySem.W.keepIn K (.ref f9) = true)
    (a10 : PySem.W.nsIn K mainGlobals "first_fit" = some (some (.ref f10))) (l10 : K.lookup f10 = some ⟨oc10, od10, .func (PySem.W.fnOf "first_fit" "first_fit" (defArgs sFf) (defBody sFf) (defScope sFf) .none kV10 dc10 pm10 an10 cd10 ct10), sl10⟩) (c10 : PySem.W.codeIn K cd10 "first_fit" = true) (k10 : PySem.W.keepIn K (.ref f10) = true)
    (a11 : PySem.W.nsIn K mainGlobals "within" = some (some (.ref f11))) (l11 : K.lookup f11 = some ⟨oc11, od11, .func (PySem.W.fnOf "within" "within" (defArgs sWi) (defBody sWi) (defScope sWi) .none kV11 dc11 pm11 an11 cd11 ct11), sl11⟩) (c11 : PySem.W.codeIn K cd11 "within" = true) (k11 : PySem.W.keepIn K (.ref f11) = true)
    (a12 : PySem.W.nsIn K mainGlobals "need_dealt" = some (some (.ref f12))) (l12 : K.lookup f12 = some ⟨oc12, od12, .func (PySem.W.fnOf "need_dealt" "need_dealt" (defArgs sNd) (defBody sNd) (defScope sNd) .none kV12 dc12 pm12 an12 cd12 ct12), sl12⟩) (c12 : PySem.W.codeIn K cd12 "need_dealt" = true) (k12 : PySem.W.keepIn K (.ref f12) = true)
    (a13 : PySem.W.nsIn K mainGlobals "parts" = some (some (.ref f13))) (l13 : K.lookup f13 = some ⟨oc13, od13, .func (PySem.W.fnOf "parts" "parts" (defArgs sPa) (defBody sPa) (defScope sPa) .none kV13 dc13 pm13 an13 cd13 ct13), sl13⟩) (c13 : PySem.W.codeIn K cd13 "parts" = true) (k13 : PySem.W.keepIn K (.ref f13) = true)
    (a14 : PySem.W.nsIn K mainGlobals "within_by" = some (some (.ref f14))) (l14 : K.lookup f14 = some ⟨oc14, od14, .func (PySem.W.fnOf "within_by" "within_by" (defArgs sWb) (defBody sWb) (defScope sWb) .none kV14 dc14 pm14 an14 cd14 ct14), sl14⟩) (c14 : PySem.W.codeIn K cd14 "within_by" = true) (k14 : PySem.W.keepIn K (.ref f14) = true)
    (a15 : PySem.W.nsIn K mainGlobals "brought" = some (some (.ref f15))) (l15 : K.lookup f15 = some ⟨oc15, od15, .func (PySem.W.fnOf "brought" "brought" (defArgs sBr) (defBody sBr) (defScope sBr) .none kV15 dc15 pm15 an15 cd15 ct15), sl15⟩) (c15 : PySem.W.codeIn K cd15 "brought" = true) (k15 : PySem.W.keepIn K (.ref f15) = true)
    (a16 : PySem.W.nsIn K mainGlobals "looks_by" = some (some (.ref f16))) (l16 : K.lookup f16 = some ⟨oc16, od16, .func (PySem.W.fnOf "looks_by" "looks_by" (defArgs sLk) (defBody sLk) (defScope sLk) .none kV16 dc16 pm16 an16 cd16 ct16), sl16⟩) (c16 : PySem.W.codeIn K cd16 "looks_by" = true) (k16 : PySem.W.keepIn K (.ref f16) = true)
    (a17 : PySem.W.nsIn K mainGlobals "_law_box" = some (some (.ref f17))) (l17 : K.lookup f17 = some ⟨oc17, od17, .func (PySem.W.fnOf "_law_box" "_law_box" (defArgs sBx) (defBody sBx) (defScope sBx) .none kV17 dc17 pm17 an17 cd17 ct17), sl17⟩) (c17 : PySem.W.codeIn K cd17 "_law_box" = true) (k17 : PySem.W.keepIn K (.ref f17) = true)
    (a18 : PySem.W.nsIn K mainGlobals "_law_take" = some (some (.ref f18))) (l18 : K.lookup f18 = some ⟨oc18, od18, .func (PySem.W.fnOf "_law_take" "_law_take" (defArgs sTk) (defBody sTk) (defScope sTk) .none kV18 dc18 pm18 an18 cd18 ct18), sl18⟩) (c18 : PySem.W.codeIn K cd18 "_law_take" = true) (k18 : PySem.W.keepIn K (.ref f18) = true)
    (a19 : PySem.W.nsIn K mainGlobals "_law_pick" = some (some (.ref f19))) (l19 : K.lookup f19 = some ⟨oc19, od19, .func (PySem.W.fnOf "_law_pick" "_law_pick" (defArgs sPk) (defBody sPk) (defScope sPk) .none kV19 dc19 pm19 an19 cd19 ct19), sl19⟩) (c19 : PySem.W.codeIn K cd19 "_law_pick" = true) (k19 : PySem.W.keepIn K (.ref f19) = true)
    (a20 : PySem.W.nsIn K mainGlobals "_law_names" = some (some (.ref f20))) (l20 : K.lookup f20 = some ⟨oc20, od20, .func (PySem.W.fnOf "_law_names" "_law_names" (defArgs sNm) (defBody sNm) (defScope sNm) .none kV20 dc20 pm20 an20 cd20 ct20), sl20⟩) (c20 : PySem.W.codeIn K cd20 "_law_names" = true) (k20 : PySem.W.keepIn K (.ref f20) = true)
    (a21 : PySem.W.nsIn K mainGlobals "_law_course" = some (some (.ref f21))) (l21 : K.lookup f21 = some ⟨oc21, od21, .func (PySem.W.fnOf "_law_course" "_law_course" (defArgs sCo) (defBody sCo) (defScope sCo) .none kV21 dc21 pm21 an21 cd21 ct21), sl21⟩) (c21 : PySem.W.codeIn K cd21 "_law_course" = true) (k21 : PySem.W.keepIn K (.ref f21) = true)
    (a22 : PySem.W.nsIn K mainGlobals "_law_by_name" = some (some (.ref f22))) (l22 : K.lookup f22 = some ⟨oc22, od22, .func (PySem.W.fnOf "_law_by_name" "_law_by_name" (defArgs sBn) (defBody sBn) (defScope sBn) .none kV22 dc22 pm22 an22 cd22 ct22), sl22⟩) (c22 : PySem.W.codeIn K cd22 "_law_by_name" = true) (k22 : PySem.W.keepIn K (.ref f22) = true)
    (a23 : PySem.W.nsIn K mainGlobals "_law_named" = some (some (.ref f23))) (l23 : K.lookup f23 = some ⟨oc23, od23, .func (PySem.W.fnOf "_law_named" "_law_named" (defArgs sNg) (defBody sNg) (defScope sNg) .none kV23 dc23 pm23 an23 cd23 ct23), sl23⟩) (c23 : PySem.W.codeIn K cd23 "_law_named" = true) (k23 : PySem.W.keepIn K (.ref f23) = true)
    (a24 : PySem.W.nsIn K mainGlobals "_law_off" = some (some (.ref f24))) (l24 : K.lookup f24 = some ⟨oc24, od24, .func (PySem.W.fnOf "_law_off" "_law_off" (defArgs sOf) (defBody sOf) (defScope sOf) .none kV24 dc24 pm24 an24 cd24 ct24), sl24⟩) (c24 : PySem.W.codeIn K cd24 "_law_off" = true) (k24 : PySem.W.keepIn K (.ref f24) = true)
    (a25 : PySem.W.nsIn K mainGlobals "_law_used" = some (some (.ref f25))) (l25 : K.lookup f25 = some ⟨oc25, od25, .func (PySem.W.fnOf "_law_used" "_law_used" (defArgs sUs) (defBody sUs) (defScope sUs) .none kV25 dc25 pm25 an25 cd25 ct25), sl25⟩) (c25 : PySem.W.codeIn K cd25 "_law_used" = true) (k25 : PySem.W.keepIn K (.ref f25) = true)
    (a26 : PySem.W.nsIn K mainGlobals "_law_in" = some (some (.ref f26))) (l26 : K.lookup f26 = some ⟨oc26, od26, .func (PySem.W.fnOf "_law_in" "_law_in" (defArgs sLi) (defBody sLi) (defScope sLi) .none kV26 dc26 pm26 an26 cd26 ct26), sl26⟩) (c26 : PySem.W.codeIn K cd26 "_law_in" = true) (k26 : PySem.W.keepIn K (.ref f26) = true)
    (a27 : PySem.W.nsIn K mainGlobals "_law_part" = some (some (.ref f27))) (l27 : K.lookup f27 = some ⟨oc27, od27, .func (PySem.W.fnOf "_law_part" "_law_part" (defArgs sPt) (defBody sPt) (defScope sPt) .none kV27 dc27 pm27 an27 cd27 ct27), sl27⟩) (c27 : PySem.W.codeIn K cd27 "_law_part" = true) (k27 : PySem.W.keepIn K (.ref f27) = true)
    (a28 : PySem.W.nsIn K mainGlobals "_law_by" = some (some (.ref f28))) (l28 : K.lookup f28 = some ⟨oc28, od28, .func (PySem.W.fnOf "_law_by" "_law_by" (defArgs sBy) (defBody sBy) (defScope sBy) .none kV28 dc28 pm28 an28 cd28 ct28), sl28⟩) (c28 : PySem.W.codeIn K cd28 "_law_by" = true) (k28 : PySem.W.keepIn K (.ref f28) = true)
    (a29 : PySem.W.nsIn K mainGlobals "_law_menu" = some (some (.ref f29))) (l29 : K.lookup f29 = some ⟨oc29, od29, .func (PySem.W.fnOf "_law_menu" "_law_menu" (defArgs sMe) (defBody sMe) (defScope sMe) .none kV29 dc29 pm29 an29 cd29 ct29), sl29⟩) (c29 : PySem.W.codeIn K cd29 "_law_menu" = true) (k29 : PySem.W.keepIn K (.ref f29) = true)
    (a30 : PySem.W.nsIn K mainGlobals "_law_joined" = some (some (.ref f30))) (l30 : K.lookup f30 = some ⟨oc30, od30, .func (PySem.W.fnOf "_law_joined" "_law_joined" (defArgs sJo) (defBody sJo) (defScope sJo) .none kV30 dc30 pm30 an30 cd30 ct30), sl30⟩) (c30 : PySem.W.codeIn K cd30 "_law_joined" = true) (k30 : PySem.W.keepIn K (.ref f30) = true)
    (a31 : PySem.W.nsIn K mainGlobals "_law_shortest" = some (some (.ref f31))) (l31 : K.lookup f31 = some ⟨oc31, od31, .func (PySem.W.fnOf "_law_shortest" "_law_shortest" (defArgs sSh) (defBody sSh) (defScope sSh) .none kV31 dc31 pm31 an31 cd31 ct31), sl31⟩) (c31 : PySem.W.codeIn K cd31 "_law_shortest" = true) (k31 : PySem.W.keepIn K (.ref f31) = true)
    (a32 : PySem.W.nsIn K mainGlobals "_law_reached" = some (some (.ref f32))) (l32 : K.lookup f32 = some ⟨oc32, od32, .func (PySem.W.fnOf "_law_reached" "_law_reached" (defArgs sRe) (defBody sRe) (defScope sRe) .none kV32 dc32 pm32 an32 cd32 ct32), sl32⟩) (c32 : PySem.W.codeIn K cd32 "_law_reached" = true) (k32 : PySem.W.keepIn K (.ref f32) = true)
    (a33 : PySem.W.nsIn K mainGlobals "_law_looks" = some (some (.ref f33))) (l33 : K.lookup f33 = some ⟨oc33, od33, .func (PySem.W.fnOf "_law_looks" "_law_looks" (defArgs sLo) (defBody sLo) (defScope sLo) .none kV33 dc33 pm33 an33 cd33 ct33), sl33⟩) (c33 : PySem.W.codeIn K cd33 "_law_looks" = true) (k33 : PySem.W.keepIn K (.ref f33) = true)
    (a34 : PySem.W.nsIn K mainGlobals "_law_mixed" = some (some (.ref f34))) (l34 : K.lookup f34 = some ⟨oc34, od34, .func (PySem.W.fnOf "_law_mixed" "_law_mixed" (defArgs sMx) (defBody sMx) (defScope sMx) .none kV34 dc34 pm34 an34 cd34 ct34), sl34⟩) (c34 : PySem.W.codeIn K cd34 "_law_mixed" = true) (k34 : PySem.W.keepIn K (.ref f34) = true)
    (a35 : PySem.W.nsIn K mainGlobals "_law_bent" = some (some (.ref f35))) (l35 : K.lookup f35 = some ⟨oc35, od35, .func (PySem.W.fnOf "_law_bent" "_law_bent" (defArgs sBt) (defBody sBt) (defScope sBt) .none kV35 dc35 pm35 an35 cd35 ct35), sl35⟩) (c35 : PySem.W.codeIn K cd35 "_law_bent" = true) (k35 : PySem.W.keepIn K (.ref f35) = true)
    (a36 : PySem.W.nsIn K mainGlobals "law" = some (some (.ref f36))) (l36 : K.lookup f36 = some ⟨oc36, od36, .func (PySem.W.fnOf "law" "law" (defArgs sLw) (defBody sLw) (defScope sLw) .none kV36 dc36 pm36 an36 cd36 ct36), sl36⟩) (c36 : PySem.W.codeIn K cd36 "law" = true) (k36 : PySem.W.keepIn K (.ref f36) = true)
    (ga1 : PySem.W.findIn K (.ref C) "__init__" = some (some (.ref g1))) (gi1 : PySem.W.isFn K (.ref g1) = true) (gl1 : K.lookup g1 = some ⟨goc1, god1, .func (PySem.W.fnOf "__init__" "Book.__init__" (defArgs sBi) (defBody sBi) (defScope sBi) .none gkV1 gdc1 gpm1 gan1 gcd1 gct1), gsl1⟩) (gc1 : PySem.W.codeIn K gcd1 "Book.__init__" = true) (gk1 : PySem.W.keepIn K (.ref g1) = true)
    (ga2 : PySem.W.findIn K (.ref C) "steps" = some (some (.ref g2))) (gi2 : PySem.W.isFn K (.ref g2) = true) (gl2 : K.lookup g2 = some ⟨goc2, god2, .func (PySem.W.fnOf "steps" "Book.steps" (defArgs sBs) (defBody sBs) (defScope sBs) .none gkV2 gdc2 gpm2 gan2 gcd2 gct2), gsl2⟩) (gc2 : PySem.W.codeIn K gcd2 "Book.steps" = true) (gk2 : PySem.W.keepIn K (.ref g2) = true)
    (ga3 : PySem.W.findIn K (.ref C) "is_end" = some (some (.ref g3))) (gi3 : PySem.W.isFn K (.ref g3) = true) (gl3 : K.lookup g3 = some ⟨goc3, god3, .func (PySem.W.fnOf "is_end" "Book.is_end" (defArgs sBe) (defBody sBe) (defScope sBe) .none gkV3 gdc3 gpm3 gan3 gcd3 gct3), gsl3⟩) (gc3 : PySem.W.codeIn K gcd3 "Book.is_end" = true) (gk3 : PySem.W.keepIn K (.ref g3) = true)
    (ga4 : PySem.W.findIn K (.ref C) "steps_from" = some (some (.ref g4))) (gi4 : PySem.W.isFn K (.ref g4) = true) (gl4 : K.lookup g4 = some ⟨goc4, god4, .func (PySem.W.fnOf "steps_from" "Book.steps_from" (defArgs sBf) (defBody sBf) (defScope sBf) .none gkV4 gdc4 gpm4 gan4 gcd4 gct4), gsl4⟩) (gc4 : PySem.W.codeIn K gcd4 "Book.steps_from" = true) (gk4 : PySem.W.keepIn K (.ref g4) = true)
    (aC : PySem.W.nsIn K mainGlobals "Book" = some (some (.ref C))) (pg : PySem.W.plainGet K C Str.empty = true) (hd : PySem.W.hasDictIn K C = true) (po : PySem.W.plainOver K C = true) (sa : PySem.W.findIn K (.ref C) "__setattr__" = some (some (.builtin "object.__setattr__"))) (mk : PySem.W.makesIn K C = true) (kc : PySem.W.keepIn K (.ref C) = true)
    (na1 : PySem.W.findIn K (.ref C) "courses" = some none) (na2 : PySem.W.findIn K (.ref C) "by_name" = some none) (na3 : PySem.W.findIn K (.ref C) "leaving" = some none)
    {ti1 : Tok} (n1 : PySem.W.nsIn K mainGlobals "LETTERS" = some (some (.str "abcdefghijklmnopqrstuvwxyz" ti1))) {ti2 : Tok} (n2 : PySem.W.nsIn K mainGlobals "LONGEST_NAME" = some (some (.int 5 ti2))) {ti3 : Tok} (n3 : PySem.W.nsIn K mainGlobals "MOST_COURSES" = some (some (.int 8 ti3))) {ti4 : Tok} (n4 : PySem.W.nsIn K mainGlobals "MOST_STAGES" = some (some (.int 20 ti4))) {ti5 : Tok} (n5 : PySem.W.nsIn K mainGlobals "MOST_TOGETHER" = some (some (.int 60 ti5))) {ti6 : Tok} (n6 : PySem.W.nsIn K mainGlobals "MOST_DEEDS" = some (some (.int 12 ti6)))
    (z1 : PySem.W.nsIn K mainGlobals "abs" = some none) (z2 : PySem.W.nsIn K mainGlobals "all" = some none) (z3 : PySem.W.nsIn K mainGlobals "any" = some none) (z4 : PySem.W.nsIn K mainGlobals "bool" = some none) (z5 : PySem.W.nsIn K mainGlobals "dict" = some none) (z6 : PySem.W.nsIn K mainGlobals "enumerate" = some none) (z7 : PySem.W.nsIn K mainGlobals "int" = some none) (z8 : PySem.W.nsIn K mainGlobals "isinstance" = some none) (z9 : PySem.W.nsIn K mainGlobals "len" = some none) (z10 : PySem.W.nsIn K mainGlobals "list" = some none) (z11 : PySem.W.nsIn K mainGlobals "max" = some none) (z12 : PySem.W.nsIn K mainGlobals "min" = some none) (z13 : PySem.W.nsIn K mainGlobals "range" = some none) (z14 : PySem.W.nsIn K mainGlobals "reversed" = some none) (z15 : PySem.W.nsIn K mainGlobals "set" = some none) (z16 : PySem.W.nsIn K mainGlobals "sorted" = some none) (z17 : PySem.W.nsIn K mainGlobals "str" = some none) (z18 : PySem.W.nsIn K mainGlobals "sum" = some none) (z19 : PySem.W.nsIn K mainGlobals "tuple" = some none) (z20 : PySem.W.nsIn K mainGlobals "zip" = some none) :
    ∃ fd : FuncData, (∀ (s : Shared) (v : Value), BindsTo s fd ⟨[v], []⟩ [("_law_script", v)]) ∧ ∀ base : Heap, K.In base → base.Ns mainGlobals mg → FnOk l.prog w K mg base CX0 8 fa fd ["_law_script"] (spLaw K) := by
  have e := hfa.symm.trans (PySem.W.mg_of X G a36)
  cases e
  have T : Txt K mg C := ⟨PySem.W.mg_none_of X G z1, PySem.W.mg_none_of X G z2, PySem.W.mg_none_of X G z3, PySem.W.mg_none_of X G z4, PySem.W.mg_none_of X G z5, PySem.W.mg_none_of X G z6, PySem.W.mg_none_of X G z7, PySem.W.mg_none_of X G z8, PySem.W.mg_none_of X G z9, PySem.W.mg_none_of X G z10, PySem.W.mg_none_of X G z11, PySem.W.mg_none_of X G z12, PySem.W.mg_none_of X G z13, PySem.W.mg_none_of X G z14, PySem.W.mg_none_of X G z15, PySem.W.mg_none_of X G z16, PySem.W.mg_none_of X G z17, PySem.W.mg_none_of X G z18, PySem.W.mg_none_of X G z19, PySem.W.mg_none_of X G z20, ⟨ti1, PySem.W.mg_of X G n1⟩, ⟨ti2, PySem.W.mg_of X G n2⟩, ⟨ti3, PySem.W.mg_of X G n3⟩, ⟨ti4, PySem.W.mg_of X G n4⟩, ⟨ti5, PySem.W.mg_of X G n5⟩, ⟨ti6, PySem.W.mg_of X G n6⟩, ⟨pg, hd, po, sa⟩, na1, na2, na3, PySem.W.mg_of X G aC⟩
  have F1 := fun_mk (st := sPo) l1 c1 k1
  have b1 := F1.binds (ps := ["stage", "step"]) fun _ _ _ _ _ _ us hl => match us, hl with | [_, _], _ => rfl
  have HsPo : Has K mg "parts_of" sPo ["stage", "step"] f1 _ := ⟨F1, b1, PySem.W.mg_of X G a1⟩
  have F2 := fun_mk (st := sIi) l2 c2 k2
  have b2 := F2.binds (ps := ["value"]) fun _ _ _ _ _ _ us hl => match us, hl with | [_], _ => rfl
  have HsIi : Has K mg "is_integer" sIi ["value"] f2 _ := ⟨F2, b2, PySem.W.mg_of X G a2⟩
  have F3 := fun_mk (st := sIu) l3 c3 k3
  have b3 := F3.binds (ps := ["value"]) fun _ _ _ _ _ _ us hl => match us, hl with | [_], _ => rfl
  have HsIu : Has K mg "is_number" sIu ["value"] f3 _ := ⟨F3, b3, PySem.W.mg_of X G a3⟩
  have F4 := fun_mk (st := sIl) l4 c4 k4
  have b4 := F4.binds (ps := ["sign"]) fun _ _ _ _ _ _ us hl => match us, hl with | [_], _ => rfl
  have HsIl : Has K mg "is_letter" sIl ["sign"] f4 _ := ⟨F4, b4, PySem.W.mg_of X G a4⟩
  have F5 := fun_mk (st := sIn) l5 c5 k5
  have b5 := F5.binds (ps := ["value"]) fun _ _ _ _ _ _ us hl => match us, hl with | [_], _ => rfl
  have HsIn : Has K mg "is_name" sIn ["value"] f5 _ := ⟨F5, b5, PySem.W.mg_of X G a5⟩
  have F6 := fun_mk (st := sIs) l6 c6 k6
  have b6 := F6.binds (ps := ["step", "stages"]) fun _ _ _ _ _ _ us hl => match us, hl with | [_, _], _ => rfl
  have HsIs : Has K mg "is_step" sIs ["step", "stages"] f6 _ := ⟨F6, b6, PySem.W.mg_of X G a6⟩
  have F7 := fun_mk (st := sIo) l7 c7 k7
  have b7 := F7.binds (ps := ["course"]) fun _ _ _ _ _ _ us hl => match us, hl with | [_], _ => rfl
  have HsIo : Has K mg "is_course" sIo ["course"] f7 _ := ⟨F7, b7, PySem.W.mg_of X G a7⟩
  have F8 := fun_mk (st := sCc) l8 c8 k8
  have b8 := F8.binds (ps := ["courses"]) fun _ _ _ _ _ _ us hl => match us, hl with | [_], _ => rfl
  have HsCc : Has K mg "check_courses" sCc ["courses"] f8 _ := ⟨F8, b8, PySem.W.mg_of X G a8⟩
  have F9 := fun_mk (st := sCt) l9 c9 k9
  have b9 := F9.binds (ps := ["courses", "names"]) fun _ _ _ _ _ _ us hl => match us, hl with | [_, _], _ => rfl
  have HsCt : Has K mg "check_together" sCt ["courses", "names"] f9 _ := ⟨F9, b9, PySem.W.mg_of X G a9⟩
  have F10 := fun_mk (st := sFf) l10 c10 k10
  have b10 := F10.binds (ps := ["u", "v"]) fun _ _ _ _ _ _ us hl => match us, hl with | [_, _], _ => rfl
  have HsFf : Has K mg "first_fit" sFf ["u", "v"] f10 _ := ⟨F10, b10, PySem.W.mg_of X G a10⟩
  have F11 := fun_mk (st := sWi) l11 c11 k11
  have b11 := F11.binds (ps := ["u", "v"]) fun _ _ _ _ _ _ us hl => match us, hl with | [_, _], _ => rfl
  have HsWi : Has K mg "within" sWi ["u", "v"] f11 _ := ⟨F11, b11, PySem.W.mg_of X G a11⟩
  have F12 := fun_mk (st := sNd) l12 c12 k12
  have b12 := F12.binds (ps := ["dealing", "row"]) fun _ _ _ _ _ _ us hl => match us, hl with | [_, _], _ => rfl
  have HsNd : Has K mg "need_dealt" sNd ["dealing", "row"] f12 _ := ⟨F12, b12, PySem.W.mg_of X G a12⟩
  have F13 := fun_mk (st := sPa) l13 c13 k13
  have b13 := F13.binds (ps := ["dealing", "row"]) fun _ _ _ _ _ _ us hl => match us, hl with | [_, _], _ => rfl
  have HsPa : Has K mg "parts" sPa ["dealing", "row"] f13 _ := ⟨F13, b13, PySem.W.mg_of X G a13⟩
  have F14 := fun_mk (st := sWb) l14 c14 k14
  have b14 := F14.binds (ps := ["dealing", "u", "v"]) fun _ _ _ _ _ _ us hl => match us, hl with | [_, _, _], _ => rfl
  have HsWb : Has K mg "within_by" sWb ["dealing", "u", "v"] f14 _ := ⟨F14, b14, PySem.W.mg_of X G a14⟩
  have F15 := fun_mk (st := sBr) l15 c15 k15
  have b15 := F15.binds (ps := ["book", "rows", "stage", "number"]) fun _ _ _ _ _ _ us hl => match us, hl with | [_, _, _, _], _ => rfl
  have HsBr : Has K mg "brought" sBr ["book", "rows", "stage", "number"] f15 _ := ⟨F15, b15, PySem.W.mg_of X G a15⟩
  have F16 := fun_mk (st := sLk) l16 c16 k16
  have b16 := F16.binds (ps := ["book", "dealing", "rows"]) fun _ _ _ _ _ _ us hl => match us, hl with | [_, _, _], _ => rfl
  have HsLk : Has K mg "looks_by" sLk ["book", "dealing", "rows"] f16 _ := ⟨F16, b16, PySem.W.mg_of X G a16⟩
  have F17 := fun_mk (st := sBx) l17 c17 k17
  have b17 := F17.binds (ps := ["_law_script", "_law_k"]) fun _ _ _ _ _ _ us hl => match us, hl with | [_, _], _ => rfl
  have HsBx : Has K mg "_law_box" sBx ["_law_script", "_law_k"] f17 _ := ⟨F17, b17, PySem.W.mg_of X G a17⟩
  have F18 := fun_mk (st := sTk) l18 c18 k18
  have b18 := F18.binds (ps := ["_law_box_here", "_law_many"]) fun _ _ _ _ _ _ us hl => match us, hl with | [_, _], _ => rfl
  have HsTk : Has K mg "_law_take" sTk ["_law_box_here", "_law_many"] f18 _ := ⟨F18, b18, PySem.W.mg_of X G a18⟩
  have F19 := fun_mk (st := sPk) l19 c19 k19
  have b19 := F19.binds (ps := ["_law_box_here", "_law_some"]) fun _ _ _ _ _ _ us hl => match us, hl with | [_, _], _ => rfl
  have HsPk : Has K mg "_law_pick" sPk ["_law_box_here", "_law_some"] f19 _ := ⟨F19, b19, PySem.W.mg_of X G a19⟩
  have F20 := fun_mk (st := sNm) l20 c20 k20
  have b20 := F20.binds (ps := ["_law_box_here", "_law_many"]) fun _ _ _ _ _ _ us hl => match us, hl with | [_, _], _ => rfl
  have HsNm : Has K mg "_law_names" sNm ["_law_box_here", "_law_many"] f20 _ := ⟨F20, b20, PySem.W.mg_of X G a20⟩
  have F21 := fun_mk (st := sCo) l21 c21 k21
  have b21 := F21.binds (ps := ["_law_name", "_law_text", "_law_deeds", "_law_calls"]) fun _ _ _ _ _ _ us hl => match us, hl with | [_, _, _, _], _ => rfl
  have HsCo : Has K mg "_law_course" sCo ["_law_name", "_law_text", "_law_deeds", "_law_calls"] f21 _ := ⟨F21, b21, PySem.W.mg_of X G a21⟩
  have F22 := fun_mk (st := sBn) l22 c22 k22
  have b22 := F22.binds (ps := ["_law_courses"]) fun _ _ _ _ _ _ us hl => match us, hl with | [_], _ => rfl
  have HsBn : Has K mg "_law_by_name" sBn ["_law_courses"] f22 _ := ⟨F22, b22, PySem.W.mg_of X G a22⟩
  have F23 := fun_mk (st := sNg) l23 c23 k23
  have b23 := F23.binds (ps := ["_law_stage", "_law_step"]) fun _ _ _ _ _ _ us hl => match us, hl with | [_, _], _ => rfl
  have HsNg : Has K mg "_law_named" sNg ["_law_stage", "_law_step"] f23 _ := ⟨F23, b23, PySem.W.mg_of X G a23⟩
  have F24 := fun_mk (st := sOf) l24 c24 k24
  have b24 := F24.binds (ps := ["_law_courses", "_law_stage"]) fun _ _ _ _ _ _ us hl => match us, hl with | [_, _], _ => rfl
  have HsOf : Has K mg "_law_off" sOf ["_law_courses", "_law_stage"] f24 _ := ⟨F24, b24, PySem.W.mg_of X G a24⟩
  have F25 := fun_mk (st := sUs) l25 c25 k25
  have b25 := F25.binds (ps := ["_law_courses"]) fun _ _ _ _ _ _ us hl => match us, hl with | [_], _ => rfl
  have HsUs : Has K mg "_law_used" sUs ["_law_courses"] f25 _ := ⟨F25, b25, PySem.W.mg_of X G a25⟩
  have F26 := fun_mk (st := sLi) l26 c26 k26
  have b26 := F26.binds (ps := ["_law_u", "_law_v"]) fun _ _ _ _ _ _ us hl => match us, hl with | [_, _], _ => rfl
  have HsLi : Has K mg "_law_in" sLi ["_law_u", "_law_v"] f26 _ := ⟨F26, b26, PySem.W.mg_of X G a26⟩
  have F27 := fun_mk (st := sPt) l27 c27 k27
  have b27 := F27.binds (ps := ["_law_deal", "_law_desk", "_law_row"]) fun _ _ _ _ _ _ us hl => match us, hl with | [_, _, _], _ => rfl
  have HsPt : Has K mg "_law_part" sPt ["_law_deal", "_law_desk", "_law_row"] f27 _ := ⟨F27, b27, PySem.W.mg_of X G a27⟩
  have F28 := fun_mk (st := sBy) l28 c28 k28
  have b28 := F28.binds (ps := ["_law_deal", "_law_u", "_law_v"]) fun _ _ _ _ _ _ us hl => match us, hl with | [_, _, _], _ => rfl
  have HsBy : Has K mg "_law_by" sBy ["_law_deal", "_law_u", "_law_v"] f28 _ := ⟨F28, b28, PySem.W.mg_of X G a28⟩
  have F29 := fun_mk (st := sMe) l29 c29 k29
  have b29 := F29.binds (ps := ["_law_kind"]) fun _ _ _ _ _ _ us hl => match us, hl with | [_], _ => rfl
  have HsMe : Has K mg "_law_menu" sMe ["_law_kind"] f29 _ := ⟨F29, b29, PySem.W.mg_of X G a29⟩
  have F30 := fun_mk (st := sJo) l30 c30 k30
  have b30 := F30.binds (ps := ["_law_rows", "_law_stage", "_law_step"]) fun _ _ _ _ _ _ us hl => match us, hl with | [_, _, _], _ => rfl
  have HsJo : Has K mg "_law_joined" sJo ["_law_rows", "_law_stage", "_law_step"] f30 _ := ⟨F30, b30, PySem.W.mg_of X G a30⟩
  have F31 := fun_mk (st := sSh) l31 c31 k31
  have b31 := F31.binds (ps := ["_law_courses"]) fun _ _ _ _ _ _ us hl => match us, hl with | [_], _ => rfl
  have HsSh : Has K mg "_law_shortest" sSh ["_law_courses"] f31 _ := ⟨F31, b31, PySem.W.mg_of X G a31⟩
  have F32 := fun_mk (st := sRe) l32 c32 k32
  have b32 := F32.binds (ps := ["_law_courses", "_law_rows"]) fun _ _ _ _ _ _ us hl => match us, hl with | [_, _], _ => rfl
  have HsRe : Has K mg "_law_reached" sRe ["_law_courses", "_law_rows"] f32 _ := ⟨F32, b32, PySem.W.mg_of X G a32⟩
  have F33 := fun_mk (st := sLo) l33 c33 k33
  have b33 := F33.binds (ps := ["_law_courses", "_law_deal", "_law_rows"]) fun _ _ _ _ _ _ us hl => match us, hl with | [_, _, _], _ => rfl
  have HsLo : Has K mg "_law_looks" sLo ["_law_courses", "_law_deal", "_law_rows"] f33 _ := ⟨F33, b33, PySem.W.mg_of X G a33⟩
  have F34 := fun_mk (st := sMx) l34 c34 k34
  have b34 := F34.binds (ps := ["_law_box_here", "_law_some"]) fun _ _ _ _ _ _ us hl => match us, hl with | [_, _], _ => rfl
  have HsMx : Has K mg "_law_mixed" sMx ["_law_box_here", "_law_some"] f34 _ := ⟨F34, b34, PySem.W.mg_of X G a34⟩
  have F35 := fun_mk (st := sBt) l35 c35 k35
  have b35 := F35.binds (ps := ["_law_box_here", "_law_row", "_law_deeds"]) fun _ _ _ _ _ _ us hl => match us, hl with | [_, _, _], _ => rfl
  have HsBt : Has K mg "_law_bent" sBt ["_law_box_here", "_law_row", "_law_deeds"] f35 _ := ⟨F35, b35, PySem.W.mg_of X G a35⟩
  have gF1 := fun_mk (st := sBi) gl1 gc1 gk1
  have gb1 := gF1.binds (ps := ["self", "courses"]) fun _ _ _ _ _ _ us hl => match us, hl with | [_, _], _ => rfl
  have MkB : Mk K C g1 := ⟨mk, ga1, gi1, kc⟩
  have gF2 := fun_mk (st := sBs) gl2 gc2 gk2
  have gb2 := gF2.binds (ps := ["self", "course"]) fun _ _ _ _ _ _ us hl => match us, hl with | [_, _], _ => rfl
  have MsBs : HasM K C "steps" "Book.steps" sBs ["self", "course"] g2 _ := ⟨gF2, gb2, ⟨ga2, gi2, gk2⟩⟩
  have gF3 := fun_mk (st := sBe) gl3 gc3 gk3
  have gb3 := gF3.binds (ps := ["self", "stage"]) fun _ _ _ _ _ _ us hl => match us, hl with | [_, _], _ => rfl
  have MsBe : HasM K C "is_end" "Book.is_end" sBe ["self", "stage"] g3 _ := ⟨gF3, gb3, ⟨ga3, gi3, gk3⟩⟩
  have gF4 := fun_mk (st := sBf) gl4 gc4 gk4
  have gb4 := gF4.binds (ps := ["self", "stage"]) fun _ _ _ _ _ _ us hl => match us, hl with | [_, _], _ => rfl
  have MsBf : HasM K C "steps_from" "Book.steps_from" sBf ["self", "stage"] g4 _ := ⟨gF4, gb4, ⟨ga4, gi4, gk4⟩⟩
  refine ⟨PySem.W.fnOf "law" "law" (defArgs sLw) (defBody sLw) (defScope sLw) .none kV36 dc36 pm36 an36 cd36 ct36, fun s v => .of_eq rfl, fun base _ _ => ?_⟩
  have Gbn := ok_bn (P := l.prog) (w := w) (base := base) T HsBn.F
  have Gof := ok_of (P := l.prog) (w := w) (base := base) T HsOf.F HsBn
  have Gjo := ok_jo (P := l.prog) (w := w) (base := base) T HsJo.F HsNg
  have Gsh := ok_sh (P := l.prog) (w := w) (base := base) T HsSh.F HsJo Gjo
  have Gre := ok_re (P := l.prog) (w := w) (base := base) T HsRe.F HsOf HsJo HsNg Gof Gjo
  have Gbr := ok_br (P := l.prog) (w := w) (base := base) T HsBr.F HsPo MsBs
  have Gwb := ok_wb (P := l.prog) (w := w) (base := base) T HsWb.F HsPa HsWi HsNd HsFf
  have Glk := ok_lb (P := l.prog) (w := w) (base := base) T HsLk.F HsBr HsWb MsBe MsBf Gbr Gwb
  have Gby := ok_by (P := l.prog) (w := w) (base := base) T HsBy.F HsLi HsPt
  have Glo := ok_lo (P := l.prog) (w := w) (base := base) T HsLo.F HsBn HsOf HsJo HsBy Gbn Gof Gjo Gby
  have Gio := ok_io (P := l.prog) (w := w) (base := base) T HsIo.F HsIu HsIn HsIs HsIi HsIl
  have Gcc := ok_cc (P := l.prog) (w := w) (base := base) T HsCc.F HsIo HsCt Gio
  have Gbi := ok_bi (P := l.prog) (w := w) (base := base) T gF1 HsCc Gcc
  have KsLk : KBn K _ ["book", "dealing", "rows"] 0 ["rows", "book", "dealing"] (fun _ ws => ws.drop 1 ++ ws.take 1) (fun _ zs => zs.drop 1 ++ zs.take 1) := kbn_rot HsLk.F fun _ _ _ _ _ _ us hl => match us, hl with | [_, _, _], _ => rfl
  exact ok_lw T (fun_mk (st := sLw) l36 c36 k36) HsBx HsTk HsMe HsNm HsCo HsSh HsUs HsPk HsRe HsMx HsLk KsLk HsLo HsWb HsBt MkB gb1 Gbi Gsh Gre Glk Glo Gwb
theorem walk {l : PySem.W.OpenLaw} {q : Program} {loose : List Str} {XP : (Str → Option Value) → Heap → Prop} {YP : World → Heap → Prop} {d : DefRec} {K : Params → PySem.W.Frag} (hn : l.most = some 63) (hdf : d.params.defaults = [])
    (hY : ∀ (w : World) (h : Heap), YP w h → (K w.params).In h)
    (F : ∀ (w : World) (mg : Str → Option Value) (fa : Addr) (h : Heap), (K w.params).In h → h.Ns mainGlobals mg → mg d.name = some (.ref fa) →
      ∃ fd : FuncData, (∀ (s : Shared) (u : Value), BindsTo s fd ⟨[u], []⟩ [("_law_script", u)]) ∧ ∀ base : Heap, (K w.params).In base → base.Ns mainGlobals mg → FnOk l.prog w (K w.params) mg base CX0 8 fa fd ["_law_script"] (spLaw (K w.params))) :
    PySem.W.WalkO q loose XP YP l.row.toRowW d [] (fun f vs => PySem.call f vs) :=
  L2.walk_of (n := 63) (k := 8) (x := "_law_script") (CX := fun _ => CX0) (sp := fun w => spLaw (K w.params)) hn (by decide) hdf ⟨rfl, by decide, by decide⟩ hY F (fun _ _ a ns hl _ hS => ⟨a, ns, rfl, hS, hl, fun _ => rfl⟩) fun _ _ _ _ _ z => z
end K09

open PySem PySem.W PyProof.Rows in
set_option maxRecDepth 100000 in
set_option maxHeartbeats 0 in
theorem PySem.Challenge.cw_stillowed_k34_looks_by_a_dealing_holds : PySem.Challenge.rw_stillowed_k34_looks_by_a_dealing.Holds := by
  w_on; o_law; k_head; (case hw => w_witness2)
  k_fill
  refine K09.walk (l := PySem.Challenge.rw_stillowed_k34_looks_by_a_dealing) rfl rfl (fun w h Y => PySem.W.kIn_of Y) ?F
  case F =>
    intro w mg fa h KX G hmg
    refine' K09.tops KX G hmg ?a1 ?l1 ?c1 ?k1 ?a2 ?l2 ?c2 ?k2 ?a3 ?l3 ?c3 ?k3 ?a4 ?l4 ?c4 ?k4 ?a5 ?l5 ?c5 ?k5 ?a6 ?l6 ?c6 ?k6 ?a7 ?l7 ?c7 ?k7 ?a8 ?l8 ?c8 ?k8 ?a9 ?l9 ?c9 ?k9 ?a10 ?l10 ?c10 ?k10 ?a11 ?l11 ?c11 ?k11 ?a12 ?l12 ?c12 ?k12 ?a13 ?l13 ?c13 ?k13 ?a14 ?l14 ?c14 ?k14 ?a15 ?l15 ?c15 ?k15 ?a16 ?l16 ?c16 ?k16 ?a17 ?l17 ?c17 ?k17 ?a18 ?l18 ?c18 ?k18 ?a19 ?l19 ?c19 ?k19 ?a20 ?l20 ?c20 ?k20 ?a21 ?l21 ?c21 ?k21 ?a22 ?l22 ?c22 ?k22 ?a23 ?l23 ?c23 ?k23 ?a24 ?l24 ?c24 ?k24 ?a25 ?l25 ?c25 ?k25 ?a26 ?l26 ?c26 ?k26 ?a27 ?l27 ?c27 ?k27 ?a28 ?l28 ?c28 ?k28 ?a29 ?l29 ?c29 ?k29 ?a30 ?l30 ?c30 ?k30 ?a31 ?l31 ?c31 ?k31 ?a32 ?l32 ?c32 ?k32 ?a33 ?l33 ?c33 ?k33 ?a34 ?l34 ?c34 ?k34 ?a35 ?l35 ?c35 ?k35 ?a36 ?l36 ?c36 ?k36 ?ga1 ?gi1 ?gl1 ?gc1 ?gk1 ?ga2 ?gi2 ?gl2 ?gc2 ?gk2 ?ga3 ?gi3 ?gl3 ?gc3 ?gk3 ?ga4 ?gi4 ?gl4 ?gc4 ?gk4 ?aC ?pg ?hd ?po ?sa ?mk ?kc ?na1 ?na2 ?na3 ?n1 ?n2 ?n3 ?n4 ?n5 ?n6 ?z1 ?z2 ?z3 ?z4 ?z5 ?z6 ?z7 ?z8 ?z9 ?z10 ?z11 ?z12 ?z13 ?z14 ?z15 ?z16 ?z17 ?z18 ?z19 ?z20
    (case aC => k_is)
    (case a1 => k_is)
    (case l1 => k_is)
    (case c1 => k_is)
    (case k1 => k_is)
    (case a2 => k_is)
    (case l2 => k_is)
    (case c2 => k_is)
    (case k2 => k_is)
    (case a3 => k_is)
    (case l3 => k_is)
    (case c3 => k_is)
    (case k3 => k_is)
    (case a4 => k_is)
    (case l4 => k_is)
    (case c4 => k_is)
    (case k4 => k_is)
    (case a5 => k_is)
    (case l5 => k_is)
    (case c5 => k_is)
    (case k5 => k_is)
    (case a6 => k_is)
    (case l6 => k_is)
    (case c6 => k_is)
    (case k6 => k_is)
    (case a7 => k_is)
    (case l7 => k_is)
    (case c7 => k_is)
    (case k7 => k_is)
    (case a8 => k_is)
    (case l8 => k_is)
    (case c8 => k_is)
    (case k8 => k_is)
    (case a9 => k_is)
    (case l9 => k_is)
    (case c9 => k_is)
    (case k9 => k_is)
    (case a10 => k_is)
    (case l10 => k_is)
    (case c10 => k_is)
    (case k10 => k_is)
    (case a11 => k_is)
    (case l11 => k_is)
    (case c11 => k_is)
    (case k11 => k_is)
    (case a12 => k_is)
    (case l12 => k_is)
    (case c12 => k_is)
    (case k12 => k_is)
    (case a13 => k_is)
    (case l13 => k_is)
    (case c13 => k_is)
    (case k13 => k_is)
    (case a14 => k_is)
    (case l14 => k_is)
    (case c14 => k_is)
    (case k14 => k_is)
    (case a15 => k_is)
    (case l15 => k_is)
    (case c15 => k_is)
    (case k15 => k_is)
    (case a16 => k_is)
    (case l16 => k_is)
    (case c16 => k_is)
    (case k16 => k_is)
    (case a17 => k_is)
    (case l17 => k_is)
    (case c17 => k_is)
    (case k17 => k_is)
    (case a18 => k_is)
    (case l18 => k_is)
    (case c18 => k_is)
    (case k18 => k_is)
    (case a19 => k_is)
    (case l19 => k_is)
    (case c19 => k_is)
    (case k19 => k_is)
    (case a20 => k_is)
    (case l20 => k_is)
    (case c20 => k_is)
    (case k20 => k_is)
    (case a21 => k_is)
    (case l21 => k_is)
    (case c21 => k_is)
    (case k21 => k_is)
    (case a22 => k_is)
    (case l22 => k_is)
    (case c22 => k_is)
    (case k22 => k_is)
    (case a23 => k_is)
    (case l23 => k_is)
    (case c23 => k_is)
    (case k23 => k_is)
    (case a24 => k_is)
    (case l24 => k_is)
    (case c24 => k_is)
    (case k24 => k_is)
    (case a25 => k_is)
    (case l25 => k_is)
    (case c25 => k_is)
    (case k25 => k_is)
    (case a26 => k_is)
    (case l26 => k_is)
    (case c26 => k_is)
    (case k26 => k_is)
    (case a27 => k_is)
    (case l27 => k_is)
    (case c27 => k_is)
    (case k27 => k_is)
    (case a28 => k_is)
    (case l28 => k_is)
    (case c28 => k_is)
    (case k28 => k_is)
    (case a29 => k_is)
    (case l29 => k_is)
    (case c29 => k_is)
    (case k29 => k_is)
    (case a30 => k_is)
    (case l30 => k_is)
    (case c30 => k_is)
    (case k30 => k_is)
    (case a31 => k_is)
    (case l31 => k_is)
    (case c31 => k_is)
    (case k31 => k_is)
    (case a32 => k_is)
    (case l32 => k_is)
    (case c32 => k_is)
    (case k32 => k_is)
    (case a33 => k_is)
    (case l33 => k_is)
    (case c33 => k_is)
    (case k33 => k_is)
    (case a34 => k_is)
    (case l34 => k_is)
    (case c34 => k_is)
    (case k34 => k_is)
    (case a35 => k_is)
    (case l35 => k_is)
    (case c35 => k_is)
    (case k35 => k_is)
    (case a36 => k_is)
    (case l36 => k_is)
    (case c36 => k_is)
    (case k36 => k_is)
    (case ga1 => k_is)
    (case gi1 => k_is)
    (case gl1 => k_is)
    (case gc1 => k_is)
    (case gk1 => k_is)
    (case ga2 => k_is)
    (case gi2 => k_is)
    (case gl2 => k_is)
    (case gc2 => k_is)
    (case gk2 => k_is)
    (case ga3 => k_is)
    (case gi3 => k_is)
    (case gl3 => k_is)
    (case gc3 => k_is)
    (case gk3 => k_is)
    (case ga4 => k_is)
    (case gi4 => k_is)
    (case gl4 => k_is)
    (case gc4 => k_is)
    (case gk4 => k_is)
    (case pg => k_is)
    (case hd => k_is)
    (case po => k_is)
    (case sa => k_is)
    (case mk => k_is)
    (case kc => k_is)
    (case na1 => k_is)
    (case na2 => k_is)
    (case na3 => k_is)
    (case n1 => k_is)
    (case n2 => k_is)
    (case n3 => k_is)
    (case n4 => k_is)
    (case n5 => k_is)
    (case n6 => k_is)
    (case z1 => k_is)
    (case z2 => k_is)
    (case z3 => k_is)
    (case z4 => k_is)
    (case z5 => k_is)
    (case z6 => k_is)
    (case z7 => k_is)
    (case z8 => k_is)
    (case z9 => k_is)
    (case z10 => k_is)
    (case z11 => k_is)
    (case z12 => k_is)
    (case z13 => k_is)
    (case z14 => k_is)
    (case z15 => k_is)
    (case z16 => k_is)
    (case z17 => k_is)
    (case z18 => k_is)
    (case z19 => k_is)
    (case z20 => k_is)
